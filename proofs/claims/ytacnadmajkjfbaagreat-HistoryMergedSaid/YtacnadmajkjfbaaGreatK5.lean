/- What these functions answer, part 5. Texts of the folder wip, laid in few files with shorter names by a program (wip/tools/pack.py); nothing is assumed. -/
import Derived.Test.YtacnadmajkjfbaaGreatK4
import Derived.KernelRfl
noncomputable section
set_option linter.unusedVariables false
set_option linter.unusedSimpArgs false
set_option linter.unusedSectionVars false
set_option linter.defProp false
namespace Go.Pm
open Go Go.Ab
def ACB(k:Nat):(256:Int)^k=((256^k:Nat):Int):=by grind
def yw(k:Nat):(0:Int)<256^k:=by have:0<256^k:=Nat.pow_pos (by decide);grind
def ABf(b k:Nat):(b:Int)*256^k=((b*256^k:Nat):Int):=by grind
def Gf(n:Int):Nat->Bf
 |0=>[]
 |k+1=>UInt8.ofNat (n%256).toNat::Gf (n/256) k
def hZ:Bf->Nat
 |[]=>0
 |b::r=>b.toNat+256*hZ r
def B7: ∀(k:Nat) (n:Int),(Gf n k).length=k
 |0,n=>rfl
 |k+1,n=>by rw[Gf,BC,B7 k]
def mH: ∀l:Bf,hZ l<256^l.length
 |[]=>by simp[hZ]
 |b::r=>by have a:=mH r;have c:=b.toNat_lt;rw[hZ,BC,Nat.pow_succ];omega
def tz: ∀l:Bf,Gf (hZ l:Int) l.length=l
 |[]=>rfl
 |b::r=>by
  have d:=b.toNat_lt;have a:((hZ (b::r):Nat):Int)/256=(hZ r:Int):=by rw[hZ];omega
  have c:(((hZ (b::r):Nat):Int)%256).toNat=b.toNat:=by rw[hZ];omega
  rw[BC,Gf,a,c,tz r];simp
def nc: ∀(k:Nat) (n m:Int),n%256^k=m%256^k->Gf n k=Gf m k
 |0,_,_,_=>rfl
 |k+1,n,m,h=>by
  have e:(256:Int)^(k+1)=256^k*256:=Int.pow_succ ..;have b:n%256=m%256:=by have a:n%256^(k+1)%256=n%256:=Int.emod_emod_of_dvd n ⟨256^k,by rw[e,Int.mul_comm]⟩;simp_all
  have c:n/256%256^k=m/256%256^k:=by
   have g: ∀x:Int,x/256%256^k=x%256^(k+1)/256:=λx=>by have d:=dw (x/256) (256^k);have f:=dw x (256*256^k);have i:x/(256*256^k)=x/256/256^k:=(iZ (by decide)).symm;grind
   grind
  rw[Gf,Gf,b,nc k _ _ c]
def qU: ∀(k:Nat) (n:Int),Gf n (k+1)=Gf n k++[UInt8.ofNat (n/256^k%256).toNat]
 |0,n=>by simp[Gf]
 |k+1,n=>by
  rw[Gf,qU k (n/256),Gf];have:n/256/256^k=n/256^(k+1):=by rw[Int.pow_succ,Int.mul_comm,iZ (by decide)]
  grind
def oz: ∀(k:Nat) (n:Int),((hZ (Gf n k):Nat):Int)=n%256^k
 |0,n=>by simp[Gf,hZ]
 |k+1,n=>by
  rw[Gf,hZ];have d:(UInt8.ofNat (n%256).toNat).toNat=(n%256).toNat:=by rw[VS];omega
  have e:=oz k (n/256);have a:=dw (n/256) (256^k);have b:=dw n (256*256^k);have c:n/(256*256^k)=n/256/256^k:=(iZ (by decide)).symm;grind
def mI: ∀(l:Bf) (b:UInt8),hZ (l++[b])=hZ l+b.toNat*256^l.length
 |[],b=>by simp[hZ]
 |a::r,b=>by rw[Dg,hZ,mI r b,hZ,BC,Nat.pow_succ,Nat.mul_add];grind
def bo(k:Nat)(n:Int):Prop:=(k<=7->0<=n/\n<256^k)/\ -9223372036854775808<=n/\n<=9223372036854775807
def tu{k:Nat}(f:k<=8){n m:Int}(hn:bo k n)(e:bo k m)(h:Gf n k=Gf m k):n=m:=by
 have c:=oz k n;rw[h,oz k m]at c;by_cases d:k<=7
 ·have a:=hn.1 d;have b:=e.1 d;rw[Int.emod_eq_of_lt a.1 a.2,Int.emod_eq_of_lt b.1 b.2]at c;grind
 ·have:k=8:=by omega
  have a:=hn.2;have b:=e.2;grind
def rd(l:Bf):Int:=wi (hZ l:Int)
def ABg{k:Nat}(h:k<=7):(256:Int)^k<=72057594037927936:=by
 have:k=0\/k=1\/k=2\/k=3\/k=4\/k=5\/k=6\/k=7:=by omega
 grind
def sY{l:Bf}(h:l.length<=8):bo l.length (rd l):=by have b:=mH l;have d:rd l=((hZ l:Int)+9223372036854775808)%18446744073709551616-9223372036854775808:=xj _;refine⟨λa=>?_,by omega⟩;have c:=ABg a;grind
def oy{l:Bf}(h:l.length<=8):Gf (rd l) l.length=l:=by
 rw[show Gf (rd l) l.length=Gf (hZ l:Int) l.length from ?_,tz];apply nc;by_cases a:l.length<=7
 ·have c:=ABg a;have b:(hZ l:Int)<256^l.length:=by rw[ACB];have:=mH l;omega
  have:rd l=(hZ l:Int):=by unfold rd;exact AY (by omega)
  rw[this]
 ·have:l.length=8:=by omega
  rw[this,show(256:Int)^8=18446744073709551616 by decide];unfold rd;rw[xj];omega
def jj{k:Nat}{n:Int}(a:k<=8)(h:bo k n):rd (Gf n k)=n:=by
 have b:=B7 k n;refine tu (k:=k) a ?_ h ?_
 ·have:=sY (l:=Gf n k) (by omega);grind
 ·have:=oy (l:=Gf n k) (by omega);grind
def xE(k:Nat):(2:Int)^(8*k)=256^k:=by rw[Int.pow_mul];rfl
def xG{n:Int}{i:Int}(c:0<=i)(d:i<8):GA ([IntKind.wrap .u8 (Int.fdiv (IntKind.wrap .u64 n) (2^(min (Int.toNat (IntKind.wrap .u64 (wi (8*i)))) 64)))]:List Int)=[UInt8.ofNat (n/256^i.toNat%256).toNat]:=by
 have a:wi (8*i)=8*i:=AY (by omega);have b:IntKind.wrap .u64 (8*i)=8*i:=by rw[TD];omega
 rw[a,b,show min (8*i).toNat 64=8*i.toNat by omega,xE];have e:=yw i.toNat
 rw[YQ _ (by omega),TD,zb];have:n%18446744073709551616/256^i.toNat%256=n/256^i.toNat%256:=by
  have:i.toNat=0\/i.toNat=1\/i.toNat=2\/i.toNat=3\/i.toNat=4\/i.toNat=5\/i.toNat=6\/i.toNat=7:=by omega
  rcases this with h|h|h|h|h|h|h|h<;>rw[h]
  ·rw[show(256:Int)^0=1 by decide];omega
  ·rw[show(256:Int)^1=256 by decide];omega
  ·rw[show(256:Int)^2=65536 by decide];omega
  ·rw[show(256:Int)^3=16777216 by decide];omega
  ·rw[show(256:Int)^4=4294967296 by decide];omega
  ·rw[show(256:Int)^5=1099511627776 by decide];omega
  ·rw[show(256:Int)^6=281474976710656 by decide];omega
  ·rw[show(256:Int)^7=72057594037927936 by decide];omega
 rw[this];rfl
def Ns{s:Bf}{n:Int}{k:Int}(h:s.length<=1099511627776)(j:1<=k)(l:k<=8):Ak (s,(n,k))=some (s++Gf n k.toNat):=by
 have key:A2 (Ae (FI (s,(n,k))) (s,0)) λr=>r=s++Gf n k.toNat:=by refine AM (λ(t:Bf×Int)=>0<=t.2/\t.2<=k/\t.1=s++Gf n t.2.toNat) (λt=>(k-t.2).toNat) ⟨Ah _,by dsimp only;omega,by simp[Gf]⟩ ?_;rintro⟨m,a⟩ ⟨b,i,c⟩;dsimp only at b i c;subst c;unfold FI;dsimp only;refine AC (λd=>?_) (λd=>AA (by rw[show a=k by omega]));refine AC (λf=>absurd f (by have:=iL (wi (8*a));omega)) (λ_=>?_);rw[xG b (by omega)];refine AB (CE (by rw[Ad,B7];simp;omega)) λv g=>AA ?_;have e:wi (a+1)=a+1:=AY (by omega);rw[e];refine⟨⟨by omega,by omega,?_⟩,by omega⟩;rw[g.1,show(a+1).toNat=a.toNat+1 by omega,qU,Ax]
 obtain⟨r,hr,rfl⟩:=key;unfold Ak;grind
def qz{a t:Bf}{i:Int}(c:0<=i)(d:i<t.length)(e:(a.length:Int)<=2199023255552)(f:(t.length:Int)<=2199023255552): ∃b:UInt8,six (a++t) (wi ((a.length:Int)+i))=some (b.toNat:Int)/\t.take (i+1).toNat=t.take i.toNat++[b]:=by
 obtain⟨k,rfl⟩:=Er c;refine⟨t[k],?_,?_⟩
 ·rw[AY (by omega)];unfold six;grind
 ·simp_all
def AAk{a b k:Nat}(h:a<256^k)(i:b<256)(j:k<8):BitVec.toNat (BitVec.ofInt 64 (a:Int)|||BitVec.ofInt 64 ((b:Int)*256^k))=a+b*256^k:=by
 have e:(256:Nat)^k=2^(8*k):=by rw[Nat.pow_mul]
 have g:a+b*256^k<256^(k+1):=by
  have:b*256^k+256^k<=256*256^k:=by rw[<-VN];exact PJ _ (by omega)
  omega
 have f:(256:Nat)^(k+1)<=2^64:=by rw[show(2:Nat)^64=256^8 by decide];exact VM (by decide) (by omega)
 have d:b*256^k<2^64:=by omega
 have c:a<2^64:=by omega
 rw[ABf];rw[BitVec.toNat_or,TL,TL,Oe,Oe,PI c,PI d];rw[Nat.or_comm,e,Nat.mul_comm,<-Nat.two_pow_add_eq_or_of_lt (by rw[<-e];exact h)];omega
def tc{a:Nat}{b:UInt8}{i:Int}(l:0<=i)(m:i<8)(f:a<256^i.toNat)(j:Int)(h:j=8*i):IntKind.wrap .u64 (((BitVec.toNat ((BitVec.ofInt 64 (a:Int))|||(BitVec.ofInt 64 (IntKind.wrap .u64 ((IntKind.wrap .u64 (b.toNat:Int))*(2^(min (Int.toNat j) 64))))))):Nat):Int)=((a+b.toNat*256^i.toNat:Nat):Int):=by
 have g:=b.toNat_lt;have e:(256:Nat)^(i.toNat+1)<=2^64:=by rw[show(2:Nat)^64=256^8 by decide];exact VM (by decide) (by omega)
 have k:a+b.toNat*256^i.toNat<256^(i.toNat+1):=by
  have:b.toNat*256^i.toNat+256^i.toNat<=256*256^i.toNat:=by rw[<-VN];exact PJ _ (by omega)
  omega
 have c:IntKind.wrap .u64 (b.toNat:Int)=b.toNat:=by rw[TD];omega
 rw[h,c,show min (8*i).toNat 64=8*i.toNat by omega,xE];have d:IntKind.wrap .u64 ((b.toNat:Int)*256^i.toNat)=(b.toNat:Int)*256^i.toNat:=by rw[TD,ABf];omega
 rw[d,AAk f g (by omega),TD];omega
def iN{a t:Bf}{k:Int}(h:(a.length:Int)+t.length<=2199023255552)(v:1<=k)(w:k<=8):Au (a++t,((a.length:Int),k))=if k<=t.length then some (rd (t.take k.toNat),0)else some (0,5):=by
 unfold Au;dsimp only;have d:len (a++t)=(a.length:Int)+t.length:=by unfold len;rw[List.length_append];omega
 rw[decide_eq_false (by omega),cond_false,decide_eq_false (by omega),cond_false,decide_eq_false (by omega),cond_false,decide_eq_false (by omega),cond_false];have q:wi (len (a++t)-(a.length:Int))=t.length:=by rw[d,AY (by omega)];omega
 by_cases g:k<=t.length
 ·rw[decide_eq_false (by omega),cond_false,if_pos g];have key:A2 (Ae (GU (a++t,((a.length:Int),k))) (0,0)) λr=>r=(hZ (t.take k.toNat):Int):=by
   refine AM (λ(s:Int×Int)=>0<=s.2/\s.2<=k/\s.1=(hZ (t.take s.2.toNat):Int)) (λs=>(k-s.2).toNat) ⟨Ah _,by dsimp only;omega,by simp[hZ]⟩ ?_;rintro⟨x,c⟩ ⟨f,u,l⟩;dsimp only at f u l;subst l;unfold GU;dsimp only;refine AC (λo=>?_) (λo=>AA (by rw[show c=k by omega]));obtain⟨b,q1,q2⟩:=qz (a:=a) (t:=t) (i:=c) f (by omega) (by omega) (by omega);rw[q1,AJ];refine AC (λp=>absurd p (by have:=iL (wi (8*c));omega)) (λ_=>AA ?_);have e:wi (c+1)=c+1:=AY (by omega);have m:wi (8*c)=8*c:=AY (by omega);have n:IntKind.wrap .u64 (8*c)=8*c:=by rw[TD];omega
   have j:(t.take c.toNat).length=c.toNat:=by rw[Cn];omega
   dsimp only;rw[e,tc f (by omega) (by have:=mH (t.take c.toNat);rwa [j]at this) _ (by rw[m,n])];refine⟨⟨by omega,by omega,?_⟩,by omega⟩;rw[q2,mI,j]
  obtain⟨r,hr,rfl⟩:=key;rw[hr];rfl
 ·rw[decide_eq_true (by omega),cond_true,if_neg g]
def bZ{a t:Bf}{k:Int}(h:(a.length:Int)+t.length<=2199023255552)(u:1<=k)(v:k<=8):CT (a++t,((a.length:Int),k))=if k<=t.length then some (rd (t.take k.toNat),0)else some (0,5):=by
 unfold CT;dsimp only;have d:len (a++t)=(a.length:Int)+t.length:=by grind
 rw[decide_eq_false (by omega),cond_false,decide_eq_false (by omega),cond_false,decide_eq_false (by omega),cond_false,decide_eq_false (by omega),cond_false];have p:wi (len (a++t)-(a.length:Int))=t.length:=by rw[d,AY (by omega)];omega
 by_cases o:k<=t.length
 ·rw[decide_eq_false (by omega),cond_false,if_pos o];have key:A2 (Ae (SG (a++t,((a.length:Int),k))) (0,0)) λr=>r=(hZ (t.take k.toNat):Int):=by
   refine AM (λ(s:Int×Int)=>0<=s.2/\s.2<=k/\s.1=(hZ (t.take s.2.toNat):Int)) (λs=>(k-s.2).toNat) ⟨Ah _,by dsimp only;omega,by simp[hZ]⟩ ?_;rintro⟨w,c⟩ ⟨f,q,j⟩;dsimp only at f q j;subst j;unfold SG;dsimp only;refine AC (λm=>?_) (λm=>AA (by rw[show c=k by omega]));obtain⟨b,q1,q2⟩:=qz (a:=a) (t:=t) (i:=c) f (by omega) (by omega) (by omega);have l:wi (8*c)=8*c:=AY (by omega);rw[q1,AJ];refine AC (λn=>absurd n (by omega)) (λ_=>AA ?_);have e:wi (c+1)=c+1:=AY (by omega);have g:(t.take c.toNat).length=c.toNat:=by grind
   rw[e,tc f (by omega) (by have:=mH (t.take c.toNat);rwa [g]at this) _ l];refine⟨⟨by omega,by omega,?_⟩,by omega⟩;rw[q2,mI,g]
  obtain⟨r,hr,rfl⟩:=key;rw[hr];rfl
 ·grind
def V8(c:BitVec 32):BitVec 32:=if c.getLsbD 0=true then(c>>>1)^^^2197175160#32 else c>>>1
def fy:Nat->BitVec 32->BitVec 32
 |0,c=>c
 |n+1,c=>V8 (fy n c)
def cp(c:BitVec 32)(b:UInt8):BitVec 32:=fy 8 (c^^^BitVec.ofNat 32 b.toNat)
def yP(s:Bf):BitVec 32:=4294967295#32^^^s.foldl cp 4294967295#32
def Sk(s:Bf):Int:=((yP s).toNat:Int)
def cA{a b:BitVec 32}(h:a^^^b=0#32):a=b:=by simp_all
def vN(a b:BitVec 32):V8 (a^^^b)=V8 a^^^V8 b:=by
 unfold V8;rw[BitVec.getLsbD_xor,BitVec.ushiftRight_xor_distrib];cases a.getLsbD 0<;>cases b.getLsbD 0<;>simp
 ·grind
 ·grind
 ·have:a>>>1^^^2197175160#32^^^(b>>>1^^^2197175160#32)=(a>>>1^^^b>>>1)^^^(2197175160#32^^^2197175160#32):=by ac_rfl
  grind
def ox: ∀(n:Nat) (a b:BitVec 32),fy n (a^^^b)=fy n a^^^fy n b
 |0,a,b=>rfl
 |n+1,a,b=>by rw[fy,fy,fy,ox n,vN]
def s8{c:BitVec 32}(h:V8 c=0#32):c=0#32:=by
 unfold V8 at h;by_cases b:c.getLsbD 0=true
 ·rw[if_pos b]at h;have d:=cA h;have a:(c>>>1).getLsbD 31=(2197175160#32).getLsbD 31:=by rw[d]
  rw[BitVec.getLsbD_ushiftRight]at a;simp_all
 ·rw[if_neg b]at h;apply iU;intro i e;cases i with
  |zero=>grind
  |succ j=>
   have a:(c>>>1).getLsbD j=(0#32).getLsbD j:=by rw[h]
   grind
def qO: ∀(n:Nat) {c:BitVec 32},fy n c=0#32->c=0#32
 |0,c,h=>h
 |n+1,c,h=>qO n (s8 h)
def tk{n:Nat}{a b:BitVec 32}(h:fy n a=fy n b):a=b:=by refine cA (qO n ?_);rw[ox,h,U1]
def yK{a b:BitVec 32}{x:UInt8}(h:cp a x=cp b x):a=b:=by have c:=tk h;simp_all
def yL{a:BitVec 32}{x y:UInt8}(h:cp a x=cp a y):x=y:=by
 have b:=tk h;have:a^^^(a^^^BitVec.ofNat 32 x.toNat)=a^^^(a^^^BitVec.ofNat 32 y.toNat):=by rw[b]
 rw[<-YO,U1,YP,<-YO,U1,YP]at this;have c:=congrArg BitVec.toNat this;rw[Oe,Oe]at c;have d:=x.toNat_lt;have e:=y.toNat_lt;exact UInt8.toNat_inj.1 (by omega)
def wT: ∀(s:Bf) {a b:BitVec 32},s.foldl cp a=s.foldl cp b->a=b
 |[],a,b,h=>h
 |x::r,a,b,h=>yK (wT r h)
def yQ{u v:Bf}{x y:UInt8}(h:Sk (u++x::v)=Sk (u++y::v)):x=y:=by
 unfold Sk at h;have a:yP (u++x::v)=yP (u++y::v):=nI (by omega);unfold yP at a;rw[dz,dz,TR,TR]at a;have b: ∀p q:BitVec 32,4294967295#32^^^p=4294967295#32^^^q->p=q:=λp q c=>by
  have:4294967295#32^^^(4294967295#32^^^p)=4294967295#32^^^(4294967295#32^^^q):=by rw[c]
  rwa [<-YO,U1,YP,<-YO,U1,YP]at this
 exact yL (wT v (b _ _ a))
def km(s:Bf):0<=Sk s/\Sk s<4294967296:=by unfold Sk;omega
def zi(c:BitVec 32):BitVec.ofInt 32 (c.toNat:Int)=c:=by grind
def w32(c:BitVec 32):IntKind.wrap .u32 (c.toNat:Int)=(c.toNat:Int):=by rw[rF];omega
def fdN(c:BitVec 32)(k:Nat)(a:k<=32):Int.fdiv (c.toNat:Int) (2^(min (Int.toNat (k:Int)) 32))=((c>>>k).toNat:Int):=by rw[show min (Int.toNat (k:Int)) 32=k by omega,YQ _ (by exact_mod_cast Cc (2^k)),BitVec.toNat_ushiftRight,Nat.shiftRight_eq_div_pow];grind
def fd1(c:BitVec 32):Int.fdiv (c.toNat:Int) (2^(min (Int.toNat 1) 32))=((c>>>1).toNat:Int):=fdN c 1 (by decide)
def fd4(c:BitVec 32):Int.fdiv (c.toNat:Int) (2^(min (Int.toNat 4) 32))=((c>>>4).toNat:Int):=fdN c 4 (by decide)
def yq(c:BitVec 32):((IntKind.wrap .u32 (((BitVec.toNat ((BitVec.ofInt 32 (c.toNat:Int))&&&(BitVec.ofInt 32 1))):Nat):Int))==1)=c.getLsbD 0:=by rw[zi,w32,iV,show(BitVec.ofInt 32 1).toNat=1 by decide,Nat.and_one_is_mod];rw[show c.getLsbD 0=c.toNat.testBit 0 from rfl,Nat.testBit_zero];grind
def zt(c:BitVec 32):(bif ((IntKind.wrap .u32 (((BitVec.toNat ((BitVec.ofInt 32 (c.toNat:Int))&&&(BitVec.ofInt 32 1))):Nat):Int))==1)then
     some (IntKind.wrap .u32 (((BitVec.toNat ((BitVec.ofInt 32 (Int.fdiv (c.toNat:Int) (2^(min (Int.toNat 1) 32))))^^^(BitVec.ofInt 32 2197175160))):Nat):Int))
    else
    some (Int.fdiv (c.toNat:Int) (2^(min (Int.toNat 1) 32))):Option Int)=some ((V8 c).toNat:Int):=by
 rw[yq,fd1,zi,w32];unfold V8;grind
def AA4(c:BitVec 32):Ae HY ((c.toNat:Int),0)=some ((fy 8 c).toNat:Int):=by
 have key:A2 (Ae HY ((c.toNat:Int),0)) λr=>r=((fy 8 c).toNat:Int):=by refine AM (λ(s:Int×Int)=>0<=s.2/\s.2<=8/\s.1=((fy s.2.toNat c).toNat:Int)) (λs=>(8-s.2).toNat) ⟨Ah _,by dsimp only;omega,rfl⟩ ?_;rintro⟨g,a⟩ ⟨e,f,b⟩;dsimp only at e f b;subst b;refine AC (λd=>?_) (λd=>AA (by rw[show a.toNat=8 by omega]));rw[zt,AJ,AY (by omega)];refine AA ⟨⟨by omega,by omega,?_⟩,by omega⟩;rw[show(a+1).toNat=a.toNat+1 by omega];rfl
 obtain⟨r,hr,rfl⟩:=key;exact hr
def vw(c:BitVec 32)(b:UInt8):IntKind.wrap .u32 (((BitVec.toNat ((BitVec.ofInt 32 (c.toNat:Int))^^^(BitVec.ofInt 32 (IntKind.wrap .u32 (b.toNat:Int))))):Nat):Int)=((c^^^BitVec.ofNat 32 b.toNat).toNat:Int):=by
 have a:=b.toNat_lt;have:IntKind.wrap .u32 (b.toNat:Int)=(b.toNat:Int):=by rw[rF];omega
 rw[this,zi,TL,w32]
def xV{x:Bf}{i:Int}(a:0<=i)(c:i<x.length): ∃b:UInt8,six x i=some (b.toNat:Int)/\x.take (i+1).toNat=x.take i.toNat++[b]:=by
 obtain⟨k,rfl⟩:=Er a;refine⟨x[k],?_,?_⟩
 ·unfold six;grind
 ·simp_all
def ve{x:Bf}(h:x.length<=2199023255552):Ej x=some (Sk x):=by
 have key:A2 (Ae (HX x) (4294967295,0)) λr=>r=((x.foldl cp 4294967295#32).toNat:Int):=by refine AM (λ(s:Int×Int)=>0<=s.2/\s.2<=x.length/\s.1=(((x.take s.2.toNat).foldl cp 4294967295#32).toNat:Int)) (λs=>((x.length:Int)-s.2).toNat) ⟨Ah _,by dsimp only;omega,rfl⟩ ?_;rintro⟨f,g⟩ ⟨c,e,d⟩;dsimp only at c e d;subst d;unfold HX;simp only[len];refine AC (λa=>?_) (λa=>AA (by rw[Dq (by omega)]));obtain⟨b,q1,q2⟩:=xV c a;rw[q1,AJ,vw,AA4,AJ,AY (by omega)];refine AA ⟨⟨by omega,by omega,?_⟩,by omega⟩;rw[q2,dz];rfl
 obtain⟨r,hr,rfl⟩:=key;unfold Ej;rw[hr,AJ,zi];rw[show(BitVec.ofInt 32 (if(false=true)then(-1)else(if(false=true)then((2^(32-1))-1)else((2^32)-1))))=4294967295#32 by decide,w32];rfl
def AB8{d:BitVec 32}(b:d.getLsbD 0=false)(c:d.getLsbD 1=false)(f:d.getLsbD 2=false)(g:d.getLsbD 3=false):fy 4 d=d>>>4:=by
 have h: ∀e:BitVec 32,e.getLsbD 0=false->V8 e=e>>>1:=λe a=>by unfold V8;rw[if_neg (by rw[a];decide)]
 show V8 (V8 (V8 (V8 d)))=_;grind
def AAe(c:BitVec 32):(c>>>4)^^^fy 4 (c&&&15#32)=fy 4 c:=by
 have d:c=(c&&& ~~~15#32)^^^(c&&&15#32):=by apply iU;intro i a;rw[BitVec.getLsbD_xor,BitVec.getLsbD_and,BitVec.getLsbD_and,BitVec.getLsbD_not];grind
 have e:fy 4 (c&&& ~~~15#32)=c>>>4:=by
  have z: ∀i,i<4->(c&&& ~~~15#32).getLsbD i=false:=λi a=>by
   have:i=0\/i=1\/i=2\/i=3:=by omega
   grind
  rw[AB8 (z 0 (by decide)) (z 1 (by decide)) (z 2 (by decide)) (z 3 (by decide))];apply iU;intro i a;have b:(15#32).getLsbD (4+i)=false:=by show(15#32).toNat.testBit (4+i)=false;grind
  grind
 conv=>rhs;rw[d]
 rw[ox,e]
def AA0(c:BitVec 32):Ae KP ((c.toNat:Int),0)=some ((fy 4 c).toNat:Int):=by
 have key:A2 (Ae KP ((c.toNat:Int),0)) λr=>r=((fy 4 c).toNat:Int):=by refine AM (λ(s:Int×Int)=>0<=s.2/\s.2<=4/\s.1=((fy s.2.toNat c).toNat:Int)) (λs=>(4-s.2).toNat) ⟨Ah _,by dsimp only;omega,rfl⟩ ?_;rintro⟨g,a⟩ ⟨e,f,b⟩;dsimp only at e f b;subst b;refine AC (λd=>?_) (λd=>AA (by rw[show a.toNat=4 by omega]));rw[zt,AJ,AY (by omega)];refine AA ⟨⟨by omega,by omega,?_⟩,by omega⟩;rw[show(a+1).toNat=a.toNat+1 by omega];rfl
 obtain⟨r,hr,rfl⟩:=key;exact hr
def vW(t:Fin (15+1)->(Ty.int IntKind.u32).D):Prop:= ∀j:Fin 16,t j=((fy 4 (BitVec.ofNat 32 j.val)).toNat:Int)
def ABi:A2 (J9 ()) vW:=by
 refine AB (P:=vW) ?_ λr hr=>AA hr;refine AM (λ(s:Int×(Fin (15+1)->(Ty.int IntKind.u32).D))=>0<=s.1/\s.1<=16/\ ∀j:Fin 16,(j.val:Int)<s.1->s.2 j=((fy 4 (BitVec.ofNat 32 j.val)).toNat:Int)) (λs=>(16-s.1).toNat) ⟨Ah _,by decide,λj c=>absurd c (by dsimp only;omega)⟩ ?_;rintro⟨i,l⟩ ⟨d,h,e⟩;refine AC (λb=>?_) (λb=>AA λj=>e j (by have:=j.isLt;omega));obtain⟨k,rfl⟩:=Er d;have a:IntKind.wrap .u32 (k:Int)=((BitVec.ofNat 32 k).toNat:Int):=by rw[rF,Oe];omega
 rw[a,AA0,AJ];refine AB (Dl (by omega) (by omega)) λm f=>?_;refine AB (Dl (by omega) (by omega)) λn g=>AA ?_;rw[AY (by omega)];unfold fg;grind
theorem xg{t:Fin (15+1)->(Ty.int IntKind.u32).D}(b:vW t)(c:BitVec 32):Ky t (IntKind.wrap .u32 (((BitVec.toNat ((BitVec.ofInt 32 (c.toNat:Int))&&&(BitVec.ofInt 32 15))):Nat):Int))=some ((fy 4 (c&&&15#32)).toNat:Int):=by
 rw[zi,show BitVec.ofInt 32 15=15#32 by decide,w32];have a:(c&&&15#32).toNat<16:=by exact Nat.lt_succ_of_le fZ
 unfold Ky;rw[dif_pos ⟨by omega,by omega⟩];refine congrArg some ((b ⟨(c&&&15#32).toNat,a⟩).trans ?_);grind
def ABS(c:BitVec 32):IntKind.wrap .u32 (((BitVec.toNat ((BitVec.ofInt 32 (Int.fdiv (c.toNat:Int) (2^(min (Int.toNat 4) 32))))^^^(BitVec.ofInt 32 ((fy 4 (c&&&15#32)).toNat:Int)))):Nat):Int)=((fy 4 c).toNat:Int):=by rw[fd4,zi,zi,AAe,w32]
def tj: ∀(m n:Nat) (c:BitVec 32),fy m (fy n c)=fy (m+n) c
 |0,n,c=>by rw[fy,DE]
 |m+1,n,c=>by rw[fy,tj m n,Nat.succ_add];rfl
def yx{x:Bf}(h:x.length<=2199023255552):Rd x=some (Sk x):=by
 unfold Rd;obtain⟨t,f,a⟩:=ABi;rw[f,AJ];have key:A2 (Ae (SH x t) (4294967295,0)) λr=>r=((x.foldl cp 4294967295#32).toNat:Int):=by refine AM (λ(s:Int×Int)=>0<=s.2/\s.2<=x.length/\s.1=(((x.take s.2.toNat).foldl cp 4294967295#32).toNat:Int)) (λs=>((x.length:Int)-s.2).toNat) ⟨Ah _,by dsimp only;omega,rfl⟩ ?_;rintro⟨i,j⟩ ⟨d,g,e⟩;dsimp only at d g e;subst e;unfold SH;simp only[len];refine AC (λc=>?_) (λc=>AA (by rw[Dq (by omega)]));obtain⟨b,q1,q2⟩:=xV d c;rw[q1,AJ,vw,xg a,AJ,AJ,ABS,xg a,AJ,AJ,ABS,AY (by omega)];refine AA ⟨⟨by omega,by omega,?_⟩,by omega⟩;rw[q2,dz,tj];rfl
 obtain⟨r,hr,rfl⟩:=key;rw[hr,AJ,zi];rw[show(BitVec.ofInt 32 (if(false=true)then(-1)else(if(false=true)then((2^(32-1))-1)else((2^32)-1))))=4294967295#32 by decide,w32];rfl
def MB(p:Bf):Bf:=Gf (p.length:Int) 4++(p++Gf (Sk (Gf (p.length:Int) 4++p)) 4)
def JX(p:Bf):(MB p).length=p.length+8:=by unfold MB;rw[Ad,Ad,B7,B7];omega
def pU{p:Bf}(h:p.length<=8392):Dm p=some (MB p):=by
 unfold Dm;simp only[len];rw[decide_eq_false (by omega),cond_false,Ns (by simp) (by decide) (by decide),AJ,CA];have a:sapp (Gf (p.length:Int) (Int.toNat 4)) p=some (Gf (p.length:Int) 4++p):=by unfold sapp;rw[if_pos (by rw[B7];omega)];rfl
 have c:(Gf (p.length:Int) 4++p).length=p.length+4:=by rw[Ad,B7];omega
 rw[a,AJ,ve (by omega),AJ];have b:=km (Gf (p.length:Int) 4++p);rw[AY (by omega),Ns (by omega) (by decide) (by decide),AJ,Ax];rfl
def UF(al:Nat)(t:Bf):Bf×Int×Int:=
 if t.length<4 then([],0,5)else
 if rd (t.take 4)>8392 then([],0,2)else
 if(t.length:Int)<rd (t.take 4)+8 then([],0,5)else
 if rd ((t.drop (4+(rd (t.take 4)).toNat)).take 4)≠Sk (t.take (4+(rd (t.take 4)).toNat))then([],0,3)else
 ((t.drop 4).take (rd (t.take 4)).toNat,(al:Int)+8+rd (t.take 4),0)
def rd4{t:Bf}(h:4<=t.length):0<=rd (t.take 4)/\rd (t.take 4)<4294967296:=by
 have a:(t.take 4).length=4:=by rw[Cn];omega
 have:=(sY (l:=t.take 4) (by omega)).1 (by omega);rw[a]at this;exact this
def Zv{a t:Bf}(h:(a.length:Int)+t.length<=2199023255552):B5 (a++t,(a.length:Int))=some (UF a.length t):=by
 have b:len (a++t)=(a.length:Int)+t.length:=by unfold len;rw[List.length_append];omega
 have o:((a++t).length:Int)=(a.length:Int)+t.length:=b;unfold B5 UF;dsimp only;rw[decide_eq_false (by omega),cond_false,decide_eq_false (by omega),cond_false,iN h (by decide) (by decide)];by_cases g:t.length<4
 ·rw[if_neg (by omega),if_pos g];rfl
 rw[if_pos (by omega),if_neg g,AJ,show Int.toNat 4=4 from rfl];obtain⟨p,u⟩:=rd4 (t:=t) (by omega);generalize hn:rd (t.take 4)=n at*;obtain⟨m,rfl⟩:=Er p;rw[show((0:Int) !=0)=false by decide,cond_false];by_cases d:(m:Int)>8392
 ·rw[decide_eq_true d,cond_true,if_pos d]
 rw[decide_eq_false d,cond_false,if_neg d,b,AY (by omega),AY (by omega)];by_cases i:(t.length:Int)<(m:Int)+8
 ·rw[decide_eq_true (by omega),cond_true,if_pos i]
 rw[decide_eq_false (by omega),cond_false,if_neg i,DP];have f:wi (wi ((a.length:Int)+4)+(m:Int))=((a++t.take (4+m)).length:Int):=by rw[AY (x:=(a.length:Int)+4) (by omega),AY (by omega),Ad,Cn];omega
 have j:a++t=(a++t.take (4+m))++t.drop (4+m):=by rw[Ax,FG]
 have s:((t.drop (4+m)).length:Int)=t.length-(4+m):=by rw[Fc];omega
 have c:((a++t.take (4+m)).length:Int)=a.length+4+m:=by rw[Ad,Cn];omega
 have l:Au (a++t,(wi (wi ((a.length:Int)+4)+(m:Int)),4))=some (rd ((t.drop (4+m)).take 4),0):=by
  rw[f];conv=>lhs;rw[j]
  rw[iN (by omega) (by decide) (by decide),if_pos (by omega)];rfl
 have q:Ry (a++t) (a.length:Int) (wi (wi ((a.length:Int)+4)+(m:Int)))=some (t.take (4+m)):=by unfold Ry;rw[f,if_pos (by omega),c,DP,Jv,show((a.length:Int)+4+m).toNat-a.length=4+m by omega]
 have r:Ry (a++t) (wi ((a.length:Int)+4)) (wi (wi ((a.length:Int)+4)+(m:Int)))=some ((t.drop 4).take m):=by unfold Ry;rw[f,AY (x:=(a.length:Int)+4) (by omega),if_pos (by omega),c,show((a.length:Int)+4).toNat=a.length+4 by omega,YU,nM (by omega),CA,VJ,show((a.length:Int)+4+m).toNat-(a.length+4)=m by omega]
 rw[l,AJ,q,AJ,ve (by rw[Cn];omega),AJ,r];obtain⟨q1,q2⟩:=rd4 (t:=t.drop (4+m)) (by omega);have k:IntKind.wrap .u32 (rd ((t.drop (4+m)).take 4))=rd ((t.drop (4+m)).take 4):=by rw[rF];omega
 rw[k];by_cases e:rd ((t.drop (4+m)).take 4)=Sk (t.take (4+m))
 ·rw[if_neg (by simp[e]),e,bne_self_eq_false,cond_false,AJ,AY (x:=(a.length:Int)+8) (by omega),AY (by omega)]
 ·rw[if_pos e,bne_iff_ne.2 e,cond_true]
def w7{x:Bf}{i:Int}(a:0<=i)(h:i>x.length):CT (x,(i,4))=some (0,5):=by unfold CT;dsimp only;simp only[len];rw[decide_eq_false (by decide),cond_false,decide_eq_false (by decide),cond_false,decide_eq_false (by omega),cond_false,decide_eq_true h,cond_true]
def W8{a t:Bf}(h:(a.length:Int)+t.length<=2199023255552):FV (a++t,(a.length:Int))=some (UF a.length t):=by
 have g:len (a++t)=(a.length:Int)+t.length:=by unfold len;rw[List.length_append];omega
 have r:((a++t).length:Int)=(a.length:Int)+t.length:=g;unfold FV UF;dsimp only;rw[decide_eq_false (by omega),cond_false,decide_eq_false (by omega),cond_false,bZ h (by decide) (by decide)];by_cases j:t.length<4
 ·rw[if_neg (by omega),if_pos j];rfl
 rw[if_pos (by omega),if_neg j,AJ,show Int.toNat 4=4 from rfl];obtain⟨s,w⟩:=rd4 (t:=t) (by omega);generalize hn:rd (t.take 4)=n at*;obtain⟨m,rfl⟩:=Er s;rw[show((0:Int) !=0)=false by decide,cond_false];by_cases d:(m:Int)>8392
 ·rw[decide_eq_true d,cond_true,if_pos d]
 rw[decide_eq_false d,cond_false,if_neg d];have i:wi (wi ((a.length:Int)+4)+(m:Int))=(a.length:Int)+4+m:=by rw[AY (x:=(a.length:Int)+4) (by omega),AY (by omega)]
 by_cases k:(t.length:Int)<(m:Int)+8
 ·rw[if_pos k];have:CT (a++t,(wi (wi ((a.length:Int)+4)+(m:Int)),4))=some (0,5):=by
   rw[i];by_cases q:(a.length:Int)+4+m>(a++t).length
   ·exact w7 (by omega) q
   ·have b:(a.length:Int)+4+m=((a++t.take (4+m)).length:Int):=by rw[Ad,Cn];omega
    have f:a++t=(a++t.take (4+m))++t.drop (4+m):=by rw[Ax,FG]
    have p:((t.drop (4+m)).length:Int)=t.length-(4+m):=by rw[Fc];omega
    rw[b];conv=>lhs;rw[f]
    rw[bZ (by omega) (by decide) (by decide),if_neg (by omega)]
  rw[this];rfl
 rw[if_neg k,DP];have b:wi (wi ((a.length:Int)+4)+(m:Int))=((a++t.take (4+m)).length:Int):=by rw[i,Ad,Cn];omega
 have f:a++t=(a++t.take (4+m))++t.drop (4+m):=by rw[Ax,FG]
 have p:((t.drop (4+m)).length:Int)=t.length-(4+m):=by rw[Fc];omega
 have c:((a++t.take (4+m)).length:Int)=a.length+4+m:=by rw[Ad,Cn];omega
 have l:CT (a++t,(wi (wi ((a.length:Int)+4)+(m:Int)),4))=some (rd ((t.drop (4+m)).take 4),0):=by
  rw[b];conv=>lhs;rw[f]
  rw[bZ (by omega) (by decide) (by decide),if_pos (by omega)];rfl
 have u:Ry (a++t) (a.length:Int) (wi (wi ((a.length:Int)+4)+(m:Int)))=some (t.take (4+m)):=by unfold Ry;rw[b,if_pos (by omega),c,DP,Jv,show((a.length:Int)+4+m).toNat-a.length=4+m by omega]
 have v:Ry (a++t) (wi ((a.length:Int)+4)) (wi (wi ((a.length:Int)+4)+(m:Int)))=some ((t.drop 4).take m):=by unfold Ry;rw[b,AY (x:=(a.length:Int)+4) (by omega),if_pos (by omega),c,show((a.length:Int)+4).toNat=a.length+4 by omega,YU,nM (by omega),CA,VJ,show((a.length:Int)+4+m).toNat-(a.length+4)=m by omega]
 rw[l,AJ,show(((rd ((t.drop (4+m)).take 4),(0:Int)):Int×Int).2 !=0)=false from rfl,cond_false,u,AJ,yx (by rw[Cn];omega),AJ,v];have o:=km (t.take (4+m));rw[AY (x:=Sk (t.take (4+m))) (by omega)];by_cases e:rd ((t.drop (4+m)).take 4)=Sk (t.take (4+m))
 ·rw[if_neg (by simp[e]),e,bne_self_eq_false,cond_false,AJ,i,AY (by omega)];refine congrArg some (F9 rfl (F9 ?_ rfl));dsimp only;omega
 ·rw[if_pos e,bne_iff_ne.2 e,cond_true]
def tJ{a:Nat}{t:Bf}(h:(UF a t).2.2=0):(UF a t).1.length<=8392/\(∃c,t=MB (UF a t).1++c)/\(UF a t).2.1=(a:Int)+8+(UF a t).1.length:=by
 unfold UF at h⊢;by_cases j:t.length<4
 ·rw[if_pos j]at h;exact absurd h (by decide)
 rw[if_neg j]at h⊢;obtain⟨q,r⟩:=rd4 (t:=t) (by omega);by_cases k:rd (t.take 4)>8392
 ·rw[if_pos k]at h;exact absurd h (by decide)
 rw[if_neg k]at h⊢;by_cases o:(t.length:Int)<rd (t.take 4)+8
 ·rw[if_pos o]at h;exact absurd h (by decide)
 rw[if_neg o]at h⊢;by_cases b:rd ((t.drop (4+(rd (t.take 4)).toNat)).take 4)≠Sk (t.take (4+(rd (t.take 4)).toNat))
 ·rw[if_pos b]at h;exact absurd h (by decide)
 rw[if_neg b]at h⊢;have b:=Decidable.not_not.1 b;dsimp only;have e:(t.take 4).length=4:=by rw[Cn];omega
 have g:Gf (rd (t.take 4)) 4=t.take 4:=by have:=oy (l:=t.take 4) (by omega);rwa [e]at this
 generalize hn:rd (t.take 4)=n at*;obtain⟨m,rfl⟩:=Er q;rw[DP]at b⊢;have i:((t.drop 4).take m).length=m:=by rw[Cn,Fc];omega
 refine⟨by omega,?_,by omega⟩;have p:t.take (4+m)=Gf (m:Int) 4++(t.drop 4).take m:=by rw[List.take_add,g]
 have f:((t.drop (4+m)).take 4).length=4:=by rw[Cn,Fc];omega
 have d:Gf (Sk (t.take (4+m))) 4=(t.drop (4+m)).take 4:=by rw[<-b];have:=oy (l:=(t.drop (4+m)).take 4) (by omega);rwa [f]at this
 refine⟨t.drop (4+m+4),?_⟩;unfold MB;rw[i,<-p,d,<-Ax,<-p];conv=>lhs;rw[<-FG (4+m) t,<-FG 4 (t.drop (4+m)),LM]
 rw[Ax]
def oN{d:Nat}{p a:Bf}(h:p.length<=8392):UF d (MB p++a)=(p,((d:Int)+8+p.length,0)):=by
 have k:bo 4 (p.length:Int):=⟨λ_=>⟨by omega,by rw[show(256:Int)^4=4294967296 by decide];omega⟩,by omega⟩
 have m:=km (Gf (p.length:Int) 4++p);have c:bo 4 (Sk (Gf (p.length:Int) 4++p)):=⟨λ_=>⟨by omega,by rw[show(256:Int)^4=4294967296 by decide];omega⟩,by omega⟩
 have l:=JX p;have f:(MB p++a).take 4=Gf (p.length:Int) 4:=by unfold MB;rw[Ax];exact J5 (B7 _ _)
 have e:rd (Gf (p.length:Int) 4)=p.length:=jj (by decide) k;have b:(MB p++a).length=p.length+8+a.length:=by rw[Ad,l]
 have g:(MB p++a).take (4+p.length)=Gf (p.length:Int) 4++p:=by unfold MB;rw[<-Ax,Ax];exact J5 (by rw[Ad,B7])
 have i:(MB p++a).drop (4+p.length)=Gf (Sk (Gf (p.length:Int) 4++p)) 4++a:=by unfold MB;rw[<-Ax,Ax];exact List.drop_left' (by rw[Ad,B7])
 have j:(MB p++a).drop 4=p++(Gf (Sk (Gf (p.length:Int) 4++p)) 4++a):=by unfold MB;rw[Ax,Ax];exact List.drop_left' (B7 _ _)
 unfold UF;rw[f,e,DP,g,i,j,b,if_neg (by omega),if_neg (by omega),if_neg (by omega),J5 (B7 _ _),jj (by decide) c,if_neg (by simp),J5 rfl]
set_option maxHeartbeats 400000
def CI(b:DY):Prop:=b.1.length<=1099511627776/\0<=b.2.1/\b.2.1<=b.1.length
def Mp{b:DY}{x:Int}(h:CI b)(c:0<=x/\x<=8):A2 (BF b x) λr=>CI r.2/\(x<=4->0<=r.1/\r.1<4294967296):=by
 unfold BF;unfold CI at*
 repeat' first
   |with_reducible apply AK<;>intro a
   |with_reducible apply AA
   |(with_reducible refine AF ?_ (CC ?_);intro r hr)
 all_goals ((try dsimp only[len]at*);(try first|omega|assumption|grind[AY]))
def NM{b:DY}{x:Int}(h:CI b)(d:0<=x/\x<=4294967296):A2 (Cs b x) λr=>CI r.2:=by
 unfold Cs;unfold CI at*
 repeat' first
   |with_reducible apply AC<;>intro a
   |with_reducible apply AK<;>intro a
   |with_reducible apply AA
   |(with_reducible refine AF ?_ (C3 ?_ ?_ ?_);rintro r ⟨hr,c⟩)
 all_goals ((try dsimp only[len]at*);(try first|omega|assumption|grind[AY]))
def Tu{b:DY}{x:Unit}(h:CI b):A2 (Ch b x) λr=>CI r.2:=by
 unfold Ch;repeat' with_reducible first|apply AC<;>intro a|apply AS<;>intro a|apply AK<;>intro a|apply AE<;>intro a|apply AA|(refine AF ?_ (Mp ?_ ?_);intro r hr)|(refine AF ?_ (NM ?_ ?_);intro r hr)
 all_goals ((try dsimp only[len]at*);(try first|omega|assumption|grind[CI]))
def Qa{x:Bf}(h:x.length<=1099511627776):A2 (Du x) λr=>r.2=0->Pd r.1:=by
 unfold Du;have b:CI (x,0,0):=⟨h,by simp,by simp⟩
 repeat' with_reducible first|apply AO<;>intro a|apply AK<;>intro a|apply AE<;>intro a|apply AA|(refine AF ?_ (Mp ?_ ?_);intro r hr)|(refine AF ?_ (Tu ?_);intro r hr)|(refine AF ?_ (NM ?_ ?_);intro r hr)|(apply AB (CH);intro r hr)
 all_goals first|omega|assumption|(exact And.left (by assumption))|grind
def UN{x:Bf×List Int}{s:Bf×Int}(h:0<=s.2/\s.2<=x.2.length/\x.2.length<=16777216/\x.1.length<=1073741824/\(s.1.length:Int)<=x.1.length+8*s.2):A2 (Ae (KE x) s) λr=>(r.length:Int)<=x.1.length+8*x.2.length:=by
 refine AM (λ(s:Bf×Int)=>0<=s.2/\s.2<=x.2.length/\x.2.length<=16777216/\x.1.length<=1073741824/\(s.1.length:Int)<=x.1.length+8*s.2) (λ(s:Bf×Int)=>((x.2.length:Int)-s.2).toNat) h (λs b=>?_);unfold KE;repeat' with_reducible first|apply AC<;>intro a|apply AE<;>intro a|apply AA|(refine AF ?_ (CM ?_);intro r hr)|(refine AF ?_ (AD ?_ ?_);rintro r ⟨hr,c⟩)
 all_goals ((try dsimp only[len]at*);(try first|omega|assumption|grind[AY]))
def Wc{x:Bf×List Int}(h:x.2.length<=16777216/\x.1.length<=1073741824):A2 (HF x) λr=>(r.length:Int)<=x.1.length+8*x.2.length:=by
 unfold HF;repeat' with_reducible first|apply AA|(refine AF ?_ (UN ?_);intro r hr)
 all_goals ((try dsimp only[len]at*);(try first|omega|assumption|grind[AY]))
def Ur{x:List Ai}{s:Bf×Int}(h:0<=s.2/\s.2<=x.length/\WD x/\(s.1.length:Int)<=10+40000*s.2):A2 (Ae (LA x) s) λr=>(r.length:Int)<=10+40000*x.length:=by
 refine AM (λ(s:Bf×Int)=>0<=s.2/\s.2<=x.length/\WD x/\(s.1.length:Int)<=10+40000*s.2) (λ(s:Bf×Int)=>((x.length:Int)-s.2).toNat) h (λs c=>?_);unfold LA;obtain⟨e,f,⟨b,a⟩,g⟩:=c;repeat' with_reducible first|apply AC<;>intro d|apply AE<;>intro d|apply AA|(refine AF ?_ (CM ?_);intro r hr)|(refine AF ?_ (Wc ?_);intro r hr)|(refine AF ?_ (AD ?_ ?_);rintro r ⟨hr,i⟩)
 all_goals try (have j:=a _ _ (by assumption))
 all_goals try unfold xn at*
 all_goals dsimp only[len]at*
 all_goals first|omega|(refine⟨⟨?_,?_,⟨b,a⟩,?_⟩,?_⟩<;>(simp (disch:=omega) only[AY];omega))|grind
def Xy{x:List Ai}:A2 (Jk x) λr=>r.1.length<=16777216:=by
 unfold Jk;repeat' with_reducible first|apply AO<;>intro a|apply AE<;>intro a|apply AA|(apply AB (ED);intro r hr)|(refine AF ?_ (CM ?_);intro r hr)|(refine AF ?_ (Ur ?_);intro r hr)
 all_goals ((try dsimp only[len]at*);(try first|omega|assumption|grind[WD]))
def CJ(b:Bo):Prop:=b.1.length<=1099511627776/\0<=b.2.1/\b.2.1<=b.1.length
def F7{b:Bo}{x:Int}(h:CJ b)(c:0<=x/\x<=8):A2 (CU b x) λr=>CJ r.2/\(x<=2->0<=r.1/\r.1<65536):=by
 unfold CU;unfold CJ at*
 repeat' first
   |with_reducible apply AE<;>intro a
   |with_reducible apply AA
   |(with_reducible refine AF ?_ (CC ?_);intro r hr)
 all_goals ((try dsimp only[len]at*);(try first|omega|assumption|grind[AY]))
def SO  {s:Int×List Int×Bo}(h:0<=s.1/\s.1+s.2.1.length<=65536/\CJ s.2.2):A2 (Ae (IR) s) λr=>CJ r.2/\r.1.length<=65536:=by
 refine AM (λ(s:Int×List Int×Bo)=>0<=s.1/\s.1+s.2.1.length<=65536/\CJ s.2.2) (λ(s:Int×List Int×Bo)=>s.1.toNat) h (λs c=>?_);unfold IR;repeat' with_reducible first|apply AC<;>intro a|apply AO<;>intro a|apply AE<;>intro a|apply AA|(refine AF ?_ (F7 ?_ ?_);intro r hr)|(refine AF ?_ (Ac ?_);rintro r ⟨hr,d,b⟩)
 all_goals ((try dsimp only[len]at*);(try first|omega|assumption|grind[AY]))
def Tv{b:Bo}{x:Int}(h:CJ b)(a:0<=x/\x<=2):A2 (Fz b x) λr=>CJ r.2:=by
 unfold Fz;repeat' with_reducible first|apply AA|(refine AF ?_ (F7 ?_ ?_);intro r hr)|(refine AF ?_ (SO ?_);intro r hr)
 all_goals ((try dsimp only[len]at*);(try first|omega|assumption|grind[AY]))
def Up  {s:Int×List Ai×Bo}(h:0<=s.1/\s.1+s.2.1.length<=65536/\CJ s.2.2):A2 (Ae (K9) s) λr=>CJ r.2/\r.1.length<=65536:=by
 refine AM (λ(s:Int×List Ai×Bo)=>0<=s.1/\s.1+s.2.1.length<=65536/\CJ s.2.2) (λ(s:Int×List Ai×Bo)=>s.1.toNat) h (λs c=>?_);unfold K9;repeat' with_reducible first|apply AC<;>intro a|apply AO<;>intro a|apply AE<;>intro a|apply AA|(refine AF ?_ (F7 ?_ ?_);intro r hr)|(refine AF ?_ (Tv ?_ ?_);intro r hr)|(refine AF ?_ (Ac ?_);rintro r ⟨hr,d,b⟩)
 all_goals ((try dsimp only[len]at*);(try first|omega|assumption|grind[AY]))
def Xx{x:Bf}(h:x.length<=1099511627776):A2 (Jj x) λr=>r.1.length<=65536/\(r.2=0->WD r.1):=by
 unfold Jj;have b:CJ (x,0,false):=⟨h,by simp,by simp⟩
 repeat' with_reducible first|apply AO<;>intro a|apply AK<;>intro a|apply AE<;>intro a|apply AA|(refine AF ?_ (F7 ?_ ?_);intro r hr)|(refine AF ?_ (Up ?_);intro r hr)|(apply AB (ED);intro r hr)
 all_goals ((try dsimp only[len]at*);(try first|omega|assumption|grind[AY]))
def Uo{x:By}{s:Bf×Int}(h:0<=s.2/\s.2<=x.length/\x.length<=64/\(s.1.length:Int)<=10+24*s.2):A2 (Ae (K8 x) s) λr=>r.length<=2000:=by
 refine AM (λ(s:Bf×Int)=>0<=s.2/\s.2<=x.length/\x.length<=64/\(s.1.length:Int)<=10+24*s.2) (λ(s:Bf×Int)=>((x.length:Int)-s.2).toNat) h (λs b=>?_);unfold K8;repeat' with_reducible first|apply AC<;>intro a|apply AE<;>intro a|apply AA|(refine AF ?_ (CM ?_);intro r hr)|(refine AF ?_ (AD ?_ ?_);rintro r ⟨hr,c⟩)
 all_goals ((try dsimp only[len]at*);(try first|omega|assumption|grind[AY]))
def Xw{x:By}:A2 (Ji x) λr=>r.1.length<=2000:=by
 unfold Ji;repeat' with_reducible first|apply AO<;>intro a|apply AE<;>intro a|apply AA|(apply AB (F5);intro r hr)|(refine AF ?_ (CM ?_);intro r hr)|(refine AF ?_ (Uo ?_);intro r hr)
 all_goals ((try dsimp only[len]at*);(try first|omega|assumption|grind[fP]))
def Un{x:Bf}{a:Int×Int}{s:Int×List RM}(h:0<=s.1/\s.1<=a.1/\a.1<=65536/\x.length<=1099511627776/\s.2.length<=s.1):A2 (Ae (K7 x a) s) λr=>r.length<=65536:=by
 refine AM (λ(s:Int×List RM)=>0<=s.1/\s.1<=a.1/\a.1<=65536/\x.length<=1099511627776/\s.2.length<=s.1) (λ(s:Int×List RM)=>(a.1-s.1).toNat) h (λs d=>?_);unfold K7;repeat' with_reducible first|apply AC<;>intro b|apply AE<;>intro b|apply AA|(refine AF ?_ (CC ?_);intro r hr)|(refine AF ?_ (Ac ?_);rintro r ⟨hr,e,c⟩)
 all_goals ((try dsimp only[len]at*);(try first|omega|assumption|grind[AY]))
def Xv{x:Bf}(h:x.length<=1099511627776):A2 (Jh x) λr=>(r.2=0->fP r.1)/\r.1.length<=65536:=by
 unfold Jh;repeat' with_reducible first|apply AC<;>intro a|apply AO<;>intro a|apply AK<;>intro a|apply AE<;>intro a|apply AA|(refine AF ?_ (CC ?_);intro r hr)|(refine AF ?_ (Un ?_);intro r hr)|(apply AB (F5);intro r hr)
 all_goals ((try dsimp only[len]at*);(try first|omega|assumption|grind[AY]))
def Vw{x:Ct}{s:Int}(h:0<=s/\s<=x.2.2.1.length/\(x.2.2.1.length:Int)<=16777216):A2 (Ae (Mk x) s) λr=>r≠ .inl true:=by
 refine AM (λ(s:Int)=>0<=s/\s<=x.2.2.1.length/\(x.2.2.1.length:Int)<=16777216) (λ(s:Int)=>((x.2.2.1.length:Int)-s).toNat) h (λs b=>?_);unfold Mk;repeat' with_reducible first|apply AC<;>intro a|apply AE<;>intro a|apply AA|(refine AF ?_ (AD ?_ ?_);rintro r ⟨hr,c⟩)
 all_goals ((try dsimp only[len]at*);(try first|omega|assumption|grind[AY]))
def lG(x:Ct):Prop:=1<=x.1/\x.1<=64/\WD x.2.2.1/\fP x.2.2.2.2/\x.2.2.2.2.length=x.1
def Rl{x:Ct}(h:x.2.2.2.1.length<=16777216):A2 (IJ x) λr=>r=true->lG x:=by
 unfold IJ lG
 repeat' first
   |with_reducible apply AC<;>intro a
   |with_reducible apply AO<;>intro a
   |with_reducible apply AK<;>intro a
   |(with_reducible apply Az<;>(intro u b;try subst b))
   |with_reducible apply AA
   |(with_reducible apply AB (ED);intro r hr)
   |(with_reducible refine AF ?_ (Ob ?_);intro r hr)
   |(with_reducible apply AB (F5);intro r hr)
   |(with_reducible refine AF ?_ (Vw ?_);intro r hr)
 all_goals ((try dsimp only[len]at*);(try first|omega|assumption|grind[WD]))
def Uu{x:Ct}{s:Bf×Int}(h:0<=s.2/\s.2<=x.2.2.2.1.length/\x.2.2.2.1.length<=16777216/\(s.1.length:Int)<=100000000+24*s.2):A2 (Ae (LD x) s) λr=>r.length<=1073741824:=by
 refine AM (λ(s:Bf×Int)=>0<=s.2/\s.2<=x.2.2.2.1.length/\x.2.2.2.1.length<=16777216/\(s.1.length:Int)<=100000000+24*s.2) (λ(s:Bf×Int)=>((x.2.2.2.1.length:Int)-s.2).toNat) h (λs b=>?_);unfold LD;repeat' with_reducible first|apply AC<;>intro a|apply AE<;>intro a|apply AA|(refine AF ?_ (CM ?_);intro r hr)|(refine AF ?_ (AD ?_ ?_);rintro r ⟨hr,c⟩)
 all_goals ((try dsimp only[len]at*);(try first|omega|assumption|grind[AY]))
def X4{x:Ct}(h:x.2.2.2.1.length<=16777216):A2 (Jq x) λr=>r.1.length<=2147483648:=by
 unfold Jq;repeat' with_reducible first|apply AO<;>intro a|apply AE<;>intro a|apply AA|(refine AF ?_ (Rl ?_);intro r hr)|(apply AB (Xy);intro r hr)|(refine AF ?_ (CM ?_);intro r hr)|(refine AF ?_ (Uu ?_);intro r hr)|(apply AB (Xw);intro r hr)|(refine AF ?_ (CE ?_);rintro r ⟨hr,b⟩)
 all_goals ((try dsimp only[len]at*);(try first|omega|assumption|grind[AY]))
def WW{x:List Ao×Int×Bool×Cl}{s:Int×List Ao}(h:0<=s.1/\s.1<=x.1.length/\x.1.length<=16777216/\s.2.length<=s.1):A2 (Ae (NT x) s) λr=>r.length<=x.1.length:=by
 refine AM (λ(s:Int×List Ao)=>0<=s.1/\s.1<=x.1.length/\x.1.length<=16777216/\s.2.length<=s.1) (λ(s:Int×List Ao)=>((x.1.length:Int)-s.1).toNat) h (λs b=>?_);unfold NT;repeat' with_reducible first|apply AE<;>intro c|(apply A4;try dsimp only)|apply BN|apply BT|apply AA|(refine AF ?_ (AD ?_ ?_);rintro r ⟨hr,e⟩)|(refine AF ?_ (Ac ?_);rintro r ⟨hr,d,a⟩)
 all_goals ((try dsimp only[len]at*);(try first|omega|assumption|grind[AY]))
def Jf{x:List Ao×Int×Bool×Cl}(h:x.1.length<=16777216):A2 (GF x) λr=>r.length<=x.1.length:=by
 unfold GF;repeat' with_reducible first|apply AA|(refine AF ?_ (WW ?_);intro r hr)
 all_goals grind
def WT{x:Av×Int}{s:Int}(h:0<=s/\s<=x.1.1.length/\(x.1.1.length:Int)<=16777216/\0<=x.2/\x.2<x.1.2.length):A2 (Ae (NP x) s) λr=>True:=by
 refine AM (λ(s:Int)=>0<=s/\s<=x.1.1.length/\(x.1.1.length:Int)<=16777216/\0<=x.2/\x.2<x.1.2.length) (λ(s:Int)=>((x.1.1.length:Int)-s).toNat) h (λs a=>?_);unfold NP;repeat' with_reducible first|apply AE<;>intro b|apply AA|(apply AB (GD);intro r hr)|(refine AF ?_ (AD ?_ ?_);rintro r ⟨hr,c⟩)
 all_goals ((try dsimp only[len]at*);(try first|omega|assumption|grind[AY]))
def WU{x:Av×Int}{s:Int}(h:0<=s/\s<=x.2/\(x.2:Int)<=16777216/\0<=x.2/\x.2<x.1.2.length):A2 (Ae (NQ x) s) λr=>True:=by
 refine AM (λ(s:Int)=>0<=s/\s<=x.2/\(x.2:Int)<=16777216/\0<=x.2/\x.2<x.1.2.length) (λ(s:Int)=>((x.2:Int)-s).toNat) h (λs a=>?_);unfold NQ;repeat' with_reducible first|apply AE<;>intro b|apply AA|(apply AB (GD);intro r hr)|(refine AF ?_ (AD ?_ ?_);rintro r ⟨hr,c⟩)
 all_goals ((try dsimp only[len]at*);(try first|omega|assumption|grind[AY]))
def au{x:Av×Int}(h:x.1.1.length<=4096/\x.1.2.length<=4096)(b:0<=x.2/\x.2<x.1.2.length):A2 (Lk x) λr=>True:=by
 unfold Lk;repeat' with_reducible first|(apply Az<;>(intro u a;try subst a))|apply AA|(refine AF ?_ (WT ?_);intro r hr)|(refine AF ?_ (WU ?_);intro r hr)
 all_goals grind
def WV{x:List Ao×Ao}{s:Bool×Int×List Ao}(h:0<=s.2.1/\s.2.1<=x.1.length/\x.1.length<=4096/\s.2.2.length<=s.2.1+1/\(s.1=false->(s.2.2.length:Int)<=s.2.1)):A2 (Ae (NS x) s) λr=>r.2.length<=x.1.length+1/\(r.1=false->r.2.length<=x.1.length):=by
 refine AM (λ(s:Bool×Int×List Ao)=>0<=s.2.1/\s.2.1<=x.1.length/\x.1.length<=4096/\s.2.2.length<=s.2.1+1/\(s.1=false->(s.2.2.length:Int)<=s.2.1)) (λ(s:Bool×Int×List Ao)=>((x.1.length:Int)-s.2.1).toNat) h (λs c=>?_);unfold NS;repeat' with_reducible first|apply AC<;>intro a|apply AO<;>intro a|apply AK<;>intro a|(apply A4;try dsimp only)|apply BN|apply BT|apply AA|(apply AB (SM);intro r hr)|(refine AF ?_ (AD ?_ ?_);rintro r ⟨hr,f⟩)|(refine AF ?_ (Ac ?_);rintro r ⟨hr,d,b⟩)
 all_goals try (have e:=AY (x:=s.2.1+1) (by omega))
 all_goals (first|omega|grind)
def av{x:List Ao×Ao}(h:x.1.length<=4096):A2 (Ll x) λr=>r.length<=x.1.length+1:=by
 unfold Ll;repeat' with_reducible first|apply AO<;>intro b|(apply A4;try dsimp only)|apply BN|apply BT|apply AA|(refine AF ?_ (WV ?_);intro r hr)|(refine AF ?_ (Ac ?_);rintro r ⟨hr,c,a⟩)
 all_goals grind
def Uk{B:Nat}(t:B<=2000){s:Int×Av}(h:0<=s.1/\s.1<=s.2.2.length/\s.2.1.length+s.2.2.length<=B):A2 (Ae Pz s) λr=>r.1.length+r.2.length<=B:=by
 refine AM (λs=>0<=s.1/\s.1<=s.2.2.length/\s.2.1.length+s.2.2.length<=B) (λs=>s.2.2.length*3000+((s.2.2.length:Int)-s.1).toNat) h (λs m=>?_);obtain⟨f,o,g⟩:=m;refine AC (λd=>?_) (λd=>AA g);simp only[len]at d;refine AB (au (by dsimp only;omega) ⟨f,d⟩) λv _=>?_;refine AB (P:=λv:Int×Av=>(v=s)\/(v.1= -1/\v.2.1.length<=s.2.1.length+1/\v.2.2.length+1=s.2.2.length)) ?_ λi l=>?_
 ·refine AE (λ_=>?_) (λ_=>AA (.inl rfl));refine AB (AD f d) λu _=>?_;refine AB (av (by dsimp only;omega)) λw g=>?_;refine AB (B0 (by omega) f (by omega)) λy p=>?_;have e:=AY (x:=s.1+1) (by omega);refine AB (B0 (by rw[e];omega) (by rw[e];simp only[len];omega) (by simp only[len];omega)) λz j=>?_;have n:=j.2;simp only[len]at n;refine AB (Ac (by simp;omega)) λA k=>?_;refine AB (Ac (by have:=k.2.1;simp at this;omega)) λC q=>?_;refine AA (.inr ⟨rfl,g,?_⟩);grind
 ·apply AA;rcases l with rfl|⟨a,b,c⟩
  ·have e:=AY (x:=i.1+1) (by omega);grind
  ·have e:wi (i.1+1)=0:=by rw[a];exact AY (by omega)
   grind
def IZ{B:Nat}{x:Av}(a:B<=2000)(h:x.1.length+x.2.length<=B):A2 (FK x) λr=>r.1.length+r.2.length<=B:=by exact AB (Uk a ⟨by simp,by simp,h⟩) λr hr=>AA hr
theorem GP.of{x:Av}{B:Nat}(a:B<=2000)(h:x.1.length+x.2.length<=B):GP x:=⟨by omega,by omega⟩
def GP.nil:GP (([],[]):Av):=⟨by simp,by simp⟩
def K4{x:Av×Int}(h:GP x.1):A2 (HC x) λr=>GP r:=by refine AB (Ew h) λv e=>?_;refine AO (λ_=>AA h) (λc=>?_);have d:=e c;refine AB (Jf h.1) λa f=>?_;refine AB (Jf h.2) λb g=>?_;refine AB (IZ (B:=1024) (by decide) ?_) λr hr=>AA (GP.of (by decide) hr);unfold XD at d;grind
def Xo{x:Av×Int}(h:GP x.1):A2 (OC x) λr=>GP r:=by refine AB (Ew h) λv d=>?_;refine AO (λ_=>AA h) (λa=>?_);have c:=d a;refine AB (Jf h.2) λb e=>?_;refine AB (IZ (B:=1024) (by decide) ?_) λr hr=>AA (GP.of (by decide) hr);unfold XD at c;grind
def SL{x:Av×Int×Cl}(h:GP x.1):A2 (Lj x) λr=>GP r:=by refine AB (Ew h) λv d=>?_;refine AO (λ_=>AA h) (λa=>?_);have c:=d a;refine AB (Jf h.1) λb e=>?_;refine AB (IZ (B:=1024) (by decide) ?_) λr hr=>AA (GP.of (by decide) hr);unfold XD at c;grind
def UL{x:Av×Int}{s:Int×Ao}(h:0<=s.1/\s.1<=x.1.2.length/\x.1.2.length<=16777216):A2 (Ae (KC x) s) λr=>True:=by
 refine AM (λ(s:Int×Ao)=>0<=s.1/\s.1<=x.1.2.length/\x.1.2.length<=16777216) (λ(s:Int×Ao)=>((x.1.2.length:Int)-s.1).toNat) h (λs b=>?_);unfold KC;repeat' with_reducible first|apply AC<;>intro a|apply AS<;>intro a|apply AA|(refine AF ?_ (AD ?_ ?_);rintro r ⟨hr,c⟩)
 all_goals ((try dsimp only[len]at*);(try first|omega|assumption|grind[AY]))
def H6{x:Av×Int}(h:GP x.1):A2 (Ex x) λr=>r.2=true->XD x.1:=by
 unfold Ex;repeat' with_reducible first|apply AE<;>intro b|(apply A4;try dsimp only)|apply BN|apply BT|apply Js|(apply Az<;>(intro u a;try subst a))|apply AA|(refine AF ?_ (Ew ?_);intro r hr)|(refine AF ?_ (UL ?_);intro r hr)
 all_goals ((try dsimp only[len]at*);(try first|omega|assumption|grind[GP]))
def Vm{x:Av×Ao}{s:Int}(h:0<=s/\s<=x.1.2.length/\(x.1.2.length:Int)<=16777216/\x.1.1.length<=16777216):A2 (Ae (MZ x) s) λr=> ∀u,r= .inl u->0<=u/\u<=x.1.2.length:=by
 refine AM (λ(s:Int)=>0<=s/\s<=x.1.2.length/\(x.1.2.length:Int)<=16777216/\x.1.1.length<=16777216) (λ(s:Int)=>((x.1.2.length:Int)-s).toNat) h (λs a=>?_);unfold MZ;repeat' with_reducible first|apply AE<;>intro b|apply AA|(refine AF ?_ (HZ ?_);intro r hr)|(refine AF ?_ (AD ?_ ?_);rintro r ⟨hr,c⟩)
 all_goals ((try dsimp only[len]at*);(try first|omega|assumption|grind[AY]))
def ZQ{x:Av×Ao}(h:GP x.1):A2 (IF x) λr=>0<=r/\r<=x.1.2.length:=by
 unfold IF;repeat' with_reducible first|apply AS<;>intro b|(apply Az<;>(intro u a;try subst a))|apply AA|(refine AF ?_ (HZ ?_);intro r hr)|(refine AF ?_ (Vm ?_);intro r hr)
 all_goals ((try dsimp only[len]at*);(try first|omega|assumption|grind[GP]))
def WS{x:Av×Ao}(h:GP x.1):A2 (NO x) λr=>GP r.1:=by
 refine AB (Ew h) λv o=>?_;refine AO (λ_=>AA GP.nil) (λl=>?_);have n:=o l;unfold XD at n;refine AB NR λ_ _=>?_;refine AO (λ_=>AA GP.nil) (λ_=>?_);refine AB (H6 h) λA _=>?_;apply AE<;>intro m
 ·refine AE (λ_=>AA GP.nil) (λ_=>?_);refine AE (λ_=>AA h) (λz=>?_);grind
 ·refine AE (λ_=>AA h) (λ_=>?_);refine AB (HZ h.1) λ_ _=>?_;refine AE (λ_=>AA h) (λ_=>?_);refine AE (λ_=>AA GP.nil) (λ_=>?_);refine AB (ZQ h) λp e=>?_;refine AB (B0 (by omega) e.1 e.2) λq j=>?_;refine AB (B0 e.1 (by simp only[len];omega) (by simp only[len];omega)) λs a=>?_;have f:=a.2;simp only[len]at f;refine AB (Ac (by simp;omega)) λt b=>?_;have g:=b.2.1;simp at g;refine AB (Ac (by simp;omega)) λu c=>?_;have i:=c.2.1;simp at i;refine AB (Ac (by omega)) λw k=>?_;refine AB (IZ (B:=1025) (by decide) (by dsimp only;omega)) λy d=>?_;refine AB (HZ (by dsimp only;omega)) λ_ _=>?_;exact AA (GP.of (by decide) d)
def WZ{x:List Int×Int}{s:Bool×Int×List Int}(h:0<=s.2.1/\s.2.1<=x.1.length/\x.1.length<=4096/\s.2.2.length<=s.2.1+1/\(s.1=false->(s.2.2.length:Int)<=s.2.1)):A2 (Ae (NK x) s) λr=>r.2.length<=x.1.length+1/\(r.1=false->r.2.length<=x.1.length):=by
 refine AM (λ(s:Bool×Int×List Int)=>0<=s.2.1/\s.2.1<=x.1.length/\x.1.length<=4096/\s.2.2.length<=s.2.1+1/\(s.1=false->(s.2.2.length:Int)<=s.2.1)) (λ(s:Bool×Int×List Int)=>((x.1.length:Int)-s.2.1).toNat) h (λs b=>?_);unfold NK;repeat' with_reducible first|apply AC<;>intro a|apply AO<;>intro a|apply AK<;>intro a|apply AE<;>intro a|(apply A4;try dsimp only)|apply BN|apply BT|apply AA|(refine AF ?_ (AD ?_ ?_);rintro r ⟨hr,g⟩)|(refine AF ?_ (Ac ?_);rintro r ⟨hr,f,d⟩)
 all_goals try dsimp only[len]at*
 all_goals try (have e:=AY (x:=s.2.1+1) (by omega))
 all_goals try (have c:=b.2.2.2.2 (by assumption))
 all_goals (try simp only[BC,BH,iY,false_implies,and_true]at*)
 all_goals first|omega|grind
def OG{x:List Int×Int}(h:x.1.length<=4096):A2 (E8 x) λr=>r.length<=x.1.length+1:=by
 unfold E8;repeat' with_reducible first|apply AO<;>intro a|apply AE<;>intro a|(apply A4;try dsimp only)|apply BN|apply BT|apply AA|(refine AF ?_ (WZ ?_);intro r hr)|(refine AF ?_ (Ac ?_);rintro r ⟨hr,c,b⟩)
 all_goals ((try dsimp only[len]at*);(try first|omega|assumption|grind[AY]))
def UM{x:Av}{s:List Int×Int}(h:0<=s.2/\s.2<=x.2.length/\x.2.length<=4096/\s.1.length<=s.2):A2 (Ae (KD x) s) λr=>r.length<=x.2.length:=by
 refine AM (λ(s:List Int×Int)=>0<=s.2/\s.2<=x.2.length/\x.2.length<=4096/\s.1.length<=s.2) (λ(s:List Int×Int)=>((x.2.length:Int)-s.2).toNat) h (λs b=>?_);unfold KD;repeat' with_reducible first|apply AC<;>intro a|apply AE<;>intro a|apply AA|(refine AF ?_ (OG ?_);intro r hr)|(refine AF ?_ (AD ?_ ?_);rintro r ⟨hr,c⟩)
 all_goals ((try dsimp only[len]at*);(try first|omega|assumption|grind[AY]))
def WY{x:Av}(h:GP x):A2 (I2 x) λr=>r.length<=4096:=by
 unfold I2;repeat' with_reducible first|apply AE<;>intro a|(apply A4;try dsimp only)|apply BN|apply BT|apply AA|(refine AF ?_ (Ew ?_);intro r hr)|(refine AF ?_ (UM ?_);intro r hr)
 all_goals ((try dsimp only[len]at*);(try first|omega|assumption|grind[AY,XD]))
def Xp{x:Av×Int}{b:Ao×Bool}{s:List Int×Int}(h:0<=s.2/\s.2<=x.1.1.length/\x.1.1.length<=1024/\s.1.length<=s.2):A2 (Ae (OD x b) s) λr=>r.length<=x.1.1.length:=by
 refine AM (λ(s:List Int×Int)=>0<=s.2/\s.2<=x.1.1.length/\x.1.1.length<=1024/\s.1.length<=s.2) (λ(s:List Int×Int)=>((x.1.1.length:Int)-s.2).toNat) h (λs c=>?_);unfold OD;repeat' with_reducible first|apply AC<;>intro a|apply AE<;>intro a|(apply A4;try dsimp only)|apply BN|apply BT|apply AA|(refine AF ?_ (OG ?_);intro r hr)|(apply AB (GD);intro r hr)|(refine AF ?_ (AD ?_ ?_);rintro r ⟨hr,d⟩)
 all_goals ((try dsimp only[len]at*);(try first|omega|assumption|grind[AY]))
def Xq{x:Av×Int}{b:Ao×Bool}{s:List Int×Int}(h:0<=s.2/\s.2<=x.1.2.length/\x.1.2.length<=1024/\s.1.length<=s.2+1024):A2 (Ae (OE x b) s) λr=>r.length<=4096:=by
 refine AM (λ(s:List Int×Int)=>0<=s.2/\s.2<=x.1.2.length/\x.1.2.length<=1024/\s.1.length<=s.2+1024) (λ(s:List Int×Int)=>((x.1.2.length:Int)-s.2).toNat) h (λs c=>?_);unfold OE;repeat' with_reducible first|apply AC<;>intro a|apply AK<;>intro a|apply AE<;>intro a|(apply A4;try dsimp only)|apply BN|apply BT|apply AA|(refine AF ?_ (OG ?_);intro r hr)|(apply AB (GD);intro r hr)|(refine AF ?_ (AD ?_ ?_);rintro r ⟨hr,d⟩)
 all_goals ((try dsimp only[len]at*);(try first|omega|assumption|grind[AY]))
def Kb{x:Av×Int}(h:GP x.1):A2 (Hp x) λr=>r.length<=4096:=by unfold Hp;refine AB (H6 h) λg d=>?_;refine AO (λ_=>AA (by simp)) (λb=>?_);have c:=d b;unfold XD at c;refine AB (Xp ⟨by simp,by simp,by omega,by simp⟩) λi f=>?_;refine AB (Xq ⟨by simp,by simp,by omega,by dsimp only;omega⟩) λe a=>?_;exact AA a
def O1{x:Av×List Int×Int}{a:List Int}{s:Int}(h:0<=s/\s<=a.length/\(a.length:Int)<=16777216/\1<=x.2.1.length/\x.2.1.length<=4096):A2 (Ae (K5 x a) s) λr=> ∀u,r= .inl u->u=x.2.1:=by
 refine AM (λ(s:Int)=>0<=s/\s<=a.length/\(a.length:Int)<=16777216/\1<=x.2.1.length/\x.2.1.length<=4096) (λ(s:Int)=>((a.length:Int)-s).toNat) h (λs c=>?_);unfold K5;repeat' with_reducible first|apply AC<;>intro b|apply AS<;>intro b|apply AE<;>intro b|apply AA|(refine AF ?_ (AD ?_ ?_);rintro r ⟨hr,d⟩)
 all_goals ((try dsimp only[len]at*);(try first|omega|assumption|grind[AY]))
def Ul{x:Av×List Int×Int}{b:Int}{s:Bool×Int}(h:0<=s.2/\s.2<=x.2.1.length/\x.2.1.length<=4096):A2 (Ae (K6 x b) s) λr=>True:=by
 refine AM (λ(s:Bool×Int)=>0<=s.2/\s.2<=x.2.1.length/\x.2.1.length<=4096) (λ(s:Bool×Int)=>((x.2.1.length:Int)-s.2).toNat) h (λs c=>?_);unfold K6;repeat' with_reducible first|apply AC<;>intro a|apply AS<;>intro a|apply AE<;>intro a|apply AA|(refine AF ?_ (AD ?_ ?_);rintro r ⟨hr,d⟩)
 all_goals ((try dsimp only[len]at*);(try first|omega|assumption|grind[AY]))
def yM(d:Nat){x:Av×List Int×Int}(h:GP x.1)(o:1<=x.2.1.length)(A:(x.2.1.length:Int)+d=x.2.2)(p:x.2.2<=4096):A2 (dK EV (d+1) x) λr=>r.length<=4096:=by
 induction d generalizing x with
 |zero=>show A2 (EV _ x) _;unfold EV;have e:=AY (x:=(x.2.1.length:Int)-1) (by omega);refine AB (AD (by simp only[len];rw[e];omega) (by simp only[len];rw[e];omega)) λv _=>?_;refine AB (Kb h) λm f=>?_;refine AS (λ_=>?_) (λc=>absurd (by simp only[len];omega) c);refine AB (O1 ⟨by simp,by simp,by omega,o,by omega⟩) λr hr=>?_;exact Az (λu a=>AA (by rw[hr u a];omega)) (λ_ _=>AA (by simp))
 |succ d t=>
  show A2 (EV _ x) _;unfold EV;have e:=AY (x:=(x.2.1.length:Int)-1) (by omega);refine AB (AD (by simp only[len];rw[e];omega) (by simp only[len];rw[e];omega)) λv _=>?_;refine AB (Kb h) λm f=>?_;refine AS (λ_=>?_) (λ_=>?_)
  ·refine AB (O1 ⟨by simp,by simp,by omega,o,by omega⟩) λr hr=>?_;exact Az (λu a=>AA (by rw[hr u a];omega)) (λ_ _=>AA (by simp))
  ·refine AB (P:=λr=> ∀u,r= .inl u->u.length<=4096) ?_ λr hr=>Az (λu a=>AA (hr u a)) (λ_ _=>AA (by simp));refine AM (λ(s:Int)=>0<=s/\s<=m.length) (λ(s:Int)=>((m.length:Int)-s).toNat) (s:=(0:Int)) ⟨by decide,by omega⟩ (λs q=>?_);unfold P0;have b:=AY (x:=s+1) (by omega);refine AC (λc=>?_) (λ_=>AA (λu a=>by cases a));simp only[len]at c;refine AB (AD q.1 c) λB _=>?_;refine AB (Ul ⟨by simp,by simp,by omega⟩) λw _=>?_;refine AE (λ_=>AA ⟨by rw[b];omega,by rw[b];omega⟩) (λ_=>?_);refine AB (Ac (by simp;omega)) λy g=>?_;have k:=g.2.1;simp only[BH]at k;refine AB (Ac (by simp;omega)) λn i=>?_;have l:=i.2.1;simp only[BC,BH]at l;refine AB (t (x:=(x.1,n,x.2.2)) h (by dsimp only;omega) (by dsimp only;omega) p) λz j=>?_;exact AC (λ_=>AA λu a=>by cases a;exact j) (λ_=>AA ⟨by rw[b];omega,by rw[b];omega⟩)
def Xr{x:Av×List Int×Int}(h:GP x.1)(a:1<=x.2.1.length)(d:(x.2.1.length:Int)<=x.2.2)(b:x.2.2<=4096):A2 (OF x) λr=>True:=by obtain⟨r,hr,_⟩:=yM (x.2.2-x.2.1.length).toNat h a (by omega) b;obtain⟨s,c⟩:=ah hr;exact⟨s,c,trivial⟩
def ZS{x:Av×Int}(h:GP x.1):A2 (Ka x) λr=>True:=by unfold Ka;refine AB (P:=λ_=>True) ?_ λr _=>Az (λ_ _=>AA trivial) (λ_ _=>AA trivial);refine AM (λs=>1<=s/\s<=4097) (λs=>(4097-s).toNat) ⟨by decide,by decide⟩ (λs d=>?_);unfold Qe;have a:=AY (x:=s+1) (by omega);refine AB (WY h) λe c=>?_;refine AC (λb=>?_) (λ_=>AA trivial);simp only[len]at b;refine AB (Xr h (by simp) (by show(1:Int)<=s;omega) (by show s<=4096;omega)) λf _=>?_;exact AC (λ_=>AA trivial) (λ_=>AA ⟨by rw[a];omega,by rw[a];omega⟩)
def TP(l:List Ai):Nat:=(l.map λt=>t.2.2.2.2.1.length+1).sum
theorem AAK{l:List Ai}{i:Nat}{o n:Ai}(h:l[i]? =some o):TP (l.set i n)+o.2.2.2.2.1.length=TP l+n.2.2.2.2.1.length:=by
 induction l generalizing i with
 |nil=>simp at h
 |cons t r a=>
  cases i with
  |zero=>simp at h;subst h;simp[TP];omega
  |succ i=>have:=a (i:=i) (by simpa using h);simp only[TP,List.set_cons_succ,BE,Q4]at*;omega
def nH{l:List Ai}{id:Int}:TP (l.filter λt=>t.1 !=id)<=TP l:=by
 induction l with
 |nil=>simp
 |cons t r a=>
  simp only[Jw];split
  ·simp only[TP,BE,Q4]at*;omega
  ·simp only[TP,BE,Q4]at*;omega
def oM{l:List Ai}{id:Int}{i:Nat}{t:Ai}(h:l[i]? =some t)(a:t.1=id):TP (l.filter λt=>t.1 !=id)<TP l:=by
 induction l generalizing i with
 |nil=>simp at h
 |cons u r b=>
  have q:=nH (l:=r) (id:=id);cases i with
  |zero=>simp at h;subst h;simp only[Jw,a,bne_self_eq_false,F3,if_false];simp only[TP,BE,Q4]at*;omega
  |succ i=>have:=b (i:=i) (by simpa using h);simp only[Jw];split<;>(simp only[TP,BE,Q4]at*;omega)
def Vp{x:List Ai×Int}{s:Int×List Ai}(h:0<=s.1/\s.1<=x.1.length/\x.1.length<=64/\s.2.length=s.1):A2 (Ae (Mc x) s) λr=>r.length<=x.1.length:=by
 refine AM (λ(s:Int×List Ai)=>0<=s.1/\s.1<=x.1.length/\x.1.length<=64/\s.2.length=s.1) (λ(s:Int×List Ai)=>((x.1.length:Int)-s.1).toNat) h (λs c=>?_);unfold Mc;repeat' with_reducible first|apply AC<;>intro a|apply AE<;>intro a|apply AA|(refine AF ?_ (AD ?_ ?_);rintro r ⟨hr,e⟩)|(refine AF ?_ (Ac ?_);rintro r ⟨hr,d,b⟩)
 all_goals ((try dsimp only[len]at*);(try first|omega|assumption|grind[AY]))
def Rj{x:List Ai×Int}:A2 (IH x) λr=>r.2=0->r.1.length=x.1.length+1/\r.1.length<=64:=by
 unfold IH;repeat' with_reducible first|apply AC<;>intro a|apply AO<;>intro a|apply AS<;>intro a|apply AE<;>intro a|apply AA|(apply AB (ED);intro r hr)|(refine AF ?_ (He ?_);intro r hr)|(refine AF ?_ (Vp ?_);intro r hr)|(refine AF ?_ (Ac ?_);rintro r ⟨hr,b,c⟩)|(refine AF ?_ (B0 ?_ ?_ ?_);rintro r ⟨hr,b⟩)
 all_goals ((try dsimp only[len]at*);(try first|omega|assumption|grind[AY,WD]))
def vE(l:List Ai)(id:Int):List Ai:=l.filter λt=>t.1 !=id
theorem iF(l:List Ai)(id:Int):(vE l id).length<=l.length:=J4 _ _
theorem zH(l:List Ai)(id:Int):TP (vE l id)<=TP l:=nH
theorem zI{l:List Ai}{id:Int}{i:Nat}{t:Ai}(h:l[i]? =some t)(a:t.1=id):TP (vE l id)<TP l:=oM h a
def uh{a:Type}{l:List a}{n:Int}{p:a->Bool}{x:a}(c:0<=n)(b:l[n.toNat]? =some x):(l.take (n+1).toNat).filter p=(l.take n.toNat).filter p++(if p x=true then [x]else []):=by
 have e:(n+1).toNat=n.toNat+1:=by omega
 rw[e,Ff,b,J6,LN];congr 1;simp only[Jw,im]
def wP{a:Type}{l:List a}{n:Int}{p:a->Bool}(b:0<=n):(((l.take n.toNat).filter p).length:Int)<=n:=by have c:=J4 p (l.take n.toNat);have d:=Cn (i:=n.toNat) (l:=l);omega
def Us{x:List Ai×Int}{s:Int×List Ai}(h:0<=s.1/\s.1<=x.1.length/\x.1.length<=16777216/\s.2=(x.1.take s.1.toNat).filter (λt=>t.1 !=x.2)):A2 (Ae (LB x) s) λr=>r=x.1.filter λt=>t.1 !=x.2:=by
 refine AM (λ(s:Int×List Ai)=>0<=s.1/\s.1<=x.1.length/\x.1.length<=16777216/\s.2=(x.1.take s.1.toNat).filter (λt=>t.1 !=x.2)) (λ(s:Int×List Ai)=>((x.1.length:Int)-s.1).toNat) h (λs g=>?_);unfold LB;obtain⟨b,j,f,c⟩:=g;have a:=wP (l:=x.1) (p:=λt:Ai=>t.1 !=x.2) b;rw[<-c]at a;repeat' with_reducible first|apply AC<;>intro d|apply AK<;>intro d|apply AE<;>intro d|(apply A4;try dsimp only)|apply BN|apply BT|apply AA|(refine AF ?_ (AD ?_ ?_);rintro r ⟨hr,m⟩)|(refine AF ?_ (Ac ?_);rintro r ⟨hr,k,i⟩)
 all_goals dsimp only[len]at*
 all_goals first|omega|(have e:=AY (x:=s.1+1) (by omega);rw[e];refine⟨⟨by omega,by omega,f,?_⟩,by omega⟩;rw[uh b (by assumption)];grind)|(rw[c,Dq (by omega)])|(simp;omega)
def Ia{x:List Ai×Int}(h:x.1.length<=16777216):A2 (Ga x) λr=>r=vE x.1 x.2:=by
 unfold Ga vE
 repeat' first
   |with_reducible apply AE<;>intro a
   |(with_reducible apply A4;try dsimp only)
   |with_reducible apply BN
   |with_reducible apply BT
   |with_reducible apply AA
   |(with_reducible refine AF ?_ (Us ?_);intro r hr)
 all_goals ((try dsimp only[len]at*);(try first|omega|assumption|grind[AY]))
def Me{x:Ai}(h:x.2.2.2.2.1.length<=16777216):A2 (Hf x) λr=>r.1=x.1/\r.2.2.2.2=x.2.2.2.2:=by
 unfold Hf;repeat' with_reducible first|apply AC<;>intro a|apply AS<;>intro a|apply AE<;>intro a|(apply A4;try dsimp only)|apply BN|apply BT|apply AA|(refine AF ?_ (AD ?_ ?_);rintro r ⟨hr,b⟩)
 all_goals ((try dsimp only[len]at*);(try first|omega|assumption|grind[AY]))
def Kg{x:List Ai×Int×Ai}(h:x.1.length<=16777216)(a:0<=x.2.1/\x.2.1<x.1.length):A2 (Hs x) λr=>r=x.1.set x.2.1.toNat x.2.2:=by unfold Hs;refine AB (Ac (by simpa using h)) λr hr=>?_;obtain⟨hr,b,_⟩:=hr;rw[CA]at hr;subst hr;refine AB (AD a.1 a.2) λ_ _=>?_;refine AB (AD a.1 a.2) λ_ _=>?_;exact AA rfl
def P7{x:List Ai×AI}{a:Ai}{s:Int×List Int}(h:0<=s.1/\s.1<=a.2.2.2.2.1.length/\a.2.2.2.2.1.length<=4096/\s.2.length<=s.1):A2 (Ae (NW x a) s) λr=>r.length<=a.2.2.2.2.1.length:=by
 refine AM (λ(s:Int×List Int)=>0<=s.1/\s.1<=a.2.2.2.2.1.length/\a.2.2.2.2.1.length<=4096/\s.2.length<=s.1) (λ(s:Int×List Int)=>((a.2.2.2.2.1.length:Int)-s.1).toNat) h (λs d=>?_);unfold NW;repeat' with_reducible first|apply AC<;>intro b|apply AK<;>intro b|apply AE<;>intro b|(apply A4;try dsimp only)|apply BN|apply BT|apply AA|(refine AF ?_ (AD ?_ ?_);rintro r ⟨hr,f⟩)|(refine AF ?_ (Ac ?_);rintro r ⟨hr,e,c⟩)
 all_goals ((try dsimp only[len]at*);(try first|omega|assumption|grind[AY]))
def cg(l:List Ai)(id:Int):Prop:= ∃(j:Nat) (t:Ai),l[j]? =some t/\t.1=id
theorem cg.set{l:List Ai}{i:Nat}{n:Ai}{id:Int}(h:i<l.length)(hn:n.1=id):cg (l.set i n) id:=⟨i,n,by rw[EI h],hn⟩
def tE(l:List Ai)(kind tx:Int)(m:List Ai):Prop:=m.length<=l.length/\(tx=0->m=l)/\(tx≠0->kind≠1->(kind≠4->TP m<TP l)/\TP m<=TP l)/\(tx≠0->kind=4->cg m tx)
def SN{x:List Ai×AI}:A2 (FB x) λr=>r.2=0->tE x.1 x.2.2.1 x.2.2.2.1 r.1:=by
 unfold FB;repeat' with_reducible first|apply AC<;>intro a|apply AO<;>intro a|apply AS<;>intro a|apply AK<;>intro a|apply AE<;>intro a|(apply A4;try dsimp only)|apply BN|apply BT|apply Js|(apply BK;try dsimp only)|(apply BG;try dsimp only)|(apply Az<;>(intro u c;try subst c))|apply AA|(apply AB (ED);intro r hr)|(apply AB (CH);intro r hr)|(refine AF ?_ (He ?_);intro r hr)|(refine AF ?_ (P7 ?_);intro r hr)|(refine AF ?_ (Ia ?_);intro r hr)|(refine AF ?_ (Me ?_);intro r hr)|(refine AF ?_ (Kg ?_ ?_);intro r hr)|(refine AF ?_ (AD ?_ ?_);rintro r ⟨hr,f⟩)|(refine AF ?_ (Ac ?_);rintro r ⟨hr,e,b⟩)
 all_goals dsimp only[len]at*
 all_goals first|omega|(intro d;exact absurd d (by decide))|(unfold WD xn at*;(first|omega|grind[tE,AAK,zI,zH,iF,List.length_set,cg.set]))
def Qg{x:List Ai×Int}:A2 (Hd x) λr=>r.2=0->WD x.1/\0<=r.1/\r.1<x.1.length:=by
 unfold Hd;repeat' with_reducible first|apply AC<;>intro a|apply AO<;>intro a|apply AK<;>intro a|apply AE<;>intro a|apply AA|(apply AB (ED);intro r hr)|(refine AF ?_ (He ?_);intro r hr)|(refine AF ?_ (AD ?_ ?_);rintro r ⟨hr,b⟩)
 all_goals ((try dsimp only[len]at*);(try first|omega|assumption|grind[AY,WD]))
def az{x:List Ai×Int}:A2 (Lo x) λr=>r.2=0->r.1.length<=64:=by
 unfold Lo;repeat' with_reducible first|apply AS<;>intro a|apply AK<;>intro a|apply AE<;>intro a|apply AA|(apply AB (Qg);intro r hr)|(refine AF ?_ (Kg ?_ ?_);intro r hr)|(refine AF ?_ (AD ?_ ?_);rintro r ⟨hr,e⟩)|(refine AF ?_ (Ac ?_);rintro r ⟨hr,d,b⟩)
 all_goals try dsimp only[len]at*
 all_goals first|omega|(intro c;exact absurd c (by assumption))|grind[WD,xn,List.length_set]
def ay{x:List Ai×Int×Int}:A2 (Ln x) λr=>r.2=0->r.1.length<=64:=by
 unfold Ln;repeat' with_reducible first|apply AC<;>intro a|apply AK<;>intro a|apply AE<;>intro a|apply AA|(apply AB (Qg);intro r hr)|(refine AF ?_ (Me ?_);intro r hr)|(refine AF ?_ (Kg ?_ ?_);intro r hr)|(refine AF ?_ (AD ?_ ?_);rintro r ⟨hr,e⟩)|(refine AF ?_ (Ac ?_);rintro r ⟨hr,b,c⟩)|(refine AF ?_ (B0 ?_ ?_ ?_);rintro r ⟨hr,b⟩)
 all_goals try dsimp only[len]at*
 all_goals first|omega|(intro d;exact absurd d (by assumption))|grind[WD,xn,List.length_set,AY]
def cU{x:By×Int×RM}(h:x.1.length<=16777216)(a:0<=x.2.1/\x.2.1<x.1.length):A2 (Mw x) λr=>r=x.1.set x.2.1.toNat x.2.2:=by unfold Mw;refine AB (Ac (by simpa using h)) λr hr=>?_;obtain⟨hr,b,_⟩:=hr;rw[CA]at hr;subst hr;refine AB (AD a.1 a.2) λ_ _=>?_;refine AB (AD a.1 a.2) λ_ _=>?_;exact AA rfl
def OI{x:By×AI}:A2 (HE x) λr=>r.2=0->r.1.length=x.1.length:=by
 unfold HE;repeat' with_reducible first|apply AC<;>intro a|apply AO<;>intro a|apply AK<;>intro a|apply AE<;>intro a|apply AA|(apply AB (F5);intro r hr)|(apply AB (CH);intro r hr)|(refine AF ?_ (cU ?_ ?_);intro r hr)|(refine AF ?_ (AD ?_ ?_);rintro r ⟨hr,e⟩)
 all_goals try (have b:Pd x.2:=by grind)
 all_goals try (have d:0<=x.2.2.2.2.2.2.2.1.1:=by unfold Pd VI Th Ow at b;grind)
 all_goals try dsimp only[len]at*
 all_goals first|omega|(intro c;exact absurd c (by decide))|grind[fP,List.length_set]
def Hg{x:AT×Int}(h:SK x.1):A2 (GG x) λr=>True:=by
 unfold GG;repeat' with_reducible first|apply AC<;>intro a|apply AO<;>intro a|apply AE<;>intro a|apply AA|(refine AF ?_ (Bu ?_);intro r hr)|(apply AB (IG);intro r hr)|(refine AF ?_ (I5 ?_);intro r hr)|(refine AF ?_ (AD ?_ ?_);rintro r ⟨hr,b⟩)
 all_goals ((try dsimp only[len]at*);(try first|omega|assumption|grind[AY,VK]))
def LX(a b:Am):Prop:=b.1=a.1/\ ∃t,b.2.1=a.2.1++t
def LX.refl(a:Am):LX a a:=⟨rfl,[],by simp⟩
def LX.trans{a b c:Am}(h:LX a b)(g:LX b c):LX a c:=by obtain⟨f,t,i⟩:=h;obtain⟨d,u,e⟩:=g;exact⟨d.trans f,t++u,by rw[e,i,Ax]⟩
def LX.get{a b:Am}(h:LX a b){i:Nat}{e:AI}(c:a.2.1[i]? =some e):b.2.1[i]? =some e:=by
 obtain⟨f,t,d⟩:=h;rw[d,BW]
 ·exact c
 ·rcases Ag i a.2.1.length with h|h
  ·exact h
  ·rw[BP h]at c;cases c
def zz(k:AT)(kind tx:Int)(m:AT):Prop:=
 m.1=k.1/\LX k.2.2.1 m.2.2.1/\D3 m.2.2.1/\m.2.2.2.1=k.2.2.2.1/\m.2.2.2.2.1=k.2.2.2.2.1/\tE k.2.2.2.2.2.1 kind tx m.2.2.2.2.2.1/\m.2.2.2.2.2.2.2=k.2.2.2.2.2.2.2/\SK m
def Fl{x:AT×AI}(h:SK x.1):A2 (DX x) λr=>r.2.2=0->VK x.1/\zz x.1 x.2.2.1 x.2.2.2.1 r.1:=by
 unfold DX;refine AB (Bu h) λv A=>?_;refine AO (λa=>AA (λb=>absurd b (by decide))) (λa=>?_);have w:=A a;refine AB (P:=λs=>(∃u,s= .inl u/\u.2.1≠0)\/ ∃u,s= .inr u/\u.1.2.1=x.2.2.1/\u.1.2.2.1=x.2.2.2.1) ?_ λs z=>?_
 ·repeat' with_reducible first|apply AC<;>intro a|apply AO<;>intro a|apply AK<;>intro a|apply AE<;>intro a|(apply A4;try dsimp only)|apply BN|apply BT|apply Js|(apply BK;try dsimp only)|(apply BG;try dsimp only)|(apply Az<;>(intro u c;try subst c))|apply AA|(refine AF ?_ (ES ?_);intro r hr)|(refine AF ?_ (AD ?_ ?_);rintro r ⟨hr,y⟩)
  all_goals ((try dsimp only[len]at*);(try first|omega|assumption|grind[AY,SK]))
 ·rcases z with⟨u,rfl,c⟩|⟨u,rfl,c⟩
  ·exact BK (AA λb=>absurd b c)
  ·apply BG;refine AB (Cf) λI F=>?_;refine AB (P:=λv:AI=>v.2.1=x.2.2.1/\v.2.2.1=x.2.2.2.1) ?_ λD k=>?_
   ·repeat' with_reducible first|apply AC<;>intro a|apply AO<;>intro a|apply AK<;>intro a|apply AE<;>intro a|(apply A4;try dsimp only)|apply BN|apply BT|apply Js|(apply BK;try dsimp only)|(apply BG;try dsimp only)|(apply Az<;>(intro u c;try subst c))|apply AA|(refine AF ?_ (Hg ?_);intro r hr)|(refine AF ?_ (AD ?_ ?_);rintro r ⟨hr,y⟩)
    all_goals ((try dsimp only[len]at*);(try first|omega|assumption|grind[AY]))
   ·refine AB (Qd) λf p=>?_;refine AK (λa=>AA (λb=>absurd b a)) (λa=>?_);obtain⟨a1,a2,a3,a4,a5⟩:=p a;dsimp only at a2 a3 a4 a5;refine AB (Fk) λj d=>?_;refine AB (SN) λB i=>?_;refine AK (λa=>AA (λb=>absurd b a)) (λe=>?_);refine AB (OI) λC o=>?_;refine AK (λa=>AA (λb=>absurd b a)) (λl=>?_);refine AA λ_=>⟨w,?_⟩
    have G:=a2.1;have H:f.1.2.1.length=x.1.2.2.1.2.1.length+1:=by rw[a3];simp
    have q:=d.2 a1 (by dsimp only;omega) (by dsimp only;omega);obtain⟨E,m,g,n⟩:=d.1 q;dsimp only at m g n;have t:j.1=(f.2.1,D.2):=by
     have:(f.2.1-f.1.1).toNat=x.1.2.2.1.2.1.length:=by omega
     rw[this,a3]at g;simpa using g.symm
    have hn:=i e;rw[t]at hn;dsimp only at hn;rw[k.1,k.2]at hn;exact⟨rfl,⟨a4,_,a3⟩,a1,rfl,rfl,hn,rfl,h.1,by have:=hn.1;have:=h.2.1;dsimp only at*;omega,h.2.2⟩
def DI(d:Bx):Prop:=d.1.length<=64/\(∀(i:Nat) (s:Bf),d.1[i]? =some s->s.length=256)/\d.2.2.1=[]/\d.2.2.2.2=[]
def Uj{x:Int}{s:Int×List Bf}(h:0<=s.1/\s.1<=x/\x<=64/\s.2.length=s.1/\ ∀(i:Nat) (t:Bf),s.2[i]? =some t->t.length=256):A2 (Ae (K3 x) s) λr=>(r.length:Int)=x/\ ∀(i:Nat) (t:Bf),r[i]? =some t->t.length=256:=by
 refine AM (λ(s:Int×List Bf)=>0<=s.1/\s.1<=x/\x<=64/\s.2.length=s.1/\ ∀(i:Nat) (t:Bf),s.2[i]? =some t->t.length=256) (λ(s:Int×List Bf)=>(x-s.1).toNat) h (λs c=>?_);unfold K3;obtain⟨g,j,a,k,b⟩:=c;have l:(GA (List.replicate (Int.toNat 256) 0)).length=256:=by rw[LU,List.length_replicate];rfl
 repeat' with_reducible first|apply AC<;>intro d|apply AE<;>intro d|apply AA|(refine AF ?_ (Ac ?_);rintro r ⟨hr,m,f⟩)
 all_goals first|omega|(generalize GA (List.replicate (Int.toNat 256) 0)=bs at*;simp;omega)|(generalize GA (List.replicate (Int.toNat 256) 0)=bs at*;have e:=AY (x:=s.1+1) (by omega);rw[e];refine⟨⟨by omega,by omega,a,by grind,?_⟩,by omega⟩;grind)|(exact⟨by omega,b⟩)
def QZ{x:Int}(h:0<=x/\x<=64):A2 (Jd x) λr=>(r.length:Int)=x/\ ∀(i:Nat) (t:Bf),r[i]? =some t->t.length=256:=by
 unfold Jd;repeat' with_reducible first|apply AA|(refine AF ?_ (Uj ?_);intro r hr)
 all_goals ((try dsimp only[len]at*);(try first|omega|assumption|grind[AY]))
def cP{x:Int}:A2 (Hn x) λr=>r.2=0->DI r.1/\r.1.1.length=x:=by
 unfold Hn;repeat' with_reducible first|apply AC<;>intro a|apply AE<;>intro a|apply AA|(refine AF ?_ (QZ ?_);intro r hr)
 all_goals ((try dsimp only[len]at*);(try first|omega|assumption|grind[DI]))
def ZN{x:Bx×Cq}:A2 (KX x) λr=>True:=by
 unfold KX;repeat' with_reducible first|apply AC<;>intro a|apply AS<;>intro a|apply AE<;>intro a|(apply A4;try dsimp only)|apply BN|apply BT|apply Js|(apply BK;try dsimp only)|(apply BG;try dsimp only)|(apply Az<;>(intro u b;try subst b))|apply AA
 all_goals trivial
def Vf{x:Bx}{s:Int}(h:0<=s/\s<=x.1.length/\(x.1.length:Int)<=16777216):A2 (Ae (MM x) s) λr=>r≠ .inl true:=by
 refine AM (λ(s:Int)=>0<=s/\s<=x.1.length/\(x.1.length:Int)<=16777216) (λ(s:Int)=>((x.1.length:Int)-s).toNat) h (λs b=>?_);unfold MM;repeat' with_reducible first|apply AC<;>intro a|apply AK<;>intro a|apply AE<;>intro a|apply AA|(refine AF ?_ (AD ?_ ?_);rintro r ⟨hr,c⟩)
 all_goals ((try dsimp only[len]at*);(try first|omega|assumption|grind[AY]))
def Vg{x:Bx}{s:Int}(h:0<=s/\s<=x.2.2.1.length/\(x.2.2.1.length:Int)<=16777216):A2 (Ae (MN x) s) λr=>r≠ .inl true:=by
 refine AM (λ(s:Int)=>0<=s/\s<=x.2.2.1.length/\(x.2.2.1.length:Int)<=16777216) (λ(s:Int)=>((x.2.2.1.length:Int)-s).toNat) h (λs b=>?_);unfold MN;repeat' with_reducible first|apply AC<;>intro a|apply AE<;>intro a|apply AA|(refine AF ?_ (AD ?_ ?_);rintro r ⟨hr,c⟩)
 all_goals ((try dsimp only[len]at*);(try first|omega|assumption|grind[AY]|((try simp (disch:=omega) only[AY,len]at*)<;>(try intros)<;>(try and_intros)<;>(try intros)<;>(first|omega|assumption|grind))))
def Vh{x:Bx}{s:Int}(h:0<=s/\s<=x.2.2.2.2.length/\(x.2.2.2.2.length:Int)<=16777216):A2 (Ae (MO x) s) λr=>r≠ .inl true:=by
 refine AM (λ(s:Int)=>0<=s/\s<=x.2.2.2.2.length/\(x.2.2.2.2.length:Int)<=16777216) (λ(s:Int)=>((x.2.2.2.2.length:Int)-s).toNat) h (λs b=>?_);unfold MO;repeat' with_reducible first|apply AC<;>intro a|apply AO<;>intro a|apply AE<;>intro a|apply AA|(apply AB (ZN);intro r hr)|(refine AF ?_ (AD ?_ ?_);rintro r ⟨hr,c⟩)
 all_goals ((try dsimp only[len]at*);(try first|omega|assumption|grind[AY]))
def ZL{x:Bx}(h:x.2.2.1.length<=16777216):A2 (KW x) λr=>r=true->1<=x.1.length/\x.1.length<=64:=by
 unfold KW;repeat' with_reducible first|apply AC<;>intro a|apply AE<;>intro a|(apply BK;try dsimp only)|(apply BG;try dsimp only)|(apply Az<;>(intro u b;try subst b))|apply AA|(refine AF ?_ (Vf ?_);intro r hr)|(refine AF ?_ (Vg ?_);intro r hr)|(refine AF ?_ (Vh ?_);intro r hr)
 all_goals ((try dsimp only[len]at*);(try first|omega|assumption|grind[AY]))
def MS{x:Bx×Int}(h:x.1.2.2.1.length<=16777216):A2 (GW x) λr=>r=0->0<=x.2/\x.2<x.1.1.length/\x.1.1.length<=64:=by
 unfold GW;repeat' with_reducible first|apply AC<;>intro a|apply AO<;>intro a|apply AE<;>intro a|apply AA|(refine AF ?_ (ZL ?_);intro r hr)
 all_goals ((try dsimp only[len]at*);(try first|omega|assumption|grind[AY]))
def UK{x:List Int×Int}{s:Int×List Int}(h:0<=s.1/\s.1<=x.1.length/\x.1.length<=16777216/\s.2.length<=s.1):A2 (Ae (KB x) s) λr=>r.length<=x.1.length:=by
 refine AM (λ(s:Int×List Int)=>0<=s.1/\s.1<=x.1.length/\x.1.length<=16777216/\s.2.length<=s.1) (λ(s:Int×List Int)=>((x.1.length:Int)-s.1).toNat) h (λs c=>?_);unfold KB;repeat' with_reducible first|apply AC<;>intro a|apply AK<;>intro a|apply AE<;>intro a|(apply A4;try dsimp only)|apply BN|apply BT|apply AA|(refine AF ?_ (AD ?_ ?_);rintro r ⟨hr,e⟩)|(refine AF ?_ (Ac ?_);rintro r ⟨hr,d,b⟩)
 all_goals ((try dsimp only[len]at*);(try first|omega|assumption|grind[AY]))
def Py{x:List Int×Int}(h:x.1.length<=16777216):A2 (Ev x) λr=>r.length<=x.1.length:=by
 unfold Ev;repeat' with_reducible first|apply AA|(refine AF ?_ (UK ?_);intro r hr)
 all_goals ((try dsimp only[len]at*);(try first|omega|assumption|grind[AY]))
def Xm{x:List Int×Int}{s:Int}(h:0<=s/\s<=x.1.length/\(x.1.length:Int)<=16777216):A2 (Ae (OB x) s) λr=>True:=by
 refine AM (λ(s:Int)=>0<=s/\s<=x.1.length/\(x.1.length:Int)<=16777216) (λ(s:Int)=>((x.1.length:Int)-s).toNat) h (λs b=>?_);unfold OB;repeat' with_reducible first|apply AC<;>intro a|apply AS<;>intro a|apply AE<;>intro a|apply AA|(refine AF ?_ (AD ?_ ?_);rintro r ⟨hr,c⟩)
 all_goals ((try dsimp only[len]at*);(try first|omega|assumption|grind[AY]))
def cQ{x:List Int×Int}(h:x.1.length<=16777216):A2 (Mu x) λr=>True:=by
 unfold Mu;repeat' with_reducible first|(apply BK;try dsimp only)|(apply BG;try dsimp only)|(apply Az<;>(intro u a;try subst a))|apply AA|(refine AF ?_ (Xm ?_);intro r hr)
 all_goals ((try dsimp only[len]at*);(try first|omega|assumption|grind[AY]))
def ak{x:Bx×Int}(h:DI x.1):A2 (Lf x) λr=>r.2=0->r.1.length=256:=by
 unfold Lf;repeat' with_reducible first|apply AK<;>intro a|apply AE<;>intro a|apply AA|(refine AF ?_ (MS ?_);intro r hr)|(refine AF ?_ (cQ ?_);intro r hr)|(refine AF ?_ (AD ?_ ?_);rintro r ⟨hr,b⟩)
 all_goals ((try dsimp only[len]at*);(try first|omega|assumption|grind[DI]))
def DI.set{d:Bx}{l:List Bf}{i:Int}{t:Bf}{u:List Int}{w:Int}{b:Bool}(h:DI d)(e:l=d.1)(n:t.length=256)(f:u.length<=([]:List Int).length):DI (BZ l i t,w,u,b,[]):=by subst e;obtain⟨a,g,k,m⟩:=h;refine⟨by simpa[BZ]using a,λj s c=>?_,List.length_eq_zero_iff.1 (by simpa using f),rfl⟩;unfold BZ at c;grind
def om{d:Bx}{l:List Bf}{i:Int}{t:Bf}{u v:List Int}{f:List Cq}{w:Int}{b:Bool}(h:DI d)(c:l=[]++d.1)(e:t.length=256)(g:u.length<=v.length)(j:v=[]++[])(a:f=[]++[]):DI (BZ l i t,w,u,b,f):=by subst a j;exact h.set (by simpa using c) e (by simpa using g)
def am{x:Bx×Int×Bf×Int}(h:DI x.1):A2 (Lg x) λr=>r.2=0->DI r.1:=by
 obtain⟨f,g,b,c⟩:=h;unfold Lg;rw[b,c];repeat' with_reducible first|apply AC<;>intro d|apply AK<;>intro d|apply AE<;>intro d|apply AA|(refine AF ?_ (MS ?_);intro r hr)|(refine AF ?_ (Py ?_);intro r hr)|(refine AF ?_ (AD ?_ ?_);rintro r ⟨hr,j⟩)|(refine AF ?_ (Ac ?_);rintro r ⟨hr,e,i⟩)|(refine AF ?_ (CE ?_);rintro r ⟨hr,e⟩)|(refine AF ?_ (C3 ?_ ?_ ?_);rintro r ⟨hr,e⟩)
 all_goals first|omega|(intro a;exact absurd a (by assumption))|(intro a;exact absurd a (by decide))|(simp;done)|(simp;omega)|(exact λ_=>om ⟨f,g,b,c⟩ (by assumption) (by grind) hr (by assumption) (by assumption))|grind
def ZM{x:Bx×Int×Bf}(h:DI x.1):A2 (Oo x) λr=>r.2=0->DI r.1/\r.1.1.length=x.1.1.length:=by
 have n:=h;obtain⟨B,C,g,i⟩:=h;refine AB (MS (by dsimp only;rw[g];simp)) λD q=>?_;refine AK (λb=>AA (λc=>absurd c b)) (λb=>?_);refine AK (λb=>AA (λc=>absurd c (by decide))) (λf=>?_);refine AS (λb=>AA (λc=>absurd c (by decide))) (λp=>?_);refine AB (Ac (by simp;omega)) λy t=>?_;refine AB (Ac (by rw[g];simp)) λz u=>?_;refine AB (Ac (by rw[i];simp)) λA v=>?_;have k:y=x.1.1:=by grind
 have l:z=[]:=by grind
 have m:A=[]:=by grind
 subst k l m;have l1: ∀s,s.1=0->Ae (MP x) s=some s.2:=λs d=>by rw[Cg];unfold MP;rw[i,d];rfl
 rw[l1 _ rfl];apply A4;have l2: ∀a s,a.1=[]->s.2.1=0->Ae (MQ x a) s=some (s.1,(s.2.2.2.2.2.2.1,(s.2.2.2.2.2.1,s.2.2.2.2.2.2.2))):=λa s e d=>by rw[Cg];unfold MQ;rw[e,d];rfl
 have w: ∀a s,a.1=[]->s.1=0->Ae (MR a) s=some (s.2.2.2.2.2.1,(s.2.2.2.2.1,s.2.2.2.2.2.2)):=λa s e d=>by rw[Cg];unfold MR;rw[e,d];rfl
 rw[l2 _ _ rfl rfl];repeat' with_reducible first|apply AC<;>intro b|apply AO<;>intro b|apply AS<;>intro b|apply AK<;>intro b|apply AE<;>intro b|(apply A4;try dsimp only)|apply BN|apply BT|apply AA|(rw[w _ _ rfl rfl];apply A4;dsimp only)|(refine AF ?_ (Py ?_);intro r hr)|(refine AF ?_ (AD ?_ ?_);rintro r ⟨hr,p⟩)|(refine AF ?_ (Ac ?_);rintro r ⟨hr,j,o⟩)|(refine AF ?_ (CE ?_);rintro r ⟨hr,j⟩)|(refine AF ?_ (C3 ?_ ?_ ?_);rintro r ⟨hr,j⟩)
 all_goals first|omega|(simp;done)|(intro c;exact absurd c (by decide))|(exact λ_=>⟨n.set rfl (by grind) hr,by simp[BZ]⟩)|(cases b;done)|grind
def DC(p:Be):Nat:=p.2.1.countP λf=>f.2.1
def UC(p:Be):Nat:=p.2.1.countP λf=>f.2.2.2
def rZ{a:Type}{l:List a}{i:Nat}{o n:a}{q:a->Bool}(h:l[i]? =some o):(l.set i n).countP q+(if q o=true then 1 else 0)=l.countP q+(if q n=true then 1 else 0):=by grind
def Ke{x:Be×Int×BU}(h:x.1.2.1.length<=16777216)(a:0<=x.2.1/\x.2.1<x.1.2.1.length):A2 (Hq x) λr=>r=(x.1.1,x.1.2.1.set x.2.1.toNat x.2.2,x.1.2.2):=by refine AB (Ac (by simpa using h)) λr hr=>?_;obtain⟨hr,b,_⟩:=hr;subst hr;refine AB (AD a.1 a.2) λ_ _=>?_;refine AB (AD a.1 a.2) λ_ _=>?_;exact AA rfl
def pm(f:BU):BA×Bool×Int:=(f.1,f.2.1,f.2.2.1)
def CF(l:List BU):List (BA×Bool×Int):=l.map pm
def z7{l:List BU}{i:Nat}{f g:BU}(h:l[i]? =some f)(a:pm g=pm f):CF (l.set i g)=CF l:=by unfold CF;apply M6;grind
def rI{l m:List BU}(h:CF m=CF l){i:Nat}{f:BU}(a:m[i]? =some f): ∃g,l[i]? =some g/\pm g=pm f:=by
 have:(CF m)[i]? =some (pm f):=by unfold CF;rw[List.getElem?_map,a];rfl
 rw[h]at this;unfold CF at this;grind
def z6{l m:List BU}(h:CF m=CF l):m.length=l.length:=by have:=congrArg List.length h;simpa[CF]using this
def tB{p:Be}:DC p=(CF p.2.1).countP λc=>c.2.1:=by unfold DC CF;rw[List.countP_map];rfl
def JU.congr{l m:List BU}{n:Int}(h:CF m=CF l)(e:JU l n):JU m n:=by
 refine⟨λi f s c=>?_,λi j f g d t c r=>?_⟩
 ·obtain⟨g,a,b⟩:=rI h c;have:=e.1 i g s a;unfold pm at b;unfold iP at*;grind
 ·obtain⟨k,a,b⟩:=rI h c;obtain⟨o,p,q⟩:=rI h r;have:=e.2 i j k o d t a p;unfold pm at b q;grind
def RO.uniq{p:Be}(h:RO p){i j:Nat}{f g:BU}(a:p.2.1[i]? =some f)(b:p.2.1[j]? =some g)(e:f.1.1=g.1.1):f=g:=by have c:=h.2.2.2.2.2.2;grind
def Um{c:List (BA×Bool×Int)}{z:Int}{s:Be}(h:c=CF s.2.1/\z=s.1/\0<=s.2.2/\s.2.2<s.2.1.length/\s.2.1.length<=64):A2 (Ae P4 s) λr=>c=CF r.2.1/\z=r.1/\0<=r.2.2/\r.2.2<r.2.1.length/\r.2.1.length<=64:=by
 refine AM (λs=>c=CF s.2.1/\z=s.1/\0<=s.2.2/\s.2.2<s.2.1.length/\s.2.1.length<=64) UC h (λs n=>?_);obtain⟨k,l,i,j,m⟩:=n;refine AB (AD i j) λf q=>?_;refine AE (λo=>?_) (λo=>AA ⟨k,l,i,j,m⟩);refine AB (AD i j) λd t=>?_;have e:d=f:=by grind
 subst e;refine AB (Ke (by dsimp only;omega) ⟨i,j⟩) λp v=>?_;subst v;have u:(s.2.1.set s.2.2.toNat (d.1,d.2.1,d.2.2.1,false)).length=s.2.1.length:=Zw;refine AS (λw=>?_) (λw=>AA ?_)
 ·grind
 ·have e:=AY (x:=s.2.2+1) (by omega);have y:=YS (len (s.2.1.set s.2.2.toNat (d.1,d.2.1,d.2.2.1,false))) (a:=s.2.2+1) (by omega);have A:=YR (s.2.2+1) (b:=len (s.2.1.set s.2.2.toNat (d.1,d.2.1,d.2.2.1,false))) (by simp;omega);rw[e];refine⟨⟨?_,l,y,A,by rw[u];exact m⟩,?_⟩
  ·rw[k];exact(z7 (g:=(d.1,d.2.1,d.2.2.1,false)) q.1 rfl).symm
  ·unfold UC;grind
def Xu{x:Be}:A2 (OH x) λr=>(r.2.2=0->RO x/\RO r.1/\CF r.1.2.1=CF x.2.1/\gM r.1 r.2.1)/\(RO x->x.2.1.length≠0->r.2.2=0):=by
 refine AB EC λv i=>?_;refine AO (λc=>AA ⟨λa=>absurd a (by decide),λh _=>?_⟩) (λc=>?_)
 ·grind
 have b:=i.1 c;have g:=b;obtain⟨l,m,n,j,o,k⟩:=b;refine AS (λa=>AA ⟨λa=>absurd a (by decide),λ_ h=>absurd a (by simpa[len]using h)⟩) (λa=>?_);simp only[len]at a;refine AB (Um ⟨rfl,rfl,j,by omega⟩) λp b=>?_;obtain⟨q1,q2,q3,q4,q5⟩:=b;refine AB (AD q3 q4) λf d=>?_;have e:=z6 q1;refine AA ⟨λ_=>⟨g,⟨by dsimp only;omega,by dsimp only;omega,by dsimp only;omega,q3,.inr q4,?_⟩,q1.symm,⟨_,f,d.1,rfl⟩⟩,λ_ _=>rfl⟩;rw[<-e];exact JU.congr q1.symm k
def aw{x:Be×Int}:A2 (Lm x) λr=>True:=by
 unfold Lm;repeat' with_reducible first|apply AC<;>intro b|apply AO<;>intro b|apply AE<;>intro b|(apply A4;try dsimp only)|apply BN|apply BT|apply AA|(apply AB (EC);intro r hr)|(refine AF ?_ (GZ ?_);intro r hr)|(refine AF ?_ (AD ?_ ?_);rintro r ⟨hr,h⟩)|(refine AF ?_ (Ac ?_);rintro r ⟨hr,c,d⟩)|(refine AF ?_ (B0 ?_ ?_ ?_);rintro r ⟨hr,c⟩)
 all_goals try (have a:RO x.1:=(by grind);have e:=a.1;have f:=a.2.1;have g:=a.2.2.1)
 all_goals first|trivial|omega|grind[AY]
theorem ZT{x:Be×Int×Int}:A2 (Ot x) λr=>r.2=0->RO x.1/\DC r.1<=DC x.1/\ ∀(i:Nat) (f:BU),x.1.2.1[i]? =some f->f.1.1=x.2.1->f.2.1=true->f.1.2.1=x.2.2->DC r.1<DC x.1:=by
 refine AB EC λv A=>?_;refine AO (λb=>AA (λl=>absurd l (by decide))) (λb=>?_);have d:=A.1 b;have I:=d.2.2.1;have H:=d.2.1;refine AB (GZ (by dsimp only;omega)) λi z=>?_;obtain⟨F,B,C,G⟩:=z;refine AC (λb=>AA (λl=>absurd l (by decide))) (λb=>?_);obtain⟨f,o,h⟩:=C (by omega);refine AB (AD (by omega) B) λg D=>?_;have e:g=f:=by grind
 subst e;refine AC (λb=>AA (λl=>absurd l (by decide))) (λy=>?_);refine AO (λm=>AA (λ_=>⟨d,Aj _,λj k s a c _=>?_⟩)) (λm=>?_)
 ·have:=d.uniq s o (by rw[a,h]);subst this;rw[m]at c;cases c
 refine AB (P:=λn:BU=>(g.1.2.1=x.2.2->n.2.1=false)/\True) ?_ λn hn=>?_
 ·repeat' with_reducible first|refine AC ?_ ?_<;>intro b|refine AO ?_ ?_<;>intro b|refine AS ?_ ?_<;>intro b|refine AE ?_ ?_<;>intro b|(refine A4 ?_;try dsimp only)|refine BN ?_|refine BT ?_|refine AA ?_|(refine AF ?_ (AD ?_ ?_);rintro r ⟨hr,E⟩)
  all_goals grind
 ·refine AB (Ke (by dsimp only;omega) ⟨by dsimp only;omega,by dsimp only;omega⟩) λp w=>?_;subst w;refine AA λ_=>?_;have u:=rZ (q:=λf:BU=>f.2.1) (n:=n) o;rw[m]at u;refine⟨d,?_,λj k s a c t=>?_⟩
  ·unfold DC;dsimp only;simp at u;split at u<;>omega
  ·have:=d.uniq s o (by rw[a,h]);subst this;rw[hn.1 t]at u;unfold DC;dsimp only;simp at u;omega
def Ui{x:BA}{s:Bf×Int}(h:0<=s.2/\s.2<=16/\jp x/\(s.1.length:Int)=12+13*s.2):A2 (Ae (K2 x) s) λr=>r.length=220:=by
 refine AM (λ(s:Bf×Int)=>0<=s.2/\s.2<=16/\jp x/\(s.1.length:Int)=12+13*s.2) (λ(s:Bf×Int)=>(16-s.2).toNat) h (λs c=>?_);unfold K2;obtain⟨g,j,b,k⟩:=c;have a: ∀i,(x.2.2 i).2.length<=12:=λi=>((b.2.2.2.2 i).1).1;repeat' with_reducible first|apply AC<;>intro d|apply AE<;>intro d|(apply A4;try dsimp only)|apply BN|apply BT|apply AA|(refine AF ?_ (CM ?_);intro r hr)|(refine AF ?_ (NJ ?_);intro r hr)|(refine AF ?_ (Dl ?_ ?_);intro r hr)|(refine AF ?_ (CE ?_);rintro r ⟨hr,l⟩)
 all_goals try dsimp only[len]at*
 all_goals try (have e:=AY (x:=s.2+1) (by omega))
 all_goals first|omega|(subst_vars;(try (have q1:=a ⟨s.2.toNat,by omega⟩));(try (have f:=AY (x:=12-((x.2.2 ⟨s.2.toNat,by omega⟩).2.length:Int)) (by omega)));first|omega|grind)|grind
def MK{x:BA}:A2 (GV x) λr=>r.2=0->r.1.length=256:=by
 unfold GV;repeat' with_reducible first|apply AK<;>intro a|apply AE<;>intro a|apply AA|(apply AB (G9);intro r hr)|(refine AF ?_ (CM ?_);intro r hr)|(refine AF ?_ (Ui ?_);intro r hr)|(refine AF ?_ (NJ ?_);intro r hr)|(refine AF ?_ (Gn ?_);intro r hr)|(refine AF ?_ (CE ?_);rintro r ⟨hr,c⟩)
 all_goals try dsimp only[len]at*
 all_goals try (have e:=AY (x:=244-((220:Nat):Int)) (by omega))
 all_goals first|omega|(intro b;exact absurd b (by assumption))|grind[AY]
def ZJ{x:Unit}:A2 (KU x) λr=>r.length=256:=by
 unfold KU;repeat' with_reducible first|apply AA|(refine AF ?_ (NJ ?_);intro r hr)
 all_goals ((try dsimp only[len]at*);(try first|omega|assumption|grind[AY]))
def Uh{x:Bf}{s:Int×BA×BA}(h:0<=s.1/\s.1<=16/\x.length=256):A2 (Ae (K1 x) s) λr=>True:=by
 refine AM (λ(s:Int×BA×BA)=>0<=s.1/\s.1<=16/\x.length=256) (λ(s:Int×BA×BA)=>(16-s.1).toNat) h (λs e=>?_);unfold K1;obtain⟨g,i,j⟩:=e;have b:=AY (x:=s.1*13) (by omega);have c:=AY (x:=12+s.1*13) (by omega);have d:=AY (x:=12+s.1*13+1) (by omega);rw[b,c,d];repeat' with_reducible first|apply AC<;>intro a|apply AS<;>intro a|apply AE<;>intro a|apply AA|(refine AF ?_ (Dl ?_ ?_);intro r hr)|(refine AF ?_ (C3 ?_ ?_ ?_);rintro r ⟨hr,f⟩)|(refine AF ?_ (Pk ?_ ?_);rintro r ⟨hr,f⟩)
 all_goals try dsimp only[len]at*
 all_goals first|omega|grind[AY]
def Xl{x:Bf}(h:x.length<=1099511627776):A2 (Jb x) λr=>True:=by
 unfold Jb;repeat' with_reducible first|apply AS<;>intro a|apply AK<;>intro a|apply AE<;>intro a|(apply BK;try dsimp only)|(apply BG;try dsimp only)|(apply Az<;>(intro u b;try subst b))|apply AA|(apply AB (ZJ);intro r hr)|(refine AF ?_ (CC ?_);intro r hr)|(refine AF ?_ (Gn ?_);intro r hr)|(refine AF ?_ (Uh ?_);intro r hr)|(apply AB (MK);intro r hr)|(refine AF ?_ (C3 ?_ ?_ ?_);rintro r ⟨hr,c⟩)
 all_goals try dsimp only[len]at*
 all_goals first|trivial|omega|grind
def cO{x:Int}:A2 (Mt x) λr=>r.1=x:=by
 unfold Mt;repeat' with_reducible first|apply AA
 all_goals trivial
def Vd{x:Bf×Int}(h:x.1.length<=1099511627776):A2 (IX x) λr=>r.2=0->r.1.1=x.2:=by
 unfold IX;repeat' with_reducible first|apply AC<;>intro a|apply AS<;>intro a|apply AK<;>intro a|apply AE<;>intro a|apply AA|(refine AF ?_ (Xl ?_);intro r hr)|(apply AB (cO);intro r hr)
 all_goals first|assumption|(intro b;exact absurd b (by assumption))|(intro b;exact absurd b (by decide))|(intro _;assumption)|grind
def ZV{x:By×Int×Int×Bf}(h:x.2.2.2.length<=1099511627776):A2 (Kf x) λr=>r.2=0->r.1.1=x.2.1:=by
 unfold Kf;repeat' with_reducible first|apply AC<;>intro a|apply AO<;>intro a|apply AK<;>intro a|apply AE<;>intro a|apply AA|(apply AB (F5);intro r hr)|(refine AF ?_ (Vd ?_);intro r hr)|(refine AF ?_ (AD ?_ ?_);rintro r ⟨hr,c⟩)
 all_goals try dsimp only[len]at*
 all_goals first|assumption|omega|(intro b;exact absurd b (by assumption))|(intro b;exact absurd b (by decide))|(intro _;assumption)|grind
def Rf{x:BA×D6}:A2 (IC x) λr=>r.2=0->r.1.1=x.1.1:=by
 unfold IC;repeat' with_reducible first|apply AO<;>intro a|apply AS<;>intro a|apply AK<;>intro a|apply AE<;>intro a|apply AA|(apply AB (Rg);intro r hr)|(refine AF ?_ (Dl ?_ ?_);intro r hr)
 all_goals first|(intro b;exact absurd b (by decide))|(intro _;rfl)|omega|grind[Th]
def Ze{x:BA×AI}:A2 (Ko x) λr=>r.2=0->r.1.1=x.1.1:=by
 unfold Ko;repeat' with_reducible first|apply AO<;>intro b|apply AK<;>intro b|apply AE<;>intro b|apply AA|(apply AB (CH);intro r hr)|(apply AB (Cf);intro r hr)|(apply AB (G9);intro r hr)|(apply AB (Rf);intro r hr)
 all_goals first|(intro a;exact absurd a (by assumption))|(intro a;exact absurd a (by decide))|(intro _;exact hr (by assumption))|grind
def ZP{x:AI×List AI}(h:x.2.length<=16777215):A2 (KZ x) λr=>r.length=x.2.length+1:=by
 unfold KZ;repeat' with_reducible first|apply AA|(refine AF ?_ (Ac ?_);rintro r ⟨hr,b,a⟩)
 all_goals first|(simp at*;omega)|(simp at*;done)
def JD{b:Type}{l:List b}{i:Nat}{a:b}(h:l[i]? =some a):i<l.length:=by
 rcases Ag i l.length with q|q
 ·exact q
 ·rw[BP q]at h;cases h
def WQ{x:Am×Int×Int×Int}{s:List AI×Int}(d:0<=x.2.2.2/\D3 x.1)(h:s.1.length=0):A2 (Ae (NN x) s) λr=>(∀u,r= .inl u->u.1.length<=4096)/\ ∀u,r= .inr u->u.1.length<=4096:=by
 refine AM (λs=>s.1.length<=4096/\(s.1.length=0\/(s.1.length:Int)+s.2<=x.1.1+x.1.2.1.length-1)) (λs=>s.2.toNat) ⟨by omega,.inl h⟩ (λs k=>?_);obtain⟨j,o⟩:=k;unfold NN;refine AC (λl=>?_) (λl=>AA ⟨λu a=>(by cases a),λu a=>(by cases a;exact j)⟩);refine AB Fk λg m=>?_;refine AK (λ_=>AA ⟨λu a=>(by cases a;simp),λu a=>(by cases a)⟩) (λn=>?_);obtain⟨b,e,c,f⟩:=m.1 n;have i:=JD c;refine AB Cf λv p=>?_;refine AO (λ_=>AA ⟨λu a=>(by cases a;simp),λu a=>(by cases a)⟩) (λ_=>?_);refine AK (λ_=>AA ⟨λu a=>(by cases a;simp),λu a=>(by cases a)⟩) (λ_=>?_);have w:=d.2.1;have y:=d.2.2.2.1;dsimp only at e c f i;have q:=b.2.2.2.2.1;have t:=b.2.2.2.2.2.1;refine AB (ZP (by dsimp only;omega)) λr hr=>?_;dsimp only at hr;refine AA ⟨⟨?_,.inr ?_⟩,?_⟩
 ·dsimp only;omega
 ·dsimp only;omega
 ·dsimp only;omega
def aq{x:Am×Int×Int×Int}:A2 (Li x) λr=>r.1.length<=4096:=by unfold Li;refine AB Bg λv c=>?_;refine AO (λa=>AA (by simp)) (λa=>?_);refine AC (λa=>AA (by simp)) (λ_=>?_);refine AC (λa=>AA (by simp)) (λ_=>?_);refine AC (λa=>AA (by simp)) (λ_=>?_);refine AC (λa=>AA (by simp)) (λ_=>?_);refine AB (WQ ⟨by omega,c.1 a⟩ rfl) λr hr=>?_;refine Az (λu b=>AA (hr.1 u b)) (λu b=>?_);exact AC (λa=>AA (by simp)) (λ_=>AA (hr.2 u b))
def Zf{x:Am×BA×Int}:A2 (Kp x) λr=>r.1.length<=4096:=by
 unfold Kp;repeat' with_reducible first|apply AC<;>intro a|apply AO<;>intro a|apply AK<;>intro a|apply AE<;>intro a|apply AA|(apply AB (Bg);intro r hr)|(apply AB (G9);intro r hr)|(apply AB (aq);intro r hr)
 all_goals first|(simp;done)|assumption
def Wj{a:List AI×Int}{p:Int}{s:Int×BA×BA}(h:0<=s.1/\s.1<=a.1.length/\a.1.length<=4096/\s.2.1.1=p):A2 (Ae (NZ a) s) λr=>(∀u,r= .inl u->u.2.1≠0)/\ ∀u,r= .inr u->u.1.1=p:=by
 refine AM (λ(s:Int×BA×BA)=>0<=s.1/\s.1<=a.1.length/\a.1.length<=4096/\s.2.1.1=p) (λ(s:Int×BA×BA)=>((a.1.length:Int)-s.1).toNat) h (λs d=>?_);unfold NZ;repeat' with_reducible first|apply AC<;>intro b|apply AK<;>intro b|apply AE<;>intro b|apply AA|(apply AB (Ze);intro r hr)|(refine AF ?_ (AD ?_ ?_);rintro r ⟨hr,f⟩)
 all_goals try dsimp only[len]at*
 all_goals first|omega|(refine⟨λu c=>?_,λu c=>?_⟩<;>cases c<;>first|assumption|exact d.2.2.2)|(have e:=AY (x:=s.1+1) (by omega);have:=hr (by assumption);omega)|trace_state
def bJ{x:Am×BA×Int}:A2 (Lw x) λr=>r.2.2=0->r.1.1=x.2.1.1:=by unfold Lw;refine AB Zf λv d=>?_;refine AK (λc=>AA (λa=>absurd a c)) (λa=>?_);refine AB (Wj (p:=x.2.1.1) ⟨by dsimp only;omega,by dsimp only;omega,d,rfl⟩) λr hr=>?_;exact Az (λu b=>AA (λa=>absurd a (hr.1 u b))) (λu b=>AA λ_=>hr.2 u b)
def bI{x:Am×BA×Int}:A2 (Lv x) λr=>r.2=0->r.1.1=x.2.1.1:=by unfold Lv;exact AB bJ λr hr=>AA hr
def KS(k m:AT):Prop:=m.1=k.1/\LX k.2.2.1 m.2.2.1/\D3 m.2.2.1/\m.2.2.2.2.1=k.2.2.2.2.1/\m.2.2.2.2.2.1=k.2.2.2.2.2.1/\SK m
def KS.refl{k:AT}(h:SK k)(a:D3 k.2.2.1):KS k k:=⟨rfl,LX.refl _,a,rfl,rfl,h⟩
def KS.trans{a b c:AT}(h:KS a b)(g:KS b c):KS a c:=⟨g.1.trans h.1,h.2.1.trans g.2.1,g.2.2.1,g.2.2.2.1.trans h.2.2.2.1,g.2.2.2.2.1.trans h.2.2.2.2.1,g.2.2.2.2.2⟩
def LX.of{a b:Am}(h:b.1=a.1)(g:b.2.1=a.2.1):LX a b:=⟨h,[],by rw[g,DQ]⟩
def I4{x:AT×Int}(h:SK x.1)(b:D3 x.1.2.2.1):A2 (Fm x) λr=>KS x.1 r/\r.2.2.2.1=x.1.2.2.2.1:=by unfold Fm;refine AB GY λv g=>?_;refine AB I0 λw c=>?_;apply BN;refine AS (λa=>AA ?_) (λa=>AA ⟨KS.refl h b,rfl⟩);obtain⟨d,e,f⟩:=c a;exact⟨⟨rfl,LX.of f e,d,rfl,rfl,h⟩,rfl⟩
def Wd{x:AT×Int×Int}(h:SK x.1):A2 (I6 x) λr=>r.2=0->VK x.1/\KS x.1 r.1/\DC r.1.2.2.2.1<=DC x.1.2.2.2.1/\ ∀(i:Nat) (f:BU),x.1.2.2.2.1.2.1[i]? =some f->f.1.1=x.2.1->f.2.1=true->f.1.2.1=x.2.2->DC r.1.2.2.2.1<DC x.1.2.2.2.1:=by
 unfold I6;refine AB (Bu h) λv q=>?_;refine AO (λb=>AA (λd=>absurd d (by decide))) (λb=>?_);have l:=q b;refine AC (λb=>AA (λd=>absurd d (by decide))) (λ_=>?_);refine AC (λb=>AA (λd=>absurd d (by decide))) (λ_=>?_);refine AC (λb=>AA (λd=>absurd d (by decide))) (λ_=>?_);refine AB GY λ_ _=>?_;refine AC (λb=>AA (λd=>absurd d (by decide))) (λ_=>?_);refine AB FL λi n=>?_;refine AB (P:=λs=>(∃u,s= .inl u/\u.1≠0)\/ ∃u,s= .inr u/\DC u.1<=DC x.1.2.2.2.1/\ ∀(i:Nat) (f:BU),x.1.2.2.2.1.2.1[i]? =some f->f.1.1=x.2.1->f.2.1=true->f.1.2.1=x.2.2->DC u.1<DC x.1.2.2.2.1) ?_ λs p=>?_
 ·refine AC (λb=>?_) (λb=>AA (.inr ⟨_,rfl,Aj _,λj f o g _ _=>?_⟩))
  ·refine AB ZT λc e=>?_;refine AK (λb=>AA (.inl ⟨_,rfl,b⟩)) (λb=>AA (.inr ⟨_,rfl,(e b).2⟩))
  ·exact absurd (n.2.2.2 l.2.2.2.1 ⟨j,f,o,g⟩) b
 ·rcases p with⟨u,rfl,k⟩|⟨u,rfl,k⟩
  ·exact BK (AA λd=>absurd d k)
  ·apply BG;refine AB (Fl h) λa m=>?_;refine AK (λb=>AA (λd=>absurd d b)) (λb=>AA λ_=>?_);obtain⟨_,a1,a2,a3,a4,a5,a6,a7,a8⟩:=m b;exact⟨l,⟨a1,a2,a3,a5,a6.2.1 rfl,a8⟩,k⟩
def bA{x:AT}(h:SK x):A2 (Lq x) λr=>r.2.2.2=0->VK x/\KS x r.1/\(r.2.2.1=true->DC r.1.2.2.2.1=DC x.2.2.2.1/\ ∃(i:Nat) (f:BU),r.1.2.2.2.1.2.1[i]? =some f/\f.1=r.2.1/\f.2.1=true):=by
 unfold Lq;refine AB (Bu h) λv o=>?_;refine AO (λe=>AA (λg=>absurd g (by decide))) (λe=>?_);have a:=o e;refine AC (λe=>AA (λ_=>⟨a,KS.refl h a.2.2.1,λg=>by cases g⟩)) (λb=>?_);have j:x.2.2.2.1.2.1.length≠0:=by have:=a.2.2.2.1.1;simp only[len]at b;omega
 refine AB Xu λw m=>?_;obtain⟨_,q,s,t⟩:=m.1 (m.2 a.2.2.2.1 j);refine AB FL λi l=>?_;have p:=l.2.2.2 q t;refine AB (AD p l.2.1) λf n=>?_;apply AO<;>intro e
 ·refine AB aw λd _=>AA λ_=>⟨a,⟨rfl,LX.refl _,a.2.2.1,rfl,rfl,h⟩,λg=>by cases g⟩
 ·refine AB (I4 h a.2.2.1) λk c=>AA λ_=>⟨a,c.1,λ_=>⟨?_,i.toNat,f,?_,rfl,e⟩⟩
  ·rw[c.2,tB,tB,s]
  ·rw[c.2];exact n.1
def Rn{x:AQ×AT×BA}(h:SK x.2.1)(g:DI x.1.2):A2 (IK x) λr=>r.2=0->KS x.2.1 r.1.1/\DI r.1.2/\DC r.1.1.2.2.2.1<=DC x.2.1.2.2.2.1/\((∃(i:Nat) (f:BU),x.2.1.2.2.2.1.2.1[i]? =some f/\f.1=x.2.2/\f.2.1=true)->DC r.1.1.2.2.2.1<DC x.2.1.2.2.2.1):=by
 unfold IK;refine AB MK λv p=>?_;refine AB (ZM g) λw l=>?_;refine AK (λa=>AA (λc=>absurd c a)) (λa=>?_);refine AB (Wd h) λu k=>?_;refine AK (λa=>AA (λc=>absurd c a)) (λb=>AA λ_=>?_);obtain⟨_,m,n,o⟩:=k b;refine⟨m,(l a).1,n,λ⟨i,f,j,d,e⟩=>o i f j ?_ e ?_⟩
 ·rw[d]
 ·rw[d]
def SvR(s r:AQ):Prop:=KS s.1 r.1/\DI r.2
def bL{x:AQ}(h:SK x.1)(g:D3 x.1.2.2.1)(f:DI x.2):A2 (Ly x) λr=>r.2=0->SvR x r.1:=by unfold Ly;refine AB (P:=λr=>r.1=0->SvR x r.2) ?_ λr hr=>AA hr;refine AM (λs=>SvR x s.1) (λs=>DC s.1.1.2.2.2.1) ⟨KS.refl h g,f⟩ (λs b=>?_);unfold Rm;refine AB (bA b.1.2.2.2.2.2) λv i=>?_;refine AK (λa=>AA (λd=>absurd d a)) (λa=>?_);obtain⟨o,e,k⟩:=i a;refine AO (λa=>AA (λ_=>⟨b.1.trans e,b.2⟩)) (λc=>?_);refine AB (Rn e.2.2.2.2.2 b.2) λw j=>?_;refine AK (λa=>AA (λd=>absurd d a)) (λa=>AA ?_);obtain⟨l,m,p,n⟩:=j a;obtain⟨q1,q2⟩:=k c;exact⟨⟨(b.1.trans e).trans l,m⟩,by have:=n q2;dsimp only at*;omega⟩
def Ut{x:AT×BA}{s:Int×List A1}(h:0<=s.1/\s.1<=x.1.2.2.2.2.2.2.2.length/\x.1.2.2.2.2.2.2.2.length<=16777216/\s.2.length<=s.1):A2 (Ae (LC x) s) λr=>r.length<=x.1.2.2.2.2.2.2.2.length:=by
 refine AM (λ(s:Int×List A1)=>0<=s.1/\s.1<=x.1.2.2.2.2.2.2.2.length/\x.1.2.2.2.2.2.2.2.length<=16777216/\s.2.length<=s.1) (λ(s:Int×List A1)=>((x.1.2.2.2.2.2.2.2.length:Int)-s.1).toNat) h (λs c=>?_);unfold LC;repeat' with_reducible first|apply AC<;>intro a|apply AK<;>intro a|apply AE<;>intro a|(apply A4;try dsimp only)|apply BN|apply BT|apply AA|(refine AF ?_ (AD ?_ ?_);rintro r ⟨hr,e⟩)|(refine AF ?_ (Ac ?_);rintro r ⟨hr,d,b⟩)
 all_goals ((try dsimp only[len]at*);(try first|omega|assumption|grind[AY]))
def X0{x:AT×BA}(h:SK x.1):A2 (Jm x) λr=>r.2=0->KS x.1 r.1/\gM r.1.2.2.2.1 x.2.1:=by
 unfold Jm;refine AB (Bu h) λv G=>?_;refine AO (λb=>AA (λa=>absurd a (by decide))) (λb=>?_);have o:=G b;refine AC (λb=>AA (λa=>absurd a (by decide))) (λ_=>?_);refine AC (λb=>AA (λa=>absurd a (by decide))) (λ_=>?_);refine AB (Hg h) λ_ _=>?_;refine AC (λb=>AA (λa=>absurd a (by decide))) (λ_=>?_);refine AB (Hg h) λ_ _=>?_;refine AC (λb=>AA (λa=>absurd a (by decide))) (λ_=>?_);refine AB EC λO _=>?_;refine AO (λb=>AA (λa=>absurd a (by decide))) (λ_=>?_);refine AB G9 λQ _=>?_;refine AK (λb=>?_) (λ_=>?_)
 ·exact AK (λ_=>AA (λa=>absurd a b)) (λz=>absurd z b)
 have M:=o.2.2.2.1.2.1;have N:=o.2.2.2.1.2.2.1;refine AB (GZ (by dsimp only;omega)) λi L=>?_;refine AC (λb=>AA (λa=>absurd a (by decide))) (λ_=>?_);refine AS (λb=>AA (λa=>absurd a (by decide))) (λ_=>?_);refine AB (Ac (by simp;omega)) λR n=>?_;obtain⟨n,D,_⟩:=n;rw[CA]at n;subst n;refine AB (Ac (by simp;omega)) λd u=>?_;obtain⟨u,j,_⟩:=u;have c:d[d.length-1]? =some (x.2,(false,(0,true))):=by rw[u];simp
 have hn:(d.length:Int)-1=((d.length-1:Nat):Int):=by simp at j;omega
 have e:=AY (x:=(d.length:Int)-1) (by simp at j;omega);refine AB (I5 h) λy _=>?_;refine AB (P:=λv:List BU×AT×Int×Int×Int×Int×Int×Int=>(∃(i:Nat) (f:BU),v.1[i]? =some f/\f.1.1=x.2.1)/\KS x.1 v.2.1) ?_ λK l=>?_
 ·refine AE (λ_=>?_) (λ_=>AA ⟨⟨_,_,c,rfl⟩,KS.refl h o.2.2.1⟩);rw[hn]at e;simp only[len,hn,e];have m:d.length-1<d.length:=by simp at j;omega
  refine AB (AD (by omega) (by omega)) λH A=>?_;refine AB (AD (by omega) (by omega)) λk s=>?_;have p:k.1=x.2:=by have:=s.1;simp only[DP]at this;rw[c]at this;rw[<-C2 this]
  have F:(BZ d ((d.length-1:Nat):Int) (k.1,(true,k.2.2))).length=d.length:=by simp[BZ]
  refine AB (AD (by omega) (by omega)) λI B=>?_;refine AB (AD (by omega) (by omega)) λg t=>?_;have q:g.1=x.2:=by have:=t.1;simp only[DP,BZ]at this;rw[EI m]at this;rw[<-C2 this,p]
  refine AB (Ut ⟨by simp,by simp,h.2.2,by simp⟩) λJ C=>?_;refine AA ⟨⟨d.length-1,(g.1,(g.2.1,(y.1.2.1,g.2.2.2))),?_,by rw[q]⟩,rfl,LX.refl _,o.2.2.1,rfl,rfl,h.1,h.2.1,?_⟩
  ·simp only[BZ,DP];rw[EI (by simpa using m)]
  ·have:=h.2.2;dsimp only at*;omega
 ·obtain⟨i,f,E,w⟩:=l.1;exact AA λ_=>⟨l.2,i,f,E,w⟩
def HH{x:AQ×Int}(h:SK x.1.1)(o:DI x.1.2):A2 (Ed x) λr=>r.2=0->SvR x.1 r.1/\gM r.1.1.2.2.2.1 x.2:=by
 unfold Ed;refine AB (Bu h) λv D=>?_;refine AO (λa=>AA (λb=>absurd b (by decide))) (λa=>?_);have p:=D a;refine AC (λa=>AA (λb=>absurd b (by decide))) (λ_=>?_);refine AC (λa=>AA (λb=>absurd b (by decide))) (λ_=>?_);refine AB FL λi C=>?_;refine AC (λa=>AA λ_=>⟨⟨KS.refl h p.2.2.1,o⟩,?_⟩) (λ_=>?_)
 ·obtain⟨_,f,B,k⟩:=C.2.2.1 a;exact⟨_,f,B,k⟩
 refine AB (bL h p.2.2.1 o) λF u=>?_;refine AK (λa=>AA (λb=>absurd b a)) (λc=>?_);obtain⟨q,s⟩:=u c;have t:=q.2.2.2.2.2;refine AB (ak s) λG w=>?_;refine AK (λa=>AA (λb=>absurd b a)) (λd=>?_);refine AB (Hg t) λH _=>?_;refine AB (ZV (by have:=w d;dsimp only;omega)) λI y=>?_;refine AK (λa=>AA (λb=>absurd b a)) (λe=>?_);refine AB bI λJ z=>?_;refine AK (λa=>AA (λb=>absurd b a)) (λg=>?_);refine AB (X0 t) λK A=>?_;refine AK (λa=>AA (λb=>absurd b a)) (λj=>AA λ_=>?_);obtain⟨E,l⟩:=A j;have m:=y e;have n:=z g;dsimp only at m n l;rw[n,m]at l;exact⟨⟨q.trans E,s⟩,l⟩
def KL(k m:AT):Prop:=m.1=k.1/\LX k.2.2.1 m.2.2.1/\SK m/\D3 m.2.2.1
def KL.refl{k:AT}(h:SK k)(a:D3 k.2.2.1):KL k k:=⟨rfl,LX.refl _,h,a⟩
def KL.trans{a b c:AT}(h:KL a b)(g:KL b c):KL a c:=⟨g.1.trans h.1,h.2.1.trans g.2.1,g.2.2⟩
def KS.kl{a b:AT}(h:KS a b):KL a b:=⟨h.1,h.2.1,h.2.2.2.2.2,h.2.2.1⟩
def zz.kl{a b:AT}{k t:Int}(h:zz a k t b):KL a b:=⟨h.1,h.2.1,h.2.2.2.2.2.2.2,h.2.2.1⟩
def SK.locks{k:AT}{l:Av}(h:SK k)(a:GP l):SK (k.1,(k.2.1,(k.2.2.1,(k.2.2.2.1,(l,k.2.2.2.2.2))))):=⟨a,h.2⟩
def cS{x:Be×Int}:A2 (Mv x) λr=>True:=by unfold Mv;refine AB FL λv a=>?_;refine AC (λ_=>AA trivial) (λc=>?_);have b:=a.2.2.1 (by omega);have d:=b.1.2.1;have e:=b.1.2.2.1;refine AB (AD (by omega) a.2.1) λf _=>?_;exact AB (Ke (by dsimp only;omega) ⟨by dsimp only;omega,a.2.1⟩) λr _=>AA trivial
def Xt{x:Be×BA}:A2 (Jg x) λr=>True:=by unfold Jg;refine AB EC λv d=>?_;refine AO (λ_=>AA trivial) (λa=>?_);have c:=d.1 a;have e:=c.2.1;have f:=c.2.2.1;refine AB G9 λ_ _=>?_;refine AK (λ_=>AA trivial) (λ_=>?_);refine AB (GZ (by dsimp only;omega)) λi b=>?_;refine AC (λ_=>AA trivial) (λa=>?_);refine AB (AD (by omega) b.2.1) λg _=>?_;refine AC (λ_=>AA trivial) (λ_=>?_);refine AB (P:=λ_=>True) (AO (λ_=>AA trivial) (λ_=>AA trivial)) λh _=>?_;exact AB (Ke (by dsimp only;omega) ⟨by dsimp only;omega,b.2.1⟩) λr _=>AA trivial
def Pd.cell{e:AI}(h:Pd e):0<=e.2.2.2.2.2.2.1.2.1/\e.2.2.2.2.2.2.1.2.1<16:=by have a:=h.2.2.2.2.2.2.2.2;unfold VI at a;grind[Th,Ow]
def S5{x:AT×AI}(h:SK x.1)(d:D3 x.1.2.2.1)(a:0<=x.2.2.2.2.2.2.2.1.2.1/\x.2.2.2.2.2.2.2.1.2.1<16):A2 (JS x) λr=>KL x.1 r.1/\(r.2=0->tE x.1.2.2.2.2.2.1 x.2.2.1 x.2.2.2.1 r.1.2.2.2.2.2.1):=by unfold JS;refine AB (Fl h) λv e=>?_;refine AK (λa=>AA ⟨KL.refl h d,λb=>absurd b a⟩) (λb=>?_);have c:=(e b).2;refine AB IG λf _=>?_;refine AB (Dl a.1 a.2) λ_ _=>?_;refine AB (Dl a.1 a.2) λ_ _=>?_;refine AB Xt λg _=>?_;exact AK (λa=>AA ⟨KL.refl h d,λb=>absurd b a⟩) (λ_=>AA ⟨c.kl,λ_=>c.2.2.2.2.2.1⟩)
def Bj{x:Int}:A2 (A0 x) λr=>r.1=5:=by unfold A0;exact AA rfl
def cc{x:Int}:A2 (A0 x) λr=>r.1=5/\r.2.2.2.2=x:=by unfold A0;exact AA ⟨rfl,rfl⟩
def wQ{l:List Ai}{id:Int}(h:l.length<=16777216)(m:cg l id):A2 (ET (l,id)) λr=>0<=r/\r<l.length:=by
 unfold ET;refine AB (P:=λr=> ∃u:Int,r= .inl u/\0<=u/\u<l.length) ?_ λr hr=>?_
 ·refine AM (λ(s:Int)=>0<=s/\s<=l.length/\ ∀(j:Nat) (t:Ai),j<s->l[j]? =some t->t.1≠id) (λ(s:Int)=>((l.length:Int)-s).toNat) ⟨Ah _,by omega,λj t b=>absurd b (by omega)⟩ (λs k=>?_);obtain⟨g,p,i⟩:=k;unfold I3;have e:=AY (x:=s+1) (by omega);apply AC<;>intro d
  ·simp only[len]at d;refine AB (AD g d) λq a=>?_;refine AS (λ_=>AA ⟨s,rfl,g,d⟩) (λc=>AA ?_);dsimp only at c;rw[e];refine⟨⟨by omega,by omega,λj t b f=>?_⟩,by omega⟩;by_cases n:(j:Int)=s
   ·have:s.toNat=j:=by omega
    rw[this]at a;rw[f]at a;have:=C2 a.1;rw[this];exact c
   ·exact i j t (by omega) f
  ·obtain⟨j,t,b,f⟩:=m;have:=JD b;simp only[len]at d;exact absurd f (i j t (by omega) b)
 ·obtain⟨u,rfl,o⟩:=hr;exact BK (AA o)
def lC{l:List Ai}{id:Int}(h:l.length<=16777216)(a:cg l id):A2 (CL (l,id)) λr=>0<=r/\r<l.length:=by unfold CL;exact AB (wQ h a) λr hr=>AA hr
def X2{x:AT×Int}(h:SK x.1)(d:D3 x.1.2.2.1)(l:cg x.1.2.2.2.2.2.1 x.2):A2 (Jo x) λr=>KL x.1 r.1/\(r.2.1=1\/r.2.1=5):=by
 unfold Jo;refine AB (lC h.2.1 l) λp c=>?_;refine AB (AD c.1 c.2) λq _=>?_;refine AB (P:=λs=>(∃u,s= .inl u/\KL x.1 u.1)\/ ∃u,s= .inr u/\KL x.1 u.1/\(u.2.1=1\/u.2.1=5)) ?_ λs m=>?_
 ·refine AS (λ_=>?_) (λ_=>?_)
  ·refine AB (Ia h.2.1) λt e=>AA (.inl ⟨_,rfl,rfl,LX.refl _,⟨h.1,?_,h.2.2⟩,d⟩);have:=iF x.1.2.2.2.2.2.1 x.2;have f:=h.2.1;dsimp only at*;rw[e];omega
  ·refine AB (Fl h) λv g=>?_;refine AK (λo=>?_) (λn=>?_)
   ·exact AB Bj λw i=>AA (.inr ⟨_,rfl,KL.refl h d,.inr i⟩)
   ·have b:=(g n).2;refine AB (I4 b.kl.2.2.1 b.kl.2.2.2) λy j=>AA (.inl ⟨_,rfl,b.kl.trans j.1.kl⟩)
 ·rcases m with⟨u,rfl,a⟩|⟨u,rfl,a⟩
  ·apply BK;refine AB (K4 a.2.2.1.1) λz k=>AA ⟨⟨a.1,a.2.1,a.2.2.1.locks k,a.2.2.2⟩,.inl rfl⟩
  ·exact BG (AA a)
def UO{x:AT×Int×Cl}{a:Ai}{s:Int}(h:0<=s/\s<=a.2.2.2.2.1.length/\(a.2.2.2.2.1.length:Int)<=16777216):A2 (Ae (KF x a) s) λr=>True:=by
 refine AM (λ(s:Int)=>0<=s/\s<=a.2.2.2.2.1.length/\(a.2.2.2.2.1.length:Int)<=16777216) (λ(s:Int)=>((a.2.2.2.2.1.length:Int)-s).toNat) h (λs c=>?_);unfold KF;repeat' with_reducible first|apply AC<;>intro b|apply AS<;>intro b|apply AE<;>intro b|apply AA|(apply AB (Fk);intro r hr)|(refine AF ?_ (AD ?_ ?_);rintro r ⟨hr,d⟩)
 all_goals ((try dsimp only[len]at*);(try first|omega|assumption|grind[AY]))
def AAJ{l:List Ai}{i:Nat}{t:Ai}(h:l[i]? =some t):t.2.2.2.2.1.length<TP l:=by
 induction l generalizing i with
 |nil=>simp at h
 |cons a r b=>
  unfold TP;rw[BE,Q4];cases i with
  |zero=>simp at h;rw[h];omega
  |succ i=>have:=b (i:=i) (by simpa using h);unfold TP at this;omega
def ABG{l:List Ai}(h: ∀(i:Nat) (t:Ai),l[i]? =some t->t.2.2.2.2.1.length<=4096):TP l<=l.length*4097:=by
 induction l with
 |nil=>simp[TP]
 |cons a r c=>have d:=h 0 a (by simp);have e:=c (λi t b=>h (i+1) t (by simpa using b));unfold TP at*;rw[BE,Q4,BC];omega
def WD.tp{l:List Ai}(h:WD l):TP l<=262208:=by have:=ABG (l:=l) (λi t a=>(h.2 i t a).1);have:=h.1;omega
def We{x:AT×Int×Cl}(h:x.1.2.2.2.2.2.1.length<=16777216)(d:TP x.1.2.2.2.2.2.1<=262208)(c:cg x.1.2.2.2.2.2.1 x.2.1):A2 (I7 x) λr=>True:=by unfold I7;refine AB (lC h c) λe a=>?_;refine AB (AD a.1 a.2) λf b=>?_;have:=AAJ b.1;refine AB (UO ⟨Ah _,by omega⟩) λr _=>?_;exact Az (λ_ _=>AA trivial) (λ_ _=>AA trivial)
def Rk{x:AT×Int×Int}(h:SK x.1)(p:D3 x.1.2.2.1)(E:WD x.1.2.2.2.2.2.1)(u:x.2.1≠0)(C:cg x.1.2.2.2.2.2.1 x.2.1):A2 (II x) λr=>KL x.1 r.1/\(r.2.1=x.2.2\/r.2.1=5):=by
 unfold II;refine AB (Xo h.1) λO i=>?_;refine AB (lC h.2.1 C) λQ o=>?_;refine AB (AD o.1 o.2) λR _=>?_;refine AS (λ_=>?_) (λ_=>?_)
 ·refine AB (Ia h.2.1) λS w=>?_;refine AB (K4 i) λT y=>AA ⟨⟨rfl,LX.refl _,⟨y,?_,h.2.2⟩,p⟩,.inl rfl⟩;have:=iF x.1.2.2.2.2.2.1 x.2.1;have v:=h.2.1;dsimp only at*;rw[w];omega
 ·have D:=h.locks i;refine AB (Fl D) λc z=>?_;refine AK (λf=>?_) (λF=>?_)
  ·exact AB Bj λU A=>AA ⟨KL.refl h p,.inr A⟩
  ·have j:=(z F).2;have q:=j.2.2.2.2.2.1;have N:=(q.2.2.1 u (by show(4:Int)≠1;decide)).2;have G:=E.tp;have m:=q.2.2.2 u rfl;have g:KL x.1 c.1:=⟨j.1,j.2.1,j.kl.2.2⟩
   have t:=g.2.2.1;refine AB (P:=λr=>KL x.1 r) ?_ λr hr=>AA ⟨hr,.inl rfl⟩;refine AM (λ(s:Int×AT)=>0<=s.1/\s.1<=c.1.2.2.2.2.1.1.length/\KL x.1 s.2/\s.2.2.2.2.2.2.1=c.1.2.2.2.2.2.1) (λs=>((c.1.2.2.2.2.1.1.length:Int)-s.1).toNat) (s:=((0:Int),c.1)) ⟨Ah _,by dsimp only;omega,g,rfl⟩ (λs B=>?_);obtain⟨n,M,a,b⟩:=B;unfold Qh;have L:=t.1.1;refine AC (λf=>?_) (λ_=>AA a);simp only[len]at f;have e:=AY (x:=s.1+1) (by omega);refine AB (AD n f) λV _=>?_;refine AS (λ_=>?_) (λ_=>AA ⟨⟨by dsimp only;omega,by dsimp only;omega,a,b⟩,by dsimp only;omega⟩);refine AB (AD n f) λW _=>?_;refine AB (We (by dsimp only;rw[b];exact t.2.1) (by dsimp only at*;rw[b];omega) (by dsimp only;rw[b];exact m)) λH _=>?_;refine AB (P:=λk=>KL x.1 k/\k.2.2.2.2.2.1=c.1.2.2.2.2.2.1) ?_ λK d=>AA ⟨⟨by dsimp only;omega,by dsimp only;omega,d.1,d.2⟩,by dsimp only;omega⟩;refine AO (λ_=>?_) (λ_=>AA ⟨a,b⟩);refine AB (AD n f) λI _=>?_;exact AB (SL a.2.2.1.1) λJ l=>AA ⟨⟨a.1,a.2.1,a.2.2.1.locks l,a.2.2.2⟩,b⟩
def Xz{x:AT×Cr}:A2 (Jl x) λr=>r=0->x.2.1=4\/x.2.1=5\/x.2.1=6\/x.2.1=7\/(0<=x.2.2.2.1/\x.2.2.2.1<16):=by
 unfold Jl;refine AB (P:=λv=>True) (AE (λ_=>AA trivial) (λ_=>AB (P:=λ_=>True) (AE (λ_=>AA trivial) (λ_=>AA trivial)) λ_ _=>AA trivial)) λk _=>?_;refine AB (P:=λs=>(∃u,s= .inl u/\u=1)\/ ∃u,s= .inr u/\(x.2.1=4\/x.2.1=5\/x.2.1=6\/x.2.1=7\/(0<=x.2.2.2.1/\x.2.2.2.1<16))) ?_ λs e=>?_
 ·refine AE (λ_=>?_) (λ_=>?_)
  ·refine AC (λ_=>AA (.inl ⟨_,rfl,rfl⟩)) (λ_=>?_);refine AC (λ_=>AA (.inl ⟨_,rfl,rfl⟩)) (λ_=>?_);refine AC (λ_=>AA (.inl ⟨_,rfl,rfl⟩)) (λg=>?_);refine AC (λ_=>AA (.inl ⟨_,rfl,rfl⟩)) (λi=>?_);refine AB (P:=λ_=>True) (AE (λ_=>AA trivial) (λ_=>AA trivial)) λl _=>AA (.inr ⟨_,rfl,?_⟩);omega
  ·refine AB (P:=λs=>(∃u,s= .inl u/\u=1)\/ ∃u,s= .inr u/\(x.2.1=4\/x.2.1=5\/x.2.1=6\/x.2.1=7)) ?_ λs e=>?_
   ·refine AS (λj=>?_) (λ_=>?_)
    ·refine AC (λ_=>AA (.inl ⟨_,rfl,rfl⟩)) (λ_=>?_);refine AC (λ_=>AA (.inl ⟨_,rfl,rfl⟩)) (λ_=>AA (.inr ⟨_,rfl,by omega⟩))
    ·refine AB (P:=λb=>b=true->x.2.1=4\/x.2.1=5\/x.2.1=6) ?_ λf d=>?_
     ·refine AS (λh=>AA λ_=>.inl h) (λ_=>?_);refine AB (P:=λb=>b=true->x.2.1=4\/x.2.1=5\/x.2.1=6) ?_ λf d=>AA d;exact AS (λh=>AA λ_=>.inr (.inl h)) (λ_=>AA λh=>.inr (.inr (by simpa using h)))
     ·refine AE (λh=>AA (.inr ⟨_,rfl,?_⟩)) (λ_=>AA (.inl ⟨_,rfl,rfl⟩));have:=d h;omega
   ·rcases e with⟨u,rfl,a⟩|⟨u,rfl,a⟩
    ·exact BK (AA (.inl ⟨_,rfl,a⟩))
    ·exact BG (AA (.inr ⟨_,rfl,by omega⟩))
 ·rcases e with⟨u,rfl,a⟩|⟨u,rfl,a⟩
  ·exact BK (AA λc=>by omega)
  ·apply BG;refine AO (λ_=>AA λc=>absurd c (by decide)) (λ_=>?_);exact AC (λ_=>AA λc=>absurd c (by decide)) (λ_=>AA λ_=>a)
def SS{x:Int×Cr}:A2 (Ip x) λr=>True:=by unfold Ip;refine AS (λ_=>AA trivial) (λ_=>?_);refine AB (P:=λ_=>True) (AE (λ_=>AA trivial) (λ_=>AA trivial)) λv _=>?_;exact AE (λ_=>AA trivial) (λ_=>AA trivial)
def Wf{x:AT×Int×Cr}(h:SK x.1):A2 (I8 x) λr=>r=0->VK x.1/\cg x.1.2.2.2.2.2.1 x.2.1/\(x.2.2.1=4\/x.2.2.1=5\/x.2.2.1=6\/x.2.2.1=7\/(0<=x.2.2.2.2.1/\x.2.2.2.2.1<16)):=by
 unfold I8;refine AB (Bu h) λv j=>?_;refine AO (λ_=>AA λa=>absurd a (by decide)) (λb=>?_);refine AB (ES h.2.1) λk e=>?_;refine AC (λ_=>AA λa=>absurd a (by decide)) (λg=>?_);refine AB (AD (by omega) e.2.1) λl _=>?_;refine AK (λ_=>AA λa=>absurd a (by decide)) (λ_=>?_);refine AB Xz λm f=>?_;refine AK (λb=>AA λa=>absurd a b) (λc=>?_);refine AB (H6 h.1) λn _=>?_;refine AB SS λo _=>?_;have q:(0:Int)=0->VK x.1/\cg x.1.2.2.2.2.2.1 x.2.1/\(x.2.2.1=4\/x.2.2.1=5\/x.2.2.1=6\/x.2.2.1=7\/(0<=x.2.2.2.2.1/\x.2.2.2.2.1<16)):=λ_=>by obtain⟨t,i,d⟩:=e.2.2 (by omega);exact⟨j b,⟨_,t,i,d⟩,f c⟩
 refine AE (λ_=>?_) (λ_=>AA q);refine AK (λ_=>?_) (λ_=>AA q);refine AO (λ_=>AA λa=>absurd a (by decide)) (λ_=>?_);exact AO (λ_=>AA λa=>absurd a (by decide)) (λ_=>AA q)
def X1{x:AT×Int×Cr}(h:SK x.1)(d:D3 x.1.2.2.1)(j:RO x.1.2.2.2.1)(a:0<=x.2.2.2.2.1/\x.2.2.2.2.1<16):A2 (Jn x) λr=>KL x.1 r.1/\(r.2.1=1\/r.2.1=3\/r.2.1=5)/\(r.2.1=3->r.2.2.2.1=x.2.2.2.1/\ ¬gM x.1.2.2.2.1 x.2.2.2.1/\r.1=x.1):=by
 unfold Jn;have c:=KL.refl h d;refine AB IG λk e=>?_;refine AO (λa=>AA ⟨c,.inr (.inl rfl),λ_=>⟨rfl,e.2 a j,rfl⟩⟩) (λ_=>?_);refine AS (λ_=>?_) (λ_=>?_)
 ·refine AB cS λl _=>?_;refine AB (Dl a.1 a.2) λ_ _=>?_;refine AB (Dl a.1 a.2) λ_ _=>?_;exact AA ⟨c,(.inl rfl),λb=>absurd b (by show(1:Int)≠3;decide)⟩
 ·refine AB (Dl a.1 a.2) λ_ _=>?_;refine AB (Dl a.1 a.2) λm _=>?_;refine AB (P:=λv:D6=>v.2.1=x.2.2.2.2.1) (AE (λ_=>AA rfl) (λ_=>AA rfl)) λn f=>?_;refine AB (S5 h d (by dsimp only;rw[f];exact a)) λo g=>?_;refine AK (λ_=>?_) (λ_=>?_)
  ·exact AB Bj λp i=>AA ⟨c,.inr (.inr i),λb=>by dsimp only at b;omega⟩
  ·exact AA ⟨g.1,(.inl rfl),λb=>absurd b (by show(1:Int)≠3;decide)⟩
def ZZ{x:List Int}:A2 (Kk x) λr=>True:=by unfold Kk;refine AS (λ_=>AA trivial) (λa=>?_);simp only[len]at a;exact AB (AD (Ah _) (by omega)) λ_ _=>AA trivial
def cV{x:AT×Int}(h:SK x.1):A2 (Mx x) λr=>True:=by unfold Mx;refine AB (Kb h.1) λa _=>?_;exact AB ZZ λb _=>AA trivial
def dT{x:AT×Int×Cr}(h:SK x.1)(i:D3 x.1.2.2.1):A2 (OJ x) λr=>KL x.1 r.1/\(r.2.1=3->r.2.2.2.1=x.2.2.2.1/\ ¬gM x.1.2.2.2.1 x.2.2.2.1/\r.1.2.2.2.1=x.1.2.2.2.1)/\(r.2.1=2\/r.2.1=3->r.1.2.2.2.2.2.1=x.1.2.2.2.2.2.1):=by
 unfold OJ;have q:=KL.refl h i;refine AB (Wf h) λW H=>?_;refine AK (λ_=>?_) (λd=>?_)
 ·exact AB Bj λX U=>AA ⟨q,λd=>by dsimp only at d;omega,λ_=>rfl⟩
 obtain⟨u,s,E⟩:=H d;have F:x.2.1≠0:=by obtain⟨j,t,L,V⟩:=s;have:=(u.2.2.2.2.2.1.2 j t L).2.2;omega
 refine AS (λ_=>?_) (λS=>?_)
 ·exact AB (X2 h i s) λY w=>AA ⟨w.1,λd=>by have:=w.2;omega,λd=>by have:=w.2;omega⟩
 refine AS (λ_=>?_) (λT=>?_)
 ·refine AB (Rk h i u.2.2.2.2.2.1 F s) λZ D=>AA ?_;have y:=D.2;dsimp only at y;exact⟨D.1,λd=>by omega,λd=>by omega⟩
 refine AB (P:=λb=>b=true↔x.2.2.1=6\/x.2.2.1=7) ?_ λv4 I=>?_
 ·refine AS (λp=>AA (by simp[p])) (λp=>AA (by simp[p]))
 refine AE (λ_=>?_) (λk=>?_)
 ·refine AB az λv5 z=>?_;refine AB (P:=λv=>v.2=0->v.1.length<=64) ?_ λv7 J=>?_
  ·exact AE (λ_=>AB ay λv6 p=>AA p) (λ_=>AA z)
  ·refine AK (λ_=>?_) (λd=>AA ⟨⟨rfl,LX.refl _,⟨h.1,?_,h.2.2⟩,i⟩,λd=>absurd d (by show(1:Int)≠3;decide),λd=>absurd d (by show¬((1:Int)=2\/(1:Int)=3);decide)⟩)
   ·exact AB Bj λR K=>AA ⟨q,λd=>by dsimp only at d;omega,λ_=>rfl⟩
   ·have:=J d;dsimp only;omega
 have g:0<=x.2.2.2.2.1/\x.2.2.2.2.1<16:=by
  have: ¬(x.2.2.1=6\/x.2.2.1=7):=λh=>by rw[I.2 h]at k;cases k
  omega
 refine AB SS λv9 _=>?_;refine AB (WS h.1) λB l=>?_;refine AK (λ_=>?_) (λ_=>?_)
 ·exact AB Bj λR K=>AA ⟨q,λd=>by dsimp only at d;omega,λ_=>rfl⟩
 have f:=h.locks l;have G: ∀m,KL (x.1.1,(x.1.2.1,(x.1.2.2.1,(x.1.2.2.2.1,(B.1,x.1.2.2.2.2.2))))) m->KL x.1 m:=λm A=>⟨A.1,A.2.1,A.2.2⟩
 refine AE (λ_=>?_) (λ_=>?_)
 ·refine AB (X1 f i u.2.2.2.1 g) λM e=>?_;refine AS (λz=>AA ⟨q,λd=>by dsimp only at d;omega,λ_=>rfl⟩) (λ_=>AA ⟨G _ e.1,λd=>?_,λd=>?_⟩)
  ·obtain⟨a,b,c⟩:=e.2.2 d;exact⟨a,b,by rw[c]⟩
  ·have C:=e.2.1;obtain⟨a,b,c⟩:=e.2.2 (by omega);rw[c]
 ·refine AB (ZS l) λN _=>?_;refine AC (λ_=>?_) (λ_=>?_)
  ·refine AB (Rk f i u.2.2.2.2.2.1 F s) λO n=>?_;have o:=n.2;dsimp only at o;exact AS (λz=>AA ⟨q,λd=>by dsimp only at d;omega,λ_=>rfl⟩) (λ_=>AA ⟨G _ n.1,λd=>by omega,λd=>by omega⟩)
  ·exact AB (cV f) λQ _=>AA ⟨⟨rfl,LX.refl _,f,i⟩,λd=>absurd d (by show(2:Int)≠3;decide),λ_=>rfl⟩
def RTx(l:List Ai)(id:Int)(t:Ai):Prop:= ∃v,CL (l,id)=some v/\0<=v/\l[v.toNat]? =some t/\t.1=id
def RTx.uniq{l:List Ai}{id:Int}{t u:Ai}(h:RTx l id t)(g:RTx l id u):u=t:=by obtain⟨v,c,i,d,j⟩:=h;obtain⟨w,a,e,b,f⟩:=g;rw[c]at a;cases a;rw[d]at b;exact(C2 b).symm
def NX(k:AT)(id:Int)(e:AI):Prop:= ∃t lsn,RTx k.2.2.2.2.2.1 id t/\t.2.2.2.2.1[t.2.2.2.2.1.length-1]? =some lsn/\k.2.2.1.2.1[(lsn-k.2.2.1.1).toNat]? =some e
def NX.uniq{k m:AT}{id:Int}{e f:AI}(h:NX k id e)(g:NX m id f)(o:m.2.2.2.2.2.1=k.2.2.2.2.2.1)(d:LX k.2.2.1 m.2.2.1):f=e:=by obtain⟨t,n,i,j,l⟩:=h;obtain⟨u,w,b,c,a⟩:=g;rw[o]at b;have:=i.uniq b;subst this;rw[j]at c;cases c;have:=d.get l;rw[d.1]at a;rw[this]at a;exact(C2 a).symm
def H7{x:AT×Int}(h:SK x.1):A2 (Ey x) λr=>r.2=0->VK x.1/\RTx x.1.2.2.2.2.2.1 x.2 r.1/\r.1.2.2.2.2.1.length<=4096/\r.1.1≠0:=by
 unfold Ey;refine AB (Bu h) λv l=>?_;refine AO (λ_=>AA λb=>absurd b (by decide)) (λj=>?_);have f:=l j;refine Gr (ES h.2.1) λm i d=>?_;refine AC (λ_=>AA λb=>absurd b (by decide)) (λk=>?_);refine AB (AD (by omega) d.2.1) λn _=>?_;refine AS (λ_=>AA λb=>absurd b (by decide)) (λ_=>?_);refine AB (AD (by omega) d.2.1) λo c=>?_;refine AA λ_=>⟨f,⟨m,i,by omega,c.1,?_⟩,?_,?_⟩
 ·obtain⟨t,g,e⟩:=d.2.2 (by omega);have a:=c.1;dsimp only at g;rw[g]at a;rw[<-C2 a];exact e
 ·exact(f.2.2.2.2.2.1.2 _ _ c.1).1
 ·have:=(f.2.2.2.2.2.1.2 _ _ c.1).2.2;dsimp only;omega
def bC{x:AT×Int}(h:SK x.1):A2 (HG x) λr=>r.2=true->VK x.1/\NX x.1 x.2 r.1/\Pd r.1:=by
 unfold HG;refine AB (H7 h) λc i=>?_;refine AK (λ_=>AA λa=>by cases a) (λa=>?_);obtain⟨m,hr,s,_⟩:=i a;refine AS (λ_=>AA λa=>by cases a) (λl=>?_);simp only[len]at l;have e:=AY (x:=len c.1.2.2.2.2.1-1) (by simp only[len];omega);rw[e];refine AB (AD (by simp only[len];omega) (by simp only[len];omega)) λt _=>?_;refine AC (λ_=>AA λa=>by cases a) (λ_=>?_);refine AB (AD (by simp only[len];omega) (by simp only[len];omega)) λn j=>?_;refine AB Fk λo k=>?_;refine AA λa=>?_;have d:o.2=0:=by simpa using a
 obtain⟨f,p,g,q⟩:=k.1 d;refine⟨m,⟨c.1,n,hr,?_,g⟩,f⟩;have b:=j.1;have:(len c.1.2.2.2.2.1-1).toNat=c.1.2.2.2.2.1.length-1:=by simp only[len];omega
 rw[this]at b;exact b
theorem dU{x:AT×Ai×Cl×Int}(h:x.2.1.2.2.2.2.1.length<=16777216)(j:0<=x.2.2.2/\x.2.2.2<=x.2.1.2.2.2.2.1.length):A2 (OK x) λr=>r.2=true->Pd r.1/\r.1.2.2.2.2.2.2.1.1=x.2.2.1.1:=by
 unfold OK;have e:=AY (x:=x.2.2.2-1) (by omega);rw[e];refine AB (P:=λr=> ∀u,r= .inl u->u.1=true->Pd u.2/\u.2.2.2.2.2.2.2.1.1=x.2.2.1.1) ?_ λr hr=>Az (λu a=>AA (hr u a)) (λ_ _=>AA λb=>by cases b);refine AM (λ(s:Int×AI)=> -1<=s.1/\s.1<x.2.1.2.2.2.2.1.length) (λ(s:Int×AI)=>(s.1+1).toNat) ⟨by dsimp only;omega,by dsimp only;omega⟩ (λs g=>?_);unfold S6;have d:=AY (x:=s.1-1) (by omega);rw[d];refine AC (λk=>?_) (λ_=>AA λu a=>by cases a);have c:((-1<=s.1-1/\s.1-1<x.2.1.2.2.2.2.1.length)/\(s.1-1+1).toNat<(s.1+1).toNat):=⟨by omega,by omega⟩
 refine AB (AD (by omega) g.2) λl _=>?_;refine AB Fk λm f=>?_;refine AS (λb=>?_) (λ_=>AA c);refine AS (λi=>?_) (λ_=>AA c);refine AS (λ_=>AA λu a _=>?_) (λ_=>AA c);cases a;exact⟨(f.1 b).1,i⟩
def Qi{x:AT×Int×Cl}(h:SK x.1):A2 (Hh x) λr=>r.2=true->VK x.1/\Pd r.1/\r.1.2.2.2.2.2.2.1.1=x.2.2.1:=by unfold Hh;refine AB (H7 h) λf b=>?_;refine AK (λ_=>AA λa=>by cases a) (λa=>?_);obtain⟨d,hr,e,_⟩:=b a;refine AK (λ_=>AA λa=>by cases a) (λ_=>?_);refine AB (dU (by dsimp only;omega) ⟨by simp only[len];omega,by simp only[len];omega⟩) λg c=>AA λa=>?_;exact⟨d,c a⟩
def WP{x:D6}:A2 (Iz x) λr=>r=(x.1,(x.2.1,(x.2.2.2,x.2.2.1))):=by unfold Iz;exact AA rfl
def SV{x:AT×Ai×AI}(h:SK x.1)(l:D3 x.1.2.2.1)(t:RO x.1.2.2.2.1)(s:Pd x.2.2)(m:x.2.1.1≠0):A2 (GI x) λr=>KL x.1 r.1/\(r.2.1=3->r.2.2.2.1=x.2.2.2.2.2.2.2.2.1.1/\ ¬gM x.1.2.2.2.1 x.2.2.2.2.2.2.2.2.1.1/\r.1=x.1)/\(r.2.1≠3->r.2.1≠5->r.2.2.1≠0/\TP r.1.2.2.2.2.2.1<TP x.1.2.2.2.2.2.1)/\(r.2.1=5->r.2.2.2.2.2≠0):=by
 unfold GI;have f:=KL.refl h l;refine AB IG λw n=>?_;refine AO (λd=>AA ⟨f,λ_=>⟨rfl,n.2 d t,rfl⟩,λa=>absurd rfl a,λa=>absurd a (by show(3:Int)≠5;decide)⟩) (λ_=>?_);refine AB WP λy o=>?_;subst o;refine AB Rf λz _=>?_;refine AK (λd=>?_) (λ_=>?_)
 ·exact AB cc λv c=>AA ⟨f,λa=>by dsimp only at a;omega,λ_ a=>absurd c.1 a,λ_=>by dsimp only;rw[c.2];exact d⟩
 refine AB (S5 h l s.cell) λg i=>?_;refine AK (λd=>?_) (λa=>?_)
 ·exact AB cc λv c=>AA ⟨f,λa=>by dsimp only at a;omega,λ_ a=>absurd c.1 a,λ_=>by dsimp only;rw[c.2];exact d⟩
 have u:=(i.2 a).2.2.1 m (by show(2:Int)≠1;decide);have e:=u.1 (by show(2:Int)≠4;decide);have b:KL x.1 g.1:=i.1;refine AB (P:=λk=>KL x.1 k/\k.2.2.2.2.2.1=g.1.2.2.2.2.2.1) ?_ λD j=>AA ⟨j.1,λa=>absurd a (by show(1:Int)≠3;decide),λ_ _=>⟨m,by rw[j.2];exact e⟩,λa=>absurd a (by show(1:Int)≠5;decide)⟩;refine AE (λ_=>?_) (λ_=>AA ⟨b,rfl⟩);refine AB (Qi b.2.2.1) λA _=>?_;refine AB (P:=λk=>KL x.1 k/\k.2.2.2.2.2.1=g.1.2.2.2.2.2.1) ?_ λC q=>AA q;refine AO (λ_=>?_) (λ_=>AA ⟨b,rfl⟩);exact AB (SL b.2.2.1.1) λB p=>AA ⟨⟨b.1,b.2.1,b.2.2.1.locks p,b.2.2.2⟩,rfl⟩
def SU{x:AT×Int}(h:SK x.1)(p:D3 x.1.2.2.1):A2 (Iq x) λr=>KL x.1 r.1/\(r.2.1=3-> ∃e,NX x.1 x.2 e/\r.2.2.2.1=e.2.2.2.2.2.2.1.1/\ ¬gM x.1.2.2.2.1 e.2.2.2.2.2.2.1.1)/\(r.2.1≠3->r.2.1≠5->TP r.1.2.2.2.2.2.1<TP x.1.2.2.2.2.2.1)/\(r.2.1=5->r.2.2.2.2.2≠0):=by
 unfold Iq;have m:=KL.refl h p;refine AB (H7 h) λE w=>?_;refine AK (λg=>?_) (λc=>?_)
 ·exact AB cc λt f=>AA ⟨m,λc=>by dsimp only at c;omega,λ_ c=>absurd f.1 c,λ_=>by dsimp only;rw[f.2];first|exact g|decide⟩
 obtain⟨C,hr,q,s⟩:=w c;have l:x.2≠0:=by obtain⟨v,_,_,_,k⟩:=hr;rw[<-k];exact s
 have i:A2 (Option.bind (HG x) λn=>
  bif (!n.2)then
   Option.bind (A0 14) λF=>
   some (x.1,F)
  else
  Option.bind (GI (x.1,(E.1,n.1))) λu=>
  some u) λr=>KL x.1 r.1/\(r.2.1=3-> ∃e,NX x.1 x.2 e/\r.2.2.2.1=e.2.2.2.2.2.2.1.1/\ ¬gM x.1.2.2.2.1 e.2.2.2.2.2.2.1.1)/\(r.2.1≠3->r.2.1≠5->TP r.1.2.2.2.2.2.1<TP x.1.2.2.2.2.2.1)/\(r.2.1=5->r.2.2.2.2.2≠0):=by
  refine AB (bC h) λn A=>?_;refine AO (λ_=>?_) (λg=>?_)
  ·exact AB cc λt f=>AA ⟨m,λc=>by dsimp only at c;omega,λ_ c=>absurd f.1 c,λ_=>by dsimp only;rw[f.2];first|exact g|decide⟩
  ·obtain⟨_,hn,B⟩:=A g;refine AB (SV h p C.2.2.2.1 B s) λu j=>AA ⟨j.1,λc=>?_,λa b=>(j.2.2.1 a b).2,j.2.2.2⟩;obtain⟨a,b,_⟩:=j.2.1 c;exact⟨_,hn,a,b⟩
 refine AS (λ_=>?_) (λ_=>i);refine AS (λ_=>?_) (λ_=>i);refine AB (Fl h) λG y=>?_;refine AK (λg=>?_) (λc=>?_)
 ·exact AB cc λt f=>AA ⟨m,λc=>by dsimp only at c;omega,λ_ c=>absurd f.1 c,λ_=>by dsimp only;rw[f.2];first|exact g|decide⟩
 have o:=(y c).2;have D:=(o.2.2.2.2.2.1.2.2.1 l (by show(5:Int)≠1;decide)).1 (by show(5:Int)≠4;decide);have d:=o.kl;exact AB (K4 d.2.2.1.1) λH z=>AA ⟨⟨d.1,d.2.1,d.2.2.1.locks z,d.2.2.2⟩,λc=>absurd c (by show(1:Int)≠3;decide),λ_ _=>D,λc=>absurd c (by show(1:Int)≠5;decide)⟩
def bB{x:AT×Int×Cl}(h:SK x.1)(i:D3 x.1.2.2.1):A2 (Lr x) λr=>KL x.1 r.1/\(r.2.1=3->r.2.2.2.1=x.2.2.1/\ ¬gM x.1.2.2.2.1 x.2.2.1/\r.1=x.1)/\(r.2.1≠3->r.2.1≠5->r.2.2.1≠0->TP r.1.2.2.2.2.2.1<TP x.1.2.2.2.2.2.1):=by
 unfold Lr;have g:=KL.refl h i;refine AB (H7 h) λq l=>?_;refine AK (λ_=>?_) (λc=>?_)
 ·exact AB Bj λk d=>AA ⟨g,λc=>by dsimp only at c;omega,λ_ c=>absurd d c⟩
 obtain⟨o,hr,j,p⟩:=l c;refine AK (λ_=>?_) (λ_=>?_)
 ·exact AB Bj λk d=>AA ⟨g,λc=>by dsimp only at c;omega,λ_ c=>absurd d c⟩
 refine AB (Qi h) λk d=>?_;refine AO (λ_=>AA ⟨g,λc=>absurd c (by show(1:Int)≠3;decide),λ_ _ c=>absurd rfl c⟩) (λm=>?_);obtain⟨_,n,f⟩:=d m;refine AB (SV h i o.2.2.2.1 n p) λs e=>AA ⟨e.1,λc=>?_,λa b _=>(e.2.2.1 a b).2⟩;have:=e.2.1 c;dsimp only at this;rw[f]at this;exact this
def QA{x:AQ×Int}(h:SK x.1.1):A2 (EE x) λr=>True:=by unfold EE;refine AB (ES h.2.1) λc a=>?_;refine AC (λb=>?_) (λ_=>AA trivial);exact AB (AD b a.2.1) λ_ _=>AA trivial
def SR(x s:AQ):Prop:=KL x.1 s.1/\DI s.2
def SR.trans{a b c:AQ}(h:SR a b)(g:SR b c):SR a c:=⟨h.1.trans g.1,g.2⟩
def SvR.sr{a b:AQ}(h:SvR a b):SR a b:=⟨h.1.kl,h.2⟩
open Classical in
noncomputable def flag(p:Prop):Nat:=if p then 1 else 0
def tX(p:Prop):flag p<=1:=by unfold flag;split<;>omega
def ol{p:Prop}(h:p):flag p=1:=by unfold flag;rw[if_pos h]
def oi{p:Prop}(h: ¬p):flag p=0:=by unfold flag;rw[if_neg h]
def Vx{x:AQ×Int}(h:SK x.1.1)(C:D3 x.1.1.2.2.1)(B:DI x.1.2):A2 (EW x) λr=>r.2=0->SR x.1 r.1:=by
 unfold EW;refine AB (Bu h) λv G=>?_;refine AO (λ_=>AA λb=>absurd b (by decide)) (λn=>?_);refine AB (ES h.2.1) λH _=>?_;refine AC (λ_=>AA λb=>absurd b (by decide)) (λ_=>?_);refine AB (P:=λr=>(∀u,r= .inl u->u.1≠0)/\ ∀u,r= .inr u->SR x.1 u.1) ?_ λr hr=>Az (λu a=>AA λb=>absurd b (hr.1 u a)) (λu a=>AA λ_=>hr.2 u a);refine AM (λ(s:AQ×AQ)=>SR x.1 s.1) (λ(s:AQ×AQ)=>2*TP s.1.1.2.2.2.2.2.1+flag (∃e,NX s.1.1 x.2 e/\ ¬gM s.1.1.2.2.2.1 e.2.2.2.2.2.2.1.1)) ⟨KL.refl h C,B⟩ (λs d=>?_);unfold O2;have g:=d.1.2.2;refine AB (QA g.1) λI _=>?_;refine AE (λ_=>?_) (λ_=>AA ⟨λu a=>(by cases a),λu a=>(by cases a;exact d)⟩);refine AB (SU g.1 g.2) λp A=>?_;obtain⟨k1,D,E,F⟩:=A;apply AS<;>intro c
 ·refine AA ⟨λu a=>?_,λu a=>(by cases a)⟩;cases a;exact F c
 refine AB (P:=λr=>(∃u,r= .inl u/\u.1≠0)\/ ∃u,r= .inr u/\SR s.1 u.1/\2*TP u.1.1.2.2.2.2.2.1+flag (∃e,NX u.1.1 x.2 e/\ ¬gM u.1.1.2.2.2.1 e.2.2.2.2.2.2.1.1)<2*TP s.1.1.2.2.2.2.2.1+flag (∃e,NX s.1.1 x.2 e/\ ¬gM s.1.1.2.2.2.1 e.2.2.2.2.2.2.1.1)) ?_ λr hr=>?_
 ·apply AS<;>intro k
  ·obtain⟨e,l,q,t⟩:=D k;refine AB (HH g.1 d.2) λJ c=>?_;refine AK (λn=>AA (.inl ⟨_,rfl,n⟩)) (λb=>AA (.inr ⟨_,rfl,(c b).1.sr,?_⟩));obtain⟨m,i⟩:=c b;have o:=m.1.2.2.2.2.1;rw[ol (⟨e,l,t⟩: ∃e,NX s.1.1 x.2 e/\ ¬gM s.1.1.2.2.2.1 e.2.2.2.2.2.2.1.1),oi,o]
   ·dsimp only;omega
   ·rintro⟨f,y,z⟩;have:=l.uniq y o m.1.2.1;subst this;dsimp only at i;rw[q]at i;exact z i
  ·refine AA (.inr ⟨_,rfl,⟨k1,d.2⟩,?_⟩);have:=E k c;have f:=tX (∃e,NX p.1 x.2 e/\ ¬gM p.1.2.2.2.1 e.2.2.2.2.2.2.1.1);dsimp only at*;omega
 ·rcases hr with⟨u,rfl,a⟩|⟨u,rfl,a⟩
  ·refine BK (AA ⟨λw j=>?_,λw j=>(by cases j)⟩);cases j;exact a
  ·exact BG (AA ⟨d.trans a.1,a.2⟩)
def dW{x:AQ×Int×Cr}(h:SK x.1.1)(J:D3 x.1.1.2.2.1)(I:DI x.1.2):A2 (OM x) λr=>SR x.1 r.1/\(r.2.1=2->r.1.1.2.2.2.2.2.1=x.1.1.2.2.2.2.2.1):=by
 unfold OM;refine AB (P:=λr=>SR x.1 r.1/\(r.2.1=2->r.1.1.2.2.2.2.2.1=x.1.1.2.2.2.2.2.1)) ?_ λr hr=>AA hr;refine AM (λ(s:AQ×AQ×BR)=>SR x.1 s.1/\s.1.1.2.2.2.2.2.1=x.1.1.2.2.2.2.2.1) (λ(s:AQ×AQ×BR)=>flag (¬gM s.1.1.2.2.2.1 x.2.2.2.1)) ⟨⟨KL.refl h J,I⟩,rfl⟩ (λs k=>?_);obtain⟨k,o⟩:=k;have y:=k.1.2.2;unfold S9;refine AB (dT y.1 y.2) λf D=>?_;obtain⟨k1,K,z⟩:=D;have l:SR x.1 (f.1,s.1.2):=⟨k.1.trans k1,k.2⟩
 have g:=k1.2.2;apply AS<;>intro q
 ·obtain⟨a,b,c⟩:=K q;have d:=z (.inr q);refine AB (HH g.1 k.2) λS E=>?_;refine AK (λ_=>?_) (λi=>AA ?_)
  ·refine AB Bj λT O=>AA ⟨l,λ_=>?_⟩;dsimp only at*;rw[d,o]
  ·obtain⟨t,v⟩:=E i;refine⟨⟨l.trans t.sr,?_⟩,?_⟩
   ·have:=t.1.2.2.2.2.1;dsimp only at*;rw[this,d,o]
   ·dsimp only at*;rw[ol b,oi]
    ·omega
    ·intro hn;rw[a]at v;exact hn v
 have j: ∀(Q:Step (AQ×(AQ×BR)) (AQ×BR)->Prop),(∀r:AQ×BR,SR x.1 r.1/\(r.2.1=2->r.1.1.2.2.2.2.2.1=x.1.1.2.2.2.2.2.1)->Q (.done r))-> ∀c:Int,c≠2->f.2.1=c->A2 (Option.bind (EE ((f.1,s.1.2),x.2.1)) λA=>
  Option.bind ((
    bif A then
     Option.bind (EW ((f.1,s.1.2),x.2.1)) λn=>
     bif (n.2 !=0)then
      Option.bind (A0 n.2) λB=>
      some (.inl ((f.1,s.1.2),B))
     else
     some (.inr (n.1,s.2))
    else
    some (.inr ((f.1,s.1.2),s.2))):(Option ((AQ×BR)⊕ (AQ×(AQ×BR))))) λN=>
  Sum.elim (λL=>some (Step.done L))
  (λM=>some (.done (M.1,f.2))) N) Q:=by
  intro Q w c R H;refine AB (QA g.1) λA _=>?_;refine AB (P:=λr=>(∃u,r= .inl u/\SR x.1 u.1/\u.2.1=5)\/ ∃u,r= .inr u/\SR x.1 u.1) ?_ λr hr=>?_
  ·refine AE (λ_=>?_) (λ_=>AA (.inr ⟨_,rfl,l⟩));refine AB (Vx g.1 g.2 k.2) λn F=>?_;refine AK (λ_=>?_) (λi=>AA (.inr ⟨_,rfl,l.trans (F i)⟩));exact AB Bj λB G=>AA (.inl ⟨_,rfl,l,G⟩)
  ·rcases hr with⟨u,rfl,m⟩|⟨u,rfl,m⟩
   ·exact BK (AA (w _ ⟨m.1,λi=>by have:=m.2;omega⟩))
   ·exact BG (AA (w _ ⟨m,λi=>by dsimp only at i;omega⟩))
 have e:SR x.1 (f.1,s.1.2)/\(f.2.1=2->f.1.2.2.2.2.2.1=x.1.1.2.2.2.2.2.1):=⟨l,λi=>by rw[z (.inl i),o]⟩
 refine AS (λC=>j _ (λr hr=>hr) 4 (by decide) C) (λ_=>?_);refine AS (λp=>?_) (λ_=>AA e);refine AS (λ_=>j _ (λr hr=>hr) 1 (by decide) p) (λ_=>?_);exact AS (λ_=>j _ (λr hr=>hr) 1 (by decide) p) (λ_=>AA e)
def ZX{x:AT}(h:SK x)(d:D3 x.2.2.1):A2 (Ki x) λr=>r.2.2=0->KL x r.1:=by unfold Ki;refine AB (Bu h) λv e=>?_;refine AO (λ_=>AA λa=>absurd a (by decide)) (λb=>?_);refine AC (λ_=>AA λa=>absurd a (by decide)) (λ_=>?_);refine AB Rj λf c=>?_;refine AK (λb=>AA λa=>absurd a b) (λa=>AA λ_=>⟨rfl,LX.refl _,⟨h.1,?_,h.2.2⟩,d⟩);have:=(c a).2;dsimp only;omega
def Zh{x:AQ}(h:SK x.1)(e:D3 x.1.2.2.1)(d:DI x.2):A2 (Kr x) λr=>r.2.2=0->SR x r.1:=by unfold Kr;refine AB (ZX h e) λf b=>?_;exact AK (λc=>AA λa=>absurd a c) (λa=>AA λ_=>⟨b a,d⟩)
def ZY{x:AT×Int}(h:SK x.1)(j:D3 x.1.2.2.1):A2 (Kj x) λr=>r.2.2=0->KL x.1 r.1/\RO x.1.2.2.2.1/\gM x.1.2.2.2.1 x.2:=by unfold Kj;refine AB (Bu h) λv l=>?_;refine AO (λ_=>AA λf=>absurd f (by decide)) (λk=>?_);refine AB IG λm g=>?_;refine AO (λ_=>AA λf=>absurd f (by decide)) (λe=>?_);obtain⟨a,b,c,d⟩:=g.1 e;exact AB (I4 h j) λn i=>AA λ_=>⟨i.1.kl,a,c⟩
def Zj{x:AQ×Int}(h:SK x.1.1)(i:D3 x.1.1.2.2.1)(g:DI x.1.2):A2 (Kt x) λr=>r.2=0->SR x.1 r.1:=by unfold Kt;refine AB (ZY h i) λl j=>?_;refine AK (λk=>AA λd=>absurd d k) (λd=>?_);obtain⟨a,b,c⟩:=j d;refine AB FL λm e=>?_;refine AB (AD (e.2.2.2 b c) e.2.1) λn _=>?_;refine AO (λ_=>AA λ_=>⟨KL.refl h i,g⟩) (λ_=>?_);exact AB (Rn a.2.2.1 g) λo f=>AA λd=>⟨a.trans (f d).1.kl,(f d).2.1⟩
theorem ZU{x:Be}:A2 (Kc x) λr=>r.length<=64:=by unfold Kc;refine AB EC λv c=>?_;refine AO (λ_=>AA (by simp)) (λa=>?_);have k:=(c.1 a).2.1;have m:=(c.1 a).2.2.1;refine AB (P:=λr=>r.length<=64) ?_ λr hr=>AA hr;refine AM (λ(s:Int×List A1)=>0<=s.1/\s.1<=64/\s.2.length<=s.1) (λ(s:Int×List A1)=>(64-s.1).toNat) ⟨Ah _,by dsimp only;decide,by simp⟩ (λs f=>?_);obtain⟨g,h,i⟩:=f;unfold Qf;have e:=AY (x:=s.1+1) (by omega);rw[e];refine AC (λa=>?_) (λ_=>AA (by omega));refine AB (GZ (by dsimp only;omega)) λn b=>?_;refine AC (λa=>?_) (λ_=>AA ⟨⟨by dsimp only;omega,by dsimp only;omega,by dsimp only;omega⟩,by dsimp only;omega⟩);refine AB (AD a b.2.1) λo _=>?_;refine AB (P:=λl=>l.length<=s.2.length+1) ?_ λq j=>AA ⟨⟨by dsimp only;omega,by dsimp only;omega,by dsimp only;omega⟩,by dsimp only;omega⟩;refine AE (λ_=>?_) (λ_=>AA (by omega));refine AB (AD a b.2.1) λ_ _=>?_;refine AB (AD a b.2.1) λ_ _=>?_;refine AB (Ac (by simp;omega)) λp d=>AA ?_;have:=d.2.1;simp at this;omega
theorem dV{x:AT}(h:SK x):A2 (OL x) λr=>r.2=0->r.1.2.2.2.1.length<=16777216:=by
 unfold OL;refine AB (Bu h) λv m=>?_;refine AO (λ_=>AA λn=>absurd n (by decide)) (λa=>?_);have c:=m a;have k:=c.2.1;refine AB (P:=λr=>r.1.length<=16777216) ?_ λr hr=>AA λ_=>hr;refine AM (λ(s:Int×(List A1)×Int×Int×(List Ai)×By)=>0<=s.1/\s.1<=x.1/\s.2.1.length<=65*s.1) (λ(s:Int×(List A1)×Int×Int×(List Ai)×By)=>(x.1-s.1).toNat) ⟨Ah _,by have:=c.1;dsimp only;omega,by simp⟩ (λs i=>?_);obtain⟨u,w,y⟩:=i;unfold S7;have e:=AY (x:=s.1+1) (by omega);rw[e];refine AC (λa=>?_) (λ_=>AA (by omega));refine AB (I5 h) λE _=>?_;refine AB (P:=λl=>l.1.length<=s.2.1.length+1) ?_ λF z=>?_
 ·refine AE (λ_=>?_) (λ_=>AA (by omega));refine AB (Ac (by simp;omega)) λq b=>AA ?_;have:=b.2.1;simp at this;dsimp only;omega
 refine AB ZU λd A=>?_;refine AB (P:=λl=>l.1.length<=s.2.1.length+65) ?_ λp g=>AA ⟨⟨by dsimp only;omega,by dsimp only;omega,by dsimp only;omega⟩,by dsimp only;omega⟩;refine AM (λ(t:Int×(List A1)×Int×Int×(List Ai)×By)=>0<=t.1/\t.1<=d.length/\t.2.1.length<=s.2.1.length+1+t.1) (λ(t:Int×(List A1)×Int×Int×(List Ai)×By)=>((d.length:Int)-t.1).toNat) ⟨Ah _,by dsimp only;omega,by dsimp only;omega⟩ (λt j=>?_);obtain⟨o,C,D⟩:=j;unfold S8;have f:=AY (x:=t.1+1) (by omega);rw[f];refine AC (λa=>?_) (λ_=>AA (by omega));simp only[len]at a;refine AB (AD o a) λG _=>?_;refine AB (P:=λl=>l.1.length<=t.2.1.length+1) ?_ λH B=>AA ⟨⟨by dsimp only;omega,by dsimp only;omega,by dsimp only;omega⟩,by dsimp only;omega⟩;refine AE (λ_=>?_) (λ_=>AA (by omega));refine AB (Ac (by simp;omega)) λq b=>AA ?_;have:=b.2.1;simp at this;dsimp only;omega
def pT{x:Am×Int}(h:D3 x.1)(d:x.2<=x.1.1+x.1.2.1.length-1):A2 (Dn x) λr=>r.2=0:=by
 unfold Dn;refine AB Bg λv c=>?_;refine AO (λa=>?_) (λ_=>?_)
 ·rw[c.2 h]at a;cases a
 refine AB EQ λe b=>?_;rw[h.last]at b;exact AC (λa=>absurd a (by omega)) (λ_=>AA rfl)
def xq{x:AT×AI}(h:SK x.1):A2 (DX x) λr=>r.2.2=0->r.2.1=r.1.2.2.1.1+r.1.2.2.1.2.1.length-1:=by
 unfold DX;refine AB (Bu h) λv l=>?_;refine AO (λa=>AA (λb=>absurd b (by decide))) (λa=>?_);have w:=l a;refine AB (P:=λs=>(∃u,s= .inl u/\u.2.1≠0)\/ ∃u,s= .inr u/\True) ?_ λs k=>?_
 ·repeat' with_reducible first|apply AC<;>intro a|apply AO<;>intro a|apply AK<;>intro a|apply AE<;>intro a|(apply A4;try dsimp only)|apply BN|apply BT|apply Js|(apply BK;try dsimp only)|(apply BG;try dsimp only)|(apply Az<;>(intro u c;try subst c))|apply AA|(refine AF ?_ (ES ?_);intro r hr)|(refine AF ?_ (AD ?_ ?_);rintro r ⟨hr,z⟩)
  all_goals ((try dsimp only[len]at*);(try first|omega|assumption|grind[AY,SK]))
 ·rcases k with⟨u,rfl,c⟩|⟨u,rfl,c⟩
  ·exact BK (AA λb=>absurd b c)
  ·apply BG;refine AB (Cf) λA q=>?_;refine AB (P:=λv:AI=>True) ?_ λB t=>?_
   ·exact AE (λ_=>AB (Hg h) λ_ _=>AA trivial) (λ_=>AA trivial)
   ·refine AB (Qd) λp j=>?_;refine AK (λa=>AA (λb=>absurd b a)) (λa=>?_);obtain⟨a1,a2,a3,a4,a5⟩:=j a;refine AB (Fk) λm f=>?_;refine AB (SN) λn g=>?_;refine AK (λa=>AA (λb=>absurd b a)) (λd=>?_);refine AB (OI) λo i=>?_;refine AK (λa=>AA (λb=>absurd b a)) (λe=>?_);refine AA λ_=>?_;have y:p.1.2.1.length=x.1.2.2.1.2.1.length+1:=by rw[a3];simp
    dsimp only at*;omega
def bD{x:AT}(h:SK x):A2 (Ls x) λr=>r.2.2=0->KL x r.1:=by unfold Ls;refine AB (dV h) λl f=>?_;refine AK (λc=>AA λa=>absurd a c) (λa=>?_);refine AB (X4 (f a)) λm _=>?_;refine AC (λ_=>AA λa=>absurd a (by decide)) (λ_=>?_);refine AB ((Fl h).and (xq h)) λn d=>?_;refine AK (λc=>AA λa=>absurd a c) (λa=>?_);have b:=(d.1 a).2.kl;have k:=d.2 a;refine AB (I0.and (pT b.2.2.2 (by dsimp only;omega))) λo e=>AA λ_=>?_;obtain⟨g,i,j⟩:=e.1 e.2;exact⟨b.1,b.2.1.trans (LX.of j i),b.2.2.1,g⟩
def UQ{x:AQ}(h:SK x.1)(d:DI x.2):A2 (Hj x) λr=>r.2.2=0->SR x r.1:=by unfold Hj;refine AB (bD h) λe b=>?_;exact AK (λc=>AA λa=>absurd a c) (λa=>AA λ_=>⟨b a,d⟩)
theorem X3{x:Bf}(h:x.length<=1099511627776):A2 (Jp x) λr=>r.2=0->lG r.1/\r.1.2.2.2.1.length<=65536:=by
 unfold Jp;refine AB (CC h) λY _=>?_;refine AB (CC h) λZ _=>?_;refine AB (CC h) λc D=>?_;refine AK (λa=>AA λb=>absurd b (by decide)) (λj=>?_);obtain⟨a1,a2,a3,_⟩:=D j;have a4:=a3 (by show(4:Int)<=4;decide);dsimp only at a1 a2;have u:=AY (x:=len x-10) (by simp only[len];omega);rw[u];refine AC (λa=>AA λb=>absurd b (by decide)) (λa=>?_);simp only[len]at a;have v:=AY (x:=10+c.1) (by omega);rw[v];refine AB (C3 (by decide) (by omega) (by omega)) λv3 E=>?_;refine AB (CC h) λd F=>?_;refine AK (λa=>AA λb=>absurd b (by decide)) (λk=>?_);obtain⟨o,p,q,t⟩:=F k;have R:=q (by show(1:Int)<=4;decide);have S:=t (by show(1:Int)<=2;decide);dsimp only at o p;have w:=AY (x:=len x-(10+c.1)) (by simp only[len];omega);rw[w];have y:=AY (x:=len x-(10+c.1)-1) (by simp only[len];omega);rw[y];have z:=AY (x:=17*d.1) (by omega);rw[z];refine AC (λa=>AA λb=>absurd b (by decide)) (λi=>?_);simp only[len]at i;have A:=AY (x:=10+c.1+1) (by omega);rw[A];refine AB (P:=λr=>r.1=10+c.1+1+17*d.1/\r.2.1.length<=65536) ?_ λJ e=>?_
 ·refine AM (λ(s:Int×Int×List A1×Int×Int×List Ai×By)=>0<=s.2.1/\s.2.1<=d.1/\s.1=10+c.1+1+17*s.2.1/\s.2.2.1.length<=s.2.1) (λ(s:Int×Int×List A1×Int×Int×List Ai×By)=>(d.1-s.2.1).toNat) ⟨Ah _,by dsimp only;omega,by dsimp only;omega,by simp⟩ (λs H=>?_);obtain⟨T,U,V,W⟩:=H;unfold P8;refine AC (λa=>?_) (λa=>AA ⟨by dsimp only;omega,by dsimp only;omega⟩);refine AB (CC h) λ_ _=>?_;refine AB (CC h) λ_ _=>?_;refine AB (CC h) λ_ _=>?_;refine AB (Ac (by simp;omega)) λv9 G=>?_;have I:=G.2.1;simp only[BC,BH]at I;have O:=AY (x:=s.1+17) (by omega);have Q:=AY (x:=s.2.1+1) (by omega);rw[O,Q];exact AA ⟨⟨by dsimp only;omega,by dsimp only;omega,by dsimp only;omega,by dsimp only;omega⟩,by dsimp only;omega⟩
 have X:=E.2;refine AB (Xx (by omega)) λK B=>?_;refine AK (λa=>AA λb=>absurd b a) (λm=>?_);refine AB (C3 (by omega) (by simp only[len];omega) (by simp only[len];omega)) λL f=>?_;have l:=f.2;simp only[len]at l;refine AB (Xv (by omega)) λM C=>?_;refine AK (λa=>AA λb=>absurd b a) (λn=>?_);refine AB (Rl (by dsimp only;omega)) λN g=>?_;exact AO (λa=>AA λb=>absurd b (by decide)) (λa=>AA λ_=>⟨g a,e.2⟩)
def Pd.data{e:AI}(h:Pd e):e.2.2.2.2.2.2.2.length<=8192:=by have a:=h.2.2.2.2.2.2.2.2;unfold VI at a;grind
theorem X5{x:Am}:A2 (Jr x) λr=>r.2.2=true->lG r.1/\r.1.2.2.2.1.length<=65536:=by
 unfold Jr;refine AB Bg λv l=>?_;refine AO (λ_=>AA λc=>by cases c) (λa=>?_);have f:=l.1 a;have g:=f.2.2.1;have e:=AY (x:=len x.2.1-1) (by simp only[len];omega);rw[e];refine AB (P:=λr=> ∀u,r= .inl u->lG u.2.2/\u.2.2.2.2.2.1.length<=65536) ?_ λr hr=>Az (λu b=>AA λ_=>hr u b) (λ_ _=>AA λc=>by cases c);refine AM (λ(s:Int×Ct)=> -1<=s.1/\s.1<x.2.1.length) (λ(s:Int×Ct)=>(s.1+1).toNat) ⟨by simp only[len];omega,by simp only[len];omega⟩ (λs d=>?_);unfold P9;have i:=AY (x:=s.1-1) (by omega);rw[i];refine AC (λa=>?_) (λ_=>AA λu b=>by cases b);have h:((-1<=s.1-1/\s.1-1<x.2.1.length)/\(s.1-1+1).toNat<(s.1+1).toNat):=⟨by omega,by omega⟩
 refine AB (AD a d.2) λn _=>?_;refine AK (λ_=>AA h) (λ_=>?_);refine AB (AD a d.2) λo j=>?_;have m:=(f.2.2.2.2.2 _ _ j.1).2.data;refine AB (X3 (by omega)) λp k=>?_;refine AS (λc=>?_) (λ_=>AA h);refine AB (AD a d.2) λq _=>AA λu b=>?_;cases b;exact k c
def PX{x:List A1×AI}{s:Bool×Int×List A1}(h:0<=s.2.1/\s.2.1<=x.1.length/\x.1.length<=1000000/\s.2.2.length<=s.2.1+1/\(s.1=false->(s.2.2.length:Int)<=s.2.1)):A2 (Ae (Ie x) s) λr=>r.2.length<=x.1.length+1/\(r.1=false->r.2.length<=x.1.length):=by
 refine AM (λ(s:Bool×Int×List A1)=>0<=s.2.1/\s.2.1<=x.1.length/\x.1.length<=1000000/\s.2.2.length<=s.2.1+1/\(s.1=false->(s.2.2.length:Int)<=s.2.1)) (λ(s:Bool×Int×List A1)=>((x.1.length:Int)-s.2.1).toNat) h (λs b=>?_);unfold Ie;repeat' with_reducible first|apply AC<;>intro a|apply AO<;>intro a|apply AS<;>intro a|apply AE<;>intro a|(apply A4;try dsimp only)|apply BN|apply BT|apply Js|(apply BK;try dsimp only)|(apply BG;try dsimp only)|(apply Az<;>(intro u f;try subst f))|apply AA|(apply AB (Cf);intro r hr)|(refine AF ?_ (AD ?_ ?_);rintro r ⟨hr,i⟩)|(refine AF ?_ (Ac ?_);rintro r ⟨hr,g,d⟩)
 all_goals try dsimp only[len]at*
 all_goals try (have e:=AY (x:=s.2.1+1) (by omega))
 all_goals try (have c:=b.2.2.2.2 (by assumption))
 all_goals (try simp only[BC,BH,iY,false_implies,and_true]at*)
 all_goals first|omega|grind
def Zb{x:List A1×AI}(h:x.1.length<=1000000):A2 (Fo x) λr=>r.length<=x.1.length+1:=by
 unfold Fo;repeat' with_reducible first|apply AO<;>intro a|apply AK<;>intro a|apply AE<;>intro a|(apply A4;try dsimp only)|apply BN|apply BT|apply AA|(apply AB (Cf);intro r hr)|(refine AF ?_ (PX ?_);intro r hr)|(refine AF ?_ (PX ?_);intro r hr)|(refine AF ?_ (Ac ?_);rintro r ⟨hr,c,b⟩)
 all_goals try dsimp only[len]at*
 all_goals (try simp only[BC,BH]at*)
 all_goals first|omega|grind
def HL(l:List Ai):Prop:=l.length<=64/\ ∀t∈l,t.2.2.2.2.1.length<=4097
def WD.hl{l:List Ai}(h:WD l):HL l:=⟨h.1,λt b=>by obtain⟨i,a⟩:=G4.1 b;have:=(h.2 i t a).1;omega⟩
def HL.set{l:List Ai}{i:Nat}{n:Ai}(h:HL l)(hn:n.2.2.2.2.1.length<=4097):HL (l.set i n):=⟨by rw[Zw];exact h.1,λt a=>by
 rcases Q2 a with q|q
 ·exact h.2 t q
 ·rw[q];exact hn⟩
def HL.rm{l:List Ai}{id:Int}(h:HL l):HL (vE l id):=⟨by have:=iF l id;have:=h.1;omega,λt a=>h.2 t (Bi.1 a).1⟩
def WD.lens{l:List Ai}{i:Nat}{t:Ai}(h:WD l)(a:l[i]? =some t):t.2.2.2.2.1.length<=4096:=(h.2 i t a).1
def xz{x:List Ai×AI}:A2 (FB x) λr=>r.2=0->HL r.1:=by
 unfold FB;refine AB ED λD k=>?_;refine AO (λc=>AA λa=>absurd a (by decide)) (λc=>?_);have d:=k c;have p:=d.1;refine AB CH λE C=>?_;refine AO (λc=>AA λa=>absurd a (by decide)) (λ_=>?_);refine AS (λc=>AA λ_=>d.hl) (λt=>?_);refine AB (He (by dsimp only;omega)) λF j=>?_;refine AC (λc=>AA λa=>absurd a (by decide)) (λq=>?_);refine AB (AD (by omega) j.2.1) λG m=>?_;have h:=d.lens m.1;refine AK (λc=>AA λa=>absurd a (by decide)) (λ_=>?_);refine AB (P:=λs=>(∃u,s= .inl u/\u.2.2.2.2.1.length<=4097)\/ ∃u,s= .inr u/\(u.2=0->HL u.1)) ?_ λs i=>?_
 ·refine AS (λ_=>?_) (λ_=>?_)
  ·refine AB (Ac (by simp;omega)) λH n=>?_;have v:=n.2.1;simp only[BH]at v;refine AB (Ac (by simp;omega)) λI o=>AA (.inl ⟨_,rfl,?_⟩);have w:=o.2.1;simp only[BH,BC]at w;dsimp only;omega
  ·refine AB (P:=λs=>(∃u,s= .inr u/\u.2.2.2.2.1.length<=4097)\/ ∃u,s= .inl u/\(u.2=0->HL u.1)) ?_ λs i=>?_
   ·refine AS (λ_=>?_) (λ_=>?_)
    ·refine AB (P7 ⟨Ah _,by dsimp only;omega,h,by simp⟩) λy l=>?_;exact AS (λ_=>AA (.inr ⟨_,rfl,λa=>absurd a (by decide)⟩)) (λ_=>AA (.inl ⟨_,rfl,by dsimp only;omega⟩))
    ·refine AS (λ_=>AA (.inl ⟨_,rfl,by dsimp only;omega⟩)) (λ_=>?_);exact AB (Ia (by dsimp only;omega)) λz e=>AA (.inr ⟨_,rfl,λ_=>by rw[e];exact d.hl.rm⟩)
   ·rcases i with⟨u,rfl,b⟩|⟨u,rfl,b⟩
    ·exact BG (AA (.inl ⟨_,rfl,b⟩))
    ·exact BK (AA (.inr ⟨_,rfl,b⟩))
 ·rcases i with⟨u,rfl,b⟩|⟨u,rfl,b⟩
  ·apply BK;refine AB (Me (by omega)) λA f=>?_;refine AB (Kg (by dsimp only;omega) ⟨by dsimp only;omega,j.2.1⟩) λB g=>AA λ_=>?_;rw[g];exact d.hl.set (by rw[f.2];exact b)
  ·exact BG (AA b)
def AN(n:Int)(m:Nat)(a:CY):Prop:=a.1=n/\HL a.2.2.2.1/\a.2.2.2.2.2.1.length<=m
def bF{x:CY×AI}{n:Int}{m:Nat}(h:AN n m x.1)(d:m<=1000000):A2 (Lt x) λr=>r.2=0->AN n (m+1) r.1:=by
 unfold Lt;obtain⟨a1,a2,a3⟩:=h;have a4:=a2.1;repeat' with_reducible first|apply AC<;>intro b|apply AK<;>intro b|apply AE<;>intro b|(apply A4;try dsimp only)|apply BN|apply BT|apply Js|(apply BK;try dsimp only)|(apply BG;try dsimp only)|(apply Az<;>(intro u c;try subst c))|apply AA|(apply AB xz;intro r hr)|(refine AF ?_ (ES ?_);intro r hr)|(apply AB (Rj);intro r hr)|(apply AB (OI);intro r hr)|(apply AB (Cf);intro r hr)|(refine AF ?_ (Zb ?_);intro r hr)
 all_goals try dsimp only[len]at*
 all_goals first|omega|(intro a;exact absurd a (by assumption))|(intro a;exact absurd a (by decide))|(intro _;unfold AN;refine⟨by first|assumption|grind,by grind,by first|omega|grind⟩)|grind
def S4{x:Int}:A2 (JR x) λr=>True:=by unfold JR;refine AC (λ_=>AA trivial) (λ_=>?_);refine AC (λ_=>AA trivial) (λ_=>?_);exact AB (kC (by omega) (by omega)) λ_ _=>AA trivial
def Zd{x:Am×Int}:A2 (Kn x) λr=>r.2=0->AN x.2 65536 r.1:=by
 unfold Kn;refine AB X5 λg e=>?_;refine AO (λ_=>?_) (λa=>?_)
 ·refine AC (λa=>AA λb=>absurd b (by decide)) (λ_=>?_);exact AB S4 λh _=>AA λ_=>⟨rfl,⟨by simp,λt f=>by simp at f⟩,by simp⟩
 ·obtain⟨c,d⟩:=e a;exact AK (λa=>AA λb=>absurd b (by decide)) (λ_=>AA λ_=>⟨rfl,c.2.2.1.hl,d⟩)
def bE{x:Ao×Ao}:A2 (ER x) λr=>True:=by unfold ER;refine AK (λ_=>AA trivial) (λ_=>?_);exact AK (λ_=>AA trivial) (λ_=>AA trivial)
def Wi{x:List Ao×Ao}{s:Int}(h:0<=s/\s<=x.1.length/\(x.1.length:Int)<=16777216):A2 (Ae (NY x) s) λr=>0<=r/\r<=x.1.length:=by
 refine AM (λ(s:Int)=>0<=s/\s<=x.1.length/\(x.1.length:Int)<=16777216) (λ(s:Int)=>((x.1.length:Int)-s).toNat) h (λs b=>?_);unfold NY;repeat' with_reducible first|apply AC<;>intro a|apply AE<;>intro a|apply AA|(apply AB (bE);intro r hr)|(refine AF ?_ (AD ?_ ?_);rintro r ⟨hr,c⟩)
 all_goals ((try dsimp only[len]at*);(try first|omega|assumption|grind[AY]))
def bH{x:List Ao×Ao}(h:x.1.length<=1000000):A2 (Lu x) λr=>r.length<=x.1.length+1:=by
 unfold Lu;refine AB (Wi ⟨Ah _,by omega⟩) λp g=>?_;have a:A2 (Option.bind (Zm x.1 0 p) λb=>
 Option.bind (Zm x.1 p (len x.1)) λc=>
 Option.bind (Fg [] b) λd=>
 Option.bind (Fg d ([x.2]:List (Int×((Int×Int)×Int)))) λe=>
 Option.bind (Fg e c) λf=>
 some f) λr=>r.length<=x.1.length+1:=by refine AB (B0 (Ah _) g.1 g.2) λb i=>?_;refine AB (B0 g.1 (by simp only[len];omega) (by simp only[len];omega)) λc j=>?_;have t:=i.2;have n:=j.2;simp only[len]at n;refine AB (Ac (by simp;omega)) λd k=>?_;have o:=k.2.1;simp only[BH]at o;refine AB (Ac (by simp;omega)) λe l=>?_;have q:=l.2.1;simp only[BH,BC]at q;refine AB (Ac (by omega)) λf m=>AA ?_;have u:=m.2.1;omega
 refine AC (λs=>?_) (λ_=>a);simp only[len]at s;refine AB (AD g.1 s) λv _=>?_;exact AE (λ_=>AA (by omega)) (λ_=>a)
theorem Zc{x:Am×List Ai}(h:HL x.2):A2 (Km x) λr=>r.1.length<=262208:=by
 unfold Km;have o:=h.1;refine AB (P:=λr=>(∀u,r= .inl u->u.1.length<=262208)/\ ∀u,r= .inr u->u.length<=262208) ?_ λr hr=>Az (λu a=>AA (hr.1 u a)) (λu a=>AA (hr.2 u a));refine AM (λ(s:List Ao×Int)=>0<=s.2/\s.2<=x.2.length/\s.1.length<=4097*s.2) (λ(s:List Ao×Int)=>((x.2.length:Int)-s.2).toNat) ⟨Ah _,by dsimp only;omega,by simp⟩ (λs g=>?_);obtain⟨j,p,v⟩:=g;unfold Qj;have e:=AY (x:=s.2+1) (by omega);rw[e];refine AC (λb=>?_) (λ_=>AA ⟨λu a=>(by cases a),λu a=>(by cases a;omega)⟩);simp only[len]at b;obtain⟨t,m,n⟩:=AD (l:=x.2) j b;have A:=h.2 t n.2;refine AB (P:=λr=>(∀u,r= .inl u->u.1.length<=262208)/\ ∀u,r= .inr u->u.length<=4097*(s.2+1)) ?_ λr hr=>?_
 ·refine AM (λ(q:List Ao×Int)=>0<=q.2/\q.2<=t.2.2.2.2.1.length/\q.1.length<=4097*s.2+q.2) (λ(q:List Ao×Int)=>((t.2.2.2.2.1.length:Int)-q.2).toNat) ⟨Ah _,by dsimp only;omega,by dsimp only;omega⟩ (λq i=>?_);obtain⟨k,y,z⟩:=i;unfold Qk;rw[m];refine A4 ?_;have d:=AY (x:=q.2+1) (by omega);rw[d];refine AC (λb=>?_) (λ_=>AA ⟨λu a=>(by cases a),λu a=>(by cases a;omega)⟩);simp only[len]at b;refine A4 ?_;refine AB (AD k b) λB _=>?_;refine AB Fk λC _=>?_;refine AK (λ_=>AA ⟨λu a=>(by cases a;simp),λu a=>(by cases a)⟩) (λ_=>?_);refine AK (λ_=>AA ⟨λu a=>(by cases a;simp),λu a=>(by cases a)⟩) (λ_=>?_);refine A4 ?_;refine AK (λ_=>AA ⟨λu a=>(by cases a;simp),λu a=>(by cases a)⟩) (λ_=>?_);refine AB (bH (by dsimp only;omega)) λD f=>AA ?_;dsimp only at f;exact⟨⟨by dsimp only;omega,by dsimp only;omega,by dsimp only;omega⟩,by dsimp only;omega⟩
 ·refine Az (λu a=>AA ⟨λw c=>?_,λw c=>(by cases c)⟩) (λu a=>AA ?_)
  ·cases c;exact hr.1 u a
  ·have:=hr.2 u a;exact⟨⟨by dsimp only;omega,by dsimp only;omega,by dsimp only;omega⟩,by dsimp only;omega⟩
def Wg{x:Am×Int}:A2 (I9 x) λr=>r.2=0->r.1.1=x.2/\HL r.1.2.2.2.1/\r.1.2.2.2.2.1.length<=262208/\r.1.2.2.2.2.2.1.length<=70000:=by
 unfold I9;refine AB Bg λv D=>?_;refine AO (λ_=>AA λb=>absurd b (by decide)) (λa=>?_);have C:=D.1 a;have q:=C.2.2.1;refine AC (λ_=>AA λb=>absurd b (by decide)) (λ_=>?_);refine AC (λ_=>AA λb=>absurd b (by decide)) (λ_=>?_);refine AB Zd λM z=>?_;refine AK (λa=>AA λb=>absurd b a) (λo=>?_);have B:=z o;refine AB (P:=λr=>(∀u,r= .inl u->u.1≠0)/\ ∀u,r= .inr u->AN x.2 70000 u.1) ?_ λr hr=>Az (λu c=>AA λb=>absurd b (hr.1 u c)) (λu c=>?_)
 ·refine AM (λ(s:Int×CY×CY)=>0<=s.1/\s.1<=x.1.2.1.length/\AN x.2 (65536+s.1.toNat) s.2.1) (λ(s:Int×CY×CY)=>((x.1.2.1.length:Int)-s.1).toNat) ⟨Ah _,by dsimp only;omega,B⟩ (λs n=>?_);obtain⟨h,E,j⟩:=n;unfold PV;have e:=AY (x:=s.1+1) (by omega);rw[e];refine AC (λa=>?_) (λ_=>AA ⟨λu c=>(by cases c),λu c=>?_⟩)
  ·simp only[len]at a;have y:(s.1+1).toNat=s.1.toNat+1:=by omega
   refine AB (AD h a) λN _=>?_;refine AC (λ_=>AA ⟨⟨by dsimp only;omega,by dsimp only;omega,?_⟩,by dsimp only;omega⟩) (λ_=>?_)
   ·obtain⟨q1,q2,q3⟩:=j;exact⟨q1,q2,by dsimp only;omega⟩
   refine AB (AD h a) λO _=>?_;refine AB (bF j (by omega)) λQ A=>?_;refine AK (λa=>AA ⟨λu c=>(by cases c;exact a),λu c=>(by cases c)⟩) (λb=>AA ⟨⟨by dsimp only;omega,by dsimp only;omega,?_⟩,by dsimp only;omega⟩);have:=A b;dsimp only;rw[y];exact this
  ·cases c;obtain⟨q1,q2,q3⟩:=j;exact⟨q1,q2,by omega⟩
 ·obtain⟨q1,q2,q3⟩:=hr.2 u c;have F:=q2.1;refine AB (P:=λl=>HL l) ?_ λK g=>?_
  ·refine AM (λ(s:Int×List Ai)=>0<=s.1/\s.1<=u.1.2.2.2.1.length/\s.2.length<=s.1/\ ∀t∈s.2,t.2.2.2.2.1.length<=4097) (λ(s:Int×List Ai)=>((u.1.2.2.2.1.length:Int)-s.1).toNat) ⟨Ah _,by dsimp only;omega,by simp,λt i=>by simp at i⟩ (λs n=>?_);obtain⟨h,E,j,p⟩:=n;unfold PW;have e:=AY (x:=s.1+1) (by omega);rw[e];refine AC (λa=>?_) (λ_=>AA ⟨by omega,p⟩);simp only[len]at a;refine AB (AD h a) λG _=>?_;refine AB (P:=λl=>l.length<=s.2.length+1/\ ∀t∈l,t.2.2.2.2.1.length<=4097) ?_ λJ f=>AA ⟨⟨by dsimp only;omega,by dsimp only;omega,by have:=f.1;dsimp only;omega,f.2⟩,by dsimp only;omega⟩;refine AC (λ_=>?_) (λ_=>AA ⟨by omega,p⟩);refine AB (AD h a) λH k=>?_;refine AB (Ac (by simp;omega)) λI d=>AA ⟨?_,λt i=>?_⟩
   ·have:=d.2.1;simp at this;omega
   ·rw[d.1]at i;rcases Ar.1 i with w|w
    ·exact p t w
    ·simp at w;rw[w];exact q2.2 _ k.2
  ·refine AB (Zc g) λL m=>?_;exact AK (λa=>AA λb=>absurd b a) (λb=>AA λ_=>⟨q1,g,m,q3⟩)
def S3{x:Int}:A2 (JQ x) λr=>True:=by
 unfold JQ;repeat' with_reducible first|apply AC<;>intro a|apply AE<;>intro a|apply AA
 all_goals trivial
def Zg{x:Am×CY×Int}(l:D3 x.1)(h:HL x.2.1.2.2.2.1/\x.2.1.2.2.2.2.1.length<=262208/\x.2.1.2.2.2.2.2.1.length<=70000):A2 (Kq x) λr=>r.2=0->r.1.1=x.2.1.1/\SK r.1/\D3 r.1.2.2.1/\r.1.2.2.1.1=x.1.1:=by
 unfold Kq;obtain⟨a1,a2,a3⟩:=h;have a4:=a1.1;refine AB S3 λf _=>?_;refine AK (λ_=>AA λb=>absurd b (by decide)) (λ_=>?_);have g:SK (x.2.1.1,(x.2.1.2.1,(x.1,(f.1,((x.2.1.2.2.2.2.1,[]),(x.2.1.2.2.2.1,(x.2.1.2.2.2.2.2.2,x.2.1.2.2.2.2.2.1))))))):=⟨⟨by dsimp only;omega,by simp⟩,by dsimp only;omega⟩
 refine AB (Bu g) λn _=>?_;refine AO (λ_=>AA λb=>absurd b (by decide)) (λ_=>?_);refine AB (P:=λr=>(∀u,r= .inl u->u.1≠0)/\ ∀u,r= .inr u->KL (x.2.1.1,(x.2.1.2.1,(x.1,(f.1,((x.2.1.2.2.2.2.1,[]),(x.2.1.2.2.2.1,(x.2.1.2.2.2.2.2.2,x.2.1.2.2.2.2.2.1))))))) u.1) ?_ λr hr=>Az (λu a=>AA λb=>absurd b (hr.1 u a)) (λu a=>AA λ_=>?_)
 ·refine AM (λ(s:Int×AT×AT)=>0<=s.1/\s.1<=x.2.1.2.2.2.1.length/\KL (x.2.1.1,(x.2.1.2.1,(x.1,(f.1,((x.2.1.2.2.2.2.1,[]),(x.2.1.2.2.2.1,(x.2.1.2.2.2.2.2.2,x.2.1.2.2.2.2.2.1))))))) s.2.1) (λ(s:Int×AT×AT)=>((x.2.1.2.2.2.1.length:Int)-s.1).toNat) ⟨Ah _,by dsimp only;omega,KL.refl g l⟩ (λs k=>?_);obtain⟨i,m,d⟩:=k;unfold Ql;have e:=AY (x:=s.1+1) (by omega);rw[e];refine AC (λc=>?_) (λ_=>AA ⟨λu a=>(by cases a),λu a=>(by cases a;exact d)⟩);simp only[len]at c;refine AB (AD i c) λo _=>?_;refine AS (λ_=>AA ⟨⟨by dsimp only;omega,by dsimp only;omega,d⟩,by dsimp only;omega⟩) (λ_=>?_);refine AB (AD i c) λp _=>?_;refine AB (Fl d.2.2.1) λq j=>?_;refine AK (λc=>AA ⟨λu a=>(by cases a;exact c),λu a=>(by cases a)⟩) (λb=>AA ⟨⟨by dsimp only;omega,by dsimp only;omega,d.trans (j b).2.kl⟩,by dsimp only;omega⟩)
 ·have:=hr.2 u a;exact⟨this.1,this.2.2.1,this.2.2.2,this.2.1.1⟩
def bQ{x:AQ×Int×Cl}(h:SK x.1.1)(p:D3 x.1.1.2.2.1)(o:DI x.1.2):A2 (L6 x) λr=>SR x.1 r.1/\(r.2.1≠0->TP r.1.1.2.2.2.2.2.1<TP x.1.1.2.2.2.2.2.1):=by
 unfold L6;refine AB (P:=λr=>SR x.1 r.2.2/\(r.1≠0->TP r.2.2.1.2.2.2.2.2.1<TP x.1.1.2.2.2.2.2.1)) ?_ λr hr=>AA hr;refine AM (λ(s:Int×AQ×AQ)=>SR x.1 s.2.1/\TP s.2.1.1.2.2.2.2.2.1<=TP x.1.1.2.2.2.2.2.1/\(s.1≠0->TP s.2.1.1.2.2.2.2.2.1<TP x.1.1.2.2.2.2.2.1)) (λ(s:Int×AQ×AQ)=>2*TP s.2.1.1.2.2.2.2.2.1+flag (¬gM s.2.1.1.2.2.2.1 x.2.2.1)) ⟨⟨KL.refl h p,o⟩,Aj _,λe=>absurd rfl e⟩ (λs d=>?_);obtain⟨d,v,j⟩:=d;have k:=d.1.2.2;unfold Rp;refine AB (bB k.1 k.2) λw n=>?_;obtain⟨k1,q,t⟩:=n;refine AS (λ_=>AA ⟨d,j⟩) (λm=>?_);refine AB (P:=λr=>(∃u,r= .inl u/\u.1=s.1/\u.2.2=s.2.1)\/ ∃u,r= .inr u/\SR s.2.1 u.2.1/\(TP u.2.1.1.2.2.2.2.2.1<TP s.2.1.1.2.2.2.2.2.1\/(u.1=s.1/\TP u.2.1.1.2.2.2.2.2.1=TP s.2.1.1.2.2.2.2.2.1/\gM u.2.1.1.2.2.2.1 x.2.2.1/\ ¬gM s.2.1.1.2.2.2.1 x.2.2.1))) ?_ λr hr=>?_
 ·apply AS<;>intro l
  ·obtain⟨a,b,c⟩:=q l;refine AB (HH k.1 d.2) λy i=>?_;refine AK (λ_=>AA (.inl ⟨_,rfl,rfl,rfl⟩)) (λe=>AA (.inr ⟨_,rfl,(i e).1.sr,.inr ⟨rfl,?_,?_,b⟩⟩))
   ·have:=(i e).1.1.2.2.2.2.1;exact congrArg TP this
   ·have:=(i e).2;rw[a]at this;exact this
  ·refine AS (λ_=>AA (.inl ⟨_,rfl,rfl,rfl⟩)) (λc0=>AA (.inr ⟨_,rfl,⟨k1,d.2⟩,.inl (t l m c0)⟩))
 ·rcases hr with⟨u,rfl,g⟩|⟨u,rfl,g⟩
  ·refine BK (AA ?_);dsimp only;rw[g.1,g.2];exact⟨d,j⟩
  ·refine BG (AA ?_);obtain⟨q1,q2⟩:=g;rcases q2 with q2|⟨q2,q3,q4,q5⟩
   ·have f:=tX (¬gM u.2.1.1.2.2.2.1 x.2.2.1);exact⟨⟨d.trans q1,by omega,λ_=>by omega⟩,by first|omega|(dsimp only;omega)⟩
   ·refine⟨⟨d.trans q1,by omega,λe=>by rw[q3];exact j (by rw[<-q2];exact e)⟩,?_⟩;try dsimp only
    rw[ol q5,oi (λh=>h q4),q3];omega
def Qm{x:AT×Int}(h:SK x.1):A2 (Hi x) λr=>True:=by unfold Hi;refine AB (Bu h) λv c=>?_;refine AB (P:=λ_=>True) ?_ λr _=>Az (λ_ _=>AA trivial) (λ_ _=>AA trivial);refine AE (λ_=>?_) (λ_=>AA trivial);refine AB (ES h.2.1) λd a=>?_;refine AC (λb=>?_) (λ_=>AA trivial);refine AB (AD b a.2.1) λ_ _=>?_;refine AS (λ_=>?_) (λ_=>AA trivial);exact AB (AD b a.2.1) λ_ _=>AA trivial
def Wl{x:AT}{s:Int×List Int}(h:0<=s.1/\s.1<=x.2.2.2.2.2.1.length/\x.2.2.2.2.2.1.length<=16777216/\s.2.length<=s.1/\SK x):A2 (Ae (Na x) s) λr=>True:=by
 refine AM (λ(s:Int×List Int)=>0<=s.1/\s.1<=x.2.2.2.2.2.1.length/\x.2.2.2.2.2.1.length<=16777216/\s.2.length<=s.1/\SK x) (λ(s:Int×List Int)=>((x.2.2.2.2.2.1.length:Int)-s.1).toNat) h (λs c=>?_);unfold Na;repeat' with_reducible first|apply AC<;>intro a|apply AE<;>intro a|(apply A4;try dsimp only)|apply BN|apply BT|apply AA|(refine AF ?_ (Qm ?_);intro r hr)|(refine AF ?_ (AD ?_ ?_);rintro r ⟨hr,e⟩)|(refine AF ?_ (Ac ?_);rintro r ⟨hr,d,b⟩)
 all_goals ((try dsimp only[len]at*);(try first|omega|assumption|grind[AY]))
def bK{x:AT}(h:SK x):A2 (Lx x) λr=>True:=by unfold Lx;exact AB (Wl ⟨Ah _,by dsimp only;omega,h.2.1,by simp,h⟩) λ_ _=>AA trivial
def UP{x:AT×Int}{c:Ao×Bool}{a:List Int}{s:Int×Cl}(h:0<=s.1/\s.1<=a.length/\a.length<=16777216/\SK x.1):A2 (Ae (KG x c a) s) λr=>True:=by
 refine AM (λ(s:Int×Cl)=>0<=s.1/\s.1<=a.length/\a.length<=16777216/\SK x.1) (λ(s:Int×Cl)=>((a.length:Int)-s.1).toNat) h (λs d=>?_);unfold KG;repeat' with_reducible first|apply AC<;>intro b|apply AE<;>intro b|apply AA|(refine AF ?_ (Qm ?_);intro r hr)|(refine AF ?_ (AD ?_ ?_);rintro r ⟨hr,e⟩)
 all_goals ((try dsimp only[len]at*);(try first|omega|assumption|grind[AY]))
def Wk{x:AT×Int}(h:SK x.1):A2 (JA x) λr=>True:=by unfold JA;refine AB (H6 h.1) λb _=>?_;refine AO (λ_=>AA trivial) (λ_=>?_);refine AB (Kb h.1) λc a=>?_;refine AB (UP ⟨Ah _,by dsimp only;omega,by omega,h⟩) λr _=>?_;exact Az (λ_ _=>AA trivial) (λ_ _=>AA trivial)
def dX{x:AQ×Int×Cr}(h:SK x.1.1)(k:D3 x.1.1.2.2.1)(j:DI x.1.2):A2 (ON x) λr=>SR x.1 r.1:=by
 unfold ON;refine AB (P:=λr=>SR x.1 r.1) ?_ λr hr=>AA hr;refine AM (λ(s:AQ×AQ×BR)=>SR x.1 s.1) (λ(s:AQ×AQ×BR)=>TP s.1.1.2.2.2.2.2.1) ⟨KL.refl h k,j⟩ (λs c=>?_);have g:=c.1.2.2;unfold TA;refine AB (dW g.1 g.2 c.2) λm e=>?_;have b:=c.trans e.1;have a:=b.1.2.2;refine AK (λ_=>AA b) (λi=>?_);have l:=e.2 i;refine AB (Wk a.1) λn _=>?_;refine AO (λ_=>AA b) (λ_=>?_);refine AB (bQ a.1 a.2 b.2) λo f=>?_;have d:=b.trans f.1;refine AK (λ_=>?_) (λ_=>?_)
 ·exact AB Bj λp _=>AA d
 refine AS (λ_=>AA d) (λc0=>AA ⟨d,?_⟩);have:=f.2 c0;dsimp only at*;rw[l]at this;exact this
def bP{x:AQ}(h:SK x.1)(p:D3 x.1.2.2.1)(g:DI x.2):A2 (L5 x) λr=>r.2.2=0->SR x r.1:=by
 unfold L5;refine AB (Bu h) λv G=>?_;refine AO (λ_=>AA λa=>absurd a (by decide)) (λc=>?_);refine AC (λc=>?_) (λ_=>?_)
 ·simp only[len]at c;refine AB (AD (Ah _) c) λI _=>?_;exact AB (HH h g) λJ y=>AA λa=>(y a).1.sr
 refine AB (bK h) λE _=>?_;refine AS (λ_=>AA λ_=>⟨KL.refl h p,g⟩) (λk=>?_);simp only[len]at k;refine AB (P:=λr=>r.2.1=0->SR x r.2.2) ?_ λr hr=>AA hr;obtain⟨id,t,F⟩:=(AD (l:=E) (i:=0) (Ah _) (by omega))
 refine AM (λ(s:AQ×AQ)=>SR x s.1) (λ(s:AQ×AQ)=>flag (∃e,NX s.1.1 id e/\ ¬gM s.1.1.2.2.2.1 e.2.2.2.2.2.2.1.1)) ⟨KL.refl h p,g⟩ (λs b=>?_);have j:=b.1.2.2;unfold Ro;rw[t];apply A4;refine AB (SU j.1 j.2) λK A=>?_;obtain⟨k1,B,H,C⟩:=A;refine AS (λz=>AA λa=>absurd a (C z)) (λ_=>?_);refine AK (λ_=>AA λ_=>⟨b.1.trans k1,b.2⟩) (λq=>?_);obtain⟨e,n,u,w⟩:=B q;refine AB (HH j.1 b.2) λL o=>?_;refine AK (λc=>AA λa=>absurd a c) (λa=>AA ⟨b.trans (o a).1.sr,?_⟩);obtain⟨m,d⟩:=o a;have D:=m.1.2.2.2.2.1;rw[ol (⟨e,n,w⟩: ∃e,NX s.1.1 id e/\ ¬gM s.1.1.2.2.2.1 e.2.2.2.2.2.2.1.1),oi]
 ·omega
 ·rintro⟨f,q1,q2⟩;have:=n.uniq q1 D m.1.2.1;subst this;dsimp only at d;rw[u]at d;exact q2 d
def runN{S R:Type}(f:S->Option (Step S R)):Nat->S->Option R
 |0,_=>none
 |n+1,s=>
  match f s with
  |some (.next s')=>runN f n s'
  |some (.done r)=>some r
  |none=>none
def pJ{S R:Type}{f:S->Option (Step S R)}{r:R}: ∀{n:Nat} {s:S},runN f n s=some r->Ae f s=some r
 |0,s,h=>by cases h
 |n+1,s,h=>by
  simp only[runN]at h;rw[Cg];split at h
  ·rename_i b e;rw[e];exact pJ h
  ·rename_i a e;rw[e];exact h
  ·cases h
def m9:Bf:=[80,77,76,71,1,0,0,0,0,0,0,0]
def zC:Ak (([80,77,76,71]:List UInt8),(1,8))=some m9:=by
 have e:Ak (([80,77,76,71]:List UInt8),(1,8))=Option.bind (Ae (FI (([80,77,76,71]:List UInt8),(1,8))) (([80,77,76,71]:List UInt8),0)) λa=>some a:=by kernel_rfl
 rw[e,pJ (n:=10) (r:=m9) (by kernel_rfl)];rfl
def yb:Au (m9,(4,8))=some (1,0):=by
 have e:Au (m9,(4,8))=Option.bind (Ae (GU (m9,(4,8))) (0,0)) λa=>some ((wi a),0):=by kernel_rfl
 rw[e,pJ (n:=10) (r:=1) (by kernel_rfl)];rfl
def HD(s:Bf):Prop:= ∃q t,s=q++(m9++t)/\q.length=4
def zD{x:Bf×Int×Int}(h:x.1.length<=1099511627776):A2 (Ak x) λr=> ∃t,r=x.1++t:=by
 unfold Ak;refine AC (λ_=>AA ⟨[],by simp⟩) (λj=>?_);refine AC (λ_=>AA ⟨[],by simp⟩) (λk=>?_);refine AB (P:=λr=> ∃t,r=x.1++t) ?_ λv i=>AA i;refine AM (λ(s:Bf×Int)=>0<=s.2/\s.2<=8/\s.1.length<=1099511627776+s.2/\ ∃t,s.1=x.1++t) (λ(s:Bf×Int)=>(8-s.2).toNat) ⟨Ah _,by dsimp only;omega,by dsimp only;omega,[],by simp⟩ (λs f=>?_);obtain⟨m,n,o,t,a⟩:=f;unfold FI;have e:=AY (x:=s.2+1) (by omega);have c:=AY (x:=8*s.2) (by omega);rw[e,c];refine AC (λl=>?_) (λ_=>AA ⟨t,a⟩);refine AC (λg=>?_) (λ_=>?_)
 ·exfalso;have:=iL (8*s.2);omega
 refine AB (CE (by simp[GA];omega)) λp d=>AA ?_;obtain⟨b,l1⟩:=d;simp only[GA,BE,G3,BC,BH]at l1;exact⟨⟨by dsimp only;omega,by dsimp only;omega,by dsimp only;omega,⟨_,by dsimp only;rw[b,a,Ax]⟩⟩,by dsimp only;omega⟩
def ye:A2 (HB 1) HD:=by unfold HB;rw[zC];apply A4;refine AB (P:=HD) ?_ λj a=>AA a;unfold Dm;refine AC (λf=>absurd f (by decide)) (λ_=>?_);refine AB (CM (by simp)) λi d=>?_;have g:=d.1 (by decide) (by decide);simp only[BH]at g;refine AB (CE (by have:m9.length=12:=rfl;omega)) λj a=>?_;obtain⟨c,l1⟩:=a;have h:m9.length=12:=rfl;refine AB (Gn (by omega)) λk _=>?_;refine AB (zD (by dsimp only;omega)) λl e=>AA ?_;obtain⟨t,b⟩:=e;dsimp only at b;exact⟨i,t,by rw[b,c,Ax],by omega⟩
def rC{x:Bf}(h:x.length<=1099511627776):A2 (B5 (x,0)) λr=>r.2.2=0->r.1=(x.drop 4).take r.1.length:=by
 unfold B5;refine AC (λc=>absurd c (by simp)) (λ_=>?_);refine AC (λc=>absurd c (by simp only[len];omega)) (λ_=>?_);refine AB (CC (by dsimp only;omega)) λb p=>?_;refine AK (λ_=>AA λa=>absurd a (by decide)) (λd=>?_);obtain⟨a1,a2,a3,a4⟩:=p d;have a5:=a3 (by dsimp only;omega);dsimp only at a2;refine AC (λ_=>AA λa=>absurd a (by decide)) (λe=>?_);dsimp only at e⊢;have g:=AY (x:=len x-0) (by simp only[len];omega);have i:=AY (x:=b.1+8) (by omega);have j:=AY (x:=(0:Int)+4) (by omega);have k:=AY (x:=(0:Int)+4+b.1) (by omega);have l:=AY (x:=(0:Int)+8) (by omega);have m:=AY (x:=(0:Int)+8+b.1) (by omega);rw[g,i,j,k,l,m];refine AC (λ_=>AA λa=>absurd a (by decide)) (λf=>?_);simp only[len]at f;refine AB (CC (by dsimp only;omega)) λv _=>?_;refine AB (C3 (by omega) (by omega) (by omega)) λw q=>?_;refine AB (Gn (by have:=q.2;omega)) λy _=>?_;refine AK (λ_=>AA λa=>absurd a (by decide)) (λ_=>?_);refine AB (C3 (by omega) (by omega) (by omega)) λt s=>AA λ_=>?_;obtain⟨n,u⟩:=s;dsimp only;have o:t.length=((0:Int)+4+b.1).toNat-((0:Int)+4).toNat:=by omega
 rw[o];exact n
def HD.pay{s p:Bf}(h:HD s)(b:p=(s.drop 4).take p.length)(a:p.length=12):p=m9:=by obtain⟨q,t,rfl,c⟩:=h;rw[b,a,<-c,Jv];exact J5 rfl
def SJ{x:Int}:A2 (HB x) λr=>r.length<=8408:=by unfold HB;refine AB (CM (by simp)) λb _=>?_;exact AB Iy λc a=>AA a
def I1{x:AI}:A2 (IE x) λr=>r.length<=8408:=by unfold IE;refine AB Qb λb _=>?_;exact AB Iy λc a=>AA a
theorem Rh{x:Am×Int}:A2 (Fj x) λr=>r.length<=1099511627776:=by
 unfold Fj;refine AB Bg λv m=>?_;refine AO (λ_=>AA (by simp)) (λb=>?_);have B:=(m.1 b).2.2.1;refine AB SJ λF A=>?_;refine AB (P:=λr=>r.1.length<=100000000/\r.2.length<=100000000) ?_ λa j=>?_
 ·refine AM (λ(s:Bf×Bf×Int)=>0<=s.2.2/\s.2.2<=x.1.2.1.length/\s.1.length<=8408*s.2.2+8408/\s.2.1.length<=8408*s.2.2) (λ(s:Bf×Bf×Int)=>((x.1.2.1.length:Int)-s.2.2).toNat) ⟨Ah _,by dsimp only;omega,by dsimp only;omega,by simp⟩ (λs l=>?_);obtain⟨h,C,D,E⟩:=l;unfold MU;have e:=AY (x:=s.2.2+1) (by omega);rw[e];refine AC (λb=>?_) (λ_=>AA ⟨by dsimp only;omega,by dsimp only;omega⟩);simp only[len]at b;refine AB (AD h b) λG _=>?_;refine AB (P:=λr=>r.1.length<=8408*(s.2.2+1)+8408/\r.2.length<=8408*(s.2.2+1)) ?_ λq c=>AA ⟨⟨by dsimp only;omega,by dsimp only;omega,c.1,c.2⟩,by dsimp only;omega⟩;refine AC (λ_=>?_) (λ_=>?_)
  ·refine AB (AD h b) λw _=>?_;refine AB I1 λy k=>?_;refine AB (CE (by omega)) λz g=>AA ?_;have p:=g.2;exact⟨by dsimp only;omega,by dsimp only;omega⟩
  ·refine AB (AD h b) λw _=>?_;refine AB I1 λy k=>?_;refine AB (CE (by omega)) λz g=>AA ?_;have p:=g.2;exact⟨by dsimp only;omega,by dsimp only;omega⟩
 ·have i:0<=(if((len a.2)<(if(0>x.2)then 0 else x.2))then(len a.2)else(if(0>x.2)then 0 else x.2))/\(if((len a.2)<(if(0>x.2)then 0 else x.2))then(len a.2)else(if(0>x.2)then 0 else x.2))<=a.2.length:=by simp only[len];split<;>split<;>omega
  refine AB (C3 (Ah _) i.1 i.2) λt d=>?_;have n:=d.2;refine AB (CE (by omega)) λu f=>AA ?_;have o:=f.2;omega
def D3.frc{a f g:Int}{l:List AI}(h:D3 (a,l,f))(b:a-1<=g)(c:g<=a+l.length-1):D3 (a,l,g):=⟨h.1,h.2.1,h.2.2.1,b,c,h.2.2.2.2.2⟩
def ao{x:Bf}(h:x.length<=1099511627776)(J:x=[]\/HD x):A2 (Lh x) λr=>r.2=0->D3 r.1/\r.1.1=1:=by
 unfold Lh;refine AB ((H5 h).and (rC h)) λL k=>?_;obtain⟨k,j⟩:=k;refine AK (λ_=>AA λd=>absurd d (by decide)) (λf=>?_);have S:=(k f).1;have p:x≠ []:=by rintro rfl;have:=(k f).2;simp only[BH]at this;omega
 refine AK (λ_=>AA λd=>absurd d (by decide)) (λn=>?_);simp only[len]at n;refine AB (C3 (Ah _) (by decide) (by omega)) λT _=>?_;refine AK (λ_=>AA λd=>absurd d (by decide)) (λ_=>?_);have g:L.1=m9:=(J.resolve_left p).pay (j f) (by omega);rw[g,yb];apply A4;generalize c:((1:Int),(0:Int))=v2;have C:v2.1=1:=by rw[<-c]
 refine AC (λ_=>AA λd=>absurd d (by decide)) (λO=>?_);refine AC (λ_=>AA λd=>absurd d (by decide)) (λQ=>?_);have A:=AY (x:=v2.1-1) (by omega);rw[A];refine AB (P:=λr=>(∀u,r= .inl u->D3 u.2/\u.2.1=1)/\ ∀u,r= .inr u->D3 (u.2.1,(u.1,u.2.2.1))/\u.2.1=1) ?_ λr hr=>Az (λu a=>AA λ_=>hr.1 u a) (λu a=>AA λ_=>hr.2 u a);refine AM (λ(s:Int×List AI×Int×Int×Am)=>(D3 (s.2.2.1,(s.2.1,s.2.2.2.1))/\s.2.2.1=1)/\s.2.2.2.1=s.2.2.1+s.2.1.length-1) (λ(s:Int×List AI×Int×Int×Am)=>4096-s.2.1.length) ⟨⟨⟨by dsimp only;omega,by dsimp only;omega,by simp,by dsimp only;omega,by first|(simp;done)|(simp;omega),λi e I=>by simp at I⟩,C⟩,by first|(simp;done)|(simp;omega)⟩ (λs F=>?_);obtain⟨b,R⟩:=F;obtain⟨m,o⟩:=id b;have w:=m.1;have y:=m.2.1;have z:=m.2.2.1;dsimp only at w y z;unfold Ri;refine AC (λG=>?_) (λ_=>AA ⟨λu a=>(by cases a),λu a=>(by cases a;exact b)⟩);simp only[len]at G;refine AB (H5 h) λU D=>?_;refine AK (λ_=>AA ⟨λu a=>(by cases a;exact b),λu a=>(by cases a)⟩) (λq=>?_);refine AB (Qa (by have:=(D q).1;omega)) λM E=>?_;refine AK (λ_=>AA ⟨λu a=>(by cases a;exact b),λu a=>(by cases a)⟩) (λt=>?_);refine AK (λ_=>AA ⟨λu a=>(by cases a;exact b),λu a=>(by cases a)⟩) (λH=>?_);have B:=AY (x:=s.2.2.2.1+1) (by omega);rw[B]at H;refine AB (Ac (by simp;omega)) λN v=>AA ?_;have K:=v.2.1;simp only[BC,BH]at K;have c:=m.append (e:=M.1) (l:=N) (by dsimp only;omega) (E t) (by dsimp only;omega) v.1;dsimp only at c;exact⟨⟨⟨c.frc (by dsimp only;omega) (by dsimp only;omega),o⟩,by dsimp only;omega⟩,by dsimp only;omega⟩
def pq{x:Am×Int}(z:x.1.1=1):A2 (Fj x) λr=>r=[]\/HD r:=by
 unfold Fj;refine AB Bg λv B=>?_;refine AO (λ_=>AA (.inl rfl)) (λd=>?_);have I:=(B.1 d).2.2.1;rw[z];refine AB (SJ.and ye) λM n=>?_;obtain⟨n,A⟩:=n;refine AB (P:=λr=>r.1.length<=100000000/\r.2.length<=100000000/\HD r.1) ?_ λa c=>?_
 ·refine AM (λ(s:Bf×Bf×Int)=>0<=s.2.2/\s.2.2<=x.1.2.1.length/\s.1.length<=8408*s.2.2+8408/\s.2.1.length<=8408*s.2.2/\HD s.1) (λ(s:Bf×Bf×Int)=>((x.1.2.1.length:Int)-s.2.2).toNat) ⟨Ah _,by dsimp only;omega,by dsimp only;omega,by simp,A⟩ (λs y=>?_);obtain⟨i,J,K,L,j⟩:=y;unfold MU;have e:=AY (x:=s.2.2+1) (by omega);rw[e];refine AC (λd=>?_) (λ_=>AA ⟨by dsimp only;omega,by dsimp only;omega,j⟩);simp only[len]at d;refine AB (AD i d) λN _=>?_;refine AB (P:=λr=>r.1.length<=8408*(s.2.2+1)+8408/\r.2.length<=8408*(s.2.2+1)/\HD r.1) ?_ λE b=>AA ⟨⟨by dsimp only;omega,by dsimp only;omega,b.1,b.2.1,b.2.2⟩,by dsimp only;omega⟩;refine AC (λ_=>?_) (λ_=>?_)
  ·refine AB (AD i d) λG _=>?_;refine AB I1 λp w=>?_;refine AB (CE (by omega)) λH h=>AA ?_;obtain⟨u,D⟩:=h;obtain⟨q,t,l,m⟩:=j;exact⟨by dsimp only;omega,by dsimp only;omega,q,t++p,by dsimp only;rw[u,l];simp only[Ax],m⟩
  ·refine AB (AD i d) λG _=>?_;refine AB I1 λp w=>?_;refine AB (CE (by omega)) λH h=>AA ?_;have D:=h.2;exact⟨by dsimp only;omega,by dsimp only;omega,j⟩
 ·have o:0<=(if((len a.2)<(if(0>x.2)then 0 else x.2))then(len a.2)else(if(0>x.2)then 0 else x.2))/\(if((len a.2)<(if(0>x.2)then 0 else x.2))then(len a.2)else(if(0>x.2)then 0 else x.2))<=a.2.length:=by simp only[len];split<;>split<;>omega
  refine AB (C3 (Ah _) o.1 o.2) λk f=>?_;have C:=f.2;refine AB (CE (by have:=c.1;have:=c.2.1;omega)) λF g=>AA (.inr ?_);obtain⟨q,t,l,m⟩:=c.2.2;exact⟨q,t++k,by rw[g.1,l];simp only[Ax],m⟩
def SQ(n:Int)(s:AQ):Prop:=s.1.1=n/\SK s.1/\D3 s.1.2.2.1/\DI s.2/\s.1.2.2.1.1=1
def SQ.sr{n:Int}{s r:AQ}(h:SQ n s)(g:SR s r):SQ n r:=⟨g.1.1.trans h.1,g.1.2.2.1,g.1.2.2.2,g.2,g.1.2.1.1.trans h.2.2.2.2⟩
def bM{x:Bx×Bf×Int×Int}(h:x.2.1.length<=1099511627776)(k:x.2.1=[]\/HD x.2.1)(l:DI x.1):A2 (L3 x) λr=>r.2=0->SQ x.2.2.1 r.1:=by unfold L3;refine AB (ao h k) λm f=>?_;refine AK (λa=>AA λb=>absurd b a) (λc=>?_);refine AB Wg λn i=>?_;refine AK (λa=>AA λb=>absurd b a) (λd=>?_);have g:=i d;refine AB (Zg (f c).1 g.2) λo j=>?_;refine AK (λa=>AA λb=>absurd b a) (λe=>AA λ_=>?_);obtain⟨q1,q2,q3,q4⟩:=j e;exact⟨q1.trans g.1,q2,q3,l,q4.trans (f c).2⟩
def bO{x:Bx×Bf×Int×Int}(h:x.2.1.length<=1099511627776)(b:x.2.1=[]\/HD x.2.1)(c:DI x.1):A2 (L4 x) λr=>r.2=0->SQ x.2.2.1 r.1:=by unfold L4;exact AB (bM h b c) λd a=>AA a
def Zi{x:AQ×Int×Int×Int}(h:SK x.1.1)(n:D3 x.1.1.2.2.1)(a:DI x.1.2)(e:x.1.1.2.2.1.1=1):A2 (Ks x) λr=>DI r.1/\r.2.length<=1099511627776/\(r.2=[]\/HD r.2):=by unfold Ks;refine AB FL λi f=>?_;refine AC (λc=>?_) (λ_=>AB (Rh.and (pq e)) λp b=>AA ⟨a,b⟩);refine AB (AD c f.2.1) λq _=>?_;refine AB (P:=λr=>DI r.2/\r.1.2.2.1.1=1) ?_ λz g=>AB (Rh.and (pq g.2)) λA m=>AA ⟨g.1,m⟩;refine AE (λ_=>?_) (λ_=>AA ⟨a,e⟩);refine AB (AD c f.2.1) λs _=>?_;refine AB MK λt _=>?_;refine AB (AD c f.2.1) λu _=>?_;refine AB (I4 h n) λv j=>?_;refine AB (am a) λw k=>?_;refine AB (P:=λd=>DI d) ?_ λy l=>AA ⟨l,j.1.2.1.1.trans e⟩;exact AS (λo=>AA (k o)) (λ_=>AA a)
def EX{x:Int}:A2 (Da x) λr=>True:=by unfold Da;exact AK (λ_=>AB Bj λ_ _=>AA trivial) (λ_=>AA trivial)
def X6{m:Nat}{c:AQ×Bool}{s:Int×List Int×AQ×Bool}(i:m<=16777216)(h:0<=s.1/\s.1<=m/\s.2.1.length=m/\s.2.2=c):A2 (Ae OO s) λr=>r.1.length=m/\r.2=c:=by refine AM (λ(s:Int×List Int×AQ×Bool)=>0<=s.1/\s.1<=m/\s.2.1.length=m/\s.2.2=c) (λ(s:Int×List Int×AQ×Bool)=>((m:Int)-s.1).toNat) h (λs g=>?_);obtain⟨b,j,d,f⟩:=g;unfold OO;have e:=AY (x:=s.1+1) (by omega);rw[e];refine AC (λa=>?_) (λ_=>AA ⟨d,f⟩);simp only[len]at a;refine AB (AD b a) λ_ _=>?_;refine AB (AD b a) λ_ _=>?_;exact AA ⟨⟨by dsimp only;omega,by dsimp only;omega,by simp[BZ,d],f⟩,by dsimp only;omega⟩
def cY{n:Int}{x:AQ×List J2}(h:SQ n x.1):A2 (M0 x) λr=>SQ n r.1:=by
 unfold M0;refine AB (P:=λr=>SQ n r.2.2.2.1) ?_ λr hr=>AA hr;refine AM (λ(s:Int×List BR×List Int×List IM×AQ×Bool)=>0<=s.1/\s.1<=1000/\s.2.1.length<=s.1/\s.2.2.1.length<=s.1/\s.2.2.2.1.length<=s.1/\SQ n s.2.2.2.2.1) (λ(s:Int×List BR×List Int×List IM×AQ×Bool)=>(1000-s.1).toNat) ⟨Ah _,by dsimp only;omega,by simp,by simp,by simp,h⟩ (λs U=>?_);obtain⟨W,i2,i3,i4,i5,d⟩:=U;obtain⟨q1,q2,q3,q4,q5⟩:=id d;unfold SW;refine AC (λN=>?_) (λ_=>AA d);refine AC (λV=>?_) (λ_=>AA d);refine AO (λ_=>?_) (λ_=>AA d);simp only[len]at N;have e:=AY (x:=s.1+1) (by omega);have b: ∀(v:BR) (t:List Int×List IM×AQ×Bool),t.1.length<=s.1+1->t.2.1.length<=s.1+1->SQ n t.2.2.1-> ∀Q:Step (Int×((List BR)×((List Int)×((List IM)×(AQ×Bool))))) ((List BR)×((List Int)×((List IM)×(AQ×Bool))))->Prop,(∀a:Int×List BR×List Int×List IM×AQ×Bool,(0<=a.1/\a.1<=1000/\a.2.1.length<=a.1/\a.2.2.1.length<=a.1/\a.2.2.2.1.length<=a.1/\SQ n a.2.2.2.2.1)/\(1000-a.1).toNat<(1000-s.1).toNat->Q (.next a))->A2 (Option.bind (Fg s.2.1 ([v]:List (Int×(Int×(Int×((Bool×Bf)×Int)))))) λA=>some (.next ((wi (s.1+1)),(A,t)))) Q:=by intro v t h1 L D Q F;refine AB (Ac (by simp;omega)) λA T=>AA (F _ ?_);have X:=T.2.1;simp only[BC,BH]at X;rw[e];exact⟨⟨by dsimp only;omega,by dsimp only;omega,by dsimp only;omega,by dsimp only;omega,by dsimp only;omega,D⟩,by dsimp only;omega⟩
 have same: ∀(v:BR) (Q:Step (Int×((List BR)×((List Int)×((List IM)×(AQ×Bool))))) ((List BR)×((List Int)×((List IM)×(AQ×Bool))))->Prop),(∀a:Int×List BR×List Int×List IM×AQ×Bool,(0<=a.1/\a.1<=1000/\a.2.1.length<=a.1/\a.2.2.1.length<=a.1/\a.2.2.2.1.length<=a.1/\SQ n a.2.2.2.2.1)/\(1000-a.1).toNat<(1000-s.1).toNat->Q (.next a))->A2 (Option.bind (Fg s.2.1 ([v]:List (Int×(Int×(Int×((Bool×Bf)×Int)))))) λA=>some (.next ((wi (s.1+1)),(A,s.2.2)))) Q:=λv Q F=>b v s.2.2 (by omega) (by omega) d Q F;refine AB (AD W N) λY _=>?_;refine AS (λ_=>?_) (λ_=>?_)
 ·refine AB (Zh q2 q3 q4) λv2 L=>?_;refine AB (P:=λr=>r.1.length<=s.1+1/\r.2=s.2.2.2.2) ?_ λv4 M=>?_
  ·refine AS (λ_=>?_) (λ_=>AA ⟨by dsimp only;omega,rfl⟩);refine AB (Ac (by simp;omega)) λv3 D=>AA ⟨?_,rfl⟩;have:=D.2.1;simp at this;dsimp only;omega
  refine AB (P:=λr=>SQ n r.1) ?_ λv5 S=>?_
  ·refine AS (λi=>AA (d.sr (L i))) (λ_=>AA (by rw[M.2];exact d))
  refine AB EX λv6 _=>?_;exact b _ (v4.1,(s.2.2.2.1,v5)) M.1 (by dsimp only;omega) S _ (λ_ h=>h)
 refine AS (λ_=>?_) (λ_=>?_)
 ·refine AC (λ_=>AB Bj λK _=>same _ _ (λ_ h=>h)) (λc1=>?_);refine AC (λ_=>AB Bj λK _=>same _ _ (λ_ h=>h)) (λO=>?_);simp only[len]at O;have R:=AY (x:=Y.2.1-1) (by omega);rw[R];refine AB (AD (by omega) (by omega)) λZ _=>?_;refine AB (AD (by omega) (by omega)) λad _=>?_;refine AS (λ_=>AB Bj λK _=>same _ _ (λ_ h=>h)) (λ_=>?_);refine AB (AD (by omega) (by omega)) λal _=>?_;refine AB (AD (by omega) (by omega)) λap _=>?_;refine AB (dX q2 q3 q4) λG B=>?_;have q:=d.sr B;refine AS (λ_=>same _ _ (λ_ h=>h)) (λ_=>?_);refine AS (λ_=>?_) (λ_=>?_)
  ·refine AB (P:=λr=>r.1.length<=s.1+1/\SQ n r.2.1) ?_ λH w=>b _ (s.2.2.1,H) (by dsimp only;omega) w.1 w.2 _ (λ_ h=>h);refine AS (λ_=>?_) (λ_=>AA ⟨by dsimp only;omega,q⟩);refine AB GY λar _=>?_;refine AB (Ac (by simp;omega)) λax C=>AA ⟨?_,q⟩;have:=C.2.1;simp at this;dsimp only;omega
  ·exact b _ (s.2.2.1,(s.2.2.2.1,(G.1,s.2.2.2.2.2))) (by dsimp only;omega) (by dsimp only;omega) q _ (λ_ h=>h)
 refine AS (λ_=>?_) (λ_=>?_)
 ·refine AB (Zj q2 q3 q4) λz j=>?_;refine AB (P:=λr=>SQ n r.1) (AS (λi=>AA (d.sr (j i))) (λ_=>AA d)) λg f=>?_;refine AB EX λu _=>?_;exact b _ (s.2.2.1,(s.2.2.2.1,g)) (by dsimp only;omega) (by dsimp only;omega) f _ (λ_ h=>h)
 refine AS (λ_=>?_) (λ_=>?_)
 ·refine AB (UQ q2 q4) λz j=>?_;refine AB (P:=λr=>SQ n r.1) (AS (λi=>AA (d.sr (j i))) (λ_=>AA d)) λg f=>?_;refine AB EX λu _=>?_;exact b _ (s.2.2.1,(s.2.2.2.1,g)) (by dsimp only;omega) (by dsimp only;omega) f _ (λ_ h=>h)
 refine AS (λ_=>?_) (λ_=>?_)
 ·refine AB GY λa0 _=>?_;refine AB I0 λa1 y=>?_;refine AB (P:=λr=>SQ n r.1) (AS (λi=>AA ⟨q1,q2,(y i).1,q4,(y i).2.2.trans q5⟩) (λ_=>AA d)) λg f=>?_;refine AB EX λu _=>?_;exact b _ (s.2.2.1,(s.2.2.2.1,g)) (by dsimp only;omega) (by dsimp only;omega) f _ (λ_ h=>h)
 refine AS (λ_=>?_) (λ_=>?_)
 ·refine AB (Zi q2 q3 q4 q5) λa2 o=>?_;refine AB (bO o.2.1 o.2.2 o.1) λI E=>?_;refine AB (X6 (m:=s.2.2.1.length) (c:=s.2.2.2.2) (by omega) ⟨Ah _,by dsimp only;omega,rfl,rfl⟩) λl p=>?_;refine AK (λ_=>?_) (λi=>?_)
  ·refine AB EX λJ _=>?_;exact b _ (l.1,(s.2.2.2.1,(l.2.1,true))) (by have:=p.1;dsimp only;omega) (by dsimp only;omega) (by dsimp only;rw[p.2];exact d) _ (λ_ h=>h)
  ·refine AB EX λJ _=>?_;have k:=E i;dsimp only at k;rw[q1]at k;exact b _ (l.1,(s.2.2.2.1,(I.1,l.2.2))) (by have:=p.1;dsimp only;omega) (by dsimp only;omega) k _ (λ_ h=>h)
 refine AS (λ_=>?_) (λ_=>?_)
 ·refine AB (bP q2 q3 q4) λz j=>?_;refine AB (P:=λr=>SQ n r.1) (AS (λi=>AA (d.sr (j i))) (λ_=>AA d)) λg f=>?_;refine AB EX λu _=>?_;exact b _ (s.2.2.1,(s.2.2.2.1,g)) (by dsimp only;omega) (by dsimp only;omega) f _ (λ_ h=>h)
 exact AB Bj λK _=>same _ _ (λ_ h=>h)
def CX(b:AP):Prop:=0<=b.2/\b.1.length<=16777216/\ ∀x∈b.1,0<=x/\x<256
def CX.step{b:AP}(h:CX b)(a:b.2<b.1.length):CX (b.1,wi (b.2+1)):=by obtain⟨a1,a2,a3⟩:=h;have e:=AY (x:=b.2+1) (by omega);rw[e];exact⟨by dsimp only;omega,a2,a3⟩
def TX{b:AP}(h:CX b):A2 (G1 b 256) λr=>CX r.2/\0<=r.1/\r.1<256:=by
 unfold G1;refine AC (λ_=>AA ⟨h,Ah _,by show(0:Int)<256;decide⟩) (λa=>?_);simp only[len]at a;refine AC (λa=>absurd a (by decide)) (λ_=>?_);refine AB (AD h.1 (by omega)) λc f=>?_;obtain⟨d,g⟩:=h.2.2 c f.2;have e:=AY (x:=c) (by omega);refine AC (λa=>absurd a (by decide)) (λ_=>?_);refine AS (λa=>absurd a (by decide)) (λ_=>AA ⟨h.step (by omega),?_,?_⟩)
 ·dsimp only;rw[e];exact YS _ d
 ·dsimp only;rw[e];exact YR _ (by decide)
def Aa{b:AP}{x:Int}(h:CX b)(n:x<=4611686018427387904):A2 (Af b x) λr=>CX r.2/\0<=r.1/\(r.1=0\/r.1<x):=by
 unfold Af;refine AC (λ_=>AA ⟨h,Ah _,.inl rfl⟩) (λa=>?_);simp only[len]at a;refine AC (λ_=>AA ⟨h,Ah _,.inl rfl⟩) (λk=>?_);refine AB (AD h.1 (by omega)) λc i=>?_;obtain⟨d,m⟩:=h.2.2 c i.2;have e:=AY (x:=c) (by omega);rw[e];refine AC (λ_=>?_) (λ_=>?_)
 ·refine AB (TX (h.step (by omega))) λl j=>?_;refine AS (λa=>absurd a (by omega)) (λ_=>AA ⟨j.1,?_,.inr ?_⟩)
  ·have f:=AY (x:=256*c) (by omega);have g:=AY (x:=256*c+l.1) (by omega);dsimp only;rw[f,g];exact YS _ (by omega)
  ·exact YR _ (by omega)
 ·refine AS (λa=>absurd a (by omega)) (λ_=>AA ⟨h.step (by omega),YS _ d,.inr (YR _ (by omega))⟩)
def Uf{b:AP}{x:Unit}(h:CX b):A2 (Hz b x) λr=>CX r.2:=by
 unfold Hz;refine AB (Aa h (by decide)) λz a=>?_;refine AB (Aa a.1 (by decide)) λA f=>?_;refine AB (P:=λr=>CX r.2/\0<=r.1/\r.1<=14) ?_ λi k=>?_
 ·refine AS (λ_=>?_) (λ_=>AA ⟨f.1,a.2.1,by have:=a.2.2;dsimp only;omega⟩);refine AB (Aa f.1 (by decide)) λB c=>AA ⟨c.1,c.2.1,by have:=c.2.2;omega⟩
 obtain⟨j,d,t⟩:=k;refine AB (P:=λl:List Int=>l.length=0) ⟨_,if_pos ⟨Ah _,d,by omega⟩,by simp⟩ λC u=>?_;refine AB (P:=λr=>CX r.2) ?_ λF o=>AA o;refine AM (λ(s:Int×List Int×AP)=>0<=s.1/\s.1<=i.1/\s.2.1.length<=s.1/\CX s.2.2) (λ(s:Int×List Int×AP)=>(i.1-s.1).toNat) ⟨Ah _,d,by dsimp only;omega,j⟩ (λs p=>?_);obtain⟨v,w,y,g⟩:=p;unfold Oa;have e:=AY (x:=s.1+1) (by omega);rw[e];refine AC (λ_=>?_) (λ_=>AA g);refine AB (Aa g (by decide)) λD m=>?_;refine AB (Ac (by simp;omega)) λE n=>AA ?_;have q:=n.2.1;simp only[BC,BH]at q;exact⟨⟨by dsimp only;omega,by dsimp only;omega,by dsimp only;omega,m.1⟩,by dsimp only;omega⟩
def PQ{b:AP}{x:Unit}(h:CX b):A2 (Gt b x) λr=>CX r.2:=by unfold Gt;refine AB (Aa h (by decide)) λf c=>?_;refine AS (λ_=>AB (Aa c.1 (by decide)) λe d=>AA d.1) (λ_=>?_);refine AS (λ_=>?_) (λ_=>AB (Aa c.1 (by decide)) λe d=>AA d.1);refine AB (Aa c.1 (by decide)) λg a=>?_;have:=a.2.2;refine AB (AD a.2.1 (by simp;omega)) λ_ _=>?_;exact AB (AD a.2.1 (by simp;omega)) λ_ _=>AA a.1
def Ts{b:AP}{x:Int}(h:CX b)(z:x<=1099511627776):A2 (HN b x) λr=>CX r.2:=by
 unfold HN;refine AB (Aa h (by decide)) λA a=>?_;have n:=a.2.2;refine AB (AD a.2.1 (by simp;omega)) λ_ _=>?_;refine AB (AD a.2.1 (by simp;omega)) λB _=>?_;refine AB (P:=λ_=>True) (AE (λ_=>AA trivial) (λ_=>AB (P:=λ_=>True) (AE (λ_=>AA trivial) (λ_=>AA trivial)) λ_ _=>AA trivial)) λC _=>?_;refine AB (P:=λr=>CX r.1) ?_ λs f=>?_
 ·refine AE (λ_=>?_) (λ_=>?_)
  ·refine AB (Aa a.1 (by omega)) λD o=>?_;refine AB (Aa o.1 (by decide)) λE l=>?_;refine AB (P:=λr=>CX r.1) ?_ λy k=>AA k;refine AE (λ_=>?_) (λ_=>AA l.1);refine AB (Uf l.1) λd p=>?_;have m:0<=(if(12<(len d.1))then 12 else(len d.1))/\(if(12<(len d.1))then 12 else(len d.1))<=d.1.length:=by simp only[len];split<;>omega
   exact AB (C3 (Ah _) m.1 m.2) λF _=>AA p
  ·refine AB (P:=λr=>CX r.1) ?_ λy k=>AA k;exact AE (λ_=>AB (Aa a.1 (by decide)) λq e=>AA e.1) (λ_=>AA a.1)
 refine AB (Aa f (by decide)) λt c=>?_;refine AB (P:=λr=>CX r.1) ?_ λw j=>AA j;refine AE (λ_=>?_) (λ_=>AA c.1);refine AB (PQ c.1) λu g=>?_;exact AB (PQ g) λv i=>AA i
def Ug{b:AP}{x:Int×Int×Bool}(h:CX b)(p:0<=x.1/\x.1<=64/\x.2.1<=64):A2 (H4 b x) λr=>CX r.2:=by
 unfold H4;have e:=AY (x:=x.1+1) (by omega);rw[e];refine AB (Aa h (by decide)) λq a=>?_;refine AB (P:=λ_=>True) (AE (λ_=>AA trivial) (λ_=>AA trivial)) λt _=>?_;refine AE (λ_=>AA a.1) (λ_=>?_);refine AE (λ_=>AB (Aa a.1 (by omega)) λv g=>AA g.1) (λ_=>?_);refine AE (λ_=>AA a.1) (λ_=>?_);refine AE (λ_=>AA a.1) (λ_=>?_);refine AB (P:=λs=>(∃u,s= .inl u/\CX u.1)\/ ∃u,s= .inr u/\CX u.1) ?_ λs m=>?_
 ·refine AE (λ_=>?_) (λ_=>?_)
  ·refine AE (λ_=>?_) (λ_=>AA (.inr ⟨_,rfl,a.1⟩));refine AB (Aa a.1 (by decide)) λw i=>?_;refine AB (Aa i.1 (by decide)) λy j=>?_;refine AB (Aa j.1 (by omega)) λz k=>?_;exact AB (Aa k.1 (by decide)) λA l=>AA (.inl ⟨_,rfl,l.1⟩)
  ·exact AE (λ_=>AA (.inl ⟨_,rfl,a.1⟩)) (λ_=>AA (.inr ⟨_,rfl,a.1⟩))
 ·rcases m with⟨u,rfl,f⟩|⟨u,rfl,f⟩
  ·exact BK (AA f)
  ·apply BG;refine AB (Aa f (by omega)) λn c=>?_;exact AB (Ts c.1 (by omega)) λo d=>AA d
def Sl{b:AP}{x:Int×Int×Bool}(h:CX b)(d:0<=x.1/\x.1<=64/\x.2.1<=1000/\ -1000<=x.2.1):A2 (Gl b x) λr=>CX r.2:=by unfold Gl;have e:=AY (x:=x.2.1+1) (by omega);rw[e];refine AB (Aa h (by omega)) λp a=>?_;have g:=a.2.2;have c:=a.2.1;refine AB (P:=λr=>CX r.2) ?_ λu k=>AA k;refine AM (λ(s:Int×List J2×AP)=>0<=s.1/\s.1+s.2.1.length<=1010/\CX s.2.2) (λ(s:Int×List J2×AP)=>s.1.toNat) ⟨c,by simp;omega,a.1⟩ (λs l=>?_);obtain⟨n,o,f⟩:=l;unfold Lc;have e:=AY (x:=s.1-1) (by omega);rw[e];refine AC (λ_=>?_) (λ_=>AA f);refine AB (Ug f ⟨d.1,d.2.1,by show(5:Int)<=64;decide⟩) λq i=>?_;refine AB (Ac (by simp;omega)) λt j=>AA ?_;have m:=j.2.1;simp only[BC,BH]at m;exact⟨⟨by dsimp only;omega,by dsimp only;omega,i⟩,by dsimp only;omega⟩
def mz:D3 (1,([],0)):=⟨by decide,by decide,by simp,by decide,by simp,λi e h=>by simp at h⟩
def Oq{x:Unit}:A2 (Ho x) λr=>r=(1,([],0)):=by unfold Ho;exact AA rfl
def cW{x:Int×Int}(h:1<=x.1/\x.1<=64/\1<=x.2/\x.2<=64):A2 (My x) λr=>r.2=0/\r.1.1=x.1/\SK r.1/\D3 r.1.2.2.1/\r.1.2.2.1.1=1:=by unfold My;refine AC (λa=>absurd a (by omega)) (λ_=>?_);refine AC (λa=>absurd a (by omega)) (λ_=>?_);refine AC (λa=>absurd a (by omega)) (λ_=>?_);refine AC (λa=>absurd a (by omega)) (λ_=>?_);refine AB S3 λc _=>?_;refine AB S4 λd _=>?_;refine AB Oq λe b=>AA ⟨rfl,rfl,⟨⟨by simp,by simp⟩,by simp,by simp⟩,?_⟩;dsimp only;rw[b];exact⟨mz,rfl⟩
def yW{x:Int}(h:1<=x/\x<=64):A2 (Hn x) λr=>r.2=0:=by unfold Hn;refine AC (λa=>absurd a (by omega)) (λ_=>?_);refine AC (λa=>absurd a (by omega)) (λ_=>?_);exact AB (QZ (by omega)) λb _=>AA rfl
def cX{x:Int×Int}(h:1<=x.1/\x.1<=64/\1<=x.2/\x.2<=64):A2 (Mz x) λr=>SQ x.1 r.1:=by unfold Mz;refine AB (cW h) λd a=>?_;refine AK (λc=>absurd a.1 c) (λ_=>?_);refine AB ((cP).and (yW ⟨h.1,h.2.1⟩)) λe b=>?_;refine AK (λc=>absurd b.2 c) (λ_=>AA ?_);exact⟨a.2.1,a.2.2.1,a.2.2.2.1,(b.1 b.2).1,a.2.2.2.2⟩
theorem TY{b:AP}{x:Int×Bool}(h:CX b)(c:x.1<=1000/\ -1000<=x.1):A2 (G2 b x) λr=>CX r.2/\ ∃n,1<=n/\n<=4/\SQ n r.1:=by unfold G2;refine AB (Aa h (by decide)) λl a=>?_;refine AB (Aa a.1 (by decide)) λm g=>?_;obtain⟨a1,a2,a3⟩:=a;obtain⟨d,o,p⟩:=g;have e:=AY (x:=1+l.1) (by omega);have f:=AY (x:=1+m.1) (by omega);rw[e,f];refine AB (cX ⟨by dsimp only;omega,by dsimp only;omega,by dsimp only;omega,by dsimp only;omega⟩) λq i=>?_;refine AB (Sl d ⟨by dsimp only;omega,by dsimp only;omega,c.1,c.2⟩) λs j=>?_;exact AB (cY i) λt k=>AA ⟨j,_,by dsimp only;omega,by dsimp only;omega,k⟩
def No{b:AP}{x:Int×Bool}(h:CX b)(d:x.1<=1000/\ -1000<=x.1):A2 (HO b x) λr=>CX r.2/\1<=r.1.1/\r.1.1<=4/\SK r.1/\D3 r.1.2.2.1/\r.1.2.2.1.1=1:=by unfold HO;refine AB (TY h d) λg a=>AA ?_;obtain⟨c,n,e,f,q1,q2,q3,q4,q5⟩:=a;exact⟨c,by dsimp only;omega,by dsimp only;omega,q2,q3,q5⟩
def dS{b:AP}{x:Int}(h:CX b)(g:x<=1000/\ -1000<=x):A2 (KA b x) λr=>CX r.2.2/\1<=r.1/\r.1<=4/\D3 r.2.1:=by unfold KA;refine AB (No h g) λk d=>?_;obtain⟨c,i,j,q2,q3,q4⟩:=d;refine AB GY λl f=>?_;have e:=f q3;refine AB (I0.and (pT q3 (by dsimp only;omega))) λm a=>AA ⟨c,i,j,(a.1 a.2).1⟩
def H8{x:Int×Int×Int×Int×Int}:A2 (HJ x) λr=>r=true↔1<=x.1/\x.1<=x.2.1/\x.2.1<=1099511627776/\0<=x.2.2.1/\x.2.2.1<=x.2.2.2.1/\x.2.2.2.1<64/\0<=x.2.2.2.2/\x.2.2.2.2<=8:=by
 unfold HJ;repeat' with_reducible first|apply AC<;>intro a|apply AA
 all_goals grind
def LF{x:AI×AI}:A2 (Di x) λr=>True:=by
 unfold Di;repeat' with_reducible first|apply AC<;>intro a|apply AS<;>intro a|apply AA
 all_goals trivial
def O3{x:List AI×AI}{s:Int}(h:0<=s/\s<=x.1.length/\(x.1.length:Int)<=16777216):A2 (Ae (LH x) s) λr=>0<=r/\r<=x.1.length:=by
 refine AM (λ(s:Int)=>0<=s/\s<=x.1.length/\(x.1.length:Int)<=16777216) (λ(s:Int)=>((x.1.length:Int)-s).toNat) h (λs a=>?_);unfold LH;repeat' with_reducible first|apply AC<;>intro b|apply AA|(apply AB (LF);intro r hr)|(refine AF ?_ (AD ?_ ?_);rintro r ⟨hr,c⟩)
 all_goals ((try dsimp only[len]at*);(try first|omega|assumption|grind[AY]))
def X9{x:List AI×AI}(h:x.1.length<=16777215):A2 (FN x) λr=>r.1.length<=x.1.length+1:=by
 refine AB (O3 ⟨Ah _,by omega⟩) λp b=>?_;have a:A2 (Option.bind (Zm x.1 0 p) λc=>
  Option.bind (Zm x.1 p (len x.1)) λd=>
  Option.bind (Fg [] c) λe=>
  Option.bind (Fg e ([x.2]:List (Int×(Int×(Int×(Int×(Int×(Int×((Int×(Int×((Bool×Bf)×(Bool×Bf))))×Bf))))))))) λm=>
  Option.bind (Fg m d) λn=>
  some (n,true)) λr=>r.1.length<=x.1.length+1:=by
  refine AB (B0 (Ah _) b.1 b.2) λt q=>?_;refine AB (B0 b.1 (by grind) (by grind)) λu f=>?_;have j:=f.2;simp only[len]at j;refine AB (Ac (by simp;omega)) λc g=>?_;have k:=g.2.1;simp at k;refine AB (Ac (by simp;omega)) λd i=>?_;have l:=i.2.1;simp at l;refine AB (Ac (by omega)) λe s=>AA ?_;grind
 refine AC (λo=>?_) (λ_=>a);refine AB (AD b.1 o) λv _=>?_;refine AB LF λw _=>?_;refine AS (λ_=>?_) (λ_=>a);exact AB (AD b.1 o) λy _=>AA (by grind)
def Vy{x:AU}{s:Int}(h:0<=s/\s<=x.2.2.2.2.2.length/\(x.2.2.2.2.2.length:Int)<=16777216):A2 (Ae (Gu x) s) λr=>r≠ .inl true:=by
 refine AM (λ(s:Int)=>0<=s/\s<=x.2.2.2.2.2.length/\(x.2.2.2.2.2.length:Int)<=16777216) (λ(s:Int)=>((x.2.2.2.2.2.length:Int)-s).toNat) h (λs b=>?_);unfold Gu;repeat' with_reducible first|apply AC<;>intro a|apply AO<;>intro a|apply AS<;>intro a|apply AK<;>intro a|apply AE<;>intro a|(apply A4;try dsimp only)|apply BN|apply BT|(apply BK;try dsimp only)|(apply BG;try dsimp only)|apply AA|(apply AB (CH);intro r hr)|(apply AB (Cf);intro r hr)|(apply AB (LF);intro r hr)|(refine AF ?_ (AD ?_ ?_);rintro r ⟨hr,c⟩)
 all_goals ((try dsimp only[len]at*);(try first|omega|assumption|grind[AY]|((try simp (disch:=omega) only[AY,ne_eq,Sum.inl.injEq,Sum.inr.injEq,reduceCtorEq,not_false_eq_true,Bool.not_eq_true,len,true_and,and_true,or_false,false_or,false_implies,implies_true]at*)<;>(try intros)<;>(try and_intros)<;>(try intros)<;>(first|omega|assumption|grind))))
def YK(x:AU):Prop:=1<=x.1/\x.1<=x.2.1/\x.2.1<=1099511627776/\0<=x.2.2.1/\x.2.2.1<=x.2.2.2.1/\x.2.2.2.1<64/\0<=x.2.2.2.2.1/\x.2.2.2.2.1<=8/\x.2.2.2.2.2.length<=4096
def Nd{x:AU}:A2 (Ee x) λr=>r=true->YK x:=by
 refine AB H8 λf b=>?_;refine AO (λ_=>AA λa=>by cases a) (λc=>?_);have hn:=b.1 c;refine AC (λ_=>AA λa=>by cases a) (λd=>?_);simp only[len]at d;refine AB (Vy ⟨Ah _,by omega⟩) λr hr=>?_;have q:YK x:=⟨hn.1,hn.2.1,hn.2.2.1,hn.2.2.2.1,hn.2.2.2.2.1,hn.2.2.2.2.2.1,hn.2.2.2.2.2.2.1,hn.2.2.2.2.2.2.2,by omega⟩
 exact Az (λu e=>AA λ_=>q) (λu e=>AA λ_=>q)
def QB{x:List AI×Int×Int×Int×Int×Int}{s:Int×AU}(h:0<=s.1/\s.1<=x.1.length/\x.1.length<=16777215):A2 (Ae (Nb x) s) λr=> ∀u,r= .inl u->u.1≠0:=by
 refine AM (λ(s:Int×AU)=>0<=s.1/\s.1<=x.1.length/\x.1.length<=16777215) (λ(s:Int×AU)=>((x.1.length:Int)-s.1).toNat) h (λs b=>?_);unfold Nb;repeat' with_reducible first|apply AC<;>intro a|apply AO<;>intro a|apply AA|(apply AB (CH);intro r hr)|(refine AF ?_ (AD ?_ ?_);rintro r ⟨hr,c⟩)
 all_goals ((try dsimp only[len]at*);(try first|omega|assumption|grind[AY]))
def QC{a:Bool×Int×AU}{b:AI}{s:Bool×Int}(h:0<=s.2/\s.2<=a.2.2.2.2.2.2.2.length/\a.2.2.2.2.2.2.2.length<=16777215):A2 (Ae (Nc a b) s) λr=>True:=by
 refine AM (λ(s:Bool×Int)=>0<=s.2/\s.2<=a.2.2.2.2.2.2.2.length/\a.2.2.2.2.2.2.2.length<=16777215) (λ(s:Bool×Int)=>((a.2.2.2.2.2.2.2.length:Int)-s.2).toNat) h (λs c=>?_);unfold Nc;repeat' with_reducible first|apply AE<;>intro d|apply AA|(refine AF ?_ (AD ?_ ?_);rintro r ⟨hr,e⟩)
 all_goals ((try dsimp only[len]at*);(try first|omega|assumption|grind[AY]))
theorem bS{x:List AI×Int×Int×Int×Int×Int}(h:x.1.length<=16777215):A2 (Ir x) λr=>r.2=0->YK r.1:=by
 refine AB H8 λv _=>?_;refine AO (λ_=>AA λa=>absurd a (by decide)) (λ_=>?_);refine AB (QB ⟨Ah _,by grind,h⟩) λw j=>?_;refine Az (λu f=>AA λa=>absurd a (j u f)) (λu f=>?_);refine AB (P:=λr=>r.2.2.2.2.2.2.length<=16777215) ?_ λo i=>?_
 ·refine AM (λ(s:Bool×Int×AU)=>0<=s.2.1/\s.2.1<=x.1.length/\s.2.2.2.2.2.2.2.length<=s.2.1) (λ(s:Bool×Int×AU)=>((x.1.length:Int)-s.2.1).toNat) ⟨Ah _,by grind,by simp⟩ (λs k=>?_);obtain⟨l,q,t⟩:=k;unfold JB;have e:=AY (x:=s.2.1+1) (by omega);rw[e];refine AC (λc=>?_) (λ_=>AA (by grind));simp only[len]at c;have b:((0<=s.2.1+1/\s.2.1+1<=x.1.length/\s.2.2.2.2.2.2.2.length<=s.2.1+1)/\((x.1.length:Int)-(s.2.1+1)).toNat<((x.1.length:Int)-s.2.1).toNat):=⟨⟨by omega,by omega,by omega⟩,by omega⟩
  refine AB (AD l c) λy _=>?_;refine AB Cf λz _=>?_;refine AO (λ_=>AA b) (λ_=>?_);refine AC (λ_=>AA b) (λ_=>?_);refine AC (λ_=>AA b) (λ_=>?_);refine AC (λ_=>AA b) (λ_=>?_);refine AC (λ_=>AA b) (λ_=>?_);refine AB (QC ⟨Ah _,by grind,by omega⟩) λm _=>?_;refine AB (X9 (by grind)) λn g=>AA ?_;grind
 refine AE (λ_=>AA λa=>absurd a (by decide)) (λ_=>?_);refine AC (λ_=>AA λa=>absurd a (by decide)) (λ_=>?_);refine AB Nd λp d=>?_;exact AO (λ_=>AA λa=>absurd a (by decide)) (λc=>AA λ_=>d c)
def bR{x:AU}:A2 (HI x) λr=>True:=by
 unfold HI;repeat' with_reducible first|apply AA|(refine AF ?_ (CM ?_);intro r hr)
 all_goals grind
def X8{x:AU}:A2 (Gb x) λr=>r.1.length<=1099511627776:=by refine AB Nd λm b=>?_;refine AO (λ_=>AA (by simp)) (λa=>?_);have j:=(b a).2.2.2.2.2.2.2.2;refine AB bR λn _=>?_;refine AB Iy λo g=>?_;refine AB (P:=λr:Bf=>r.length<=1099511627776) ?_ λv c=>AA c;refine AM (λ(s:Bf×Int)=>0<=s.2/\s.2<=x.2.2.2.2.2.length/\s.1.length<=8408*s.2+8408) (λ(s:Bf×Int)=>((x.2.2.2.2.2.length:Int)-s.2).toNat) ⟨Ah _,by grind,by grind⟩ (λs d=>?_);obtain⟨f,k,l⟩:=d;have e:=AY (x:=s.2+1) (by omega);refine AC (λa=>?_) (λ_=>AA (by omega));refine AB (AD f a) λp _=>?_;refine AB Qb λq _=>?_;refine AB Iy λt h=>?_;refine AB (CE (by omega)) λu i=>AA ?_;grind
def YA{x:Bf×Int×Int}(h:x.1.length<=1099511627776):A2 (C4 x) λr=>True:=by exact AB (CC h) λ_ _=>AA trivial
def X7{x:Bf}(h:x.length<=1099511627776):A2 (FM x) λr=>r.2=0->YK r.1:=by
 refine AB (H5 h) λn v=>?_;refine AK (λb=>AA λa=>absurd a b) (λl=>?_);refine AK (λ_=>AA λa=>absurd a (by decide)) (λi=>?_);simp only[len]at i;refine AB (C3 (Ah _) (by decide) (by omega)) λA _=>?_;refine AK (λ_=>AA λa=>absurd a (by decide)) (λ_=>?_);have hn: ∀y,A2 (C4 (n.1,y)) λ_=>True:=λy=>YA (by grind);refine AB (hn _) λB _=>?_;refine AB (hn _) λC _=>?_;refine AB (hn _) λD _=>?_;refine AB (hn _) λE _=>?_;refine AB (hn _) λF _=>?_;refine AB (hn _) λG _=>?_;refine AC (λ_=>AA λa=>absurd a (by decide)) (λk=>?_);refine AB (P:=λr=> ∀u,r= .inl u->u.1≠0) ?_ λq f=>?_
 ·refine AM (λ(s:Int×Int×List AI×Int×Int×Int×Int×Int×AU)=>0<=s.2.1/\s.2.1<=4096/\s.2.2.1.length<=s.2.1) (λ(s:Int×Int×List AI×Int×Int×Int×Int×Int×AU)=>(4096-s.2.1).toNat) ⟨Ah _,by grind,by simp⟩ (λs z=>?_);have e:=AY (x:=s.2.1+1) (by omega);refine AC (λb=>?_) (λ_=>AA λu c=>by cases c);refine AB (H5 h) λH w=>?_;refine AK (λb=>AA λu c=>by grind) (λm=>?_);refine AB (Qa (by grind)) λo _=>?_;refine AK (λb=>AA λu c=>by grind) (λ_=>?_);refine AB (Ac (by simp;omega)) λp d=>AA ?_;have j:=d.2.1;simp only[BC,BH]at j;exact⟨⟨by grind,by grind,by dsimp only;omega⟩,by dsimp only;omega⟩
 refine Az (λu c=>AA λa=>absurd a (f u c)) (λu c=>?_);refine AK (λ_=>AA λa=>absurd a (by decide)) (λ_=>?_);refine AB Nd λt g=>?_;exact AO (λ_=>AA λa=>absurd a (by decide)) (λb=>AA λ_=>g b)
def SA(a:AL):Prop:=a.1.length<=16/\a.2.2.1.length<=16777216/\ ∀f∈a.2.2.1,f.2.2.length<=1099511627776
def VA(a:AL):Prop:=1<=a.2.1/\a.2.1<=64/\1<=a.1.length/\a.1.length<=16/\1<=a.2.2.2.1/\a.2.2.2.1<=1099511627777/\1<=a.2.2.2.2/\a.2.2.2.2<=1073741825/\a.2.2.1.length<=256
theorem YC{x:Int×List Int}:A2 (FO x) λr=>r=true->1<=x.1/\x.1<=64/\1<=x.2.length/\x.2.length<=16:=by
 unfold FO;refine AC (λ_=>AA λa=>by cases a) (λh=>?_);refine AC (λ_=>AA λa=>by cases a) (λi=>?_);refine AC (λ_=>AA λa=>by cases a) (λb=>?_);refine AC (λ_=>AA λa=>by cases a) (λc=>?_);simp only[len]at b c;refine AB (AD (Ah _) (by omega)) λk _=>?_;refine AK (λ_=>AA λa=>by cases a) (λ_=>?_);refine AB (P:=λ_=>True) ?_ λr _=>?_
 ·refine AM (λ(s:Int)=>1<=s/\s<=x.2.length) (λ(s:Int)=>((x.2.length:Int)-s).toNat) ⟨Ah _,by omega⟩ (λs j=>?_);unfold LI;have d:=AY (x:=s-1) (by omega);have f:=AY (x:=s+1) (by omega);rw[d,f];refine AC (λg=>?_) (λ_=>AA trivial);simp only[len]at g;refine AB (AD (by omega) (by omega)) λ_ _=>?_;refine AB (AD (by omega) (by omega)) λ_ _=>?_;exact AC (λ_=>AA trivial) (λ_=>AA ⟨⟨by omega,by omega⟩,by omega⟩)
 ·refine Az (λu _=>AA λ_=>⟨by omega,by omega,by omega,by omega⟩) (λu _=>?_);have e:=AY (x:=len x.2-1) (by simp only[len];omega);rw[e];exact AB (AD (by simp only[len];omega) (by simp only[len];omega)) λl _=>AA λ_=>⟨by omega,by omega,by omega,by omega⟩
def Vz{x:AL}{s:Int×Int}(h:0<=s.2/\s.2<=x.2.2.1.length/\x.2.2.1.length<=256):A2 (Ae (If x) s) λr=>r≠ .inl true:=by
 refine AM (λ(s:Int×Int)=>0<=s.2/\s.2<=x.2.2.1.length/\x.2.2.1.length<=256) (λ(s:Int×Int)=>((x.2.2.1.length:Int)-s.2).toNat) h (λs b=>?_);unfold If;repeat' with_reducible first|apply AC<;>intro a|apply AE<;>intro a|apply AA|(refine AF ?_ (AD ?_ ?_);rintro r ⟨hr,c⟩)
 all_goals ((try dsimp only[len]at*);(try first|omega|assumption|grind[AY]))
def Nh{x:AL}:A2 (Ef x) λr=>r=true->VA x:=by
 unfold Ef;refine AB YC λi c=>?_;refine AO (λ_=>AA λa=>by cases a) (λd=>?_);obtain⟨a1,a2,a3,a4⟩:=c d;refine AC (λ_=>AA λa=>by cases a) (λe=>?_);refine AC (λ_=>AA λa=>by cases a) (λf=>?_);refine AC (λ_=>AA λa=>by cases a) (λg=>?_);refine AC (λ_=>AA λa=>by cases a) (λh=>?_);refine AC (λ_=>AA λa=>by cases a) (λb=>?_);simp only[len]at b;refine AB (Vz ⟨Ah _,by dsimp only;omega,by omega⟩) λr hr=>?_;have q:VA x:=⟨a1,a2,a3,a4,by omega⟩
 exact Az (λu _=>AA λ_=>q) (λu _=>AA λ_=>q)
def Rq{x:AL×Int}(h:x.1.1.length<=16)(a:0<=x.2/\x.2<x.1.1.length):A2 (Fp x) λr=>True:=by unfold Fp;have e:=AY (x:=x.2+1) (by omega);rw[e];refine AB (P:=λ_=>True) ?_ λd _=>AB (AD a.1 a.2) λf _=>AA trivial;refine AC (λb=>?_) (λ_=>AA trivial);simp only[len]at b;exact AB (AD (by omega) b) λc _=>AA trivial
theorem Uv{x:AL×AU}(h:x.1.1.length<=16):A2 (Ge x) λr=> -1<=r/\r<16:=by
 unfold Ge;refine AB (P:=λr=> ∀u,r= .inl u->0<=u/\u<16) ?_ λr hr=>Az (λu a=>AA (by have:=hr u a;omega)) (λ_ _=>AA (by decide));refine AM (λ(s:Int)=>0<=s/\s<=x.1.1.length) (λ(s:Int)=>((x.1.1.length:Int)-s).toNat) ⟨Ah _,by omega⟩ (λs d=>?_);unfold JJ;have e:=AY (x:=s+1) (by omega);rw[e];refine AC (λb=>?_) (λ_=>AA λu a=>by cases a);simp only[len]at b;have c:((0<=s+1/\s+1<=x.1.1.length)/\((x.1.1.length:Int)-(s+1)).toNat<((x.1.1.length:Int)-s).toNat):=⟨⟨by omega,by omega⟩,by omega⟩
 refine AB (Rq h ⟨d.1,b⟩) λf _=>?_;refine AS (λ_=>?_) (λ_=>AA c);exact AS (λ_=>AA λu a=>by cases a;omega) (λ_=>AA c)
def YB{x:AL×BQ}(h:x.1.1.length<=16)(c:x.2.2.2.length<=1099511627776):A2 (Dv x) λr=>0<=r.2->YK r.1:=by unfold Dv;refine AK (λ_=>AA λa=>absurd a (by decide)) (λ_=>?_);refine AB (X7 c) λd b=>?_;refine AK (λ_=>AA λa=>absurd a (by decide)) (λa=>?_);exact AB (Uv h) λe _=>AA λ_=>b a
def UR{x:AU×Int}{s:Int×(List AI)×Int×Int×Int×Int×Int}(h:0<=s.1/\s.1<=x.1.2.2.2.2.2.length/\x.1.2.2.2.2.2.length<=4096/\s.2.1.length<=s.1):A2 (Ae (KH x) s) λr=>r.1.length<=4096:=by
 refine AM (λ(s:Int×(List AI)×Int×Int×Int×Int×Int)=>0<=s.1/\s.1<=x.1.2.2.2.2.2.length/\x.1.2.2.2.2.2.length<=4096/\s.2.1.length<=s.1) (λ(s:Int×(List AI)×Int×Int×Int×Int×Int)=>((x.1.2.2.2.2.2.length:Int)-s.1).toNat) h (λs c=>?_);unfold KH;repeat' with_reducible first|apply AC<;>intro a|apply AE<;>intro a|(apply A4;try dsimp only)|apply BN|apply BT|apply AA|(refine AF ?_ (AD ?_ ?_);rintro r ⟨hr,e⟩)|(refine AF ?_ (Ac ?_);rintro r ⟨hr,d,b⟩)
 all_goals ((try dsimp only[len]at*);(try first|omega|assumption|grind[AY]))
def QE{x:AU×Int}(h:x.1.2.2.2.2.2.length<=4096):A2 (HK x) λr=>r.2.2.2.2.2.length<=4096:=by unfold HK;refine AC (λ_=>AA h) (λ_=>?_);exact AB (UR ⟨Ah _,by dsimp only;omega,h,by simp⟩) λb a=>AA a
def QD{x:AL×Am×Int}{a:List AI}{s:Int×AL}(h:0<=s.1/\s.1<=a.length/\a.length<=4096):A2 (Ae (Nf x a) s) λr=> ∀u,r= .inl u->u.1≠0:=by
 refine AM (λ(s:Int×AL)=>0<=s.1/\s.1<=a.length/\a.length<=4096) (λ(s:Int×AL)=>((a.length:Int)-s.1).toNat) h (λs c=>?_);unfold Nf;repeat' with_reducible first|apply AC<;>intro b|apply AS<;>intro b|apply AE<;>intro b|apply AA|(refine AF ?_ (AD ?_ ?_);rintro r ⟨hr,d⟩)
 all_goals ((try dsimp only[len]at*);(try first|omega|assumption|grind[AY]))
def RL(l:List AU):Prop:= ∀r∈l,r.2.2.2.2.2.length<=4096
theorem PY{a:List AU×List Int×Int}{c:AU×Int}{s:Int}(h:0<=s/\s<=a.1.length/\a.1.length<=16777215):A2 (Ae (Ml a c) s) λr=>0<=r/\r<=a.1.length:=by refine AM (λ(s:Int)=>0<=s/\s<=a.1.length) (λ(s:Int)=>s.toNat) ⟨h.1,h.2.1⟩ (λs b=>?_);unfold Ml;have d:=h.2.2;have e:=AY (x:=s-1) (by omega);rw[e];refine AC (λf=>?_) (λ_=>AA b);refine AB (AD (by omega) (by omega)) λg _=>?_;exact AC (λ_=>AA ⟨⟨by omega,by omega⟩,by omega⟩) (λ_=>AA b)
def V0{x:AL}{B:Int×List AU×List Int×List Bool}(h:VA x)(G:SA x)(V:0<=B.1):A2 (Ae (Gv x B) ([],([],0))) λr=>r.2.length=r.1.length/\r.1.length<=256/\RL r.1:=by
 have a4:=h.2.2.2.1;have a9:=h.2.2.2.2.2.2.2.2;refine AM (λ(s:List AU×List Int×Int)=>0<=s.2.2/\s.2.2<=x.2.2.1.length/\s.2.1.length=s.1.length/\s.1.length<=s.2.2/\RL s.1) (λ(s:List AU×List Int×Int)=>((x.2.2.1.length:Int)-s.2.2).toNat) ⟨Ah _,by dsimp only;omega,rfl,by simp,λr hr=>by simp at hr⟩ (λs E=>?_);obtain⟨z,W,A,X,f⟩:=E;unfold Gv;have e:=AY (x:=s.2.2+1) (by omega);rw[e];refine AC (λm=>?_) (λ_=>AA ⟨A,by dsimp only;omega,f⟩);simp only[len]at m;refine AB (AD z m) λU C=>?_;refine AB (YB a4 (G.2.2 U C.2)) λZ D=>?_;refine AK (λ_=>AA ⟨⟨by dsimp only;omega,by dsimp only;omega,A,by dsimp only;omega,f⟩,by dsimp only;omega⟩) (λF=>?_);have n:=D (by omega);refine AB (PY ⟨by simp only[len];omega,by simp only[len];omega,by omega⟩) λv7 d=>?_;refine AB (B0 (Ah _) d.1 d.2) λv8 v=>?_;refine AB (B0 d.1 (by simp only[len];omega) (by simp only[len];omega)) λv9 y=>?_;have Y:=v.2;have K:=y.2;simp only[len]at K;refine AB (Ac (by simp;omega)) λL a=>?_;have o:=a.2.1;simp only[BH]at o;refine AB (Ac (by simp;omega)) λM b=>?_;have p:=b.2.1;simp only[BH,BC]at p;refine AB (Ac (by omega)) λN c=>?_;have H:=c.2.1;refine AB (B0 (Ah _) d.1 (by omega)) λO g=>?_;have I:=g.2;refine AB (AD z m) λP _=>?_;refine AB (B0 d.1 (by simp only[len];omega) (by simp only[len];omega)) λQ i=>?_;have q:=i.2;simp only[len]at q;refine AB (Ac (by simp;omega)) λR j=>?_;have t:=j.2.1;simp only[BH]at t;refine AB (Ac (by simp;omega)) λS k=>?_;have u:=k.2.1;simp only[BH,BC]at u;refine AB (Ac (by omega)) λT l=>AA ?_;have J:=l.2.1;refine⟨⟨by dsimp only;omega,by dsimp only;omega,by dsimp only;omega,by dsimp only;omega,λr hr=>?_⟩,by dsimp only;omega⟩;dsimp only at hr;rw[c.1,b.1,a.1,v.1,y.1]at hr;rcases Ar.1 hr with w|w
 ·rcases Ar.1 w with w|w
  ·rw[CA]at w;exact f r (TG (ME w))
  ·simp at w;rw[w];exact n.2.2.2.2.2.2.2.2
 ·exact f r (TG (ME w))
def T3(n:Int)(t:List AU×List Int×List Bool):Prop:=t.2.1.length=t.1.length/\t.2.2.length=t.1.length/\t.1.length<=n/\RL t.1
def V1{a:List AU×List Int}{n:Int}{t:List AU×List Int×List Bool}(h:a.2.length=a.1.length/\a.1.length<=256/\RL a.1)(hn:n<=100000)(z:T3 n t):A2 (Ae (Gw a) (0,(0,t))) λr=>T3 (n+256) r:=by
 refine AM (λ(s:Int×Int×List AU×List Int×List Bool)=>0<=s.2.1/\s.2.1<=a.1.length/\T3 (n+s.2.1) s.2.2) (λ(s:Int×Int×List AU×List Int×List Bool)=>((a.1.length:Int)-s.2.1).toNat) ⟨Ah _,by dsimp only;omega,by simpa using z⟩ (λs y=>?_);obtain⟨d,K,q,u,L,k⟩:=y;obtain⟨I,J,v⟩:=h;unfold Gw;have e:=AY (x:=s.2.1+1) (by omega);rw[e];refine AC (λc=>?_) (λ_=>AA ⟨q,u,by omega,k⟩);simp only[len]at c;refine AB (AD d c) λA _=>?_;refine AC (λ_=>AA ⟨⟨by dsimp only;omega,by dsimp only;omega,q,u,by dsimp only;omega,k⟩,by dsimp only;omega⟩) (λ_=>?_);refine AB (AD d c) λp f=>?_;refine AB (AD d (by omega)) λB _=>?_;refine AB (AD d c) λC _=>?_;refine AB (QE (v p f.2)) λD g=>?_;refine AB (Ac (by simp;omega)) λE b=>?_;have l:=b.2.1;simp only[BH,BC]at l;refine AB (Ac (by simp;omega)) λF i=>?_;have m:=i.2.1;simp only[BH,BC]at m;refine AB (Ac (by simp;omega)) λG j=>?_;have o:=j.2.1;simp only[BH,BC]at o;refine AB (AD d c) λH _=>AA ?_;refine⟨⟨by dsimp only;omega,by dsimp only;omega,by dsimp only;omega,by dsimp only;omega,by dsimp only;omega,λr hr=>?_⟩,by dsimp only;omega⟩;dsimp only at hr;rw[b.1]at hr;rcases Ar.1 hr with w|w
 ·exact k r w
 ·simp at w;rw[w];exact g
def Tt{b:AP}{x:Bf}(h:CX b)(I:x.length<=1099511627776):A2 (Fy b x) λr=>CX r.2/\r.1.length<=x.length+1:=by
 refine AS (λ_=>?_) (λg=>?_)
 ·refine AB (Aa h (by decide)) λJ m=>AA ⟨m.1,?_⟩;rw[LU];simp
 simp only[len]at g;refine AB (Aa h (by simp only[len];omega)) λw n=>?_;obtain⟨k,a,l⟩:=n;simp only[len]at l;have e:=AY (x:=w.1+1) (by omega);refine AB (Aa k (by decide)) λK f=>?_;refine AS (λ_=>?_) (λ_=>?_)
 ·refine AB (C3 (Ah _) a (by omega)) λL E=>?_;refine AB (C3 (by omega) (by simp only[len];omega) (by simp only[len];omega)) λM q=>?_;have u:=q.2;simp only[len]at u;refine AB (CE (by omega)) λN F=>AA ⟨f.1,?_⟩;grind
 refine AS (λ_=>?_) (λ_=>?_)
 ·refine AB (Aa f.1 (by decide)) λC s=>?_;have v:(GA ([(IntKind.wrap .u8 C.1)]:List Int)).length=1:=by rw[LU];rfl
  refine AB (CE (by omega)) λO G=>AA ⟨s.1,?_⟩;grind
 refine AB (C3 (Ah _) a (by omega)) λP H=>?_;refine AB (Pk a (by omega)) λD _=>?_;refine AB (C3 (by omega) (by simp only[len];omega) (by simp only[len];omega)) λy c=>?_;refine AB (Aa f.1 (by decide)) λj d=>?_;have i:=c.2;simp only[len]at i;generalize t:GA ([(IntKind.wrap .u8 (((BitVec.toNat ((BitVec.ofInt 8 D)^^^(BitVec.ofInt 8 (IntKind.wrap .u8 (wi (1+j.1)))))):Nat):Int))]:List Int)=B;have v:B.length=1:=by rw[<-t,LU];rfl
 refine AB (CE (by omega)) λz o=>?_;refine AB (CE (by omega)) λA p=>AA ⟨d.1,?_⟩;grind
def uO{x:Am×Int}(h:D3 x.1)(c:x.2=x.1.1+x.1.2.1.length-1):A2 (Dn x) λr=>r.1.2.2=r.1.1+r.1.2.1.length-1/\r.1.1=x.1.1:=by
 refine AB Bg λv e=>?_;refine AO (λa=>?_) (λ_=>?_)
 ·grind
 refine AB EQ λf b=>?_;rw[h.last]at b;have d:=h.2.2.2.2.1;refine AC (λa=>absurd a (by omega)) (λ_=>AA ⟨?_,rfl⟩);grind
def rM{b:AP}{x:Int}(h:CX b)(f:x<=1000/\ -1000<=x):A2 (KA b x) λr=>r.2.1.2.2=r.2.1.1+r.2.1.2.1.length-1/\r.2.1.1=1:=by refine AB (No h f) λj d=>?_;obtain⟨c,g,i,q2,q3,q4⟩:=d;refine AB GY λk e=>?_;exact AB (uO q3 (e q3)) λl a=>AA ⟨a.1,a.2.trans q4⟩
def cR{x:Am×Int}(h:D3 x.1)(p:x.1.2.2=x.1.1+x.1.2.1.length-1)(l:x.1.1<=x.2)(m:x.2<=x.1.2.2+1)(n:x.2<=1099511627776):A2 (JP x) λr=>r.2=0/\D3 r.1/\r.1.1=x.2:=by
 obtain⟨a1,a2,a3,a4,a5,a6⟩:=id h;refine AB Bg λv q=>?_;refine AO (λa=>?_) (λ_=>?_)
 ·grind
 refine AC (λa=>absurd a (by omega)) (λ_=>?_);refine AB EQ λf d=>?_;rw[h.last]at d;have g:=AY (x:=f+1) (by omega);have j:=AY (x:=x.1.2.2+1) (by omega);have k:=AY (x:=x.2-x.1.1) (by omega);refine AC (λa=>absurd a (by omega)) (λ_=>?_);refine AC (λa=>absurd a (by omega)) (λ_=>?_);refine AC (λa=>absurd a (by omega)) (λ_=>?_);refine AB (B0 (by omega) (by grind) (by grind)) λs b=>?_;have l2:=b.2;simp only[len]at l2;refine AB (Ac (by simp;omega)) λt c=>AA ⟨rfl,?_,rfl⟩;refine⟨by grind,by grind,by grind,by grind,by grind,λi e o=>?_⟩;grind
def Ris(l:List Int)(n:Int):Prop:= ∀(i:Nat) (a b:Int),(i:Int)+1<n->l[i]? =some a->l[i+1]? =some b->a<b
def BD(n:Int)(l:List Int):Prop:=1<=n/\n<=64/\1<=l.length/\l.length<=16/\l[0]? =some 0/\Ris l l.length/\ ∀a,l[l.length-1]? =some a->a<n
def Z7{x:Int×List Int}:A2 (FO x) λr=>r=true↔BD x.1 x.2:=by
 unfold FO;refine AC (λc=>AA ⟨λd=>(by cases d),λh=>(by have:=h.1;omega)⟩) (λL=>?_);refine AC (λc=>AA ⟨λd=>(by cases d),λh=>(by have:=h.2.1;omega)⟩) (λM=>?_);refine AC (λc=>AA ⟨λd=>(by cases d),λh=>(by have:=h.2.2.1;simp only[len]at c;omega)⟩) (λy=>?_);refine AC (λc=>AA ⟨λd=>(by cases d),λh=>(by have:=h.2.2.2.1;simp only[len]at c;omega)⟩) (λz=>?_);simp only[len]at y z;refine AB (AD (Ah _) (by omega)) λQ E=>?_;have f:=E.1;refine AK (λc=>AA ⟨λd=>(by cases d),λh=>?_⟩) (λo=>?_)
 ·have:=h.2.2.2.2.1;simp only[Int.toNat_zero]at f;rw[f]at this;exact absurd (C2 this) c
 rw[o]at f;refine AB (P:=λr=>(r= .inl false/\ ¬Ris x.2 x.2.length)\/(r= .inr ()/\Ris x.2 x.2.length)) ?_ λr hr=>?_
 ·refine AM (λ(s:Int)=>1<=s/\s<=x.2.length/\Ris x.2 s) (λ(s:Int)=>((x.2.length:Int)-s).toNat) ⟨Ah _,by omega,λi a b v=>absurd v (by omega)⟩ (λs G=>?_);obtain⟨N,O,w⟩:=G;unfold LI;have A:=AY (x:=s-1) (by omega);have B:=AY (x:=s+1) (by omega);rw[A,B];refine AC (λk=>?_) (λk=>AA (.inr ⟨rfl,?_⟩))
  ·simp only[len]at k;refine AB (AD (by omega) (by omega)) λa j=>?_;refine AB (AD (by omega) k) λb u=>?_;have t:(s-1).toNat+1=s.toNat:=by omega
   refine AC (λJ=>AA (.inl ⟨rfl,λH=>?_⟩)) (λm=>AA ⟨⟨by omega,by omega,λi p q v n l=>?_⟩,by omega⟩)
   ·have:=H (s-1).toNat a b (by omega) j.1 (by rw[t];exact u.1);omega
   ·by_cases I:(i:Int)+1<s
    ·exact w i p q I n l
    ·have C:i=(s-1).toNat:=by omega
     subst C;rw[t]at l;rw[j.1]at n;rw[u.1]at l;have:=C2 n;have:=C2 l;omega
  ·simp only[len]at k;have:s=x.2.length:=by omega
   rw[<-this];exact w
 ·rcases hr with⟨rfl,hr⟩|⟨rfl,hr⟩
  ·exact BK (AA ⟨λd=>(by cases d),λh=>absurd h.2.2.2.2.2.1 hr⟩)
  ·apply BG;have e:=AY (x:=len x.2-1) (by simp only[len];omega);rw[e];refine AB (AD (by simp only[len];omega) (by simp only[len];omega)) λK F=>AA ?_;have g:=F.1;have D:(len x.2-1).toNat=x.2.length-1:=by simp only[len];omega
   rw[D]at g;rw[decide_eq_true_eq];refine⟨λm=>⟨by omega,by omega,by omega,by omega,f,hr,λa j=>?_⟩,λh=>h.2.2.2.2.2.2 K g⟩;rw[g]at j;have:=C2 j;omega
def BI(i:Int)(l:List Int):Prop:=1<=l.length/\l.length<=16/\l[0]? =some 0/\Ris l l.length/\ ∀a,l[l.length-1]? =some a->a<i
def BI.mono{i:Int}{l:List Int}(h:BI i l):BI (i+1) l:=⟨h.1,h.2.1,h.2.2.1,h.2.2.2.1,λa b=>by have:=h.2.2.2.2 a b;omega⟩
def BI.push{i:Int}{l m:List Int}(h:BI i l)(u:l.length<16)(r:m=l++[i]):BI (i+1) m:=by
 subst r;obtain⟨s,t,n,o,p⟩:=h;have g:(l++[i]).length=l.length+1:=by simp
 refine⟨by omega,by omega,?_,λk a b q c d=>?_,λa c=>?_⟩
 ·rw[BW (by omega)];exact n
 ·rw[g]at q;rw[BW (by omega)]at c;by_cases f:k+1<l.length
  ·rw[BW f]at d;exact o k a b (by omega) c d
  ·have j:k=l.length-1:=by omega
   subst j;rw[CG (by omega)]at d;have e:l.length-1+1-l.length=0:=by omega
   rw[e]at d;simp at d;have:=p a c;omega
 ·rw[g]at c;rw[CG (by omega)]at c;have e:l.length+1-1-l.length=0:=by omega
  rw[e]at c;simp at c;omega
def uN{b:AP}{x:Int}(h:CX b)(d:1<=x/\x<=64):A2 (KT b x) λr=>CX r.2/\BD x r.1:=by
 unfold KT;refine AB (P:=λr=>CX r.2/\BD x r.1) ?_ λr hr=>AA hr;refine AM (λ(s:Int×List Int×AP)=>1<=s.1/\s.1<=x/\BI s.1 s.2.1/\CX s.2.2) (λ(s:Int×List Int×AP)=>(x-s.1).toNat) ⟨Ah _,d.1,⟨by simp,by simp,by simp,λi a b q=>absurd q (by simp;omega),λa o=>by simp at o;omega⟩,h⟩ (λs n=>?_);obtain⟨u,v,c,g⟩:=n;unfold QY;have e:=AY (x:=s.1+1) (by omega);rw[e];refine AC (λp=>?_) (λp=>AA ⟨g,?_⟩)
 ·refine AB (Aa g (by decide)) λw f=>?_;refine AS (λ_=>?_) (λ_=>AA ⟨⟨by dsimp only;omega,by dsimp only;omega,c.mono,f.1⟩,by dsimp only;omega⟩);refine AB (P:=λl=>BI (s.1+1) l) ?_ λz m=>AA ⟨⟨by dsimp only;omega,by dsimp only;omega,m,f.1⟩,by dsimp only;omega⟩;refine AC (λt=>?_) (λ_=>AA c.mono);simp only[len]at t;exact AB (Ac (by simp;omega)) λy k=>AA (c.push (by omega) k.1)
 ·have j:s.1=x:=by omega
  rw[j]at c;exact⟨d.1,d.2,c.1,c.2.1,c.2.2.1,c.2.2.2.1,c.2.2.2.2⟩
def FR(l:List BQ)(m n:Int):Prop:=(∀(i:Nat) (f:BQ),(i:Int)<n->l[i]? =some f->0<f.2.1/\f.2.1<m)/\ ∀(i:Nat) (f g:BQ),(i:Int)+1<n->l[i]? =some f->l[i+1]? =some g->f.2.1<g.2.1
def VB(a:AL):Prop:=BD a.2.1 a.1/\1<=a.2.2.2.1/\a.2.2.2.1<=1099511627777/\1<=a.2.2.2.2/\a.2.2.2.2<=1073741825/\a.2.2.1.length<=256/\FR a.2.2.1 a.2.2.2.2 a.2.2.1.length
theorem pd{x:AL}:A2 (Ef x) λr=>r=true↔VB x:=by
 unfold Ef;refine AB Z7 λU w=>?_;refine AO (λj=>AA ⟨λb=>(by cases b),λh=>(by rw[w.2 h.1]at j;cases j)⟩) (λj=>?_);have H:=w.1 j;refine AC (λc=>AA ⟨λb=>(by cases b),λh=>(by have:=h.2.1;omega)⟩) (λN=>?_);refine AC (λc=>AA ⟨λb=>(by cases b),λh=>(by have:=h.2.2.1;omega)⟩) (λO=>?_);refine AC (λc=>AA ⟨λb=>(by cases b),λh=>(by have:=h.2.2.2.1;omega)⟩) (λQ=>?_);refine AC (λc=>AA ⟨λb=>(by cases b),λh=>(by have:=h.2.2.2.2.1;omega)⟩) (λR=>?_);refine AC (λc=>AA ⟨λb=>(by cases b),λh=>(by have:=h.2.2.2.2.2.1;simp only[len]at c;omega)⟩) (λA=>?_);simp only[len]at A;refine AB (P:=λr=>(r= .inl false/\ ¬FR x.2.2.1 x.2.2.2.2 x.2.2.1.length)\/(r= .inr ()/\FR x.2.2.1 x.2.2.2.2 x.2.2.1.length)) ?_ λr hr=>?_
 ·refine AM (λ(s:Int×Int)=>0<=s.2/\s.2<=x.2.2.1.length/\FR x.2.2.1 x.2.2.2.2 s.2/\0<=s.1/\(s.2=0->s.1=0)/\ ∀f,0<s.2->x.2.2.1[(s.2-1).toNat]? =some f->f.2.1=s.1) (λ(s:Int×Int)=>((x.2.2.1.length:Int)-s.2).toNat) ⟨Ah _,by dsimp only;omega,⟨λi f k=>absurd k (by dsimp only;omega),λi f g k=>absurd k (by dsimp only;omega)⟩,Ah _,λ_=>rfl,λf d=>absurd d (by dsimp only;omega)⟩ (λs G=>?_);obtain⟨q,S,t,T,L,z⟩:=G;unfold If;have e:=AY (x:=s.2+1) (by omega);rw[e];refine AC (λj=>?_) (λj=>AA (.inr ⟨rfl,?_⟩))
  ·simp only[len]at j;refine AB (AD q j) λu D=>?_;have a:=D.1;refine AC (λJ=>AA (.inl ⟨rfl,λn=>?_⟩)) (λK=>?_)
   ·by_cases b:s.2=0
    ·have:=(n.1 s.2.toNat u (by omega) a).1;have:=L b;omega
    ·obtain⟨f,d⟩: ∃f,x.2.2.1[(s.2-1).toNat]? =some f:=⟨_,Ay (by omega)⟩
     have m:(s.2-1).toNat+1=s.2.toNat:=by omega
     have:=n.2 (s.2-1).toNat f u (by omega) d (by rw[m];exact a);have:=z f (by omega) d;omega
   refine AB (AD q j) λv E=>?_;have B:v=u:=by have:=E.1;rw[a]at this;exact(C2 this).symm
   subst B;refine AC (λI=>AA (.inl ⟨rfl,λn=>?_⟩)) (λy=>?_)
   ·have:=(n.1 s.2.toNat v (by omega) a).2;omega
   refine AB (AD q j) λM F=>AA ?_;have C:M=v:=by have:=F.1;rw[a]at this;exact(C2 this).symm
   subst C;refine⟨⟨by dsimp only;omega,by dsimp only;omega,⟨λi f k d=>?_,λi f g k d p=>?_⟩,by dsimp only;omega,λb=>absurd b (by dsimp only;omega),λf _ d=>?_⟩,by dsimp only;omega⟩
   ·dsimp only at k;by_cases l:(i:Int)<s.2
    ·exact t.1 i f l d
    ·have o:i=s.2.toNat:=by omega
     subst o;rw[a]at d;have:=C2 d;subst this;exact⟨by omega,by omega⟩
   ·dsimp only at k;by_cases l:(i:Int)+1<s.2
    ·exact t.2 i f g l d p
    ·have o:i=(s.2-1).toNat:=by omega
     have m:i+1=s.2.toNat:=by omega
     rw[m,a]at p;have:=C2 p;subst this;rw[o]at d;have:=z f (by omega) d;omega
   ·dsimp only at d⊢;have m:(s.2+1-1).toNat=s.2.toNat:=by omega
    rw[m,a]at d;have:=C2 d;rw[this]
  ·simp only[len]at j;have:s.2=x.2.2.1.length:=by omega
   rw[<-this];exact t
 ·rcases hr with⟨rfl,hr⟩|⟨rfl,hr⟩
  ·exact BK (AA ⟨λb=>(by cases b),λh=>absurd h.2.2.2.2.2.2 hr⟩)
  ·exact BG (AA ⟨λ_=>⟨H,by omega,by omega,by omega,by omega,by omega,hr⟩,λ_=>rfl⟩)
set_option maxHeartbeats 1000000
def jR{x:Int}:A2 (SD x) λr=>r=true↔0<=x/\x<64:=by
 unfold SD;repeat' with_reducible first|apply AC<;>intro a|apply AE<;>intro a|apply AA
 all_goals grind
def jQ{x:D6}:A2 (PP x) λr=>r=true↔Th x:=by
 unfold PP Th
 repeat' first
   |with_reducible apply AC<;>intro a
   |with_reducible apply AE<;>intro a
   |(with_reducible apply A4;try dsimp only)
   |with_reducible apply BN
   |with_reducible apply BT
   |with_reducible apply AA
   |(with_reducible apply AB (jR);intro r hr)
   |(with_reducible apply AB (Jc);intro r hr)
 all_goals grind
def Jy{x:Int×AI}:A2 (NI x) λr=>r=true↔0<=x.1/\x.1<x.2.1:=by
 unfold NI;repeat' with_reducible first|apply AC<;>intro a|apply AE<;>intro a|apply AA
 all_goals grind
def lu{x:D6}:A2 (La x) λr=>r=true↔x=Ow:=by unfold La Ow;obtain⟨a,b,⟨c,d⟩,e,f⟩:=x;apply AA;simp[fe,and_assoc]
def gv{x:AI}:A2 (GO x) λr=>r=true:=by unfold GO;exact AA rfl
def gw{x:AI}:A2 (Qt x) λr=>r=true↔1<=x.2.2.2.2.2.1/\x.2.2.2.2.2.1<=x.2.2.2.1:=by
 unfold Qt;repeat' with_reducible first|apply AC<;>intro a|apply AE<;>intro a|apply AA
 all_goals grind
def gx{x:D6}:A2 (Qu x) λr=>r=true↔0<=x.1/\x.1<64/\x.2=Ow.2:=by
 unfold Qu Ow;obtain⟨a,b,⟨c,d⟩,e,f⟩:=x;refine AE (λg=>?_) (λg=>AA ?_)
 ·refine AC (λh=>AA ?_) (λh=>AA ?_)
  ·simp at g;simp[g,h];try omega
  ·simp;try omega
 ·simp[fe]at g⊢;try grind
def LO{x:AI}:A2 (Gs x) λr=>Pd x->r=true:=by
 unfold Gs;refine AC (λi=>AA λh=>?_) (λs=>?_)
 ·have:=h.1;omega
 refine AC (λi=>AA λh=>?_) (λt=>?_)
 ·have:=h.2.1;omega
 refine AC (λi=>AA λh=>?_) (λu=>?_)
 ·have:=h.2.2.2.2.2.2.2.2;unfold VI at this;omega
 refine AC (λi=>AA λh=>?_) (λv=>?_)
 ·have:=h.2.2.2.2.2.2.2.2;unfold VI at this;omega
 refine AB Jy λw j=>?_;refine AO (λi=>AA λh=>?_) (λn=>?_)
 ·rw[j.2 ⟨h.2.2.1,h.2.2.2.1⟩]at i;cases i
 refine AB Jy λy k=>?_;refine AO (λi=>AA λh=>?_) (λo=>?_)
 ·rw[k.2 ⟨h.2.2.2.2.1,h.2.2.2.2.2.1⟩]at i;cases i
 refine AB Jy λz l=>?_;refine AO (λi=>AA λh=>?_) (λp=>?_)
 ·rw[l.2 ⟨h.2.2.2.2.2.2.1,h.2.2.2.2.2.2.2.1⟩]at i;cases i
 refine A2.mono (P:=λr=>VI x->r=true) ?_ λr h q=>h q.2.2.2.2.2.2.2.2;clear j k l n o p;obtain⟨a,b,c,d,e,f,g,m⟩:=x;unfold VI;dsimp only at*;refine AC (λi=>absurd i (by omega)) (λk0=>?_);repeat' with_reducible first
  |apply AC<;>intro i
  |apply AS<;>intro i
  |apply AK<;>intro i
  |apply AO<;>intro i
  |apply AE<;>intro i
  |apply BN
  |apply A4
  |apply AA
  |apply Xg
  |(apply AB gv;intro r hr)
  |(apply AB gw;intro r hr)
  |(apply AB gx;intro r hr)
  |(apply AB lu;intro r hr)
  |(apply AB jQ;intro r hr)
 all_goals grind
def br{x:Am}:A2 (Ca x) λr=>r=wi (wi (x.1+len x.2.1)-1):=by unfold Ca;exact AA rfl
theorem W4{x:Am}(h:D3 x):A2 (OY x) λr=>r=true:=by
 obtain⟨a1,a2,a3,a4,a5,a6⟩:=id h;unfold OY;refine AC (λa=>absurd a (by omega)) (λ_=>?_);refine AC (λa=>absurd a (by omega)) (λ_=>?_);refine AC (λa=>absurd a (by simp only[len];omega)) (λ_=>?_);have b:=AY (x:=x.1-1) (by omega);rw[b];refine AC (λa=>absurd a (by omega)) (λ_=>?_);refine AB br λm e=>?_;rw[h.last]at e;refine AC (λa=>absurd a (by omega)) (λ_=>?_);refine AB (P:=λr=> ∃u,r= .inr u) ?_ λr hr=>?_
 ·refine AM (λ(s:Int)=>0<=s/\s<=x.2.1.length) (λ(s:Int)=>((x.2.1.length:Int)-s).toNat) ⟨Ah _,by omega⟩ (λs i=>?_);obtain⟨j,l⟩:=i;unfold Vc;refine AC (λa=>?_) (λ_=>AA ⟨_,rfl⟩);simp only[len]at a;refine AB (AD j a) λk f=>?_;have q:=a6 s.toNat k f.1;have c:=AY (x:=x.1+s) (by omega);have d:=AY (x:=s+1) (by omega);rw[c,d];refine AK (λa=>absurd (by have:=q.1;omega) a) (λ_=>?_);refine AB LO λn g=>?_;refine AO (λa=>?_) (λ_=>AA ⟨⟨by omega,by omega⟩,by omega⟩);rw[g q.2]at a;cases a
 ·obtain⟨u,rfl⟩:=hr;exact BG (AA rfl)
def ZI{x:Am}(h:D3 x):A2 (SI x) λr=>r=x.1+x.2.1.length-1:=by
 unfold SI;refine AB (W4 h) λv c=>?_;refine AO (λb=>?_) (λ_=>?_)
 ·rw[c]at b;cases b
 refine AB br λd a=>AA ?_;rw[h.last]at a;exact a
theorem J8{x:AL}(h:VB x):A2 (Jx x) λr=>r=true:=by
 obtain⟨⟨L,M,N,O,p,t,v⟩,a1,a2,a3,a4,a5,a6⟩:=id h;unfold Jx;refine AC (λa=>absurd a (by omega)) (λ_=>?_);refine AC (λa=>absurd a (by omega)) (λ_=>?_);refine AC (λa=>absurd a (by simp only[len];omega)) (λ_=>?_);refine AC (λa=>absurd a (by simp only[len];omega)) (λ_=>?_);refine AB (AD (Ah _) (by omega)) λQ B=>?_;have b:=B.1;rw[show((0:Int).toNat)=0 from rfl,p]at b;injection b with b;refine AK (λa=>absurd b.symm a) (λ_=>?_);have w:=AY (x:=len x.1-1) (by simp only[len];omega);rw[w];refine AB (AD (by simp only[len];omega) (by simp only[len];omega)) λI C=>?_;have c:=C.1;have y:(len x.1-1).toNat=x.1.length-1:=by simp only[len];omega
 rw[y]at c;refine AC (λa=>absurd a (by have:=v I c;omega)) (λ_=>?_);refine AB (P:=λr=> ∃u,r= .inr u) ?_ λr hr=>?_
 ·refine AM (λ(s:Int)=>1<=s/\s<=x.1.length) (λ(s:Int)=>((x.1.length:Int)-s).toNat) ⟨Ah _,by omega⟩ (λs i=>?_);obtain⟨o,F⟩:=i;unfold UY;refine AC (λa=>?_) (λ_=>AA ⟨_,rfl⟩);simp only[len]at a;have z:=AY (x:=s-1) (by omega);have e:=AY (x:=s+1) (by omega);rw[z,e];refine AB (AD (by omega) (by omega)) λJ D=>?_;refine AB (AD (by omega) a) λK E=>?_
  have q:=t (s-1).toNat J K (by omega) D.1 (by have:(s-1).toNat+1=s.toNat:=by omega
                                               rw[this];exact E.1)
  refine AC (λa=>absurd a (by omega)) (λ_=>AA ⟨⟨by omega,by omega⟩,by omega⟩)
 ·obtain⟨u,rfl⟩:=hr;refine BG ?_;refine AC (λa=>absurd a (by omega)) (λ_=>?_);refine AC (λa=>absurd a (by omega)) (λ_=>?_);refine AC (λa=>absurd a (by omega)) (λ_=>?_);refine AC (λa=>absurd a (by omega)) (λ_=>?_);refine AC (λa=>absurd a (by simp only[len];omega)) (λ_=>?_);refine AB (P:=λr=> ∃u,r= .inr u) ?_ λr hr=>?_
  ·refine AM (λ(s:Int×Int)=>0<=s.2/\s.2<=x.2.2.1.length/\(s.2=0->s.1=0)/\ ∀f:BQ,0<s.2->x.2.2.1[(s.2-1).toNat]? =some f->s.1=f.2.1) (λ(s:Int×Int)=>((x.2.2.1.length:Int)-s.2).toNat) ⟨Ah _,by dsimp only;omega,λ_=>rfl,λf m=>by dsimp only at m;omega⟩ (λs i=>?_);obtain⟨o,F,G,H⟩:=i;unfold UZ;refine AC (λa=>?_) (λ_=>AA ⟨_,rfl⟩);simp only[len]at a;have e:=AY (x:=s.2+1) (by omega);rw[e];refine AB (AD o a) λl g=>?_;have q1:=a6.1 s.2.toNat l (by omega) g.1;have q2:s.1<l.2.1:=by
    by_cases k:s.2=0
    ·rw[G k];exact q1.1
    ·have j:(s.2-1).toNat<x.2.2.1.length:=by omega
     have n:x.2.2.1[(s.2-1).toNat]? =some x.2.2.1[(s.2-1).toNat]:=Ay j
     have:=a6.2 (s.2-1).toNat _ l (by omega) n (by have:(s.2-1).toNat+1=s.2.toNat:=by omega
                                                   rw[this];exact g.1)
     rw[H _ (by omega) n];exact this
   refine AC (λa=>absurd a (by omega)) (λ_=>?_);refine AC (λa=>absurd a (by have:=q1.2;omega)) (λ_=>AA ⟨⟨by dsimp only;omega,by dsimp only;omega,λk=>?_,λf m d=>?_⟩,by dsimp only;omega⟩)
   ·dsimp only at k;omega
   ·dsimp only at d⊢;have A:(s.2+1-1).toNat=s.2.toNat:=by omega
    rw[A,g.1]at d;injection d with d;rw[d]
  ·obtain⟨u,rfl⟩:=hr;exact BG (AA rfl)
def W3{x:AL×Am×Int×Int}(h:VB x.1)(c:D3 x.2.1)(e:0<=x.2.2.1/\x.2.2.1<x.1.2.1/\0<=x.2.2.2):A2 (OX x) λr=>r=0:=by
 unfold OX;refine AB (J8 h) λv d=>?_;refine AO (λa=>?_) (λ_=>?_)
 ·rw[d]at a;cases a
 refine AB (W4 c) λf b=>?_;refine AO (λa=>?_) (λ_=>?_)
 ·rw[b]at a;cases a
 refine AC (λa=>absurd a (by omega)) (λ_=>?_);refine AC (λa=>absurd a (by omega)) (λ_=>?_);exact AC (λa=>absurd a (by omega)) (λ_=>AA rfl)
end Go.Pm
