/- Texts of wip, joined and shortened by wip/tools/pack.py; nothing is assumed. -/
import Derived.Test.YtdbincbpjobdpaaGreatK9
import Derived.KernelRfl
noncomputable section
set_option linter.all false
set_option maxHeartbeats 400000
open Option renaming some->Z
open List renaming length->U
open Go renaming Ψ->S
open Bool renaming false->Y
open Bool renaming true->V
open Go renaming Ω->T
open Option renaming some->δ
open Bool renaming true->ζ,false->η
open List renaming length->θ,replicate->ς
open Go.IntKind renaming wrap->ι
open BitVec renaming ofInt->κ,toNat->π
open Int renaming toNat->ο
open Decidable renaming decide->τ
namespace Go.Pm
open Go Go.Ab
def ZQ(c:BitVec 32):BitVec 32:=if c.getLsbD 0=V then(c>>>1)^^^2197175160#32 else c>>>1
def nh:Nat->BitVec 32->BitVec 32
 |0,c=>c
 |n+1,c=>ZQ (nh n c)
def jh(c:BitVec 32)(b:UInt8):BitVec 32:=nh 8 (c^^^BitVec.ofNat 32 b.toNat)
def AGg(s:BZ):BitVec 32:=4294967295#32^^^s.foldl jh 4294967295#32
def Pq(s:BZ):Int:=((AGg s).toNat:Int)
def iy{a b:BitVec 32}(h:a^^^b=0#32):a=b:=t!
def ADd(a b:BitVec 32):ZQ (a^^^b)=ZQ a^^^ZQ b:=by
 unfold ZQ;rw[BitVec.getLsbD_xor,BitVec.ushiftRight_xor_distrib];cases a.getLsbD 0<;>cases b.getLsbD 0<;>simp;grind;grind;have:a>>>1^^^2197175160#32^^^(b>>>1^^^2197175160#32)=(a>>>1^^^b>>>1)^^^(2197175160#32^^^2197175160#32):=by ac_rfl
 grind
theorem xy:∀(n:Nat)(a b:BitVec 32),nh n (a^^^b)=nh n a^^^nh n b
 |0,a,b=>rfl
 |n+1,a,b=>by rw[nh,nh,nh,xy n,ADd]
def ABg{c}(h:ZQ c=0#32):c=0#32:=by
 unfold ZQ at h;by_cases b:c.getLsbD 0=V;rw[C! b]at h;have a:(c>>>1).getLsbD 31=(2197175160#32).getLsbD 31:=by rw[(iy h)]
 rw[BitVec.getLsbD_ushiftRight]at a;simp_all;rw[D! b]at h;apply pW;intro i d;cases i with
 |zero=>grind
 |succ j=>
  have a:(c>>>1).getLsbD j=(0#32).getLsbD j:=by rw[h]
  grind
def zZ:∀(n:Nat){c:BitVec 32},nh n c=0#32->c=0#32
 |0,c,h=>h
 |n+1,c,h=>zZ n (ABg h)
def ACF{n}{a b}(h:nh n a=nh n b):a=b:=by refine iy (zZ n ?_);rw[xy,h,cM]
def AGY{a b}{x}(h:jh a x=jh b x):a=b:=by have c:=ACF h;simp_all
def AGZ{a}{x y}(h:jh a x=jh a y):x=y:=by
 have:a^^^(a^^^BitVec.ofNat 32 x.toNat)=a^^^(a^^^BitVec.ofNat 32 y.toNat):=by rw[(ACF h)]
 rw[<-lG,cM,lH,<-lG,cM,lH]at this;have b:=E! π this;rw[cL,cL]at b;have c:=x.toNat_lt;have d:=y.toNat_lt;exact UInt8.toNat_inj.1 o!
def AEj:∀(s:BZ){a b:BitVec 32},s.foldl jh a=s.foldl jh b->a=b
 |[],a,b,h=>h
 |x::r,a,b,h=>AGY (AEj r h)
def AGh{u v:BZ}{x y:UInt8}(h:Pq (u++x::v)=Pq (u++y::v)):x=y:=by
 unfold Pq at h;have a:AGg (u++x::v)=AGg (u++y::v):=BitVec.eq_of_toNat_eq o!;unfold AGg at a;rw[YN,YN,YO,YO]at a;have b:∀p q:BitVec 32,4294967295#32^^^p=4294967295#32^^^q->p=q:=λp q c=>by
  have:4294967295#32^^^(4294967295#32^^^p)=4294967295#32^^^(4294967295#32^^^q):=by rw[c]
  rwa [<-lG,cM,lH,<-lG,cM,lH]at this
 exact AGZ (AEj v (b _ _ a))
def aB(s:BZ):0<=Pq s/\Pq s<4294967296:=by unfold Pq;omega
theorem bvI(c:BitVec 32):κ 32 (c.toNat:Int)=c:=k!
theorem w32(c:BitVec 32):ι .u32 (c.toNat:Int)=(c.toNat:Int):=by rw[xN];omega
theorem fdN(c:BitVec 32)(k:Nat)(a:k<=32):Int.fdiv (c.toNat:Int) (2^(min (ο (k:Int)) 32))=((c>>>k).toNat:Int):=by rw[show min (ο (k:Int)) 32=k by omega,lI _ (by exact_mod_cast BR (2^k)),BitVec.toNat_ushiftRight,Nat.shiftRight_eq_div_pow];grind
theorem fd1(c:BitVec 32):Int.fdiv (c.toNat:Int) (2^(min (ο 1) 32))=((c>>>1).toNat:Int):=by grind[fdN]
def fd4(c:BitVec 32):Int.fdiv (c.toNat:Int) (2^(min (ο 4) 32))=((c>>>4).toNat:Int):=by grind[fdN]
theorem AG9(c:BitVec 32):((ι .u32 (((π ((κ 32 (c.toNat:Int))&&&(κ 32 1))):Nat):Int))==1)=c.getLsbD 0:=by grind[bvI,w32,BitVec.toNat_and,κ]
def AIK(c:BitVec 32):(bif ((ι .u32 (((π ((κ 32 (c.toNat:Int))&&&(κ 32 1))):Nat):Int))==1)then
     Z (ι .u32 (((π ((κ 32 (Int.fdiv (c.toNat:Int) (2^(min (ο 1) 32))))^^^(κ 32 2197175160))):Nat):Int))
    else
    Z (Int.fdiv (c.toNat:Int) (2^(min (ο 1) 32))):T Int)=Z ((ZQ c).toNat:Int):=by grind[AG9,fd1,bvI,w32,ZQ]
def AJf(c:BitVec 32):Aj IV ((c.toNat:Int),0)=Z ((nh 8 c).toNat:Int):=by
 have key:Ap (Aj IV ((c.toNat:Int),0)) λr=>r=((nh 8 c).toNat:Int):=by refine AW (λs=>0<=s.2/\s.2<=8/\s.1=((nh s.2.toNat c).toNat:Int)) (λs=>(8-s.2).toNat) ⟨Ae _,d!,rfl⟩ ?_;rintro⟨g,a⟩ ⟨e,f,b⟩;dsimp only at e f b;subst b;refine AC (λd=>?_) (λd=>AB (by rw[show a.toNat=8 by omega]));rw[AIK,AD,AY];refine AB ⟨⟨o!,o!,?_⟩,o!⟩;rw[show(a+1).toNat=a.toNat+1 by omega];rfl
 obtain⟨r,hr,rfl⟩:=key;exact hr
def AEL(c:BitVec 32)(b:UInt8):ι .u32 (((π ((κ 32 (c.toNat:Int))^^^(κ 32 (ι .u32 (b.toNat:Int))))):Nat):Int)=((c^^^BitVec.ofNat 32 b.toNat).toNat:Int):=by grind[ι,xN,bvI,w32]
def AFf{x:BZ}{i:Int}(a:0<=i)(c:i<U x):∃b:UInt8,six x i=Z (b.toNat:Int)/\x.take (i+1).toNat=x.take (ο i)++[b]:=by obtain⟨k,rfl⟩:=Ef a;refine⟨x[k],?_,?_⟩;grind[six];simp_all
def xU{x:BZ}(h:x.length<=2199023255552):FK x=some (Pq x):=by
 have key:Ap (Aj (IU x) (4294967295,0)) λr=>r=((x.foldl jh 4294967295#32).toNat:Int):=by refine AW (λ(s:Int×Int)=>0<=s.2/\s.2<=x.length/\s.1=(((x.take s.2.toNat).foldl jh 4294967295#32).toNat:Int)) (λs=>((x.length:Int)-s.2).toNat) ⟨Ae _,d!,rfl⟩ ?_;rintro⟨f,g⟩ ⟨c,e,d⟩;dsimp only at c e d;subst d;unfold IU;simp only[len];refine AC (λa=>?_) (λa=>AB (by rw[BO o!]));have⟨b,q1,q2⟩:=AFf c a;rw[q1,AD,AEL,AJf,AD,AY];refine AB ⟨⟨o!,o!,?_⟩,o!⟩;rw[q2,YN];rfl
 obtain⟨r,hr,rfl⟩:=key;unfold FK;rw[hr,AD,bvI];rw[show(BitVec.ofInt 32 (if(false=true)then(-1)else(if(false=true)then((2^(32-1))-1)else((2^32)-1))))=4294967295#32 by decide,w32];rfl
def AK6{d:BitVec 32}(b:d.getLsbD 0=Y)(c:d.getLsbD 1=Y)(f:d.getLsbD 2=Y)(g:d.getLsbD 3=Y):nh 4 d=d>>>4:=by
 have st:∀e:BitVec 32,e.getLsbD 0=Y->ZQ e=e>>>1:=λe a=>by unfold ZQ;rw[D! (by rw[a];decide)]
 show ZQ (ZQ (ZQ (ZQ d)))=_;grind
def AJC(c:BitVec 32):(c>>>4)^^^nh 4 (c&&&15#32)=nh 4 c:=by
 have d:c=(c&&& ~~~15#32)^^^(c&&&15#32):=by apply pW;intro i a;rw[BitVec.getLsbD_xor,BitVec.getLsbD_and,BitVec.getLsbD_and,BitVec.getLsbD_not];grind
 have e:nh 4 (c&&& ~~~15#32)=c>>>4:=by
  have z:∀i,i<4->(c&&& ~~~15#32).getLsbD i=Y:=λi a=>by
   have:i=0\/i=1\/i=2\/i=3:=o!
   grind
  rw[AK6 (z 0 g!) (z 1 g!) (z 2 g!) (z 3 g!)];apply pW;intro i a;have b:(15#32).getLsbD (4+i)=Y:=by show(15#32).toNat.testBit (4+i)=Y;grind
  grind
 grind[xy]
def AJc(c:BitVec 32):Aj Lh ((c.toNat:Int),0)=Z ((nh 4 c).toNat:Int):=by
 have key:Ap (Aj Lh ((c.toNat:Int),0)) λr=>r=((nh 4 c).toNat:Int):=by refine AW (λs=>0<=s.2/\s.2<=4/\s.1=((nh s.2.toNat c).toNat:Int)) (λs=>(4-s.2).toNat) ⟨Ae _,d!,rfl⟩ ?_;rintro⟨g,a⟩ ⟨e,f,b⟩;dsimp only at e f b;subst b;refine AC (λd=>?_) (λd=>AB (by rw[show a.toNat=4 by omega]));rw[AIK,AD,AY];refine AB ⟨⟨o!,o!,?_⟩,o!⟩;rw[show(a+1).toNat=a.toNat+1 by omega];rfl
 obtain⟨r,hr,rfl⟩:=key;exact hr
def ADs(t:Fin (15+1)->(Ty.int IntKind.u32).D):Prop:=∀j:Fin 16,t j=((nh 4 (BitVec.ofNat 32 j.val)).toNat:Int)
def AKY:Ap (LK ()) ADs:=by refine AA (P:=ADs) ?_ λr hr=>AB hr;refine AW (λs=>0<=s.1/\s.1<=16/\∀j:Fin 16,(j.val:Int)<s.1->s.2 j=((nh 4 (BitVec.ofNat 32 j.val)).toNat:Int)) (λs=>(16-s.1).toNat) ⟨Ae _,g!,λj b=>N! b d!⟩ ?_;rintro⟨h,i⟩ ⟨c,g,d⟩;refine AC (λa=>?_) (λa=>AB λj=>d j (by have:=j.isLt;omega));obtain⟨k,rfl⟩:=Ef c;rw[(by grind[xN,BitVec.toNat_ofNat]:ι .u32 (k:Int)=((BitVec.ofNat 32 k).toNat:Int)),AJc,AD];refine AA (Dc o! o!) λl e=>AA (Dc o! o!) λm f=>AB ?_;grind[AY,XK]
def AFr{t:Fin (15+1)->(Ty.int IntKind.u32).D}(b:ADs t)(c:BitVec 32):G1 t (ι .u32 (((π ((κ 32 (c.toNat:Int))&&&(κ 32 15))):Nat):Int))=Z ((nh 4 (c&&&15#32)).toNat:Int):=by
 rw[bvI,show κ 32 15=15#32 by decide,w32];have a:(c&&&15#32).toNat<16:=by exact Nat.lt_succ_of_le Nat.and_le_right
 unfold G1;rw[dif_pos o!];refine E! Z ((b ⟨(c&&&15#32).toNat,a⟩).trans ?_);grind
def AKI(c:BitVec 32):ι .u32 (((π ((κ 32 (Int.fdiv (c.toNat:Int) (2^(min (ο 4) 32))))^^^(κ 32 ((nh 4 (c&&&15#32)).toNat:Int)))):Nat):Int)=((nh 4 c).toNat:Int):=by rw[fd4,bvI,bvI,AJC,w32]
def ACE:∀(m n:Nat)(c:BitVec 32),nh m (nh n c)=nh (m+n) c
 |0,n,c=>by rw[nh,DZ]
 |m+1,n,c=>by rw[nh,ACE m n,Nat.succ_add];rfl
def yJ{x:BZ}(h:x.length<=2199023255552):Oh x=some (Pq x):=by
 unfold Oh;have⟨t,f,a⟩:=AKY;rw[f,AD];have key:Ap (Aj (U0 x t) (4294967295,0)) λr=>r=((x.foldl jh 4294967295#32).toNat:Int):=by refine AW (λ(s:Int×Int)=>0<=s.2/\s.2<=x.length/\s.1=(((x.take s.2.toNat).foldl jh 4294967295#32).toNat:Int)) (λs=>((x.length:Int)-s.2).toNat) ⟨Ae _,d!,rfl⟩ ?_;rintro⟨i,j⟩ ⟨d,g,e⟩;dsimp only at d g e;subst e;unfold U0;simp only[len];refine AC (λc=>?_) (λc=>AB (by rw[BO o!]));have⟨b,q1,q2⟩:=AFf d c;rw[q1,AD,AEL,AFr a,AD,AD,AKI,AFr a,AD,AD,AKI,AY];refine AB ⟨⟨o!,o!,?_⟩,o!⟩;rw[q2,YN,ACE];rfl
 obtain⟨r,hr,rfl⟩:=key;rw[hr,AD,bvI];rw[show(BitVec.ofInt 32 (if(false=true)then(-1)else(if(false=true)then((2^(32-1))-1)else((2^32)-1))))=4294967295#32 by decide,w32];rfl
def jc(n:Nat):BZ:=ς n 0
def Wv(c:Cj):BZ:=C9 (if c.1=V then(U c.2:Int)else 255) 1++(c.2++jc (12-U c.2))
def cl(a:Gd 16 Cj)(i:Nat):Cj:=(G1 a i).getD (Y,[])
def PB(a:Gd 16 Cj)(k:Nat):BZ:=(List.range k).flatMap λi=>Wv (cl a i)
def LF(x:AT):BZ:=C9 x.2.1 8++(C9 x.1 4++(PB x.2.2 16++jc 24))
def IN(x:AT):BZ:=LF x++(C9 (Pq (LF x)) 4++C9 x.2.1 8)
def mZ{a}{i:Nat}(h:i<16):G1 a (i:Int)=Z (cl a i)/\cl a i=a ⟨i,h⟩:=by
 have e:G1 a (i:Int)=Z (a ⟨i,h⟩):=by unfold G1;rw[dif_pos o!];rfl
 unfold cl;rw[e];exact⟨rfl,rfl⟩
theorem Qv(a:Gd 16 Cj)(k:Nat):PB a (k+1)=PB a k++Wv (cl a k):=by unfold PB;rw[List.range_succ,YM,JS,pu,Do]
def dY{c:Cj}(h:U c.2<=12):(Wv c).length=13:=by unfold Wv jc;rw[Ac,Ac,A2,Hh];omega
def Hg.cl{x}(h:Hg x)(i:Nat):G9 (cl x.2.2 i):=by rcases Ay i 16 with a|a;rw[(mZ a).2];exact(h.2.2.2.2 _).1;unfold Go.Pm.cl G1;rw[dif_neg o!];exact⟨g!,.inr rfl⟩
theorem JT{x:AT}(h:Hg x):∀k:Nat,(PB x.2.2 k).length=13*k
 |0=>rfl
 |k+1=>by rw[Qv,Ac,JT h k,dY (h.cl k).1];omega
def HD{x}(h:Hg x):(LF x).length=244:=by unfold LF jc;simp only[Ac,A2,JT h,Hh]
theorem dZ{x}(h:Hg x):(IN x).length=256:=by unfold IN;simp only[Ac,A2,HD h]
def Uv{x}:(IN x).take 8=C9 x.2.1 8:=by unfold IN LF;rw[A6,G4 (A2 _ _)]
def og{x}(h:Hg x):(IN x).drop 248=C9 x.2.1 8:=by unfold IN;rw[<-A6,pq (by rw[Ac,HD h,A2])]
def mW(n:Nat):E7 (ς n 0)=jc n:=by unfold E7 jc;rw[List.map_replicate];rfl
def yk{x:Int}(h:0<=x/\x<=16777216):HF x=Z (jc (ο x)):=by unfold HF Go.Ab.mk;rw[C! ⟨h.1,Ae _,h.2⟩,AD,mW]
def oF{s:BZ}{n k:Int}(h:U s<=1099511627776)(a:1<=k/\k<=8):Ap (An (s,n,k)) λr=>r=s++C9 n (ο k):=⟨_,IE h a.1 a.2,rfl⟩
def tF{x}(h:Hg x):D6 x=Z 0:=by have⟨a,g,c⟩:=ML (x:=x);have⟨b,i,d⟩:=OG (x:=x);have e:a=V:=c.2 ⟨h.1,h.2.1,h.2.2.1,h.2.2.2.1⟩;have f:b=V:=d.2 h.2.2.2.2;unfold D6;rw[g,e,AD,i,f];rfl
theorem cD{x}(h:Hg x):DF x=Z (IN x,0):=by
 suffices g:Ap (DF x) λr=>r=(IN x,0) by obtain⟨r,hr,rfl⟩:=g;exact hr
 unfold DF;rw[tF h,AD];refine AL (N! rfl ·) λ_=>AA (oF g! g!) λL p=>AA (oF (by rw[p];simp[A2]) g!) λG z=>?_;have w:G=C9 x.2.1 8++C9 x.1 4:=by rw[z,p];rfl
 refine AA (P:=λr=>r=C9 x.2.1 8++(C9 x.1 4++PB x.2.2 16)) ?_ λf d=>?_
 ·refine Ce (λs=>0<=s.2/\s.2<=16/\s.1=C9 x.2.1 8++(C9 x.1 4++PB x.2.2 s.2.toNat)) (λs=>(16-s.2).toNat) ⟨Ae _,u!,by rw[w];simp[PB]⟩ ?_;rintro⟨s,i⟩ ⟨u,C,g⟩;dsimp only at u C g;subst g;unfold Rs;dsimp only;refine AC (λb=>?_) (λb=>k? (by rw[show i.toNat=16 by omega]));have⟨t,K⟩:=mZ (a:=x.2.2) (i:=i.toNat) o!;rw[Ih u]at t;have b:=(h.cl i.toNat).1;simp only[t,AD,AY (x:=i+1)];have J:(C9 x.2.1 8++(C9 x.1 4++PB x.2.2 i.toNat)).length<=300:=by simp only[Ac,A2,JT h];omega
  refine AA (P:=λv=>v=if(cl x.2.2 i.toNat).1=V then((cl x.2.2 i.toNat).2.length:Int)else 255) ?_ λM A=>?_;exact AK (λb=>AB (C! b).symm) (λb=>AB (D! (by rw[b];decide)).symm);refine AA (oF o! g!) λN q=>?_;have y:wi (12-len (cl x.2.2 i.toNat).2)=((12-(cl x.2.2 i.toNat).2.length:Nat):Int):=by rw[AY i!];simp only[len];omega
  rw[y,yk o!,AD,CA];refine AA (CL (by simp only[jc,Hh];omega)) λn c=>?_;have D:U n<=24:=by rw[c.2];simp only[jc,Hh];omega
  refine AA (CL (by rw[q,Ac,A2];simp only[Int.reduceToNat];omega)) λF k=>y! ⟨d!,d!,?_⟩ d!
  dsimp only;rw[k.1,c.1,q,A,show(i+1).toNat=i.toNat+1 by omega,Qv];simp only[Wv,A6,Int.reduceToNat]
 have E:U f=220:=by rw[d];simp only[Ac,A2,JT h]
 rw[show wi (244-len f)=24 by rw[AY i!];simp only[len];omega,yk g!,AD];refine AA (CL (by simp only[jc,Hh,Int.reduceToNat];omega)) λo l=>?_;have j:o=LF x:=by rw[l.1,d];simp only[LF,A6,Int.reduceToNat]
 rw[j,xU (by rw[HD h];decide),AD];have B:=aB (LF x);rw[AY];refine AA (oF (by rw[HD h];decide) g!) λH e=>AA (oF (by rw[e,Ac,HD h,A2];decide) g!) λI m=>AB ?_;rw[m,e];simp only[IN,A6,Int.reduceToNat]
def ACv{c d}(e:G9 c)(f:G9 d)(h:Wv c=Wv d):c=d:=by obtain⟨g,l⟩:=c;obtain⟨i,m⟩:=d;obtain⟨j,b⟩:=Eg h (by rw[A2,A2]);have l1:=e.1;have l2:=f.1;dsimp only at l1 l2;have a:=YC (k:=1) g! ⟨λ_=>by dsimp only;split<;>omega,by dsimp only;split<;>omega,by dsimp only;split<;>omega⟩ ⟨λ_=>by dsimp only;split<;>omega,by dsimp only;split<;>omega,by dsimp only;split<;>omega⟩ j;dsimp only at a b;cases g<;>cases i;have:=e.2;have:=f.2;simp_all;exfalso;simp at a;omega;exfalso;simp at a;omega;simp at a;exact Da rfl (Eg b o!).1
def tn{x y}(a:Hg x)(b:Hg y):∀k:Nat,PB x.2.2 k=PB y.2.2 k->∀i,i<k->cl x.2.2 i=cl y.2.2 i
 |0,_=>λi c=>N! c o!
 |k+1,h=>by rw[Qv,Qv]at h;obtain⟨d,e⟩:=Eg h (by rw[JT a,JT b]);intro i c;by_cases f:i=k;subst f;exact ACv (a.cl i) (b.cl i) e;exact tn a b k d i o!
theorem AEe{x y:AT}(a:Hg x)(b:Hg y)(h:IN x=IN y):x=y:=by obtain⟨h,_⟩:=Eg h (by rw[HD a,HD b]);obtain⟨c,h⟩:=Eg h (by rw[A2,A2]);obtain⟨d,h⟩:=Eg h (by rw[A2,A2]);obtain⟨e,_⟩:=Eg h (by rw[JT a,JT b]);have f:=a.1;have g:=a.2.1;have j:=a.2.2.1;have k:=a.2.2.2.1;have l:=b.1;have m:=b.2.1;have n:=b.2.2.1;have o:=b.2.2.2.1;refine Da (YC (by decide) ⟨λ_=>by omega,by omega,by omega⟩ ⟨λ_=>by omega,by omega,by omega⟩ d) (Da (YC (by decide) ⟨λ_=>by omega,by omega,by omega⟩ ⟨λ_=>by omega,by omega,by omega⟩ c) (funext λi=>?_));have:=tn a b 16 e i.val i.isLt;rw[(mZ i.isLt).2,(mZ i.isLt).2]at this;exact this
def u5{s:BZ}{n k:Int}(h:U s<=1099511627776)(a:1<=k/\k<=8):Og (s,n,k)=Z (s++C9 n (ο k)):=by grind[Og]
theorem ABG{n:Int}(h:0<=n/\n<=8000):LA ([0],n)=Z (jc (ο n)):=by unfold LA;dsimp only;rw[G! h.1,G! h.2];rfl
theorem ABP{n:Int}{k:Nat}(hn:0<=n)(h:n<256^k)(a:n<9223372036854775808):rd (C9 n k)=n:=by unfold rd;grind[sj,Int.emod_eq_of_lt,AY]
def AHG{b:BZ}{c:Cj}(h:U b<=1000)(i:U c.2<=12):Kf b c=Z (b++Wv c):=by
 suffices e:Ap (Kf b c) λr=>r=b++Wv c by obtain⟨r,hr,rfl⟩:=e;exact hr
 unfold Kf;refine AA (P:=λv=>v=if c.1=V then(U c.2:Int)else 255) ?_ λj g=>?_;simp_all[AK,AB];rw[u5 o! g!,AD];refine AA (CL (by rw[Ac,A2];simp[Int.reduceToNat];omega)) λk d=>?_;rw[AY b!,ABG b!,AD];rw[(by simp only[len];omega:(12-len c.2).toNat=12-U c.2)];refine AA (CL (by rw[d.2,Ac,A2];simp[jc,Hh,Int.reduceToNat];omega)) λf a=>AB ?_;grind[Wv,t?,Int.reduceToNat]
def zw{x:Int}(h:0<=x/\x<64):IQ x=Z V:=by grind[IQ]
def ADR{x}(h:Hg x):Wj x=Z V:=by unfold Wj;rw[zw ⟨h.1,h.2.1⟩,AD,G! (show x.2.1>=0 from h.2.2.1),G! h.2.2.2.1];rfl
def AFJ{x}(h:Hg x):U5 x=Z V:=by
 suffices e:Ap (U5 x) λr=>r=V by obtain⟨r,hr,rfl⟩:=e;exact hr
 unfold U5;refine AA (P:=λr=>r=.inr ()) ?_ λr hr=>by rw[hr];exact Ax (AB rfl)
 refine Ce (λs=>0<=s/\s<=16) (λs=>(16-s).toNat) ⟨Ae _,g!⟩ (λs d=>?_);have⟨g,k⟩:=d;unfold im;refine AC (λa=>?_) (λ_=>k? rfl);have i:Ap (Z (Step.next (wi (s+1))):T (Step Int (Bool⊕Unit))) (N2 (λs=>0<=s/\s<=16) (λs=>(16-s).toNat) (16-s).toNat λr=>r=.inr ()):=by grind[AY,y!]
 refine AA (Dc g a) λv f=>?_;have b:=h.2.2.2.2 ⟨s.toNat,o!⟩;rw[<-f]at b;refine AC (λa=>N! a (by have:=b.1.1;simp[len];omega)) (λ_=>AO (λc=>?_) (λj=>?_));refine AL (λhn=>N! (b.1.2.resolve_left (by rw[c];decide)) hn) (λ_=>AK (λa=>by rw[c]at a;cases a) (λ_=>i));simp_all[AK,AP]
def lu{x}(h:Hg x):NI x=Z (IN x,0):=by
 suffices c:Ap (NI x) λr=>r=(IN x,0) by obtain⟨r,hr,rfl⟩:=c;exact hr
 unfold NI;rw[ADR h,AD,AFJ h,AD,B9,A!,A!,u5 g! g!,AD,u5 (by rw[CG,A2];decide) g!,AD];refine AA (P:=λr=>r=C9 x.2.1 8++(C9 x.1 4++PB x.2.2 16)) ?_ λb g=>?_
 ·refine Ce (λs=>0<=s.1/\s.1<=16/\s.2=C9 x.2.1 8++(C9 x.1 4++PB x.2.2 s.1.toNat)) (λs=>(16-s.1).toNat) ⟨Ae _,u!,by simp[PB]⟩ ?_;rintro⟨i,s⟩ ⟨f,m,c⟩;dsimp only at f m c;subst c;unfold dt;dsimp only;refine AC (λk=>?_) (λk=>k? (by rw[show i.toNat=16 by omega]));have⟨e,o⟩:=mZ (a:=x.2.2) (i:=i.toNat) o!;rw[Ih f]at e;rw[e,AD,AHG (by simp[Ac,A2,JT h];omega) (h.cl i.toNat).1,AD,AY (x:=i+1)];refine y! ⟨d!,d!,?_⟩ d!
  dsimp only;rw[show(i+1).toNat=i.toNat+1 by omega,Qv];simp[A6]
 have n:U b=220:=by grind[n?,A2,JT]
 rw[show wi (244-len b)=24 by rw[AY b!];simp[len];omega,ABG g!,AD];refine AA (CL (by simp[jc,Hh,Int.reduceToNat];omega)) λd j=>?_;rw[(by grind[LF,t?,Int.reduceToNat]:d=LF x),yJ (by rw[HD h];decide),AD];have l:=aB (LF x);rw[AY,u5 (by rw[HD h];decide) g!,AD,u5 (by rw[Ac,HD h,A2];decide) g!,AD];grind[AB,IN,t?,Int.reduceToNat]
def tq(a:Gd 16 Cj)(i:Nat):∀k:Nat,i<=k->∃r,PB a k=PB a i++r
 |0,h=>⟨[],by rw[show i=0 by omega];rfl⟩
 |k+1,h=>by by_cases e:i=k+1;exact⟨[],by rw[e,Do]⟩;obtain⟨r,hr⟩:=tq a i k o!;exact⟨r++Wv (cl a k),by rw[Qv,hr,A6]⟩
def wQ{x}(h:Hg x){i:Nat}(a:i<16):∃A r,IN x=A++(Wv (cl x.2.2 i)++r)/\U A=12+13*i:=by have⟨r,hr⟩:=tq x.2.2 (i+1) 16 o!;refine⟨C9 x.2.1 8++(C9 x.1 4++PB x.2.2 i),r++(jc 24++(C9 (Pq (LF x)) 4++C9 x.2.1 8)),?_,by simp[Ac,A2,JT h];omega⟩;grind[IN,LF,Qv,t?]
def ABo{x a:Gd 16 Cj}{i:Int}{c:Cj}(h:∀j:Fin 16,a j=if(j.val:Int)<i then x j else(Y,[]))(e:0<=i/\i<16)(d:∀b,x ⟨ο i,b⟩=c):∀j:Fin 16,XK a i c j=if(j.val:Int)<i+1 then x j else(Y,[]):=by grind[XK,Fin.ext]
def yz{x a:Gd 16 Cj}{i:Int}(h:∀j:Fin 16,a j=if(j.val:Int)<i then x j else(Y,[]))(d:0<=i/\i<16)(c:∀b,x ⟨ο i,b⟩=(Y,[])):∀j:Fin 16,a j=if(j.val:Int)<i+1 then x j else(Y,[]):=by grind[Fin.ext]
def yR{a t:BZ}{n k:Int}(h:(U a:Int)+U t<=2199023255552)(b:1<=k)(d:k<=8)(e:k<=U t)(g:t.take (ο k)=C9 n (ο k))(hn:0<=n)(f:n<256^ο k)(c:n<9223372036854775808):HP (a++t,(U a:Int),k)=Z n:=by grind[HP,YD,p?,ABP]
def AHO{x}(h:Hg x):Ww (IN x)=Z (x,V):=by
 suffices C:Ap (Ww (IN x)) λr=>r=(x,V) by obtain⟨r,hr,rfl⟩:=C;exact hr
 have l:=dZ h;have O:=h.1;have S:=h.2.1;have Q:=h.2.2.1;have T:=h.2.2.2.1;have q1:HP (IN x,8,4)=Z x.1:=by have:=yR (a:=C9 x.2.1 8) (t:=C9 x.1 4++(PB x.2.2 16++(jc 24++(C9 (Pq (LF x)) 4++C9 x.2.1 8)))) (n:=x.1) (k:=4) (by simp only[Ac,A2,JT h,jc,Hh];omega) g! g! (by simp[Ac,A2];omega) (by exact G4 (A2 _ _)) O (by simp[Int.reduceToNat];omega) o!;rw[A2]at this;rw[<-this];simp only[IN,LF,A6];rfl
 have q2:HP (IN x,0,8)=Z x.2.1:=by have:=yR (a:=[]) (t:=IN x) (n:=x.2.1) (k:=8) (by rw[l];decide) g! g! (by rw[l];decide) Uv Q (by simp[Int.reduceToNat];omega) o!;exact this
 unfold Ww;rw[q1,AD,q2,AD];refine AA (P:=λr=>∃z,r=.inr (x,z)) ?_ λr hr=>by obtain⟨z,rfl⟩:=hr;exact Ax (AB rfl)
 refine Ce (λs=>0<=s.1/\s.1<=16/\s.2.1.1=x.1/\s.2.1.2.1=x.2.1/\∀j:Fin 16,s.2.1.2.2 j=if(j.val:Int)<s.1 then x.2.2 j else(Y,[])) (λs=>(16-s.1).toNat) ⟨Ae _,u!,rfl,rfl,λj=>by rw[D! d!];rfl⟩ ?_;rintro⟨i,⟨p,n,a⟩,z⟩ ⟨o,N,G,hn,f⟩;dsimp only at o N G hn f;subst G hn;unfold kS;dsimp only;refine AC (λg=>?_) (λg=>k? ⟨z,?_⟩)
 ·rw[AY (x:=i*13),AY (x:=12+i*13),AY (x:=12+i*13+1),AY (x:=i+1)];have⟨R,m⟩:=mZ (a:=x.2.2) (i:=i.toNat) o!;obtain⟨A,r,B,K⟩:=wQ h (i:=i.toNat) o!;have b:=h.cl i.toNat
  generalize L:cl x.2.2 i.toNat=c at*;have F:U A+(13+U r)=256:=by have:=l;rw[B,Ac,Ac,dY b.1]at this;exact this
  have e:HP (IN x,12+i*13,1)=Z (if c.1=V then(U c.2:Int)else 255):=by have y:=b.1;have:=yR (a:=A) (t:=Wv c++r) (n:=if c.1=V then(U c.2:Int)else 255) (k:=1) (by rw[Ac,dY b.1];omega) g! g! (by rw[Ac,dY b.1];omega) (by unfold Wv;rw[t?];exact List.take_left' (A2 _ _)) (by split<;>omega) (by simp[Int.reduceToNat];split<;>omega) (by split<;>omega);rw[<-B]at this;rw[<-this,K];congr 3;omega
  rw[e,AD];have H:∀q:Gd 16 Cj,(∀j:Fin 16,q j=if(j.val:Int)<i+1 then x.2.2 j else(Y,[]))->Ap (Z (Step.next (i+1,(x.1,x.2.1,q),z)):Ω (Step (Int×AT×AT) ((Bool×AT)⊕(AT×AT)))) (N2 (λs=>0<=s.1/\s.1<=16/\s.2.1.1=x.1/\s.2.1.2.1=x.2.1/\∀j:Fin 16,s.2.1.2.2 j=if(j.val:Int)<s.1 then x.2.2 j else(Y,[])) (λs=>(16-s.1).toNat) (16-i).toNat λr=>∃z,r=.inr (x,z)):=λq w=>y! ⟨d!,d!,rfl,rfl,w⟩ d!
  by_cases d:c.1=V;rw[C! d];have y:=b.1;rw[beq_eq_false_iff_ne.2 o!,A!,F! o!,A!,AY];obtain⟨s,C,D⟩:=Ca (s:=IN x) (lo:=12+i*13+1) (hi:=12+i*13+1+(U c.2:Int)) o! o! (by rw[l];omega);have E:s=c.2:=by
   rw[D.1,B];have I:(12+i*13+1).toNat=U A+1:=o!
   have J:(12+i*13+1+(U c.2:Int)).toNat-(12+i*13+1).toNat=U c.2:=o!
   rw[J,I,<-J5,RS];unfold Wv;rw[C! d,A6,pq (A2 _ _),A6,Ya]
  rw[C,E,AD];have u:∃v,G1 a i=Z v:=by obtain⟨v,m,_⟩:=Dc (a:=a) o g;exact⟨v,m⟩
  have⟨v,u⟩:=u;rw[u,AD,AD,AD,Sum.elim_inl];exact H _ (ABo f ⟨o,g⟩ λM=>m.symm.trans (Da d rfl));rw[D! d,beq_iff_eq.2 rfl,B!,AD,Sum.elim_inl];exact H _ (yz f ⟨o,g⟩ λM=>m.symm.trans (Da (by simpa using d) (b.2.resolve_left d)))
 refine E! Sum.inr (Da (Da rfl (Da rfl (funext λj=>?_))) rfl);exact(f j).trans (C! o!)
theorem AB4{x:AT}(h:Hg x)(hn:x.2.1≠0):IN x≠jc 256:=λe=>hn (by have:=congrArg (List.take 8) e;rw[Uv]at this;have a:=h.2.2.1;have b:=h.2.2.2.1;exact YC (k:=8) (by decide) ⟨λ_=>by omega,by omega,by omega⟩ ⟨λ_=>by omega,by omega,by omega⟩ (this.trans (by decide)))
theorem zp:Xv ()=Z (jc 256):=by grind[Xv,ABG]
theorem ADL{x}(h:Hg x)(hn:x.2.1≠0):P3 (IN x)=Z (x,0):=by
 have b:=dZ h;unfold P3;have⟨m,q1,d⟩:=Ca (s:=IN x) (lo:=0) (hi:=8) g! g! (by rw[b];decide);have⟨j,q2,e⟩:=Ca (s:=IN x) (lo:=248) (hi:=256) g! g! (by rw[b];decide);have⟨l,q3,f⟩:=Ca (s:=IN x) (lo:=0) (hi:=244) g! g! (by rw[b];decide);have g:j=C9 x.2.1 8:=by rw[e.1];show List.take 8 (List.drop 248 (IN x))=_;rw[og h,BO (by rw[A2];exact Al _)]
 have i:l=LF x:=f.1.trans (by show List.take 244 (IN x)=_;unfold IN;exact G4 (HD h));have c:=aB (LF x);have q4:HP (IN x,244,4)=Z (Pq (LF x)):=by have:=yR (a:=LF x) (t:=C9 (Pq (LF x)) 4++C9 x.2.1 8) (n:=Pq (LF x)) (k:=4) (by simp only[Ac,A2,HD h];decide) g! g! (by simp only[Ac,A2];decide) (G4 (A2 _ _)) o! (by simp[Int.reduceToNat];omega) o!;rw[HD h]at this;exact this
 rw[(by simp[len];omega:len (IN x)=256),H!,A!,zp,AD,beq_eq_false_iff_ne.2 (AB4 h hn),A!,q1,AD,q2,AD,d.1.trans Uv,g,H!,A!,q3,AD,i,q4,AD,yJ (by rw[HD h];decide),AD,AY,H!,A!,AHO h,AD,lu h,AD,H!,H!];rfl
def nU(x:AT):BZ:=if x.2.1=0 then jc 256 else IN x
theorem AFD{x}(h:Hg x)(a:x.2.1=0->x=(x.1,0,Gd.all (Y,[]))):Gg (nU x,x.1)=Z (x,0):=by unfold Gg nU;rw[zw ⟨h.1,h.2.1⟩,AD,B9,A!];by_cases hn:x.2.1=0;rw[C! hn];rw[(by grind[P3,jc,List.length_replicate,zp,p?]:P3 (jc 256)=Z ((0,0,Gd.all (Y,[])),7)),AD];exact E! (λq=>Z (q,(0:Int))) (a hn).symm;grind[ADL,p?]
def Ht(p:BZ):BZ:=C9 (U p:Int) 4++(p++C9 (Pq (C9 (U p:Int) 4++p)) 4)
theorem E2(p:BZ):(Ht p).length=U p+8:=by grind[Ht,n?,A2]
theorem cE{p:BZ}(h:U p<=8392):Dh p=Z (Ht p):=by
 unfold Dh;simp only[len];rw[F! o!,A!,IE q! g! g!,AD,CG];have b:(C9 (U p:Int) 4++p).length=U p+4:=by grind[n?,A2]
 rw[(by grind[sapp,A2]:sapp (C9 (U p:Int) (ο 4)) p=Z (C9 (U p:Int) 4++p)),AD,xU o!,AD];have a:=aB (C9 (U p:Int) 4++p);rw[AY,IE o! g! g!,AD,A6];rfl
def UF(al:Nat)(t:BZ):BZ×Int×Int:=
 if U t<4 then([],0,5)else
 if rd (t.take 4)>8392 then([],0,2)else
 if(U t:Int)<rd (t.take 4)+8 then([],0,5)else
 if rd ((t.drop (4+(rd (t.take 4)).toNat)).take 4)≠Pq (t.take (4+(rd (t.take 4)).toNat))then([],0,3)else
 ((t.drop 4).take (rd (t.take 4)).toNat,(al:Int)+8+rd (t.take 4),0)
def rd4{t:BZ}(h:4<=U t):0<=rd (t.take 4)/\rd (t.take 4)<4294967296:=by
 have a:(t.take 4).length=4:=by rw[BQ];omega
 have:=(ABO (l:=t.take 4) o!).1 o!;rw[a]at this;exact this
theorem V9{a t:BZ}(h:(U a:Int)+U t<=2199023255552):CV (a++t,(U a:Int))=Z (UF (U a) t):=by
 have b:len (a++t)=(U a:Int)+U t:=by grind[n?]
 have o:((a++t).length:Int)=(U a:Int)+U t:=b;unfold CV UF;dsimp only;rw[F! o!,A!,F! o!,A!,jf h g! g!];by_cases g:U t<4;rw[D! o!,C! g];rfl;rw[C! o!,D! g,AD,show ο 4=4 from rfl];have⟨p,u⟩:=rd4 (t:=t) o!;generalize hn:rd (t.take 4)=n at*;obtain⟨m,rfl⟩:=Ef p;rw[show((0:Int) !=0)=Y by decide,A!];by_cases d:(m:Int)>8392;rw[G! d,B!,C! d];rw[F! d,A!,D! d,b,AY,AY];by_cases i:(U t:Int)<(m:Int)+8;rw[G! o!,B!,C! i];rw[F! o!,A!,D! i,CA];have f:wi (wi ((U a:Int)+4)+(m:Int))=((a++t.take (4+m)).length:Int):=by rw[AY (x:=(U a:Int)+4),AY,Ac,BQ];omega
 have j:a++t=(a++t.take (4+m))++t.drop (4+m):=by rw[A6,DY]
 have s:((t.drop (4+m)).length:Int)=U t-(4+m):=by rw[DB];omega
 have c:((a++t.take (4+m)).length:Int)=U a+4+m:=by rw[Ac,BQ];omega
 have l:Az (a++t,wi (wi ((U a:Int)+4)+(m:Int)),4)=Z (rd ((t.drop (4+m)).take 4),0):=by
  rw[f];conv=>lhs;rw[j]
  rw[jf o! g! g!,C! o!];rfl
 have q:SL (a++t) (U a:Int) (wi (wi ((U a:Int)+4)+(m:Int)))=Z (t.take (4+m)):=by unfold SL;rw[f,C! o!,c,CA,RS,show((U a:Int)+4+m).toNat-U a=4+m by omega]
 have r:SL (a++t) (wi ((U a:Int)+4)) (wi (wi ((U a:Int)+4)+(m:Int)))=Z ((t.drop 4).take m):=by unfold SL;rw[f,AY (x:=(U a:Int)+4),C! o!,c,show((U a:Int)+4).toNat=U a+4 by omega,YL,WI o!,CG,TS,show((U a:Int)+4+m).toNat-(U a+4)=m by omega]
 rw[l,AD,q,AD,xU (by rw[BQ];omega),AD,r];have⟨q1,q2⟩:=rd4 (t:=t.drop (4+m)) o!;have k:ι .u32 (rd ((t.drop (4+m)).take 4))=rd ((t.drop (4+m)).take 4):=by rw[xN];omega
 rw[k];by_cases e:rd ((t.drop (4+m)).take 4)=Pq (t.take (4+m));rw[D! (by simp[e]),e,H!,A!,AD,AY (x:=(U a:Int)+8),AY];rw[C! e,bne_iff_ne.2 e,B!]
theorem AFC{x:BZ}{i:Int}(a:0<=i)(h:i>U x):Bx (x,i,4)=Z (0,5):=by grind[Bx]
theorem XB{a t:BZ}(h:(U a:Int)+U t<=2199023255552):Dr (a++t,(U a:Int))=Z (UF (U a) t):=by
 have f:len (a++t)=(U a:Int)+U t:=by grind[n?]
 have p:((a++t).length:Int)=(U a:Int)+U t:=f;unfold Dr UF;dsimp only;rw[F! o!,A!,F! o!,A!,YD h g! g!];by_cases i:U t<4;rw[D! o!,C! i];rfl;rw[C! o!,D! i,AD,show ο 4=4 from rfl];have⟨q,w⟩:=rd4 (t:=t) o!;generalize hn:rd (t.take 4)=n at*;obtain⟨m,rfl⟩:=Ef q;rw[show((0:Int) !=0)=Y by decide,A!];by_cases d:(m:Int)>8392;rw[G! d,B!,C! d];rw[F! d,A!,D! d];have k:wi (wi ((U a:Int)+4)+(m:Int))=(U a:Int)+4+m:=by grind[AY]
 by_cases j:(U t:Int)<(m:Int)+8;rw[C! j];have:Bx (a++t,wi (wi ((U a:Int)+4)+(m:Int)),4)=Z (0,5):=by
  rw[k];by_cases v:(U a:Int)+4+m>(a++t).length;grind[AFC];have c:(U a:Int)+4+m=((a++t.take (4+m)).length:Int):=by grind[n?,r?]
  have g:a++t=(a++t.take (4+m))++t.drop (4+m):=by rw[A6,DY]
  grind[List.length_drop,YD]
 rw[this];rfl;rw[D! j,CA];have c:wi (wi ((U a:Int)+4)+(m:Int))=((a++t.take (4+m)).length:Int):=by grind[n?,r?]
 have g:a++t=(a++t.take (4+m))++t.drop (4+m):=by rw[A6,DY]
 have u:((t.drop (4+m)).length:Int)=U t-(4+m):=by rw[DB];omega
 have b:((a++t.take (4+m)).length:Int)=U a+4+m:=by rw[Ac,BQ];omega
 have l:Bx (a++t,wi (wi ((U a:Int)+4)+(m:Int)),4)=Z (rd ((t.drop (4+m)).take 4),0):=by
  rw[c];conv=>lhs;rw[g]
  rw[YD o! g! g!,C! o!];rfl
 have r:SL (a++t) (U a:Int) (wi (wi ((U a:Int)+4)+(m:Int)))=Z (t.take (4+m)):=by unfold SL;rw[c,C! o!,b,CA,RS,show((U a:Int)+4+m).toNat-U a=4+m by omega]
 have s:SL (a++t) (wi ((U a:Int)+4)) (wi (wi ((U a:Int)+4)+(m:Int)))=Z ((t.drop 4).take m):=by unfold SL;rw[c,AY (x:=(U a:Int)+4),C! o!,b,show((U a:Int)+4).toNat=U a+4 by omega,YL,WI o!,CG,TS,show((U a:Int)+4+m).toNat-(U a+4)=m by omega]
 rw[l,AD,show(((rd ((t.drop (4+m)).take 4),(0:Int)):Int×Int).2 !=0)=Y from rfl,A!,r,AD,yJ (by rw[BQ];omega),AD,s];have o:=aB (t.take (4+m));rw[AY (x:=Pq (t.take (4+m)))];by_cases e:rd ((t.drop (4+m)).take 4)=Pq (t.take (4+m));rw[D! (by simp[e]),e,H!,A!,AD,k,AY];refine E! Z (Da rfl (Da ?_ rfl));dsimp only;omega;rw[C! e,bne_iff_ne.2 e,B!]
def yu{a}{t}(h:(UF a t).2.2=0):(UF a t).1.length<=8392/\(∃c,t=Ht (UF a t).1++c)/\(UF a t).2.1=(a:Int)+8+(UF a t).1.length:=by
 unfold UF at h⊢;by_cases j:U t<4;rw[C! j]at h;exact N! h g!;rw[D! j]at h⊢;obtain⟨q,r⟩:=rd4 (t:=t) o!;by_cases k:rd (t.take 4)>8392;rw[C! k]at h;exact N! h g!;rw[D! k]at h⊢;by_cases o:(U t:Int)<rd (t.take 4)+8;rw[C! o]at h;exact N! h g!;rw[D! o]at h⊢;by_cases b:rd ((t.drop (4+(rd (t.take 4)).toNat)).take 4)≠Pq (t.take (4+(rd (t.take 4)).toNat));rw[C! b]at h;exact N! h g!;rw[D! b]at h⊢;have b:=Decidable.not_not.1 b;dsimp only;have e:(t.take 4).length=4:=by rw[BQ];omega
 have g:C9 (rd (t.take 4)) 4=t.take 4:=by have:=yA (l:=t.take 4) o!;rwa [e]at this
 generalize hn:rd (t.take 4)=n at*;obtain⟨m,rfl⟩:=Ef q;rw[CA]at b⊢;have i:((t.drop 4).take m).length=m:=by rw[BQ,DB];omega
 refine⟨o!,?_,o!⟩;have p:t.take (4+m)=C9 (m:Int) 4++(t.drop 4).take m:=by rw[List.take_add,g]
 have f:((t.drop (4+m)).take 4).length=4:=by rw[BQ,DB];omega
 have d:C9 (Pq (t.take (4+m))) 4=(t.drop (4+m)).take 4:=by rw[<-b];have:=yA (l:=(t.drop (4+m)).take 4) o!;rwa [f]at this
 refine⟨t.drop (4+m+4),?_⟩;unfold Ht;rw[i,<-p,d,<-A6,<-p];conv=>lhs;rw[<-DY (4+m) t,<-DY 4 (t.drop (4+m)),J5]
 rw[A6]
theorem mr{c}{p a:BZ}(h:U p<=8392):UF c (Ht p++a)=(p,(c:Int)+8+U p,0):=by
 have d:cF 4 (U p:Int):=⟨λ_=>⟨o!,by rw[show(256:Int)^4=4294967296 by decide];omega⟩,o!⟩
 have e:=aB (C9 (U p:Int) 4++p);have b:cF 4 (Pq (C9 (U p:Int) 4++p)):=⟨λ_=>⟨o!,by rw[show(256:Int)^4=4294967296 by decide];omega⟩,o!⟩
 unfold UF;rw[(by grind[Ht,t?,List.take_left',A2]:(Ht p++a).take 4=C9 (U p:Int) 4),qv g! d,CA,(by grind[Ht,t?,List.take_left',n?,A2]:(Ht p++a).take (4+U p)=C9 (U p:Int) 4++p),(by grind[Ht,t?,List.drop_left',n?,A2]:(Ht p++a).drop (4+U p)=C9 (Pq (C9 (U p:Int) 4++p)) 4++a),(by grind[Ht,t?,List.drop_left',A2]:(Ht p++a).drop 4=p++(C9 (Pq (C9 (U p:Int) 4++p)) 4++a)),(by rw[Ac,(E2 p)]:(Ht p++a).length=U p+8+U a),D! o!,D! o!,D! o!,G4 (A2 _ _),qv g! b,D! q!,G4 rfl]
def CI(b:Ds):Prop:=U b.1<=1099511627776/\0<=b.2.1/\b.2.1<=U b.1
def No{b}{x:Int}(h:CI b)(c:0<=x/\x<=8):Ap (BT b x) λr=>CI r.2/\(x<=4->0<=r.1/\r.1<4294967296):=by
 unfold BT;unfold CI at*
 exact x!
def OI{b}{x:Int}(h:CI b)(d:0<=x/\x<=4294967296):Ap (Cz b x) λr=>CI r.2:=by
 unfold Cz;unfold CI at*
 exact x!
def Wz{b}{x}(h:CI b):Ap (Co b x) λr=>CI r.2:=by
 unfold Co;exact x!
theorem bP{x:BZ}(h:U x<=1099511627776):Ap (EC x) λr=>r.2=0->MI r.1:=by
 unfold EC;have b:CI (x,0,0):=⟨h,q!,q!⟩
 exact x!
def XZ{x:BZ×List Int}{s:BZ×Int}(h:0<=s.2/\s.2<=x.2.length/\x.2.length<=16777216/\x.1.length<=1073741824/\(s.1.length:Int)<=x.1.length+8*s.2):Ap (Aj (LP x) s) λr=>(r.length:Int)<=x.1.length+8*x.2.length:=by
 refine AW (λ(s:BZ×Int)=>0<=s.2/\s.2<=x.2.length/\x.2.length<=16777216/\x.1.length<=1073741824/\(s.1.length:Int)<=x.1.length+8*s.2) (λ(s:BZ×Int)=>((x.2.length:Int)-s.2).toNat) h (λs b=>?_);unfold LP;exact x!
def Zt{x:BZ×S Int}(h:U x.2<=16777216/\U x.1<=1073741824):Ap (H4 x) λr=>(U r:Int)<=U x.1+8*U x.2:=by
 unfold H4;exact x!
def X6{x:List Ai}{s:BZ×Int}(h:0<=s.2/\s.2<=x.length/\cI x/\(s.1.length:Int)<=10+40000*s.2):Ap (Aj (MR x) s) λr=>(r.length:Int)<=10+40000*x.length:=by
 refine AW (λ(s:BZ×Int)=>0<=s.2/\s.2<=x.length/\cI x/\(s.1.length:Int)<=10+40000*s.2) (λ(s:BZ×Int)=>((x.length:Int)-s.2).toNat) h (λs c=>?_);unfold MR;have⟨e,f,⟨b,a⟩,g⟩:=c;repeat' with_reducible first|intro d|apply AC|apply AK|apply AB|(refine AM ?_ (Di ?_);intro r hr)|(refine AM ?_ (Zt ?_);intro r hr)|(refine AM ?_ (AJ ?_ ?_);rintro r ⟨hr,i⟩)
 all_goals try (have j:=a _ _ v!)
 all_goals try unfold VTx at*
 all_goals dsimp[len]at*
 all_goals first|omega|(refine⟨⟨?_,?_,⟨b,a⟩,?_⟩,?_⟩<;>(simp (disch:=omega) only[AY];omega))|grind
def Sw{x}:Ap (Kv x) λr=>U r.1<=16777216:=by
 unfold Kv;exact x!
def CJ(b:B6):Prop:=U b.1<=1099511627776/\0<=b.2.1/\b.2.1<=U b.1
def GS{b}{x:Int}(h:CJ b)(c:0<=x/\x<=8):Ap (Cf b x) λr=>CJ r.2/\(x<=2->0<=r.1/\r.1<65536):=by
 unfold Cf;unfold CJ at*
 exact x!
def U9  {s:Int×List Int×B6}(h:0<=s.1/\s.1+s.2.1.length<=65536/\CJ s.2.2):Ap (Aj (JV) s) λr=>CJ r.2/\r.1.length<=65536:=by
 refine AW (λ(s:Int×List Int×B6)=>0<=s.1/\s.1+s.2.1.length<=65536/\CJ s.2.2) (λ(s:Int×List Int×B6)=>s.1.toNat) h (λs c=>?_);unfold JV;exact x!
def W5{b}{x:Int}(h:CJ b)(a:0<=x/\x<=2):Ap (GM b x) λr=>CJ r.2:=by
 unfold GM;exact x!
def X5  {s:Int×List Ai×B6}(h:0<=s.1/\s.1+s.2.1.length<=65536/\CJ s.2.2):Ap (Aj (MQ) s) λr=>CJ r.2/\r.1.length<=65536:=by
 refine AW (λ(s:Int×List Ai×B6)=>0<=s.1/\s.1+s.2.1.length<=65536/\CJ s.2.2) (λ(s:Int×List Ai×B6)=>s.1.toNat) h (λs c=>?_);unfold MQ;exact x!
def Sv{x:BZ}(h:U x<=1099511627776):Ap (Ku x) λr=>U r.1<=65536/\(r.2=0->cI r.1):=by
 unfold Ku;have b:CJ (x,0,Y):=⟨h,q!,q!⟩
 exact x!
def X4{x:Bt}{s:BZ×Int}(h:0<=s.2/\s.2<=x.length/\x.length<=64/\(s.1.length:Int)<=10+24*s.2):Ap (Aj (Ix x) s) λr=>r.length<=2000:=by
 refine AW (λ(s:BZ×Int)=>0<=s.2/\s.2<=x.length/\x.length<=64/\(s.1.length:Int)<=10+24*s.2) (λ(s:BZ×Int)=>((x.length:Int)-s.2).toNat) h (λs b=>?_);unfold Ix;exact x!
def Su{x}:Ap (IY x) λr=>U r.1<=2000:=by
 unfold IY;exact x!
def X3{x:BZ}{a:Int×Int}{s:Int×List Bk}(h:0<=s.1/\s.1<=a.1/\a.1<=65536/\x.length<=1099511627776/\s.2.length<=s.1):Ap (Aj (Iw x a) s) λr=>r.length<=65536:=by
 refine AW (λ(s:Int×List Bk)=>0<=s.1/\s.1<=a.1/\a.1<=65536/\x.length<=1099511627776/\s.2.length<=s.1) (λ(s:Int×List Bk)=>(a.1-s.1).toNat) h (λs d=>?_);unfold Iw;exact x!
def Ss{x:BZ}(h:U x<=1099511627776):Ap (En x) λr=>(r.2=0->ms r.1)/\U r.1<=65536:=by
 unfold En;exact x!
def Q5{x:Cb}{s:Int}(h:0<=s/\s<=x.2.2.1.length/\(x.2.2.1.length:Int)<=16777216):Ap (Aj (Ng x) s) λr=>r≠ .inl true:=by
 refine AW (λ(s:Int)=>0<=s/\s<=x.2.2.1.length/\(x.2.2.1.length:Int)<=16777216) (λ(s:Int)=>((x.2.2.1.length:Int)-s).toNat) h (λs b=>?_);unfold Ng;exact x!
def tO(x:Cb):Prop:=1<=x.1/\x.1<=64/\cI x.2.2.1/\ms x.2.2.2.2/\U x.2.2.2.2=x.1
def OS{x:Cb}(h:U x.2.2.2.1<=16777216):Ap (HJ x) λr=>r=V->tO x:=by
 unfold HJ tO
 exact x!
def X9{x:Cb}{s:BZ×Int}(h:0<=s.2/\s.2<=x.2.2.2.1.length/\x.2.2.2.1.length<=16777216/\(s.1.length:Int)<=100000000+24*s.2):Ap (Aj (Iz x) s) λr=>r.length<=1073741824:=by
 refine AW (λ(s:BZ×Int)=>0<=s.2/\s.2<=x.2.2.2.1.length/\x.2.2.2.1.length<=16777216/\(s.1.length:Int)<=100000000+24*s.2) (λ(s:BZ×Int)=>((x.2.2.2.1.length:Int)-s.2).toNat) h (λs b=>?_);unfold Iz;exact x!
def bf{x:Cb}(h:U x.2.2.2.1<=16777216):Ap (Gt x) λr=>U r.1<=2147483648:=by
 unfold Gt;exact x!
def Ut(c:Cj):BZ:=bif c.1 then C9 (U c.2:Int) 1++c.2 else C9 255 1
def By(e:AE):BZ:=
 C9 e.1 8++(C9 e.2.1 1++(C9 e.2.2.1 4++(C9 e.2.2.2.1 8++(C9 e.2.2.2.2.1 8++(C9 e.2.2.2.2.2.1 8++(C9 e.2.2.2.2.2.2.1.1 4++(C9 e.2.2.2.2.2.2.1.2.1 1++
 (Ut e.2.2.2.2.2.2.1.2.2.1++(Ut e.2.2.2.2.2.2.1.2.2.2++(C9 (U e.2.2.2.2.2.2.2:Int) 4++e.2.2.2.2.2.2.2))))))))))
theorem kI{c}(h:G9 c):(Ut c).length<=13:=by
 unfold Ut;cases c.1 with
 |true=>rw[B!,Ac,A2];have:=h.1;omega
 |false=>grind[A2]
def ABu{s:BZ}{c:Cj}(h:U s<=1099511627776)(a:U c.2<=8192):GZ (s,c)=Z (s++Ut c):=by grind[GZ,Ut,Bool.not_false,IE,Bool.not_true,sapp,C9,ο,n?,A2,t?]
def MI.cells{e}(h:MI e):G9 e.2.2.2.2.2.2.1.2.2.1/\G9 e.2.2.2.2.2.2.1.2.2.2/\U e.2.2.2.2.2.2.2<=8192/\cF 8 e.1/\cF 1 e.2.1/\cF 4 e.2.2.1/\cF 8 e.2.2.2.1/\cF 8 e.2.2.2.2.1/\cF 8 e.2.2.2.2.2.1/\cF 4 e.2.2.2.2.2.2.1.1/\cF 1 e.2.2.2.2.2.2.1.2.1:=by
 have⟨a1,a2,a3,a4,a5,a6,a7,a8,j⟩:=h;have k:∀n:Int,0<=n->n<=1099511627776->cF 8 n:=λn l m=>⟨n!,o!⟩
 have p:∀n:Int,0<=n->n<=1073741824->cF 4 n:=λn l m=>⟨λ_=>by rw[show(256:Int)^4=4294967296 by decide];omega,o!⟩
 have o:∀n:Int,0<=n->n<=255->cF 1 n:=λn l m=>⟨λ_=>by rw[show(256:Int)^1=256 by decide];omega,o!⟩
 have z:G9 (Y,[]):=⟨g!,.inr rfl⟩
 refine and_assoc.1 (and_assoc.1 ⟨?_,k _ o! o!,?_⟩);rcases j with⟨k1,f,d,g,c,a⟩|⟨k1,f,d,g,c,a,i,b⟩|⟨k1,f,d,g,c,a,i,b⟩|⟨k1,f,d,g,c,a,i⟩|j;exact⟨⟨a.2.2.2.2.1,a.2.2.2.2.2⟩,by rw[d];decide⟩;exact⟨⟨b.2.2.2.2.1,b.2.2.2.2.2⟩,by rw[c];decide⟩;rw[c,a];exact⟨⟨z,z⟩,g!⟩;rw[a];exact⟨⟨z,z⟩,i⟩;have⟨k1,f,d,g,c,a,i,b⟩:=j;rw[i,b];exact⟨⟨z,z⟩,g!⟩;have q:1<=e.2.1/\e.2.1<=8/\0<=e.2.2.1/\e.2.2.1<=1073741824/\0<=e.2.2.2.2.2.2.1.1/\e.2.2.2.2.2.2.1.1<64/\0<=e.2.2.2.2.2.2.1.2.1/\e.2.2.2.2.2.2.1.2.1<16:=by rcases j with⟨k1,f,d,g,c,a⟩|⟨k1,f,d,g,c,a,i,b⟩|⟨k1,f,d,g,c,a,i,b⟩|⟨k1,f,d,g,c,a,i⟩|j;have:=a.1;have:=a.2.1;have:=a.2.2.1;have:=a.2.2.2.1;omega;have:=b.1;have:=b.2.1;have:=b.2.2.1;have:=b.2.2.2.1;omega;grind[QL];grind[QL];grind[QL]
 exact⟨o _ o! o!,p _ o! o!,k _ o! o!,k _ o! o!,k _ o! o!,p _ o! o!,o _ o! o!⟩
theorem Sf{e}(h:MI e):(By e).length<=8392:=by have⟨a,b,c,_⟩:=h.cells;grind[kI,By,n?,A2]
theorem rC{e}(h:MI e):Fo e=Z (By e,0):=by have⟨c,d,i,_⟩:=h.cells;have l1:=kI c;have l2:=kI d;have⟨b,f,g⟩:=CC (x:=e);have a:b=V:=g.2 h;subst a;unfold Fo;rw[f,AD,B9,A!];rw[IE q! g! g!,AD,CG];rw[IE (by simp only[Ac,A2];simp only[Int.reduceToNat];omega) g! g!,AD];rw[IE (by simp only[Ac,A2];simp only[Int.reduceToNat];omega) g! g!,AD];rw[IE (by simp only[Ac,A2];simp only[Int.reduceToNat];omega) g! g!,AD];rw[IE (by simp only[Ac,A2];simp only[Int.reduceToNat];omega) g! g!,AD];rw[IE (by simp only[Ac,A2];simp only[Int.reduceToNat];omega) g! g!,AD];rw[IE (by simp only[Ac,A2];simp only[Int.reduceToNat];omega) g! g!,AD];rw[IE (by simp only[Ac,A2];simp only[Int.reduceToNat];omega) g! g!,AD];rw[ABu (by simp only[Ac,A2];simp only[Int.reduceToNat];omega) (by have:=c.1;omega),AD];rw[ABu (by simp only[Ac,A2];simp[Int.reduceToNat];omega) (by have:=d.1;omega),AD];rw[IE (by simp only[Ac,A2];simp[Int.reduceToNat];omega) g! g!,AD];unfold sapp;rw[C! (by simp only[Ac,A2];simp[Int.reduceToNat];omega),AD];simp[A6];rfl
def CS(x p:BZ)(c:BZ×Int×Int):Prop:=c.1=x/\(c.2.2=0->∃rest,x=p++rest/\c.2.1=U p)
def tJ{t:BZ}{k:Nat}(h:k<=U t)(a:k<=8):cF k (rd (t.take k))/\C9 (rd (t.take k)) k=t.take k:=by grind[r?,ABO,yA]
def bw{x p}{c}{k:Nat}(h:CS x p c)(o:U x<=1099511627776)(q:1<=k)(m:k<=8):Ap (BT c (k:Int)) λr=>CS x (p++C9 r.1 k) r.2/\(r.2.2.2=0->cF k r.1)/\(c.2.2≠0->r=(0,c)):=by have⟨s,l,e⟩:=c;have⟨g,i⟩:=h;dsimp only at g i;subst g;unfold BT;refine AL (λd=>AB ⟨⟨rfl,λb=>N! b d⟩,λb=>N! b d,λ_=>rfl⟩) (λd=>?_);dsimp only at d;subst d;have⟨a,hr,n⟩:=i rfl;subst hr n;rw[Ac]at o;rw[jf o! o! o!];by_cases j:(k:Int)<=U a;rw[C! j,AD,CA];have⟨q1,q2⟩:=tJ (t:=a) (k:=k) o! m;rw[show((0:Int) !=0)=Y by decide,A!];refine AB ⟨⟨rfl,λ_=>⟨a.drop k,?_,?_⟩⟩,λ_=>q1,λf=>N! rfl f⟩;grind[t?,List.take_append_drop];grind[AY,n?,A2];rw[D! j,AD];rw[show((5:Int) !=0)=V by decide,B!];exact AB ⟨⟨rfl,λb=>N! (show(5:Int)=0 from b) g!⟩,λb=>N! (show(5:Int)=0 from b) g!,λf=>N! rfl f⟩
def AFT{x p}{c}{n:Int}(h:CS x p c)(k:U x<=1099511627776)(hn:c.2.2=0->0<=n/\n<4294967296):Ap (Cz c n) λr=>CS x (p++r.1) r.2/\(r.2.2.2=0->(U r.1:Int)=n/\c.2.2=0):=by have⟨s,g,e⟩:=c;have⟨d,f⟩:=h;dsimp only at d f hn;subst d;unfold Cz;by_cases j:e=0;subst j;have⟨a,hr,i⟩:=f rfl;have⟨l,q⟩:=hn rfl;subst hr i;obtain⟨m,rfl⟩:=Ef l;rw[Ac]at k;rw[show((0:Int) !=0)=Y by decide,A!];simp only[len];rw[show wi (((p++a).length:Int)-(U p:Int))=U a by rw[Ac,AY];omega];by_cases o:(m:Int)<=U a;rw[F! o!,A!];rw[(by grind[AY,SL,n?,List.drop_left]:SL (p++a) (wi (wi ((U p:Int)+(m:Int))-(m:Int))) (wi ((U p:Int)+(m:Int)))=Z (a.take m)),AD];refine AB ⟨⟨rfl,λ_=>⟨a.drop m,?_,?_⟩⟩,λ_=>⟨?_,by first|rfl|trivial⟩⟩;grind[t?,List.take_append_drop];grind[AY,n?,r?];grind[r?];rw[G! o!,B!];exact AB ⟨⟨rfl,λb=>N! (show(5:Int)=0 from b) g!⟩,λb=>N! (show(5:Int)=0 from b) g!⟩;grind[AB]
def AFQ{x p}{c}(h:CS x p c)(i:U x<=1099511627776):Ap (Co c ()) λr=>CS x (p++Ut r.1) r.2/\(r.2.2.2=0->G9 r.1):=by unfold Co;refine AA (bw (k:=1) h i g! g!) λv n=>?_;have⟨⟨f,j⟩,q,y⟩:=n;refine AL (λd=>AB ⟨⟨f,λb=>N! b d⟩,λb=>N! b d⟩) (λd=>?_);have⟨e,hr,g⟩:=j d;have m:=(q d).1 g!;rw[show(256:Int)^1=256 by decide]at m;refine AP (λa=>AB ⟨⟨f,λ_=>⟨e,?_,?_⟩⟩,λ_=>⟨BR _,.inr rfl⟩⟩) (λa=>?_);dsimp only;rw[a]at hr;exact hr;dsimp only;rw[a]at g;exact g;refine AC (y? ⟨⟨f,λb=>N! (show(4:Int)=0 from b) g!⟩,λb=>N! (show(4:Int)=0 from b) g!⟩) (λl=>?_);refine AA (AFT (x:=x) (p:=p++C9 v.1 1) ⟨f,j⟩ i (λ_=>o!)) λw o=>AB ?_;have⟨⟨s,z⟩,t⟩:=o;refine⟨⟨s,λb=>?_⟩,λb=>?_⟩;grind[Ut,C9,t?];dsimp only at b⊢;have⟨u,_⟩:=t b;exact⟨d!,.inl rfl⟩
def ZM{x p a:BZ}{n}{k}(e:x=p++(C9 n k++a))(d:U x<=1099511627776)(b:1<=k)(c:k<=8)(hn:cF k n):BT (x,(U p:Int),0) (k:Int)=Z (n,x,((p++C9 n k).length:Int),0):=by grind[U,n?,A2,BT,jf,s?,List.take_left',qv,AY]
theorem AFS{x p w a:BZ}(c:x=p++(w++a))(d:U x<=1099511627776):Cz (x,(U p:Int),0) (U w:Int)=Z (w,x,((p++w).length:Int),0):=by
 have b:=E! U c;simp[Ac]at b;unfold Cz;dsimp only;rw[show((0:Int) !=0)=Y by decide,A!];simp only[len];rw[show τ ((U w:Int)>wi ((U x:Int)-(U p:Int)))=Y from F! (by rw[AY];omega),A!];have e:SL x (wi (wi ((U p:Int)+(U w:Int))-(U w:Int))) (wi ((U p:Int)+(U w:Int)))=Z w:=by rw[AY (x:=(U p:Int)+(U w:Int)),AY];unfold SL;rw[C! o!,c,show((U p:Int)+(U w:Int)-(U w:Int)).toNat=U p by omega,RS,show((U p:Int)+(U w:Int)).toNat-U p=U w by omega,Ya]
 grind[AY,n?]
def AFP{x p a:BZ}{c}(e:x=p++(Ut c++a))(i:U x<=1099511627776)(k:G9 c):Co (x,(U p:Int),0) ()=Z (c,x,((p++Ut c).length:Int),0):=by
 have⟨b,d⟩:=c;have⟨j,f⟩:=k;dsimp only at j f;unfold Co;cases b with
 |false=>
  have l:d=[]:=by rcases f with h|h;cases h;exact h
  subst l;rw[(rfl:Ut (Y,[])=C9 255 1)]at e⊢;rw[show(1:Int)=((1:Nat):Int)from rfl,ZM e i g! g! ⟨λ_=>g!,g!,g!⟩];rfl
 |true=>have g:Ut (V,d)=C9 (U d:Int) 1++d:=rfl;rw[g,A6]at e;rw[g];rw[show(1:Int)=((1:Nat):Int)from rfl,ZM e i g! g! ⟨λ_=>by rw[show(256:Int)^1=256 by decide];omega,o!⟩,AD];grind[AFS,t?]
def AJZ{x:BZ}(a:U x<=1099511627776):Ap (EC x) λr=>r.2=0->x=By r.1/\G9 r.1.2.2.2.2.2.2.1.2.2.1/\G9 r.1.2.2.2.2.2.2.1.2.2.2/\cF 4 (U r.1.2.2.2.2.2.2.2:Int)/\Cs r.1=Z V:=by
 unfold EC;have I:CS x [] (x,0,0):=⟨rfl,λ_=>⟨x,rfl,rfl⟩⟩
 refine AA (bw (k:=8) I a g! g!) λO y=>AA (bw (k:=1) y.1 a g! g!) λP z=>AA (bw (k:=4) z.1 a g! g!) λQ A=>AA (bw (k:=8) A.1 a g! g!) λR B=>AA (bw (k:=8) B.1 a g! g!) λ_ C=>AA (bw (k:=8) C.1 a g! g!) λ_ D=>AA (bw (k:=4) D.1 a g! g!) λ_ E=>AA (bw (k:=1) E.1 a g! g!) λ_ F=>EA (AFQ F.1 a) λq M o=>EA (AFQ o.1 a) λs w p=>AA (bw (k:=4) p.1 a g! g!) λj b=>AA (AFT (n:=j.1) b.1 a (λc=>?_)) λJ f=>?_;have:=(b.2.1 c).1 g!;rw[show(256:Int)^4=4294967296 by decide]at this;exact this;refine AL (λh=>AB λc=>N! c h) (λh=>AL (y? n!) (λG=>EA (CC) λK i _=>AO (y? n!) (λH=>AB λ_=>?_)));subst H;obtain⟨q11,d⟩:=f.2 h;have l:s.2.2.2=0:=Tp λe=>by have:=b.2.2 e;rw[this]at d;exact e d
 have u:=p.2 l;have L:q.2.2.2=0:=Tp λe=>by
  have:s=((Y,[]),q.2):=by have:=w;unfold Co BT at this;rw[bne_iff_ne.2 e,B!,AD,bne_iff_ne.2 e,B!]at this;injection this with this;exact this.symm
  rw[this]at l;exact e l
 have t:=o.2 L;obtain⟨g,m,N⟩:=f.1.2 h;have hr:g=[]:=by simp only[len]at G;have v:=E! U m;rw[Ac]at v;exact Eh o!
 subst hr;refine⟨?_,t,u,?_,i⟩;rw[m];unfold By;dsimp only;rw[q11];simp only[A6,CG,Do];dsimp only;rw[q11];exact b.2.1 d
def AFR{e}(h:MI e):EC (By e)=Z (e,0):=by
 obtain⟨s,t,H,w,y,z,A,B,C,D,E⟩:=h.cells;have I:=Sf h;have g:cF 4 (U e.2.2.2.2.2.2.2:Int):=⟨λ_=>by rw[show(256:Int)^4=4294967296 by decide];omega,o!⟩
 have a:By e=[]++(C9 e.1 8++(C9 e.2.1 1++(C9 e.2.2.1 4++(C9 e.2.2.2.1 8++(C9 e.2.2.2.2.1 8++(C9 e.2.2.2.2.2.1 8++(C9 e.2.2.2.2.2.2.1.1 4++(C9 e.2.2.2.2.2.2.1.2.1 1++
 (Ut e.2.2.2.2.2.2.1.2.2.1++(Ut e.2.2.2.2.2.2.1.2.2.2++(C9 (U e.2.2.2.2.2.2.2:Int) 4++(e.2.2.2.2.2.2.2++[])))))))))))):=by rw[Do];rfl
 generalize By e=x at*;have i:BT (x,((0:Int)),0) 8=_:=ZM (p:=[]) (k:=8) a o! g! g! w;rw[CG]at i;rw[CG]at a;have j:=ZM (k:=1) a o! g! g! y;rw[<-A6]at a;have l:=ZM (k:=4) a o! g! g! z;rw[<-A6]at a;have m:=ZM (k:=8) a o! g! g! A;rw[<-A6]at a;have n:=ZM (k:=8) a o! g! g! B;rw[<-A6]at a;have o:=ZM (k:=8) a o! g! g! C;rw[<-A6]at a;have q:=ZM (k:=4) a o! g! g! D;rw[<-A6]at a;have r:=ZM (k:=1) a o! g! g! E;rw[<-A6]at a;have F:=AFP a o! s;rw[<-A6]at a;have G:=AFP a o! t;rw[<-A6]at a;have c:=ZM (k:=4) a o! g! g! g;rw[<-A6]at a;have d:=AFS a o!;rw[Do]at a;rw[<-a]at d;unfold EC;rw[i,AD];rw[show((1:Nat):Int)=1 from rfl]at j r;rw[show((4:Nat):Int)=4 from rfl]at l q c;rw[show((8:Nat):Int)=8 from rfl]at m n o;rw[j,AD,l,AD,m,AD,n,AD,o,AD,q,AD,r,AD,F,AD,G,AD,c,AD,d,AD];obtain⟨b,u,v⟩:=CC (x:=e);have f:b=V:=v.2 h;subst f;dsimp only[len];rw[show((0:Int) !=0)=Y by decide,A!,H!,A!];rw[show(e.1,e.2.1,e.2.2.1,e.2.2.2.1,e.2.2.2.2.1,e.2.2.2.2.2.1,(e.2.2.2.2.2.2.1.1,e.2.2.2.2.2.2.1.2.1,e.2.2.2.2.2.2.1.2.2.1,e.2.2.2.2.2.2.1.2.2.2),e.2.2.2.2.2.2.2)=e from rfl,u,AD,B9,A!]
def Kp(l:S AE):BZ:=(l.map λe=>Ht (By e)).flatten
theorem Sh(l:S AE)(e:AE):Kp (l++[e])=Kp l++Ht (By e):=by unfold Kp;grind
theorem ov(e:AE)(l:S AE):Kp (e::l)=Ht (By e)++Kp l:=rfl
def se{l:S AE}(h:∀e∈l,MI e):(Kp l).length<=8400*U l:=by
 induction l with
 |nil=>exact Al _
 |cons e r b=>have c:=b λx a=>h x (Aw.2 (.inr a));have d:=Sf (h e (Aw.2 (.inl rfl)));rw[ov,Ac,E2,BY];omega
def ADA{x p a:BZ}{at_:Int}{k:Nat}(c:x=p++a)(e:at_=U p)(i:U x≤1099511627776)(h:1≤k)(f:k≤8)(g:k≤U a):
  ∃n b,Az (x,at_,(k:Int))=Z (n,0)/\Bx (x,at_,(k:Int))=Z (n,0)/\x=(p++C9 n k)++b/\cF k n/\U b+k=U a:=by
 have d:=E! U c;rw[Ac]at d;obtain⟨q1,q2⟩:=tJ (t:=a) g f;refine⟨rd (a.take k),a.drop k,?_,?_,?_,q1,?_⟩;rw[c,e,jf o! o! o!,C! o!,CA];rw[c,e,YD o! o! o!,C! o!,CA];rw[q2,A6,DY];exact c;rw[DB];omega
def kZ{x p rest:BZ}{at_ n:Int}{k}(a:x=p++(C9 n k++rest))(d:at_=U p)(f:U x≤1099511627776)(e:1≤k)(c:k≤8)(hn:cF k n):
  Az (x,at_,(k:Int))=Z (n,0)/\Bx (x,at_,(k:Int))=Z (n,0):=by
 have b:=E! U a;simp only[Ac,A2]at b;refine⟨?_,?_⟩;rw[a,d,jf (by rw[Ac,A2];omega) o! o!,C! (by rw[Ac,A2];omega),CA,G4 (A2 _ _),qv c hn];rw[a,d,YD (by rw[Ac,A2];omega) o! o!,C! (by rw[Ac,A2];omega),CA,G4 (A2 _ _),qv c hn]
def Zn{x:List Av×Int×Bool×Cu}{s:Int×List Av}(h:0<=s.1/\s.1<=x.1.length/\x.1.length<=16777216/\s.2.length<=s.1):Ap (Aj (OO x) s) λr=>r.length<=x.1.length:=by
 refine AW (λ(s:Int×List Av)=>0<=s.1/\s.1<=x.1.length/\x.1.length<=16777216/\s.2.length<=s.1) (λ(s:Int×List Av)=>((x.1.length:Int)-s.1).toNat) h (λs b=>?_);unfold OO;exact x!
def Ks{x:S Av×Int×Bool×Cu}(h:U x.1<=16777216):Ap (Gb x) λr=>U r<=U x.1:=by
 unfold Gb;exact x!
def Zk{x:BC×Int}{s:Int}(h:0<=s/\s<=x.1.1.length/\(x.1.1.length:Int)<=16777216/\0<=x.2/\x.2<x.1.2.length):Ap (Aj (OK x) s) λr=>True:=by
 refine AW (λ(s:Int)=>0<=s/\s<=x.1.1.length/\(x.1.1.length:Int)<=16777216/\0<=x.2/\x.2<x.1.2.length) (λ(s:Int)=>((x.1.1.length:Int)-s).toNat) h (λs a=>?_);unfold OK;exact x!
def Zl{x:BC×Int}{s:Int}(h:0<=s/\s<=x.2/\(x.2:Int)<=16777216/\0<=x.2/\x.2<U x.1.2):Ap (Aj (OL x) s) λr=>True:=by
 refine AW (λs=>0<=s/\s<=x.2/\(x.2:Int)<=16777216/\0<=x.2/\x.2<U x.1.2) (λs=>((x.2:Int)-s).toNat) h (λs a=>?_);unfold OL;exact x!
def gg{x:BC×Int}(h:U x.1.1<=4096/\U x.1.2<=4096)(b:0<=x.2/\x.2<U x.1.2):Ap (Mp x) λr=>True:=by
 unfold Mp;exact x!
def Zm{x:List Av×Av}{s:Bool×Int×List Av}(h:0<=s.2.1/\s.2.1<=x.1.length/\x.1.length<=4096/\s.2.2.length<=s.2.1+1/\(s.1=false->(s.2.2.length:Int)<=s.2.1)):Ap (Aj (ON x) s) λr=>r.2.length<=x.1.length+1/\(r.1=false->r.2.length<=x.1.length):=by
 refine AW (λ(s:Bool×Int×List Av)=>0<=s.2.1/\s.2.1<=x.1.length/\x.1.length<=4096/\s.2.2.length<=s.2.1+1/\(s.1=false->(s.2.2.length:Int)<=s.2.1)) (λ(s:Bool×Int×List Av)=>((x.1.length:Int)-s.2.1).toNat) h (λs c=>?_);unfold ON;repeat' with_reducible first|intro a|apply AC|apply AO|apply AL|(apply BL;try dsimp only)|apply Bp|apply B8|apply AB|(apply AA (U7);intro r hr)|(refine AM ?_ (AJ ?_ ?_);rintro r ⟨hr,f⟩)|(refine AM ?_ (Aa ?_);rintro r ⟨hr,d,b⟩)
 all_goals try (have e:=AY (x:=s.2.1+1))
 all_goals (first|omega|grind)
def gh{x:S Av×Av}(h:U x.1<=4096):Ap (Mq x) λr=>U r<=U x.1+1:=by
 unfold Mq;exact x!
def X0{B:Nat}(i:B<=2000){s:Int×BC}(h:0<=s.1/\s.1<=s.2.2.length/\s.2.1.length+s.2.2.length<=B):Ap (Aj Ru s) λr=>r.1.length+r.2.length<=B:=by refine AW (λs=>0<=s.1/\s.1<=s.2.2.length/\s.2.1.length+s.2.2.length<=B) (λs=>s.2.2.length*3000+((s.2.2.length:Int)-s.1).toNat) h (λs d=>?_);have⟨b,e,c⟩:=d;refine AC (λa=>?_) (λa=>AB c);simp[len]at a;refine AA (gg d! ⟨b,a⟩) λv _=>AA (P:=λv:Int×BC=>(v=s)\/(v.1= -1/\v.2.1.length<=s.2.1.length+1/\v.2.2.length+1=s.2.2.length)) ?_ λm g=>?_;refine AK (λ_=>?_) (y? (.inl rfl));refine AA (AJ b a) λj _=>AA (gh d!) λk c=>AA (Bg o! b) λl f=>?_;grind[AY,AA,Bg,Aa,AB];grind[AB,AY]
def Jh{B:Nat}{x:BC}(a:B<=2000)(h:U x.1+U x.2<=B):Ap (Fp x) λr=>U r.1+U r.2<=B:=by exact AA (X0 a ⟨q!,q!,h⟩) λr hr=>AB hr
theorem GV.of{x:BC}{B:Nat}(a:B<=2000)(h:x.1.length+x.2.length<=B):GV x:=⟨by omega,by omega⟩
def GV.nil:GV (([],[]):BC):=⟨q!,q!⟩
def MN{x:BC×Int}(h:GV x.1):Ap (Hy x) λr=>GV r:=by refine AA (EW h) λv d=>AO (y? h) (λc=>?_);have g:=d c;refine AA (Ks h.1) λa e=>AA (Ks h.2) λb f=>AA (Jh (B:=1024) g! ?_) λr hr=>AB (GV.of g! hr);grind[aR]
def bS{x:BC×Int}(h:GV x.1):Ap (PJ x) λr=>GV r:=by refine AA (EW h) λv c=>AO (y? h) (λa=>?_);have e:=c a;refine AA (Ks h.2) λb d=>AA (Jh (B:=1024) g! ?_) λr hr=>AB (GV.of g! hr);grind[aR]
def U6{x:BC×Int×Cu}(h:GV x.1):Ap (Mo x) λr=>GV r:=by refine AA (EW h) λv c=>AO (y? h) (λa=>?_);have e:=c a;refine AA (Ks h.1) λb d=>AA (Jh (B:=1024) g! ?_) λr hr=>AB (GV.of g! hr);grind[aR]
def XX{x:BC×Int}{s:Int×Av}(h:0<=s.1/\s.1<=x.1.2.length/\x.1.2.length<=16777216):Ap (Aj (LN x) s) λr=>True:=by
 refine AW (λ(s:Int×Av)=>0<=s.1/\s.1<=x.1.2.length/\x.1.2.length<=16777216) (λ(s:Int×Av)=>((x.1.2.length:Int)-s.1).toNat) h (λs b=>?_);unfold LN;exact x!
def Iv{x:BC×Int}(h:GV x.1):Ap (FX x) λr=>r.2=V->aR x.1:=by
 unfold FX;exact x!
def Y2{x:BC×Av}{s:Int}(h:0<=s/\s<=x.1.2.length/\(x.1.2.length:Int)<=16777216/\x.1.1.length<=16777216):Ap (Aj (NY x) s) λr=> ∀u,r= .inl u->0<=u/\u<=x.1.2.length:=by
 refine AW (λ(s:Int)=>0<=s/\s<=x.1.2.length/\(x.1.2.length:Int)<=16777216/\x.1.1.length<=16777216) (λ(s:Int)=>((x.1.2.length:Int)-s).toNat) h (λs a=>?_);unfold NY;exact x!
def eC{x:BC×Av}(h:GV x.1):Ap (I8 x) λr=>0<=r/\r<=U x.1.2:=by
 unfold I8;exact x!
def Zj{x:BC×Av}(h:GV x.1):Ap (OJ x) λr=>GV r.1:=by refine AA (EW h) λv o=>AO (y? GV.nil) (λl=>?_);have n:=o l;unfold aR at n;refine AA OM λ_ _=>AO (y? GV.nil) (λ_=>AA (Iv h) λz _=>?_);apply AK<;>intro m;simp_all[AK,AB,GV.nil];refine AK (y? h) (λ_=>AA (IW h.1) λ_ _=>AK (y? h) (λ_=>AK (y? GV.nil) (λ_=>AA (eC h) λp e=>AA (Bg o! e.1 e.2) λq j=>AA (Bg e.1 b! i!) λs a=>?_)));have f:=a.2;simp[len]at f;refine AA (Aa w!) λt b=>?_;have g:=b.2.1;simp at g;refine AA (Aa w!) λu c=>?_;have i:=c.2.1;simp at i;refine AA (Aa o!) λw k=>AA (Jh (B:=1025) g! d!) λy d=>AA (IW d!) λ_ _=>AB (GV.of g! d)
def Zq{x:List Int×Int}{s:Bool×Int×List Int}(h:0<=s.2.1/\s.2.1<=x.1.length/\x.1.length<=4096/\s.2.2.length<=s.2.1+1/\(s.1=false->(s.2.2.length:Int)<=s.2.1)):Ap (Aj (OH x) s) λr=>r.2.length<=x.1.length+1/\(r.1=false->r.2.length<=x.1.length):=by
 refine AW (λ(s:Bool×Int×List Int)=>0<=s.2.1/\s.2.1<=x.1.length/\x.1.length<=4096/\s.2.2.length<=s.2.1+1/\(s.1=false->(s.2.2.length:Int)<=s.2.1)) (λ(s:Bool×Int×List Int)=>((x.1.length:Int)-s.2.1).toNat) h (λs b=>?_);unfold OH;repeat' with_reducible first|intro a|apply AC|apply AO|apply AL|apply AK|(apply BL;try dsimp only)|apply Bp|apply B8|apply AB|(refine AM ?_ (AJ ?_ ?_);rintro r ⟨hr,g⟩)|(refine AM ?_ (Aa ?_);rintro r ⟨hr,f,d⟩)
 all_goals try dsimp[len]at*
 all_goals try (have e:=AY (x:=s.2.1+1))
 all_goals try (have c:=b.2.2.2.2 v!)
 all_goals (try simp[BY,Bj,Bool.true_eq_false,false_implies,and_true]at*)
 all_goals first|omega|grind
def PN{x:S Int×Int}(h:U x.1<=4096):Ap (Fe x) λr=>U r<=U x.1+1:=by
 unfold Fe;exact x!
def XY{x:BC}{s:List Int×Int}(h:0<=s.2/\s.2<=x.2.length/\x.2.length<=4096/\s.1.length<=s.2):Ap (Aj (LO x) s) λr=>r.length<=x.2.length:=by
 refine AW (λ(s:List Int×Int)=>0<=s.2/\s.2<=x.2.length/\x.2.length<=4096/\s.1.length<=s.2) (λ(s:List Int×Int)=>((x.2.length:Int)-s.2).toNat) h (λs b=>?_);unfold LO;exact x!
def Zp{x}(h:GV x):Ap (KF x) λr=>U r<=4096:=by
 unfold KF;exact x!
theorem bT{x:BC×Int}{b:Av×Bool}{s:List Int×Int}(h:0<=s.2/\s.2<=x.1.1.length/\x.1.1.length<=1024/\s.1.length<=s.2):Ap (Aj (PK x b) s) λr=>r.length<=x.1.1.length:=by
 refine AW (λ(s:List Int×Int)=>0<=s.2/\s.2<=x.1.1.length/\x.1.1.length<=1024/\s.1.length<=s.2) (λ(s:List Int×Int)=>((x.1.1.length:Int)-s.2).toNat) h (λs c=>?_);unfold PK;exact x!
theorem bU{x:BC×Int}{b:Av×Bool}{s:List Int×Int}(h:0<=s.2/\s.2<=x.1.2.length/\x.1.2.length<=1024/\s.1.length<=s.2+1024):Ap (Aj (PL x b) s) λr=>r.length<=4096:=by
 refine AW (λ(s:List Int×Int)=>0<=s.2/\s.2<=x.1.2.length/\x.1.2.length<=1024/\s.1.length<=s.2+1024) (λ(s:List Int×Int)=>((x.1.2.length:Int)-s.2).toNat) h (λs c=>?_);unfold PL;exact x!
def Ls{x:BC×Int}(h:GV x.1):Ap (Ij x) λr=>U r<=4096:=by unfold Ij;refine AA (Iv h) λc b=>AO (y? q!) (λa=>?_);grind[aR,AA,bT,bU,AB]
theorem QU{x:BC×List Int×Int}{a:List Int}{s:Int}(h:0<=s/\s<=a.length/\(a.length:Int)<=16777216/\1<=x.2.1.length/\x.2.1.length<=4096):Ap (Aj (MO x a) s) λr=> ∀u,r= .inl u->u=x.2.1:=by
 refine AW (λ(s:Int)=>0<=s/\s<=a.length/\(a.length:Int)<=16777216/\1<=x.2.1.length/\x.2.1.length<=4096) (λ(s:Int)=>((a.length:Int)-s).toNat) h (λs c=>?_);unfold MO;exact x!
def X1{x:BC×List Int×Int}{b:Int}{s:Bool×Int}(h:0<=s.2/\s.2<=x.2.1.length/\x.2.1.length<=4096):Ap (Aj (MP x b) s) λr=>True:=by
 refine AW (λ(s:Bool×Int)=>0<=s.2/\s.2<=x.2.1.length/\x.2.1.length<=4096) (λ(s:Bool×Int)=>((x.2.1.length:Int)-s.2).toNat) h (λs c=>?_);unfold MP;exact x!
def AGc(d:Nat){x:BC×List Int×Int}(h:GV x.1)(o:1<=x.2.1.length)(A:(x.2.1.length:Int)+d=x.2.2)(p:x.2.2<=4096):Ap (om Eu (d+1) x) λr=>r.length<=4096:=by
 induction d generalizing x with
 |zero=>show Ap (Eu _ x) _;unfold Eu;have e:=AY (x:=(x.2.1.length:Int)-1);refine AA (AJ (by simp[len];rw[e];omega) (by simp[len];rw[e];omega)) λv _=>AA (Ls h) λm f=>AP (λ_=>?_) (λc=>absurd b! c);refine AA (QU ⟨q!,q!,o!,o,o!⟩) λr hr=>BG (λu a=>AB (by rw[hr u a];omega)) (λ_ _=>AB q!)
 |succ d t=>show Ap (Eu _ x) _;unfold Eu;have e:=AY (x:=(x.2.1.length:Int)-1);refine AA (AJ (by simp[len];rw[e];omega) (by simp[len];rw[e];omega)) λv _=>AA (Ls h) λm f=>AP (λ_=>?_) (λ_=>?_);grind[AA,QU,BG,AB];refine AA (P:=λr=> ∀u,r= .inl u->u.length<=4096) ?_ λr hr=>BG (λu a=>AB (hr u a)) (λ_ _=>AB q!);refine AW (λ(s:Int)=>0<=s/\s<=m.length) (λ(s:Int)=>((m.length:Int)-s).toNat) (s:=(0:Int)) ⟨g!,o!⟩ (λs q=>?_);unfold Rv;have b:=AY (x:=s+1);refine AC (λc=>?_) (y? (λu a=>by cases a));simp[len]at c;refine AA (AJ q.1 c) λB _=>AA (X1 ⟨q!,q!,o!⟩) λw _=>AK (y? ⟨by rw[b];omega,by rw[b];omega⟩) (λ_=>AA (Aa w!) λy g=>?_);have k:=g.2.1;simp[Bj]at k;refine AA (Aa w!) λn i=>?_;have l:=i.2.1;simp[BY,Bj]at l;refine AA (t (x:=(x.1,n,x.2.2)) h d! d! p) λz j=>AC (y? λu a=>by cases a;exact j) (y? ⟨by rw[b];omega,by rw[b];omega⟩)
def bV{x:BC×S Int×Int}(h:GV x.1)(a:1<=U x.2.1)(d:(U x.2.1:Int)<=x.2.2)(b:x.2.2<=4096):Ap (PM x) λr=>True:=by have⟨r,hr,_⟩:=AGc (x.2.2-U x.2.1).toNat h a o! b;have⟨s,c⟩:=gY hr;exact⟨s,c,O!⟩
def eD{x:BC×Int}(h:GV x.1):Ap (Lr x) λr=>True:=by unfold Lr;refine AA (P:=λ_=>True) ?_ λr _=>BG (λ_ _=>AB trivial) (λ_ _=>AB trivial);refine AW (λs=>1<=s/\s<=4097) (λs=>(4097-s).toNat) ⟨g!,g!⟩ (λs d=>?_);unfold Sq;have a:=AY (x:=s+1);refine AA (Zp h) λe c=>AC (λb=>?_) (y? trivial);simp[len]at b;refine AA (bV h q! (by show(1:Int)<=s;omega) (by show s<=4096;omega)) λf _=>AC (y? trivial) (y? ⟨by rw[a];omega,by rw[a];omega⟩)
def TP(l:S Ai):Nat:=(l.map λt=>U t.2.2.2.2.1+1).sum
theorem AIj{l:S Ai}{i:Nat}{o n:Ai}(h:l[i]?=Z o):TP (l.set i n)+U o.2.2.2.2.1=TP l+U n.2.2.2.2.1:=by
 induction l generalizing i with
 |nil=>grind
 |cons t r a=>
  cases i with
  |zero=>simp at h;subst h;simp[TP];omega
  |succ i=>have:=a (i:=i) k!;simp[TP]at*;omega
def vy{l:S Ai}{id:Int}:TP (l.filter λt=>t.1 !=id)<=TP l:=by
 induction l with
 |nil=>simp
 |cons t r a=>simp[Mb];split;simp[TP]at*;omega;simp[TP]at*;omega
def xW{l:S Ai}{id:Int}{i:Nat}{t:Ai}(h:l[i]?=Z t)(a:t.1=id):TP (l.filter λt=>t.1 !=id)<TP l:=by
 induction l generalizing i with
 |nil=>grind
 |cons u r b=>
  have q:=vy (l:=r) (id:=id);cases i with
  |zero=>simp at h;subst h;simp[a];simp[TP]at*;omega
  |succ i=>have:=b (i:=i) k!;simp[Mb];split<;>(simp[TP]at*;omega)
theorem oH(t:Ai)(l:S Ai):TW (t::l)=2*U t.2.2.2.2.1+1+TW l:=by simp[TW]
theorem AAb(l m:S Ai):TW (l++m)=TW l+TW m:=by simp[TW]
def AAc{l:S Ai}{i:Nat}{o n:Ai}(h:l[i]?=Z o):TW (l.set i n)+2*U o.2.2.2.2.1=TW l+2*U n.2.2.2.2.1:=by
 induction l generalizing i with
 |nil=>grind
 |cons t r a=>cases i<;>grind[oH]
def pS{l:S Ai}{id:Int}:TW (l.filter λt=>t.1 !=id)<=TW l:=by induction l<;>grind[oH]
def xX{l:S Ai}{id:Int}{i:Nat}{t:Ai}(h:l[i]?=Z t)(a:t.1=id):TW (l.filter λt=>t.1 !=id)+1<=TW l:=by
 induction l generalizing i with
 |nil=>grind
 |cons u r b=>have q:=pS (l:=r) (id:=id);grind[oH]
def Y5{x:List Ai×Int}{s:Int×List Ai}(h:0<=s.1/\s.1<=x.1.length/\x.1.length<=64/\s.2.length=s.1):Ap (Aj (Jj x) s) λr=>r.length<=x.1.length:=by
 refine AW (λ(s:Int×List Ai)=>0<=s.1/\s.1<=x.1.length/\x.1.length<=64/\s.2.length=s.1) (λ(s:Int×List Ai)=>((x.1.length:Int)-s.1).toNat) h (λs b=>?_);unfold Jj;exact x!
def UI{x}:Ap (GG x) λr=>r.2=0->U r.1=U x.1+1/\U r.1<=64:=by
 unfold GG;exact x!
def yV(l:S Ai)(id:Int):S Ai:=l.filter λt=>t.1 !=id
theorem pM(l:S Ai)(id:Int):(yV l id).length<=U l:=EM _ _
theorem AHW(l:S Ai)(id:Int):TP (yV l id)<=TP l:=vy
theorem AHX{l:S Ai}{id:Int}{i:Nat}{t:Ai}(h:l[i]?=Z t)(a:t.1=id):TP (yV l id)<TP l:=xW h a
def lg{a:Type}{l:S a}{n:Int}{p:a->Bool}{x:a}(b:0<=n)(c:l[ο n]?=Z x):(l.take (n+1).toNat).filter p=(l.take (ο n)).filter p++(if p x=V then [x]else []):=by
 have e:(n+1).toNat=ο n+1:=o!
 grind[List.take_add_one]
def oh{a:Type}{l:S a}{n:Int}{p:a->Bool}(b:0<=n):(((l.take (ο n)).filter p).length:Int)<=n:=by grind[List.length_filter_le]
def X7{x:List Ai×Int}{s:Int×List Ai}(h:0<=s.1/\s.1<=x.1.length/\x.1.length<=16777216/\s.2=(x.1.take s.1.toNat).filter (λt=>t.1 !=x.2)):Ap (Aj (MU x) s) λr=>r=x.1.filter λt=>t.1 !=x.2:=by
 refine AW (λ(s:Int×List Ai)=>0<=s.1/\s.1<=x.1.length/\x.1.length<=16777216/\s.2=(x.1.take s.1.toNat).filter (λt=>t.1 !=x.2)) (λ(s:Int×List Ai)=>((x.1.length:Int)-s.1).toNat) h (λs e=>?_);unfold MU;have⟨b,i,d,c⟩:=e;have a:=oh (l:=x.1) (p:=λt:Ai=>t.1 !=x.2) b;rw[<-c]at a;repeat' with_reducible first|intro f|apply AC|apply AL|(apply BL;try dsimp only)|apply Bp|apply B8|apply AB|(refine AM ?_ (AJ ?_ ?_);rintro r ⟨hr,k⟩)|(refine AM ?_ (Aa ?_);rintro r ⟨hr,j,g⟩)
 all_goals dsimp[len]at*
 all_goals first|omega|(rw[(AY (x:=s.1+1))];refine⟨⟨o!,o!,d,?_⟩,o!⟩;rw[lg b v!];grind)|(rw[c,BO o!])|(simp;omega)
def HS{x:S Ai×Int}(h:U x.1<=16777216):Ap (Gs x) λr=>r=yV x.1 x.2:=by
 unfold Gs yV
 exact x!
def Jl{x:Ai}(h:U x.2.2.2.2.1<=16777216):Ap (Ia x) λr=>r.1=x.1/\r.2.2.2.2=x.2.2.2.2:=by
 unfold Ia;exact x!
def JA{x:S Ai×Int×Ai}(h:U x.1<=16777216)(a:0<=x.2.1/\x.2.1<U x.1):Ap (Kj x) λr=>r=x.1.set x.2.1.toNat x.2.2:=by refine AA (Aa k!) λr hr=>?_;have⟨hr,b,_⟩:=hr;subst hr;exact AA (AJ a.1 a.2) λ_ _=>AA (AJ a.1 a.2) λ_ _=>AB rfl
def MS{x:List Ai×AE}{a:Ai}{s:Int×List Int}(h:0<=s.1/\s.1<=a.2.2.2.2.1.length/\a.2.2.2.2.1.length<=4096/\s.2.length<=s.1):Ap (Aj (OR x a) s) λr=>r.length<=a.2.2.2.2.1.length:=by
 refine AW (λ(s:Int×List Int)=>0<=s.1/\s.1<=a.2.2.2.2.1.length/\a.2.2.2.2.1.length<=4096/\s.2.length<=s.1) (λ(s:Int×List Int)=>((a.2.2.2.2.1.length:Int)-s.1).toNat) h (λs d=>?_);unfold OR;exact x!
def ic(l:S Ai)(id:Int):Prop:=∃(j:Nat)(t:Ai),l[j]?=Z t/\t.1=id
theorem ic.set{l:S Ai}{i:Nat}{n:Ai}{id:Int}(h:i<U l)(hn:n.1=id):ic (l.set i n) id:=⟨i,n,k!,hn⟩
def AHw(l:S Ai)(kind tx:Int)(m:S Ai):Prop:=U m<=U l/\(tx=0->m=l)/\(tx≠0->kind≠1->(kind≠4->TP m<TP l)/\TP m<=TP l)/\(tx≠0->kind=4->ic m tx)
def NW(l:S Ai)(kind tx:Int)(m:S Ai):Prop:=(kind≠1->TW m<=TW l)/\(kind=1->TW m<=TW l+2)/\(tx≠0->kind=2->TW m+2<=TW l)/\(tx≠0->kind≠1->kind≠2->kind≠4->TW m+1<=TW l)
def yp(l:S Ai)(kind tx:Int)(m:S Ai):Prop:=U m<=U l/\(tx=0->m=l)/\(tx≠0->kind≠1->(kind≠4->TP m<TP l)/\TP m<=TP l)/\(tx≠0->kind=4->ic m tx)/\NW l kind tx m
def AIX{x}:Ap (Eo x) λr=>r.2=0->AHw x.1 x.2.2.1 x.2.2.2.1 r.1:=by
 unfold Eo;repeat' with_reducible first|intro a|apply AC|apply AO|apply AP|apply AL|apply AK|(apply BL;try dsimp only)|apply Bp|apply B8|apply NH|(apply BB;try dsimp only)|(apply Ax;try dsimp only)|(apply BG<;>(intro u c;try subst c))|apply AB|(apply AA (C4);intro r hr)|(apply AA (CC);intro r hr)|(refine AM ?_ (Ft ?_);intro r hr)|(refine AM ?_ (MS ?_);intro r hr)|(refine AM ?_ (HS ?_);intro r hr)|(refine AM ?_ (Jl ?_);intro r hr)|(refine AM ?_ (JA ?_ ?_);intro r hr)|(refine AM ?_ (AJ ?_ ?_);rintro r ⟨hr,f⟩)|(refine AM ?_ (Aa ?_);rintro r ⟨hr,e,b⟩)
 all_goals dsimp[len]at*
 all_goals first|omega|(intro d;exact N! d g!)|(unfold cI VTx at*;(first|omega|grind[AHw,AIj,AHX,AHW,pM,List.length_set,ic.set]))
def AIY{x}:Ap (Eo x) λr=>r.2=0->NW x.1 x.2.2.1 x.2.2.2.1 r.1:=by refine AA C4 λQ q=>AO (λa=>AB n!) (λa=>?_);have B:=(q a).1;refine AA CC λR N=>AO (λa=>AB n!) (λ_=>AP (λa=>AB λ_=>⟨λ_=>Al _,λ_=>Nat.le_add_right _ _,λh=>N! a h,λh=>N! a h⟩) (λ_=>AA (Ft k!) λL m=>AC (λa=>AB n!) (λC=>AA (AJ o! m.2.1) λM t=>?_)));have n:=((q a).2 _ _ t.1).1;have⟨c,d,f⟩:=m.2.2 o!;have y:c=M:=Ba (d.symm.trans t.1);subst y;refine AL (λa=>AB n!) (λ_=>AA (P:=λs=>(∃u,s=.inl u/\((x.2.2.1=1/\U u.2.2.2.2.1=U c.2.2.2.2.1+1)\/(x.2.2.1=2/\U u.2.2.2.2.1+1<=U c.2.2.2.2.1)\/(x.2.2.1=4/\U u.2.2.2.2.1=U c.2.2.2.2.1)))\/∃u,s=.inr u/\(u.2=0->NW x.1 x.2.2.1 x.2.2.2.1 u.1)) ?_ λs v=>?_);refine AP (λk1=>?_) (λG=>?_);grind[AA,Aa,AB];refine AA (P:=λs=>(∃u,s=.inr u/\((x.2.2.1=1/\U u.2.2.2.2.1=U c.2.2.2.2.1+1)\/(x.2.2.1=2/\U u.2.2.2.2.1+1<=U c.2.2.2.2.1)\/(x.2.2.1=4/\U u.2.2.2.2.1=U c.2.2.2.2.1)))\/∃u,s=.inl u/\(u.2=0->NW x.1 x.2.2.1 x.2.2.2.1 u.1)) (AP (λE=>AA (MS ⟨Ae _,k!,n,q!⟩) λI A=>AP (y? (.inr ⟨_,rfl,n!⟩)) (λg=>AB (.inl ⟨_,rfl,.inr (.inl ⟨E,by simp[len]at g;dsimp only;omega⟩)⟩))) (λH=>AP (λF=>AB (.inl ⟨_,rfl,.inr (.inr ⟨F,rfl⟩)⟩)) (λO=>AA (HS k!) λJ j=>AB (.inr ⟨_,rfl,λ_=>?_⟩)))) λs v=>?_;have:=xX d f;dsimp only;rw[j];have w:TW (yV x.1 x.2.2.2.1)+1<=TW x.1:=this;exact⟨λ_=>d!,λh=>N! h G,λ_ h=>N! h H,λ_ _ _ _=>d!⟩;grind[Ax,AB,BB];rcases v with⟨u,rfl,p⟩|⟨u,rfl,p⟩;refine BB (AA (Jl o!) λi k=>AA (JA k! ⟨k!,m.2.1⟩) λK l=>AB λ_=>?_);have e:=E! (·.1) k.2;have o:TW (x.1.set L.toNat i)+2*U c.2.2.2.2.1=TW x.1+2*U i.2.2.2.2.1:=AAc d;dsimp only at e⊢;rw[l];dsimp only;rw[e]at o;rcases p with⟨q1,q2⟩|⟨q1,q2⟩|⟨q1,q2⟩;exact⟨λh=>N! q1 h,λ_=>o!,λ_ h=>N! (q1.symm.trans h) g!,λ_ h=>N! q1 h⟩;exact⟨λ_=>o!,λh=>N! (q1.symm.trans h) g!,λ_ _=>o!,λ_ _ h=>N! q1 h⟩;exact⟨λ_=>o!,λh=>N! (q1.symm.trans h) g!,λ_ h=>N! (q1.symm.trans h) g!,λ_ _ _ h=>N! q1 h⟩;exact Ax (AB p)
def gj{x}:Ap (Eo x) λr=>r.2=0->yp x.1 x.2.2.1 x.2.2.2.1 r.1:=(AIX.and AIY).mono λr h a=>⟨(h.1 a).1,(h.1 a).2.1,(h.1 a).2.2.1,(h.1 a).2.2.2,h.2 a⟩
def yp.w{l}{k t}{m}(h:yp l k t m):NW l k t m:=h.2.2.2.2
def AF5{x:List Ai×Int}:Ap (GG x) λr=>r.2=0->TW r.1=TW x.1+1:=by
 unfold GG;refine AA C4 λv i=>AO (λa=>AB n!) (λa=>?_);have m:=(i a).1;refine AC (λa=>AB n!) (λ_=>AC (λa=>AB n!) (λ_=>AA (Ft o!) λw u=>AC (λa=>AB n!) (λ_=>AP (λa=>AB n!) (λhn=>AA (P:=λr:List Ai=> ∃k:Nat,k<=x.1.length/\r=x.1.take k) ?_ λy j=>?_))));refine AW (λ(s:Int×List Ai)=> ∃k:Nat,k<=x.1.length/\s.1=k/\s.2=x.1.take k) (λ(s:Int×List Ai)=>((x.1.length:Int)-s.1).toNat) ⟨0,BR _,rfl,rfl⟩ (λs n=>?_);have⟨k,d,t,e⟩:=n;unfold Jj;rw[AY (x:=s.1+1)];refine AC (λa=>?_) (y? ⟨k,d,e⟩);simp[len]at a;refine AA (AJ o! a) λo _=>AC (λ_=>?_) (y? ⟨k,d,e⟩);refine AA (AJ o! a) λp c=>AA (Aa k!) λq g=>AB ⟨⟨k+1,o!,k!,?_⟩,k!⟩;grind[s?,List.take_add_one];obtain⟨k,d,rfl⟩:=j;have h:(x.1.take k).length=k:=k!
 refine AA (Bg (by simp[len]) b! (by simp[len])) λp c=>AA (Aa (by rw[h];simp;omega)) λo f=>AA (Aa (by have:=f.2.1;have:=c.2;simp[len]at*;omega)) λq g=>AB λ_=>?_;dsimp only;rw[g.1,f.1,c.1];simp only[len];rw[h,AAb,AAb,show(((k:Nat):Int)).toNat=k by omega,BO (l:=x.1.drop k) (by rw[DB];omega)];grind[AAb,List.take_append_drop,oH]
variable {B:pR}
theorem Sx{x}:Ap (IZ x) λr=>r.2=0->cI x.1/\0<=r.1/\r.1<U x.1:=by
 unfold IZ;exact x!
theorem AIh{x}:Ap (Mt x) λr=>r.2=0->U r.1<=64/\TW r.1=TW x.1:=by unfold Mt;refine AA Sx λm i=>AL (λl=>AB λc=>N! c l) (λd=>?_);obtain⟨f,g,h⟩:=i d;have b:U x.1<=64:=f.1;refine AA (AJ g h) λa e=>AP (y? n!) (λ_=>?_);have p:=(f.2 _ _ e.1).2.1;refine AA (Aa w!) λs j=>AA (Aa (by have:=j.2.1;simp at*;omega)) λn o=>AA (JA d! ⟨g,h⟩) λt k=>AB λ_=>?_;dsimp only;rw[k,Oy];have q:TW (x.1.set m.1.toNat (a.1,a.2.1,a.2.2.1,a.2.2.2.1,a.2.2.2.2.1,n))+2*U a.2.2.2.2.1=TW x.1+2*U a.2.2.2.2.1:=AAc e.1;exact⟨b,Nat.add_right_cancel q⟩
def AIO{x}:Ap (Ms x) λr=>r.2=0->U r.1<=64/\TW r.1=TW x.1:=by unfold Ms;refine AA Sx λu k=>AL (λp=>AB λa=>N! a p) (λc=>?_);obtain⟨i,d,e⟩:=k c;have b:U x.1<=64:=i.1;refine AA (AJ d e) λv g=>AC (y? n!) (λc0=>AC (y? n!) (λj=>?_));obtain⟨q1,t,_⟩:=i.2 _ _ g.1;simp only[len]at j;rw[AY (x:=x.2.2+1)];refine AA (Bg (Ae _)) λw h=>AA (Aa (by have:=h.2;simp;omega)) λy l=>?_;have q:=l.2.1;have l2:=h.2;simp at q;refine AA (AJ) λ_ _=>AA (AJ) λA _=>AA (Jl d!) λs m=>AA (JA d! ⟨d,e⟩) λB o=>AB λ_=>?_;have f:=E! (·.1) m.2;have:=AAc (n:=s) g.1;dsimp only at f d e⊢;rw[o,Oy];dsimp only;rw[f]at this;exact⟨b,Nat.add_right_cancel this⟩
theorem jV{x:Bt×Int×Bk}(h:U x.1<=16777216)(a:0<=x.2.1/\x.2.1<U x.1):Ap (Nu x) λr=>r=x.1.set x.2.1.toNat x.2.2:=by unfold Nu;refine AA (Aa (by simpa using h)) λr hr=>?_;have⟨hr,b,_⟩:=hr;rw[CG]at hr;subst hr;refine AA (AJ a.1 a.2) λ_ _=>AA (AJ a.1 a.2) λ_ _=>AB rfl
theorem U8{x}:Ap (Hz x) λr=>r.2=0->U r.1=U x.1/\(x.2.2.1≠7->r.1=x.1)/\(x.2.2.1=7->0<=x.2.2.2.2.2.2.2.1.1/\∃w,x.1[x.2.2.2.2.2.2.2.1.1.toNat]?=Z w/\r.1=x.1.set x.2.2.2.2.2.2.2.1.1.toNat ((if x.2.2.2.2.2.2.1>w.1 then x.2.2.2.2.2.2.1 else w.1),w.2)):=by
 unfold Hz;refine AA FY λv i=>AO (λa=>AB n!) (λa=>AA CC λl k=>AO (λa=>AB n!) (λf=>AL (λa=>AB λ_=>⟨rfl,λ_=>rfl,λe=>N! e a⟩) (λd=>?_)));have i:MI x.2:=k!
 have c:0<=x.2.2.2.2.2.2.2.1.1:=by grind[MI,Va,Ow,QL]
 refine AC (λa=>AB n!) (λg=>?_);simp[len]at g;refine AA (AJ c) λw j=>AA (jV (by have:=(by grind:ms x.1).2;dsimp only;omega) ⟨c,d!⟩) λu h=>AB λ_=>?_;subst h;exact⟨q!,λe=>N! d e,λ_=>⟨c,w,j.1,rfl⟩⟩
theorem Kx{x:AQ×Int}(h:SB x.1):Ap (Er x) λr=>Bd x.1=Z V->KP x.1.1 x.1.2.2.1.2.1 x.1.2.2.2.1.2.1 x.1.2.2.2.2.2.2.2 x.1.2.2.2.2.2.2.1->0<=x.2->x.2<x.1.1->r=Be x.1.2.2.1.2.1 x.2:=by unfold Er;refine EA (Bz h) λv u t=>AO (λa=>AB λe=>?_) (λa=>?_);rw[u,a]at e;cases e;refine AC (λa=>AB λ_ _ p=>N! p o!) (λp=>AC (λa=>AB λ_ _ _ q=>N! q o!) (λq=>AA I9 λg s=>AK (λa=>AB λ_ c d j=>?_) (λk=>?_)));have⟨_,_,_,e,f,n,b⟩:=s.1 a;have:=(c x.2 d j).1 f n (by rw[b];exact e);rw[b]at this;rw[this];exact Kb _ _;refine AA (KJ h) λl o=>AK (λa=>AB λ_ c d j=>(c x.2 d j).2.1 _ (o.1 a).1 (o.1 a).2) (λm=>AA (AJ o! (by have:=(t a).2.2.2.2.2.2.2;omega)) λr hr=>AB λ_ c d j=>?_);exact((c x.2 d j).2.2 r hr.1).2 (o.2 m) λf n e=>by have⟨i,w⟩:=C2 n;exact N! ⟨i,f,w,e⟩ (s.2 k (t a).2.2.2.1)
def LX(a b:AZ):Prop:=b.1=a.1/\a.2.2<=b.2.2/\∃t,b.2.1=a.2.1++t
theorem LX.refl(a:AZ):LX a a:=⟨rfl,Ae _,[],q!⟩
theorem LX.trans{a b c}(h:LX a b)(g:LX b c):LX a c:=by have⟨i,k,t,j⟩:=h;have⟨d,f,u,e⟩:=g;exact⟨d.trans i,YK k f,t++u,by rw[e,j,A6]⟩
theorem LX.get{a b}(h:LX a b){i:Nat}{e:AE}(f:a.2.1[i]?=Z e):b.2.1[i]?=Z e:=by have⟨c,_,t,d⟩:=h;grind[List.getElem?_append_left,Nat.lt_or_ge,u?]
def AKs(k:AQ)(z:AE)(m:AQ):Prop:=
 ∃e,m.2.2.1.2.1=k.2.2.1.2.1++[e]/\e.1=k.2.2.1.1+U k.2.2.1.2.1/\e.2.1=z.2.1/\e.2.2.2.2.2=z.2.2.2.2.2/\
  (KP k.1 k.2.2.1.2.1 k.2.2.2.1.2.1 k.2.2.2.2.2.2.2 k.2.2.2.2.2.2.1->(e.2.1=1\/e.2.1=2)->0<=e.2.2.2.2.2.2.1.1->e.2.2.2.2.2.2.1.1<k.1->e.2.2.2.2.1=Be k.2.2.1.2.1 e.2.2.2.2.2.2.1.1)/\
  (z.2.1≠7->m.2.2.2.2.2.2.1=k.2.2.2.2.2.2.1)/\
  (z.2.1=7->0<=z.2.2.2.2.2.2.1.1/\∃w,k.2.2.2.2.2.2.1[z.2.2.2.2.2.2.1.1.toNat]?=Z w/\m.2.2.2.2.2.2.1=k.2.2.2.2.2.2.1.set z.2.2.2.2.2.2.1.1.toNat ((if z.2.2.2.2.2.1>w.1 then z.2.2.2.2.2.1 else w.1),w.2))
def tD(k:AQ)(z:AE)(m:AQ):Prop:=
 m.1=k.1/\LX k.2.2.1 m.2.2.1/\De m.2.2.1/\m.2.2.2.1=k.2.2.2.1/\m.2.2.2.2.1=k.2.2.2.2.1/\yp k.2.2.2.2.2.1 z.2.1 z.2.2.1 m.2.2.2.2.2.1/\m.2.2.2.2.2.2.2=k.2.2.2.2.2.2.2/\SB m/\AKs k z m
def GH{x:AQ×AE}(h:SB x.1):Ap (EY x) λr=>r.2.2=0->VK x.1/\tD x.1 x.2 r.1/\r.2.1=x.1.2.2.1.1+U x.1.2.2.1.2.1:=by
 unfold EY;refine EA (Bz h) λv q E=>AO (λa=>AB n!) (λa=>?_);have n:=E a;rw[a]at q;refine AA (P:=λs=>(∃u,s=.inl u/\u.2.1≠0)\/∃u,s=.inr u/\u.1.2.1=x.2.2.1/\u.1.2.2.1=x.2.2.2.1/\u.1.2.2.2.2.2=x.2.2.2.2.2.2) ?_ λs D=>?_
 ·repeat' with_reducible first|intro a|apply AC|apply AO|apply AL|apply AK|(apply BL;try dsimp only)|apply Bp|apply B8|apply NH|(apply BB;try dsimp only)|(apply Ax;try dsimp only)|(apply BG<;>(intro u b;try subst b))|apply AB|(refine AM ?_ (Fs ?_);intro r hr)|(refine AM ?_ (AJ ?_ ?_);rintro r ⟨hr,N⟩)
  all_goals ((try dsimp[len]at*);(try first|omega|assumption|grind[AY,SB]))
 rcases D with⟨u,rfl,b⟩|⟨u,rfl,b⟩;exact BB (AB λc=>N! c b);apply Ax;refine AA (CO) λO A=>AA (P:=λv:AE=>v.2.1=x.2.2.1/\v.2.2.1=x.2.2.2.1/\v.2.2.2.2.2=x.2.2.2.2.2.2/\(KP x.1.1 x.1.2.2.1.2.1 x.1.2.2.2.1.2.1 x.1.2.2.2.2.2.2.2 x.1.2.2.2.2.2.2.1->(v.2.1=1\/v.2.1=2)->0<=v.2.2.2.2.2.2.1.1->v.2.2.2.2.2.2.1.1<x.1.1->v.2.2.2.2.1=Be x.1.2.2.1.2.1 v.2.2.2.2.2.2.1.1)) ?_ λt d=>?_;refine AK (λa=>?_) (λa=>AB ⟨b.1,b.2.1,b.2.2,λ_ n=>N! (A.2 n) (by simp[a])⟩);exact AA (Kx h) λw F=>AB ⟨b.1,b.2.1,b.2.2,λo _ G H=>F q o G H⟩;refine AA (Sn) λi B=>AL (λa=>AB (N! · a)) (λa=>?_);have⟨a1,a2,a3,a4,a5,a6⟩:=B a;dsimp only at a2 a3 a4 a5 a6;refine AA (HH) λp e=>AA (gj) λI l=>AL (λa=>AB (N! · a)) (λf=>AA (U8) λJ m=>AL (λa=>AB (N! · a)) (λg=>AB λ_=>⟨n,?_⟩))
 have L:=a2.1;have M:U i.1.2.1=U x.1.2.2.1.2.1+1:=by rw[a3];simp
 have⟨K,y,k,z⟩:=e.1 (e.2 a1 d! d!);dsimp only at y k z;have C:p.1=(i.2.1,t.2):=by
  have:(i.2.1-i.1.1).toNat=U x.1.2.2.1.2.1:=o!
  rw[this,a3]at k;simpa using k.symm
 have hn:=l f;have j:=(m g).2;rw[C]at hn j;dsimp only at hn j;rw[d.1,d.2.1]at hn;rw[d.1,d.2.2.1]at j;exact⟨⟨rfl,⟨a4,Int.le_of_eq a6.symm,_,a3⟩,a1,rfl,rfl,hn,rfl,⟨h.1,by have:=hn.1;have:=h.2.1;dsimp only at*;omega,h.2.2⟩,(i.2.1,t.2),a3,a5,d.1,d.2.2.1,d.2.2.2,j⟩,a5⟩
theorem tD.ph{k m}{z}(h:tD k z m):PH m+TW k.2.2.2.2.2.1=PH k+1+TW m.2.2.2.2.2.1/\sY m.2.2.1.2.1=sY k.2.2.1.2.1+if z.2.1=1 then 1 else 0:=by obtain⟨a1,_,_,a4,_,_,a7,_,e,a,c,b,_⟩:=h;unfold PH;rw[a4,a7,a,AGa,b,Ac,WA];exact⟨o!,rfl⟩
theorem RM.len{w}{k}(h:RM w k):sY k.2.2.1.2.1<=w.1/\U k.2.2.1.2.1<=w.2:=⟨h.1,by have:=h.2;unfold PH at this;omega⟩
theorem tD.rm{k m:AQ}{z:AE}{w v:Nat×Nat}(h:tD k z m)(a:RM w k)(b:w.1+(if z.2.1=1 then 1 else 0)<=v.1)(c:TW m.2.2.2.2.2.1+1+w.2<=TW k.2.2.2.2.2.1+v.2):RM v m:=by have:=h.ph;have:=a.1;have:=a.2;exact⟨by omega,by omega⟩
def tD.ki{k m}{z}{v}(h:tD k z m)(b:KI B k)(a:z.2.1≠1/\z.2.1≠2/\z.2.1≠6/\z.2.1≠7)(hr:RM v m):KI (B.1,v) m:=by obtain⟨a1,_,_,a4,_,_,a7,_,e,c,g,d,i,j,f,l⟩:=h;refine⟨?_,?_,?_,hr⟩;rw[a1,c];rw[<-d]at a;exact b.1.app ⟨λh=>o!,λh=>o!,λh=>o!⟩;rw[a1,a4,a7,c,f a.2.2.2];rw[<-d]at a;exact b.2.1.app ⟨a.1,a.2.1⟩;rw[a1,a4,a7];exact b.fd
def tD.sk{k m}{z}{v}(h:tD k z m)(a:SK B k)(b:z.2.1≠1/\z.2.1≠2/\z.2.1≠6/\z.2.1≠7)(hr:RM v m):SK (B.1,v) m:=h.2.2.2.2.2.2.2.1.sk (h.ki a.ki b hr)
end Go.Pm
namespace Go.Pm
open Go Go.Ab
def DI(d:Br):Prop:=U d.1<=64/\(∀(i:Nat)(s:BZ),d.1[i]?=Z s->U s=256)/\d.2.2.1=[]/\d.2.2.2.2=[]
theorem Xz{x:Int}{s:Int×List BZ}(h:0<=s.1/\s.1<=x/\x<=64/\s.2.length=s.1/\ ∀(i:Nat) (t:BZ),s.2[i]? =some t->t=E7 (List.replicate (Int.toNat 256) 0)):Ap (Aj (MM x) s) λr=>(r.length:Int)=x/\ ∀(i:Nat) (t:BZ),r[i]? =some t->t=E7 (List.replicate (Int.toNat 256) 0):=by
 refine AW (λ(s:Int×List BZ)=>0<=s.1/\s.1<=x/\x<=64/\s.2.length=s.1/\ ∀(i:Nat) (t:BZ),s.2[i]? =some t->t=E7 (List.replicate (Int.toNat 256) 0)) (λ(s:Int×List BZ)=>(x-s.1).toNat) h (λs c=>?_);unfold MM;have⟨f,g,a,j,b⟩:=c;have k:(E7 (List.replicate (Int.toNat 256) 0)).length=256:=by rw[Mf,Hh];rfl
 repeat' with_reducible first|apply AC<;>intro d|apply AK<;>intro d|apply AB|(refine AM ?_ (Aa ?_);rintro r ⟨hr,l,e⟩)
 all_goals first|omega|(generalize E7 (List.replicate (Int.toNat 256) 0)=bs at*;simp;omega)|(generalize E7 (List.replicate (Int.toNat 256) 0)=bs at*;rw[(AY (x:=s.1+1))];refine⟨⟨by omega,by omega,a,by grind,?_⟩,by omega⟩;grind)|(exact⟨by omega,b⟩)
theorem Sm{x:Int}(h:0<=x/\x<=64):Ap (PF x) λr=>(U r:Int)=x/\∀(i:Nat)(t:BZ),r[i]?=Z t->t=E7 (ς (ο 256) 0):=by exact AA (Xz ⟨Ae _,h.1,h.2,rfl,λi t a=>by simp at a⟩) λr hr=>AB hr
theorem jP{x}:Ap (Kg x) λr=>r.2=0->DI r.1/\U r.1.1=x/\∀(i:Nat)(t:BZ),r.1.1[i]?=Z t->t=E7 (ς (ο 256) 0):=by refine AC (λb=>AB n!) (λb=>AC (λb=>AB n!) (λc=>AA (Sm o!) λr hr=>AB λ_=>⟨⟨d!,λi t d=>?_,rfl,rfl⟩,hr⟩));rw[hr.2 i t d,Mf,Hh];rfl
theorem dx{x}:Ap (Ln x) λr=>True:=by
 unfold Ln;exact x!
theorem Yv{x:Br}{s:Int}(h:0<=s/\s<=x.1.length/\(x.1.length:Int)<=16777216):Ap (Aj (NK x) s) λr=>r≠ .inl true:=by
 refine AW (λ(s:Int)=>0<=s/\s<=x.1.length/\(x.1.length:Int)<=16777216) (λ(s:Int)=>((x.1.length:Int)-s).toNat) h (λs b=>?_);unfold NK;exact x!
theorem Yw{x:Br}{s:Int}(h:0<=s/\s<=θ x.2.2.1/\(θ x.2.2.1:Int)<=16777216):Ap (Aj (NM x) s) λr=>r≠.inl ζ:=by
 refine AW (λ(s:Int)=>0<=s/\s<=θ x.2.2.1/\(θ x.2.2.1:Int)<=16777216) (λ(s:Int)=>((θ x.2.2.1:Int)-s).toNat) h (λs b=>?_);unfold NM;exact x!
theorem Yx{x:Br}{s:Int}(h:0<=s/\s<=x.2.2.2.2.length/\(x.2.2.2.2.length:Int)<=16777216):Ap (Aj (NN x) s) λr=>r≠ .inl true:=by
 refine AW (λ(s:Int)=>0<=s/\s<=x.2.2.2.2.length/\(x.2.2.2.2.length:Int)<=16777216) (λ(s:Int)=>((x.2.2.2.2.length:Int)-s).toNat) h (λs b=>?_);unfold NN;exact x!
theorem dv{x:Br}(h:U x.2.2.1<=16777216):Ap (Lm x) λr=>r=V->1<=U x.1/\U x.1<=64:=by
 unfold Lm;exact x!
theorem NR{x:Br×Int}(h:U x.1.2.2.1<=16777216):Ap (Gn x) λr=>r=0->0<=x.2/\x.2<U x.1.1/\U x.1.1<=64:=by
 unfold Gn;exact x!
theorem XW{x:List Int×Int}{s:Int×List Int}(h:0<=s.1/\s.1<=x.1.length/\x.1.length<=16777216/\s.2.length<=s.1):Ap (Aj (LM x) s) λr=>r.length<=x.1.length:=by
 refine AW (λ(s:Int×List Int)=>0<=s.1/\s.1<=x.1.length/\x.1.length<=16777216/\s.2.length<=s.1) (λ(s:Int×List Int)=>((x.1.length:Int)-s.1).toNat) h (λs c=>?_);unfold LM;exact x!
theorem Rt{x:S Int×Int}(h:U x.1<=16777216):Ap (FW x) λr=>U r<=U x.1:=by
 unfold FW;exact x!
theorem bO{x:List Int×Int}{s:Int}(h:0<=s/\s<=x.1.length/\(x.1.length:Int)<=16777216):Ap (Aj (PG x) s) λr=>True:=by
 refine AW (λ(s:Int)=>0<=s/\s<=x.1.length/\(x.1.length:Int)<=16777216) (λ(s:Int)=>((x.1.length:Int)-s).toNat) h (λs b=>?_);unfold PG;exact x!
theorem jQ{x:S Int×Int}(h:U x.1<=16777216):Ap (Nr x) λr=>True:=by
 unfold Nr;exact x!
theorem gb{x:Br×Int}(h:DI x.1):Ap (Mm x) λr=>r.2=0->U r.1=256/\0<=x.2/\x.1.1[x.2.toNat]?=Z r.1:=by
 unfold Mm;exact x!
theorem DI.set{d}{l:S BZ}{i}{t:BZ}{u:S Int}{w:Int}{b:Bool}(h:DI d)(c:l=d.1)(n:U t=256)(e:U u<=([]:S Int).length):DI (ER l i t,w,u,b,[]):=by subst c;have⟨a,f,g,k⟩:=h;refine⟨by simpa[ER]using a,λj s m=>?_,tS.1 (by simpa using e),rfl⟩;grind[ER]
def gd{x:Br×Int×BZ×Int}(h:DI x.1):Ap (Qz x) λr=>r.2=0->DI r.1/\∃o,0<=x.2.1/\x.1.1[x.2.1.toNat]?=Z o/\r.1.1=ER x.1.1 x.2.1 (x.2.2.1.take x.2.2.2.toNat++o.drop x.2.2.2.toNat):=by
 have⟨C,s,n,t⟩:=h;refine AA (NR (by dsimp only;rw[n];simp)) λF i=>AL (λg=>AB (N! · g)) (λg=>AC (y? n!) (λc0=>AC (y? n!) (λB=>AL (y? n!) (λv=>?_))));have⟨b,c,E⟩:=i g;simp only[len]at v;refine AA (Aa w!) λw j=>AA (Aa (by rw[n];simp)) λz k=>AA (Aa (by rw[t];simp)) λA m=>?_;have j:w=x.1.1:=k!
 have k:z=[]:=k!
 have m:A=[]:=k!
 subst j k m;refine AA (Ca (Ae _)) λG e=>AA (AJ b c) λH _=>AA (AJ b c) λq p=>?_;have D:=s _ _ p.1;refine AA (Ca o! i! (by simp[len])) λI f=>AA (CL (by simp only[len]at f;omega)) λJ u=>AA (AJ b c) λ_ _=>AA (AJ b c) λ_ _=>AA (Rt q!) λy d=>AB λ_=>⟨h.set rfl (by simp only[len]at f;omega) d,q,b,p.1,?_⟩
 dsimp only;rw[u.1,e.1,f.1,BO (l:=q.drop _) (by simp[len])];simp
theorem whole{l:S BZ}{i:Nat}{s o a b r:BZ}(h:len s=256)(f:∀(i:Nat)(s:BZ),l[i]?=Z s->U s=256)(hr:r=a++b)(c:a=List.take (ο 256-ο 0) (List.drop (ο 0) s))(d:b=List.take ((len o).toNat-ο 256) (List.drop (ο 256) o))(g:l[i]?=Z o):r=s:=by have j:=f _ _ g;have e:List.drop (ο 256) o=[]:=lO (by simp only[Int.reduceToNat];omega);simp only[len]at h;rw[hr,c,d,e,List.take_nil,Do];exact BO w!
def dw{x:Br×Int×BZ}(h:DI x.1):Ap (QC x) λr=>r.2=0->DI r.1/\0<=x.2.1/\r.1.1=ER x.1.1 x.2.1 x.2.2:=by
 have⟨B,o,i,j⟩:=h;refine AA (NR (by dsimp only;rw[i];simp)) λC g=>?_;refine AL (λb=>AB (λc=>absurd c b)) (λb=>?_);refine AL (λb=>AB (λc=>absurd c (by decide))) (λd=>?_);refine AP (λb=>AB (λc=>absurd c (by decide))) (λq=>?_);refine AA (Aa (by simp;omega)) λy t=>?_;refine AA (Aa (by rw[i];simp)) λz u=>?_;refine AA (Aa (by rw[j];simp)) λA v=>?_;have l:y=x.1.1:=by grind
 have m:z=[]:=by grind
 have n:A=[]:=by grind
 subst l m n;have l1: ∀s,s.1=0->Aj (NO x) s=some s.2:=λs e=>by rw[HX];unfold NO;rw[j,e];rfl
 rw[l1 _ rfl];apply BL;have l2: ∀a s,a.1=[]->s.2.1=0->Aj (NP x a) s=some (s.1,(s.2.2.2.2.2.2.1,(s.2.2.2.2.2.1,s.2.2.2.2.2.2.2))):=λa s f e=>by rw[HX];unfold NP;rw[f,e];rfl
 have w: ∀a s,a.1=[]->s.1=0->Aj (NQ a) s=some (s.2.2.2.2.2.1,(s.2.2.2.2.1,s.2.2.2.2.2.2)):=λa s f e=>by rw[HX];unfold NQ;rw[f,e];rfl
 rw[l2 _ _ rfl rfl];repeat' with_reducible first|apply AC<;>intro b|apply AO<;>intro b|apply AP<;>intro b|apply AL<;>intro b|apply AK<;>intro b|(apply BL;try dsimp only)|apply Bp|apply B8|apply AB|(rw[w _ _ rfl rfl];apply BL;dsimp only)|(refine AM ?_ (Rt ?_);intro r hr)|(refine AM ?_ (AJ ?_ ?_);rintro r ⟨hr,q⟩)|(refine AM ?_ (Aa ?_);rintro r ⟨hr,k,p⟩)|(refine AM ?_ (CL ?_);rintro r ⟨hr,k⟩)|(refine AM ?_ (Ca ?_ ?_ ?_);rintro r ⟨hr,k⟩)
 all_goals first|omega|(simp;done)|(intro c;exact absurd c (by decide))|(exact λ_=>⟨h.set rfl (by grind) hr,(g (by assumption)).1,congrArg (ER _ _) (whole d o (by assumption) (by assumption) (by assumption) (by assumption))⟩)|(cases b;done)|grind
def DC(p:Bv):Nat:=p.2.1.countP λf=>f.2.1
def UC(p:Bv):Nat:=p.2.1.countP λf=>f.2.2.2
theorem nV{a:Type}{l:S a}{i:Nat}{o n:a}{q:a->Bool}(h:l[i]?=Z o):(l.set i n).countP q+(if q o=V then 1 else 0)=l.countP q+(if q n=V then 1 else 0):=k!
theorem Lv{x:Bv×Int×BE}(h:U x.1.2.1<=16777216)(a:0<=x.2.1/\x.2.1<U x.1.2.1):Ap (Ik x) λr=>r=(x.1.1,x.1.2.1.set x.2.1.toNat x.2.2,x.1.2.2):=by refine AA (Aa (by simpa using h)) λr hr=>?_;have⟨hr,b,_⟩:=hr;subst hr;refine AA (AJ a.1 a.2) λ_ _=>AA (AJ a.1 a.2) λ_ _=>AB rfl
def core(f:BE):AT×Bool×Int:=(f.1,f.2.1,f.2.2.1)
def CF(l:S BE):S (AT×Bool×Int):=l.map core
theorem AIR{l:S BE}{i:Nat}{f g:BE}(h:l[i]?=Z f)(a:core g=core f):CF (l.set i g)=CF l:=by unfold CF;apply JR;grind
theorem tE{l m}(h:CF m=CF l){i:Nat}{f:BE}(a:m[i]?=Z f):∃g,l[i]?=Z g/\core g=core f:=by
 have:(CF m)[i]?=Z (core f):=by unfold CF;rw[List.getElem?_map,a];rfl
 rw[h]at this;unfold CF at this;grind
theorem AIQ{l m}(h:CF m=CF l):U m=U l:=by have:=E! U h;simpa[CF]using this
theorem sW{p}:DC p=(CF p.2.1).countP λc=>c.2.1:=by unfold DC CF;rw[List.countP_map];rfl
theorem Kn.congr{l m}{n}(h:CF m=CF l)(d:Kn l n):Kn m n:=by refine⟨λi f r b=>?_,λi j f g c s b q=>?_⟩;have⟨g,a,o⟩:=tE h b;have:=d.1 i g r a;grind[core,pT];have⟨e,a,o⟩:=tE h b;have⟨k,p,t⟩:=tE h q;have:=d.2 i j e k c s a p;grind[core]
theorem Pg.uniq{p}(h:Pg p){i j:Nat}{f g:BE}(a:p.2.1[i]?=Z f)(b:p.2.1[j]?=Z g)(e:f.1.1=g.1.1):f=g:=by have c:=h.2.2.2.2.2.2;grind
theorem X2{c:List (AT×Bool×Int)}{z:Int}{s:Bv}(h:c=CF s.2.1/\z=s.1/\0<=s.2.2/\s.2.2<s.2.1.length/\s.2.1.length<=64):Ap (Aj Rw s) λr=>c=CF r.2.1/\z=r.1/\0<=r.2.2/\r.2.2<r.2.1.length/\r.2.1.length<=64:=by
 refine AW (λs=>c=CF s.2.1/\z=s.1/\0<=s.2.2/\s.2.2<s.2.1.length/\s.2.1.length<=64) UC h (λs n=>?_);have⟨k,l,i,j,m⟩:=n;refine AA (AJ i j) λf q=>AK (λo=>?_) (λo=>AB ⟨k,l,i,j,m⟩);refine AA (AJ i j) λd t=>?_;have e:d=f:=k!
 subst e;refine AA (Lv d! ⟨i,j⟩) λp u=>?_;subst u;refine AP (λv=>?_) (λv=>AB ?_);grind;rw[(AY (x:=s.2.2+1))];refine⟨⟨?_,l,(pd (len (s.2.1.set s.2.2.toNat (d.1,d.2.1,d.2.2.1,false))) (a:=s.2.2+1) o!),(pZ (s.2.2+1) (b:=len (s.2.1.set s.2.2.toNat (d.1,d.2.1,d.2.2.1,false))) w!),by rw[Oy];exact m⟩,?_⟩;rw[k];exact(AIR (g:=(d.1,d.2.1,d.2.2.1,false)) q.1 rfl).symm;unfold UC;grind
theorem bX{x}:Ap (PO x) λr=>(r.2.2=0->Pg x/\Pg r.1/\CF r.1.2.1=CF x.2.1/\ny r.1 r.2.1)/\(Pg x->U x.2.1≠0->r.2.2=0):=by refine AA D4 λv g=>AO (λc=>AB ⟨n!,λh _=>?_⟩) (λc=>?_);grind;have b:=g.1 c;have e:=b;have⟨k,l,m,i,n,o⟩:=b;refine AP (λa=>AB ⟨n!,λ_ h=>N! a (by simpa[len]using h)⟩) (λa=>?_);simp only[len]at a;refine AA (X2 ⟨rfl,rfl,i,o!⟩) λp b=>?_;have⟨q1,q2,q3,q4,q5⟩:=b;refine AA (AJ q3 q4) λf d=>?_;have j:=AIQ q1;refine AB ⟨λ_=>⟨e,⟨d!,d!,d!,q3,.inr q4,?_⟩,q1.symm,_,f,d.1,rfl⟩,λ_ _=>rfl⟩;grind[Kn.congr]
def gi{x}:Ap (Mr x) λr=>Pg x.1->∀(i:Nat)(f:BE),x.1.2.1[i]?=Z f->f.1.1=x.2->f.2.1=Y->(∀g∈r.1.2.1,g∈x.1.2.1)/\(∀g∈x.1.2.1,g.2.1=ζ->g∈r.1.2.1)/\DN r.1.2.1<=DN x.1.2.1:=by
 unfold Mr;refine AA D4 λv C=>AO (λn=>AB λo=>N! (C.2 o) (by simp[n])) (λn=>?_);have o:=C.1 n;have V_:=o.2.1;have W_:=o.2.2.1;refine AA (Gr o!) λi I=>?_;have⟨T,L,M,N⟩:=I;refine AC (λn=>AB λ_ j f p e _=>N! ⟨j,f,p,e⟩ (N n)) (λJ=>?_);have⟨k,K,u⟩:=M o!;refine AA (AJ o! L) λw S=>?_;have D:w=k:=by grind[Option.some.inj]
 subst D;refine AK (λz=>AB λ_ j f p e l=>?_) (λz=>?_);have:=o.uniq p K (by rw[e,u]);subst this;rw[z]at l;cases l;have R:=AY (x:=i+1);refine AA (Bg) λa E=>AA (Bg o! b! i!) λb F=>?_;have U:=E.2;have O:=F.2;simp[len]at O;refine AA (Aa (by rw[Bj];omega)) λc t=>?_;have Q:=t.2.1;rw[Bj]at Q;refine AA (Aa o!) λd G=>?_;have q:∀(j:Nat)(f:BE),x.1.2.1[j]?=Z f->f.1.1=x.2->f.2.1=Y->(∀g∈d,g∈x.1.2.1)/\(∀g∈x.1.2.1,g.2.1=ζ->g∈d)/\DN d<=DN x.1.2.1:=by
  intro j f p e l;have y:d=x.1.2.1.take i.toNat++x.1.2.1.drop (i.toNat+1):=by grind[List.take_of_length_le,List.length_drop]
  refine⟨λg A=>?_,λg A H=>?_,?_⟩;grind[List.mem_of_mem_take,List.mem_of_mem_drop];rotate_left 1;have q:x.1.2.1.countP (·.2.1)=(x.1.2.1.take i.toNat).countP (·.2.1)+(x.1.2.1.drop i.toNat).countP (·.2.1):=by rw[<-List.countP_append,DY]
  have s:(x.1.2.1.drop (i.toNat+1)).countP (·.2.1)<=(x.1.2.1.drop i.toNat).countP (·.2.1):=by rw[show i.toNat+1=i.toNat+1 from rfl,<-J5];exact(pr 1 _).countP_le
  unfold DN;rw[y,List.countP_append];omega;have⟨m,B⟩:=C2 A;rw[y,Am];rcases Qr m i.toNat with h|h|h;exact .inl (BN (i:=m) (by rw[IJ h];exact B));grind[Option.some.inj];exact .inr (BN (i:=m-(i.toNat+1)) (by rw[J6];rw[show i.toNat+1+(m-(i.toNat+1))=m by omega];exact B))
 refine AA (P:=λ_=>True) (AC (y? trivial) (y? trivial)) λX _=>AA (P:=λ_=>True) (AC (y? trivial) (y? trivial)) λ_ _=>AB λ_=>q
theorem eE{x:Bv×Int×Int}:Ap (QD x) λr=>r.2=0->Pg x.1/\DC r.1<=DC x.1/\(∀(i:Nat) (f:BE),x.1.2.1[i]? =some f->f.1.1=x.2.1->f.2.1=true->f.1.2.1=x.2.2->DC r.1<DC x.1)/\(∀g∈r.1.2.1,∃f∈x.1.2.1,f.1.1=g.1.1/\f.1=g.1)/\ ∀f∈x.1.2.1,f.1.1≠x.2.1->f∈r.1.2.1:=by
 refine AA D4 λv C=>?_;refine AO (λb=>AB (λo=>absurd o (by decide))) (λb=>?_);have l:=C.1 b;have J:=l.2.2.1;have I:=l.2.1;refine AA (Gr (by dsimp only;omega)) λi B=>?_;have⟨G,D,E,H⟩:=B;refine AC (λb=>AB (λo=>absurd o (by decide))) (λb=>?_);have⟨f,c,d⟩:=E (by omega);refine AA (AJ (by omega) D) λg z=>?_;have e:g=f:=by grind
 subst e;refine AC (λb=>AB (λo=>absurd o (by decide))) (λA=>?_);refine AO (λs=>AB (λ_=>⟨l,Al _,λj k m a h _=>?_,λg z=>⟨g,z,rfl,rfl⟩,λf c _=>c⟩)) (λs=>?_)
 ·have:=l.uniq m c (by rw[a,d]);subst this;rw[s]at h;cases h
 refine AA (P:=λn:BE=>(g.1.2.1=x.2.2->n.2.1=false)/\n.1=g.1) ?_ λn hn=>?_
 ·repeat' with_reducible first|refine AC ?_ ?_<;>intro b|refine AO ?_ ?_<;>intro b|refine AP ?_ ?_<;>intro b|refine AK ?_ ?_<;>intro b|(refine BL ?_;try dsimp only)|refine Bp ?_|refine B8 ?_|refine AB ?_|(refine AM ?_ (AJ ?_ ?_);rintro r ⟨hr,F⟩)
  all_goals grind
 ·refine AA (Lv (by dsimp only;omega) ⟨by dsimp only;omega,by dsimp only;omega⟩) λp y=>?_;subst y;refine AB λ_=>?_;have u:=nV (q:=λf:BE=>f.2.1) (n:=n) c;rw[s]at u;refine⟨l,?_,λj k m a h t=>?_,ACT c hn.2,λk m w=>yY c k m (by rw[d];exact w)⟩
  ·unfold DC;dsimp only;simp at u;split at u<;>omega
  ·have:=l.uniq m c (by rw[a,d]);subst this;rw[hn.1 t]at u;unfold DC;dsimp only;simp at u;omega
theorem Sl{x}:Ap (DF x) λr=>r.2=0->Hg x/\r.1=IN x:=by have⟨v,b,h⟩:=OF (x:=x);by_cases a:v=0;exact⟨_,cD (h a),λ_=>⟨h a,rfl⟩⟩;unfold DF;rw[b,AD];exact AL (y? λe=>N! e a) (N! · a)
theorem oB:I3 ()=Z (jc 256):=by unfold I3;rw[yk g!];rfl
theorem Xy{x:BZ}{s:Int×AT×AT}(h:0<=s.1/\s.1<=16/\U x=256):Ap (Aj (Gz x) s) λr=>∀u,r=.inl u->u.1=4:=by
 refine AW (λs=>0<=s.1/\s.1<=16/\U x=256) (λs=>(16-s.1).toNat) h (λs e=>?_);unfold Gz;obtain⟨g,i,j⟩:=e;have b:=AY (x:=s.1*13);have c:=AY (x:=12+s.1*13);have d:=AY (x:=12+s.1*13+1);rw[b,c,d];repeat' with_reducible first|intro a|apply AC|apply AP|apply AK|apply AB|(refine AM ?_ (Dc ?_ ?_);intro r hr)|(refine AM ?_ (Ca ?_ ?_ ?_);rintro r ⟨hr,f⟩)|(refine AM ?_ (RY ?_ ?_);rintro r ⟨hr,f⟩)
 all_goals try dsimp only[len]at*
 all_goals first|omega|grind[AY]
theorem bM{x:BZ}(h:U x<=1099511627776):Ap (Ek x) λr=>(r.2=0->Hg r.1/\x=IN r.1/\x≠jc 256)/\(r.2=7->x=jc 256):=by
 unfold Ek;rw[oB,AD];repeat' with_reducible first|intro b|apply AP|apply AL|apply AK|(apply BB;try dsimp only)|(apply Ax;try dsimp only)|(apply BG<;>(intro u c;try subst c))|apply AB|(refine AM ?_ (Cm ?_);intro r hr)|(refine AM ?_ (QB ?_);intro r hr)|(refine AM ?_ (Xy ?_);intro r hr)|(apply AA (Sl);intro r hr)|(refine AM ?_ (Ca ?_ ?_ ?_);rintro r ⟨hr,d⟩)
 all_goals try dsimp only[len]at*
 all_goals first|trivial|omega|(exact⟨n!,n!⟩)|grind
theorem jO{x}:Ap (DR x) λr=>r=(x,0,Gd.all (Y,[])):=by
 unfold DR;exact x!
def Rd(s:BZ)(p:Int)(q:AT):Prop:=q.1=p/\((s=jc 256/\q=(p,0,Gd.all (Y,[])))\/(Hg q/\s=IN q/\s≠jc 256))
theorem Yt{x:BZ×Int}(h:U x.1<=1099511627776):Ap (Cw x) λr=>r.2=0->Rd x.1 x.2 r.1:=by refine AC (y? n!) (λ_=>AC (y? n!) (λ_=>AA (bM h) λv c=>AP (λd=>?_) (λ_=>AP (λf=>AL (y? n!) (λb=>AB λa=>⟨b,.inr (c.1 a)⟩)) (λhn=>AB λa=>N! a hn))));exact AA jO λw e=>AB λ_=>by rw[e];exact⟨rfl,.inl ⟨c.2 d,rfl⟩⟩
theorem eG{x:Bt×Int×Int×BZ}(h:U x.2.2.2<=1099511627776):Ap (Lw x) λr=>r.2=0->Rd x.2.2.2 x.2.1 r.1:=by
 unfold Lw;repeat' with_reducible first|intro a|apply AC|apply AO|apply AL|apply AK|apply AB|(apply AA (FY);intro r hr)|(refine AM ?_ (Yt ?_);intro r hr)|(refine AM ?_ (AJ ?_ ?_);rintro r ⟨hr,c⟩)
 all_goals try dsimp only[len]at*
 all_goals first|assumption|omega|(intro b;exact N! b v!)|(intro b;exact N! b g!)|(intro _;exact hr v!)|grind
theorem UD{x}:Ap (I5 x) λr=>(r.2=0->Ow x.2/\G1 x.1.2.2 x.2.2.1=Z x.2.2.2.1)/\(Ow x.2->x.2.1=x.1.1->G1 x.1.2.2 x.2.2.1=Z x.2.2.2.1->r=((x.1.1,x.1.2.1,XK x.1.2.2 x.2.2.1 x.2.2.2.2),0)):=by unfold I5;refine AA UE λv g=>AO (λe=>AB ⟨n!,λh=>N! (g.2 h) (by simp[e])⟩) (λe=>?_);have b:=g.1 e;refine AL (λe=>AB ⟨n!,λ_ h=>N! h e⟩) (λj=>?_);obtain⟨c,i,_⟩:=Dc (a:=x.1.2.2) b.2.2.1 b.2.2.2.1;rw[i];refine BL (BL (AK (λd=>AB ⟨n!,λ_ _ h=>?_⟩) (λd=>BL (BL (AB ⟨λ_=>⟨b,?_⟩,λ_ _ _=>rfl⟩)))));rw[Ba h]at d;simp at d;obtain⟨k,l⟩:=c;simp at d;rw[d.1,d.2]
theorem ABi{x}{e}(h:Hg x)(d:MI e)(f:e.2.1=1\/e.2.1=2)(b:e.2.2.2.2.2.2.1.1=x.1)(g:e.2.2.2.2.1=x.2.1)(c:G1 x.2.2 e.2.2.2.2.2.2.1.2.1=Z e.2.2.2.2.2.2.1.2.2.1):JE (x,e)=Z (upd x e,0):=by
 suffices i:Ap (JE (x,e)) λr=>r=(upd x e,0) by obtain⟨r,hr,rfl⟩:=i;exact hr
 have a:Ow e.2.2.2.2.2.2.1:=by grind[MI,Va]
 refine AA CC λv j=>AO (λa=>N! (j.2 d) (by simp[a])) (λ_=>AA CO λw k=>AO (λa=>N! (k.2 f) (by simp[a])) (λ_=>?_));rw[tF h];refine BL (AL (N! rfl ·) (λ_=>AL (N! b ·) (λ_=>AL (N! g ·) (λ_=>AA UD λr hr=>?_))));rw[hr.2 a b c];exact AL (N! rfl ·) (y? rfl)
theorem dz{x:AE×S AE}(h:U x.2<=16777215):Ap (Lq x) λr=>r=x.1::x.2:=by
 unfold Lq;exact x!
def ID(L:S AE):Prop:=∀(i:Nat)(e:AE),L[i]?=Z e->e.1=1+i/\MI e
theorem De.num{l}(h:De l)(a:l.1=1):ID l.2.1:=λi e b=>by have:=h.2.2.2.2.2 i e b;rw[a]at this;exact this
theorem ID.take{L}(h:ID L)(k:Nat):ID (L.take k):=λi e a=>h i e k!
theorem fB{L:S AE}{k:Nat}(h:k<U L):L.take (k+1)=L.take k++[L[k]]:=by rw[Cr,As h];rfl
theorem ID.at{L}(h:ID L){k:Nat}(a:k<U L):L[k].1=1+k/\MI L[k]:=h k _ (As a)
theorem aK{L}(h:ID L)(p:Int):Be L p<=U L:=by
 have:=ou (p:=p) (b:=U L+1) L 0 o! λe c=>by have⟨i,a⟩:=C2 c;have:=(h i e a).1;have:=Cp a;omega
 unfold Be;omega
theorem Re{L}(h:ID L)(p:Int)(j:Nat):∀k:Nat,j<=k->Be (L.take j) p<=Be (L.take k) p
 |0,hj=>by rw[show j=0 by omega];exact Ae _
 |k+1,hj=>by by_cases e:j=k+1;rw[e];exact Ae _;have c:=Re h p j k o!;by_cases a:k<U L;rw[fB a,Pe];have b:=aK (h.take k) p;have d:=(h.at a).1;rw[BQ]at b;split<;>omega;rw[BO (l:=L) (i:=k+1) o!];rwa [BO (l:=L) (i:=k) o!]at c
theorem xz{L}(h:ID L){p}{i:Nat}{e:AE}(a:L[i]?=Z e)(c:cC p e=V){k:Nat}(d:i<k):e.1<=Be (L.take k) p:=by have b:=Cp a;have:=Re h p (i+1) k d;rw[fB b,Pe,(Ba ((As b).symm.trans a):L[i]=e),C! c]at this;exact this
theorem wy{L}(h:ID L){p}{j k}(g:Be (L.take j) p=Be (L.take k) p):((L.take k).drop j).filter (cC p)=[]:=by refine List.filter_eq_nil_iff.2 λe f d=>?_;obtain⟨i,a⟩:=C2 f;rw[J6]at a;have b:=Cp a;rw[BQ]at b;rw[IJ o!]at a;have:=xz h a d (k:=k) o!;have c:=aK (h.take j) p;have:=(h _ _ a).1;rw[BQ]at c;omega
theorem vN(L:S AE){j k:Nat}(h:j<=k):L.take k=L.take j++(L.take k).drop j:=by
 conv=>lhs;rw[<-DY j (L.take k)]
 rw[KX,Qs h]
theorem iW{L:S AE}{p}{j k:Nat}(h:j<=k):st (L.take k) p=(((L.take k).drop j).filter (cC p)).foldl upd (st (L.take j) p):=by
 conv=>lhs;rw[vN L h]
 exact ACV _ _ _
theorem mB{L}(h:ID L){p}{j k}(b:Be (L.take j) p=Be (L.take k) p):st (L.take j) p=st (L.take k) p:=by rcases Nat.le_total j k with a|a;rw[iW a,wy h b];rfl;rw[iW a,wy h b.symm];rfl
theorem si{L}(h:ID L){p:Int}:∀{k:Nat},0<Be (L.take k) p->∃(i:Nat)(e:AE),i<k/\L[i]?=Z e/\cC p e=V/\(i:Int)+1=Be (L.take k) p
 |0,hk=>N! hk (by simp[Be])
 |k+1,hk=>by by_cases b:k<U L;rw[fB b,Pe]at hk⊢;by_cases a:cC p L[k]=V;rw[C! a];exact⟨k,L[k],o!,As b,a,by have:=(h.at b).1;omega⟩;rw[D! a]at hk⊢;obtain⟨i,e,d,r⟩:=si h hk;exact⟨i,e,o!,r⟩;rw[BO (l:=L) (i:=k+1) o!]at hk⊢;rw[<-BO (l:=L) (i:=k) o!]at hk;obtain⟨i,e,d,f,g,c⟩:=si h hk;rw[BO (l:=L) (i:=k) o!]at c;exact⟨i,e,o!,f,g,c⟩
theorem TJ{L}(h:ID L)(p:Int)(k:Nat):0<=Be (L.take k) p:=Re h p 0 k (BR _)
theorem WZ{L}(h:ID L){p}{k}:Be (L.take (Be (L.take k) p).toNat) p=Be (L.take k) p:=by
 have f:=TJ h p k;by_cases d:Be (L.take k) p=0;rw[d];rfl;obtain⟨i,e,g,a,c,hn⟩:=si h (by omega:0<Be (L.take k) p);have b:(Be (L.take k) p).toNat=i+1:=o!
 have:=xz h a c (k:=i+1) o!;have:=aK (h.take (i+1)) p;have:=(h i e a).1;rw[b];rw[BQ]at*;omega
theorem ZP{L}(h:ID L){p:Int}(b:0<=p/\p<64)(d:U L<=1099511627776):∀k:Nat,Hg (st (L.take k) p)
 |0=>⟨b.1,b.2,Ae 0,(by decide:(0:Int)<=1099511627776),λi=>⟨⟨BR 12,.inr rfl⟩,λ_=>rfl⟩⟩
 |k+1=>by
  have a:=ZP h b d k;by_cases c:k<U L;rw[fB c,ABf];split;rename_i m;have⟨g,j⟩:=h.at c;have e:Ow L[k].2.2.2.2.2.2.1:=by grind[MI,Va,cC]
  refine⟨a.1,a.2.1,by show 0<=L[k].1;omega,by show L[k].1<=_;omega,λi=>⟨?_,λf=>?_⟩⟩;show G9 (XK _ _ _ i);unfold XK;split;exact e.2.2.2.2.2;exact(a.2.2.2.2 i).1;have:L[k].1=0:=f;omega;exact a;rw[BO (l:=L) (i:=k+1) o!];rwa [BO (l:=L) (i:=k) o!]at a
def OKs:AT->S AE->Prop
 |_,[]=>True
 |x,e::r=>(Hg x/\MI e/\(e.2.1=1\/e.2.1=2)/\e.2.2.2.2.2.2.1.1=x.1/\e.2.2.2.2.1=x.2.1/\G1 x.2.2 e.2.2.2.2.2.2.1.2.1=Z e.2.2.2.2.2.2.1.2.2.1)/\OKs (upd x e) r
theorem OKs.snoc:∀{x:AT}{l:S AE}{e:AE},OKs x l->OKs (l.foldl upd x) [e]->OKs x (l++[e])
 |_,[],_,_,h=>h
 |_,_::_,_,h,g=>⟨h.1,OKs.snoc h.2 g⟩
theorem ux{n}{L}(h:ID L)(g:LI n L){p:Int}(o:0<=p/\p<64)(m:U L<=1099511627776)(j:Nat):∀k:Nat,j<=k->OKs (st (L.take j) p) (((L.take k).drop j).filter (cC p))
 |0,hj=>by rw[show j=0 by omega];exact trivial
 |k+1,hj=>by
  by_cases e:j=k+1;rw[e,WI (by rw[BQ];omega)];exact trivial;have c:=ux h g o m j k o!;by_cases b:k<U L;rw[fB b,lM (by rw[BQ];omega),GO,Mb,lP];split;rename_i q;refine c.snoc ⟨?_,O!⟩;rw[<-iW o!];have r:=g k _ (As b);have a:(L[k].2.1=1\/L[k].2.1=2)/\L[k].2.2.2.2.2.2.1.1=p:=by simpa[cC]using q
  have⟨d,f⟩:=r.1 a.1;rw[a.2]at d f;exact⟨ZP h o m k,(h.at b).2,a.1,by rw[a.2,VQ],by rw[d,Kb],f⟩;rw[Do];exact c;rw[BO (l:=L) (i:=k+1) o!];rwa [BO (l:=L) (i:=k) o!]at c
theorem lZ{L}(h:ID L){p}{m j k:Nat}(l:m<=j)(n:Be (L.take m) p=Be (L.take j) p):((L.take k).drop m).filter (cC p)=((L.take k).drop j).filter (cC p):=by rw[<-DY (j-m) ((L.take k).drop m),GO,J5,show m+(j-m)=j by omega];refine(E! (· ++_) (List.filter_eq_nil_iff.2 λe g f=>?_)).trans (CG _);obtain⟨i,a⟩:=C2 g;have c:=Cp a;rw[BQ]at c;rw[IJ o!,J6]at a;have b:=Cp a;rw[BQ]at b;rw[IJ o!]at a;have:=xz h a f (k:=j) o!;have d:=aK (h.take m) p;have:=(h _ _ a).1;rw[BQ]at d;omega
def AJQ{n}{l}(t:De l)(C:l.1=1)(I:LI n l.2.1){p:Int}(T:0<=p/\p<64){j k:Nat}(A:Be (l.2.1.take j) p<=Be (l.2.1.take k) p):Ap (Q1 (l,p,Be (l.2.1.take k) p,Be (l.2.1.take j) p)) λr=>r=(((l.2.1.take k).drop j).filter (cC p),0):=by
 have b:=t.num C;have O:=TJ b p k;have Q:=TJ b p j;have R:=t.2.2.1;refine AA Bb λv B=>AO (λa=>N! (B.2 t) (by simp[a])) (λ_=>AC (N! · d!) (λ_=>AC (N! · d!) (λ_=>AC (N! · d!) (λ_=>AC (N! · d!) (λ_=>AA (P:=λr=>r=.inr (((l.2.1.take k).drop j).filter (cC p),Be (l.2.1.take j) p)) ?_ λr hr=>?_)))))
 ·refine Ce (λs=>∃m:Nat,m<=k/\s=(((l.2.1.take k).drop m).filter (cC p),Be (l.2.1.take m) p)/\Be (l.2.1.take j) p<=s.2) (·.2.toNat) ⟨k,Al _,by rw[WI (by rw[BQ];omega)];rfl,A⟩ ?_;rintro s ⟨m,S,rfl,x⟩;unfold UH;dsimp only at x⊢;refine AC (λa=>?_) (λa=>k? ?_)
  ·obtain⟨i,e,K,q,o,J⟩:=si b (by omega:0<Be (l.2.1.take m) p);have z:=Cp q;have c:(e.2.1=1\/e.2.1=2)/\e.2.2.2.2.2.2.1.1=p:=by simpa[cC]using o
   refine AA HH λg D=>?_;have F:=D.2 t d! d!;have⟨_,_,u,_⟩:=D.1 F;dsimp only at u;rw[C,show(Be (l.2.1.take m) p-1).toNat=i by omega,q]at u;rw[F,<-Ba u];refine AL (N! rfl ·) (λ_=>AA CO λw N=>AO (λa=>N! (N.2 c.1) (by simp[a])) (λ_=>AL (N! c.2 ·) (λ_=>?_)));have y:=EM (cC p) ((l.2.1.take k).drop m);rw[DB,BQ]at y;have d:=((I i e q).1 c.1).1;rw[c.2]at d;have E:=WZ b (p:=p) (k:=m);rw[show(Be (l.2.1.take m) p).toNat=i+1 by omega]at E;have L:=WZ b (p:=p) (k:=j);have M:=Re b p (Be (l.2.1.take j) p).toNat i o!;refine AA (dz d!) λf H=>y! ⟨i,o!,?_,d!⟩ (by dsimp only;rw[d];have:=aK (b.take i) p;rw[BQ]at this;omega)
   rw[d,H,<-lZ b (m:=i+1) (j:=m) o! E,Tq (l:=l.2.1.take k) (i:=i) (by rw[BQ];omega),Mb];have G:(l.2.1.take k)[i]'(by rw[BQ];omega)=e:=by rw[mw];exact Ba ((As z).symm.trans q)
   rw[G,C! o]
  have e:Be (l.2.1.take m) p=Be (l.2.1.take j) p:=o!
  rw[e];rcases Nat.le_total m j with h|h;rw[lZ b h e];rw[lZ b h e.symm]
 subst hr;exact Ax (AC (N! · d!) (y? rfl))
def AIe{n:Int}{l:AZ}(f:De l)(C:l.1=1)(F:LI n l.2.1){p:Int}(t:0<=p/\p<64){j k:Nat}:Ap (Q9 (l,(st (l.2.1.take j) p,Be (l.2.1.take k) p))) λr=>r=(if Be (l.2.1.take j) p<=Be (l.2.1.take k) p then st (l.2.1.take k) p else st (l.2.1.take j) p,0):=by
 generalize G:(if Be (l.2.1.take j) p<=Be (l.2.1.take k) p then st (l.2.1.take k) p else st (l.2.1.take j) p)=y;have d:=f.num C;have S:=TJ d p k;have T:=f.2.2.1;have q:=ZP d t o!;suffices Q:Ap (RD (l,(st (l.2.1.take j) p,Be (l.2.1.take k) p))) λr=>r.1=y/\r.2.2=0 from AA Q λr hr=>AB (by rw[hr.1,hr.2]);refine AA (P:=λr=> ∃b:List AE,r=(b,0)/\b.length<=4096/\OKs (st (l.2.1.take j) p) b/\b.foldl upd (st (l.2.1.take j) p)=y) ?_ λr hr=>?_;refine AA Bb λv w=>AO (λa=>absurd (w.2 f) (by simp[a])) (λ_=>?_);rw[tF (q j)];refine BL (AL (λa=>absurd rfl a) (λ_=>AC (λa=>absurd a d!) (λ_=>AC (λa=>AB ?_) (λa=>?_))));rw[Kb]at a;refine⟨[],rfl,q!,trivial,?_⟩;rw[<-G];split;exact mB d (by dsimp only at a;omega);rfl;rw[Kb]at a;have c:j<=k:=by rcases Nat.le_total j k with h|h;exact h;have:=Re d p k j h;dsimp only at a;omega
 have e:((st (l.2.1.take j) p).1,(Be (l.2.1.take k) p,(st (l.2.1.take j) p).2.1))=(p,(Be (l.2.1.take k) p,Be (l.2.1.take j) p)):=by rw[VQ,Kb]
 dsimp only at e⊢;rw[e];refine AA (AJQ f C F t (by dsimp only at a;omega)) λr hr=>AB ⟨_,hr,?_,ux d F t o! j k c,by rw[<-G,if_pos (by dsimp only at a;omega)];exact(iW c).symm⟩;have o:=EM (cC p) ((l.2.1.take k).drop j);rw[DB,BQ]at o;omega
 ·obtain⟨b,rfl,m,O,u⟩:=hr;refine AL (λa=>absurd rfl a) (λ_=>AA (P:=λr=> ∃z,r= .inr (y,z)) ?_ λr hr=>?_)
  ·refine Ce (λ(s:Int×AT×AT)=> ∃A B,b=A++B/\s.1=A.length/\OKs s.2.1 B/\B.foldl upd s.2.1=y) (λ(s:Int×AT×AT)=>((b.length:Int)-s.1).toNat) ⟨[],b,rfl,rfl,O,u⟩ ?_;rintro⟨i,x,z⟩ ⟨A,B,rfl,D,E,g⟩;dsimp only at D E g;subst D;unfold UK;dsimp only[len];rw[Ac]at m;refine AC (λa=>?_) (λa=>k? ?_)
   ·obtain _|⟨e,B⟩:=B;simp at a;have R:ix (A++e::B) (A.length:Int)=some e:=by unfold ix;rw[if_pos o!,CA,Cl (Al _),G5];rfl
    obtain⟨⟨H,I,J,K,L,M⟩,N⟩:=E;rw[R,AD,ABi H I J K L M,AD,AY (x:=(A.length:Int)+1)];refine AL (λa=>absurd rfl a) (λ_=>y! ⟨A++[e],B,q!,q!,N,g⟩ d!)
   obtain _|⟨e,B⟩:=B;exact⟨z,by rw[<-g];rfl⟩;simp at a;omega
  obtain⟨z,rfl⟩:=hr;exact Ax (AB ⟨rfl,rfl⟩)
variable {B:pR}
def KS(B:pR)(k m:AQ):Prop:=m.1=k.1/\LX k.2.2.1 m.2.2.1/\De m.2.2.1/\m.2.2.2.2.1=k.2.2.2.2.1/\m.2.2.2.2.2.1=k.2.2.2.2.2.1/\SK B m
def KS.refl{k}(h:SK B k)(a:De k.2.2.1):KS B k k:=⟨rfl,LX.refl _,a,rfl,rfl,h⟩
def KS.trans{a b c}(h:KS B a b)(g:KS B b c):KS B a c:=⟨g.1.trans h.1,h.2.1.trans g.2.1,g.2.2.1,g.2.2.2.1.trans h.2.2.2.1,g.2.2.2.2.1.trans h.2.2.2.2.1,g.2.2.2.2.2⟩
theorem LX.of{a b:AZ}(h:b.1=a.1)(g:b.2.1=a.2.1)(d:a.2.2<=b.2.2):LX a b:=⟨h,d,[],by rw[g,Do]⟩
def KI.of{k m:AQ}(h:KI B k)(a:m.1=k.1)(b:m.2.2.1.2.1=k.2.2.1.2.1)(c:m.2.2.2.1=k.2.2.2.1)(e:m.2.2.2.2.2.1=k.2.2.2.2.2.1)(d:m.2.2.2.2.2.2=k.2.2.2.2.2.2):KI B m:=by unfold KI RM PH;rw[a,b,c,d,e];exact h
theorem oC{x:AZ×Int}(h:De x.1)(c:x.2<=x.1.1+U x.1.2.1-1):Ap (EP x) λr=>r.2=0:=by refine AA Bb λv d=>AO (λa=>?_) (λ_=>?_);grind;refine AA Du λe b=>?_;rw[h.last]at b;exact AC (N! · o!) (y? rfl)
def KH{x:AQ×Int}(h:SK B x.1)(c:De x.1.2.2.1):Ap (GI x) λr=>KS B x.1 r/\r.2.2.2.1=x.1.2.2.2.1/\(x.2<=x.1.2.2.1.1+U x.1.2.2.1.2.1-1->x.2<=r.2.2.1.2.2):=by unfold GI;refine AA Em λv d=>?_;have d:=d c;refine AA (Hw.and (oC c (by dsimp only;split<;>omega))) λw a=>?_;have⟨i,e,j,k,f⟩:=a.1 a.2;refine Bp (AP (λb=>AB ⟨⟨rfl,LX.of j e k,i,rfl,rfl,SB.sk h.sb (h.ki.of rfl e rfl rfl rfl)⟩,rfl,λg=>?_⟩) (N! a.2 ·));dsimp only at f⊢;split at f<;>omega
def Zu{x:AQ×Int×Int}(h:SK B x.1)(y:∃f∈x.1.2.2.2.1.2.1,f.1.1=x.2.1/\f.1.2.1=x.2.2/\f.2.1=ζ):Ap (KK x) λr=>r.2=0->VK x.1/\KS B x.1 r.1/\DC r.1.2.2.2.1<=DC x.1.2.2.2.1/\∀(i:Nat)(f:BE),x.1.2.2.2.1.2.1[i]?=δ f->f.1.1=x.2.1->f.2.1=ζ->f.1.2.1=x.2.2->DC r.1.2.2.2.1<DC x.1.2.2.2.1:=by
 unfold KK;refine AA (Bz h.sb) λv Y_=>AO (λb=>AB n!) (λb=>?_);have K:=Y_ b;refine AC (λb=>AB n!) (λ_=>AC (λb=>AB n!) (λ_=>AC (λb=>AB n!) (λ_=>AA Em λ_ _=>AC (λb=>AB n!) (λ_=>AA Fq λi V_=>AA (P:=λs=>(∃u,s=.inl u/\u.1≠0)\/∃u,s=.inr u/\(DC u.1<=DC x.1.2.2.2.1/\∀(i:Nat)(f:BE),x.1.2.2.2.1.2.1[i]?=δ f->f.1.1=x.2.1->f.2.1=ζ->f.1.2.1=x.2.2->DC u.1<DC x.1.2.2.2.1)/\(∀g∈u.1.2.1,∃f∈x.1.2.2.2.1.2.1,f.1.1=g.1.1/\f.1=g.1)/\∀f∈x.1.2.2.2.1.2.1,f.1.1≠x.2.1->f∈u.1.2.1) ?_ λs X=>?_))));refine AC (λb=>?_) (λb=>AB (.inr ⟨_,rfl,⟨Al _,λj f C A _ _=>N! (V_.2.2.2 K.2.2.2.1 ⟨j,f,C,A⟩) b⟩,λg U=>⟨g,U,rfl,rfl⟩,λf m _=>m⟩));grind[AA,eE,AL,AB];rcases X with⟨u,rfl,p⟩|⟨u,rfl,p,o,E⟩;exact BB (AB λc=>N! c p);apply Ax;refine AA (GH h.sb) λa J=>AL (λb=>AB (N! · b)) (λb=>AB λ_=>?_);have D:=((J b).2.1).ph;have⟨_,⟨a1,a2,a3,a4,a5,a6,a7,a8,e,F,e2,G,q,Q,R,S⟩,_⟩:=J b;have⟨f,m,H,I,T⟩:=y;have⟨q0,w,L,M⟩:=S rfl;have hq:=h.ki.fd f m;have d:=E! (·.2.1) ((h.ki.2.1 x.2.1 o! o!).1 f m H);rw[Kb]at d;refine⟨K,⟨a1,a2,a3,a5,a6.2.1 rfl,a8.1,a8.2.1,a8.2.2,?_⟩,p⟩;have t:RM B.2 (a.1.1,a.1.2.1,a.1.2.2.1,u.1,a.1.2.2.2.2):=by
  obtain⟨j,C⟩:=C2 m;have W_:DN u.1.2.1<DN x.1.2.2.2.1.2.1:=p.2 j f C H T I;have n:=h.ki.rm;obtain⟨N,O⟩:=D;have p3:DN a.1.2.2.2.1.2.1=DN x.1.2.2.2.1.2.1:=by rw[a4]
  dsimp only at O;rw[D! g!]at O;have r1:=n.1;have Z_:=n.2;refine⟨d!,?_⟩;unfold PH at N Z_⊢;dsimp only at N⊢;have Q:TW a.1.2.2.2.2.2.1=TW x.1.2.2.2.2.2.1:=by rw[a6.2.1 rfl]
  have R:θ a.1.2.2.2.2.2.2.2=θ x.1.2.2.2.2.2.2.2:=by rw[a7]
  omega
 refine⟨?_,?_,?_,t⟩;dsimp only at G q⊢;rw[a1,F];have k:=E! (·.1) q;have l:=E! (·.2.1.1) q;dsimp only at k l;refine h.ki.1.app ⟨λh=>o!,λ_=>?_,λh=>o!⟩;rw[k,l,<-I];exact d;dsimp only at G L M⊢;rw[a1,a7,F,M];exact(h.ki.2.1.written o! o! o! o E L).app o!;dsimp only;rw[a1,a7];exact h.ki.fd.sub o
def gl{x}(h:SK B x):Ap (Mu x) λr=>r.2.2.2=0->VK x/\KS B x r.1/\(r.2.2.1=V->DC r.1.2.2.2.1=DC x.2.2.2.1/\∃(i:Nat)(f:BE),r.1.2.2.2.1.2.1[i]?=Z f/\f.1=r.2.1/\f.2.1=V/\r.2.1.2.1<=r.1.2.2.1.2.2):=by
 unfold Mu;refine AA (Bz h.sb) λv O=>AO (λn=>AB n!) (λn=>?_);have c:=O n;refine AC (λn=>AB (λ_=>⟨c,KS.refl h c.2.2.1,λu=>by cases u⟩)) (λm=>AA bX λw D=>?_);have⟨_,F,G,Q⟩:=D.1 (D.2 c.2.2.2.1 (by have:=c.2.2.2.1.1;simp[len]at m;omega));have H:∀g∈w.1.2.1,∃f∈x.2.2.2.1.2.1,core g=core f:=λg b=>by grind[List.getElem?_of_mem,tE,List.mem_of_getElem?]
 have I:∀f∈x.2.2.2.1.2.1,∃g∈w.1.2.1,core g=core f:=λf l=>by grind[List.getElem?_of_mem,tE,List.mem_of_getElem?]
 have y:∀{f g:BE},core f=core g->f.1=g.1/\f.2.1=g.2.1:=λe=>⟨E! (·.1) e,E! (·.2.1) e⟩
 have k1:∀g∈w.1.2.1,∃f∈x.2.2.2.1.2.1,f.1.1=g.1.1/\f.1=g.1:=λg b=>by have⟨f,l,e⟩:=H g b;exact⟨f,l,by rw[(y e).1],by rw[(y e).1]⟩
 have P:∀f∈x.2.2.2.1.2.1,f.2.1=V->∃g∈w.1.2.1,g.1.1=f.1.1/\g.2.1=V:=λf l o=>by have⟨g,b,e⟩:=I f l;exact⟨g,b,by rw[(y e).1],by rw[(y e).2,o]⟩
 refine AA Fq λi A=>?_;have E:=A.2.2.2 F Q;refine AA (AJ E A.2.1) λf l=>?_;have a:KI B (x.1,x.2.1,x.2.2.1,w.1,x.2.2.2.2):=⟨h.ki.1,h.ki.2.1.frames k1 P,h.ki.fd.sub k1,by
  have o:DC w.1=DC x.2.2.2.1:=by rw[sW,sW,G]
  have hr:=h.ki.rm;unfold RM PH DN at*;unfold DC at o;dsimp only at hr o⊢;exact⟨hr.1,o!⟩⟩
 apply AO<;>intro n;have⟨_,N,p,L⟩:=A.2.2.1 E;have M:N=f:=by have:=l.1;rw[p]at this;exact Ba this
 subst M;refine AA gi λd o=>AB λ_=>⟨c,⟨rfl,LX.refl _,c.2.2.1,rfl,rfl,h.1,h.2.1,h.2.2.1,?_⟩,λu=>by cases u⟩
 have⟨C,J,K⟩:=o F _ _ p L n;exact⟨h.ki.1,a.2.1.frames (λg b=>⟨g,C g b,rfl,rfl⟩) (λg b t=>⟨g,J g b t,rfl,t⟩),a.fd.sub λg b=>⟨g,C g b,rfl,rfl⟩,a.rm.1,by have:=a.rm.2;unfold PH at*;dsimp only at this K⊢;omega⟩;refine AA (KH (SB.sk ⟨h.1,h.2.1,h.2.2.1⟩ a) c.2.2.1) λk j=>AB λ_=>⟨c,j.1,λ_=>⟨?_,i.toNat,f,?_,rfl,n,j.2.2 ?_⟩⟩
 rw[j.2.1,sW,sW,G];rw[j.2.1];exact l.1;have s:=BN l.1;have q:=a.fd f s;have:=E! (·.2.1) ((a.2.1 f.1.1 q.1 q.2.1).1 f s rfl);dsimp only at this⊢;rw[this,Kb];have:=lj c.2.2.1 f.1.1;omega
def AId(P:S AE)(p:Int)(s:BZ):Prop:=s=jc 256\/∃j:Nat,s=IN (st (P.take j) p)
def dead(s:BZ):Prop:=s≠jc 256/\∀q,Hg q->s≠IN q
def DP(B:Int->Prop)(P:S AE)(d:Br):Prop:=DI d/\∀(i:Nat)(s:BZ),d.1[i]?=Z s->(B i->AId P i s)/\(B i\/dead s)
def dl(l:AZ):S AE:=l.2.1.take l.2.2.toNat
def DJ(B:pR)(l:AZ)(d:Br):Prop:=l.1=1/\DP B.1 (dl l) d
def DP.up{B:Int->Prop}{P Q:S AE}{d}{m}(h:DP B P d)(e:P=Q.take m):DP B Q d:=⟨h.1,λi s a=>⟨λb=>by rcases(h.2 i s a).1 b with q|⟨j,q⟩;exact .inl q;rw[e,KX]at q;exact .inr ⟨_,q⟩,(h.2 i s a).2⟩⟩
def DJ.up{a b}{d}(h:DJ B a d)(g:LX a b):DJ B b d:=by obtain⟨c,f,t,e⟩:=g;refine⟨c.trans h.1,h.2.up (m:=min a.2.2.toNat (U a.2.1)) ?_⟩;unfold dl;rw[e,KX,Qs o!,WD o!,Nat.min_comm,<-KX,BO (l:=a.2.1.take _) (by rw[BQ];omega)]
theorem AFl{L}(h:ID L){p d:Int}(f:Be L p<=d):st (L.take (ο d)) p=st L p:=by
 have e:=Hj (l:=L);have a:=WZ h (p:=p) (k:=U L);rw[e]at a;have b:=Re h p (Be L p).toNat (ο d) o!
 have c:Be (L.take (ο d)) p<=Be L p:=by rcases Nat.le_total (ο d) (U L) with q|q;have:=Re h p _ _ q;rwa [e]at this;rw[BO q];exact Ae _
 have:=mB h (p:=p) (j:=ο d) (k:=U L) (by rw[e];omega);rwa [e]at this
def UM{x:AU×AQ×AT}(h:SK B x.2.1)(C:De x.2.1.2.2.1)(m:DJ B x.2.1.2.2.1 x.1.2)(o:∃f∈x.2.1.2.2.2.1.2.1,f.1=x.2.2/\f.2.1=V)(A:x.2.2.2.1<=x.2.1.2.2.1.2.2):Ap (L9 x) λr=>r.2=0->KS B x.2.1 r.1.1/\DJ B r.1.1.2.2.1 r.1.2/\DC r.1.1.2.2.2.1<=DC x.2.1.2.2.2.1/\((∃(i:Nat)(f:BE),x.2.1.2.2.2.1.2.1[i]?=Z f/\f.1=x.2.2/\f.2.1=V)->DC r.1.1.2.2.2.1<DC x.2.1.2.2.2.1):=by
 have⟨f,n,b,j⟩:=o;have a:=h.ki.fd f n;have c:=(h.ki.2.1 f.1.1 a.1 a.2.1).1 f n rfl;refine EA Sl λv H _=>AA (dw m.2.1) λw M=>AL (λd=>AB (N! · d)) (λd=>AA (Zu h ⟨f,n,by rw[b],by rw[b],j⟩) λu L=>AL (λd=>AB (N! · d)) (λt=>AB λ_=>?_));have⟨E,F,N,O⟩:=L t;have⟨P,Q,G⟩:=M d;refine⟨F,DJ.up ⟨m.1,P,λi s k=>?_⟩ F.2.1,N,λ⟨i,g,I,y,J⟩=>O i g I (by rw[y]) J (by rw[y])⟩;have D:=C.num m.1;have l:=ZP D (p:=f.1.1) ⟨a.1,by have:=E.2.1;have:=E.1;dsimp only at*;omega⟩ (by have:=C.2.2.1;omega) (U x.2.1.2.2.1.2.1);rw[Hj,<-c,b]at l;rw[cD l]at H;dsimp only at G k;rw[G]at k;by_cases K:i=x.2.2.1.toNat
 subst K;have e:s=IN x.2.2:=by unfold ER at k;grind
 rw[b]at a c;rw[show((x.2.2.1.toNat:Nat):Int)=x.2.2.1 by omega];refine⟨λ_=>.inr ⟨(dl x.2.1.2.2.1).length,?_⟩,.inl a.2.2.2⟩;rw[Hj,e];unfold dl;rw[AFl D (by have:=E! (·.2.1) c;rw[Kb]at this;omega),<-c];exact m.2.2 i s (by unfold ER at k;rwa [List.getElem?_set_ne o!]at k)
def SvR(B:pR)(s r:AU):Prop:=KS B s.1 r.1/\DJ B r.1.2.2.1 r.2
def hY{x:AU}(h:SK B x.1)(j:De x.1.2.2.1)(g:DJ B x.1.2.2.1 x.2):Ap (My x) λr=>r.2=0->SvR B x r.1:=by unfold My;refine AA (P:=λr=>r.1=0->SvR B x r.2) ?_ λr hr=>AB hr;refine AW (SvR B x ·.1) (DC ·.1.1.2.2.2.1) ⟨KS.refl h j,g⟩ (λs c=>?_);unfold UL;refine AA (gl c.1.2.2.2.2.2) λv k=>AL (λa=>AB (N! · a)) (λa=>?_);have⟨q,b,m⟩:=k a;refine AO (λa=>AB (λ_=>⟨c.1.trans b,c.2.up b.2.1⟩)) (λd=>?_);have⟨q1,i,f,q2,q3,q4,q5⟩:=m d;refine AA (UM b.2.2.2.2.2 b.2.2.1 (c.2.up b.2.1) ⟨f,BN q2,q3,q4⟩ q5) λw l=>AL (λa=>AB (N! · a)) (λa=>AB ?_);have⟨n,o,t,p⟩:=l a;exact⟨⟨(c.1.trans b).trans n,o⟩,by have:=p ⟨i,f,q2,q3,q4⟩;dsimp only at*;omega⟩
end Go.Pm
namespace Go.Pm
open Go Go.Ab
variable {B:pR}
theorem X8{x:AQ×AT}{s:Int×List Ah}(h:0<=s.1/\s.1<=x.1.2.2.2.2.2.2.2.length/\x.1.2.2.2.2.2.2.2.length<=16777216/\s.2=(x.1.2.2.2.2.2.2.2.take s.1.toNat).filter (λd=>d.1 !=x.2.1)):Ap (Aj (MV x) s) λr=>r=x.1.2.2.2.2.2.2.2.filter λd=>d.1 !=x.2.1:=by refine AW (λ(s:Int×List Ah)=>0<=s.1/\s.1<=x.1.2.2.2.2.2.2.2.length/\x.1.2.2.2.2.2.2.2.length<=16777216/\s.2=(x.1.2.2.2.2.2.2.2.take s.1.toNat).filter (λd=>d.1 !=x.2.1)) (λ(s:Int×List Ah)=>((x.1.2.2.2.2.2.2.2.length:Int)-s.1).toNat) h (λs j=>?_);have⟨b,q,g,i⟩:=j;unfold MV;refine AC (λf=>?_) (λf=>AB ?_);simp[len]at f;have m:=oh (l:=x.1.2.2.2.2.2.2.2) (p:=λd=>d.1 !=x.2.1) b;rw[<-i]at m;refine AA (AJ b f) λv o=>?_;have e:=AY (x:=s.1+1);have n:=lg (p:=λd:Ah=>d.1 !=x.2.1) b o.1;refine AA (P:=λa=>a=(x.1.2.2.2.2.2.2.2.take (s.1+1).toNat).filter (λd=>d.1 !=x.2.1)) ?_ λa c=>AB ⟨⟨d!,d!,g,by dsimp only;rw[c,e]⟩,d!⟩;refine AK (λk=>?_) (λk=>AB ?_);grind[AA,AJ,Option.some.inj,Aa,AB];grind;grind[List.take_of_length_le]
theorem AGu{b:Type}{l:S b}{p:b->Bool}{d:b}(h:d∈l)(c:p d=Y):(l.filter p).length+1<=U l:=by
 induction l with
 |nil=>cases h
 |cons a l e=>rw[Mb];have:=EM p l;rcases Aw.1 h with rfl|h;rw[D! (by simp[c]),BY];omega;have:=e h;split<;>simp only[BY]<;>omega
def bZ{x:AQ×AT}(h:SK B x.1)(N:Bd x.1=δ ζ->x.2=st x.1.2.2.1.2.1 x.2.1/\B.1 x.2.1):Ap (Ky x) λr=>r.2=0->KS B x.1 r.1/\ny r.1.2.2.2.1 x.2.1:=by
 unfold Ky;refine EA (Bz h.sb) λv R hv=>AO (λj=>AB n!) (λj=>?_);have M:=hv j;rw[j]at R;refine AC (λj=>AB n!) (λx0=>AC (λj=>AB n!) (λx1=>AA (Kx h.sb) λy1 ao=>AC (λj=>AB n!) (λx2=>AA (Kx h.sb) λy2 ap=>AC (λj=>AB n!) (λx3=>?_))));have⟨T,S⟩:=N R;refine AA D4 λv3 _=>AO (λj=>AB n!) (λ_=>AA OF λv4 _=>AL (λj=>?_) (λ_=>?_));grind[AL,AB];have p2:=M.2.2.2.1.2.1;have p3:=M.2.2.2.1.2.2.1;refine AA (Gr d!) λi K=>AC (λj=>AB n!) (λC=>?_);have C:=K.2.2.2 o!;refine AP (λj=>AB n!) (λ_=>AA (Aa w!) λv8 D=>?_);have⟨D,ad,_⟩:=D;rw[CG]at D;subst D;refine AA (Aa w!) λc o=>?_;have⟨o,u,_⟩:=o;have y:c[θ c-1]?=δ (x.2,η,0,ζ):=by rw[o];simp
 have hn:(θ c:Int)-1=((θ c-1:Nat):Int):=by simp at u;omega
 have e:=AY (x:=(θ c:Int)-1) (by simp at u;omega);have s:∀f∈x.1.2.2.2.1.2.1,f.1.1≠x.2.1:=λf J e=>by have⟨i,K⟩:=C2 J;exact C ⟨i,f,K,e⟩
 refine AA (KJ h.sb) λz m=>AA (P:=λv:Ψ BE×AQ×Int×Int×Int×Int×Int×Int=>(∃(i:Nat)(f:BE),v.1[i]?=δ f/\f.1.1=x.2.1)/\(v.2.1.1=x.1.1/\v.2.1.2.2.1=x.1.2.2.1/\v.2.1.2.2.2.2.1=x.1.2.2.2.2.1/\v.2.1.2.2.2.2.2.1=x.1.2.2.2.2.2.1/\SB v.2.1/\v.2.1.2.2.2.2.2.2.1=x.1.2.2.2.2.2.2.1)/\KP x.1.1 x.1.2.2.1.2.1 v.1 v.2.1.2.2.2.2.2.2.2 x.1.2.2.2.2.2.2.1/\FD B.1 x.1.1 v.1 v.2.1.2.2.2.2.2.2.2/\DN v.1+θ v.2.1.2.2.2.2.2.2.2<=DN x.1.2.2.2.1.2.1+θ x.1.2.2.2.2.2.2.2) ?_ λa1 g=>?_
 ·refine AK (λk=>?_) (λk=>AB ⟨⟨_,_,y,rfl⟩,⟨rfl,rfl,rfl,rfl,h.sb,rfl⟩,?_,?_,by unfold DN;rw[o,List.countP_append];simp⟩);rotate_left 1;rw[o];exact h.ki.2.1.supply T s rfl (.inr ⟨rfl,m.2 k,rfl⟩);rw[o];exact h.ki.fd.supply (p:=x.2.1) o! o! S rfl (λd w=>w) (m.2 k);rw[hn]at e;simp only[len,hn,e];have A:θ c-1<θ c:=by simp at u;omega
  refine AA (AJ) λar X=>AA (AJ) λl Y_=>?_;have W_:l.1=x.2:=by grind[s?,Option.some.inj]
  have al:(ER c ((θ c-1:Nat):Int) (l.1,ζ,l.2.2)).length=θ c:=by simp[ER]
  refine AA (AJ) λax Z_=>AA (AJ) λa H=>?_;have t:a.1=x.2:=by grind[s?,ER,List.getElem?_set_self,Option.some.inj]
  refine AA (X8 ⟨q!,q!,h.2.2.1,q!⟩) λa0 I=>?_;have n:a.2.1=ζ:=by have:=H.1;simp[CA,ER]at this;rw[Hq A]at this;rw[<-Ba this]
  have G:ER (ER c ((θ c-1:Nat):Int) (l.1,ζ,l.2.2)) ((θ c-1:Nat):Int) (a.1,a.2.1,z.1.2.1,a.2.2.2)=x.1.2.2.2.1.2.1++[(a.1,a.2.1,z.1.2.1,a.2.2.2)]:=by simp[ER,CA,YZ,(by rw[o];simp:θ c-1=θ x.1.2.2.2.1.2.1)];rw[o,TR _ _ (Al _)];simp
  subst I;refine AB ⟨⟨θ c-1,(a.1,a.2.1,z.1.2.1,a.2.2.2),?_,by rw[t]⟩,⟨rfl,rfl,rfl,rfl,⟨h.1,h.2.1,CK (EM _ _) h.2.2.1⟩,rfl⟩,?_,?_,?_⟩;simp[ER,CA];rw[Hq (by simpa using A)];rw[G];exact h.ki.2.1.supply T s t (.inl ⟨n,rfl⟩);rw[G];exact h.ki.fd.supply (p:=x.2.1) o! o! S (by rw[t]) (λd w=>(BS.1 w).1) (λd w=>by simpa using(BS.1 w).2);rw[G];have q:(x.1.2.2.2.2.2.2.2.filter λd=>d.1 !=x.2.1).length+1<=θ x.1.2.2.2.2.2.2.2:=AGu (p:=λd:Ah=>d.1 !=x.2.1) (m.1 k).1 (by simp[(m.1 k).2]);unfold DN;rw[List.countP_append,List.countP_singleton];dsimp only;rw[C! n];omega
 have⟨i,f,J,L⟩:=g.1;have⟨O,E,U,Q,F,V_⟩:=g.2.1;refine AB λ_=>⟨⟨O,by dsimp only;rw[E];exact LX.refl _,by dsimp only;rw[E];exact M.2.2.1,U,Q,F.1,F.2.1,F.2.2,?_⟩,i,f,J,L⟩
 unfold KI;dsimp only;rw[O,E,V_];refine⟨h.ki.1,g.2.2.1,g.2.2.2.1,?_⟩;have hr:=h.ki.rm;have w:=g.2.2.2.2;unfold RM PH at*;dsimp only at hr w⊢;rw[Q];exact⟨hr.1,o!⟩
theorem AJu{x:AQ×Int}(h:Bd x.1=Z Y):Er x=Z 0:=by unfold Er;rw[h];rfl
theorem Rd.st{P}{p}{s}{q}(h:Rd s p q)(d:AId P p s)(e:∀j,Hg (st (P.take j) p)):∃j:Nat,q=Go.Pm.st (P.take j) p:=by obtain⟨_,⟨_,h⟩|⟨a,b,c⟩⟩:=h;exact⟨0,h⟩;rcases d with q|⟨j,q⟩;exact N! q c;exact⟨j,AEe a (e j) (b.symm.trans q)⟩
def H6{x:AU×Int}(h:SK B x.1.1)(g:DJ B x.1.1.2.2.1 x.1.2):Ap (FA x) λr=>r.2=0->SvR B x.1 r.1/\ny r.1.1.2.2.2.1 x.2:=by
 unfold FA;refine AA (Bz h.sb) λv X=>AO (λa=>AB n!) (λa=>?_);have s:=X a;refine AC (λa=>AB n!) (λp0=>AC (λa=>AB n!) (λp1=>AA Fq λi W_=>AC (λa=>AB λ_=>⟨⟨KS.refl h s.2.2.1,g⟩,?_⟩) (λ_=>?_)));have⟨_,f,V_,C⟩:=W_.2.2.1 a;exact⟨_,f,V_,C⟩;refine AA (hY h s.2.2.1 g) λo Q=>AL (λa=>AB (N! · a)) (λw=>?_);have⟨t,m⟩:=Q w;have n:=t.2.2.2.2.2;have F:=t.2.2.1;have k1:=s.1;have k2:=s.2.1;have H:0<=x.2/\x.2<64:=o!
 have M:=F.num m.1;have h4:=F.2.2.1;refine AA (gb m.2.1) λv3 R=>AL (λa=>AB (N! · a)) (λy=>?_);have⟨Y_,Z_,O⟩:=R y;have⟨b,u,_⟩:=Bz n.sb;refine AA (P:=λr=>∃k:Nat,r=Be (o.1.1.2.2.1.2.1.take k) x.2/\(b=ζ->k=θ o.1.1.2.2.1.2.1)) ?_ λv4 ⟨k,D,E⟩=>?_;cases b with
 |false=>exact⟨_,AJu u,0,rfl,λU=>by cases U⟩
 |true=>exact(Kx n.sb).mono λr hr=>⟨_,by rw[Hj];exact hr u n.ki.2.1 H.1 (by have:=t.1;dsimp only at this⊢;omega),λ_=>rfl⟩
 refine AA (eG d!) λv5 e=>AL (λa=>AB (N! · a)) (λz=>?_);have e:=e z;dsimp only at e;have d:=m.2.2 _ _ O;rw[show((x.2.toNat:Nat):Int)=x.2 by omega]at d;have L:B.1 x.2:=d.2.resolve_right λg=>by obtain⟨_,⟨q,_⟩|⟨q1,q2,_⟩⟩:=e;exact g.1 q;exact g.2 _ q1 q2
 have I:=ZP M H o!;obtain⟨j,p⟩:=e.st (d.1 L) λj=>by unfold dl;rw[KX];exact I _
 unfold dl at p;rw[KX]at p;generalize min j o.1.1.2.2.1.2.2.toNat=j' at p;rw[p,D];refine AA (AIe F m.1 n.ki.1 H) λv6 S=>?_;subst S;refine AL (N! rfl ·) (λ_=>AA (bZ n λK=>?_) λv7 T=>?_);rw[u]at K;have l:=E (Ba K);have G:Be (o.1.1.2.2.1.2.1.take j') x.2<=Be (o.1.1.2.2.1.2.1.take k) x.2:=by rcases Nat.le_total j' k with q|q;exact Re M _ _ _ q;rw[BO o!,l,Hj];exact Ae _
 dsimp only;rw[C! G,l,Hj,VQ];exact⟨rfl,L⟩;refine AL (λa=>AB (N! · a)) (λA=>AB λ_=>?_);have⟨N,J⟩:=T A;refine⟨⟨t.trans N,m.up N.2.1⟩,?_⟩;dsimp only at J;split at J<;>rwa [VQ]at J
end Go.Pm
