/- Texts of wip, joined and shortened by wip/tools/pack.py; nothing is assumed. -/
import Derived.Test.YtdbincbpjobdpaaGreatK8
import Derived.KernelRfl
noncomputable section
set_option linter.all false
namespace Go.Pm
open Go Go.Ab
def Yb(c:BitVec 32):BitVec 32:=if c.getLsbD 0=true then(c>>>1)^^^2197175160#32 else c>>>1
def mB:Nat->BitVec 32->BitVec 32
 |0,c=>c
 |n+1,c=>Yb (mB n c)
def iO(c:BitVec 32)(b:UInt8):BitVec 32:=mB 8 (c^^^BitVec.ofNat 32 b.toNat)
def AEf(s:BT):BitVec 32:=4294967295#32^^^s.foldl iO 4294967295#32
def PK(s:BT):Int:=((AEf s).toNat:Int)
def gW{a b:BitVec 32}(h:a^^^b=0#32):a=b:=t!
def ABu(a b:BitVec 32):Yb (a^^^b)=Yb a^^^Yb b:=by
 unfold Yb;rw[BitVec.getLsbD_xor,BitVec.ushiftRight_xor_distrib];cases a.getLsbD 0<;>cases b.getLsbD 0<;>simp;grind;grind;have:a>>>1^^^2197175160#32^^^(b>>>1^^^2197175160#32)=(a>>>1^^^b>>>1)^^^(2197175160#32^^^2197175160#32):=by ac_rfl
 grind
theorem vf: ∀(n:Nat) (a b:BitVec 32),mB n (a^^^b)=mB n a^^^mB n b
 |0,a,b=>rfl
 |n+1,a,b=>by rw[mB,mB,mB,vf n,ABu]
def zl{c:BitVec 32}(h:Yb c=0#32):c=0#32:=by
 unfold Yb at h;by_cases b:c.getLsbD 0=true;rw[if_pos b]at h;have a:(c>>>1).getLsbD 31=(2197175160#32).getLsbD 31:=by rw[(gW h)]
 rw[BitVec.getLsbD_ushiftRight]at a;simp_all;rw[if_neg b]at h;apply nu;intro i d;cases i with
 |zero=>grind
 |succ j=>
  have a:(c>>>1).getLsbD j=(0#32).getLsbD j:=by rw[h]
  grind
def xQ: ∀(n:Nat) {c:BitVec 32},mB n c=0#32->c=0#32
 |0,c,h=>h
 |n+1,c,h=>xQ n (zl h)
def AAY{n:Nat}{a b:BitVec 32}(h:mB n a=mB n b):a=b:=by refine gW (xQ n ?_);rw[vf,h,bB]
def AEa{a b:BitVec 32}{x:UInt8}(h:iO a x=iO b x):a=b:=by have c:=AAY h;simp_all
def AEb{a:BitVec 32}{x y:UInt8}(h:iO a x=iO a y):x=y:=by
 have:a^^^(a^^^BitVec.ofNat 32 x.toNat)=a^^^(a^^^BitVec.ofNat 32 y.toNat):=by rw[(AAY h)]
 rw[<-jc,bB,jd,<-jc,bB,jd]at this;have b:=congrArg BitVec.toNat this;rw[bA,bA]at b;have c:=x.toNat_lt;have d:=y.toNat_lt;exact UInt8.toNat_inj.1 o!
def ACw: ∀(s:BT) {a b:BitVec 32},s.foldl iO a=s.foldl iO b->a=b
 |[],a,b,h=>h
 |x::r,a,b,h=>AEa (ACw r h)
def AEg{u v:BT}{x y:UInt8}(h:PK (u++x::v)=PK (u++y::v)):x=y:=by
 unfold PK at h;have a:AEf (u++x::v)=AEf (u++y::v):=BitVec.eq_of_toNat_eq o!;unfold AEf at a;rw[XY,XY,XZ,XZ]at a;have b: ∀p q:BitVec 32,4294967295#32^^^p=4294967295#32^^^q->p=q:=λp q c=>by
  have:4294967295#32^^^(4294967295#32^^^p)=4294967295#32^^^(4294967295#32^^^q):=by rw[c]
  rwa [<-jc,bB,jd,<-jc,bB,jd]at this
 exact AEb (ACw v (b _ _ a))
def ZI(s:BT):0<=PK s/\PK s<4294967296:=by unfold PK;omega
theorem bvI(c:BitVec 32):BitVec.ofInt 32 (c.toNat:Int)=c:=q!
theorem w32(c:BitVec 32):IntKind.wrap .u32 (c.toNat:Int)=(c.toNat:Int):=by rw[vB];omega
theorem fdN(c:BitVec 32)(k:Nat)(a:k<=32):Int.fdiv (c.toNat:Int) (2^(min (Int.toNat (k:Int)) 32))=((c>>>k).toNat:Int):=by rw[show min (Int.toNat (k:Int)) 32=k by omega,je _ (by exact_mod_cast Be (2^k)),BitVec.toNat_ushiftRight,Nat.shiftRight_eq_div_pow];grind
theorem fd1(c:BitVec 32):Int.fdiv (c.toNat:Int) (2^(min (Int.toNat 1) 32))=((c>>>1).toNat:Int):=by grind[fdN]
def fd4(c:BitVec 32):Int.fdiv (c.toNat:Int) (2^(min (Int.toNat 4) 32))=((c>>>4).toNat:Int):=by grind[fdN]
theorem AE5(c:BitVec 32):((IntKind.wrap .u32 (((BitVec.toNat ((BitVec.ofInt 32 (c.toNat:Int))&&&(BitVec.ofInt 32 1))):Nat):Int))==1)=c.getLsbD 0:=by grind[bvI,w32,BitVec.toNat_and,BitVec.ofInt]
def AF6(c:BitVec 32):(bif ((IntKind.wrap .u32 (((BitVec.toNat ((BitVec.ofInt 32 (c.toNat:Int))&&&(BitVec.ofInt 32 1))):Nat):Int))==1)then
     some (IntKind.wrap .u32 (((BitVec.toNat ((BitVec.ofInt 32 (Int.fdiv (c.toNat:Int) (2^(min (Int.toNat 1) 32))))^^^(BitVec.ofInt 32 2197175160))):Nat):Int))
    else
    some (Int.fdiv (c.toNat:Int) (2^(min (Int.toNat 1) 32))):Option Int)=some ((Yb c).toNat:Int):=by grind[AE5,fd1,bvI,w32,Yb]
def AHL(c:BitVec 32):Ah Hu ((c.toNat:Int),0)=some ((mB 8 c).toNat:Int):=by
 have key:Aq (Ah Hu ((c.toNat:Int),0)) λr=>r=((mB 8 c).toNat:Int):=by refine AW (λ(s:Int×Int)=>0<=s.2/\s.2<=8/\s.1=((mB s.2.toNat c).toNat:Int)) (λs=>(8-s.2).toNat) ⟨Ae _,d!,rfl⟩ ?_;rintro⟨g,a⟩ ⟨e,f,b⟩;dsimp only at e f b;subst b;refine AC (λd=>?_) (λd=>AB (by rw[show a.toNat=8 by omega]));rw[AF6,AD,AY];refine AB ⟨⟨o!,o!,?_⟩,o!⟩;rw[show(a+1).toNat=a.toNat+1 by omega];rfl
 obtain⟨r,hr,rfl⟩:=key;exact hr
def ACY(c:BitVec 32)(b:UInt8):IntKind.wrap .u32 (((BitVec.toNat ((BitVec.ofInt 32 (c.toNat:Int))^^^(BitVec.ofInt 32 (IntKind.wrap .u32 (b.toNat:Int))))):Nat):Int)=((c^^^BitVec.ofNat 32 b.toNat).toNat:Int):=by grind[IntKind.wrap,vB,bvI,w32]
def ADt{x:BT}{i:Int}(a:0<=i)(c:i<x.length): ∃b:UInt8,six x i=some (b.toNat:Int)/\x.take (i+1).toNat=x.take i.toNat++[b]:=by obtain⟨k,rfl⟩:=EY a;refine⟨x[k],?_,?_⟩;grind[six];simp_all
def vG{x:BT}(h:x.length<=2199023255552):E6 x=some (PK x):=by
 have key:Aq (Ah (Ht x) (4294967295,0)) λr=>r=((x.foldl iO 4294967295#32).toNat:Int):=by refine AW (λ(s:Int×Int)=>0<=s.2/\s.2<=x.length/\s.1=(((x.take s.2.toNat).foldl iO 4294967295#32).toNat:Int)) (λs=>((x.length:Int)-s.2).toNat) ⟨Ae _,d!,rfl⟩ ?_;rintro⟨f,g⟩ ⟨c,e,d⟩;dsimp only at c e d;subst d;unfold Ht;simp only[len];refine AC (λa=>?_) (λa=>AB (by rw[BO o!]));have⟨b,q1,q2⟩:=ADt c a;rw[q1,AD,ACY,AHL,AD,AY];refine AB ⟨⟨o!,o!,?_⟩,o!⟩;rw[q2,XY];rfl
 obtain⟨r,hr,rfl⟩:=key;unfold E6;rw[hr,AD,bvI];rw[show(BitVec.ofInt 32 (if(false=true)then(-1)else(if(false=true)then((2^(32-1))-1)else((2^32)-1))))=4294967295#32 by decide,w32];rfl
def AIi{d:BitVec 32}(b:d.getLsbD 0=false)(c:d.getLsbD 1=false)(f:d.getLsbD 2=false)(g:d.getLsbD 3=false):mB 4 d=d>>>4:=by
 have st: ∀e:BitVec 32,e.getLsbD 0=false->Yb e=e>>>1:=λe a=>by unfold Yb;rw[if_neg (by rw[a];decide)]
 show Yb (Yb (Yb (Yb d)))=_;grind
def AGu(c:BitVec 32):(c>>>4)^^^mB 4 (c&&&15#32)=mB 4 c:=by
 have d:c=(c&&& ~~~15#32)^^^(c&&&15#32):=by apply nu;intro i a;rw[BitVec.getLsbD_xor,BitVec.getLsbD_and,BitVec.getLsbD_and,BitVec.getLsbD_not];grind
 have e:mB 4 (c&&& ~~~15#32)=c>>>4:=by
  have z: ∀i,i<4->(c&&& ~~~15#32).getLsbD i=false:=λi a=>by
   have:i=0\/i=1\/i=2\/i=3:=o!
   grind
  rw[AIi (z 0 g!) (z 1 g!) (z 2 g!) (z 3 g!)];apply nu;intro i a;have b:(15#32).getLsbD (4+i)=false:=by show(15#32).toNat.testBit (4+i)=false;grind
  grind
 grind[vf]
def AHI(c:BitVec 32):Ah LA ((c.toNat:Int),0)=some ((mB 4 c).toNat:Int):=by
 have key:Aq (Ah LA ((c.toNat:Int),0)) λr=>r=((mB 4 c).toNat:Int):=by refine AW (λ(s:Int×Int)=>0<=s.2/\s.2<=4/\s.1=((mB s.2.toNat c).toNat:Int)) (λs=>(4-s.2).toNat) ⟨Ae _,d!,rfl⟩ ?_;rintro⟨g,a⟩ ⟨e,f,b⟩;dsimp only at e f b;subst b;refine AC (λd=>?_) (λd=>AB (by rw[show a.toNat=4 by omega]));rw[AF6,AD,AY];refine AB ⟨⟨o!,o!,?_⟩,o!⟩;rw[show(a+1).toNat=a.toNat+1 by omega];rfl
 obtain⟨r,hr,rfl⟩:=key;exact hr
def ACA(t:Fin (15+1)->(Ty.int IntKind.u32).D):Prop:= ∀j:Fin 16,t j=((mB 4 (BitVec.ofNat 32 j.val)).toNat:Int)
def AIB:Aq (Kq ()) ACA:=by refine AA (P:=ACA) ?_ λr hr=>AB hr;refine AW (λ(s:Int×(Fin (15+1)->(Ty.int IntKind.u32).D))=>0<=s.1/\s.1<=16/\ ∀j:Fin 16,(j.val:Int)<s.1->s.2 j=((mB 4 (BitVec.ofNat 32 j.val)).toNat:Int)) (λs=>(16-s.1).toNat) ⟨Ae _,g!,λj b=>absurd b d!⟩ ?_;rintro⟨h,i⟩ ⟨c,g,d⟩;refine AC (λa=>?_) (λa=>AB λj=>d j (by have:=j.isLt;omega));obtain⟨k,rfl⟩:=EY c;rw[(by grind[vB,BitVec.toNat_ofNat]:IntKind.wrap .u32 (k:Int)=((BitVec.ofNat 32 k).toNat:Int)),AHI,AD];refine AA (Cs o! o!) λl e=>AA (Cs o! o!) λm f=>AB ?_;grind[AY,WK]
def AD1{t:Fin (15+1)->(Ty.int IntKind.u32).D}(b:ACA t)(c:BitVec 32):Gj t (IntKind.wrap .u32 (((BitVec.toNat ((BitVec.ofInt 32 (c.toNat:Int))&&&(BitVec.ofInt 32 15))):Nat):Int))=some ((mB 4 (c&&&15#32)).toNat:Int):=by
 rw[bvI,show BitVec.ofInt 32 15=15#32 by decide,w32];have a:(c&&&15#32).toNat<16:=by exact Nat.lt_succ_of_le Nat.and_le_right
 unfold Gj;rw[dif_pos o!];refine congrArg some ((b ⟨(c&&&15#32).toNat,a⟩).trans ?_);grind
def AHw(c:BitVec 32):IntKind.wrap .u32 (((BitVec.toNat ((BitVec.ofInt 32 (Int.fdiv (c.toNat:Int) (2^(min (Int.toNat 4) 32))))^^^(BitVec.ofInt 32 ((mB 4 (c&&&15#32)).toNat:Int)))):Nat):Int)=((mB 4 c).toNat:Int):=by rw[fd4,bvI,bvI,AGu,w32]
def AAX: ∀(m n:Nat) (c:BitVec 32),mB m (mB n c)=mB (m+n) c
 |0,n,c=>by rw[mB,D9]
 |m+1,n,c=>by rw[mB,AAX m n,Nat.succ_add];rfl
def vv{x:BT}(h:x.length<=2199023255552):OJ x=some (PK x):=by
 unfold OJ;have⟨t,f,a⟩:=AIB;rw[f,AD];have key:Aq (Ah (US x t) (4294967295,0)) λr=>r=((x.foldl iO 4294967295#32).toNat:Int):=by refine AW (λ(s:Int×Int)=>0<=s.2/\s.2<=x.length/\s.1=(((x.take s.2.toNat).foldl iO 4294967295#32).toNat:Int)) (λs=>((x.length:Int)-s.2).toNat) ⟨Ae _,d!,rfl⟩ ?_;rintro⟨i,j⟩ ⟨d,g,e⟩;dsimp only at d g e;subst e;unfold US;simp only[len];refine AC (λc=>?_) (λc=>AB (by rw[BO o!]));have⟨b,q1,q2⟩:=ADt d c;rw[q1,AD,ACY,AD1 a,AD,AD,AHw,AD1 a,AD,AD,AHw,AY];refine AB ⟨⟨o!,o!,?_⟩,o!⟩;rw[q2,XY,AAX];rfl
 obtain⟨r,hr,rfl⟩:=key;rw[hr,AD,bvI];rw[show(BitVec.ofInt 32 (if(false=true)then(-1)else(if(false=true)then((2^(32-1))-1)else((2^32)-1))))=4294967295#32 by decide,w32];rfl
set_option maxHeartbeats 400000
def iI(n:Nat):BT:=List.replicate n 0
def V2(c:Ch):BT:=Cy (if c.1=true then(c.2.length:Int)else 255) 1++(c.2++iI (12-c.2.length))
def cl(a:HA 16 Ch)(i:Nat):Ch:=(Gj a i).getD (false,[])
def Oh(a:HA 16 Ch)(k:Nat):BT:=(List.range k).flatMap λi=>V2 (cl a i)
def Km(x:AU):BT:=Cy x.2.1 8++(Cy x.1 4++(Oh x.2.2 16++iI 24))
def Hq(x:AU):BT:=Km x++(Cy (PK (Km x)) 4++Cy x.2.1 8)
def kq{a:HA 16 Ch}{i:Nat}(h:i<16):Gj a (i:Int)=some (cl a i)/\cl a i=a ⟨i,h⟩:=by
 have e:Gj a (i:Int)=some (a ⟨i,h⟩):=by unfold Gj;rw[dif_pos o!];rfl
 unfold cl;rw[e];exact⟨rfl,rfl⟩
theorem QM(a:HA 16 Ch)(k:Nat):Oh a (k+1)=Oh a k++V2 (cl a k):=by unfold Oh;rw[List.range_succ,XX,ID,oF,C5]
def cD{c:Ch}(h:c.2.length<=12):(V2 c).length=13:=by unfold V2 iI;rw[Ac,Ac,Ax,HG];omega
def F9.cl{x:AU}(h:F9 x)(i:Nat):Fo (cl x.2.2 i):=by rcases Ay i 16 with a|a;rw[(kq a).2];exact(h.2.2.2.2 _).1;unfold Go.Pm.cl Gj;rw[dif_neg o!];exact⟨g!,.inr rfl⟩
theorem Iy{x:AU}(h:F9 x): ∀k:Nat,(Oh x.2.2 k).length=13*k
 |0=>rfl
 |k+1=>by rw[QM,Ac,Iy h k,cD (h.cl k).1];omega
def Gu{x:AU}(h:F9 x):(Km x).length=244:=by unfold Km iI;simp only[Ac,Ax,Iy h,HG]
theorem Xx{x:AU}(h:F9 x):(Hq x).length=256:=by unfold Hq;simp only[Ac,Ax,Gu h]
def UO{x:AU}:(Hq x).take 8=Cy x.2.1 8:=by unfold Hq Km;rw[A0,Fb (Ax _ _)]
def my{x:AU}(h:F9 x):(Hq x).drop 248=Cy x.2.1 8:=by unfold Hq;rw[<-A0,jk (by rw[Ac,Gu h,Ax])]
def kj(n:Nat):Ew (List.replicate n 0)=iI n:=by unfold Ew iI;rw[List.map_replicate];rfl
def wS{x:Int}(h:0<=x/\x<=16777216):Gw x=some (iI x.toNat):=by unfold Gw Go.Ab.mk;rw[if_pos ⟨h.1,Ae _,h.2⟩,AD,kj]
def mQ{s:BT}{n k:Int}(h:s.length<=1099511627776)(a:1<=k/\k<=8):Aq (Al (s,(n,k))) λr=>r=s++Cy n k.toNat:=⟨_,Hf h a.1 a.2,rfl⟩
def qo{x:AU}(h:F9 x):Dz x=some 0:=by have⟨a,g,c⟩:=Lu (x:=x);have⟨b,i,d⟩:=Nr (x:=x);have e:a=true:=c.2 ⟨h.1,h.2.1,h.2.2.1,h.2.2.2.1⟩;have f:b=true:=d.2 h.2.2.2.2;unfold Dz;rw[g,e,AD,i,f];rfl
theorem an{x:AU}(h:F9 x):C9 x=some (Hq x,0):=by
 suffices g:Aq (C9 x) λr=>r=(Hq x,0) by obtain⟨r,hr,rfl⟩:=g;exact hr
 unfold C9;rw[qo h,AD];refine AJ (λb=>absurd rfl b) λ_=>AA (mQ g! g!) λL p=>AA (mQ (by rw[p];simp[Ax]) g!) λG z=>?_;have w:G=Cy x.2.1 8++Cy x.1 4:=by rw[z,p];rfl
 refine AA (P:=λr=>r=Cy x.2.1 8++(Cy x.1 4++Oh x.2.2 16)) ?_ λf d=>?_
 ·refine Cn (λ(s:BT×Int)=>0<=s.2/\s.2<=16/\s.1=Cy x.2.1 8++(Cy x.1 4++Oh x.2.2 s.2.toNat)) (λ(s:BT×Int)=>(16-s.2).toNat) ⟨Ae _,u!,by rw[w];simp[Oh]⟩ ?_;rintro⟨s,i⟩ ⟨u,C,g⟩;dsimp only at u C g;subst g;unfold RO;dsimp only;refine AC (λb=>?_) (λb=>Aq.done (by rw[show i.toNat=16 by omega]));have⟨t,K⟩:=kq (a:=x.2.2) (i:=i.toNat) o!;rw[IC u]at t;have b:=(h.cl i.toNat).1;simp only[t,AD,AY (x:=i+1)];have J:(Cy x.2.1 8++(Cy x.1 4++Oh x.2.2 i.toNat)).length<=300:=by simp only[Ac,Ax,Iy h];omega
  refine AA (P:=λv=>v=if(cl x.2.2 i.toNat).1=true then((cl x.2.2 i.toNat).2.length:Int)else 255) ?_ λM A=>?_;exact AL (λb=>AB (if_pos b).symm) (λb=>AB (if_neg (by rw[b];decide)).symm);refine AA (mQ o! g!) λN q=>?_;have y:wi (12-len (cl x.2.2 i.toNat).2)=((12-(cl x.2.2 i.toNat).2.length:Nat):Int):=by rw[AY i!];simp only[len];omega
  rw[y,wS o!,AD,DG];refine AA (CE (by simp only[iI,HG];omega)) λn c=>?_;have D:n.length<=24:=by rw[c.2];simp only[iI,HG];omega
  refine AA (CE (by rw[q,Ac,Ax];simp only[Int.reduceToNat];omega)) λF k=>Aq.next ⟨d!,d!,?_⟩ d!
  dsimp only;rw[k.1,c.1,q,A,show(i+1).toNat=i.toNat+1 by omega,QM];simp only[V2,A0,Int.reduceToNat]
 have E:f.length=220:=by rw[d];simp only[Ac,Ax,Iy h]
 rw[show wi (244-len f)=24 by rw[AY i!];simp only[len];omega,wS g!,AD];refine AA (CE (by simp only[iI,HG,Int.reduceToNat];omega)) λo l=>?_;have j:o=Km x:=by rw[l.1,d];simp only[Km,A0,Int.reduceToNat]
 rw[j,vG (by rw[Gu h];decide),AD];have B:=ZI (Km x);rw[AY];refine AA (mQ (by rw[Gu h];decide) g!) λH e=>AA (mQ (by rw[e,Ac,Gu h,Ax];decide) g!) λI m=>AB ?_;rw[m,e];simp only[Hq,A0,Int.reduceToNat]
def AA7{c d:Ch}(e:Fo c)(f:Fo d)(h:V2 c=V2 d):c=d:=by obtain⟨g,l⟩:=c;obtain⟨i,m⟩:=d;obtain⟨j,b⟩:=D7 h (by rw[Ax,Ax]);have l1:=e.1;have l2:=f.1;dsimp only at l1 l2;have a:=XN (k:=1) g! ⟨λ_=>by dsimp only;split<;>omega,by dsimp only;split<;>omega,by dsimp only;split<;>omega⟩ ⟨λ_=>by dsimp only;split<;>omega,by dsimp only;split<;>omega,by dsimp only;split<;>omega⟩ j;dsimp only at a b;cases g<;>cases i;have:=e.2;have:=f.2;simp_all;exfalso;simp at a;omega;exfalso;simp at a;omega;simp at a;exact DR rfl (D7 b o!).1
def rN{x y:AU}(a:F9 x)(b:F9 y): ∀k:Nat,Oh x.2.2 k=Oh y.2.2 k-> ∀i,i<k->cl x.2.2 i=cl y.2.2 i
 |0,_=>λi c=>absurd c o!
 |k+1,h=>by rw[QM,QM]at h;obtain⟨d,e⟩:=D7 h (by rw[Iy a,Iy b]);intro i c;by_cases f:i=k;subst f;exact AA7 (a.cl i) (b.cl i) e;exact rN a b k d i o!
theorem ACq{x y:AU}(a:F9 x)(b:F9 y)(h:Hq x=Hq y):x=y:=by obtain⟨h,_⟩:=D7 h (by rw[Gu a,Gu b]);obtain⟨c,h⟩:=D7 h (by rw[Ax,Ax]);obtain⟨d,h⟩:=D7 h (by rw[Ax,Ax]);obtain⟨e,_⟩:=D7 h (by rw[Iy a,Iy b]);have f:=a.1;have g:=a.2.1;have j:=a.2.2.1;have k:=a.2.2.2.1;have l:=b.1;have m:=b.2.1;have n:=b.2.2.1;have o:=b.2.2.2.1;refine DR (XN (by decide) ⟨λ_=>by omega,by omega,by omega⟩ ⟨λ_=>by omega,by omega,by omega⟩ d) (DR (XN (by decide) ⟨λ_=>by omega,by omega,by omega⟩ ⟨λ_=>by omega,by omega,by omega⟩ c) (funext λi=>?_));have:=rN a b 16 e i.val i.isLt;rw[(kq i.isLt).2,(kq i.isLt).2]at this;exact this
def sh{s:BT}{n k:Int}(h:s.length<=1099511627776)(a:1<=k/\k<=8):OI (s,(n,k))=some (s++Cy n k.toNat):=by grind[OI]
theorem vu{n:Int}(h:0<=n/\n<=8000):Kb ([0],n)=some (iI n.toNat):=by unfold Kb;dsimp only;rw[decide_eq_true h.1,decide_eq_true h.2];rfl
theorem zU{n:Int}{k:Nat}(hn:0<=n)(h:n<256^k)(a:n<9223372036854775808):rd (Cy n k)=n:=by unfold rd;grind[qd,Int.emod_eq_of_lt,AY]
def AFA{b:BT}{c:Ch}(h:b.length<=1000)(i:c.2.length<=12):J2 b c=some (b++V2 c):=by
 suffices e:Aq (J2 b c) λr=>r=b++V2 c by obtain⟨r,hr,rfl⟩:=e;exact hr
 unfold J2;refine AA (P:=λv=>v=if c.1=true then(c.2.length:Int)else 255) ?_ λj g=>?_;simp_all[AL,AB];rw[sh o! g!,AD];refine AA (CE (by rw[Ac,Ax];simp[Int.reduceToNat];omega)) λk d=>?_;rw[AY (by simp[len];omega),vu (by simp[len];omega),AD];rw[(by simp only[len];omega:(12-len c.2).toNat=12-c.2.length)];refine AA (CE (by rw[d.2,Ac,Ax];simp[iI,HG,Int.reduceToNat];omega)) λf a=>AB ?_;grind[V2,List.append_assoc,Int.reduceToNat]
def xn{x:Int}(h:0<=x/\x<64):GJ x=some true:=by grind[GJ]
def ABf{x:AU}(h:F9 x):R6 x=some true:=by unfold R6;rw[xn ⟨h.1,h.2.1⟩,AD,decide_eq_true (show x.2.1>=0 from h.2.2.1),decide_eq_true h.2.2.2.1];rfl
def ADX{x:AU}(h:F9 x):Oj x=some true:=by
 suffices e:Aq (Oj x) λr=>r=true by obtain⟨r,hr,rfl⟩:=e;exact hr
 unfold Oj;refine AA (P:=λr=>r= .inr ()) ?_ λr hr=>by rw[hr];exact BA (AB rfl)
 refine Cn (λ(s:Int)=>0<=s/\s<=16) (λs=>(16-s).toNat) ⟨Ae _,g!⟩ (λs d=>?_);have⟨g,k⟩:=d;unfold WX;refine AC (λa=>?_) (λ_=>Aq.done rfl);have i:Aq (some (Step.next (wi (s+1))):Option (Step Int (Bool ⊕ Unit))) (Li (λ(s:Int)=>0<=s/\s<=16) (λs=>(16-s).toNat) (16-s).toNat λr=>r= .inr ()):=by grind[AY,Aq.next]
 refine AA (Cs g a) λv f=>?_;have b:=h.2.2.2.2 ⟨s.toNat,o!⟩;rw[<-f]at b;refine AC (λa=>absurd a (by have:=b.1.1;simp[len];omega)) (λ_=>AO (λc=>?_) (λj=>?_));refine AJ (λhn=>absurd (b.1.2.resolve_left (by rw[c];decide)) hn) (λ_=>AL (λa=>by rw[c]at a;cases a) (λ_=>i));simp_all[AL,AP]
def dL{x:AU}(h:F9 x):I8 x=some (Hq x,0):=by
 suffices c:Aq (I8 x) λr=>r=(Hq x,0) by obtain⟨r,hr,rfl⟩:=c;exact hr
 unfold I8;rw[ABf h,AD,ADX h,AD,Cw,cond_false,cond_false,sh g! g!,AD,sh (by rw[Bw,Ax];decide) g!,AD];refine AA (P:=λr=>r=Cy x.2.1 8++(Cy x.1 4++Oh x.2.2 16)) ?_ λb g=>?_
 ·refine Cn (λ(s:Int×Nb)=>0<=s.1/\s.1<=16/\s.2=Cy x.2.1 8++(Cy x.1 4++Oh x.2.2 s.1.toNat)) (λ(s:Int×Nb)=>(16-s.1).toNat) ⟨Ae _,u!,by simp[Oh]⟩ ?_;rintro⟨i,s⟩ ⟨f,m,c⟩;dsimp only at f m c;subst c;unfold cR;dsimp only;refine AC (λk=>?_) (λk=>Aq.done (by rw[show i.toNat=16 by omega]));have⟨e,o⟩:=kq (a:=x.2.2) (i:=i.toNat) o!;rw[IC f]at e;rw[e,AD,AFA (by simp[Ac,Ax,Iy h];omega) (h.cl i.toNat).1,AD,AY (x:=i+1)];refine Aq.next ⟨d!,d!,?_⟩ d!
  dsimp only;rw[show(i+1).toNat=i.toNat+1 by omega,QM];simp[A0]
 have n:b.length=220:=by grind[List.length_append,Ax,Iy]
 rw[show wi (244-len b)=24 by rw[AY (by simp[len];omega)];simp[len];omega,vu g!,AD];refine AA (CE (by simp[iI,HG,Int.reduceToNat];omega)) λd j=>?_;rw[(by grind[Km,List.append_assoc,Int.reduceToNat]:d=Km x),vv (by rw[Gu h];decide),AD];have l:=ZI (Km x);rw[AY,sh (by rw[Gu h];decide) g!,AD,sh (by rw[Ac,Gu h,Ax];decide) g!,AD];grind[AB,Hq,List.append_assoc,Int.reduceToNat]
def rO(a:HA 16 Ch)(i:Nat): ∀k:Nat,i<=k-> ∃r,Oh a k=Oh a i++r
 |0,h=>⟨[],by rw[show i=0 by omega];rfl⟩
 |k+1,h=>by by_cases e:i=k+1;exact⟨[],by rw[e,C5]⟩;obtain⟨r,hr⟩:=rO a i k o!;exact⟨r++V2 (cl a k),by rw[QM,hr,A0]⟩
def uO{x:AU}(h:F9 x){i:Nat}(a:i<16): ∃A r,Hq x=A++(V2 (cl x.2.2 i)++r)/\A.length=12+13*i:=by have⟨r,hr⟩:=rO x.2.2 (i+1) 16 o!;refine⟨Cy x.2.1 8++(Cy x.1 4++Oh x.2.2 i),r++(iI 24++(Cy (PK (Km x)) 4++Cy x.2.1 8)),?_,by simp[Ac,Ax,Iy h];omega⟩;grind[Hq,Km,QM,List.append_assoc]
def zw{x a:HA 16 Ch}{i:Int}{c:Ch}(h: ∀j:Fin 16,a j=if(j.val:Int)<i then x j else(false,[]))(e:0<=i/\i<16)(d: ∀b,x ⟨i.toNat,b⟩=c): ∀j:Fin 16,WK a i c j=if(j.val:Int)<i+1 then x j else(false,[]):=by grind[WK,Fin.ext]
def wg{x a:HA 16 Ch}{i:Int}(h: ∀j:Fin 16,a j=if(j.val:Int)<i then x j else(false,[]))(d:0<=i/\i<16)(c: ∀b,x ⟨i.toNat,b⟩=(false,[])): ∀j:Fin 16,a j=if(j.val:Int)<i+1 then x j else(false,[]):=by grind[Fin.ext]
def wF{a t:BT}{n k:Int}(h:(a.length:Int)+t.length<=2199023255552)(b:1<=k)(d:k<=8)(e:k<=t.length)(g:t.take k.toNat=Cy n k.toNat)(hn:0<=n)(f:n<256^k.toNat)(c:n<9223372036854775808):FQ (a++t,((a.length:Int),k))=some n:=by grind[FQ,XO,zU]
def AFH{x:AU}(h:F9 x):QR (Hq x)=some (x,true):=by
 suffices C:Aq (QR (Hq x)) λr=>r=(x,true) by obtain⟨r,hr,rfl⟩:=C;exact hr
 have l:=Xx h;have O:=h.1;have S:=h.2.1;have Q:=h.2.2.1;have T:=h.2.2.2.1;have q1:FQ (Hq x,(8,4))=some x.1:=by have:=wF (a:=Cy x.2.1 8) (t:=Cy x.1 4++(Oh x.2.2 16++(iI 24++(Cy (PK (Km x)) 4++Cy x.2.1 8)))) (n:=x.1) (k:=4) (by simp only[Ac,Ax,Iy h,iI,HG];omega) g! g! (by simp[Ac,Ax];omega) (by exact Fb (Ax _ _)) O (by simp[Int.reduceToNat];omega) o!;rw[Ax]at this;rw[<-this];simp only[Hq,Km,A0];rfl
 have q2:FQ (Hq x,(0,8))=some x.2.1:=by have:=wF (a:=[]) (t:=Hq x) (n:=x.2.1) (k:=8) (by rw[l];decide) g! g! (by rw[l];decide) UO Q (by simp[Int.reduceToNat];omega) o!;exact this
 unfold QR;rw[q1,AD,q2,AD];refine AA (P:=λr=> ∃z,r= .inr (x,z)) ?_ λr hr=>by obtain⟨z,rfl⟩:=hr;exact BA (AB rfl)
 refine Cn (λ(s:Int×AU×AU)=>0<=s.1/\s.1<=16/\s.2.1.1=x.1/\s.2.1.2.1=x.2.1/\ ∀j:Fin 16,s.2.1.2.2 j=if(j.val:Int)<s.1 then x.2.2 j else(false,[])) (λ(s:Int×AU×AU)=>(16-s.1).toNat) ⟨Ae _,u!,rfl,rfl,λj=>by rw[if_neg d!];rfl⟩ ?_;rintro⟨i,⟨p,n,a⟩,z⟩ ⟨o,N,G,hn,f⟩;dsimp only at o N G hn f;subst G hn;unfold X3;dsimp only;refine AC (λg=>?_) (λg=>Aq.done ⟨z,?_⟩)
 ·rw[AY (x:=i*13),AY (x:=12+i*13),AY (x:=12+i*13+1),AY (x:=i+1)];have⟨R,m⟩:=kq (a:=x.2.2) (i:=i.toNat) o!;obtain⟨A,r,B,K⟩:=uO h (i:=i.toNat) o!;have b:=h.cl i.toNat
  generalize L:cl x.2.2 i.toNat=c at*;have F:A.length+(13+r.length)=256:=by have:=l;rw[B,Ac,Ac,cD b.1]at this;exact this
  have e:FQ (Hq x,(12+i*13,1))=some (if c.1=true then(c.2.length:Int)else 255):=by have y:=b.1;have:=wF (a:=A) (t:=V2 c++r) (n:=if c.1=true then(c.2.length:Int)else 255) (k:=1) (by rw[Ac,cD b.1];omega) g! g! (by rw[Ac,cD b.1];omega) (by unfold V2;rw[List.append_assoc];exact List.take_left' (Ax _ _)) (by split<;>omega) (by simp[Int.reduceToNat];split<;>omega) (by split<;>omega);rw[<-B]at this;rw[<-this,K];congr 3;omega
  rw[e,AD];have H: ∀q:HA 16 Ch,(∀j:Fin 16,q j=if(j.val:Int)<i+1 then x.2.2 j else(false,[]))->Aq (some (Step.next (i+1,((x.1,(x.2.1,q)),z))):Option (Step (Int×AU×AU) ((Bool×AU)⊕ (AU×AU)))) (Li (λ(s:Int×AU×AU)=>0<=s.1/\s.1<=16/\s.2.1.1=x.1/\s.2.1.2.1=x.2.1/\ ∀j:Fin 16,s.2.1.2.2 j=if(j.val:Int)<s.1 then x.2.2 j else(false,[])) (λ(s:Int×AU×AU)=>(16-s.1).toNat) (16-i).toNat λr=> ∃z,r= .inr (x,z)):=λq w=>Aq.next ⟨d!,d!,rfl,rfl,w⟩ d!
  by_cases d:c.1=true;rw[if_pos d];have y:=b.1;rw[beq_eq_false_iff_ne.2 o!,cond_false,decide_eq_false o!,cond_false,AY];obtain⟨s,C,D⟩:=Bt (s:=Hq x) (lo:=12+i*13+1) (hi:=12+i*13+1+(c.2.length:Int)) o! o! (by rw[l];omega);have E:s=c.2:=by
   rw[D.1,B];have I:(12+i*13+1).toNat=A.length+1:=o!
   have J:(12+i*13+1+(c.2.length:Int)).toNat-(12+i*13+1).toNat=c.2.length:=o!
   rw[J,I,<-Nd,Qt];unfold V2;rw[if_pos d,A0,jk (Ax _ _),A0,Xm]
  rw[C,E,AD];have u: ∃v,Gj a i=some v:=by obtain⟨v,m,_⟩:=Cs (a:=a) o g;exact⟨v,m⟩
  have⟨v,u⟩:=u;rw[u,AD,AD,AD,Sum.elim_inl];exact H _ (zw f ⟨o,g⟩ λM=>m.symm.trans (DR d rfl));rw[if_neg d,beq_iff_eq.2 rfl,cond_true,AD,Sum.elim_inl];exact H _ (wg f ⟨o,g⟩ λM=>m.symm.trans (DR (by simpa using d) (b.2.resolve_left d)))
 refine congrArg Sum.inr (DR (DR rfl (DR rfl (funext λj=>?_))) rfl);exact(f j).trans (if_pos o!)
theorem AAM{x:AU}(h:F9 x)(hn:x.2.1≠0):Hq x≠iI 256:=λe=>hn (by have:=congrArg (List.take 8) e;rw[UO]at this;have a:=h.2.2.1;have b:=h.2.2.2.1;exact XN (k:=8) (by decide) ⟨λ_=>by omega,by omega,by omega⟩ ⟨λ_=>by omega,by omega,by omega⟩ (this.trans (by decide)))
theorem xg:UX ()=some (iI 256):=by grind[UX,vu]
theorem ABX{x:AU}(h:F9 x)(hn:x.2.1≠0):KU (Hq x)=some (x,0):=by
 have b:=Xx h;unfold KU;have⟨m,q1,d⟩:=Bt (s:=Hq x) (lo:=0) (hi:=8) g! g! (by rw[b];decide);have⟨j,q2,e⟩:=Bt (s:=Hq x) (lo:=248) (hi:=256) g! g! (by rw[b];decide);have⟨l,q3,f⟩:=Bt (s:=Hq x) (lo:=0) (hi:=244) g! g! (by rw[b];decide);have g:j=Cy x.2.1 8:=by rw[e.1];show List.take 8 (List.drop 248 (Hq x))=_;rw[my h,BO (by rw[Ax];exact Ap _)]
 have i:l=Km x:=f.1.trans (by show List.take 244 (Hq x)=_;unfold Hq;exact Fb (Gu h));have c:=ZI (Km x);have q4:FQ (Hq x,(244,4))=some (PK (Km x)):=by have:=wF (a:=Km x) (t:=Cy (PK (Km x)) 4++Cy x.2.1 8) (n:=PK (Km x)) (k:=4) (by simp only[Ac,Ax,Gu h];decide) g! g! (by simp only[Ac,Ax];decide) (Fb (Ax _ _)) o! (by simp[Int.reduceToNat];omega) o!;rw[Gu h]at this;exact this
 rw[(by simp[len];omega:len (Hq x)=256),bne_self_eq_false,cond_false,xg,AD,beq_eq_false_iff_ne.2 (AAM h hn),cond_false,q1,AD,q2,AD,(d.1.trans UO),g,bne_self_eq_false,cond_false,q3,AD,i,q4,AD,vv (by rw[Gu h];decide),AD,AY,bne_self_eq_false,cond_false,AFH h,AD,dL h,AD,bne_self_eq_false,bne_self_eq_false];rfl
def cF(x:AU):BT:=if x.2.1=0 then iI 256 else Hq x
theorem ADQ{x:AU}(h:F9 x)(a:x.2.1=0->x=(x.1,(0,HA.all (false,[])))):Ea (cF x,x.1)=some (x,0):=by unfold Ea cF;rw[xn ⟨h.1,h.2.1⟩,AD,Cw,cond_false];by_cases hn:x.2.1=0;rw[if_pos hn];rw[(by grind[KU,iI,List.length_replicate,xg]:KU (iI 256)=some ((0,(0,(HA.all (false,[])))),7)),AD];exact congrArg (λq=>some (q,(0:Int))) (a hn).symm;grind[ABX]
def Gp(p:BT):BT:=Cy (p.length:Int) 4++(p++Cy (PK (Cy (p.length:Int) 4++p)) 4)
theorem C8(p:BT):(Gp p).length=p.length+8:=by grind[Gp,List.length_append,Ax]
theorem aq{p:BT}(h:p.length<=8392):Da p=some (Gp p):=by
 unfold Da;simp only[len];rw[decide_eq_false o!,cond_false,Hf k! g! g!,AD,Bw];have b:(Cy (p.length:Int) 4++p).length=p.length+4:=by grind[List.length_append,Ax]
 rw[(by grind[sapp,Ax]:sapp (Cy (p.length:Int) (Int.toNat 4)) p=some (Cy (p.length:Int) 4++p)),AD,vG o!,AD];have a:=ZI (Cy (p.length:Int) 4++p);rw[AY,Hf o! g! g!,AD,A0];rfl
def UF(al:Nat)(t:BT):BT×Int×Int:=
 if t.length<4 then([],0,5)else
 if rd (t.take 4)>8392 then([],0,2)else
 if(t.length:Int)<rd (t.take 4)+8 then([],0,5)else
 if rd ((t.drop (4+(rd (t.take 4)).toNat)).take 4)≠PK (t.take (4+(rd (t.take 4)).toNat))then([],0,3)else
 ((t.drop 4).take (rd (t.take 4)).toNat,(al:Int)+8+rd (t.take 4),0)
def rd4{t:BT}(h:4<=t.length):0<=rd (t.take 4)/\rd (t.take 4)<4294967296:=by
 have a:(t.take 4).length=4:=by rw[BQ];omega
 have:=(zT (l:=t.take 4) o!).1 o!;rw[a]at this;exact this
theorem OU{a t:BT}(h:(a.length:Int)+t.length<=2199023255552):BZ (a++t,(a.length:Int))=some (UF a.length t):=by
 have b:len (a++t)=(a.length:Int)+t.length:=by grind[List.length_append]
 have o:((a++t).length:Int)=(a.length:Int)+t.length:=b;unfold BZ UF;dsimp only;rw[decide_eq_false o!,cond_false,decide_eq_false o!,cond_false,iK h g! g!];by_cases g:t.length<4;rw[if_neg o!,if_pos g];rfl;rw[if_pos o!,if_neg g,AD,show Int.toNat 4=4 from rfl];have⟨p,u⟩:=rd4 (t:=t) o!;generalize hn:rd (t.take 4)=n at*;obtain⟨m,rfl⟩:=EY p;rw[show((0:Int) !=0)=false by decide,cond_false];by_cases d:(m:Int)>8392;rw[decide_eq_true d,cond_true,if_pos d];rw[decide_eq_false d,cond_false,if_neg d,b,AY,AY];by_cases i:(t.length:Int)<(m:Int)+8;rw[decide_eq_true o!,cond_true,if_pos i];rw[decide_eq_false o!,cond_false,if_neg i,DG];have f:wi (wi ((a.length:Int)+4)+(m:Int))=((a++t.take (4+m)).length:Int):=by rw[AY (x:=(a.length:Int)+4),AY,Ac,BQ];omega
 have j:a++t=(a++t.take (4+m))++t.drop (4+m):=by rw[A0,DN]
 have s:((t.drop (4+m)).length:Int)=t.length-(4+m):=by rw[EH];omega
 have c:((a++t.take (4+m)).length:Int)=a.length+4+m:=by rw[Ac,BQ];omega
 have l:Az (a++t,(wi (wi ((a.length:Int)+4)+(m:Int)),4))=some (rd ((t.drop (4+m)).take 4),0):=by
  rw[f];conv=>lhs;rw[j]
  rw[iK o! g! g!,if_pos o!];rfl
 have q:RD (a++t) (a.length:Int) (wi (wi ((a.length:Int)+4)+(m:Int)))=some (t.take (4+m)):=by unfold RD;rw[f,if_pos o!,c,DG,Qt,show((a.length:Int)+4+m).toNat-a.length=4+m by omega]
 have r:RD (a++t) (wi ((a.length:Int)+4)) (wi (wi ((a.length:Int)+4)+(m:Int)))=some ((t.drop 4).take m):=by unfold RD;rw[f,AY (x:=(a.length:Int)+4),if_pos o!,c,show((a.length:Int)+4).toNat=a.length+4 by omega,XW,VV o!,Bw,Ss,show((a.length:Int)+4+m).toNat-(a.length+4)=m by omega]
 rw[l,AD,q,AD,vG (by rw[BQ];omega),AD,r];have⟨q1,q2⟩:=rd4 (t:=t.drop (4+m)) o!;have k:IntKind.wrap .u32 (rd ((t.drop (4+m)).take 4))=rd ((t.drop (4+m)).take 4):=by rw[vB];omega
 rw[k];by_cases e:rd ((t.drop (4+m)).take 4)=PK (t.take (4+m));rw[if_neg (by simp[e]),e,bne_self_eq_false,cond_false,AD,AY (x:=(a.length:Int)+8),AY];rw[if_pos e,bne_iff_ne.2 e,cond_true]
theorem ADP{x:BT}{i:Int}(a:0<=i)(h:i>x.length):By (x,(i,4))=some (0,5):=by grind[By]
theorem Qp{a t:BT}(h:(a.length:Int)+t.length<=2199023255552):DM (a++t,(a.length:Int))=some (UF a.length t):=by
 have f:len (a++t)=(a.length:Int)+t.length:=by grind[List.length_append]
 have p:((a++t).length:Int)=(a.length:Int)+t.length:=f;unfold DM UF;dsimp only;rw[decide_eq_false o!,cond_false,decide_eq_false o!,cond_false,XO h g! g!];by_cases i:t.length<4;rw[if_neg o!,if_pos i];rfl;rw[if_pos o!,if_neg i,AD,show Int.toNat 4=4 from rfl];have⟨q,w⟩:=rd4 (t:=t) o!;generalize hn:rd (t.take 4)=n at*;obtain⟨m,rfl⟩:=EY q;rw[show((0:Int) !=0)=false by decide,cond_false];by_cases d:(m:Int)>8392;rw[decide_eq_true d,cond_true,if_pos d];rw[decide_eq_false d,cond_false,if_neg d];have k:wi (wi ((a.length:Int)+4)+(m:Int))=(a.length:Int)+4+m:=by grind[AY]
 by_cases j:(t.length:Int)<(m:Int)+8;rw[if_pos j];have:By (a++t,(wi (wi ((a.length:Int)+4)+(m:Int)),4))=some (0,5):=by
  rw[k];by_cases v:(a.length:Int)+4+m>(a++t).length;grind[ADP];have c:(a.length:Int)+4+m=((a++t.take (4+m)).length:Int):=by grind[List.length_append,List.length_take]
  have g:a++t=(a++t.take (4+m))++t.drop (4+m):=by rw[A0,DN]
  grind[List.length_drop,XO]
 rw[this];rfl;rw[if_neg j,DG];have c:wi (wi ((a.length:Int)+4)+(m:Int))=((a++t.take (4+m)).length:Int):=by grind[List.length_append,List.length_take]
 have g:a++t=(a++t.take (4+m))++t.drop (4+m):=by rw[A0,DN]
 have u:((t.drop (4+m)).length:Int)=t.length-(4+m):=by rw[EH];omega
 have b:((a++t.take (4+m)).length:Int)=a.length+4+m:=by rw[Ac,BQ];omega
 have l:By (a++t,(wi (wi ((a.length:Int)+4)+(m:Int)),4))=some (rd ((t.drop (4+m)).take 4),0):=by
  rw[c];conv=>lhs;rw[g]
  rw[XO o! g! g!,if_pos o!];rfl
 have r:RD (a++t) (a.length:Int) (wi (wi ((a.length:Int)+4)+(m:Int)))=some (t.take (4+m)):=by unfold RD;rw[c,if_pos o!,b,DG,Qt,show((a.length:Int)+4+m).toNat-a.length=4+m by omega]
 have s:RD (a++t) (wi ((a.length:Int)+4)) (wi (wi ((a.length:Int)+4)+(m:Int)))=some ((t.drop 4).take m):=by unfold RD;rw[c,AY (x:=(a.length:Int)+4),if_pos o!,b,show((a.length:Int)+4).toNat=a.length+4 by omega,XW,VV o!,Bw,Ss,show((a.length:Int)+4+m).toNat-(a.length+4)=m by omega]
 rw[l,AD,show(((rd ((t.drop (4+m)).take 4),(0:Int)):Int×Int).2 !=0)=false from rfl,cond_false,r,AD,vv (by rw[BQ];omega),AD,s];have o:=ZI (t.take (4+m));rw[AY (x:=PK (t.take (4+m)))];by_cases e:rd ((t.drop (4+m)).take 4)=PK (t.take (4+m));rw[if_neg (by simp[e]),e,bne_self_eq_false,cond_false,AD,k,AY];refine congrArg some (DR rfl (DR ?_ rfl));dsimp only;omega;rw[if_pos e,bne_iff_ne.2 e,cond_true]
def mT{a:Nat}{t:BT}(h:(UF a t).2.2=0):(UF a t).1.length<=8392/\(∃c,t=Gp (UF a t).1++c)/\(UF a t).2.1=(a:Int)+8+(UF a t).1.length:=by
 unfold UF at h⊢;by_cases j:t.length<4;rw[if_pos j]at h;exact absurd h g!;rw[if_neg j]at h⊢;obtain⟨q,r⟩:=rd4 (t:=t) o!;by_cases k:rd (t.take 4)>8392;rw[if_pos k]at h;exact absurd h g!;rw[if_neg k]at h⊢;by_cases o:(t.length:Int)<rd (t.take 4)+8;rw[if_pos o]at h;exact absurd h g!;rw[if_neg o]at h⊢;by_cases b:rd ((t.drop (4+(rd (t.take 4)).toNat)).take 4)≠PK (t.take (4+(rd (t.take 4)).toNat));rw[if_pos b]at h;exact absurd h g!;rw[if_neg b]at h⊢;have b:=Decidable.not_not.1 b;dsimp only;have e:(t.take 4).length=4:=by rw[BQ];omega
 have g:Cy (rd (t.take 4)) 4=t.take 4:=by have:=vi (l:=t.take 4) o!;rwa [e]at this
 generalize hn:rd (t.take 4)=n at*;obtain⟨m,rfl⟩:=EY q;rw[DG]at b⊢;have i:((t.drop 4).take m).length=m:=by rw[BQ,EH];omega
 refine⟨o!,?_,o!⟩;have p:t.take (4+m)=Cy (m:Int) 4++(t.drop 4).take m:=by rw[List.take_add,g]
 have f:((t.drop (4+m)).take 4).length=4:=by rw[BQ,EH];omega
 have d:Cy (PK (t.take (4+m))) 4=(t.drop (4+m)).take 4:=by rw[<-b];have:=vi (l:=(t.drop (4+m)).take 4) o!;rwa [f]at this
 refine⟨t.drop (4+m+4),?_⟩;unfold Gp;rw[i,<-p,d,<-A0,<-p];conv=>lhs;rw[<-DN (4+m) t,<-DN 4 (t.drop (4+m)),Nd]
 rw[A0]
theorem iM{c:Nat}{p a:BT}(h:p.length<=8392):UF c (Gp p++a)=(p,((c:Int)+8+p.length,0)):=by
 have d:au 4 (p.length:Int):=⟨λ_=>⟨o!,by rw[show(256:Int)^4=4294967296 by decide];omega⟩,o!⟩
 have e:=ZI (Cy (p.length:Int) 4++p);have b:au 4 (PK (Cy (p.length:Int) 4++p)):=⟨λ_=>⟨o!,by rw[show(256:Int)^4=4294967296 by decide];omega⟩,o!⟩
 unfold UF;rw[(by grind[Gp,List.append_assoc,List.take_left',Ax]:(Gp p++a).take 4=Cy (p.length:Int) 4),(pE g! d),DG,(by grind[Gp,List.append_assoc,List.take_left',List.length_append,Ax]:(Gp p++a).take (4+p.length)=Cy (p.length:Int) 4++p),(by grind[Gp,List.append_assoc,List.drop_left',List.length_append,Ax]:(Gp p++a).drop (4+p.length)=Cy (PK (Cy (p.length:Int) 4++p)) 4++a),(by grind[Gp,List.append_assoc,List.drop_left',Ax]:(Gp p++a).drop 4=p++(Cy (PK (Cy (p.length:Int) 4++p)) 4++a)),(by rw[Ac,(C8 p)]:(Gp p++a).length=p.length+8+a.length),if_neg o!,if_neg o!,if_neg o!,Fb (Ax _ _),pE g! b,if_neg k!,Fb rfl]
def CI(b:Dl):Prop:=b.1.length<=1099511627776/\0<=b.2.1/\b.2.1<=b.1.length
def NO{b:Dl}{x:Int}(h:CI b)(c:0<=x/\x<=8):Aq (BP b x) λr=>CI r.2/\(x<=4->0<=r.1/\r.1<4294967296):=by
 unfold BP;unfold CI at*
 exact x!
def Nt{b:Dl}{x:Int}(h:CI b)(d:0<=x/\x<=4294967296):Aq (Cu b x) λr=>CI r.2:=by
 unfold Cu;unfold CI at*
 exact x!
def V5{b:Dl}{x:Unit}(h:CI b):Aq (Cl b x) λr=>CI r.2:=by
 unfold Cl;repeat' with_reducible first|intro a|apply AC|apply AP|apply AJ|apply AL|apply AB|(refine AM ?_ (NO ?_ ?_);intro r hr)|(refine AM ?_ (Nt ?_ ?_);intro r hr)
 all_goals ((try dsimp[len]at*);(try first|omega|assumption|grind[CI]))
theorem aI{x:BT}(h:x.length<=1099511627776):Aq (EA x) λr=>r.2=0->Ln r.1:=by
 unfold EA;have b:CI (x,0,0):=⟨h,k!,k!⟩
 exact x!
def Wb{x:BT×List Int}{s:BT×Int}(h:0<=s.2/\s.2<=x.2.length/\x.2.length<=16777216/\x.1.length<=1073741824/\(s.1.length:Int)<=x.1.length+8*s.2):Aq (Ah (Kw x) s) λr=>(r.length:Int)<=x.1.length+8*x.2.length:=by
 refine AW (λ(s:BT×Int)=>0<=s.2/\s.2<=x.2.length/\x.2.length<=16777216/\x.1.length<=1073741824/\(s.1.length:Int)<=x.1.length+8*s.2) (λ(s:BT×Int)=>((x.2.length:Int)-s.2).toNat) h (λs b=>?_);unfold Kw;exact x!
def Y3{x:BT×List Int}(h:x.2.length<=16777216/\x.1.length<=1073741824):Aq (HT x) λr=>(r.length:Int)<=x.1.length+8*x.2.length:=by
 unfold HT;exact x!
def XH{x:List Am}{s:BT×Int}(h:0<=s.2/\s.2<=x.length/\Yg x/\(s.1.length:Int)<=10+40000*s.2):Aq (Ah (L4 x) s) λr=>(r.length:Int)<=10+40000*x.length:=by
 refine AW (λ(s:BT×Int)=>0<=s.2/\s.2<=x.length/\Yg x/\(s.1.length:Int)<=10+40000*s.2) (λ(s:BT×Int)=>((x.length:Int)-s.2).toNat) h (λs c=>?_);unfold L4;have⟨e,f,⟨b,a⟩,g⟩:=c;repeat' with_reducible first|intro d|apply AC|apply AL|apply AB|(refine AM ?_ (Db ?_);intro r hr)|(refine AM ?_ (Y3 ?_);intro r hr)|(refine AM ?_ (AI ?_ ?_);rintro r ⟨hr,i⟩)
 all_goals try (have j:=a _ _ v!)
 all_goals try unfold VTx at*
 all_goals dsimp[len]at*
 all_goals first|omega|(refine⟨⟨?_,?_,⟨b,a⟩,?_⟩,?_⟩<;>(simp (disch:=omega) only[AY];omega))|grind
def SL{x:List Am}:Aq (KH x) λr=>r.1.length<=16777216:=by
 unfold KH;repeat' with_reducible first|intro a|apply AO|apply AL|apply AB|(apply AA (Dw);intro r hr)|(refine AM ?_ (Db ?_);intro r hr)|(refine AM ?_ (XH ?_);intro r hr)
 all_goals ((try dsimp[len]at*);(try first|omega|assumption|grind[Yg]))
def CJ(b:B8):Prop:=b.1.length<=1099511627776/\0<=b.2.1/\b.2.1<=b.1.length
def GF{b:B8}{x:Int}(h:CJ b)(c:0<=x/\x<=8):Aq (Cd b x) λr=>CJ r.2/\(x<=2->0<=r.1/\r.1<65536):=by
 unfold Cd;unfold CJ at*
 exact x!
def Ub  {s:Int×List Int×B8}(h:0<=s.1/\s.1+s.2.1.length<=65536/\CJ s.2.2):Aq (Ah (I1) s) λr=>CJ r.2/\r.1.length<=65536:=by
 refine AW (λ(s:Int×List Int×B8)=>0<=s.1/\s.1+s.2.1.length<=65536/\CJ s.2.2) (λ(s:Int×List Int×B8)=>s.1.toNat) h (λs c=>?_);unfold I1;exact x!
def V6{b:B8}{x:Int}(h:CJ b)(a:0<=x/\x<=2):Aq (F8 b x) λr=>CJ r.2:=by
 unfold F8;exact x!
def XG  {s:Int×List Am×B8}(h:0<=s.1/\s.1+s.2.1.length<=65536/\CJ s.2.2):Aq (Ah (L3) s) λr=>CJ r.2/\r.1.length<=65536:=by
 refine AW (λ(s:Int×List Am×B8)=>0<=s.1/\s.1+s.2.1.length<=65536/\CJ s.2.2) (λ(s:Int×List Am×B8)=>s.1.toNat) h (λs c=>?_);unfold L3;exact x!
def SJ{x:BT}(h:x.length<=1099511627776):Aq (KG x) λr=>r.1.length<=65536/\(r.2=0->Yg r.1):=by
 unfold KG;have b:CJ (x,0,false):=⟨h,k!,k!⟩
 exact x!
def XF{x:Bu}{s:BT×Int}(h:0<=s.2/\s.2<=x.length/\x.length<=64/\(s.1.length:Int)<=10+24*s.2):Aq (Ah (IT x) s) λr=>r.length<=2000:=by
 refine AW (λ(s:BT×Int)=>0<=s.2/\s.2<=x.length/\x.length<=64/\(s.1.length:Int)<=10+24*s.2) (λ(s:BT×Int)=>((x.length:Int)-s.2).toNat) h (λs b=>?_);unfold IT;exact x!
def SI{x:Bu}:Aq (Hz x) λr=>r.1.length<=2000:=by
 unfold Hz;repeat' with_reducible first|intro a|apply AO|apply AL|apply AB|(apply AA (GC);intro r hr)|(refine AM ?_ (Db ?_);intro r hr)|(refine AM ?_ (XF ?_);intro r hr)
 all_goals ((try dsimp[len]at*);(try first|omega|assumption|grind[lH]))
def XE{x:BT}{a:Int×Int}{s:Int×List BX}(h:0<=s.1/\s.1<=a.1/\a.1<=65536/\x.length<=1099511627776/\s.2.length<=s.1):Aq (Ah (IR x a) s) λr=>r.length<=65536:=by
 refine AW (λ(s:Int×List BX)=>0<=s.1/\s.1<=a.1/\a.1<=65536/\x.length<=1099511627776/\s.2.length<=s.1) (λ(s:Int×List BX)=>(a.1-s.1).toNat) h (λs d=>?_);unfold IR;exact x!
def SH{x:BT}(h:x.length<=1099511627776):Aq (Ef x) λr=>(r.2=0->lH r.1)/\r.1.length<=65536:=by
 unfold Ef;exact x!
def QY{x:CY}{s:Int}(h:0<=s/\s<=x.2.2.1.length/\(x.2.2.1.length:Int)<=16777216):Aq (Ah (NG x) s) λr=>r≠ .inl true:=by
 refine AW (λ(s:Int)=>0<=s/\s<=x.2.2.1.length/\(x.2.2.1.length:Int)<=16777216) (λ(s:Int)=>((x.2.2.1.length:Int)-s).toNat) h (λs b=>?_);unfold NG;exact x!
def qv(x:CY):Prop:=1<=x.1/\x.1<=64/\Yg x.2.2.1/\lH x.2.2.2.2/\x.2.2.2.2.length=x.1
def N3{x:CY}(h:x.2.2.2.1.length<=16777216):Aq (G0 x) λr=>r=true->qv x:=by
 unfold G0 qv
 repeat' first
   |with_reducible apply AC<;>intro a
   |with_reducible apply AO<;>intro a
   |with_reducible apply AJ<;>intro a
   |(with_reducible apply A9<;>(intro u b;try subst b))
   |with_reducible apply AB
   |(with_reducible apply AA (Dw);intro r hr)
   |(with_reducible refine AM ?_ (PS ?_);intro r hr)
   |(with_reducible apply AA (GC);intro r hr)
   |(with_reducible refine AM ?_ (QY ?_);intro r hr)
 all_goals ((try dsimp[len]at*);(try first|omega|assumption|grind[Yg]))
def XK{x:CY}{s:BT×Int}(h:0<=s.2/\s.2<=x.2.2.2.1.length/\x.2.2.2.1.length<=16777216/\(s.1.length:Int)<=100000000+24*s.2):Aq (Ah (IV x) s) λr=>r.length<=1073741824:=by
 refine AW (λ(s:BT×Int)=>0<=s.2/\s.2<=x.2.2.2.1.length/\x.2.2.2.1.length<=16777216/\(s.1.length:Int)<=100000000+24*s.2) (λ(s:BT×Int)=>((x.2.2.2.1.length:Int)-s.2).toNat) h (λs b=>?_);unfold IV;exact x!
def aX{x:CY}(h:x.2.2.2.1.length<=16777216):Aq (Gc x) λr=>r.1.length<=2147483648:=by
 unfold Gc;exact x!
def UM(c:Ch):BT:=bif c.1 then Cy (c.2.length:Int) 1++c.2 else Cy 255 1
def B4(e:AE):BT:=
 Cy e.1 8++(Cy e.2.1 1++(Cy e.2.2.1 4++(Cy e.2.2.2.1 8++(Cy e.2.2.2.2.1 8++(Cy e.2.2.2.2.2.1 8++(Cy e.2.2.2.2.2.2.1.1 4++(Cy e.2.2.2.2.2.2.1.2.1 1++
 (UM e.2.2.2.2.2.2.1.2.2.1++(UM e.2.2.2.2.2.2.1.2.2.2++(Cy (e.2.2.2.2.2.2.2.length:Int) 4++e.2.2.2.2.2.2.2))))))))))
theorem iv{c:Ch}(h:Fo c):(UM c).length<=13:=by
 unfold UM;cases c.1 with
 |true=>rw[cond_true,Ac,Ax];have:=h.1;omega
 |false=>grind[Ax]
def AAC{s:BT}{c:Ch}(h:s.length<=1099511627776)(a:c.2.length<=8192):GK (s,c)=some (s++UM c):=by grind[GK,UM,Bool.not_false,Hf,Bool.not_true,sapp,Cy,Int.toNat,List.length_append,Ax,List.append_assoc]
def Ln.cells{e:AE}(h:Ln e):Fo e.2.2.2.2.2.2.1.2.2.1/\Fo e.2.2.2.2.2.2.1.2.2.2/\e.2.2.2.2.2.2.2.length<=8192/\au 8 e.1/\au 1 e.2.1/\au 4 e.2.2.1/\au 8 e.2.2.2.1/\au 8 e.2.2.2.2.1/\au 8 e.2.2.2.2.2.1/\au 4 e.2.2.2.2.2.2.1.1/\au 1 e.2.2.2.2.2.2.1.2.1:=by
 have⟨a1,a2,a3,a4,a5,a6,a7,a8,j⟩:=h;have k: ∀n:Int,0<=n->n<=1099511627776->au 8 n:=λn l m=>⟨n!,o!⟩
 have p: ∀n:Int,0<=n->n<=1073741824->au 4 n:=λn l m=>⟨λ_=>by rw[show(256:Int)^4=4294967296 by decide];omega,o!⟩
 have o: ∀n:Int,0<=n->n<=255->au 1 n:=λn l m=>⟨λ_=>by rw[show(256:Int)^1=256 by decide];omega,o!⟩
 have z:Fo (false,[]):=⟨g!,.inr rfl⟩
 refine and_assoc.1 (and_assoc.1 ⟨?_,k _ o! o!,?_⟩);rcases j with⟨k1,f,d,g,c,a⟩|⟨k1,f,d,g,c,a,i,b⟩|⟨k1,f,d,g,c,a,i,b⟩|⟨k1,f,d,g,c,a,i⟩|j;exact⟨⟨a.2.2.2.2.1,a.2.2.2.2.2⟩,by rw[d];decide⟩;exact⟨⟨b.2.2.2.2.1,b.2.2.2.2.2⟩,by rw[c];decide⟩;rw[c,a];exact⟨⟨z,z⟩,g!⟩;rw[a];exact⟨⟨z,z⟩,i⟩;have⟨k1,f,d,g,c,a,i,b⟩:=j;rw[i,b];exact⟨⟨z,z⟩,g!⟩;have q:1<=e.2.1/\e.2.1<=8/\0<=e.2.2.1/\e.2.2.1<=1073741824/\0<=e.2.2.2.2.2.2.1.1/\e.2.2.2.2.2.2.1.1<64/\0<=e.2.2.2.2.2.2.1.2.1/\e.2.2.2.2.2.2.1.2.1<16:=by rcases j with⟨k1,f,d,g,c,a⟩|⟨k1,f,d,g,c,a,i,b⟩|⟨k1,f,d,g,c,a,i,b⟩|⟨k1,f,d,g,c,a,i⟩|j;have:=a.1;have:=a.2.1;have:=a.2.2.1;have:=a.2.2.2.1;omega;have:=b.1;have:=b.2.1;have:=b.2.2.1;have:=b.2.2.2.1;omega;grind[Pq];grind[Pq];grind[Pq]
 exact⟨o _ o! o!,p _ o! o!,k _ o! o!,k _ o! o!,k _ o! o!,p _ o! o!,o _ o! o!⟩
theorem R2{e:AE}(h:Ln e):(B4 e).length<=8392:=by have⟨a,b,c,_⟩:=h.cells;grind[iv,B4,List.length_append,Ax]
theorem pK{e:AE}(h:Ln e):Fe e=some (B4 e,0):=by have⟨c,d,i,_⟩:=h.cells;have l1:=iv c;have l2:=iv d;have⟨b,f,g⟩:=CV (x:=e);have a:b=true:=g.2 h;subst a;unfold Fe;rw[f,AD,Cw,cond_false];rw[Hf k! g! g!,AD,Bw];rw[Hf (by simp only[Ac,Ax];simp only[Int.reduceToNat];omega) g! g!,AD];rw[Hf (by simp only[Ac,Ax];simp only[Int.reduceToNat];omega) g! g!,AD];rw[Hf (by simp only[Ac,Ax];simp only[Int.reduceToNat];omega) g! g!,AD];rw[Hf (by simp only[Ac,Ax];simp only[Int.reduceToNat];omega) g! g!,AD];rw[Hf (by simp only[Ac,Ax];simp only[Int.reduceToNat];omega) g! g!,AD];rw[Hf (by simp only[Ac,Ax];simp only[Int.reduceToNat];omega) g! g!,AD];rw[Hf (by simp only[Ac,Ax];simp only[Int.reduceToNat];omega) g! g!,AD];rw[AAC (by simp only[Ac,Ax];simp only[Int.reduceToNat];omega) (by have:=c.1;omega),AD];rw[AAC (by simp only[Ac,Ax];simp[Int.reduceToNat];omega) (by have:=d.1;omega),AD];rw[Hf (by simp only[Ac,Ax];simp[Int.reduceToNat];omega) g! g!,AD];unfold sapp;rw[if_pos (by simp only[Ac,Ax];simp[Int.reduceToNat];omega),AD];simp[A0];rfl
def CS(x p:BT)(c:BT×Int×Int):Prop:=c.1=x/\(c.2.2=0-> ∃rest,x=p++rest/\c.2.1=p.length)
def qt{t:BT}{k:Nat}(h:k<=t.length)(a:k<=8):au k (rd (t.take k))/\Cy (rd (t.take k)) k=t.take k:=by grind[List.length_take,zT,vi]
def ak{x p:BT}{c:BT×Int×Int}{k:Nat}(h:CS x p c)(o:x.length<=1099511627776)(q:1<=k)(m:k<=8):Aq (BP c (k:Int)) λr=>CS x (p++Cy r.1 k) r.2/\(r.2.2.2=0->au k r.1)/\(c.2.2≠0->r=(0,c)):=by have⟨s,l,e⟩:=c;have⟨g,i⟩:=h;dsimp only at g i;subst g;unfold BP;refine AJ (λd=>AB ⟨⟨rfl,λb=>absurd b d⟩,λb=>absurd b d,λ_=>rfl⟩) (λd=>?_);dsimp only at d;subst d;have⟨a,hr,n⟩:=i rfl;subst hr n;rw[Ac]at o;rw[iK o! o! o!];by_cases j:(k:Int)<=a.length;rw[if_pos j,AD,DG];have⟨q1,q2⟩:=qt (t:=a) (k:=k) o! m;rw[show((0:Int) !=0)=false by decide,cond_false];refine AB ⟨⟨rfl,λ_=>⟨a.drop k,?_,?_⟩⟩,λ_=>q1,λf=>absurd rfl f⟩;grind[List.append_assoc,List.take_append_drop];grind[AY,List.length_append,Ax];rw[if_neg j,AD];rw[show((5:Int) !=0)=true by decide,cond_true];exact AB ⟨⟨rfl,λb=>absurd (show(5:Int)=0 from b) g!⟩,λb=>absurd (show(5:Int)=0 from b) g!,λf=>absurd rfl f⟩
def ADh{x p:BT}{c:BT×Int×Int}{n:Int}(h:CS x p c)(k:x.length<=1099511627776)(hn:c.2.2=0->0<=n/\n<4294967296):Aq (Cu c n) λr=>CS x (p++r.1) r.2/\(r.2.2.2=0->(r.1.length:Int)=n/\c.2.2=0):=by have⟨s,g,e⟩:=c;have⟨d,f⟩:=h;dsimp only at d f hn;subst d;unfold Cu;by_cases j:e=0;subst j;have⟨a,hr,i⟩:=f rfl;have⟨l,q⟩:=hn rfl;subst hr i;obtain⟨m,rfl⟩:=EY l;rw[Ac]at k;rw[show((0:Int) !=0)=false by decide,cond_false];simp only[len];rw[show wi (((p++a).length:Int)-(p.length:Int))=a.length by rw[Ac,AY];omega];by_cases o:(m:Int)<=a.length;rw[decide_eq_false o!,cond_false];rw[(by grind[AY,RD,List.length_append,List.drop_left]:RD (p++a) (wi (wi ((p.length:Int)+(m:Int))-(m:Int))) (wi ((p.length:Int)+(m:Int)))=some (a.take m)),AD];refine AB ⟨⟨rfl,λ_=>⟨a.drop m,?_,?_⟩⟩,λ_=>⟨?_,by first|rfl|trivial⟩⟩;grind[List.append_assoc,List.take_append_drop];grind[AY,List.length_append,List.length_take];grind[List.length_take];rw[decide_eq_true o!,cond_true];exact AB ⟨⟨rfl,λb=>absurd (show(5:Int)=0 from b) g!⟩,λb=>absurd (show(5:Int)=0 from b) g!⟩;grind[AB]
def ADe{x p:BT}{c:BT×Int×Int}(h:CS x p c)(i:x.length<=1099511627776):Aq (Cl c ()) λr=>CS x (p++UM r.1) r.2/\(r.2.2.2=0->Fo r.1):=by unfold Cl;refine AA (ak (k:=1) h i g! g!) λv n=>?_;have⟨⟨f,j⟩,q,y⟩:=n;refine AJ (λd=>AB ⟨⟨f,λb=>absurd b d⟩,λb=>absurd b d⟩) (λd=>?_);have⟨e,hr,g⟩:=j d;have m:=(q d).1 g!;rw[show(256:Int)^1=256 by decide]at m;refine AP (λa=>AB ⟨⟨f,λ_=>⟨e,?_,?_⟩⟩,λ_=>⟨Be _,.inr rfl⟩⟩) (λa=>?_);dsimp only;rw[a]at hr;exact hr;dsimp only;rw[a]at g;exact g;refine AC (λ_=>AB ⟨⟨f,λb=>absurd (show(4:Int)=0 from b) g!⟩,λb=>absurd (show(4:Int)=0 from b) g!⟩) (λl=>?_);refine AA (ADh (x:=x) (p:=p++Cy v.1 1) ⟨f,j⟩ i (λ_=>o!)) λw o=>AB ?_;have⟨⟨s,z⟩,t⟩:=o;refine⟨⟨s,λb=>?_⟩,λb=>?_⟩;grind[UM,Cy,List.append_assoc];dsimp only at b⊢;have⟨u,_⟩:=t b;exact⟨d!,.inl rfl⟩
def YY{x p a:BT}{n:Int}{k:Nat}(e:x=p++(Cy n k++a))(d:x.length<=1099511627776)(b:1<=k)(c:k<=8)(hn:au k n):BP (x,((p.length:Int),0)) (k:Int)=some (n,(x,(((p++Cy n k).length:Int),0))):=by grind[List.length,List.length_append,Ax,BP,iK,Int.toNat_natCast,List.take_left',pE,AY]
theorem ADg{x p w a:BT}(c:x=p++(w++a))(d:x.length<=1099511627776):Cu (x,((p.length:Int),0)) (w.length:Int)=some (w,(x,(((p++w).length:Int),0))):=by
 have b:=congrArg List.length c;simp[Ac]at b;unfold Cu;dsimp only;rw[show((0:Int) !=0)=false by decide,cond_false];simp only[len];rw[show decide ((w.length:Int)>wi ((x.length:Int)-(p.length:Int)))=false from decide_eq_false (by rw[AY];omega),cond_false];have e:RD x (wi (wi ((p.length:Int)+(w.length:Int))-(w.length:Int))) (wi ((p.length:Int)+(w.length:Int)))=some w:=by rw[AY (x:=(p.length:Int)+(w.length:Int)),AY];unfold RD;rw[if_pos o!,c,show((p.length:Int)+(w.length:Int)-(w.length:Int)).toNat=p.length by omega,Qt,show((p.length:Int)+(w.length:Int)).toNat-p.length=w.length by omega,Xm]
 grind[AY,List.length_append]
def ADd{x p a:BT}{c:Ch}(e:x=p++(UM c++a))(i:x.length<=1099511627776)(k:Fo c):Cl (x,((p.length:Int),0)) ()=some (c,(x,(((p++UM c).length:Int),0))):=by
 have⟨b,d⟩:=c;have⟨j,f⟩:=k;dsimp only at j f;unfold Cl;cases b with
 |false=>
  have l:d=[]:=by rcases f with h|h;cases h;exact h
  subst l;rw[(rfl:UM (false,[])=Cy 255 1)]at e⊢;rw[show(1:Int)=((1:Nat):Int)from rfl,YY e i g! g! ⟨λ_=>g!,g!,g!⟩];rfl
 |true=>have g:UM (true,d)=Cy (d.length:Int) 1++d:=rfl;rw[g,A0]at e;rw[g];rw[show(1:Int)=((1:Nat):Int)from rfl,YY e i g! g! ⟨λ_=>by rw[show(256:Int)^1=256 by decide];omega,o!⟩,AD];grind[ADg,List.append_assoc]
def AHF{x:BT}(a:x.length<=1099511627776):Aq (EA x) λr=>r.2=0->x=B4 r.1/\Fo r.1.2.2.2.2.2.2.1.2.2.1/\Fo r.1.2.2.2.2.2.2.1.2.2.2/\au 4 (r.1.2.2.2.2.2.2.2.length:Int)/\Co r.1=some true:=by
 unfold EA;have I:CS x [] (x,(0,0)):=⟨rfl,λ_=>⟨x,rfl,rfl⟩⟩
 refine AA (ak (k:=8) I a g! g!) λO y=>AA (ak (k:=1) y.1 a g! g!) λP z=>AA (ak (k:=4) z.1 a g! g!) λQ A=>AA (ak (k:=8) A.1 a g! g!) λR B=>AA (ak (k:=8) B.1 a g! g!) λS C=>AA (ak (k:=8) C.1 a g! g!) λT D=>AA (ak (k:=4) D.1 a g! g!) λU E=>AA (ak (k:=1) E.1 a g! g!) λV F=>D5 (ADe F.1 a) λq M o=>D5 (ADe o.1 a) λs w p=>AA (ak (k:=4) p.1 a g! g!) λj b=>AA (ADh (n:=j.1) b.1 a (λc=>?_)) λJ f=>?_;have:=(b.2.1 c).1 g!;rw[show(256:Int)^4=4294967296 by decide]at this;exact this;refine AJ (λh=>AB λc=>absurd c h) (λh=>AJ (λ_=>AB n!) (λG=>D5 (CV) λK i _=>AO (λ_=>AB n!) (λH=>AB λ_=>?_)));subst H;obtain⟨q11,d⟩:=f.2 h;have l:s.2.2.2=0:=Qs λe=>by have:=b.2.2 e;rw[this]at d;exact e d
 have u:=p.2 l;have L:q.2.2.2=0:=Qs λe=>by
  have:s=((false,[]),q.2):=by have:=w;unfold Cl BP at this;rw[bne_iff_ne.2 e,cond_true,AD,bne_iff_ne.2 e,cond_true]at this;injection this with this;exact this.symm
  rw[this]at l;exact e l
 have t:=o.2 L;obtain⟨g,m,N⟩:=f.1.2 h;have hr:g=[]:=by simp only[len]at G;have v:=congrArg List.length m;rw[Ac]at v;exact EZ o!
 subst hr;refine⟨?_,t,u,?_,i⟩;rw[m];unfold B4;dsimp only;rw[q11];simp only[A0,Bw,C5];dsimp only;rw[q11];exact b.2.1 d
def ADf{e:AE}(h:Ln e):EA (B4 e)=some (e,0):=by
 obtain⟨s,t,H,w,y,z,A,B,C,D,E⟩:=h.cells;have I:=R2 h;have g:au 4 (e.2.2.2.2.2.2.2.length:Int):=⟨λ_=>by rw[show(256:Int)^4=4294967296 by decide];omega,o!⟩
 have a:B4 e=[]++(Cy e.1 8++(Cy e.2.1 1++(Cy e.2.2.1 4++(Cy e.2.2.2.1 8++(Cy e.2.2.2.2.1 8++(Cy e.2.2.2.2.2.1 8++(Cy e.2.2.2.2.2.2.1.1 4++(Cy e.2.2.2.2.2.2.1.2.1 1++
 (UM e.2.2.2.2.2.2.1.2.2.1++(UM e.2.2.2.2.2.2.1.2.2.2++(Cy (e.2.2.2.2.2.2.2.length:Int) 4++(e.2.2.2.2.2.2.2++[])))))))))))):=by rw[C5];rfl
 generalize B4 e=x at*;have i:BP (x,(((0:Int)),0)) 8=_:=YY (p:=[]) (k:=8) a o! g! g! w;rw[Bw]at i;rw[Bw]at a;have j:=YY (k:=1) a o! g! g! y;rw[<-A0]at a;have l:=YY (k:=4) a o! g! g! z;rw[<-A0]at a;have m:=YY (k:=8) a o! g! g! A;rw[<-A0]at a;have n:=YY (k:=8) a o! g! g! B;rw[<-A0]at a;have o:=YY (k:=8) a o! g! g! C;rw[<-A0]at a;have q:=YY (k:=4) a o! g! g! D;rw[<-A0]at a;have r:=YY (k:=1) a o! g! g! E;rw[<-A0]at a;have F:=ADd a o! s;rw[<-A0]at a;have G:=ADd a o! t;rw[<-A0]at a;have c:=YY (k:=4) a o! g! g! g;rw[<-A0]at a;have d:=ADg a o!;rw[C5]at a;rw[<-a]at d;unfold EA;rw[i,AD];rw[show((1:Nat):Int)=1 from rfl]at j r;rw[show((4:Nat):Int)=4 from rfl]at l q c;rw[show((8:Nat):Int)=8 from rfl]at m n o;rw[j,AD,l,AD,m,AD,n,AD,o,AD,q,AD,r,AD,F,AD,G,AD,c,AD,d,AD];obtain⟨b,u,v⟩:=CV (x:=e);have f:b=true:=v.2 h;subst f;dsimp only[len];rw[show((0:Int) !=0)=false by decide,cond_false,bne_self_eq_false,cond_false];rw[show(e.1,(e.2.1,(e.2.2.1,(e.2.2.2.1,(e.2.2.2.2.1,(e.2.2.2.2.2.1,((e.2.2.2.2.2.2.1.1,(e.2.2.2.2.2.2.1.2.1,(e.2.2.2.2.2.2.1.2.2.1,e.2.2.2.2.2.2.1.2.2.2))),e.2.2.2.2.2.2.2)))))))=e from rfl,u,AD,Cw,cond_false]
def KA(l:List AE):BT:=(l.map λe=>Gp (B4 e)).flatten
theorem R4(l:List AE)(e:AE):KA (l++[e])=KA l++Gp (B4 e):=by unfold KA;grind
theorem nF(e:AE)(l:List AE):KA (e::l)=Gp (B4 e)++KA l:=rfl
def qY{l:List AE}(h: ∀e∈l,Ln e):(KA l).length<=8400*l.length:=by
 induction l with
 |nil=>exact Ap _
 |cons e r b=>have c:=b λx a=>h x (Aw.2 (.inr a));have d:=R2 (h e (Aw.2 (.inl rfl)));rw[nF,Ac,C8,Bn];omega
def ABK{x p a:BT}{at_:Int}{k:Nat}(c:x=p++a)(e:at_=p.length)(i:x.length≤1099511627776)(h:1≤k)(f:k≤8)(g:k≤a.length):
  ∃n b,Az (x,(at_,(k:Int)))=some (n,0)/\By (x,(at_,(k:Int)))=some (n,0)/\x=(p++Cy n k)++b/\au k n/\b.length+k=a.length:=by
 have d:=congrArg List.length c;rw[Ac]at d;obtain⟨q1,q2⟩:=qt (t:=a) g f;refine⟨rd (a.take k),a.drop k,?_,?_,?_,q1,?_⟩;rw[c,e,iK o! o! o!,if_pos o!,DG];rw[c,e,XO o! o! o!,if_pos o!,DG];rw[q2,A0,DN];exact c;rw[EH];omega
def jN{x p rest:BT}{at_ n:Int}{k:Nat}(a:x=p++(Cy n k++rest))(d:at_=p.length)(f:x.length≤1099511627776)(e:1≤k)(c:k≤8)(hn:au k n):
  Az (x,(at_,(k:Int)))=some (n,0)/\By (x,(at_,(k:Int)))=some (n,0):=by
 have b:=congrArg List.length a;simp only[Ac,Ax]at b;refine⟨?_,?_⟩;rw[a,d,iK (by rw[Ac,Ax];omega) o! o!,if_pos (by rw[Ac,Ax];omega),DG,Fb (Ax _ _),pE c hn];rw[a,d,XO (by rw[Ac,Ax];omega) o! o!,if_pos (by rw[Ac,Ax];omega),DG,Fb (Ax _ _),pE c hn]
def Yx{x:List As×Int×Bool×Cq}{s:Int×List As}(h:0<=s.1/\s.1<=x.1.length/\x.1.length<=16777216/\s.2.length<=s.1):Aq (Ah (Nz x) s) λr=>r.length<=x.1.length:=by
 refine AW (λ(s:Int×List As)=>0<=s.1/\s.1<=x.1.length/\x.1.length<=16777216/\s.2.length<=s.1) (λ(s:Int×List As)=>((x.1.length:Int)-s.1).toNat) h (λs b=>?_);unfold Nz;exact x!
def KE{x:List As×Int×Bool×Cq}(h:x.1.length<=16777216):Aq (GM x) λr=>r.length<=x.1.length:=by
 unfold GM;exact x!
def Yu{x:A8×Int}{s:Int}(h:0<=s/\s<=x.1.1.length/\(x.1.1.length:Int)<=16777216/\0<=x.2/\x.2<x.1.2.length):Aq (Ah (Nv x) s) λr=>True:=by
 refine AW (λ(s:Int)=>0<=s/\s<=x.1.1.length/\(x.1.1.length:Int)<=16777216/\0<=x.2/\x.2<x.1.2.length) (λ(s:Int)=>((x.1.1.length:Int)-s).toNat) h (λs a=>?_);unfold Nv;exact x!
def Yv{x:A8×Int}{s:Int}(h:0<=s/\s<=x.2/\(x.2:Int)<=16777216/\0<=x.2/\x.2<x.1.2.length):Aq (Ah (Nw x) s) λr=>True:=by
 refine AW (λ(s:Int)=>0<=s/\s<=x.2/\(x.2:Int)<=16777216/\0<=x.2/\x.2<x.1.2.length) (λ(s:Int)=>((x.2:Int)-s).toNat) h (λs a=>?_);unfold Nw;exact x!
def fO{x:A8×Int}(h:x.1.1.length<=4096/\x.1.2.length<=4096)(b:0<=x.2/\x.2<x.1.2.length):Aq (MQ x) λr=>True:=by
 unfold MQ;exact x!
def Yw{x:List As×As}{s:Bool×Int×List As}(h:0<=s.2.1/\s.2.1<=x.1.length/\x.1.length<=4096/\s.2.2.length<=s.2.1+1/\(s.1=false->(s.2.2.length:Int)<=s.2.1)):Aq (Ah (Ny x) s) λr=>r.2.length<=x.1.length+1/\(r.1=false->r.2.length<=x.1.length):=by
 refine AW (λ(s:Bool×Int×List As)=>0<=s.2.1/\s.2.1<=x.1.length/\x.1.length<=4096/\s.2.2.length<=s.2.1+1/\(s.1=false->(s.2.2.length:Int)<=s.2.1)) (λ(s:Bool×Int×List As)=>((x.1.length:Int)-s.2.1).toNat) h (λs c=>?_);unfold Ny;repeat' with_reducible first|intro a|apply AC|apply AO|apply AJ|(apply BC;try dsimp only)|apply Bg|apply B0|apply AB|(apply AA (UZ);intro r hr)|(refine AM ?_ (AI ?_ ?_);rintro r ⟨hr,f⟩)|(refine AM ?_ (AZ ?_);rintro r ⟨hr,d,b⟩)
 all_goals try (have e:=AY (x:=s.2.1+1))
 all_goals (first|omega|grind)
def fP{x:List As×As}(h:x.1.length<=4096):Aq (MR x) λr=>r.length<=x.1.length+1:=by
 unfold MR;exact x!
def XB{B:Nat}(i:B<=2000){s:Int×A8}(h:0<=s.1/\s.1<=s.2.2.length/\s.2.1.length+s.2.2.length<=B):Aq (Ah RQ s) λr=>r.1.length+r.2.length<=B:=by refine AW (λs=>0<=s.1/\s.1<=s.2.2.length/\s.2.1.length+s.2.2.length<=B) (λs=>s.2.2.length*3000+((s.2.2.length:Int)-s.1).toNat) h (λs d=>?_);have⟨b,e,c⟩:=d;refine AC (λa=>?_) (λa=>AB c);simp[len]at a;refine AA (fO d! ⟨b,a⟩) λv _=>AA (P:=λv:Int×A8=>(v=s)\/(v.1= -1/\v.2.1.length<=s.2.1.length+1/\v.2.2.length+1=s.2.2.length)) ?_ λm g=>?_;refine AL (λ_=>?_) (λ_=>AB (.inl rfl));refine AA (AI b a) λj _=>AA (fP d!) λk c=>AA (Bb o! b) λl f=>?_;grind[AY,AA,Bb,AZ,AB];grind[AB,AY]
def JA{B:Nat}{x:A8}(a:B<=2000)(h:x.1.length+x.2.length<=B):Aq (Fg x) λr=>r.1.length+r.2.length<=B:=by exact AA (XB a ⟨k!,k!,h⟩) λr hr=>AB hr
theorem GH.of{x:A8}{B:Nat}(a:B<=2000)(h:x.1.length+x.2.length<=B):GH x:=⟨by omega,by omega⟩
def GH.nil:GH (([],[]):A8):=⟨k!,k!⟩
def Lw{x:A8×Int}(h:GH x.1):Aq (HQ x) λr=>GH r:=by refine AA (FJ h) λv d=>AO (λ_=>AB h) (λc=>?_);have g:=d c;refine AA (KE h.1) λa e=>AA (KE h.2) λb f=>AA (JA (B:=1024) g! ?_) λr hr=>AB (GH.of g! hr);grind[Zb]
def aM{x:A8×Int}(h:GH x.1):Aq (Oo x) λr=>GH r:=by refine AA (FJ h) λv c=>AO (λ_=>AB h) (λa=>?_);have e:=c a;refine AA (KE h.2) λb d=>AA (JA (B:=1024) g! ?_) λr hr=>AB (GH.of g! hr);grind[Zb]
def UY{x:A8×Int×Cq}(h:GH x.1):Aq (MP x) λr=>GH r:=by refine AA (FJ h) λv c=>AO (λ_=>AB h) (λa=>?_);have e:=c a;refine AA (KE h.1) λb d=>AA (JA (B:=1024) g! ?_) λr hr=>AB (GH.of g! hr);grind[Zb]
def WZ{x:A8×Int}{s:Int×As}(h:0<=s.1/\s.1<=x.1.2.length/\x.1.2.length<=16777216):Aq (Ah (Ku x) s) λr=>True:=by
 refine AW (λ(s:Int×As)=>0<=s.1/\s.1<=x.1.2.length/\x.1.2.length<=16777216) (λ(s:Int×As)=>((x.1.2.length:Int)-s.1).toNat) h (λs b=>?_);unfold Ku;exact x!
def IQ{x:A8×Int}(h:GH x.1):Aq (FK x) λr=>r.2=true->Zb x.1:=by
 unfold FK;repeat' with_reducible first|apply AL<;>intro b|(apply BC;try dsimp only)|apply Bg|apply B0|apply Ms|(apply A9<;>(intro u a;try subst a))|apply AB|(refine AM ?_ (FJ ?_);intro r hr)|(refine AM ?_ (WZ ?_);intro r hr)
 all_goals ((try dsimp[len]at*);(try first|omega|assumption|grind[GH]))
def YD{x:A8×As}{s:Int}(h:0<=s/\s<=x.1.2.length/\(x.1.2.length:Int)<=16777216/\x.1.1.length<=16777216):Aq (Ah (M5 x) s) λr=> ∀u,r= .inl u->0<=u/\u<=x.1.2.length:=by
 refine AW (λ(s:Int)=>0<=s/\s<=x.1.2.length/\(x.1.2.length:Int)<=16777216/\x.1.1.length<=16777216) (λ(s:Int)=>((x.1.2.length:Int)-s).toNat) h (λs a=>?_);unfold M5;exact x!
def cg{x:A8×As}(h:GH x.1):Aq (If x) λr=>0<=r/\r<=x.1.2.length:=by
 unfold If;repeat' with_reducible first|apply AP<;>intro b|(apply A9<;>(intro u a;try subst a))|apply AB|(refine AM ?_ (Hw ?_);intro r hr)|(refine AM ?_ (YD ?_);intro r hr)
 all_goals ((try dsimp[len]at*);(try first|omega|assumption|grind[GH]))
def Yt{x:A8×As}(h:GH x.1):Aq (Nu x) λr=>GH r.1:=by refine AA (FJ h) λv o=>AO (λ_=>AB GH.nil) (λl=>?_);have n:=o l;unfold Zb at n;refine AA Nx λ_ _=>AO (λ_=>AB GH.nil) (λ_=>AA (IQ h) λz _=>?_);apply AL<;>intro m;simp_all[AL,AB,GH.nil];refine AL (λ_=>AB h) (λ_=>AA (Hw h.1) λ_ _=>AL (λ_=>AB h) (λ_=>AL (λ_=>AB GH.nil) (λ_=>AA (cg h) λp e=>AA (Bb o! e.1 e.2) λq j=>AA (Bb e.1 (by simp[len];omega) i!) λs a=>?_)));have f:=a.2;simp[len]at f;refine AA (AZ w!) λt b=>?_;have g:=b.2.1;simp at g;refine AA (AZ w!) λu c=>?_;have i:=c.2.1;simp at i;refine AA (AZ o!) λw k=>AA (JA (B:=1025) g! d!) λy d=>AA (Hw d!) λ_ _=>AB (GH.of g! d)
def Y0{x:List Int×Int}{s:Bool×Int×List Int}(h:0<=s.2.1/\s.2.1<=x.1.length/\x.1.length<=4096/\s.2.2.length<=s.2.1+1/\(s.1=false->(s.2.2.length:Int)<=s.2.1)):Aq (Ah (Ns x) s) λr=>r.2.length<=x.1.length+1/\(r.1=false->r.2.length<=x.1.length):=by
 refine AW (λ(s:Bool×Int×List Int)=>0<=s.2.1/\s.2.1<=x.1.length/\x.1.length<=4096/\s.2.2.length<=s.2.1+1/\(s.1=false->(s.2.2.length:Int)<=s.2.1)) (λ(s:Bool×Int×List Int)=>((x.1.length:Int)-s.2.1).toNat) h (λs b=>?_);unfold Ns;repeat' with_reducible first|intro a|apply AC|apply AO|apply AJ|apply AL|(apply BC;try dsimp only)|apply Bg|apply B0|apply AB|(refine AM ?_ (AI ?_ ?_);rintro r ⟨hr,g⟩)|(refine AM ?_ (AZ ?_);rintro r ⟨hr,f,d⟩)
 all_goals try dsimp[len]at*
 all_goals try (have e:=AY (x:=s.2.1+1))
 all_goals try (have c:=b.2.2.2.2 v!)
 all_goals (try simp[Bn,BV,Bool.true_eq_false,false_implies,and_true]at*)
 all_goals first|omega|grind
def Ov{x:List Int×Int}(h:x.1.length<=4096):Aq (FU x) λr=>r.length<=x.1.length+1:=by
 unfold FU;exact x!
def Wa{x:A8}{s:List Int×Int}(h:0<=s.2/\s.2<=x.2.length/\x.2.length<=4096/\s.1.length<=s.2):Aq (Ah (Kv x) s) λr=>r.length<=x.2.length:=by
 refine AW (λ(s:List Int×Int)=>0<=s.2/\s.2<=x.2.length/\x.2.length<=4096/\s.1.length<=s.2) (λ(s:List Int×Int)=>((x.2.length:Int)-s.2).toNat) h (λs b=>?_);unfold Kv;exact x!
def Yz{x:A8}(h:GH x):Aq (Je x) λr=>r.length<=4096:=by
 unfold Je;repeat' with_reducible first|apply AL<;>intro a|(apply BC;try dsimp only)|apply Bg|apply B0|apply AB|(refine AM ?_ (FJ ?_);intro r hr)|(refine AM ?_ (Wa ?_);intro r hr)
 all_goals ((try dsimp[len]at*);(try first|omega|assumption|grind[AY,Zb]))
theorem aN{x:A8×Int}{b:As×Bool}{s:List Int×Int}(h:0<=s.2/\s.2<=x.1.1.length/\x.1.1.length<=1024/\s.1.length<=s.2):Aq (Ah (Oq x b) s) λr=>r.length<=x.1.1.length:=by
 refine AW (λ(s:List Int×Int)=>0<=s.2/\s.2<=x.1.1.length/\x.1.1.length<=1024/\s.1.length<=s.2) (λ(s:List Int×Int)=>((x.1.1.length:Int)-s.2).toNat) h (λs c=>?_);unfold Oq;exact x!
theorem aO{x:A8×Int}{b:As×Bool}{s:List Int×Int}(h:0<=s.2/\s.2<=x.1.2.length/\x.1.2.length<=1024/\s.1.length<=s.2+1024):Aq (Ah (Ot x b) s) λr=>r.length<=4096:=by
 refine AW (λ(s:List Int×Int)=>0<=s.2/\s.2<=x.1.2.length/\x.1.2.length<=1024/\s.1.length<=s.2+1024) (λ(s:List Int×Int)=>((x.1.2.length:Int)-s.2).toNat) h (λs c=>?_);unfold Ot;exact x!
def LM{x:A8×Int}(h:GH x.1):Aq (IE x) λr=>r.length<=4096:=by unfold IE;refine AA (IQ h) λc b=>AO (λ_=>AB k!) (λa=>?_);grind[Zb,AA,aN,aO,AB]
theorem Py{x:A8×List Int×Int}{a:List Int}{s:Int}(h:0<=s/\s<=a.length/\(a.length:Int)<=16777216/\1<=x.2.1.length/\x.2.1.length<=4096):Aq (Ah (Lx x a) s) λr=> ∀u,r= .inl u->u=x.2.1:=by
 refine AW (λ(s:Int)=>0<=s/\s<=a.length/\(a.length:Int)<=16777216/\1<=x.2.1.length/\x.2.1.length<=4096) (λ(s:Int)=>((a.length:Int)-s).toNat) h (λs c=>?_);unfold Lx;exact x!
def XC{x:A8×List Int×Int}{b:Int}{s:Bool×Int}(h:0<=s.2/\s.2<=x.2.1.length/\x.2.1.length<=4096):Aq (Ah (Ly x b) s) λr=>True:=by
 refine AW (λ(s:Bool×Int)=>0<=s.2/\s.2<=x.2.1.length/\x.2.1.length<=4096) (λ(s:Bool×Int)=>((x.2.1.length:Int)-s.2).toNat) h (λs c=>?_);unfold Ly;exact x!
def AEc(d:Nat){x:A8×List Int×Int}(h:GH x.1)(o:1<=x.2.1.length)(A:(x.2.1.length:Int)+d=x.2.2)(p:x.2.2<=4096):Aq (nB En (d+1) x) λr=>r.length<=4096:=by
 induction d generalizing x with
 |zero=>show Aq (En _ x) _;unfold En;have e:=AY (x:=(x.2.1.length:Int)-1);refine AA (AI (by simp[len];rw[e];omega) (by simp[len];rw[e];omega)) λv _=>AA (LM h) λm f=>AP (λ_=>?_) (λc=>absurd (by simp[len];omega) c);refine AA (Py ⟨k!,k!,o!,o,o!⟩) λr hr=>A9 (λu a=>AB (by rw[hr u a];omega)) (λ_ _=>AB k!)
 |succ d t=>show Aq (En _ x) _;unfold En;have e:=AY (x:=(x.2.1.length:Int)-1);refine AA (AI (by simp[len];rw[e];omega) (by simp[len];rw[e];omega)) λv _=>AA (LM h) λm f=>AP (λ_=>?_) (λ_=>?_);grind[AA,Py,A9,AB];refine AA (P:=λr=> ∀u,r= .inl u->u.length<=4096) ?_ λr hr=>A9 (λu a=>AB (hr u a)) (λ_ _=>AB k!);refine AW (λ(s:Int)=>0<=s/\s<=m.length) (λ(s:Int)=>((m.length:Int)-s).toNat) (s:=(0:Int)) ⟨g!,o!⟩ (λs q=>?_);unfold RR;have b:=AY (x:=s+1);refine AC (λc=>?_) (λ_=>AB (λu a=>by cases a));simp[len]at c;refine AA (AI q.1 c) λB _=>AA (XC ⟨k!,k!,o!⟩) λw _=>AL (λ_=>AB ⟨by rw[b];omega,by rw[b];omega⟩) (λ_=>AA (AZ w!) λy g=>?_);have k:=g.2.1;simp[BV]at k;refine AA (AZ w!) λn i=>?_;have l:=i.2.1;simp[Bn,BV]at l;refine AA (t (x:=(x.1,n,x.2.2)) h d! d! p) λz j=>AC (λ_=>AB λu a=>by cases a;exact j) (λ_=>AB ⟨by rw[b];omega,by rw[b];omega⟩)
def aP{x:A8×List Int×Int}(h:GH x.1)(a:1<=x.2.1.length)(d:(x.2.1.length:Int)<=x.2.2)(b:x.2.2<=4096):Aq (Ou x) λr=>True:=by have⟨r,hr,_⟩:=AEc (x.2.2-x.2.1.length).toNat h a o! b;have⟨s,c⟩:=lq hr;exact⟨s,c,trivial⟩
def cj{x:A8×Int}(h:GH x.1):Aq (LL x) λr=>True:=by unfold LL;refine AA (P:=λ_=>True) ?_ λr _=>A9 (λ_ _=>AB trivial) (λ_ _=>AB trivial);refine AW (λs=>1<=s/\s<=4097) (λs=>(4097-s).toNat) ⟨g!,g!⟩ (λs d=>?_);unfold SE;have a:=AY (x:=s+1);refine AA (Yz h) λe c=>AC (λb=>?_) (λ_=>AB trivial);simp[len]at b;refine AA (aP h k! (by show(1:Int)<=s;omega) (by show s<=4096;omega)) λf _=>AC (λ_=>AB trivial) (λ_=>AB ⟨by rw[a];omega,by rw[a];omega⟩)
def TP(l:List Am):Nat:=(l.map λt=>t.2.2.2.2.1.length+1).sum
theorem AGS{l:List Am}{i:Nat}{o n:Am}(h:l[i]? =some o):TP (l.set i n)+o.2.2.2.2.1.length=TP l+n.2.2.2.2.1.length:=by
 induction l generalizing i with
 |nil=>simp at h
 |cons t r a=>
  cases i with
  |zero=>simp at h;subst h;simp[TP];omega
  |succ i=>have:=a (i:=i) (by simpa using h);simp[TP,List.set_cons_succ,Bl,VT]at*;omega
def tn{l:List Am}{id:Int}:TP (l.filter λt=>t.1 !=id)<=TP l:=by
 induction l with
 |nil=>simp
 |cons t r a=>simp[VW];split;simp[TP,Bl,VT]at*;omega;simp[TP,Bl,VT]at*;omega
def vH{l:List Am}{id:Int}{i:Nat}{t:Am}(h:l[i]? =some t)(a:t.1=id):TP (l.filter λt=>t.1 !=id)<TP l:=by
 induction l generalizing i with
 |nil=>simp at h
 |cons u r b=>
  have q:=tn (l:=r) (id:=id);cases i with
  |zero=>simp at h;subst h;simp[VW,a,bne_self_eq_false,PW,if_false];simp[TP,Bl,VT]at*;omega
  |succ i=>have:=b (i:=i) (by simpa using h);simp[VW];split<;>(simp[TP,Bl,VT]at*;omega)
def YG{x:List Am×Int}{s:Int×List Am}(h:0<=s.1/\s.1<=x.1.length/\x.1.length<=64/\s.2.length=s.1):Aq (Ah (M7 x) s) λr=>r.length<=x.1.length:=by
 refine AW (λ(s:Int×List Am)=>0<=s.1/\s.1<=x.1.length/\x.1.length<=64/\s.2.length=s.1) (λ(s:Int×List Am)=>((x.1.length:Int)-s.1).toNat) h (λs c=>?_);unfold M7;exact x!
def Tf{x:List Am×Int}:Aq (Ih x) λr=>r.2=0->r.1.length=x.1.length+1/\r.1.length<=64:=by
 unfold Ih;repeat' with_reducible first|intro a|apply AC|apply AO|apply AP|apply AL|apply AB|(apply AA (Dw);intro r hr)|(refine AM ?_ (H5 ?_);intro r hr)|(refine AM ?_ (YG ?_);intro r hr)|(refine AM ?_ (AZ ?_);rintro r ⟨hr,b,c⟩)|(refine AM ?_ (Bb ?_ ?_ ?_);rintro r ⟨hr,b⟩)
 all_goals ((try dsimp[len]at*);(try first|omega|assumption|grind[AY,Yg]))
def ABm(l:List Am)(id:Int):List Am:=l.filter λt=>t.1 !=id
theorem ng(l:List Am)(id:Int):(ABm l id).length<=l.length:=Fy _ _
theorem AFR(l:List Am)(id:Int):TP (ABm l id)<=TP l:=tn
theorem AFS{l:List Am}{id:Int}{i:Nat}{t:Am}(h:l[i]? =some t)(a:t.1=id):TP (ABm l id)<TP l:=vH h a
def j8{a:Type}{l:List a}{n:Int}{p:a->Bool}{x:a}(b:0<=n)(c:l[n.toNat]? =some x):(l.take (n+1).toNat).filter p=(l.take n.toNat).filter p++(if p x=true then [x]else []):=by
 have e:(n+1).toNat=n.toNat+1:=o!
 grind[List.take_add_one,Option.toList_some]
def mz{a:Type}{l:List a}{n:Int}{p:a->Bool}(b:0<=n):(((l.take n.toNat).filter p).length:Int)<=n:=by grind[List.length_filter_le,List.length_take]
def XI{x:List Am×Int}{s:Int×List Am}(h:0<=s.1/\s.1<=x.1.length/\x.1.length<=16777216/\s.2=(x.1.take s.1.toNat).filter (λt=>t.1 !=x.2)):Aq (Ah (L5 x) s) λr=>r=x.1.filter λt=>t.1 !=x.2:=by
 refine AW (λ(s:Int×List Am)=>0<=s.1/\s.1<=x.1.length/\x.1.length<=16777216/\s.2=(x.1.take s.1.toNat).filter (λt=>t.1 !=x.2)) (λ(s:Int×List Am)=>((x.1.length:Int)-s.1).toNat) h (λs f=>?_);unfold L5;have⟨b,i,e,c⟩:=f;have a:=mz (l:=x.1) (p:=λt:Am=>t.1 !=x.2) b;rw[<-c]at a;repeat' with_reducible first|intro d|apply AC|apply AJ|apply AL|(apply BC;try dsimp only)|apply Bg|apply B0|apply AB|(refine AM ?_ (AI ?_ ?_);rintro r ⟨hr,k⟩)|(refine AM ?_ (AZ ?_);rintro r ⟨hr,j,g⟩)
 all_goals dsimp[len]at*
 all_goals first|omega|(rw[(AY (x:=s.1+1))];refine⟨⟨o!,o!,e,?_⟩,o!⟩;rw[j8 b v!];grind)|(rw[c,BO o!])|(simp;omega)
def JC{x:List Am×Int}(h:x.1.length<=16777216):Aq (Gb x) λr=>r=ABm x.1 x.2:=by
 unfold Gb ABm
 exact x!
def M9{x:Am}(h:x.2.2.2.2.1.length<=16777216):Aq (H6 x) λr=>r.1=x.1/\r.2.2.2.2=x.2.2.2.2:=by
 unfold H6;exact x!
def LQ{x:List Am×Int×Am}(h:x.1.length<=16777216)(a:0<=x.2.1/\x.2.1<x.1.length):Aq (IG x) λr=>r=x.1.set x.2.1.toNat x.2.2:=by unfold IG;refine AA (AZ (by simpa using h)) λr hr=>?_;have⟨hr,b,_⟩:=hr;rw[Bw]at hr;subst hr;refine AA (AI a.1 a.2) λ_ _=>AA (AI a.1 a.2) λ_ _=>AB rfl
def RT{x:List Am×AE}{a:Am}{s:Int×List Int}(h:0<=s.1/\s.1<=a.2.2.2.2.1.length/\a.2.2.2.2.1.length<=4096/\s.2.length<=s.1):Aq (Ah (N2 x a) s) λr=>r.length<=a.2.2.2.2.1.length:=by
 refine AW (λ(s:Int×List Int)=>0<=s.1/\s.1<=a.2.2.2.2.1.length/\a.2.2.2.2.1.length<=4096/\s.2.length<=s.1) (λ(s:Int×List Int)=>((a.2.2.2.2.1.length:Int)-s.1).toNat) h (λs d=>?_);unfold N2;exact x!
def iL(l:List Am)(id:Int):Prop:= ∃(j:Nat) (t:Am),l[j]? =some t/\t.1=id
theorem iL.set{l:List Am}{i:Nat}{n:Am}{id:Int}(h:i<l.length)(hn:n.1=id):iL (l.set i n) id:=⟨i,n,by rw[Gt h],hn⟩
def zq(l:List Am)(kind tx:Int)(m:List Am):Prop:=m.length<=l.length/\(tx=0->m=l)/\(tx≠0->kind≠1->(kind≠4->TP m<TP l)/\TP m<=TP l)/\(tx≠0->kind=4->iL m tx)
def fS{x:List Am×AE}:Aq (GN x) λr=>r.2=0->zq x.1 x.2.2.1 x.2.2.2.1 r.1:=by
 unfold GN;repeat' with_reducible first|intro a|apply AC|apply AO|apply AP|apply AJ|apply AL|(apply BC;try dsimp only)|apply Bg|apply B0|apply Ms|(apply BL;try dsimp only)|(apply BA;try dsimp only)|(apply A9<;>(intro u c;try subst c))|apply AB|(apply AA (Dw);intro r hr)|(apply AA (CV);intro r hr)|(refine AM ?_ (H5 ?_);intro r hr)|(refine AM ?_ (RT ?_);intro r hr)|(refine AM ?_ (JC ?_);intro r hr)|(refine AM ?_ (M9 ?_);intro r hr)|(refine AM ?_ (LQ ?_ ?_);intro r hr)|(refine AM ?_ (AI ?_ ?_);rintro r ⟨hr,f⟩)|(refine AM ?_ (AZ ?_);rintro r ⟨hr,e,b⟩)
 all_goals dsimp[len]at*
 all_goals first|omega|(intro d;exact absurd d g!)|(unfold Yg VTx at*;(first|omega|grind[zq,AGS,AFS,AFR,ng,List.length_set,iL.set]))
variable {B:Int->Prop}
def SM{x:List Am×Int}:Aq (H4 x) λr=>r.2=0->Yg x.1/\0<=r.1/\r.1<x.1.length:=by
 unfold H4;repeat' with_reducible first|intro a|apply AC|apply AO|apply AJ|apply AL|apply AB|(apply AA (Dw);intro r hr)|(refine AM ?_ (H5 ?_);intro r hr)|(refine AM ?_ (AI ?_ ?_);rintro r ⟨hr,b⟩)
 all_goals ((try dsimp[len]at*);(try first|omega|assumption|grind[AY,Yg]))
def fT{x:List Am×Int}:Aq (MV x) λr=>r.2=0->r.1.length<=64:=by
 unfold MV;repeat' with_reducible first|intro a|apply AP|apply AJ|apply AL|apply AB|(apply AA (SM);intro r hr)|(refine AM ?_ (LQ ?_ ?_);intro r hr)|(refine AM ?_ (AI ?_ ?_);rintro r ⟨hr,e⟩)|(refine AM ?_ (AZ ?_);rintro r ⟨hr,d,b⟩)
 all_goals try dsimp[len]at*
 all_goals first|omega|(intro c;exact absurd c v!)|grind[Yg,VTx,List.length_set]
def fR{x:List Am×Int×Int}:Aq (MU x) λr=>r.2=0->r.1.length<=64:=by
 unfold MU;repeat' with_reducible first|intro a|apply AC|apply AJ|apply AL|apply AB|(apply AA (SM);intro r hr)|(refine AM ?_ (M9 ?_);intro r hr)|(refine AM ?_ (LQ ?_ ?_);intro r hr)|(refine AM ?_ (AI ?_ ?_);rintro r ⟨hr,e⟩)|(refine AM ?_ (AZ ?_);rintro r ⟨hr,b,c⟩)|(refine AM ?_ (Bb ?_ ?_ ?_);rintro r ⟨hr,b⟩)
 all_goals try dsimp[len]at*
 all_goals first|omega|(intro d;exact absurd d v!)|grind[Yg,VTx,List.length_set,AY]
def iC{x:Bu×Int×BX}(h:x.1.length<=16777216)(a:0<=x.2.1/\x.2.1<x.1.length):Aq (NU x) λr=>r=x.1.set x.2.1.toNat x.2.2:=by unfold NU;refine AA (AZ (by simpa using h)) λr hr=>?_;have⟨hr,b,_⟩:=hr;rw[Bw]at hr;subst hr;refine AA (AI a.1 a.2) λ_ _=>AA (AI a.1 a.2) λ_ _=>AB rfl
def Ua{x:Bu×AE}:Aq (HS x) λr=>r.2=0->r.1.length=x.1.length/\(x.2.2.1≠7->r.1=x.1)/\(x.2.2.1=7->0<=x.2.2.2.2.2.2.2.1.1/\ ∃w,x.1[x.2.2.2.2.2.2.2.1.1.toNat]? =some w/\r.1=x.1.set x.2.2.2.2.2.2.2.1.1.toNat ((if x.2.2.2.2.2.2.1>w.1 then x.2.2.2.2.2.2.1 else w.1),w.2)):=by
 unfold HS;refine AA GC λv i=>AO (λa=>AB n!) (λa=>AA CV λl k=>AO (λa=>AB n!) (λf=>AJ (λa=>AB λ_=>⟨rfl,λ_=>rfl,λe=>absurd e a⟩) (λd=>?_)));have i:Ln x.2:=q!
 have c:0<=x.2.2.2.2.2.2.2.1.1:=by grind[Ln,Uy,OV,Pq]
 refine AC (λa=>AB n!) (λg=>?_);simp[len]at g;refine AA (AI c) λw j=>AA (iC (by have:=(by grind:lH x.1).2;dsimp only;omega) ⟨c,d!⟩) λu h=>AB λ_=>?_;subst h;exact⟨k!,λe=>absurd d e,λ_=>⟨c,w,j.1,rfl⟩⟩
def KK{x:AS×Int}(h:SB x.1):Aq (Eh x) λr=>Bk x.1=some true->KP x.1.1 x.1.2.2.1.2.1 x.1.2.2.2.1.2.1 x.1.2.2.2.2.2.2.2 x.1.2.2.2.2.2.2.1->0<=x.2->x.2<x.1.1->r=Bj x.1.2.2.1.2.1 x.2:=by unfold Eh;refine D5 (CC h) λv u t=>AO (λa=>AB λe=>?_) (λa=>?_);rw[u,a]at e;cases e;refine AC (λa=>AB λ_ _ p=>absurd p o!) (λp=>AC (λa=>AB λ_ _ _ q=>absurd q o!) (λq=>AA Ig λg s=>AL (λa=>AB λ_ c d j=>?_) (λk=>?_)));have⟨_,_,_,e,f,n,b⟩:=s.1 a;have:=(c x.2 d j).1 f n (by rw[b];exact e);rw[b]at this;rw[this];exact K5 _ _;refine AA (Jh h) λl o=>AL (λa=>AB λ_ c d j=>(c x.2 d j).2.1 _ (o.1 a).1 (o.1 a).2) (λm=>AA (AI o! (by have:=(t a).2.2.2.2.2.2.2;omega)) λr hr=>AB λ_ c d j=>?_);exact((c x.2 d j).2.2 r hr.1).2 (o.2 m) λf n e=>by have⟨i,w⟩:=Dn n;exact absurd ⟨i,f,w,e⟩ (s.2 k (t a).2.2.2.1)
def LX(a b:Ad):Prop:=b.1=a.1/\a.2.2<=b.2.2/\ ∃t,b.2.1=a.2.1++t
def LX.refl(a:Ad):LX a a:=⟨rfl,Ae _,[],k!⟩
def LX.trans{a b c:Ad}(h:LX a b)(g:LX b c):LX a c:=by have⟨i,k,t,j⟩:=h;have⟨d,f,u,e⟩:=g;exact⟨d.trans i,jf k f,t++u,by rw[e,j,A0]⟩
def LX.get{a b:Ad}(h:LX a b){i:Nat}{e:AE}(f:a.2.1[i]? =some e):b.2.1[i]? =some e:=by have⟨c,_,t,d⟩:=h;grind[List.getElem?_append_left,Nat.lt_or_ge,List.getElem?_eq_none]
def AIT(k:AS)(z:AE)(m:AS):Prop:=
 ∃e,m.2.2.1.2.1=k.2.2.1.2.1++[e]/\e.1=k.2.2.1.1+k.2.2.1.2.1.length/\e.2.1=z.2.1/\e.2.2.2.2.2=z.2.2.2.2.2/\
  (KP k.1 k.2.2.1.2.1 k.2.2.2.1.2.1 k.2.2.2.2.2.2.2 k.2.2.2.2.2.2.1->(e.2.1=1\/e.2.1=2)->0<=e.2.2.2.2.2.2.1.1->e.2.2.2.2.2.2.1.1<k.1->e.2.2.2.2.1=Bj k.2.2.1.2.1 e.2.2.2.2.2.2.1.1)/\
  (z.2.1≠7->m.2.2.2.2.2.2.1=k.2.2.2.2.2.2.1)/\
  (z.2.1=7->0<=z.2.2.2.2.2.2.1.1/\ ∃w,k.2.2.2.2.2.2.1[z.2.2.2.2.2.2.1.1.toNat]? =some w/\m.2.2.2.2.2.2.1=k.2.2.2.2.2.2.1.set z.2.2.2.2.2.2.1.1.toNat ((if z.2.2.2.2.2.1>w.1 then z.2.2.2.2.2.1 else w.1),w.2))
def yL(k:AS)(z:AE)(m:AS):Prop:=
 m.1=k.1/\LX k.2.2.1 m.2.2.1/\Do m.2.2.1/\m.2.2.2.1=k.2.2.2.1/\m.2.2.2.2.1=k.2.2.2.2.1/\zq k.2.2.2.2.2.1 z.2.1 z.2.2.1 m.2.2.2.2.2.1/\m.2.2.2.2.2.2.2=k.2.2.2.2.2.2.2/\SB m/\AIT k z m
def F3{x:AS×AE}(h:SB x.1):Aq (ES x) λr=>r.2.2=0->VK x.1/\yL x.1 x.2 r.1/\r.2.1=x.1.2.2.1.1+x.1.2.2.1.2.1.length:=by
 unfold ES;refine D5 (CC h) λv q E=>AO (λa=>AB n!) (λa=>?_);have n:=E a;rw[a]at q;refine AA (P:=λs=>(∃u,s= .inl u/\u.2.1≠0)\/ ∃u,s= .inr u/\u.1.2.1=x.2.2.1/\u.1.2.2.1=x.2.2.2.1/\u.1.2.2.2.2.2=x.2.2.2.2.2.2) ?_ λs D=>?_
 ·repeat' with_reducible first|intro a|apply AC|apply AO|apply AJ|apply AL|(apply BC;try dsimp only)|apply Bg|apply B0|apply Ms|(apply BL;try dsimp only)|(apply BA;try dsimp only)|(apply A9<;>(intro u b;try subst b))|apply AB|(refine AM ?_ (Fi ?_);intro r hr)|(refine AM ?_ (AI ?_ ?_);rintro r ⟨hr,N⟩)
  all_goals ((try dsimp[len]at*);(try first|omega|assumption|grind[AY,SB]))
 rcases D with⟨u,rfl,b⟩|⟨u,rfl,b⟩;exact BL (AB λc=>absurd c b);apply BA;refine AA (CM) λO A=>AA (P:=λv:AE=>v.2.1=x.2.2.1/\v.2.2.1=x.2.2.2.1/\v.2.2.2.2.2=x.2.2.2.2.2.2/\(KP x.1.1 x.1.2.2.1.2.1 x.1.2.2.2.1.2.1 x.1.2.2.2.2.2.2.2 x.1.2.2.2.2.2.2.1->(v.2.1=1\/v.2.1=2)->0<=v.2.2.2.2.2.2.1.1->v.2.2.2.2.2.2.1.1<x.1.1->v.2.2.2.2.1=Bj x.1.2.2.1.2.1 v.2.2.2.2.2.2.1.1)) ?_ λt d=>?_;refine AL (λa=>?_) (λa=>AB ⟨b.1,b.2.1,b.2.2,λ_ n=>absurd (A.2 n) (by simp[a])⟩);exact AA (KK h) λw F=>AB ⟨b.1,b.2.1,b.2.2,λo _ G H=>F q o G H⟩;refine AA (aL) λi B=>AJ (λa=>AB (λc=>absurd c a)) (λa=>?_);have⟨a1,a2,a3,a4,a5,a6⟩:=B a;dsimp only at a2 a3 a4 a5 a6;refine AA (Gy) λp e=>AA (fS) λI l=>AJ (λa=>AB (λc=>absurd c a)) (λf=>AA (Ua) λJ m=>AJ (λa=>AB (λc=>absurd c a)) (λg=>AB λ_=>⟨n,?_⟩))
 have L:=a2.1;have M:i.1.2.1.length=x.1.2.2.1.2.1.length+1:=by rw[a3];simp
 have⟨K,y,k,z⟩:=e.1 (e.2 a1 d! d!);dsimp only at y k z;have C:p.1=(i.2.1,t.2):=by
  have:(i.2.1-i.1.1).toNat=x.1.2.2.1.2.1.length:=o!
  rw[this,a3]at k;simpa using k.symm
 have hn:=l f;have j:=(m g).2;rw[C]at hn j;dsimp only at hn j;rw[d.1,d.2.1]at hn;rw[d.1,d.2.2.1]at j;exact⟨⟨rfl,⟨a4,Int.le_of_eq a6.symm,_,a3⟩,a1,rfl,rfl,hn,rfl,⟨h.1,by have:=hn.1;have:=h.2.1;dsimp only at*;omega,h.2.2⟩,(i.2.1,t.2),a3,a5,d.1,d.2.2.1,d.2.2.2,j⟩,a5⟩
def yL.ki{k m:AS}{z:AE}(h:yL k z m)(b:KI B k)(a:z.2.1≠1/\z.2.1≠2/\z.2.1≠6/\z.2.1≠7):KI B m:=by obtain⟨a1,_,_,a4,_,_,a7,_,e,c,g,d,i,j,f,l⟩:=h;unfold KI;rw[a1,a4,a7,c,f a.2.2.2];rw[<-d]at a;exact⟨b.1.app ⟨λh=>o!,λh=>o!,λh=>o!⟩,b.2.1.app ⟨a.1,a.2.1⟩,b.2.2⟩
def yL.sk{k m:AS}{z:AE}(h:yL k z m)(a:SK B k)(b:z.2.1≠1/\z.2.1≠2/\z.2.1≠6/\z.2.1≠7):SK B m:=h.2.2.2.2.2.2.2.1.sk (h.ki a.ki b)
end Go.Pm
namespace Go.Pm
open Go Go.Ab
set_option maxHeartbeats 400000
def DI(d:Bq):Prop:=d.1.length<=64/\(∀(i:Nat) (s:BT),d.1[i]? =some s->s.length=256)/\d.2.2.1=[]/\d.2.2.2.2=[]
def XA{x:Int}{s:Int×List BT}(h:0<=s.1/\s.1<=x/\x<=64/\s.2.length=s.1/\ ∀(i:Nat) (t:BT),s.2[i]? =some t->t=Ew (List.replicate (Int.toNat 256) 0)):Aq (Ah (Lv x) s) λr=>(r.length:Int)=x/\ ∀(i:Nat) (t:BT),r[i]? =some t->t=Ew (List.replicate (Int.toNat 256) 0):=by
 refine AW (λ(s:Int×List BT)=>0<=s.1/\s.1<=x/\x<=64/\s.2.length=s.1/\ ∀(i:Nat) (t:BT),s.2[i]? =some t->t=Ew (List.replicate (Int.toNat 256) 0)) (λ(s:Int×List BT)=>(x-s.1).toNat) h (λs c=>?_);unfold Lv;have⟨f,g,a,j,b⟩:=c;have k:(Ew (List.replicate (Int.toNat 256) 0)).length=256:=by rw[MG,HG];rfl
 repeat' with_reducible first|intro d|apply AC|apply AL|apply AB|(refine AM ?_ (AZ ?_);rintro r ⟨hr,l,e⟩)
 all_goals first|omega|(generalize Ew (List.replicate (Int.toNat 256) 0)=bs at*;simp;omega)|(generalize Ew (List.replicate (Int.toNat 256) 0)=bs at*;rw[(AY (x:=s.1+1))];refine⟨⟨o!,o!,a,q!,?_⟩,o!⟩;grind)|(exact⟨o!,b⟩)
def SC{x:Int}(h:0<=x/\x<=64):Aq (Om x) λr=>(r.length:Int)=x/\ ∀(i:Nat) (t:BT),r[i]? =some t->t=Ew (List.replicate (Int.toNat 256) 0):=by exact AA (XA ⟨Ae _,h.1,h.2,rfl,λi t a=>by simp at a⟩) λr hr=>AB hr
def gv{x:Int}:Aq (J4 x) λr=>r.2=0->DI r.1/\r.1.1.length=x/\ ∀(i:Nat) (t:BT),r.1.1[i]? =some t->t=Ew (List.replicate (Int.toNat 256) 0):=by refine AC (λb=>AB n!) (λb=>AC (λb=>AB n!) (λc=>AA (SC o!) λr hr=>AB λ_=>⟨⟨d!,λi t d=>?_,rfl,rfl⟩,hr⟩));rw[hr.2 i t d,MG,HG];rfl
def cX{x:Bq×C0}:Aq (LH x) λr=>True:=by
 unfold LH;exact x!
def X6{x:Bq}{s:Int}(h:0<=s/\s<=x.1.length/\(x.1.length:Int)<=16777216):Aq (Ah (Mu x) s) λr=>r≠ .inl true:=by
 refine AW (λ(s:Int)=>0<=s/\s<=x.1.length/\(x.1.length:Int)<=16777216) (λ(s:Int)=>((x.1.length:Int)-s).toNat) h (λs b=>?_);unfold Mu;exact x!
def X7{x:Bq}{s:Int}(h:0<=s/\s<=x.2.2.1.length/\(x.2.2.1.length:Int)<=16777216):Aq (Ah (Mv x) s) λr=>r≠ .inl true:=by
 refine AW (λ(s:Int)=>0<=s/\s<=x.2.2.1.length/\(x.2.2.1.length:Int)<=16777216) (λ(s:Int)=>((x.2.2.1.length:Int)-s).toNat) h (λs b=>?_);unfold Mv;repeat' with_reducible first|intro a|apply AC|apply AL|apply AB|(refine AM ?_ (AI ?_ ?_);rintro r ⟨hr,c⟩)
 all_goals ((try dsimp[len]at*);(try first|omega|assumption|grind[AY]|((try simp (disch:=omega) only[AY,len]at*)<;>(try intros)<;>(try and_intros)<;>(try intros)<;>(first|omega|assumption|grind))))
def X8{x:Bq}{s:Int}(h:0<=s/\s<=x.2.2.2.2.length/\(x.2.2.2.2.length:Int)<=16777216):Aq (Ah (Mw x) s) λr=>r≠ .inl true:=by
 refine AW (λ(s:Int)=>0<=s/\s<=x.2.2.2.2.length/\(x.2.2.2.2.length:Int)<=16777216) (λ(s:Int)=>((x.2.2.2.2.length:Int)-s).toNat) h (λs b=>?_);unfold Mw;exact x!
def cU{x:Bq}(h:x.2.2.1.length<=16777216):Aq (LG x) λr=>r=true->1<=x.1.length/\x.1.length<=64:=by
 unfold LG;exact x!
def M0{x:Bq×Int}(h:x.1.2.2.1.length<=16777216):Aq (GY x) λr=>r=0->0<=x.2/\x.2<x.1.1.length/\x.1.1.length<=64:=by
 unfold GY;exact x!
def WY{x:List Int×Int}{s:Int×List Int}(h:0<=s.1/\s.1<=x.1.length/\x.1.length<=16777216/\s.2.length<=s.1):Aq (Ah (Kt x) s) λr=>r.length<=x.1.length:=by
 refine AW (λ(s:Int×List Int)=>0<=s.1/\s.1<=x.1.length/\x.1.length<=16777216/\s.2.length<=s.1) (λ(s:Int×List Int)=>((x.1.length:Int)-s.1).toNat) h (λs c=>?_);unfold Kt;exact x!
def RP{x:List Int×Int}(h:x.1.length<=16777216):Aq (FH x) λr=>r.length<=x.1.length:=by
 unfold FH;exact x!
def aH{x:List Int×Int}{s:Int}(h:0<=s/\s<=x.1.length/\(x.1.length:Int)<=16777216):Aq (Ah (On x) s) λr=>True:=by
 refine AW (λ(s:Int)=>0<=s/\s<=x.1.length/\(x.1.length:Int)<=16777216) (λ(s:Int)=>((x.1.length:Int)-s).toNat) h (λs b=>?_);unfold On;exact x!
def gw{x:List Int×Int}(h:x.1.length<=16777216):Aq (NR x) λr=>True:=by
 unfold NR;exact x!
def fL{x:Bq×Int}(h:DI x.1):Aq (MN x) λr=>r.2=0->r.1.length=256/\0<=x.2/\x.1.1[x.2.toNat]? =some r.1:=by
 unfold MN;repeat' with_reducible first|intro a|apply AJ|apply AL|apply AB|(refine AM ?_ (M0 ?_);intro r hr)|(refine AM ?_ (gw ?_);intro r hr)|(refine AM ?_ (AI ?_ ?_);rintro r ⟨hr,b⟩)
 all_goals ((try dsimp[len]at*);(try first|omega|assumption|grind[DI]))
def DI.set{d:Bq}{l:List BT}{i:Int}{t:BT}{u:List Int}{w:Int}{b:Bool}(h:DI d)(c:l=d.1)(n:t.length=256)(e:u.length<=([]:List Int).length):DI (FT l i t,w,u,b,[]):=by subst c;have⟨a,f,g,k⟩:=h;refine⟨by simpa[FT]using a,λj s m=>?_,dU.1 (by simpa using e),rfl⟩;grind[FT]
def fM{x:Bq×Int×BT×Int}(h:DI x.1):Aq (QS x) λr=>r.2=0->DI r.1/\ ∃o,0<=x.2.1/\x.1.1[x.2.1.toNat]? =some o/\r.1.1=FT x.1.1 x.2.1 (x.2.2.1.take x.2.2.2.toNat++o.drop x.2.2.2.toNat):=by
 have⟨C,s,n,t⟩:=h;refine AA (M0 (by dsimp only;rw[n];simp)) λF i=>AJ (λg=>AB (λa=>absurd a g)) (λg=>AC (λ_=>AB n!) (λc0=>AC (λ_=>AB n!) (λB=>AJ (λ_=>AB n!) (λv=>?_))));have⟨b,c,E⟩:=i g;simp only[len]at v;refine AA (AZ w!) λw j=>AA (AZ (by rw[n];simp)) λz k=>AA (AZ (by rw[t];simp)) λA m=>?_;have j:w=x.1.1:=q!
 have k:z=[]:=q!
 have m:A=[]:=q!
 subst j k m;refine AA (Bt (Ae _)) λG e=>AA (AI b c) λH _=>AA (AI b c) λq p=>?_;have D:=s _ _ p.1;refine AA (Bt o! i! (by simp[len])) λI f=>AA (CE (by simp only[len]at f;omega)) λJ u=>AA (AI b c) λ_ _=>AA (AI b c) λ_ _=>AA (RP k!) λy d=>AB λ_=>⟨h.set rfl (by simp only[len]at f;omega) d,q,b,p.1,?_⟩
 dsimp only;rw[u.1,e.1,f.1,BO (l:=q.drop _) (by simp[len])];simp
def whole{l:List BT}{i:Nat}{s o a b r:BT}(h:len s=256)(f: ∀(i:Nat) (s:BT),l[i]? =some s->s.length=256)(hr:r=a++b)(c:a=List.take (Int.toNat 256-Int.toNat 0) (List.drop (Int.toNat 0) s))(d:b=List.take ((len o).toNat-Int.toNat 256) (List.drop (Int.toNat 256) o))(g:l[i]? =some o):r=s:=by have j:=f _ _ g;have e:List.drop (Int.toNat 256) o=[]:=jj (by simp only[Int.reduceToNat];omega);simp only[len]at h;rw[hr,c,d,e,List.take_nil,C5];exact BO w!
def cV{x:Bq×Int×BT}(h:DI x.1):Aq (Pg x) λr=>r.2=0->DI r.1/\0<=x.2.1/\r.1.1=FT x.1.1 x.2.1 x.2.2:=by
 have⟨B,o,i,j⟩:=h;refine AA (M0 (by dsimp only;rw[i];simp)) λC g=>?_;refine AJ (λb=>AB (λc=>absurd c b)) (λb=>?_);refine AJ (λb=>AB n!) (λd=>?_);refine AP (λb=>AB n!) (λq=>?_);refine AA (AZ w!) λy t=>?_;refine AA (AZ (by rw[i];simp)) λz u=>?_;refine AA (AZ (by rw[j];simp)) λA v=>?_;have l:y=x.1.1:=q!
 have m:z=[]:=q!
 have n:A=[]:=q!
 subst l m n;have l1: ∀s,s.1=0->Ah (Mx x) s=some s.2:=λs e=>by rw[IB];unfold Mx;rw[j,e];rfl
 rw[l1 _ rfl];apply BC;have l2: ∀a s,a.1=[]->s.2.1=0->Ah (My x a) s=some (s.1,(s.2.2.2.2.2.2.1,(s.2.2.2.2.2.1,s.2.2.2.2.2.2.2))):=λa s f e=>by rw[IB];unfold My;rw[f,e];rfl
 have w: ∀a s,a.1=[]->s.1=0->Ah (Mz a) s=some (s.2.2.2.2.2.1,(s.2.2.2.2.1,s.2.2.2.2.2.2)):=λa s f e=>by rw[IB];unfold Mz;rw[f,e];rfl
 rw[l2 _ _ rfl rfl];repeat' with_reducible first|apply AC<;>intro b|apply AO<;>intro b|apply AP<;>intro b|apply AJ<;>intro b|apply AL<;>intro b|(apply BC;try dsimp only)|apply Bg|apply B0|apply AB|(rw[w _ _ rfl rfl];apply BC;dsimp only)|(refine AM ?_ (RP ?_);intro r hr)|(refine AM ?_ (AI ?_ ?_);rintro r ⟨hr,q⟩)|(refine AM ?_ (AZ ?_);rintro r ⟨hr,k,p⟩)|(refine AM ?_ (CE ?_);rintro r ⟨hr,k⟩)|(refine AM ?_ (Bt ?_ ?_ ?_);rintro r ⟨hr,k⟩)
 all_goals first|omega|(simp;done)|(intro c;exact absurd c g!)|(exact λ_=>⟨h.set rfl q! hr,(g v!).1,congrArg (FT _ _) (whole d o v! v! v! v!)⟩)|(cases b;done)|grind
def DC(p:Bv):Nat:=p.2.1.countP λf=>f.2.1
def UC(p:Bv):Nat:=p.2.1.countP λf=>f.2.2.2
def yn{a:Type}{l:List a}{i:Nat}{o n:a}{q:a->Bool}(h:l[i]? =some o):(l.set i n).countP q+(if q o=true then 1 else 0)=l.countP q+(if q n=true then 1 else 0):=q!
theorem LO{x:Bv×Int×BE}(h:x.1.2.1.length<=16777216)(a:0<=x.2.1/\x.2.1<x.1.2.1.length):Aq (IF x) λr=>r=(x.1.1,x.1.2.1.set x.2.1.toNat x.2.2,x.1.2.2):=by refine AA (AZ (by simpa using h)) λr hr=>?_;have⟨hr,b,_⟩:=hr;subst hr;refine AA (AI a.1 a.2) λ_ _=>AA (AI a.1 a.2) λ_ _=>AB rfl
def core(f:BE):AU×Bool×Int:=(f.1,f.2.1,f.2.2.1)
def CF(l:List BE):List (AU×Bool×Int):=l.map core
def AGD{l:List BE}{i:Nat}{f g:BE}(h:l[i]? =some f)(a:core g=core f):CF (l.set i g)=CF l:=by unfold CF;apply Iw;grind
theorem qm{l m:List BE}(h:CF m=CF l){i:Nat}{f:BE}(a:m[i]? =some f): ∃g,l[i]? =some g/\core g=core f:=by
 have:(CF m)[i]? =some (core f):=by unfold CF;rw[List.getElem?_map,a];rfl
 rw[h]at this;unfold CF at this;grind
def AGC{l m:List BE}(h:CF m=CF l):m.length=l.length:=by have:=congrArg List.length h;simpa[CF]using this
def zo{p:Bv}:DC p=(CF p.2.1).countP λc=>c.2.1:=by unfold DC CF;rw[List.countP_map];rfl
theorem J8.congr{l m:List BE}{n:Int}(h:CF m=CF l)(d:J8 l n):J8 m n:=by refine⟨λi f r b=>?_,λi j f g c s b q=>?_⟩;have⟨g,a,o⟩:=qm h b;have:=d.1 i g r a;grind[core,nq];have⟨e,a,o⟩:=qm h b;have⟨k,p,t⟩:=qm h q;have:=d.2 i j e k c s a p;grind[core]
def PB.uniq{p:Bv}(h:PB p){i j:Nat}{f g:BE}(a:p.2.1[i]? =some f)(b:p.2.1[j]? =some g)(e:f.1.1=g.1.1):f=g:=by have c:=h.2.2.2.2.2.2;grind
def XD{c:List (AU×Bool×Int)}{z:Int}{s:Bv}(h:c=CF s.2.1/\z=s.1/\0<=s.2.2/\s.2.2<s.2.1.length/\s.2.1.length<=64):Aq (Ah RS s) λr=>c=CF r.2.1/\z=r.1/\0<=r.2.2/\r.2.2<r.2.1.length/\r.2.1.length<=64:=by
 refine AW (λs=>c=CF s.2.1/\z=s.1/\0<=s.2.2/\s.2.2<s.2.1.length/\s.2.1.length<=64) UC h (λs n=>?_);have⟨k,l,i,j,m⟩:=n;refine AA (AI i j) λf q=>AL (λo=>?_) (λo=>AB ⟨k,l,i,j,m⟩);refine AA (AI i j) λd t=>?_;have e:d=f:=q!
 subst e;refine AA (LO d! ⟨i,j⟩) λp u=>?_;subst u;refine AP (λv=>?_) (λv=>AB ?_);grind;rw[(AY (x:=s.2.2+1))];refine⟨⟨?_,l,(ny (len (s.2.1.set s.2.2.toNat (d.1,d.2.1,d.2.2.1,false))) (a:=s.2.2+1) o!),(nw (s.2.2+1) (b:=len (s.2.1.set s.2.2.toNat (d.1,d.2.1,d.2.2.1,false))) w!),by rw[dV];exact m⟩,?_⟩;rw[k];exact(AGD (g:=(d.1,d.2.1,d.2.2.1,false)) q.1 rfl).symm;unfold UC;grind
def aR{x:Bv}:Aq (Ow x) λr=>(r.2.2=0->PB x/\PB r.1/\CF r.1.2.1=CF x.2.1/\mM r.1 r.2.1)/\(PB x->x.2.1.length≠0->r.2.2=0):=by refine AA EQ λv g=>AO (λc=>AB ⟨n!,λh _=>?_⟩) (λc=>?_);grind;have b:=g.1 c;have e:=b;have⟨k,l,m,i,n,o⟩:=b;refine AP (λa=>AB ⟨n!,λ_ h=>absurd a (by simpa[len]using h)⟩) (λa=>?_);simp only[len]at a;refine AA (XD ⟨rfl,rfl,i,o!⟩) λp b=>?_;have⟨q1,q2,q3,q4,q5⟩:=b;refine AA (AI q3 q4) λf d=>?_;have j:=AGC q1;refine AB ⟨λ_=>⟨e,⟨d!,d!,d!,q3,.inr q4,?_⟩,q1.symm,⟨_,f,d.1,rfl⟩⟩,λ_ _=>rfl⟩;grind[J8.congr]
def fQ{x:Bv×Int}:Aq (MS x) λr=>PB x.1-> ∀(i:Nat) (f:BE),x.1.2.1[i]? =some f->f.1.1=x.2->f.2.1=false->(∀g∈r.1.2.1,g∈x.1.2.1)/\ ∀g∈x.1.2.1,g.2.1=true->g∈r.1.2.1:=by
 unfold MS;refine AA EQ λv A=>AO (λn=>AB λo=>absurd (A.2 o) (by simp[n])) (λn=>?_);have o:=A.1 n;have T:=o.2.1;have U:=o.2.2.1;refine AA (Ga o!) λi G=>?_;have⟨R,J,K,L⟩:=G;refine AC (λn=>AB λ_ j f p e _=>absurd ⟨j,f,p,e⟩ (L n)) (λH=>?_);have⟨k,I,t⟩:=K o!;refine AA (AI o! J) λw Q=>?_;have B:w=k:=by grind[Option.some.inj]
 subst B;refine AL (λu=>AB λ_ j f p e l=>?_) (λu=>?_);have:=o.uniq p I (by rw[e,t]);subst this;rw[u]at l;cases l;have O:=AY (x:=i+1);refine AA (Bb) λa C=>AA (Bb o! (by simp[len];omega) i!) λb D=>?_;have S:=C.2;have M:=D.2;simp[len]at M;refine AA (AZ (by rw[BV];omega)) λc s=>?_;have N:=s.2.1;rw[BV]at N;refine AA (AZ o!) λd E=>?_;have q: ∀(j:Nat) (f:BE),x.1.2.1[j]? =some f->f.1.1=x.2->f.2.1=false->(∀g∈d,g∈x.1.2.1)/\ ∀g∈x.1.2.1,g.2.1=true->g∈d:=by intro j f p e l;refine⟨λg y=>?_,λg y F=>?_⟩;grind[List.mem_of_mem_take,List.mem_of_mem_drop];have⟨m,z⟩:=Dn y;rw[(by grind[List.take_of_length_le,List.length_drop]:d=x.1.2.1.take i.toNat++x.1.2.1.drop (i.toNat+1)),An];rcases QH m i.toNat with h|h|h;exact .inl (BN (i:=m) (by rw[JW h];exact z));grind[Option.some.inj];exact .inr (BN (i:=m-(i.toNat+1)) (by rw[KX];rw[show i.toNat+1+(m-(i.toNat+1))=m by omega];exact z))
 refine AA (P:=λ_=>True) (AC (λ_=>AB trivial) (λ_=>AB trivial)) λV _=>AA (P:=λ_=>True) (AC (λ_=>AB trivial) (λ_=>AB trivial)) λW _=>AB λ_=>q
theorem ck{x:Bv×Int×Int}:Aq (Ph x) λr=>r.2=0->PB x.1/\DC r.1<=DC x.1/\(∀(i:Nat) (f:BE),x.1.2.1[i]? =some f->f.1.1=x.2.1->f.2.1=true->f.1.2.1=x.2.2->DC r.1<DC x.1)/\(∀g∈r.1.2.1,∃f∈x.1.2.1,f.1.1=g.1.1/\f.1=g.1)/\ ∀f∈x.1.2.1,f.1.1≠x.2.1->f∈r.1.2.1:=by
 refine AA EQ λv C=>?_;refine AO (λb=>AB (λo=>absurd o (by decide))) (λb=>?_);have l:=C.1 b;have J:=l.2.2.1;have I:=l.2.1;refine AA (Ga (by dsimp only;omega)) λi B=>?_;have⟨G,D,E,H⟩:=B;refine AC (λb=>AB (λo=>absurd o (by decide))) (λb=>?_);have⟨f,c,d⟩:=E (by omega);refine AA (AI (by omega) D) λg z=>?_;have e:g=f:=by grind
 subst e;refine AC (λb=>AB (λo=>absurd o (by decide))) (λA=>?_);refine AO (λs=>AB (λ_=>⟨l,Ap _,λj k m a h _=>?_,λg z=>⟨g,z,rfl,rfl⟩,λf c _=>c⟩)) (λs=>?_);have:=l.uniq m c (by rw[a,d]);subst this;rw[s]at h;cases h;refine AA (P:=λn:BE=>(g.1.2.1=x.2.2->n.2.1=false)/\n.1=g.1) ?_ λn hn=>?_
 ·repeat' with_reducible first|refine AC ?_ ?_<;>intro b|refine AO ?_ ?_<;>intro b|refine AP ?_ ?_<;>intro b|refine AL ?_ ?_<;>intro b|(refine BC ?_;try dsimp only)|refine Bg ?_|refine B0 ?_|refine AB ?_|(refine AM ?_ (AI ?_ ?_);rintro r ⟨hr,F⟩)
  all_goals grind
 refine AA (LO (by dsimp only;omega) ⟨by dsimp only;omega,by dsimp only;omega⟩) λp y=>?_;subst y;refine AB λ_=>?_;have u:=yn (q:=λf:BE=>f.2.1) (n:=n) c;rw[s]at u;refine⟨l,?_,λj k m a h t=>?_,AAk c hn.2,λk m w=>wL c k m (by rw[d];exact w)⟩;unfold DC;dsimp only;simp at u;split at u<;>omega;have:=l.uniq m c (by rw[a,d]);subst this;rw[hn.1 t]at u;unfold DC;dsimp only;simp at u;omega
def R9{x:AU}:Aq (C9 x) λr=>r.2=0->F9 x/\r.1=Hq x:=by have⟨v,b,h⟩:=Nq (x:=x);by_cases a:v=0;exact⟨_,an (h a),λ_=>⟨h a,rfl⟩⟩;unfold C9;rw[b,AD];exact AJ (λ_=>AB λe=>absurd e a) (λe=>absurd e a)
theorem qV:IZ ()=some (iI 256):=by unfold IZ;rw[wS g!];rfl
def W9{x:BT}{s:Int×AU×AU}(h:0<=s.1/\s.1<=16/\x.length=256):Aq (Ah (Gg x) s) λr=> ∀u,r= .inl u->u.1=4:=by
 refine AW (λ(s:Int×AU×AU)=>0<=s.1/\s.1<=16/\x.length=256) (λ(s:Int×AU×AU)=>(16-s.1).toNat) h (λs e=>?_);unfold Gg;obtain⟨g,i,j⟩:=e;have b:=AY (x:=s.1*13);have c:=AY (x:=12+s.1*13);have d:=AY (x:=12+s.1*13+1);rw[b,c,d];repeat' with_reducible first|intro a|apply AC|apply AP|apply AL|apply AB|(refine AM ?_ (Cs ?_ ?_);intro r hr)|(refine AM ?_ (Bt ?_ ?_ ?_);rintro r ⟨hr,f⟩)|(refine AM ?_ (Q2 ?_ ?_);rintro r ⟨hr,f⟩)
 all_goals try dsimp only[len]at*
 all_goals first|omega|grind[AY]
def aG{x:BT}(h:x.length<=1099511627776):Aq (Ec x) λr=>(r.2=0->F9 r.1/\x=Hq r.1/\x≠iI 256)/\(r.2=7->x=iI 256):=by
 unfold Ec;rw[qV,AD];repeat' with_reducible first|intro b|apply AP|apply AJ|apply AL|(apply BL;try dsimp only)|(apply BA;try dsimp only)|(apply A9<;>(intro u c;try subst c))|apply AB|(refine AM ?_ (Cc ?_);intro r hr)|(refine AM ?_ (Pf ?_);intro r hr)|(refine AM ?_ (W9 ?_);intro r hr)|(apply AA (R9);intro r hr)|(refine AM ?_ (Bt ?_ ?_ ?_);rintro r ⟨hr,d⟩)
 all_goals try dsimp only[len]at*
 all_goals first|trivial|omega|(exact⟨n!,n!⟩)|grind
def gu{x:Int}:Aq (D6 x) λr=>r=(x,(0,HA.all (false,[]))):=by
 unfold D6;exact x!
def Rd(s:BT)(p:Int)(q:AU):Prop:=q.1=p/\((s=iI 256/\q=(p,(0,HA.all (false,[]))))\/(F9 q/\s=Hq q/\s≠iI 256))
def Ks{x:BT×Int}(h:x.1.length<=1099511627776):Aq (CZ x) λr=>r.2=0->Rd x.1 x.2 r.1:=by refine AC (λ_=>AB n!) (λ_=>AC (λ_=>AB n!) (λ_=>AA (aG h) λv c=>AP (λd=>?_) (λ_=>AP (λf=>AJ (λ_=>AB n!) (λb=>AB λa=>⟨b,.inr (c.1 a)⟩)) (λhn=>AB λa=>absurd a hn))));exact AA gu λw e=>AB λ_=>by rw[e];exact⟨rfl,.inl ⟨c.2 d,rfl⟩⟩
def cq{x:Bu×Int×Int×BT}(h:x.2.2.2.length<=1099511627776):Aq (LP x) λr=>r.2=0->Rd x.2.2.2 x.2.1 r.1:=by
 unfold LP;repeat' with_reducible first|intro a|apply AC|apply AO|apply AJ|apply AL|apply AB|(apply AA (GC);intro r hr)|(refine AM ?_ (Ks ?_);intro r hr)|(refine AM ?_ (AI ?_ ?_);rintro r ⟨hr,c⟩)
 all_goals try dsimp only[len]at*
 all_goals first|assumption|omega|(intro b;exact absurd b v!)|(intro b;exact absurd b g!)|(intro _;exact hr v!)|grind
def Tb{x:AU×Ds}:Aq (Ib x) λr=>(r.2=0->OV x.2/\Gj x.1.2.2 x.2.2.1=some x.2.2.2.1)/\(OV x.2->x.2.1=x.1.1->Gj x.1.2.2 x.2.2.1=some x.2.2.2.1->r=((x.1.1,(x.1.2.1,WK x.1.2.2 x.2.2.1 x.2.2.2.2)),0)):=by unfold Ib;refine AA Tc λv g=>AO (λe=>AB ⟨n!,λh=>absurd (g.2 h) (by simp[e])⟩) (λe=>?_);have b:=g.1 e;refine AJ (λe=>AB ⟨n!,λ_ h=>absurd h e⟩) (λj=>?_);obtain⟨c,i,_⟩:=Cs (a:=x.1.2.2) b.2.2.1 b.2.2.2.1;rw[i];refine BC (BC (AL (λd=>AB ⟨n!,λ_ _ h=>?_⟩) (λd=>BC (BC (AB ⟨λ_=>⟨b,?_⟩,λ_ _ _=>rfl⟩)))));rw[Bf h]at d;simp at d;obtain⟨k,l⟩:=c;simp at d;rw[d.1,d.2]
def zn{x:AU}{e:AE}(h:F9 x)(d:Ln e)(f:e.2.1=1\/e.2.1=2)(b:e.2.2.2.2.2.2.1.1=x.1)(g:e.2.2.2.2.1=x.2.1)(c:Gj x.2.2 e.2.2.2.2.2.2.1.2.1=some e.2.2.2.2.2.2.1.2.2.1):Ij (x,e)=some (upd x e,0):=by
 suffices i:Aq (Ij (x,e)) λr=>r=(upd x e,0) by obtain⟨r,hr,rfl⟩:=i;exact hr
 have a:OV e.2.2.2.2.2.2.1:=by grind[Ln,Uy]
 refine AA CV λv j=>AO (λa=>absurd (j.2 d) (by simp[a])) (λ_=>AA CM λw k=>AO (λa=>absurd (k.2 f) (by simp[a])) (λ_=>?_));rw[qo h];refine BC (AJ (λa=>absurd rfl a) (λ_=>AJ (λa=>absurd b a) (λ_=>AJ (λa=>absurd g a) (λ_=>AA Tb λr hr=>?_))));rw[hr.2 a b c];exact AJ (λa=>absurd rfl a) (λ_=>AB rfl)
def cZ{x:AE×List AE}(h:x.2.length<=16777215):Aq (LK x) λr=>r=x.1::x.2:=by
 unfold LK;exact x!
def HF(L:List AE):Prop:= ∀(i:Nat) (e:AE),L[i]? =some e->e.1=1+i/\Ln e
def Do.num{l:Ad}(h:Do l)(a:l.1=1):HF l.2.1:=λi e b=>by have:=h.2.2.2.2.2 i e b;rw[a]at this;exact this
def HF.take{L:List AE}(h:HF L)(k:Nat):HF (L.take k):=λi e a=>h i e q!
def dO{L:List AE}{k:Nat}(h:k<L.length):L.take (k+1)=L.take k++[L[k]]:=by rw[C3,Av h];rfl
def HF.at{L:List AE}(h:HF L){k:Nat}(a:k<L.length):L[k].1=1+k/\Ln L[k]:=h k _ (Av a)
def fw{L:List AE}(h:HF L)(p:Int):Bj L p<=L.length:=by
 have:=nE (p:=p) (b:=L.length+1) L 0 o! λe c=>by have⟨i,a⟩:=Dn c;have:=(h i e a).1;have:=Cv a;omega
 unfold Bj;omega
def Q4{L:List AE}(h:HF L)(p:Int)(j:Nat): ∀k:Nat,j<=k->Bj (L.take j) p<=Bj (L.take k) p
 |0,hj=>by rw[show j=0 by omega];exact Ae _
 |k+1,hj=>by by_cases e:j=k+1;rw[e];exact Ae _;have c:=Q4 h p j k o!;by_cases a:k<L.length;rw[dO a,O8];have b:=fw (h.take k) p;have d:=(h.at a).1;rw[BQ]at b;split<;>omega;rw[BO (l:=L) (i:=k+1) o!];rwa [BO (l:=L) (i:=k) o!]at c
def vg{L:List AE}(h:HF L){p:Int}{i:Nat}{e:AE}(a:L[i]? =some e)(c:cE p e=true){k:Nat}(d:i<k):e.1<=Bj (L.take k) p:=by have b:=Cv a;have:=Q4 h p (i+1) k d;rw[dO b,O8,(Bf ((Av b).symm.trans a):L[i]=e),if_pos c]at this;exact this
def uk{L:List AE}(h:HF L){p:Int}{j k:Nat}(g:Bj (L.take j) p=Bj (L.take k) p):((L.take k).drop j).filter (cE p)=[]:=by refine List.filter_eq_nil_iff.2 λe f d=>?_;obtain⟨i,a⟩:=Dn f;rw[KX]at a;have b:=Cv a;rw[BQ]at b;rw[JW o!]at a;have:=vg h a d (k:=k) o!;have c:=fw (h.take j) p;have:=(h _ _ a).1;rw[BQ]at c;omega
def tK(L:List AE){j k:Nat}(h:j<=k):L.take k=L.take j++(L.take k).drop j:=by
 conv=>lhs;rw[<-DN j (L.take k)]
 rw[Kl,QI h]
def kI{L:List AE}{p:Int}{j k:Nat}(h:j<=k):st (L.take k) p=(((L.take k).drop j).filter (cE p)).foldl upd (st (L.take j) p):=by
 conv=>lhs;rw[tK L h]
 exact AAl _ _ _
theorem kH{L:List AE}(h:HF L){p:Int}{j k:Nat}(b:Bj (L.take j) p=Bj (L.take k) p):st (L.take j) p=st (L.take k) p:=by rcases Nat.le_total j k with a|a;rw[kI a,uk h b];rfl;rw[kI a,uk h b.symm];rfl
def qb{L:List AE}(h:HF L){p:Int}: ∀{k:Nat},0<Bj (L.take k) p-> ∃(i:Nat) (e:AE),i<k/\L[i]? =some e/\cE p e=true/\(i:Int)+1=Bj (L.take k) p
 |0,hk=>absurd hk (by simp[Bj])
 |k+1,hk=>by by_cases b:k<L.length;rw[dO b,O8]at hk⊢;by_cases a:cE p L[k]=true;rw[if_pos a];exact⟨k,L[k],o!,Av b,a,by have:=(h.at b).1;omega⟩;rw[if_neg a]at hk⊢;obtain⟨i,e,d,r⟩:=qb h hk;exact⟨i,e,o!,r⟩;rw[BO (l:=L) (i:=k+1) o!]at hk⊢;rw[<-BO (l:=L) (i:=k) o!]at hk;obtain⟨i,e,d,f,g,c⟩:=qb h hk;rw[BO (l:=L) (i:=k) o!]at c;exact⟨i,e,o!,f,g,c⟩
def Vs{L:List AE}(h:HF L)(p:Int)(k:Nat):0<=Bj (L.take k) p:=Q4 h p 0 k (Be _)
def Xb{L:List AE}(h:HF L){p:Int}{k:Nat}:Bj (L.take (Bj (L.take k) p).toNat) p=Bj (L.take k) p:=by
 have f:=Vs h p k;by_cases d:Bj (L.take k) p=0;rw[d];rfl;obtain⟨i,e,g,a,c,hn⟩:=qb h (by omega:0<Bj (L.take k) p);have b:(Bj (L.take k) p).toNat=i+1:=o!
 have:=vg h a c (k:=i+1) o!;have:=fw (h.take (i+1)) p;have:=(h i e a).1;rw[b];rw[BQ]at*;omega
theorem Wt{L:List AE}(h:HF L){p:Int}(b:0<=p/\p<64)(d:L.length<=1099511627776): ∀k:Nat,F9 (st (L.take k) p)
 |0=>⟨b.1,b.2,Ae 0,(by decide:(0:Int)<=1099511627776),λi=>⟨⟨Be 12,.inr rfl⟩,λ_=>rfl⟩⟩
 |k+1=>by
  have a:=Wt h b d k;by_cases c:k<L.length;rw[dO c,zk];split;rename_i m;have⟨g,j⟩:=h.at c;have e:OV L[k].2.2.2.2.2.2.1:=by grind[Ln,Uy,cE]
  refine⟨a.1,a.2.1,by show 0<=L[k].1;omega,by show L[k].1<=_;omega,λi=>⟨?_,λf=>?_⟩⟩;show Fo (WK _ _ _ i);unfold WK;split;exact e.2.2.2.2.2;exact(a.2.2.2.2 i).1;have:L[k].1=0:=f;omega;exact a;rw[BO (l:=L) (i:=k+1) o!];rwa [BO (l:=L) (i:=k) o!]at a
def OKs:AU->List AE->Prop
 |_,[]=>True
 |x,e::r=>(F9 x/\Ln e/\(e.2.1=1\/e.2.1=2)/\e.2.2.2.2.2.2.1.1=x.1/\e.2.2.2.2.1=x.2.1/\Gj x.2.2 e.2.2.2.2.2.2.1.2.1=some e.2.2.2.2.2.2.1.2.2.1)/\OKs (upd x e) r
def OKs.snoc: ∀{x:AU} {l:List AE} {e:AE},OKs x l->OKs (l.foldl upd x) [e]->OKs x (l++[e])
 |_,[],_,_,h=>h
 |_,_::_,_,h,g=>⟨h.1,OKs.snoc h.2 g⟩
def vp{n:Int}{L:List AE}(h:HF L)(g:LI n L){p:Int}(o:0<=p/\p<64)(m:L.length<=1099511627776)(j:Nat): ∀k:Nat,j<=k->OKs (st (L.take j) p) (((L.take k).drop j).filter (cE p))
 |0,hj=>by rw[show j=0 by omega];exact trivial
 |k+1,hj=>by
  by_cases e:j=k+1;rw[e,VV (by rw[BQ];omega)];exact trivial;have c:=vp h g o m j k o!;by_cases b:k<L.length;rw[dO b,oE (by rw[BQ];omega),Ix,VW,jm];split;rename_i q;refine c.snoc ⟨?_,trivial⟩;rw[<-kI o!];have r:=g k _ (Av b);have a:(L[k].2.1=1\/L[k].2.1=2)/\L[k].2.2.2.2.2.2.1.1=p:=by simpa[cE]using q
  have⟨d,f⟩:=r.1 a.1;rw[a.2]at d f;exact⟨Wt h o m k,(h.at b).2,a.1,by rw[a.2,Sc],by rw[d,K5],f⟩;rw[C5];exact c;rw[BO (l:=L) (i:=k+1) o!];rwa [BO (l:=L) (i:=k) o!]at c
def mu{L:List AE}(h:HF L){p:Int}{m j k:Nat}(l:m<=j)(n:Bj (L.take m) p=Bj (L.take j) p):((L.take k).drop m).filter (cE p)=((L.take k).drop j).filter (cE p):=by rw[<-DN (j-m) ((L.take k).drop m),Ix,Nd,show m+(j-m)=j by omega];refine(congrArg (· ++_) (List.filter_eq_nil_iff.2 λe g f=>?_)).trans (Bw _);obtain⟨i,a⟩:=Dn g;have c:=Cv a;rw[BQ]at c;rw[JW o!,KX]at a;have b:=Cv a;rw[BQ]at b;rw[JW o!]at a;have:=vg h a f (k:=j) o!;have d:=fw (h.take m) p;have:=(h _ _ a).1;rw[BQ]at d;omega
def AG8{n:Int}{l:Ad}(t:Do l)(C:l.1=1)(I:LI n l.2.1){p:Int}(T:0<=p/\p<64){j k:Nat}(A:Bj (l.2.1.take j) p<=Bj (l.2.1.take k) p):Aq (QT (l,(p,(Bj (l.2.1.take k) p,Bj (l.2.1.take j) p)))) λr=>r=(((l.2.1.take k).drop j).filter (cE p),0):=by
 have b:=t.num C;have O:=Vs b p k;have Q:=Vs b p j;have R:=t.2.2.1;refine AA Bc λv B=>AO (λa=>absurd (B.2 t) (by simp[a])) (λ_=>AC (λa=>absurd a d!) (λ_=>AC (λa=>absurd a d!) (λ_=>AC (λa=>absurd a d!) (λ_=>AC (λa=>absurd a d!) (λ_=>AA (P:=λr=>r= .inr (((l.2.1.take k).drop j).filter (cE p),Bj (l.2.1.take j) p)) ?_ λr hr=>?_)))))
 ·refine Cn (λ(s:List AE×Int)=> ∃m:Nat,m<=k/\s=(((l.2.1.take k).drop m).filter (cE p),Bj (l.2.1.take m) p)/\Bj (l.2.1.take j) p<=s.2) (λs=>s.2.toNat) ⟨k,Ap _,by rw[VV (by rw[BQ];omega)];rfl,A⟩ ?_;rintro s ⟨m,S,rfl,x⟩;unfold Te;dsimp only at x⊢;refine AC (λa=>?_) (λa=>Aq.done ?_)
  ·obtain⟨i,e,K,q,o,J⟩:=qb b (by omega:0<Bj (l.2.1.take m) p);have z:=Cv q;have c:(e.2.1=1\/e.2.1=2)/\e.2.2.2.2.2.2.1.1=p:=by simpa[cE]using o
   refine AA Gy λg D=>?_;have F:=D.2 t d! d!;have⟨_,_,u,_⟩:=D.1 F;dsimp only at u;rw[C,show(Bj (l.2.1.take m) p-1).toNat=i by omega,q]at u;rw[F,<-Bf u];refine AJ (λa=>absurd rfl a) (λ_=>AA CM λw N=>AO (λa=>absurd (N.2 c.1) (by simp[a])) (λ_=>AJ (λa=>absurd c.2 a) (λ_=>?_)));have y:=Fy (cE p) ((l.2.1.take k).drop m);rw[EH,BQ]at y;have d:=((I i e q).1 c.1).1;rw[c.2]at d;have E:=Xb b (p:=p) (k:=m);rw[show(Bj (l.2.1.take m) p).toNat=i+1 by omega]at E;have L:=Xb b (p:=p) (k:=j);have M:=Q4 b p (Bj (l.2.1.take j) p).toNat i o!;refine AA (cZ d!) λf H=>Aq.next ⟨i,o!,?_,d!⟩ (by dsimp only;rw[d];have:=fw (b.take i) p;rw[BQ]at this;omega)
   rw[d,H,<-mu b (m:=i+1) (j:=m) o! E,PX (l:=l.2.1.take k) (i:=i) (by rw[BQ];omega),VW];have G:(l.2.1.take k)[i]'(by rw[BQ];omega)=e:=by rw[List.getElem_take];exact Bf ((Av z).symm.trans q)
   rw[G,if_pos o]
  have e:Bj (l.2.1.take m) p=Bj (l.2.1.take j) p:=o!
  rw[e];rcases Nat.le_total m j with h|h;rw[mu b h e];rw[mu b h e.symm]
 subst hr;exact BA (AC (λa=>absurd a d!) (λ_=>AB rfl))
def AGO{n:Int}{l:Ad}(f:Do l)(C:l.1=1)(F:LI n l.2.1){p:Int}(t:0<=p/\p<64){j k:Nat}:Aq (Qd (l,(st (l.2.1.take j) p,Bj (l.2.1.take k) p))) λr=>r=(if Bj (l.2.1.take j) p<=Bj (l.2.1.take k) p then st (l.2.1.take k) p else st (l.2.1.take j) p,0):=by
 generalize G:(if Bj (l.2.1.take j) p<=Bj (l.2.1.take k) p then st (l.2.1.take k) p else st (l.2.1.take j) p)=y;have d:=f.num C;have S:=Vs d p k;have T:=f.2.2.1;have q:=Wt d t o!;suffices Q:Aq (Qe (l,(st (l.2.1.take j) p,Bj (l.2.1.take k) p))) λr=>r.1=y/\r.2.2=0 from AA Q λr hr=>AB (by rw[hr.1,hr.2]);refine AA (P:=λr=> ∃b:List AE,r=(b,0)/\b.length<=4096/\OKs (st (l.2.1.take j) p) b/\b.foldl upd (st (l.2.1.take j) p)=y) ?_ λr hr=>?_;refine AA Bc λv w=>AO (λa=>absurd (w.2 f) (by simp[a])) (λ_=>?_);rw[qo (q j)];refine BC (AJ (λa=>absurd rfl a) (λ_=>AC (λa=>absurd a d!) (λ_=>AC (λa=>AB ?_) (λa=>?_))));rw[K5]at a;refine⟨[],rfl,k!,trivial,?_⟩;rw[<-G];split;exact kH d (by dsimp only at a;omega);rfl;rw[K5]at a;have c:j<=k:=by rcases Nat.le_total j k with h|h;exact h;have:=Q4 d p k j h;dsimp only at a;omega
 have e:((st (l.2.1.take j) p).1,(Bj (l.2.1.take k) p,(st (l.2.1.take j) p).2.1))=(p,(Bj (l.2.1.take k) p,Bj (l.2.1.take j) p)):=by rw[Sc,K5]
 dsimp only at e⊢;rw[e];refine AA (AG8 f C F t (by dsimp only at a;omega)) λr hr=>AB ⟨_,hr,?_,vp d F t o! j k c,by rw[<-G,if_pos (by dsimp only at a;omega)];exact(kI c).symm⟩;have o:=Fy (cE p) ((l.2.1.take k).drop j);rw[EH,BQ]at o;omega
 ·obtain⟨b,rfl,m,O,u⟩:=hr;refine AJ (λa=>absurd rfl a) (λ_=>AA (P:=λr=> ∃z,r= .inr (y,z)) ?_ λr hr=>?_)
  ·refine Cn (λ(s:Int×AU×AU)=> ∃A B,b=A++B/\s.1=A.length/\OKs s.2.1 B/\B.foldl upd s.2.1=y) (λ(s:Int×AU×AU)=>((b.length:Int)-s.1).toNat) ⟨[],b,rfl,rfl,O,u⟩ ?_;rintro⟨i,x,z⟩ ⟨A,B,rfl,D,E,g⟩;dsimp only at D E g;subst D;unfold Th;dsimp only[len];rw[Ac]at m;refine AC (λa=>?_) (λa=>Aq.done ?_)
   ·obtain _|⟨e,B⟩:=B;simp at a;have R:ix (A++e::B) (A.length:Int)=some e:=by unfold ix;rw[if_pos o!,DG,Cj (Ap _),Gl];rfl
    obtain⟨⟨H,I,J,K,L,M⟩,N⟩:=E;rw[R,AD,zn H I J K L M,AD,AY (x:=(A.length:Int)+1)];refine AJ (λa=>absurd rfl a) (λ_=>Aq.next ⟨A++[e],B,k!,k!,N,g⟩ d!)
   obtain _|⟨e,B⟩:=B;exact⟨z,by rw[<-g];rfl⟩;simp at a;omega
  obtain⟨z,rfl⟩:=hr;exact BA (AB ⟨rfl,rfl⟩)
variable {B:Int->Prop}
def KS(B:Int->Prop)(k m:AS):Prop:=m.1=k.1/\LX k.2.2.1 m.2.2.1/\Do m.2.2.1/\m.2.2.2.2.1=k.2.2.2.2.1/\m.2.2.2.2.2.1=k.2.2.2.2.2.1/\SK B m
def KS.refl{k:AS}(h:SK B k)(a:Do k.2.2.1):KS B k k:=⟨rfl,LX.refl _,a,rfl,rfl,h⟩
def KS.trans{a b c:AS}(h:KS B a b)(g:KS B b c):KS B a c:=⟨g.1.trans h.1,h.2.1.trans g.2.1,g.2.2.1,g.2.2.2.1.trans h.2.2.2.1,g.2.2.2.2.1.trans h.2.2.2.2.1,g.2.2.2.2.2⟩
def LX.of{a b:Ad}(h:b.1=a.1)(g:b.2.1=a.2.1)(d:a.2.2<=b.2.2):LX a b:=⟨h,d,[],by rw[g,C5]⟩
def KI.of{k m:AS}(h:KI B k)(a:m.1=k.1)(b:m.2.2.1.2.1=k.2.2.1.2.1)(c:m.2.2.2.1=k.2.2.2.1)(d:m.2.2.2.2.2.2=k.2.2.2.2.2.2):KI B m:=by unfold KI;rw[a,b,c,d];exact h
def qq{x:Ad×Int}(h:Do x.1)(c:x.2<=x.1.1+x.1.2.1.length-1):Aq (EL x) λr=>r.2=0:=by refine AA Bc λv d=>AO (λa=>?_) (λ_=>?_);grind;refine AA Ee λe b=>?_;rw[h.last]at b;exact AC (λa=>absurd a o!) (λ_=>AB rfl)
def Jg{x:AS×Int}(h:SK B x.1)(c:Do x.1.2.2.1):Aq (F4 x) λr=>KS B x.1 r/\r.2.2.2.1=x.1.2.2.2.1/\(x.2<=x.1.2.2.1.1+x.1.2.2.1.2.1.length-1->x.2<=r.2.2.1.2.2):=by unfold F4;refine AA Ff λv d=>?_;have d:=d c;refine AA (Jd.and (qq c (by dsimp only;split<;>omega))) λw a=>?_;have⟨i,e,j,k,f⟩:=a.1 a.2;refine Bg (AP (λb=>AB ⟨⟨rfl,LX.of j e k,i,rfl,rfl,SB.sk h.sb (h.ki.of rfl e rfl rfl)⟩,rfl,λg=>?_⟩) (λb=>absurd a.2 b));dsimp only at f⊢;split at f<;>omega
def Y4{x:AS×Int×Int}(h:SK B x.1)(p: ∃f∈x.1.2.2.2.1.2.1,f.1.1=x.2.1/\f.1.2.1=x.2.2):Aq (Ji x) λr=>r.2=0->VK x.1/\KS B x.1 r.1/\DC r.1.2.2.2.1<=DC x.1.2.2.2.1/\ ∀(i:Nat) (f:BE),x.1.2.2.2.1.2.1[i]? =some f->f.1.1=x.2.1->f.2.1=true->f.1.2.1=x.2.2->DC r.1.2.2.2.1<DC x.1.2.2.2.1:=by unfold Ji;refine AA (CC h.sb) λv O=>AO (λb=>AB n!) (λb=>?_);have A:=O b;refine AC (λb=>AB n!) (λ_=>AC (λb=>AB n!) (λ_=>AC (λb=>AB n!) (λ_=>AA Ff λ_ _=>AC (λb=>AB n!) (λ_=>AA Fh λi L=>AA (P:=λs=>(∃u,s= .inl u/\u.1≠0)\/ ∃u,s= .inr u/\(DC u.1<=DC x.1.2.2.2.1/\ ∀(i:Nat) (f:BE),x.1.2.2.2.1.2.1[i]? =some f->f.1.1=x.2.1->f.2.1=true->f.1.2.1=x.2.2->DC u.1<DC x.1.2.2.2.1)/\(∀g∈u.1.2.1,∃f∈x.1.2.2.2.1.2.1,f.1.1=g.1.1/\f.1=g.1)/\ ∀f∈x.1.2.2.2.1.2.1,f.1.1≠x.2.1->f∈u.1.2.1) ?_ λs N=>?_))));refine AC (λb=>?_) (λb=>AB (.inr ⟨_,rfl,⟨Ap _,λj f M q _ _=>absurd (L.2.2.2 A.2.2.2.1 ⟨j,f,M,q⟩) b⟩,λg K=>⟨g,K,rfl,rfl⟩,λf n _=>n⟩));grind[AA,ck,AJ,AB];rcases N with⟨u,rfl,t⟩|⟨u,rfl,t,m,y⟩;exact BL (AB λc=>absurd c t);apply BA;refine AA (F3 h.sb) λa J=>AJ (λb=>AB (λc=>absurd c b)) (λb=>AB λ_=>?_);have⟨_,⟨a1,a2,a3,a4,a5,a6,a7,a8,e,E,Q,F,o,R,S,G⟩,_⟩:=J b;have⟨f,n,H,I⟩:=p;have⟨q0,w,C,D⟩:=G rfl;have T:=h.ki.2.2 f n;have d:=congrArg (λz=>z.2.1) ((h.ki.2.1 x.2.1 o! o!).1 f n H);rw[K5]at d;refine⟨A,⟨a1,a2,a3,a5,a6.2.1 rfl,a8.1,a8.2.1,a8.2.2,?_⟩,t⟩;unfold KI;dsimp only at F o C D⊢;rw[a1,a7,E,D];have k:=congrArg (λz=>z.1) o;have l:=congrArg (λz=>z.2.1.1) o;dsimp only at k l;refine⟨h.ki.1.app ⟨λh=>o!,λ_=>?_,λh=>o!⟩,(h.ki.2.1.written o! o! o! m y C).app o!,h.ki.2.2.sub m⟩;rw[k,l,<-I];exact d
def fU{x:AS}(h:SK B x):Aq (MW x) λr=>r.2.2.2=0->VK x/\KS B x r.1/\(r.2.2.1=true->DC r.1.2.2.2.1=DC x.2.2.2.1/\ ∃(i:Nat) (f:BE),r.1.2.2.2.1.2.1[i]? =some f/\f.1=r.2.1/\f.2.1=true/\r.2.1.2.1<=r.1.2.2.1.2.2):=by
 unfold MW;refine AA (CC h.sb) λv M=>AO (λn=>AB n!) (λn=>?_);have c:=M n;refine AC (λn=>AB (λ_=>⟨c,KS.refl h c.2.2.1,λt=>by cases t⟩)) (λm=>AA aR λw D=>?_);have⟨_,F,O,P⟩:=D.1 (D.2 c.2.2.2.1 (by have:=c.2.2.2.1.1;simp[len]at m;omega));have G: ∀g∈w.1.2.1,∃f∈x.2.2.2.1.2.1,core g=core f:=λg b=>by grind[List.getElem?_of_mem,qm,List.mem_of_getElem?]
 have H: ∀f∈x.2.2.2.1.2.1,∃g∈w.1.2.1,core g=core f:=λf l=>by grind[List.getElem?_of_mem,qm,List.mem_of_getElem?]
 have u: ∀{f g:BE},core f=core g->f.1=g.1/\f.2.1=g.2.1:=λe=>⟨congrArg (λz=>z.1) e,congrArg (λz=>z.2.1) e⟩
 have k1: ∀g∈w.1.2.1,∃f∈x.2.2.2.1.2.1,f.1.1=g.1.1/\f.1=g.1:=λg b=>by have⟨f,l,e⟩:=G g b;exact⟨f,l,by rw[(u e).1],by rw[(u e).1]⟩
 have N: ∀f∈x.2.2.2.1.2.1,f.2.1=true-> ∃g∈w.1.2.1,g.1.1=f.1.1/\g.2.1=true:=λf l y=>by have⟨g,b,e⟩:=H f l;exact⟨g,b,by rw[(u e).1],by rw[(u e).2,y]⟩
 refine AA Fh λi A=>?_;have E:=A.2.2.2 F P;refine AA (AI E A.2.1) λf l=>?_;have a:KI B (x.1,(x.2.1,(x.2.2.1,(w.1,x.2.2.2.2)))):=⟨h.ki.1,h.ki.2.1.frames k1 N,h.ki.2.2.sub k1⟩
 apply AO<;>intro n;have⟨_,L,o,J⟩:=A.2.2.1 E;have K:L=f:=by have:=l.1;rw[o]at this;exact Bf this
 subst K;refine AA fQ λd y=>AB λ_=>⟨c,⟨rfl,LX.refl _,c.2.2.1,rfl,rfl,h.1,h.2.1,h.2.2.1,?_⟩,λt=>by cases t⟩
 have⟨C,I⟩:=y F _ _ o J n;exact⟨h.ki.1,a.2.1.frames (λg b=>⟨g,C g b,rfl,rfl⟩) (λg b s=>⟨g,I g b s,rfl,s⟩),a.2.2.sub λg b=>⟨g,C g b,rfl,rfl⟩⟩;refine AA (Jg (SB.sk ⟨h.1,h.2.1,h.2.2.1⟩ a) c.2.2.1) λk j=>AB λ_=>⟨c,j.1,λ_=>⟨?_,i.toNat,f,?_,rfl,n,j.2.2 ?_⟩⟩
 rw[j.2.1,zo,zo,O];rw[j.2.1];exact l.1;have q:=BN l.1;have p:=a.2.2 f q;have:=congrArg (λz=>z.2.1) ((a.2.1 f.1.1 p.1 p.2.1).1 f q rfl);dsimp only at this⊢;rw[this,K5];have:=kA c.2.2.1 f.1.1;omega
def AGN(P:List AE)(p:Int)(s:BT):Prop:=s=iI 256\/ ∃j:Nat,s=Hq (st (P.take j) p)
def dead(s:BT):Prop:=s≠iI 256/\ ∀q,F9 q->s≠Hq q
def DP(B:Int->Prop)(P:List AE)(d:Bq):Prop:=DI d/\ ∀(i:Nat) (s:BT),d.1[i]? =some s->(B i->AGN P i s)/\(B i\/dead s)
def dl(l:Ad):List AE:=l.2.1.take l.2.2.toNat
def DJ(B:Int->Prop)(l:Ad)(d:Bq):Prop:=l.1=1/\DP B (dl l) d
def DP.up{P Q:List AE}{d:Bq}{m:Nat}(h:DP B P d)(e:P=Q.take m):DP B Q d:=⟨h.1,λi s a=>⟨λb=>by rcases(h.2 i s a).1 b with q|⟨j,q⟩;exact .inl q;rw[e,Kl]at q;exact .inr ⟨_,q⟩,(h.2 i s a).2⟩⟩
def DJ.up{a b:Ad}{d:Bq}(h:DJ B a d)(g:LX a b):DJ B b d:=by obtain⟨c,f,t,e⟩:=g;refine⟨c.trans h.1,h.2.up (m:=min a.2.2.toNat a.2.1.length) ?_⟩;unfold dl;rw[e,Kl,QI o!,da o!,Nat.min_comm,<-Kl,BO (l:=a.2.1.take _) (by rw[BQ];omega)]
def ADw{L:List AE}(h:HF L){p d:Int}(f:Bj L p<=d):st (L.take d.toNat) p=st L p:=by
 have e:=Hm (l:=L);have a:=Xb h (p:=p) (k:=L.length);rw[e]at a;have b:=Q4 h p (Bj L p).toNat d.toNat o!
 have c:Bj (L.take d.toNat) p<=Bj L p:=by rcases Nat.le_total d.toNat L.length with q|q;have:=Q4 h p _ _ q;rwa [e]at this;rw[BO q];exact Ae _
 have:=kH h (p:=p) (j:=d.toNat) (k:=L.length) (by rw[e];omega);rwa [e]at this
def Tj{x:AV×AS×AU}(h:SK B x.2.1)(A:Do x.2.1.2.2.1)(l:DJ B x.2.1.2.2.1 x.1.2)(n: ∃f∈x.2.1.2.2.2.1.2.1,f.1=x.2.2)(y:x.2.2.2.1<=x.2.1.2.2.1.2.2):Aq (Le x) λr=>r.2=0->KS B x.2.1 r.1.1/\DJ B r.1.1.2.2.1 r.1.2/\DC r.1.1.2.2.2.1<=DC x.2.1.2.2.2.1/\((∃(i:Nat) (f:BE),x.2.1.2.2.2.1.2.1[i]? =some f/\f.1=x.2.2/\f.2.1=true)->DC r.1.1.2.2.2.1<DC x.2.1.2.2.2.1):=by
 have⟨f,m,b⟩:=n;have a:=h.ki.2.2 f m;have c:=(h.ki.2.1 f.1.1 a.1 a.2.1).1 f m rfl;refine D5 R9 λv G _=>AA (cV l.2.1) λw L=>AJ (λd=>AB (λo=>absurd o d)) (λd=>AA (Y4 h ⟨f,m,by rw[b],by rw[b]⟩) λu K=>AJ (λd=>AB (λo=>absurd o d)) (λq=>AB λ_=>?_));have⟨D,E,M,N⟩:=K q;have⟨O,P,F⟩:=L d;refine⟨E,DJ.up ⟨l.1,O,λi s j=>?_⟩ E.2.1,M,λ⟨i,g,H,t,I⟩=>N i g H (by rw[t]) I (by rw[t])⟩;have C:=A.num l.1;have k:=Wt C (p:=f.1.1) ⟨a.1,by have:=D.2.1;have:=D.1;dsimp only at*;omega⟩ (by have:=A.2.2.1;omega) x.2.1.2.2.1.2.1.length;rw[Hm,<-c,b]at k;rw[an k]at G;dsimp only at F j;rw[F]at j;by_cases J:i=x.2.2.1.toNat
 subst J;have e:s=Hq x.2.2:=by unfold FT at j;grind
 rw[b]at a c;rw[show((x.2.2.1.toNat:Nat):Int)=x.2.2.1 by omega];refine⟨λ_=>.inr ⟨(dl x.2.1.2.2.1).length,?_⟩,.inl a.2.2.2⟩;rw[Hm,e];unfold dl;rw[ADw C (by have:=congrArg (λz=>z.2.1) c;rw[K5]at this;omega),<-c];exact l.2.2 i s (by unfold FT at j;rwa [List.getElem?_set_ne o!]at j)
def SvR(B:Int->Prop)(s r:AV):Prop:=KS B s.1 r.1/\DJ B r.1.2.2.1 r.2
def fe{x:AV}(h:SK B x.1)(j:Do x.1.2.2.1)(g:DJ B x.1.2.2.1 x.2):Aq (Ma x) λr=>r.2=0->SvR B x r.1:=by unfold Ma;refine AA (P:=λr=>r.1=0->SvR B x r.2) ?_ λr hr=>AB hr;refine AW (λs=>SvR B x s.1) (λs=>DC s.1.1.2.2.2.1) ⟨KS.refl h j,g⟩ (λs c=>?_);unfold Ti;refine AA (fU c.1.2.2.2.2.2) λv k=>AJ (λa=>AB (λe=>absurd e a)) (λa=>?_);have⟨q,b,m⟩:=k a;refine AO (λa=>AB (λ_=>⟨c.1.trans b,c.2.up b.2.1⟩)) (λd=>?_);have⟨q1,i,f,q2,q3,q4,q5⟩:=m d;refine AA (Tj b.2.2.2.2.2 b.2.2.1 (c.2.up b.2.1) ⟨f,BN q2,q3⟩ q5) λw l=>AJ (λa=>AB (λe=>absurd e a)) (λa=>AB ?_);have⟨n,o,t,p⟩:=l a;exact⟨⟨(c.1.trans b).trans n,o⟩,by have:=p ⟨i,f,q2,q3,q4⟩;dsimp only at*;omega⟩
end Go.Pm
namespace Go.Pm
open Go Go.Ab
set_option maxHeartbeats 400000
variable {B:Int->Prop}
def XJ{x:AS×AU}{s:Int×List Ag}(h:0<=s.1/\s.1<=x.1.2.2.2.2.2.2.2.length/\x.1.2.2.2.2.2.2.2.length<=16777216/\s.2=(x.1.2.2.2.2.2.2.2.take s.1.toNat).filter (λd=>d.1 !=x.2.1)):Aq (Ah (L6 x) s) λr=>r=x.1.2.2.2.2.2.2.2.filter λd=>d.1 !=x.2.1:=by refine AW (λ(s:Int×List Ag)=>0<=s.1/\s.1<=x.1.2.2.2.2.2.2.2.length/\x.1.2.2.2.2.2.2.2.length<=16777216/\s.2=(x.1.2.2.2.2.2.2.2.take s.1.toNat).filter (λd=>d.1 !=x.2.1)) (λ(s:Int×List Ag)=>((x.1.2.2.2.2.2.2.2.length:Int)-s.1).toNat) h (λs j=>?_);have⟨b,q,g,i⟩:=j;unfold L6;refine AC (λf=>?_) (λf=>AB ?_);simp[len]at f;have m:=mz (l:=x.1.2.2.2.2.2.2.2) (p:=λd=>d.1 !=x.2.1) b;rw[<-i]at m;refine AA (AI b f) λv o=>?_;have e:=AY (x:=s.1+1);have n:=j8 (p:=λd:Ag=>d.1 !=x.2.1) b o.1;refine AA (P:=λa=>a=(x.1.2.2.2.2.2.2.2.take (s.1+1).toNat).filter (λd=>d.1 !=x.2.1)) ?_ λa c=>AB ⟨⟨d!,d!,g,by dsimp only;rw[c,e]⟩,d!⟩;refine AL (λk=>?_) (λk=>AB ?_);grind[AA,AI,Option.some.inj,AZ,AB];grind;grind[List.take_of_length_le]
def aT{x:AS×AU}(h:SK B x.1)(L:Bk x.1=some true->x.2=st x.1.2.2.1.2.1 x.2.1/\B x.2.1):Aq (KM x) λr=>r.2=0->KS B x.1 r.1/\mM r.1.2.2.2.1 x.2.1:=by
 unfold KM;refine D5 (CC h.sb) λv O hv=>AO (λg=>AB n!) (λg=>?_);have K:=hv g;rw[g]at O;refine AC (λg=>AB n!) (λx0=>AC (λg=>AB n!) (λx1=>AA (KK h.sb) λy1 al=>AC (λg=>AB n!) (λx2=>AA (KK h.sb) λy2 ao=>AC (λg=>AB n!) (λx3=>?_))));have⟨R,Q⟩:=L O;refine AA EQ λv3 _=>AO (λg=>AB n!) (λ_=>AA Nq λv4 _=>AJ (λg=>?_) (λ_=>?_));grind[AJ,AB];have p2:=K.2.2.2.1.2.1;have p3:=K.2.2.2.1.2.2.1;refine AA (Ga d!) λi I=>AC (λg=>AB n!) (λA=>?_);have A:=I.2.2.2 o!;refine AP (λg=>AB n!) (λ_=>AA (AZ w!) λv8 C=>?_);have⟨C,Z,_⟩:=C;rw[Bw]at C;subst C;refine AA (AZ w!) λc n=>?_;have⟨n,o,_⟩:=n;have q:c[c.length-1]? =some (x.2,(false,(0,true))):=by rw[n];simp
 have hn:(c.length:Int)-1=((c.length-1:Nat):Int):=by simp at o;omega
 have e:=AY (x:=(c.length:Int)-1) (by simp at o;omega);have k: ∀f∈x.1.2.2.2.1.2.1,f.1.1≠x.2.1:=λf H e=>by have⟨i,I⟩:=Dn H;exact A ⟨i,f,I,e⟩
 refine AA (Jh h.sb) λt w=>AA (P:=λv:List BE×AS×Int×Int×Int×Int×Int×Int=>(∃(i:Nat) (f:BE),v.1[i]? =some f/\f.1.1=x.2.1)/\(v.2.1.1=x.1.1/\v.2.1.2.2.1=x.1.2.2.1/\v.2.1.2.2.2.2.1=x.1.2.2.2.2.1/\v.2.1.2.2.2.2.2.1=x.1.2.2.2.2.2.1/\SB v.2.1/\v.2.1.2.2.2.2.2.2.1=x.1.2.2.2.2.2.2.1)/\KP x.1.1 x.1.2.2.1.2.1 v.1 v.2.1.2.2.2.2.2.2.2 x.1.2.2.2.2.2.2.1/\FD B x.1.1 v.1 v.2.1.2.2.2.2.2.2.2) ?_ λa0 m=>?_
 ·refine AL (λs=>?_) (λs=>AB ⟨⟨_,_,q,rfl⟩,⟨rfl,rfl,rfl,rfl,h.sb,rfl⟩,?_,?_⟩);rotate_left 1;rw[n];exact h.ki.2.1.supply R k rfl (.inr ⟨rfl,w.2 s,rfl⟩);rw[n];exact h.ki.2.2.supply (p:=x.2.1) o! o! Q rfl (λd y=>y) (w.2 s);rw[hn]at e;simp only[len,hn,e];have z:c.length-1<c.length:=by simp at o;omega
  refine AA (AI) λap W=>AA (AI) λj X=>?_;have V:j.1=x.2:=by grind[Int.toNat_natCast,Option.some.inj]
  have ad:(FT c ((c.length-1:Nat):Int) (j.1,(true,j.2.2))).length=c.length:=by simp[FT]
  refine AA (AI) λar Y=>AA (AI) λa F=>?_;have l:a.1=x.2:=by grind[Int.toNat_natCast,FT,List.getElem?_set_self,Option.some.inj]
  refine AA (XJ ⟨k!,k!,h.2.2.1,k!⟩) λax G=>?_;have u:a.2.1=true:=by have:=F.1;simp[DG,FT]at this;rw[Gt z]at this;rw[<-Bf this]
  have N:FT (FT c ((c.length-1:Nat):Int) (j.1,(true,j.2.2))) ((c.length-1:Nat):Int) (a.1,(a.2.1,(t.1.2.1,a.2.2.2)))=x.1.2.2.2.1.2.1++[(a.1,(a.2.1,(t.1.2.1,a.2.2.2)))]:=by simp[FT,DG,Xl,(by rw[n];simp:c.length-1=x.1.2.2.2.1.2.1.length)];rw[n,Sr _ _ (Ap _)];simp
  subst G;refine AB ⟨⟨c.length-1,(a.1,(a.2.1,(t.1.2.1,a.2.2.2))),?_,by rw[l]⟩,⟨rfl,rfl,rfl,rfl,⟨h.1,h.2.1,Dh (Fy _ _) h.2.2.1⟩,rfl⟩,?_,?_⟩;simp[FT,DG];rw[Gt (by simpa using z)];rw[N];exact h.ki.2.1.supply R k l (.inl ⟨u,rfl⟩);rw[N];exact h.ki.2.2.supply (p:=x.2.1) o! o! Q (by rw[l]) (λd y=>(BW.1 y).1) (λd y=>by simpa using(BW.1 y).2)
 have⟨i,f,H,J⟩:=m.1;have⟨M,D,S,T,E,U⟩:=m.2.1;refine AB λ_=>⟨⟨M,by dsimp only;rw[D];exact LX.refl _,by dsimp only;rw[D];exact K.2.2.1,S,T,E.1,E.2.1,E.2.2,?_⟩,i,f,H,J⟩
 unfold KI;dsimp only;rw[M,D,U];exact⟨h.ki.1,m.2.2⟩
def AHY{x:AS×Int}(h:Bk x.1=some false):Eh x=some 0:=by unfold Eh;rw[h];rfl
def Rd.st{P:List AE}{p:Int}{s:BT}{q:AU}(h:Rd s p q)(d:AGN P p s)(e: ∀j,F9 (st (P.take j) p)): ∃j:Nat,q=Go.Pm.st (P.take j) p:=by obtain⟨_,⟨_,h⟩|⟨a,b,c⟩⟩:=h;exact⟨0,h⟩;rcases d with q|⟨j,q⟩;exact absurd q c;exact⟨j,ACq a (e j) (b.symm.trans q)⟩
def HV{x:AV×Int}(h:SK B x.1.1)(g:DJ B x.1.1.2.2.1 x.1.2):Aq (Ez x) λr=>r.2=0->SvR B x.1 r.1/\mM r.1.1.2.2.2.1 x.2:=by
 unfold Ez;refine AA (CC h.sb) λv X=>AO (λa=>AB n!) (λa=>?_);have s:=X a;refine AC (λa=>AB n!) (λp0=>AC (λa=>AB n!) (λp1=>AA Fh λi W=>AC (λa=>AB λ_=>⟨⟨KS.refl h s.2.2.1,g⟩,?_⟩) (λ_=>?_)));have⟨_,f,V,C⟩:=W.2.2.1 a;exact⟨_,f,V,C⟩;refine AA (fe h s.2.2.1 g) λo Q=>AJ (λa=>AB (λc=>absurd c a)) (λw=>?_);have⟨t,m⟩:=Q w;have n:=t.2.2.2.2.2;have F:=t.2.2.1;have k1:=s.1;have k2:=s.2.1;have H:0<=x.2/\x.2<64:=o!
 have M:=F.num m.1;have h4:=F.2.2.1;refine AA (fL m.2.1) λv3 R=>AJ (λa=>AB (λc=>absurd c a)) (λy=>?_);have⟨Y,Z,O⟩:=R y;have⟨b,u,_⟩:=CC n.sb;refine AA (P:=λr=> ∃k:Nat,r=Bj (o.1.1.2.2.1.2.1.take k) x.2/\(b=true->k=o.1.1.2.2.1.2.1.length)) ?_ λv4 ⟨k,D,E⟩=>?_;cases b with
 |false=>exact⟨_,AHY u,0,rfl,λU=>by cases U⟩
 |true=>exact(KK n.sb).mono λr hr=>⟨_,by rw[Hm];exact hr u n.ki.2.1 H.1 (by have:=t.1;dsimp only at this⊢;omega),λ_=>rfl⟩
 refine AA (cq d!) λv5 e=>AJ (λa=>AB (λc=>absurd c a)) (λz=>?_);have e:=e z;dsimp only at e;have d:=m.2.2 _ _ O;rw[show((x.2.toNat:Nat):Int)=x.2 by omega]at d;have L:B x.2:=d.2.resolve_right λg=>by obtain⟨_,⟨q,_⟩|⟨q1,q2,_⟩⟩:=e;exact g.1 q;exact g.2 _ q1 q2
 have I:=Wt M H o!;obtain⟨j,p⟩:=e.st (d.1 L) λj=>by unfold dl;rw[Kl];exact I _
 unfold dl at p;rw[Kl]at p;generalize min j o.1.1.2.2.1.2.2.toNat=j' at p;rw[p,D];refine AA (AGO F m.1 n.ki.1 H) λv6 S=>?_;subst S;refine AJ (λa=>absurd rfl a) (λ_=>AA (aT n λK=>?_) λv7 T=>?_);rw[u]at K;have l:=E (Bf K);have G:Bj (o.1.1.2.2.1.2.1.take j') x.2<=Bj (o.1.1.2.2.1.2.1.take k) x.2:=by rcases Nat.le_total j' k with q|q;exact Q4 M _ _ _ q;rw[BO o!,l,Hm];exact Ae _
 dsimp only;rw[if_pos G,l,Hm,Sc];exact⟨rfl,L⟩;refine AJ (λa=>AB (λc=>absurd c a)) (λA=>AB λ_=>?_);have⟨N,J⟩:=T A;refine⟨⟨t.trans N,m.up N.2.1⟩,?_⟩;dsimp only at J;split at J<;>rwa [Sc]at J
end Go.Pm
namespace Go.Pm
open Go Go.Ab
set_option maxHeartbeats 400000
variable {B:Int->Prop}
def KL(B:Int->Prop)(k m:AS):Prop:=m.1=k.1/\LX k.2.2.1 m.2.2.1/\SK B m/\Do m.2.2.1
theorem KL.refl{k:AS}(h:SK B k)(a:Do k.2.2.1):KL B k k:=⟨rfl,LX.refl _,h,a⟩
def KL.trans{a b c:AS}(h:KL B a b)(g:KL B b c):KL B a c:=⟨g.1.trans h.1,h.2.1.trans g.2.1,g.2.2⟩
def KS.kl{a b:AS}(h:KS B a b):KL B a b:=⟨h.1,h.2.1,h.2.2.2.2.2,h.2.2.1⟩
def yL.kl{a b:AS}{z:AE}(h:yL a z b)(c:SK B a)(d:z.2.1≠1/\z.2.1≠2/\z.2.1≠6/\z.2.1≠7):KL B a b:=⟨h.1,h.2.1,h.sk c d,h.2.2.1⟩
def SK.locks{k:AS}{l:A8}(h:SK B k)(a:GH l):SK B (k.1,(k.2.1,(k.2.2.1,(k.2.2.2.1,(l,k.2.2.2.2.2))))):=⟨a,h.2⟩
def PB.idx{p:Bv}(h:PB p){i j:Nat}{f g:BE}(a:p.2.1[i]? =some f)(b:p.2.1[j]? =some g)(e:g.1.1=f.1.1):j=i:=by have l1:=Cv a;have l2:=Cv b;rcases QH i j with q|q|q;exact absurd e.symm (h.2.2.2.2.2.2 i j f g q o! a b);exact q.symm;exact absurd e (h.2.2.2.2.2.2 j i g f q o! b a)
def hY{x:Bv×Int}:Aq (NS x) λr=>(∀g∈r.2.1,∃f∈x.1.2.1,f.1.1=g.1.1/\f.1=g.1)/\ ∀f∈x.1.2.1,f.2.1=true-> ∃g∈r.2.1,g.1.1=f.1.1/\g.2.1=true:=by unfold NS;refine AA Fh λv b=>AC (λ_=>AB ⟨λg k=>⟨g,k,rfl,rfl⟩,λf a h=>⟨f,a,rfl,h⟩⟩) (λm=>?_);have d:=b.2.2.1 o!;have o:=d.1.2.1;have p:=d.1.2.2.1;refine AA (AI o! b.2.1) λl c=>AA (LO d! ⟨d!,b.2.1⟩) λr hr=>AB ?_;subst hr;refine⟨AAk c.1 rfl,λf a j=>?_⟩;by_cases e:f.1.1=l.1.1;have⟨i,n⟩:=Dn a;grind[Option.some.inj,List.mem_of_getElem?,List.getElem?_set_self,Cv];exact⟨f,wL c.1 f a e,rfl,j⟩
def aQ{x:Bv×AU}:Aq (KF x) λr=>r.2=0->PB x.1/\ ∃(i:Nat) (f g:BE),x.1.2.1[i]? =some f/\f.1.1=x.2.1/\r.1.2.1=x.1.2.1.set i g/\g.1=x.2/\g.2.1=true:=by unfold KF;refine AA EQ λv c=>AO (λ_=>AB n!) (λb=>?_);have h:=(c.1 b).2.1;have j:=(c.1 b).2.2.1;refine AA Nq λ_ _=>AJ (λb=>AB λa=>absurd a b) (λ_=>AA (Ga d!) λi d=>AC (λ_=>AB n!) (λb=>AA (AI o! d.2.1) λk e=>AC (λ_=>AB n!) (λ_=>AA (P:=λ_=>True) (AO (λ_=>AB trivial) (λ_=>AB trivial)) λl _=>?_)));grind[AA,LO,AB,Option.some.inj]
def Ln.cell{e:AE}(h:Ln e):0<=e.2.2.2.2.2.2.1.2.1/\e.2.2.2.2.2.2.1.2.1<16:=by have a:=h.2.2.2.2.2.2.2.2;grind[Uy,OV,Pq]
def KI.same{k:AS}(h:KI B k){f g:BE}(a:f∈k.2.2.2.1.2.1)(b:g∈k.2.2.2.1.2.1)(e:g.1.1=f.1.1):g.1=f.1:=by have hr:=h.2.2 f a;rw[(h.2.1 f.1.1 hr.1 hr.2.1).1 g b e];exact((h.2.1 f.1.1 hr.1 hr.2.1).1 f a rfl).symm
def VG{x:AS×AE}(h:SK B x.1)(L:Do x.1.2.2.1)(b:0<=x.2.2.2.2.2.2.2.1.2.1/\x.2.2.2.2.2.2.2.1.2.1<16)(s:x.2.2.1=1\/x.2.2.1=2)(hp:PB x.1.2.2.2.1)(ad:mM x.1.2.2.2.1 x.2.2.2.2.2.2.2.1.1)(G: ∀f∈x.1.2.2.2.1.2.1,f.1.1=x.2.2.2.2.2.2.2.1.1->Gj f.1.2.2 x.2.2.2.2.2.2.2.1.2.1=some x.2.2.2.2.2.2.2.1.2.2.1):Aq (J7 x) λr=>KL B x.1 r.1/\(r.2=0->zq x.1.2.2.2.2.2.1 x.2.2.1 x.2.2.2.1 r.1.2.2.2.2.2.1):=by
 unfold J7;refine AA (F3 h.sb) λv hv=>AJ (λb=>AB ⟨KL.refl h L,λs=>absurd s b⟩) (λN=>?_);have⟨_,l,c⟩:=hv N;refine AA Ig λE S=>AA (Cs b.1 b.2) λ_ _=>AA (Cs b.1 b.2) λ_ _=>AA aQ λv4 Z=>AJ (λb=>AB ⟨KL.refl h L,λs=>absurd s b⟩) (λO=>AB ⟨⟨l.1,l.2.1,?_,l.2.2.1⟩,λ_=>l.2.2.2.2.2.1⟩);have F:=l.2.2.2.2.2.2.2.1;have⟨_,i,f,g,p,a,d,o,J⟩:=Z O;have⟨_,_,_,_,_,_,a7,_,e,T,P,U,A,V,W,e7⟩:=l;have w:E.2=true:=by cases q:E.2<;>grind
 have y:E.1.1=x.2.2.2.2.2.2.2.1.1:=(S.1 w).2.2.2.1;have C:e.2.2.2.2.2.2.1.1=x.2.2.2.2.2.2.2.1.1:=congrArg (λz=>z.2.1.1) A;have hr:=h.ki.2.2 f (BN p);dsimp only at p a d o c;refine⟨F.1,F.2.1,F.2.2,?_⟩;have t:e.2.1=1\/e.2.1=2:=by rw[U];exact s
 have u: ∀n:Int,n≠1->n≠2->e.2.1≠n:=λn n1 n2 q=>by rcases t with D|D<;>rw[q]at D;exact n1 D;exact n2 D
 unfold KI;dsimp only;rw[l.1,a7,T,W (by rcases s with q|q<;>rw[q]<;>decide),d];have K:g.1.1=f.1.1:=by rw[o,a]
 have m:=BN p;have I:=(h.ki.2.1 f.1.1 hr.1 hr.2.1).1 f m rfl;have M:E.1=f.1:=by have⟨_,_,_,_,f',H,Q⟩:=S.1 w;rw[<-Q];exact h.ki.same m H (by rw[Q,a])
 have R:e.2.2.2.2.2.2.1.2.1=x.2.2.2.2.2.2.2.1.2.1:=congrArg (λz=>z.2.1.2.1) A;have Y:e.2.2.2.2.2.2.1.2.2.1=x.2.2.2.2.2.2.2.1.2.2.1:=congrArg (λz=>z.2.1.2.2.1) A;have X:e.2.2.2.2.2.2.1.2.2.2=x.2.2.2.2.2.2.2.1.2.2.2:=congrArg (λz=>z.2.1.2.2.2) A;refine⟨h.ki.1.app ⟨λq=>⟨V h.ki.2.1 q (by rw[C,<-y,<-a];exact hr.1) (by rw[C,<-y,<-a];exact hr.2.1),by rw[R,Y,C,<-y,<-a,<-I];exact G f m (by rw[a,y])⟩,λq=>absurd q (u 7 g! g!),λq=>absurd q (u 6 g! g!)⟩,?_,h.ki.2.2.set p K⟩;refine h.ki.2.1.change h.ki.2.2 t p (by rw[a,y,C]) (by rw[o,M,c,<-P];unfold upd;rw[R,X]) J (λj k hj q=>hp.idx p hj q) ?_;rw[P];exact kA L _
theorem B3{x:Int}:Aq (BF x) λr=>r.1=5:=by grind[BF,AB]
theorem iJ{x:Int}:Aq (BF x) λr=>r.1=5/\r.2.2.2.2=x:=by grind[BF,AB]
theorem ACt{l:List Am}{id:Int}(h:l.length<=16777216)(m:iL l id):Aq (Eg (l,id)) λr=>0<=r/\r<l.length:=by
 unfold Eg;refine AA (P:=λr=> ∃u:Int,r= .inl u/\0<=u/\u<l.length) ?_ λr hr=>?_;refine AW (λ(s:Int)=>0<=s/\s<=l.length/\ ∀(j:Nat) (t:Am),j<s->l[j]? =some t->t.1≠id) (λ(s:Int)=>((l.length:Int)-s).toNat) ⟨Ae _,o!,λj t b=>absurd b o!⟩ (λs k=>?_);obtain⟨g,p,i⟩:=k;unfold Jf;have e:=AY (x:=s+1);apply AC<;>intro d;simp only[len]at d;refine AA (AI g d) λq a=>AP (λ_=>AB ⟨s,rfl,g,d⟩) (λc=>AB ?_);dsimp only at c;rw[e];refine⟨⟨o!,o!,λj t b f=>?_⟩,o!⟩;by_cases n:(j:Int)=s;have:s.toNat=j:=o!
 rw[this]at a;rw[f]at a;have:=Bf a.1;rw[this];exact c;exact i j t o! f;obtain⟨j,t,b,f⟩:=m;have:=Cv b;simp only[len]at d;exact absurd f (i j t o! b);obtain⟨u,rfl,o⟩:=hr;exact BL (AB o)
def qp{l:List Am}{id:Int}(h:l.length<=16777216)(a:iL l id):Aq (Ca (l,id)) λr=>0<=r/\r<l.length:=by grind[Ca,AA,ACt,AB]
def aV{x:AS×Int}(h:SK B x.1)(k:Do x.1.2.2.1)(j:iL x.1.2.2.2.2.2.1 x.2):Aq (KQ x) λr=>KL B x.1 r.1/\(r.2.1=1\/r.2.1=5):=by unfold KQ;refine AA (qp h.2.1 j) λo c=>AA (AI c.1 c.2) λp _=>AA (P:=λs=>(∃u,s= .inl u/\KL B x.1 u.1)\/ ∃u,s= .inr u/\KL B x.1 u.1/\(u.2.1=1\/u.2.1=5)) ?_ λs l=>?_;refine AP (λ_=>?_) (λ_=>?_);refine AA (JC h.2.1) λq d=>AB (.inl ⟨_,rfl,rfl,LX.refl _,⟨h.1,?_,h.2.2⟩,k⟩);have:=ng x.1.2.2.2.2.2.1 x.2;have e:=h.2.1;dsimp only at*;rw[d];omega;refine AA (F3 h.sb) λt f=>AJ (λn=>?_) (λm=>?_);grind[AA,B3,AB,KL.refl];have b:=(f m).2.1.kl h u!;refine AA (Jg b.2.2.1 b.2.2.2) λv g=>AB (.inl ⟨_,rfl,b.trans g.1.kl⟩);rcases l with⟨u,rfl,a⟩|⟨u,rfl,a⟩;apply BL;refine AA (Lw a.2.2.1.1) λw i=>AB ⟨⟨a.1,a.2.1,a.2.2.1.locks i,a.2.2.2⟩,.inl rfl⟩;exact BA (AB a)
def Wc{x:AS×Int×Cq}{a:Am}{s:Int}(h:0<=s/\s<=a.2.2.2.2.1.length/\(a.2.2.2.2.1.length:Int)<=16777216):Aq (Ah (Kx x a) s) λr=>True:=by
 refine AW (λ(s:Int)=>0<=s/\s<=a.2.2.2.2.1.length/\(a.2.2.2.2.1.length:Int)<=16777216) (λ(s:Int)=>((a.2.2.2.2.1.length:Int)-s).toNat) h (λs c=>?_);unfold Kx;exact x!
def AGR{l:List Am}{i:Nat}{t:Am}(h:l[i]? =some t):t.2.2.2.2.1.length<TP l:=by
 induction l generalizing i with
 |nil=>simp at h
 |cons a r b=>
  unfold TP;rw[Bl,VT];cases i with
  |zero=>simp at h;rw[h];omega
  |succ i=>have:=b (i:=i) (by simpa using h);unfold TP at this;omega
def AHd{l:List Am}(h: ∀(i:Nat) (t:Am),l[i]? =some t->t.2.2.2.2.1.length<=4096):TP l<=l.length*4097:=by
 induction l with
 |nil=>simp[TP]
 |cons a r c=>have d:=h 0 a k!;have e:=c (λi t b=>h (i+1) t (by simpa using b));unfold TP at*;grind[List.length_cons]
def Yg.tp{l:List Am}(h:Yg l):TP l<=262208:=by have:=AHd (l:=l) (λi t a=>(h.2 i t a).1);have:=h.1;omega
def Y5{x:AS×Int×Cq}(h:x.1.2.2.2.2.2.1.length<=16777216)(d:TP x.1.2.2.2.2.2.1<=262208)(c:iL x.1.2.2.2.2.2.1 x.2.1):Aq (Jj x) λr=>True:=by unfold Jj;refine AA (qp h c) λe a=>AA (AI a.1 a.2) λf b=>?_;have:=AGR b.1;refine AA (Wc ⟨Ae _,o!⟩) λr _=>?_;grind[A9,AB]
def Tg{x:AS×Int×Int}(h:SK B x.1)(z:Do x.1.2.2.1)(A:Yg x.1.2.2.2.2.2.1)(p:x.2.1≠0)(y:iL x.1.2.2.2.2.2.1 x.2.1):Aq (Ii x) λr=>KL B x.1 r.1/\(r.2.1=x.2.2\/r.2.1=5):=by
 unfold Ii;refine AA (aM h.1) λL c=>AA (qp h.2.1 y) λM n=>AA (AI n.1 n.2) λN _=>AP (λ_=>?_) (λ_=>?_);refine AA (JC h.2.1) λO t=>AA (Lw c) λQ u=>AB ⟨⟨rfl,LX.refl _,⟨u,?_,h.2.2⟩,z⟩,.inl rfl⟩;have:=ng x.1.2.2.2.2.2.1 x.2.1;have q:=h.2.1;dsimp only at*;rw[t];omega;refine AA (F3 (h.locks c).sb) λf v=>AJ (λi=>?_) (λC=>?_);grind[AA,B3,AB,KL.refl];have j:=(v C).2.1;have o:=j.2.2.2.2.2.1;have K:=(o.2.2.1 p (by show(4:Int)≠1;decide)).2;have D:=A.tp;have b:KL B x.1 f.1:=⟨j.1,j.2.1,(j.kl (h.locks c) u!).2.2⟩
 refine AA (P:=λr=>KL B x.1 r) ?_ λr hr=>AB ⟨hr,.inl rfl⟩;refine AW (λ(s:Int×AS)=>0<=s.1/\s.1<=f.1.2.2.2.2.1.1.length/\KL B x.1 s.2/\s.2.2.2.2.2.2.1=f.1.2.2.2.2.2.1) (λs=>((f.1.2.2.2.2.1.1.length:Int)-s.1).toNat) (s:=((0:Int),f.1)) ⟨Ae _,d!,b,rfl⟩ (λs w=>?_);have⟨m,J,a,d⟩:=w;unfold SN;have I:=b.2.2.1.1.1;refine AC (λi=>?_) (λ_=>AB a);simp[len]at i;have e:=AY (x:=s.1+1);refine AA (AI m i) λR _=>AP (λ_=>?_) (λ_=>AB ⟨⟨d!,d!,a,d⟩,d!⟩);refine AA (AI m i) λS _=>AA (Y5 (by dsimp only;rw[d];exact b.2.2.1.2.1) (by dsimp only at*;rw[d];omega) (by dsimp only;rw[d];exact(o.2.2.2 p rfl))) λE _=>AA (P:=λk=>KL B x.1 k/\k.2.2.2.2.2.1=f.1.2.2.2.2.2.1) ?_ λH g=>AB ⟨⟨d!,d!,g.1,g.2⟩,d!⟩;refine AO (λ_=>?_) (λ_=>AB ⟨a,d⟩);refine AA (AI m i) λF _=>AA (UY a.2.2.1.1) λG l=>AB ⟨⟨a.1,a.2.1,a.2.2.1.locks l,a.2.2.2⟩,d⟩
end Go.Pm
namespace Go.Pm
open Go Go.Ab
set_option maxHeartbeats 400000
variable {B:Int->Prop}
def aS{x:AS×Ct}:Aq (KJ x) λr=>r=0->x.2.1=4\/x.2.1=5\/x.2.1=6\/x.2.1=7\/(0<=x.2.2.2.1/\x.2.2.2.1<16):=by unfold KJ;refine AA (P:=λv=>True) (AL (λ_=>AB trivial) (λ_=>AA (P:=λ_=>True) (AL (λ_=>AB trivial) (λ_=>AB trivial)) λ_ _=>AB trivial)) λi _=>AA (P:=λs=>(∃u,s= .inl u/\u=1)\/ ∃u,s= .inr u/\(x.2.1=4\/x.2.1=5\/x.2.1=6\/x.2.1=7\/(0<=x.2.2.2.1/\x.2.2.2.1<16))) ?_ λs c=>?_;refine AL (λ_=>?_) (λ_=>?_);refine AC (λ_=>AB (.inl ⟨_,rfl,rfl⟩)) (λ_=>AC (λ_=>AB (.inl ⟨_,rfl,rfl⟩)) (λ_=>AC (λ_=>AB (.inl ⟨_,rfl,rfl⟩)) (λe=>AC (λ_=>AB (.inl ⟨_,rfl,rfl⟩)) (λf=>AA (P:=λ_=>True) (AL (λ_=>AB trivial) (λ_=>AB trivial)) λj _=>AB (.inr ⟨_,rfl,?_⟩)))));omega;refine AA (P:=λs=>(∃u,s= .inl u/\u=1)\/ ∃u,s= .inr u/\(x.2.1=4\/x.2.1=5\/x.2.1=6\/x.2.1=7)) ?_ λs c=>?_;refine AP (λh=>?_) (λ_=>?_);refine AC (λ_=>AB (.inl ⟨_,rfl,rfl⟩)) (λ_=>AC (λ_=>AB (.inl ⟨_,rfl,rfl⟩)) (λ_=>AB (.inr ⟨_,rfl,o!⟩)));refine AA (P:=λb=>b=true->x.2.1=4\/x.2.1=5\/x.2.1=6) ?_ λk g=>?_;grind[AP,AB,AA];simp_all[AL,AB];grind[BL,AB,BA];rcases c with⟨u,rfl,d⟩|⟨u,rfl,d⟩;grind[BL,AB];apply BA;refine AO (λ_=>AB n!) (λ_=>AC (λ_=>AB n!) (λ_=>AB λ_=>d))
def Uc{x:Int×Ct}:Aq (JP x) λr=>True:=by unfold JP;refine AP (λ_=>AB trivial) (λ_=>AA (P:=λ_=>True) (AL (λ_=>AB trivial) (λ_=>AB trivial)) λv _=>AL (λ_=>AB trivial) (λ_=>AB trivial))
def Y6{x:AS×Int×Ct}(h:SK B x.1):Aq (Jk x) λr=>r=0->VK x.1/\iL x.1.2.2.2.2.2.1 x.2.1/\(x.2.2.1=4\/x.2.2.1=5\/x.2.2.1=6\/x.2.2.1=7\/(0<=x.2.2.2.2.1/\x.2.2.2.2.1<16)):=by
 unfold Jk;refine AA (CC h.sb) λv j=>AO (λ_=>AB n!) (λb=>AA (Fi h.2.1) λk e=>AC (λ_=>AB n!) (λg=>AA (AI o! e.2.1) λl _=>AJ (λ_=>AB n!) (λ_=>AA aS λm f=>AJ (λb=>AB λa=>absurd a b) (λc=>AA (IQ h.1) λn _=>AA Uc λo _=>?_))));have q:(0:Int)=0->VK x.1/\iL x.1.2.2.2.2.2.1 x.2.1/\(x.2.2.1=4\/x.2.2.1=5\/x.2.2.1=6\/x.2.2.1=7\/(0<=x.2.2.2.2.1/\x.2.2.2.2.1<16)):=λ_=>by have⟨t,i,d⟩:=e.2.2 o!;exact⟨j b,⟨_,t,i,d⟩,f c⟩
 refine AL (λ_=>?_) (λ_=>AB q);refine AJ (λ_=>?_) (λ_=>AB q);refine AO (λ_=>AB n!) (λ_=>AO (λ_=>AB n!) (λ_=>AB q))
def aU{x:AS×Int×Ct}(h:SK B x.1)(k:Do x.1.2.2.1)(n:PB x.1.2.2.2.1)(a:0<=x.2.2.2.2.1/\x.2.2.2.2.1<16):Aq (KO x) λr=>KL B x.1 r.1/\(r.2.1=1\/r.2.1=3\/r.2.1=5)/\(r.2.1=3->r.2.2.2.1=x.2.2.2.1/\ ¬mM x.1.2.2.2.1 x.2.2.2.1/\r.1=x.1):=by unfold KO;have t:=KL.refl h k;refine AA Ig λy m=>AO (λa=>AB ⟨t,.inr (.inl rfl),λ_=>⟨rfl,m.2 a n,rfl⟩⟩) (λd=>AP (λ_=>?_) (λ_=>?_));refine AA hY λz l=>AA (Cs a.1 a.2) λ_ _=>AA (Cs a.1 a.2) λ_ _=>AB ⟨⟨rfl,LX.refl _,⟨h.1,h.2.1,h.2.2.1,h.ki.1,h.ki.2.1.frames l.1 l.2,h.ki.2.2.sub l.1⟩,k⟩,(.inl rfl),λs=>absurd s (by show(1:Int)≠3;decide)⟩;refine AA (Cs a.1 a.2) λ_ _=>D5 (Cs a.1 a.2) λu o _=>AA (P:=λv:Ds=>v.1=x.2.2.2.1/\v.2.1=x.2.2.2.2.1/\v.2.2.1=u) (AL (λ_=>AB ⟨rfl,rfl,rfl⟩) (λ_=>AB ⟨rfl,rfl,rfl⟩)) λA b=>?_;have⟨_,_,j,i,f,p,c⟩:=m.1 d;refine AA (VG h k (by dsimp only;rw[b.2.1];exact a) (.inl rfl) n (by dsimp only;rw[b.1];exact j) λg q e=>?_) λC w=>?_;dsimp only at e⊢;rw[b.2.1,b.2.2,h.ki.same p q (by rw[e,b.1,c,i]),c];exact o;grind[AA,AJ,B3,AB]
theorem cy{x:List Int}:Aq (LW x) λr=>True:=by unfold LW;refine AP (λ_=>AB trivial) (λa=>?_);simp only[len]at a;exact AA (AI (Ae _)) λ_ _=>AB trivial
def iD{x:AS×Int}(h:SK B x.1):Aq (NV x) λr=>True:=by unfold NV;refine AA (LM h.1) λa _=>?_;grind[AA,cy,AB]
def jI{x:AS×Int×Ct}(h:SK B x.1)(i:Do x.1.2.2.1):Aq (Ox x) λr=>KL B x.1 r.1/\(r.2.1=3->r.2.2.2.1=x.2.2.2.1/\ ¬mM x.1.2.2.2.1 x.2.2.2.1/\r.1.2.2.2.1=x.1.2.2.2.1)/\(r.2.1=2\/r.2.1=3->r.1.2.2.2.2.2.1=x.1.2.2.2.2.2.1):=by
 unfold Ox;have q:=KL.refl h i;refine AA (Y6 h) λX I=>AJ (λ_=>?_) (λd=>?_);exact AA B3 λY V=>AB ⟨q,λd=>by dsimp only at d;omega,λ_=>rfl⟩;obtain⟨u,s,F⟩:=I d;have G:x.2.1≠0:=by obtain⟨j,t,M,W⟩:=s;have:=(u.2.2.2.2.2.1.2 j t M).2.2;omega
 refine AP (λ_=>?_) (λT=>?_);exact AA (aV h i s) λZ w=>AB ⟨w.1,λd=>by have:=w.2;omega,λd=>by have:=w.2;omega⟩;refine AP (λ_=>?_) (λU=>?_);refine AA (Tg h i u.2.2.2.2.2.1 G s) λv3 E=>AB ?_;have y:=E.2;dsimp only at y;exact⟨E.1,λd=>o!,λd=>o!⟩;refine AA (P:=λb=>b=true↔x.2.2.1=6\/x.2.2.1=7) ?_ λv4 J=>?_;refine AP (λp=>AB (by simp[p])) (λp=>AB (by simp[p]));refine AL (λ_=>?_) (λk=>?_);refine AA fT λv5 z=>AA (P:=λv=>v.2=0->v.1.length<=64) ?_ λv7 K=>?_;exact AL (λ_=>AA fR λv6 p=>AB p) (λ_=>AB z);refine AJ (λ_=>?_) (λd=>AB ⟨⟨rfl,LX.refl _,⟨h.1,?_,h.2.2⟩,i⟩,λd=>absurd d (by show(1:Int)≠3;decide),λd=>absurd d (by show¬((1:Int)=2\/(1:Int)=3);decide)⟩);exact AA B3 λS L=>AB ⟨q,λd=>by dsimp only at d;omega,λ_=>rfl⟩;have:=K d;dsimp only;omega;have g:0<=x.2.2.2.2.1/\x.2.2.2.2.1<16:=by
  have: ¬(x.2.2.1=6\/x.2.2.1=7):=λh=>by rw[J.2 h]at k;cases k
  omega
 refine AA Uc λv9 _=>AA (Yt h.1) λC l=>AJ (λ_=>?_) (λ_=>?_);exact AA B3 λS L=>AB ⟨q,λd=>by dsimp only at d;omega,λ_=>rfl⟩;have f:=h.locks l;have H: ∀m,KL B (x.1.1,(x.1.2.1,(x.1.2.2.1,(x.1.2.2.2.1,(C.1,x.1.2.2.2.2.2))))) m->KL B x.1 m:=λm A=>⟨A.1,A.2.1,A.2.2⟩
 refine AL (λ_=>?_) (λ_=>?_);refine AA (aU f i u.2.2.2.1 g) λN e=>AP (λz=>AB ⟨q,λd=>by dsimp only at d;omega,λ_=>rfl⟩) (λ_=>AB ⟨H _ e.1,λd=>?_,λd=>?_⟩);obtain⟨a,b,c⟩:=e.2.2 d;exact⟨a,b,by rw[c]⟩;have D:=e.2.1;obtain⟨a,b,c⟩:=e.2.2 o!;rw[c];refine AA (cj l) λO _=>AC (λ_=>?_) (λ_=>?_);refine AA (Tg f i u.2.2.2.2.2.1 G s) λQ n=>?_;have o:=n.2;dsimp only at o;exact AP (λz=>AB ⟨q,λd=>by dsimp only at d;omega,λ_=>rfl⟩) (λ_=>AB ⟨H _ n.1,λd=>o!,λd=>o!⟩);exact AA (iD f) λR _=>AB ⟨⟨rfl,LX.refl _,f,i⟩,λd=>absurd d (by show(2:Int)≠3;decide),λ_=>rfl⟩
end Go.Pm
