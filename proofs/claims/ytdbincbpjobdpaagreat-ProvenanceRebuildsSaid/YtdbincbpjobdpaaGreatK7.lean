import Derived.Test.YtdbincbpjobdpaaGreatK6
import Derived.KernelRfl
noncomputable section
set_option linter.all false
set_option maxHeartbeats 1000000
open Option renaming some->Y
open List renaming length->W
open Go renaming Ψ->S
open Bool renaming false->X
open Bool renaming true->E
open Option renaming none->D
open Go renaming Ω->Z
open Option renaming some->δ,none->ε,bind->σ
open Bool renaming true->ζ,false->η
open List renaming length->θ,replicate->ς
open Go.IntKind renaming wrap->ι
open BitVec renaming ofInt->κ,toNat->π
open Sum renaming elim->ν
open Int renaming toNat->ο
open Decidable renaming decide->τ
open _root_ renaming Int->V,List->U,Nat->Q,Bool->R,True->O
open Go.Ab renaming len->T
namespace Go.Pm
open Go Go.Ab
def Zh(c:BitVec 32):BitVec 32:=if c.getLsbD 0=E then(c>>>1)^^^2197175160#32 else c>>>1
def oJ:Q->BitVec 32->BitVec 32
 |0,c=>c
 |n+1,c=>Zh (oJ n c)
def kL(c:BitVec 32)(b:UInt8):BitVec 32:=oJ 8 (c^^^BitVec.ofNat 32 b.toNat)
def AGw(s:Bd):BitVec 32:=4294967295#32^^^s.foldl kL 4294967295#32
def P7(s:Bd):V:=((AGw s).toNat:V)
def jX{a b:BitVec 32}(h:a^^^b=0#32):a=b:=t!
def ADu(a b:BitVec 32):Zh (a^^^b)=Zh a^^^Zh b:=by
 unfold Zh;rw[BitVec.getLsbD_xor,BitVec.ushiftRight_xor_distrib];cases a.getLsbD 0<;>cases b.getLsbD 0<;>simp;grind;grind;have:a>>>1^^^2197175160#32^^^(b>>>1^^^2197175160#32)=(a>>>1^^^b>>>1)^^^(2197175160#32^^^2197175160#32):=by ac_rfl
 grind
theorem yI:∀n(a b:BitVec 32),oJ n (a^^^b)=oJ n a^^^oJ n b
 |0,a,b=>rfl
 |n+1,a,b=>by rw[oJ,oJ,oJ,yI n,ADu]
def AB1{c}(h:Zh c=0#32):c=0#32:=by
 unfold Zh at h;by_cases b:c.getLsbD 0=E;rw[C! b]at h;have a:(c>>>1).getLsbD 31=(2197175160#32).getLsbD 31:=by rw[(jX h)]
 rw[BitVec.getLsbD_ushiftRight]at a;simp_all;rw[D! b]at h;apply qC;intro i d;cases i with
 |zero=>grind
 |succ j=>
  have a:(c>>>1).getLsbD j=(0#32).getLsbD j:=by rw[h]
  grind
def zt:∀n{c},oJ n c=0#32->c=0#32
 |0,c,h=>h
 |n+1,c,h=>zt n (AB1 h)
def ACb{n}{a b}(h:oJ n a=oJ n b):a=b:=by refine jX (zt n ?_);rw[yI,h,c7]
def AGq{a b}{x}(h:kL a x=kL b x):a=b:=by have c:=ACb h;simp_all
def AGr{a}{x y}(h:kL a x=kL a y):x=y:=by
 have:a^^^(a^^^BitVec.ofNat 32 x.toNat)=a^^^(a^^^BitVec.ofNat 32 y.toNat):=by rw[(ACb h)]
 rw[<-ly,c7,lz,<-ly,c7,lz]at this;have b:=E! π this;rw[cz,cz]at b;have c:=x.toNat_lt;have d:=y.toNat_lt;exact UInt8.toNat_inj.1 o!
def AEz:∀(s:Bd){a b},s.foldl kL a=s.foldl kL b->a=b
 |[],a,b,h=>h
 |x::r,a,b,h=>AGq (AEz r h)
def AGx{u v:Bd}{x y:UInt8}(h:P7 (u++x::v)=P7 (u++y::v)):x=y:=by
 unfold P7 at h;have a:AGw (u++x::v)=AGw (u++y::v):=BitVec.eq_of_toNat_eq o!;unfold AGw at a;rw[Ye,Ye,Yf,Yf]at a;have b:∀p q:BitVec 32,4294967295#32^^^p=4294967295#32^^^q->p=q:=λp q c=>by
  have:4294967295#32^^^(4294967295#32^^^p)=4294967295#32^^^(4294967295#32^^^q):=by rw[c]
  rwa[<-ly,c7,lz,<-ly,c7,lz]at this
 exact AGr (AEz v (b _ _ a))
def aU(s:Bd):0<=P7 s/\P7 s<4294967296:=by unfold P7;omega
theorem bvI(c:BitVec 32):κ 32 (c.toNat:V)=c:=k!
theorem w32(c:BitVec 32):ι .u32 (c.toNat:V)=(c.toNat:V):=by rw[xX];omega
theorem fdN(c:BitVec 32)(k:Q)(a:k<=32):Int.fdiv (c.toNat:V) (2^(min (ο (k:V)) 32))=((c>>>k).toNat:V):=by rw[show min (ο (k:V)) 32=k by omega,mA _ (by exact_mod_cast BU (2^k)),BitVec.toNat_ushiftRight,Nat.shiftRight_eq_div_pow];grind
theorem fd1(c:BitVec 32):Int.fdiv (c.toNat:V) (2^(min (ο 1) 32))=((c>>>1).toNat:V):=by grind[fdN]
def fd4(c:BitVec 32):Int.fdiv (c.toNat:V) (2^(min (ο 4) 32))=((c>>>4).toNat:V):=by grind[fdN]
theorem AHO(c:BitVec 32):((ι .u32 (((π ((κ 32 (c.toNat:V))&&&(κ 32 1))):Q):V))==1)=c.getLsbD 0:=by grind[bvI,w32,BitVec.toNat_and,κ]
def AIU(c:BitVec 32):(bif ((ι .u32 (((π ((κ 32 (c.toNat:V))&&&(κ 32 1))):Q):V))==1)then
     Y (ι .u32 (((π ((κ 32 (Int.fdiv (c.toNat:V) (2^(min (ο 1) 32))))^^^(κ 32 2197175160))):Q):V))
    else
    Y (Int.fdiv (c.toNat:V) (2^(min (ο 1) 32))):Z V)=Y ((Zh c).toNat:V):=by grind[AHO,fd1,bvI,w32,Zh]
def AJk(c:BitVec 32):Ag IU ((c.toNat:V),0)=Y ((oJ 8 c).toNat:V):=by
 have key:Ao (Ag IU ((c.toNat:V),0)) λr=>r=((oJ 8 c).toNat:V):=by refine AW (λs=>0<=s.2/\s.2<=8/\s.1=((oJ s.2.toNat c).toNat:V)) (λs=>(8-s.2).toNat) ⟨Ae _,d!,rfl⟩ ?_;rintro⟨g,a⟩ ⟨e,f,b⟩;dsimp only at e f b;subst b;refine AC (λd=>?_) (λd=>AB (by rw[show a.toNat=8 by omega]));rw[AIU,AD,AY];refine AB ⟨⟨o!,o!,?_⟩,o!⟩;rw[show(a+1).toNat=a.toNat+1 by omega];rfl
 obtain⟨r,hr,rfl⟩:=key;exact hr
def AEb(c:BitVec 32)(b:UInt8):ι .u32 (((π ((κ 32 (c.toNat:V))^^^(κ 32 (ι .u32 (b.toNat:V))))):Q):V)=((c^^^BitVec.ofNat 32 b.toNat).toNat:V):=by grind[ι,xX,bvI,w32]
def AFw{x:Bd}{i:V}(a:0<=i)(c:i<W x):∃b:UInt8,six x i=Y (b.toNat:V)/\x.take (i+1).toNat=x.take (ο i)++[b]:=by obtain⟨k,rfl⟩:=Ef a;refine⟨x[k],?_,?_⟩;grind[six];simp_all
def xh{x:Bd}(h:θ x<=2199023255552):FF x=δ (P7 x):=by
 have key:Ao (Ag (IT x) (4294967295,0)) λr=>r=((x.foldl kL 4294967295#32).toNat:V):=by refine AW (λ(s:V×V)=>0<=s.2/\s.2<=θ x/\s.1=(((x.take s.2.toNat).foldl kL 4294967295#32).toNat:V)) (λs=>((θ x:V)-s.2).toNat) ⟨Ae _,d!,rfl⟩ ?_;rintro⟨f,g⟩ ⟨c,e,d⟩;dsimp only at c e d;subst d;unfold IT;simp only[T];refine AC (λa=>?_) (λa=>AB (by rw[BN o!]));have⟨b,q1,q2⟩:=AFw c a;rw[q1,AD,AEb,AJk,AD,AY];refine AB ⟨⟨o!,o!,?_⟩,o!⟩;rw[q2,Ye];rfl
 obtain⟨r,hr,rfl⟩:=key;unfold FF;rw[hr,AD,bvI];rw[show(κ 32 (if(η=ζ)then(-1)else(if(η=ζ)then((2^(32-1))-1)else((2^32)-1))))=4294967295#32 by decide,w32];rfl
def ALE{d:BitVec 32}(b:d.getLsbD 0=X)(c:d.getLsbD 1=X)(f:d.getLsbD 2=X)(g:d.getLsbD 3=X):oJ 4 d=d>>>4:=by
 have st:∀e:BitVec 32,e.getLsbD 0=X->Zh e=e>>>1:=λe a=>by unfold Zh;rw[D! (by rw[a];decide)]
 show Zh (Zh (Zh (Zh d)))=_;grind
def AJH(c:BitVec 32):(c>>>4)^^^oJ 4 (c&&&15#32)=oJ 4 c:=by
 have d:c=(c&&& ~~~15#32)^^^(c&&&15#32):=by apply qC;intro i a;rw[BitVec.getLsbD_xor,BitVec.getLsbD_and,BitVec.getLsbD_and,BitVec.getLsbD_not];grind
 have e:oJ 4 (c&&& ~~~15#32)=c>>>4:=by
  have z:∀i,i<4->(c&&& ~~~15#32).getLsbD i=X:=λi a=>by
   have:i=0\/i=1\/i=2\/i=3:=o!
   grind
  rw[ALE (z 0 g!) (z 1 g!) (z 2 g!) (z 3 g!)];apply qC;intro i a;have b:(15#32).getLsbD (4+i)=X:=by show(15#32).toNat.testBit (4+i)=X;grind
  grind
 grind[yI]
def AJg(c:BitVec 32):Ag Ly ((c.toNat:V),0)=Y ((oJ 4 c).toNat:V):=by
 have key:Ao (Ag Ly ((c.toNat:V),0)) λr=>r=((oJ 4 c).toNat:V):=by refine AW (λs=>0<=s.2/\s.2<=4/\s.1=((oJ s.2.toNat c).toNat:V)) (λs=>(4-s.2).toNat) ⟨Ae _,d!,rfl⟩ ?_;rintro⟨g,a⟩ ⟨e,f,b⟩;dsimp only at e f b;subst b;refine AC (λd=>?_) (λd=>AB (by rw[show a.toNat=4 by omega]));rw[AIU,AD,AY];refine AB ⟨⟨o!,o!,?_⟩,o!⟩;rw[show(a+1).toNat=a.toNat+1 by omega];rfl
 obtain⟨r,hr,rfl⟩:=key;exact hr
def AEB(t:Fin (15+1)->(Ty.int IntKind.u32).D):Prop:=∀j:Fin 16,t j=((oJ 4 (BitVec.ofNat 32 j.val)).toNat:V)
def AKe:Ao (LZ ()) AEB:=by refine AA (P:=AEB) ?_ λr hr=>AB hr;refine AW (λs=>0<=s.1/\s.1<=16/\∀j:Fin 16,(j.val:V)<s.1->s.2 j=((oJ 4 (BitVec.ofNat 32 j.val)).toNat:V)) (λs=>(16-s.1).toNat) ⟨Ae _,g!,λj b=>O! b d!⟩ ?_;rintro⟨h,i⟩ ⟨c,g,d⟩;refine AC (λa=>?_) (λa=>AB λj=>d j (by have:=j.isLt;omega));obtain⟨k,rfl⟩:=Ef c;rw[(by grind[xX,BitVec.toNat_ofNat]:ι .u32 (k:V)=((BitVec.ofNat 32 k).toNat:V)),AJg,AD];refine AA (Dd o! o!) λl e=>AA (Dd o! o!) λm f=>AB ?_;grind[AY,Xe]
def AF6{t:Fin (15+1)->(Ty.int IntKind.u32).D}(b:AEB t)(c:BitVec 32):Gy t (ι .u32 (((π ((κ 32 (c.toNat:V))&&&(κ 32 15))):Q):V))=Y ((oJ 4 (c&&&15#32)).toNat:V):=by
 rw[bvI,show κ 32 15=15#32 by decide,w32];have a:(c&&&15#32).toNat<16:=by exact Nat.lt_succ_of_le Nat.and_le_right
 unfold Gy;rw[dif_pos o!];refine E! Y ((b ⟨(c&&&15#32).toNat,a⟩).trans ?_);grind
def AKO(c:BitVec 32):ι .u32 (((π ((κ 32 (Int.fdiv (c.toNat:V) (2^(min (ο 4) 32))))^^^(κ 32 ((oJ 4 (c&&&15#32)).toNat:V)))):Q):V)=((oJ 4 c).toNat:V):=by rw[fd4,bvI,bvI,AJH,w32]
def ACa:∀m n c,oJ m (oJ n c)=oJ (m+n) c
 |0,n,c=>by rw[oJ,DY]
 |m+1,n,c=>by rw[oJ,ACa m n,Nat.succ_add];rfl
def yT{x:Bd}(h:θ x<=2199023255552):O5 x=δ (P7 x):=by
 unfold O5;have⟨t,f,a⟩:=AKe;rw[f,AD];have key:Ao (Ag (VQ x t) (4294967295,0)) λr=>r=((x.foldl kL 4294967295#32).toNat:V):=by refine AW (λ(s:V×V)=>0<=s.2/\s.2<=θ x/\s.1=(((x.take s.2.toNat).foldl kL 4294967295#32).toNat:V)) (λs=>((θ x:V)-s.2).toNat) ⟨Ae _,d!,rfl⟩ ?_;rintro⟨i,j⟩ ⟨d,g,e⟩;dsimp only at d g e;subst e;unfold VQ;simp only[T];refine AC (λc=>?_) (λc=>AB (by rw[BN o!]));have⟨b,q1,q2⟩:=AFw d c;rw[q1,AD,AEb,AF6 a,AD,AD,AKO,AF6 a,AD,AD,AKO,AY];refine AB ⟨⟨o!,o!,?_⟩,o!⟩;rw[q2,Ye,ACa];rfl
 obtain⟨r,hr,rfl⟩:=key;rw[hr,AD,bvI];rw[show(κ 32 (if(η=ζ)then(-1)else(if(η=ζ)then((2^(32-1))-1)else((2^32)-1))))=4294967295#32 by decide,w32];rfl
def kD(n:Q):Bd:=ς n 0
def XI(c:Ck):Bd:=C6 (if c.1=E then(W c.2:V)else 255) 1++(c.2++kD (12-W c.2))
def cl(a:GG 16 Ck)(i:Q):Ck:=(Gy a i).getD (X,[])
def PV(a:GG 16 Ck)(k:Q):Bd:=(List.range k).flatMap λi=>XI (cl a i)
def LV(x:AQ):Bd:=C6 x.2.1 8++(C6 x.1 4++(PV x.2.2 16++kD 24))
def IM(x:AQ):Bd:=LV x++(C6 (P7 (LV x)) 4++C6 x.2.1 8)
def nL{a}{i:Q}(h:i<16):Gy a (i:V)=Y (cl a i)/\cl a i=a ⟨i,h⟩:=by
 have e:Gy a (i:V)=Y (a ⟨i,h⟩):=by unfold Gy;rw[dif_pos o!];rfl
 unfold cl;rw[e];exact⟨rfl,rfl⟩
theorem RH(a:GG 16 Ck)(k:Q):PV a (k+1)=PV a k++XI (cl a k):=by unfold PV;rw[List.range_succ,Yd,Ih,qN,DT]
def eE{c:Ck}(h:W c.2<=12):(XI c).length=13:=by unfold XI kD;rw[AZ,AZ,Ay,Hh];omega
def Hg.cl{x}(h:Hg x)(i:Q):G6 (cl x.2.2 i):=by rcases Az i 16 with a|a;rw[(nL a).2];exact(h.2.2.2.2 _).1;unfold Go.Pm.cl Gy;rw[dif_neg o!];exact⟨g!,.inr rfl⟩
theorem JX{x:AQ}(h:Hg x):∀k:Q,(PV x.2.2 k).length=13*k
 |0=>rfl
 |k+1=>by rw[RH,AZ,JX h k,eE (h.cl k).1];omega
def HC{x}(h:Hg x):(LV x).length=244:=by unfold LV kD;simp only[AZ,Ay,JX h,Hh]
theorem eG{x}(h:Hg x):(IM x).length=256:=by unfold IM;simp only[AZ,Ay,HC h]
def VL{x}:(IM x).take 8=C6 x.2.1 8:=by unfold IM LV;rw[A2,Fe (Ay _ _)]
def pF{x}(h:Hg x):(IM x).drop 248=C6 x.2.1 8:=by unfold IM;rw[<-A2,mG (by rw[AZ,HC h,Ay])]
def nI(n:Q):E5 (ς n 0)=kD n:=by unfold E5 kD;rw[List.map_replicate];rfl
def yv{x:V}(h:0<=x/\x<=16777216):HE x=Y (kD (ο x)):=by unfold HE Go.Ab.mk;rw[C! ⟨h.1,Ae _,h.2⟩,AD,nI]
def oZ{s:Bd}{n k:V}(h:W s<=1099511627776)(a:1<=k/\k<=8):Ao (An (s,n,k)) λr=>r=s++C6 n (ο k):=⟨_,IF h a.1 a.2,rfl⟩
def tY{x}(h:Hg x):D1 x=Y 0:=by have⟨a,g,c⟩:=Mg (x:=x);have⟨b,i,d⟩:=OY (x:=x);have e:a=E:=c.2 ⟨h.1,h.2.1,h.2.2.1,h.2.2.2.1⟩;have f:b=E:=d.2 h.2.2.2.2;unfold D1;rw[g,e,AD,i,f];rfl
theorem Ym{x}(h:Hg x):DN x=Y (IM x,0):=by
 suffices g:Ao (DN x) λr=>r=(IM x,0) by obtain⟨r,hr,rfl⟩:=g;exact hr
 unfold DN;rw[tY h,AD];refine AL (O! rfl ·) λ_=>AA (oZ g! g!) λL p=>AA (oZ (by rw[p];simp[Ay]) g!) λG z=>?_;have w:G=C6 x.2.1 8++C6 x.1 4:=by rw[z,p];rfl
 refine AA (P:=λr=>r=C6 x.2.1 8++(C6 x.1 4++PV x.2.2 16)) ?_ λf d=>?_
 ·refine CQ (λs=>0<=s.2/\s.2<=16/\s.1=C6 x.2.1 8++(C6 x.1 4++PV x.2.2 s.2.toNat)) (λs=>(16-s.2).toNat) ⟨Ae _,u!,by rw[w];simp[PV]⟩ ?_;rintro⟨s,i⟩ ⟨u,C,g⟩;dsimp only at u C g;subst g;unfold SE;dsimp only;refine AC (λb=>?_) (λb=>k? (by rw[show i.toNat=16 by omega]));have⟨t,K⟩:=nL (a:=x.2.2) (i:=i.toNat) o!;rw[Ig u]at t;have b:=(h.cl i.toNat).1;simp only[t,AD,AY (x:=i+1)];have J:(C6 x.2.1 8++(C6 x.1 4++PV x.2.2 i.toNat)).length<=300:=by simp only[AZ,Ay,JX h];omega
  refine AA (P:=λv=>v=if(cl x.2.2 i.toNat).1=E then((cl x.2.2 i.toNat).2.length:V)else 255) ?_ λM A=>?_;exact AK (λb=>AB (C! b).symm) (λb=>AB (D! (by rw[b];decide)).symm);refine AA (oZ o! g!) λN q=>?_;have y:wi (12-T (cl x.2.2 i.toNat).2)=((12-(cl x.2.2 i.toNat).2.length:Q):V):=by rw[AY i!];simp only[T];omega
  rw[y,yv o!,AD,CO];refine AA (CM (by simp only[kD,Hh];omega)) λn c=>?_;have D_:W n<=24:=by rw[c.2];simp only[kD,Hh];omega
  refine AA (CM (by rw[q,AZ,Ay];simp only[Int.reduceToNat];omega)) λF k=>y! ⟨d!,d!,?_⟩ d!
  dsimp only;rw[k.1,c.1,q,A,show(i+1).toNat=i.toNat+1 by omega,RH];simp only[XI,A2,Int.reduceToNat]
 have E_:W f=220:=by rw[d];simp only[AZ,Ay,JX h]
 rw[show wi (244-T f)=24 by rw[AY i!];simp only[T];omega,yv g!,AD];refine AA (CM (by simp only[kD,Hh,Int.reduceToNat];omega)) λo l=>?_;have j:o=LV x:=by rw[l.1,d];simp only[LV,A2,Int.reduceToNat]
 rw[j,xh (by rw[HC h];decide),AD];have B:=aU (LV x);rw[AY];refine AA (oZ (by rw[HC h];decide) g!) λH e=>AA (oZ (by rw[e,AZ,HC h,Ay];decide) g!) λI m=>AB ?_;rw[m,e];simp only[IM,A2,Int.reduceToNat]
def ADC{c d}(e:G6 c)(f:G6 d)(h:XI c=XI d):c=d:=by obtain⟨g,l⟩:=c;obtain⟨i,m⟩:=d;obtain⟨j,b⟩:=Eg h (by rw[Ay,Ay]);have l1:=e.1;have l2:=f.1;dsimp only at l1 l2;have a:=YU (k:=1) g! ⟨λ_=>by dsimp only;split<;>omega,by dsimp only;split<;>omega,by dsimp only;split<;>omega⟩ ⟨λ_=>by dsimp only;split<;>omega,by dsimp only;split<;>omega,by dsimp only;split<;>omega⟩ j;dsimp only at a b;cases g<;>cases i;have:=e.2;have:=f.2;simp_all;exfalso;simp at a;omega;exfalso;simp at a;omega;simp at a;exact DZ rfl (Eg b o!).1
def uM{x y}(a:Hg x)(b:Hg y):∀k:Q,PV x.2.2 k=PV y.2.2 k->∀i,i<k->cl x.2.2 i=cl y.2.2 i
 |0,_=>λi c=>O! c o!
 |k+1,h=>by rw[RH,RH]at h;obtain⟨d,e⟩:=Eg h (by rw[JX a,JX b]);intro i c;by_cases f:i=k;subst f;exact ADC (a.cl i) (b.cl i) e;exact uM a b k d i o!
theorem AEt{x y:AQ}(a:Hg x)(b:Hg y)(h:IM x=IM y):x=y:=by obtain⟨h,_⟩:=Eg h (by rw[HC a,HC b]);obtain⟨c,h⟩:=Eg h (by rw[Ay,Ay]);obtain⟨d,h⟩:=Eg h (by rw[Ay,Ay]);obtain⟨e,_⟩:=Eg h (by rw[JX a,JX b]);have f:=a.1;have g:=a.2.1;have j:=a.2.2.1;have k:=a.2.2.2.1;have l:=b.1;have m:=b.2.1;have n:=b.2.2.1;have o:=b.2.2.2.1;refine DZ (YU (by decide) ⟨λ_=>by omega,by omega,by omega⟩ ⟨λ_=>by omega,by omega,by omega⟩ d) (DZ (YU (by decide) ⟨λ_=>by omega,by omega,by omega⟩ ⟨λ_=>by omega,by omega,by omega⟩ c) (funext λi=>?_));have:=uM a b 16 e i.val i.isLt;rw[(nL i.isLt).2,(nL i.isLt).2]at this;exact this
def vI{s:Bd}{n k:V}(h:W s<=1099511627776)(a:1<=k/\k<=8):O4 (s,n,k)=Y (s++C6 n (ο k)):=by grind[O4]
theorem ABb{n:V}(h:0<=n/\n<=8000):LO ([0],n)=Y (kD (ο n)):=by unfold LO;dsimp only;rw[G! h.1,G! h.2];rfl
theorem ABk{n:V}{k:Q}(hn:0<=n)(h:n<256^k)(a:n<9223372036854775808):rd (C6 n k)=n:=by unfold rd;grind[tO,Int.emod_eq_of_lt,AY]
def AHT{b:Bd}{c:Ck}(h:W b<=1000)(i:W c.2<=12):Kn b c=Y (b++XI c):=by
 suffices e:Ao (Kn b c) λr=>r=b++XI c by obtain⟨r,hr,rfl⟩:=e;exact hr
 unfold Kn;refine AA (P:=λv=>v=if c.1=E then(W c.2:V)else 255) ?_ λj g=>?_;simp_all[AK,AB];rw[vI o! g!,AD];refine AA (CM (by rw[AZ,Ay];simp[Int.reduceToNat];omega)) λk d=>?_;rw[AY b!,ABb b!,AD];rw[(by simp only[T];omega:(12-T c.2).toNat=12-W c.2)];refine AA (CM (by rw[d.2,AZ,Ay];simp[kD,Hh,Int.reduceToNat];omega)) λf a=>AB ?_;grind[XI,t?,Int.reduceToNat]
def AAQ{x:V}(h:0<=x/\x<64):IP x=Y E:=by grind[IP]
def ADh{x}(h:Hg x):W6 x=Y E:=by unfold W6;rw[AAQ ⟨h.1,h.2.1⟩,AD,G! (show x.2.1>=0 from h.2.2.1),G! h.2.2.2.1];rfl
def AFb{x}(h:Hg x):VW x=Y E:=by
 suffices e:Ao (VW x) λr=>r=E by obtain⟨r,hr,rfl⟩:=e;exact hr
 unfold VW;refine AA (P:=λr=>r=.inr ()) ?_ λr hr=>by rw[hr];exact A0 (AB rfl)
 refine CQ (λs=>0<=s/\s<=16) (λs=>(16-s).toNat) ⟨Ae _,g!⟩ (λs d=>?_);have⟨g,k⟩:=d;unfold jS;refine AC (λa=>?_) (λ_=>k? rfl);have i:Ao (Y (Step.next (wi (s+1))):Z (Step V (R⊕Unit))) (MX (λs=>0<=s/\s<=16) (λs=>(16-s).toNat) (16-s).toNat λr=>r=.inr ()):=by grind[AY,y!]
 refine AA (Dd g a) λv f=>?_;have b:=h.2.2.2.2 ⟨s.toNat,o!⟩;rw[<-f]at b;refine AC (λa=>O! a (by have:=b.1.1;simp[T];omega)) (λ_=>AO (λc=>?_) (λj=>?_));refine AL (λhn=>O! (b.1.2.resolve_left (by rw[c];decide)) hn) (λ_=>AK (λa=>by rw[c]at a;cases a) (λ_=>i));simp_all[AK,AP]
def mZ{x}(h:Hg x):Nb x=Y (IM x,0):=by
 suffices c:Ao (Nb x) λr=>r=(IM x,0) by obtain⟨r,hr,rfl⟩:=c;exact hr
 unfold Nb;rw[ADh h,AD,AFb h,AD,By,A!,A!,vI g! g!,AD,vI (by rw[B7,Ay];decide) g!,AD];refine AA (P:=λr=>r=C6 x.2.1 8++(C6 x.1 4++PV x.2.2 16)) ?_ λb g=>?_
 ·refine CQ (λs=>0<=s.1/\s.1<=16/\s.2=C6 x.2.1 8++(C6 x.1 4++PV x.2.2 s.1.toNat)) (λs=>(16-s.1).toNat) ⟨Ae _,u!,by simp[PV]⟩ ?_;rintro⟨i,s⟩ ⟨f,m,c⟩;dsimp only at f m c;subst c;unfold eV;dsimp only;refine AC (λk=>?_) (λk=>k? (by rw[show i.toNat=16 by omega]));have⟨e,o⟩:=nL (a:=x.2.2) (i:=i.toNat) o!;rw[Ig f]at e;rw[e,AD,AHT (by simp[AZ,Ay,JX h];omega) (h.cl i.toNat).1,AD,AY (x:=i+1)];refine y! ⟨d!,d!,?_⟩ d!
  dsimp only;rw[show(i+1).toNat=i.toNat+1 by omega,RH];simp[A2]
 have n:W b=220:=by grind[n?,Ay,JX]
 rw[show wi (244-T b)=24 by rw[AY b!];simp[T];omega,ABb g!,AD];refine AA (CM (by simp[kD,Hh,Int.reduceToNat];omega)) λd j=>?_;rw[(by grind[LV,t?,Int.reduceToNat]:d=LV x),yT (by rw[HC h];decide),AD];have l:=aU (LV x);rw[AY,vI (by rw[HC h];decide) g!,AD,vI (by rw[AZ,HC h,Ay];decide) g!,AD];grind[AB,IM,t?,Int.reduceToNat]
def uN(a:GG 16 Ck)(i:Q):∀k:Q,i<=k->∃r,PV a k=PV a i++r
 |0,h=>⟨[],by rw[show i=0 by omega];rfl⟩
 |k+1,h=>by by_cases e:i=k+1;exact⟨[],by rw[e,DT]⟩;obtain⟨r,hr⟩:=uN a i k o!;exact⟨r++XI (cl a k),by rw[RH,hr,A2]⟩
def wb{x}(h:Hg x){i:Q}(a:i<16):∃A r,IM x=A++(XI (cl x.2.2 i)++r)/\W A=12+13*i:=by have⟨r,hr⟩:=uN x.2.2 (i+1) 16 o!;refine⟨C6 x.2.1 8++(C6 x.1 4++PV x.2.2 i),r++(kD 24++(C6 (P7 (LV x)) 4++C6 x.2.1 8)),?_,by simp[AZ,Ay,JX h];omega⟩;grind[IM,LV,RH,t?]
def ACB{x a:GG 16 Ck}{i:V}{c:Ck}(h:∀j:Fin 16,a j=if(j.val:V)<i then x j else(X,[]))(e:0<=i/\i<16)(d:∀b,x ⟨ο i,b⟩=c):∀j:Fin 16,Xe a i c j=if(j.val:V)<i+1 then x j else(X,[]):=by grind[Xe,Fin.ext]
def zK{x a:GG 16 Ck}{i:V}(h:∀j:Fin 16,a j=if(j.val:V)<i then x j else(X,[]))(d:0<=i/\i<16)(c:∀b,x ⟨ο i,b⟩=(X,[])):∀j:Fin 16,a j=if(j.val:V)<i+1 then x j else(X,[]):=by grind[Fin.ext]
def yb{a t:Bd}{n k:V}(h:(W a:V)+W t<=2199023255552)(b:1<=k)(d:k<=8)(e:k<=W t)(g:t.take (ο k)=C6 n (ο k))(hn:0<=n)(f:n<256^ο k)(c:n<9223372036854775808):HO (a++t,(W a:V),k)=Y n:=by grind[HO,YV,p?,ABk]
def AHa{x}(h:Hg x):XJ (IM x)=Y (x,E):=by
 suffices C:Ao (XJ (IM x)) λr=>r=(x,E) by obtain⟨r,hr,rfl⟩:=C;exact hr
 have l:=eG h;have O:=h.1;have S:=h.2.1;have Q:=h.2.2.1;have T:=h.2.2.2.1;have q1:HO (IM x,8,4)=Y x.1:=by have:=yb (a:=C6 x.2.1 8) (t:=C6 x.1 4++(PV x.2.2 16++(kD 24++(C6 (P7 (LV x)) 4++C6 x.2.1 8)))) (n:=x.1) (k:=4) (by simp only[AZ,Ay,JX h,kD,Hh];omega) g! g! (by simp[AZ,Ay];omega) (by exact Fe (Ay _ _)) O (by simp[Int.reduceToNat];omega) o!;rw[Ay]at this;rw[<-this];simp only[IM,LV,A2];rfl
 have q2:HO (IM x,0,8)=Y x.2.1:=by have:=yb (a:=[]) (t:=IM x) (n:=x.2.1) (k:=8) (by rw[l];decide) g! g! (by rw[l];decide) VL Q (by simp[Int.reduceToNat];omega) o!;exact this
 unfold XJ;rw[q1,AD,q2,AD];refine AA (P:=λr=>∃z,r=.inr (x,z)) ?_ λr hr=>by obtain⟨z,rfl⟩:=hr;exact A0 (AB rfl)
 refine CQ (λs=>0<=s.1/\s.1<=16/\s.2.1.1=x.1/\s.2.1.2.1=x.2.1/\∀j:Fin 16,s.2.1.2.2 j=if(j.val:V)<s.1 then x.2.2 j else(X,[])) (λs=>(16-s.1).toNat) ⟨Ae _,u!,rfl,rfl,λj=>by rw[D! d!];rfl⟩ ?_;rintro⟨i,⟨p,n,a⟩,z⟩ ⟨o,N,G,hn,f⟩;dsimp only at o N G hn f;subst G hn;unfold lI;dsimp only;refine AC (λg=>?_) (λg=>k? ⟨z,?_⟩)
 ·rw[AY (x:=i*13),AY (x:=12+i*13),AY (x:=12+i*13+1),AY (x:=i+1)];have⟨R,m⟩:=nL (a:=x.2.2) (i:=i.toNat) o!;obtain⟨A,r,B,K⟩:=wb h (i:=i.toNat) o!;have b:=h.cl i.toNat
  generalize L:cl x.2.2 i.toNat=c at*;have F:W A+(13+W r)=256:=by have:=l;rw[B,AZ,AZ,eE b.1]at this;exact this
  have e:HO (IM x,12+i*13,1)=Y (if c.1=E then(W c.2:V)else 255):=by have y:=b.1;have:=yb (a:=A) (t:=XI c++r) (n:=if c.1=E then(W c.2:V)else 255) (k:=1) (by rw[AZ,eE b.1];omega) g! g! (by rw[AZ,eE b.1];omega) (by unfold XI;rw[t?];exact List.take_left' (Ay _ _)) (by split<;>omega) (by simp[Int.reduceToNat];split<;>omega) (by split<;>omega);rw[<-B]at this;rw[<-this,K];congr 3;omega
  rw[e,AD];have H:∀q:GG 16 Ck,(∀j:Fin 16,q j=if(j.val:V)<i+1 then x.2.2 j else(X,[]))->Ao (Y (Step.next (i+1,(x.1,x.2.1,q),z)):Z (Step (V×AQ×AQ) ((Bool×AQ)⊕(AQ×AQ)))) (MX (λs=>0<=s.1/\s.1<=16/\s.2.1.1=x.1/\s.2.1.2.1=x.2.1/\∀j:Fin 16,s.2.1.2.2 j=if(j.val:V)<s.1 then x.2.2 j else(X,[])) (λs=>(16-s.1).toNat) (16-i).toNat λr=>∃z,r=.inr (x,z)):=λq w=>y! ⟨d!,d!,rfl,rfl,w⟩ d!
  by_cases d:c.1=E;rw[C! d];have y:=b.1;rw[beq_eq_false_iff_ne.2 o!,A!,F! o!,A!,AY];obtain⟨s,C,D_⟩:=CW (s:=IM x) (lo:=12+i*13+1) (hi:=12+i*13+1+(W c.2:V)) o! o! (by rw[l];omega);have E_:s=c.2:=by
   rw[D_.1,B];have I:(12+i*13+1).toNat=W A+1:=o!
   have J:(12+i*13+1+(W c.2:V)).toNat-(12+i*13+1).toNat=W c.2:=o!
   rw[J,I,<-LL,Rk];unfold XI;rw[C! d,A2,mG (Ay _ _),A2,Ys]
  rw[C,E_,AD];have u:∃v,Gy a i=Y v:=by obtain⟨v,m,_⟩:=Dd (a:=a) o g;exact⟨v,m⟩
  have⟨v,u⟩:=u;rw[u,AD,AD,AD,Sum.elim_inl];exact H _ (ACB f ⟨o,g⟩ λM=>m.symm.trans (DZ d rfl));rw[D! d,beq_iff_eq.2 rfl,B!,AD,Sum.elim_inl];exact H _ (zK f ⟨o,g⟩ λM=>m.symm.trans (DZ (by simpa using d) (b.2.resolve_left d)))
 refine E! Sum.inr (DZ (DZ rfl (DZ rfl (funext λj=>?_))) rfl);exact(f j).trans (C! o!)
theorem ACR{x:AQ}(h:Hg x)(hn:x.2.1≠0):IM x≠kD 256:=λe=>hn (by have:=congrArg (List.take 8) e;rw[VL]at this;have a:=h.2.2.1;have b:=h.2.2.2.1;exact YU (k:=8) (by decide) ⟨λ_=>by omega,by omega,by omega⟩ ⟨λ_=>by omega,by omega,by omega⟩ (this.trans (by decide)))
theorem AAJ:YD ()=Y (kD 256):=by grind[YD,ABb]
theorem ADb{x}(h:Hg x)(hn:x.2.1≠0):QL (IM x)=Y (x,0):=by
 have b:=eG h;unfold QL;have⟨m,q1,d⟩:=CW (s:=IM x) (lo:=0) (hi:=8) g! g! (by rw[b];decide);have⟨j,q2,e⟩:=CW (s:=IM x) (lo:=248) (hi:=256) g! g! (by rw[b];decide);have⟨l,q3,f⟩:=CW (s:=IM x) (lo:=0) (hi:=244) g! g! (by rw[b];decide);have g:j=C6 x.2.1 8:=by rw[e.1];show List.take 8 (List.drop 248 (IM x))=_;rw[pF h,BN (by rw[Ay];exact Al _)]
 have i:l=LV x:=f.1.trans (by show List.take 244 (IM x)=_;unfold IM;exact Fe (HC h));have c:=aU (LV x);have q4:HO (IM x,244,4)=Y (P7 (LV x)):=by have:=yb (a:=LV x) (t:=C6 (P7 (LV x)) 4++C6 x.2.1 8) (n:=P7 (LV x)) (k:=4) (by simp only[AZ,Ay,HC h];decide) g! g! (by simp only[AZ,Ay];decide) (Fe (Ay _ _)) o! (by simp[Int.reduceToNat];omega) o!;rw[HC h]at this;exact this
 rw[(by simp[T];omega:T (IM x)=256),H!,A!,AAJ,AD,beq_eq_false_iff_ne.2 (ACR h hn),A!,q1,AD,q2,AD,d.1.trans VL,g,H!,A!,q3,AD,i,q4,AD,yT (by rw[HC h];decide),AD,AY,H!,A!,AHa h,AD,mZ h,AD,H!,H!];rfl
def eF(x:AQ):Bd:=if x.2.1=0 then kD 256 else IM x
theorem AFU{x}(h:Hg x)(a:x.2.1=0->x=(x.1,0,GG.all (X,[]))):Gb (eF x,x.1)=Y (x,0):=by unfold Gb eF;rw[AAQ ⟨h.1,h.2.1⟩,AD,By,A!];by_cases hn:x.2.1=0;rw[C! hn];rw[(by grind[QL,kD,List.length_replicate,AAJ,p?]:QL (kD 256)=Y ((0,0,GG.all (X,[])),7)),AD];exact E! (λq=>Y (q,(0:V))) (a hn).symm;grind[ADb,p?]
def HX(p:Bd):Bd:=C6 (W p:V) 4++(p++C6 (P7 (C6 (W p:V) 4++p)) 4)
theorem EM(p:Bd):(HX p).length=W p+8:=by grind[HX,n?,Ay]
theorem cq{p:Bd}(h:W p<=8392):Di p=Y (HX p):=by
 unfold Di;simp only[T];rw[F! o!,A!,IF q! g! g!,AD,B7];have b:(C6 (W p:V) 4++p).length=W p+4:=by grind[n?,Ay]
 rw[(by grind[sapp,Ay]:sapp (C6 (W p:V) (ο 4)) p=Y (C6 (W p:V) 4++p)),AD,xh o!,AD];have a:=aU (C6 (W p:V) 4++p);rw[AY,IF o! g! g!,AD,A2];rfl
def UF(al:Q)(t:Bd):Bd×V×V:=
 if W t<4 then([],0,5)else
 if rd (t.take 4)>8392 then([],0,2)else
 if(W t:V)<rd (t.take 4)+8 then([],0,5)else
 if rd ((t.drop (4+(rd (t.take 4)).toNat)).take 4)≠P7 (t.take (4+(rd (t.take 4)).toNat))then([],0,3)else
 ((t.drop 4).take (rd (t.take 4)).toNat,(al:V)+8+rd (t.take 4),0)
def rd4{t:Bd}(h:4<=W t):0<=rd (t.take 4)/\rd (t.take 4)<4294967296:=by
 have a:(t.take 4).length=4:=by rw[BQ];omega
 have:=(ABj (l:=t.take 4) o!).1 o!;rw[a]at this;exact this
theorem Tm{a t:Bd}(h:(W a:V)+W t<=2199023255552):Bl (a++t,(W a:V))=Y (UF (W a) t):=by
 have b:T (a++t)=(W a:V)+W t:=by grind[n?]
 have o:((a++t).length:V)=(W a:V)+W t:=b;unfold Bl UF;dsimp only;rw[F! o!,A!,F! o!,A!,kG h g! g!];by_cases g:W t<4;rw[D! o!,C! g];rfl;rw[C! o!,D! g,AD,show ο 4=4 from rfl];have⟨p,u⟩:=rd4 (t:=t) o!;generalize hn:rd (t.take 4)=n at*;obtain⟨m,rfl⟩:=Ef p;rw[show((0:V) !=0)=X by decide,A!];by_cases d:(m:V)>8392;rw[G! d,B!,C! d];rw[F! d,A!,D! d,b,AY,AY];by_cases i:(W t:V)<(m:V)+8;rw[G! o!,B!,C! i];rw[F! o!,A!,D! i,CO];have f:wi (wi ((W a:V)+4)+(m:V))=((a++t.take (4+m)).length:V):=by rw[AY (x:=(W a:V)+4),AY,AZ,BQ];omega
 have j:a++t=(a++t.take (4+m))++t.drop (4+m):=by rw[A2,DG]
 have s:((t.drop (4+m)).length:V)=W t-(4+m):=by rw[C2];omega
 have c:((a++t.take (4+m)).length:V)=W a+4+m:=by rw[AZ,BQ];omega
 have l:A1 (a++t,wi (wi ((W a:V)+4)+(m:V)),4)=Y (rd ((t.drop (4+m)).take 4),0):=by
  rw[f];conv=>lhs;rw[j]
  rw[kG o! g! g!,C! o!];rfl
 have q:R3 (a++t) (W a:V) (wi (wi ((W a:V)+4)+(m:V)))=Y (t.take (4+m)):=by unfold R3;rw[f,C! o!,c,CO,Rk,show((W a:V)+4+m).toNat-W a=4+m by omega]
 have r:R3 (a++t) (wi ((W a:V)+4)) (wi (wi ((W a:V)+4)+(m:V)))=Y ((t.drop 4).take m):=by unfold R3;rw[f,AY (x:=(W a:V)+4),C! o!,c,show((W a:V)+4).toNat=W a+4 by omega,Yc,Rl o!,B7,Tp,show((W a:V)+4+m).toNat-(W a+4)=m by omega]
 rw[l,AD,q,AD,xh (by rw[BQ];omega),AD,r];have⟨q1,q2⟩:=rd4 (t:=t.drop (4+m)) o!;have k:ι .u32 (rd ((t.drop (4+m)).take 4))=rd ((t.drop (4+m)).take 4):=by rw[xX];omega
 rw[k];by_cases e:rd ((t.drop (4+m)).take 4)=P7 (t.take (4+m));rw[D! (by simp[e]),e,H!,A!,AD,AY (x:=(W a:V)+8),AY];rw[C! e,bne_iff_ne.2 e,B!]
theorem AFT{x:Bd}{i:V}(a:0<=i)(h:i>W x):B0 (x,i,4)=Y (0,5):=by grind[B0]
theorem XU{a t:Bd}(h:(W a:V)+W t<=2199023255552):Dr (a++t,(W a:V))=Y (UF (W a) t):=by
 have f:T (a++t)=(W a:V)+W t:=by grind[n?]
 have p:((a++t).length:V)=(W a:V)+W t:=f;unfold Dr UF;dsimp only;rw[F! o!,A!,F! o!,A!,YV h g! g!];by_cases i:W t<4;rw[D! o!,C! i];rfl;rw[C! o!,D! i,AD,show ο 4=4 from rfl];have⟨q,w⟩:=rd4 (t:=t) o!;generalize hn:rd (t.take 4)=n at*;obtain⟨m,rfl⟩:=Ef q;rw[show((0:V) !=0)=X by decide,A!];by_cases d:(m:V)>8392;rw[G! d,B!,C! d];rw[F! d,A!,D! d];have k:wi (wi ((W a:V)+4)+(m:V))=(W a:V)+4+m:=by grind[AY]
 by_cases j:(W t:V)<(m:V)+8;rw[C! j];have:B0 (a++t,wi (wi ((W a:V)+4)+(m:V)),4)=Y (0,5):=by
  rw[k];by_cases v:(W a:V)+4+m>(a++t).length;grind[AFT];have c:(W a:V)+4+m=((a++t.take (4+m)).length:V):=by grind[n?,r?]
  have g:a++t=(a++t.take (4+m))++t.drop (4+m):=by rw[A2,DG]
  grind[List.length_drop,YV]
 rw[this];rfl;rw[D! j,CO];have c:wi (wi ((W a:V)+4)+(m:V))=((a++t.take (4+m)).length:V):=by grind[n?,r?]
 have g:a++t=(a++t.take (4+m))++t.drop (4+m):=by rw[A2,DG]
 have u:((t.drop (4+m)).length:V)=W t-(4+m):=by rw[C2];omega
 have b:((a++t.take (4+m)).length:V)=W a+4+m:=by rw[AZ,BQ];omega
 have l:B0 (a++t,wi (wi ((W a:V)+4)+(m:V)),4)=Y (rd ((t.drop (4+m)).take 4),0):=by
  rw[c];conv=>lhs;rw[g]
  rw[YV o! g! g!,C! o!];rfl
 have r:R3 (a++t) (W a:V) (wi (wi ((W a:V)+4)+(m:V)))=Y (t.take (4+m)):=by unfold R3;rw[c,C! o!,b,CO,Rk,show((W a:V)+4+m).toNat-W a=4+m by omega]
 have s:R3 (a++t) (wi ((W a:V)+4)) (wi (wi ((W a:V)+4)+(m:V)))=Y ((t.drop 4).take m):=by unfold R3;rw[c,AY (x:=(W a:V)+4),C! o!,b,show((W a:V)+4).toNat=W a+4 by omega,Yc,Rl o!,B7,Tp,show((W a:V)+4+m).toNat-(W a+4)=m by omega]
 rw[l,AD,show(((rd ((t.drop (4+m)).take 4),(0:V)):V×V).2 !=0)=X from rfl,A!,r,AD,yT (by rw[BQ];omega),AD,s];have o:=aU (t.take (4+m));rw[AY (x:=P7 (t.take (4+m)))];by_cases e:rd ((t.drop (4+m)).take 4)=P7 (t.take (4+m));rw[D! (by simp[e]),e,H!,A!,AD,k,AY];refine E! Y (DZ rfl (DZ ?_ rfl));dsimp only;omega;rw[C! e,bne_iff_ne.2 e,B!]
def zF{a}{t}(h:(UF a t).2.2=0):(UF a t).1.length<=8392/\(∃c,t=HX (UF a t).1++c)/\(UF a t).2.1=(a:V)+8+(UF a t).1.length:=by
 unfold UF at h⊢;by_cases j:W t<4;rw[C! j]at h;exact O! h g!;rw[D! j]at h⊢;obtain⟨q,r⟩:=rd4 (t:=t) o!;by_cases k:rd (t.take 4)>8392;rw[C! k]at h;exact O! h g!;rw[D! k]at h⊢;by_cases o:(W t:V)<rd (t.take 4)+8;rw[C! o]at h;exact O! h g!;rw[D! o]at h⊢;by_cases b:rd ((t.drop (4+(rd (t.take 4)).toNat)).take 4)≠P7 (t.take (4+(rd (t.take 4)).toNat));rw[C! b]at h;exact O! h g!;rw[D! b]at h⊢;have b:=Decidable.not_not.1 b;dsimp only;have e:(t.take 4).length=4:=by rw[BQ];omega
 have g:C6 (rd (t.take 4)) 4=t.take 4:=by have:=yK (l:=t.take 4) o!;rwa[e]at this
 generalize hn:rd (t.take 4)=n at*;obtain⟨m,rfl⟩:=Ef q;rw[CO]at b⊢;have i:((t.drop 4).take m).length=m:=by rw[BQ,C2];omega
 refine⟨o!,?_,o!⟩;have p:t.take (4+m)=C6 (m:V) 4++(t.drop 4).take m:=by rw[List.take_add,g]
 have f:((t.drop (4+m)).take 4).length=4:=by rw[BQ,C2];omega
 have d:C6 (P7 (t.take (4+m))) 4=(t.drop (4+m)).take 4:=by rw[<-b];have:=yK (l:=(t.drop (4+m)).take 4) o!;rwa[f]at this
 refine⟨t.drop (4+m+4),?_⟩;unfold HX;rw[i,<-p,d,<-A2,<-p];conv=>lhs;rw[<-DG (4+m) t,<-DG 4 (t.drop (4+m)),LL]
 rw[A2]
theorem kJ{c}{p a:Bd}(h:W p<=8392):UF c (HX p++a)=(p,(c:V)+8+W p,0):=by
 have d:cr 4 (W p:V):=⟨λ_=>⟨o!,by rw[show(256:V)^4=4294967296 by decide];omega⟩,o!⟩
 have e:=aU (C6 (W p:V) 4++p);have b:cr 4 (P7 (C6 (W p:V) 4++p)):=⟨λ_=>⟨o!,by rw[show(256:V)^4=4294967296 by decide];omega⟩,o!⟩
 unfold UF;rw[(by grind[HX,t?,List.take_left',Ay]:(HX p++a).take 4=C6 (W p:V) 4),rP g! d,CO,(by grind[HX,t?,List.take_left',n?,Ay]:(HX p++a).take (4+W p)=C6 (W p:V) 4++p),(by grind[HX,t?,List.drop_left',n?,Ay]:(HX p++a).drop (4+W p)=C6 (P7 (C6 (W p:V) 4++p)) 4++a),(by grind[HX,t?,List.drop_left',Ay]:(HX p++a).drop 4=p++(C6 (P7 (C6 (W p:V) 4++p)) 4++a)),(by rw[AZ,(EM p)]:(HX p++a).length=W p+8+W a),D! o!,D! o!,D! o!,Fe (Ay _ _),rP g! b,D! q!,Fe rfl]
def CI(b:Ds):Prop:=W b.1<=1099511627776/\0<=b.2.1/\b.2.1<=W b.1
def N7{b}{x:V}(h:CI b)(c:0<=x/\x<=8):Ao (BT b x) λr=>CI r.2/\(x<=4->0<=r.1/\r.1<4294967296):=by
 unfold BT;unfold CI at*
 exact x!
def Oa{b}{x:V}(h:CI b)(d:0<=x/\x<=4294967296):Ao (C5 b x) λr=>CI r.2:=by
 unfold C5;unfold CI at*
 exact x!
def XM{b}{x}(h:CI b):Ao (Cs b x) λr=>CI r.2:=by
 unfold Cs;exact x!
theorem bq{x:Bd}(h:W x<=1099511627776):Ao (D7 x) λr=>r.2=0->Mc r.1:=by
 unfold D7;have b:CI (x,0,0):=⟨h,q!,q!⟩
 exact x!
def Xt{x:Bd×U V}{s:Bd×V}(h:0<=s.2/\s.2<=θ x.2/\θ x.2<=16777216/\θ x.1<=1073741824/\(θ s.1:V)<=θ x.1+8*s.2):Ao (Ag (Le x) s) λr=>(θ r:V)<=θ x.1+8*θ x.2:=by
 refine AW (λ(s:Bd×V)=>0<=s.2/\s.2<=θ x.2/\θ x.2<=16777216/\θ x.1<=1073741824/\(θ s.1:V)<=θ x.1+8*s.2) (λ(s:Bd×V)=>((θ x.2:V)-s.2).toNat) h (λs b=>?_);unfold Le;exact x!
def aB{x:Bd×S V}(h:W x.2<=16777216/\W x.1<=1073741824):Ao (Hz x) λr=>(W r:V)<=W x.1+8*W x.2:=by
 unfold Hz;exact x!
def YO{x:U Ap}{s:Bd×V}(h:0<=s.2/\s.2<=θ x/\Zn x/\(θ s.1:V)<=10+40000*s.2):Ao (Ag (Mm x) s) λr=>(θ r:V)<=10+40000*θ x:=by
 refine AW (λ(s:Bd×V)=>0<=s.2/\s.2<=θ x/\Zn x/\(θ s.1:V)<=10+40000*s.2) (λ(s:Bd×V)=>((θ x:V)-s.2).toNat) h (λs c=>?_);unfold Mm;have⟨e,f,⟨b,a⟩,g⟩:=c;repeat' with_reducible first|intro d|apply AC|apply AK|apply AB|(refine AM ?_ (Dj ?_);intro r hr)|(refine AM ?_ (aB ?_);intro r hr)|(refine AM ?_ (AI ?_ ?_);rintro r ⟨hr,i⟩)
 all_goals try (have j:=a _ _ v!)
 all_goals try unfold VTx at*
 all_goals dsimp[T]at*
 all_goals first|omega|(refine⟨⟨?_,?_,⟨b,a⟩,?_⟩,?_⟩<;>(simp (disch:=omega) only[AY];omega))|grind
def TL{x}:Ao (K4 x) λr=>W r.1<=16777216:=by
 unfold K4;exact x!
def CJ(b:CD):Prop:=W b.1<=1099511627776/\0<=b.2.1/\b.2.1<=W b.1
def GO{b}{x:V}(h:CJ b)(c:0<=x/\x<=8):Ao (Ch b x) λr=>CJ r.2/\(x<=2->0<=r.1/\r.1<65536):=by
 unfold Ch;unfold CJ at*
 exact x!
def Va  {s:V×U V×CD}(h:0<=s.1/\s.1+θ s.2.1<=65536/\CJ s.2.2):Ao (Ag (JZ) s) λr=>CJ r.2/\θ r.1<=65536:=by
 refine AW (λ(s:V×U V×CD)=>0<=s.1/\s.1+θ s.2.1<=65536/\CJ s.2.2) (λ(s:V×U V×CD)=>s.1.toNat) h (λs c=>?_);unfold JZ;exact x!
def XN{b}{x:V}(h:CJ b)(a:0<=x/\x<=2):Ao (GJ b x) λr=>CJ r.2:=by
 unfold GJ;exact x!
def YN  {s:V×U Ap×CD}(h:0<=s.1/\s.1+θ s.2.1<=65536/\CJ s.2.2):Ao (Ag (Ml) s) λr=>CJ r.2/\θ r.1<=65536:=by
 refine AW (λ(s:V×U Ap×CD)=>0<=s.1/\s.1+θ s.2.1<=65536/\CJ s.2.2) (λ(s:V×U Ap×CD)=>s.1.toNat) h (λs c=>?_);unfold Ml;exact x!
def TK{x:Bd}(h:W x<=1099511627776):Ao (K3 x) λr=>W r.1<=65536/\(r.2=0->Zn r.1):=by
 unfold K3;have b:CJ (x,0,X):=⟨h,q!,q!⟩
 exact x!
def YM{x:Bv}{s:Bd×V}(h:0<=s.2/\s.2<=θ x/\θ x<=64/\(θ s.1:V)<=10+24*s.2):Ao (Ag (Iz x) s) λr=>θ r<=2000:=by
 refine AW (λ(s:Bd×V)=>0<=s.2/\s.2<=θ x/\θ x<=64/\(θ s.1:V)<=10+24*s.2) (λ(s:Bd×V)=>((θ x:V)-s.2).toNat) h (λs b=>?_);unfold Iz;exact x!
def TJ{x}:Ao (IX x) λr=>W r.1<=2000:=by
 unfold IX;exact x!
def YL{x:Bd}{a:V×V}{s:V×U Be}(h:0<=s.1/\s.1<=a.1/\a.1<=65536/\θ x<=1099511627776/\θ s.2<=s.1):Ao (Ag (Iy x a) s) λr=>θ r<=65536:=by
 refine AW (λ(s:V×U Be)=>0<=s.1/\s.1<=a.1/\a.1<=65536/\θ x<=1099511627776/\θ s.2<=s.1) (λ(s:V×U Be)=>(a.1-s.1).toNat) h (λs d=>?_);unfold Iy;exact x!
def TI{x:Bd}(h:W x<=1099511627776):Ao (Eo x) λr=>(r.2=0->nX r.1)/\W r.1<=65536:=by
 unfold Eo;exact x!
def RS{x:Ce}{s:V}(h:0<=s/\s<=θ x.2.2.1/\(θ x.2.2.1:V)<=16777216):Ao (Ag (N0 x) s) λr=>r≠.inl ζ:=by
 refine AW (λ(s:V)=>0<=s/\s<=θ x.2.2.1/\(θ x.2.2.1:V)<=16777216) (λ(s:V)=>((θ x.2.2.1:V)-s).toNat) h (λs b=>?_);unfold N0;exact x!
def tk(x:Ce):Prop:=1<=x.1/\x.1<=64/\Zn x.2.2.1/\nX x.2.2.2.2/\W x.2.2.2.2=x.1
def Ol{x:Ce}(h:W x.2.2.2.1<=16777216):Ao (HI x) λr=>r=E->tk x:=by
 unfold HI tk
 exact x!
def YR{x:Ce}{s:Bd×V}(h:0<=s.2/\s.2<=θ x.2.2.2.1/\θ x.2.2.2.1<=16777216/\(θ s.1:V)<=100000000+24*s.2):Ao (Ag (I1 x) s) λr=>θ r<=1073741824:=by
 refine AW (λ(s:Bd×V)=>0<=s.2/\s.2<=θ x.2.2.2.1/\θ x.2.2.2.1<=16777216/\(θ s.1:V)<=100000000+24*s.2) (λ(s:Bd×V)=>((θ x.2.2.2.1:V)-s.2).toNat) h (λs b=>?_);unfold I1;exact x!
def cM{x:Ce}(h:W x.2.2.2.1<=16777216):Ao (Gn x) λr=>W r.1<=2147483648:=by
 unfold Gn;exact x!
def VI(c:Ck):Bd:=bif c.1 then C6 (W c.2:V) 1++c.2 else C6 255 1
def B3(e:AE):Bd:=
 C6 e.1 8++(C6 e.2.1 1++(C6 e.2.2.1 4++(C6 e.2.2.2.1 8++(C6 e.2.2.2.2.1 8++(C6 e.2.2.2.2.2.1 8++(C6 e.2.2.2.2.2.2.1.1 4++(C6 e.2.2.2.2.2.2.1.2.1 1++
 (VI e.2.2.2.2.2.2.1.2.2.1++(VI e.2.2.2.2.2.2.1.2.2.2++(C6 (W e.2.2.2.2.2.2.2:V) 4++e.2.2.2.2.2.2.2))))))))))
theorem ku{c}(h:G6 c):(VI c).length<=13:=by
 unfold VI;cases c.1 with
 |true=>rw[B!,AZ,Ay];have:=h.1;omega
 |false=>grind[Ay]
def ACH{s:Bd}{c:Ck}(h:W s<=1099511627776)(a:W c.2<=8192):GU (s,c)=Y (s++VI c):=by grind[GU,VI,Bool.not_false,IF,Bool.not_true,sapp,C6,ο,n?,Ay,t?]
def Mc.cells{e}(h:Mc e):G6 e.2.2.2.2.2.2.1.2.2.1/\G6 e.2.2.2.2.2.2.1.2.2.2/\W e.2.2.2.2.2.2.2<=8192/\cr 8 e.1/\cr 1 e.2.1/\cr 4 e.2.2.1/\cr 8 e.2.2.2.1/\cr 8 e.2.2.2.2.1/\cr 8 e.2.2.2.2.2.1/\cr 4 e.2.2.2.2.2.2.1.1/\cr 1 e.2.2.2.2.2.2.1.2.1:=by
 have⟨a1,a2,a3,a4,a5,a6,a7,a8,j⟩:=h;have k:∀n:V,0<=n->n<=1099511627776->cr 8 n:=λn l m=>⟨n!,o!⟩
 have p:∀n:V,0<=n->n<=1073741824->cr 4 n:=λn l m=>⟨λ_=>by rw[show(256:V)^4=4294967296 by decide];omega,o!⟩
 have o:∀n:V,0<=n->n<=255->cr 1 n:=λn l m=>⟨λ_=>by rw[show(256:V)^1=256 by decide];omega,o!⟩
 have z:G6 (X,[]):=⟨g!,.inr rfl⟩
 refine and_assoc.1 (and_assoc.1 ⟨?_,k _ o! o!,?_⟩);rcases j with⟨k1,f,d,g,c,a⟩|⟨k1,f,d,g,c,a,i,b⟩|⟨k1,f,d,g,c,a,i,b⟩|⟨k1,f,d,g,c,a,i⟩|j;exact⟨⟨a.2.2.2.2.1,a.2.2.2.2.2⟩,by rw[d];decide⟩;exact⟨⟨b.2.2.2.2.1,b.2.2.2.2.2⟩,by rw[c];decide⟩;rw[c,a];exact⟨⟨z,z⟩,g!⟩;rw[a];exact⟨⟨z,z⟩,i⟩;have⟨k1,f,d,g,c,a,i,b⟩:=j;rw[i,b];exact⟨⟨z,z⟩,g!⟩;have q:1<=e.2.1/\e.2.1<=8/\0<=e.2.2.1/\e.2.2.1<=1073741824/\0<=e.2.2.2.2.2.2.1.1/\e.2.2.2.2.2.2.1.1<64/\0<=e.2.2.2.2.2.2.1.2.1/\e.2.2.2.2.2.2.1.2.1<16:=by rcases j with⟨k1,f,d,g,c,a⟩|⟨k1,f,d,g,c,a,i,b⟩|⟨k1,f,d,g,c,a,i,b⟩|⟨k1,f,d,g,c,a,i⟩|j;have:=a.1;have:=a.2.1;have:=a.2.2.1;have:=a.2.2.2.1;omega;have:=b.1;have:=b.2.1;have:=b.2.2.1;have:=b.2.2.2.1;omega;grind[Qe];grind[Qe];grind[Qe]
 exact⟨o _ o! o!,p _ o! o!,k _ o! o!,k _ o! o!,k _ o! o!,p _ o! o!,o _ o! o!⟩
theorem S7{e}(h:Mc e):(B3 e).length<=8392:=by have⟨a,b,c,_⟩:=h.cells;grind[ku,B3,n?,Ay]
theorem rW{e}(h:Mc e):Fh e=Y (B3 e,0):=by have⟨c,d,i,_⟩:=h.cells;have l1:=ku c;have l2:=ku d;have⟨b,f,g⟩:=Cc (x:=e);have a:b=E:=g.2 h;subst a;unfold Fh;rw[f,AD,By,A!];rw[IF q! g! g!,AD,B7];rw[IF (by simp only[AZ,Ay];simp only[Int.reduceToNat];omega) g! g!,AD];rw[IF (by simp only[AZ,Ay];simp only[Int.reduceToNat];omega) g! g!,AD];rw[IF (by simp only[AZ,Ay];simp only[Int.reduceToNat];omega) g! g!,AD];rw[IF (by simp only[AZ,Ay];simp only[Int.reduceToNat];omega) g! g!,AD];rw[IF (by simp only[AZ,Ay];simp only[Int.reduceToNat];omega) g! g!,AD];rw[IF (by simp only[AZ,Ay];simp only[Int.reduceToNat];omega) g! g!,AD];rw[IF (by simp only[AZ,Ay];simp only[Int.reduceToNat];omega) g! g!,AD];rw[ACH (by simp only[AZ,Ay];simp only[Int.reduceToNat];omega) (by have:=c.1;omega),AD];rw[ACH (by simp only[AZ,Ay];simp[Int.reduceToNat];omega) (by have:=d.1;omega),AD];rw[IF (by simp only[AZ,Ay];simp[Int.reduceToNat];omega) g! g!,AD];unfold sapp;rw[C! (by simp only[AZ,Ay];simp[Int.reduceToNat];omega),AD];simp[A2];rfl
def CS(x p:Bd)(c:Bd×V×V):Prop:=c.1=x/\(c.2.2=0->∃rest,x=p++rest/\c.2.1=W p)
def tf{t:Bd}{k:Q}(h:k<=W t)(a:k<=8):cr k (rd (t.take k))/\C6 (rd (t.take k)) k=t.take k:=by grind[r?,ABj,yK]
def cj{x p}{c}{k:Q}(h:CS x p c)(o:W x<=1099511627776)(q:1<=k)(m:k<=8):Ao (BT c (k:V)) λr=>CS x (p++C6 r.1 k) r.2/\(r.2.2.2=0->cr k r.1)/\(c.2.2≠0->r=(0,c)):=by have⟨s,l,e⟩:=c;have⟨g,i⟩:=h;dsimp only at g i;subst g;unfold BT;refine AL (λd=>AB ⟨⟨rfl,λb=>O! b d⟩,λb=>O! b d,λ_=>rfl⟩) (λd=>?_);dsimp only at d;subst d;have⟨a,hr,n⟩:=i rfl;subst hr n;rw[AZ]at o;rw[kG o! o! o!];by_cases j:(k:V)<=W a;rw[C! j,AD,CO];have⟨q1,q2⟩:=tf (t:=a) (k:=k) o! m;rw[show((0:V) !=0)=X by decide,A!];refine AB ⟨⟨rfl,λ_=>⟨a.drop k,?_,?_⟩⟩,λ_=>q1,λf=>O! rfl f⟩;grind[t?,List.take_append_drop];grind[AY,n?,Ay];rw[D! j,AD];rw[show((5:V) !=0)=E by decide,B!];exact AB ⟨⟨rfl,λb=>O! (show(5:V)=0 from b) g!⟩,λb=>O! (show(5:V)=0 from b) g!,λf=>O! rfl f⟩
def AFl{x p}{c}{n:V}(h:CS x p c)(k:W x<=1099511627776)(hn:c.2.2=0->0<=n/\n<4294967296):Ao (C5 c n) λr=>CS x (p++r.1) r.2/\(r.2.2.2=0->(W r.1:V)=n/\c.2.2=0):=by have⟨s,g,e⟩:=c;have⟨d,f⟩:=h;dsimp only at d f hn;subst d;unfold C5;by_cases j:e=0;subst j;have⟨a,hr,i⟩:=f rfl;have⟨l,q⟩:=hn rfl;subst hr i;obtain⟨m,rfl⟩:=Ef l;rw[AZ]at k;rw[show((0:V) !=0)=X by decide,A!];simp only[T];rw[show wi (((p++a).length:V)-(W p:V))=W a by rw[AZ,AY];omega];by_cases o:(m:V)<=W a;rw[F! o!,A!];rw[(by grind[AY,R3,n?,List.drop_left]:R3 (p++a) (wi (wi ((W p:V)+(m:V))-(m:V))) (wi ((W p:V)+(m:V)))=Y (a.take m)),AD];refine AB ⟨⟨rfl,λ_=>⟨a.drop m,?_,?_⟩⟩,λ_=>⟨?_,by first|rfl|trivial⟩⟩;grind[t?,List.take_append_drop];grind[AY,n?,r?];grind[r?];rw[G! o!,B!];exact AB ⟨⟨rfl,λb=>O! (show(5:V)=0 from b) g!⟩,λb=>O! (show(5:V)=0 from b) g!⟩;grind[AB]
def AFi{x p}{c}(h:CS x p c)(i:W x<=1099511627776):Ao (Cs c ()) λr=>CS x (p++VI r.1) r.2/\(r.2.2.2=0->G6 r.1):=by unfold Cs;refine AA (cj (k:=1) h i g! g!) λv n=>?_;have⟨⟨f,j⟩,q,y⟩:=n;refine AL (λd=>AB ⟨⟨f,λb=>O! b d⟩,λb=>O! b d⟩) (λd=>?_);have⟨e,hr,g⟩:=j d;have m:=(q d).1 g!;rw[show(256:V)^1=256 by decide]at m;refine AP (λa=>AB ⟨⟨f,λ_=>⟨e,?_,?_⟩⟩,λ_=>⟨BU _,.inr rfl⟩⟩) (λa=>?_);dsimp only;rw[a]at hr;exact hr;dsimp only;rw[a]at g;exact g;refine AC (y? ⟨⟨f,λb=>O! (show(4:V)=0 from b) g!⟩,λb=>O! (show(4:V)=0 from b) g!⟩) (λl=>?_);refine AA (AFl (x:=x) (p:=p++C6 v.1 1) ⟨f,j⟩ i (λ_=>o!)) λw o=>AB ?_;have⟨⟨s,z⟩,t⟩:=o;refine⟨⟨s,λb=>?_⟩,λb=>?_⟩;grind[VI,C6,t?];dsimp only at b⊢;have⟨u,_⟩:=t b;exact⟨d!,.inl rfl⟩
def Ze{x p a:Bd}{n}{k}(e:x=p++(C6 n k++a))(d:W x<=1099511627776)(b:1<=k)(c:k<=8)(hn:cr k n):BT (x,(W p:V),0) (k:V)=Y (n,x,((p++C6 n k).length:V),0):=by grind[W,n?,Ay,BT,kG,s?,List.take_left',rP,AY]
theorem AFk{x p w a:Bd}(c:x=p++(w++a))(d:W x<=1099511627776):C5 (x,(W p:V),0) (W w:V)=Y (w,x,((p++w).length:V),0):=by
 have b:=E! W c;simp[AZ]at b;unfold C5;dsimp only;rw[show((0:V) !=0)=X by decide,A!];simp only[T];rw[show τ ((W w:V)>wi ((W x:V)-(W p:V)))=X from F! (by rw[AY];omega),A!];have e:R3 x (wi (wi ((W p:V)+(W w:V))-(W w:V))) (wi ((W p:V)+(W w:V)))=Y w:=by rw[AY (x:=(W p:V)+(W w:V)),AY];unfold R3;rw[C! o!,c,show((W p:V)+(W w:V)-(W w:V)).toNat=W p by omega,Rk,show((W p:V)+(W w:V)).toNat-W p=W w by omega,Ys]
 grind[AY,n?]
def AFh{x p a:Bd}{c}(e:x=p++(VI c++a))(i:W x<=1099511627776)(k:G6 c):Cs (x,(W p:V),0) ()=Y (c,x,((p++VI c).length:V),0):=by
 have⟨b,d⟩:=c;have⟨j,f⟩:=k;dsimp only at j f;unfold Cs;cases b with
 |false=>
  have l:d=[]:=by rcases f with h|h;cases h;exact h
  subst l;rw[(rfl:VI (X,[])=C6 255 1)]at e⊢;rw[show(1:V)=((1:Q):V)from rfl,Ze e i g! g! ⟨λ_=>g!,g!,g!⟩];rfl
 |true=>have g:VI (E,d)=C6 (W d:V) 1++d:=rfl;rw[g,A2]at e;rw[g];rw[show(1:V)=((1:Q):V)from rfl,Ze e i g! g! ⟨λ_=>by rw[show(256:V)^1=256 by decide];omega,o!⟩,AD];grind[AFk,t?]
def AJd{x:Bd}(a:W x<=1099511627776):Ao (D7 x) λr=>r.2=0->x=B3 r.1/\G6 r.1.2.2.2.2.2.2.1.2.2.1/\G6 r.1.2.2.2.2.2.2.1.2.2.2/\cr 4 (W r.1.2.2.2.2.2.2.2:Int)/\Cw r.1=Y ζ:=by
 unfold D7;have I:CS x [] (x,0,0):=⟨rfl,λ_=>⟨x,rfl,rfl⟩⟩
 refine AA (cj (k:=8) I a g! g!) λO y=>AA (cj (k:=1) y.1 a g! g!) λP z=>AA (cj (k:=4) z.1 a g! g!) λQ A=>AA (cj (k:=8) A.1 a g! g!) λR B=>AA (cj (k:=8) B.1 a g! g!) λS C=>AA (cj (k:=8) C.1 a g! g!) λT D=>AA (cj (k:=4) D.1 a g! g!) λU E=>AA (cj (k:=1) E.1 a g! g!) λV F=>D6 (AFi F.1 a) λq M o=>D6 (AFi o.1 a) λs w p=>AA (cj (k:=4) p.1 a g! g!) λj b=>AA (AFl (n:=j.1) b.1 a (λc=>?_)) λJ f=>?_;have:=(b.2.1 c).1 g!;rw[show(256:Int)^4=4294967296 by decide]at this;exact this;refine AL (λh=>AB λc=>O! c h) (λh=>AL (y? n!) (λG=>D6 (Cc) λK i _=>AO (y? n!) (λH=>AB λ_=>?_)));subst H;obtain⟨q11,d⟩:=f.2 h;have l:s.2.2.2=0:=UD λe=>by have:=b.2.2 e;rw[this]at d;exact e d
 have u:=p.2 l;have L:q.2.2.2=0:=UD λe=>by
  have:s=((X,[]),q.2):=by have:=w;unfold Cs BT at this;rw[bne_iff_ne.2 e,B!,AD,bne_iff_ne.2 e,B!]at this;injection this with this;exact this.symm
  rw[this]at l;exact e l
 have t:=o.2 L;obtain⟨g,m,N⟩:=f.1.2 h;have hr:g=[]:=by simp only[len]at G;have v:=E! W m;rw[AZ]at v;exact Eh o!
 subst hr;refine⟨?_,t,u,?_,i⟩;rw[m];unfold B3;dsimp only;rw[q11];simp only[A2,B7,DT];dsimp only;rw[q11];exact b.2.1 d
def AFj{e}(h:Mc e):D7 (B3 e)=Y (e,0):=by
 obtain⟨s,t,H,w,y,z,A,B,C,D,E⟩:=h.cells;have I:=S7 h;have g:cr 4 (W e.2.2.2.2.2.2.2:V):=⟨λ_=>by rw[show(256:V)^4=4294967296 by decide];omega,o!⟩
 have a:B3 e=[]++(C6 e.1 8++(C6 e.2.1 1++(C6 e.2.2.1 4++(C6 e.2.2.2.1 8++(C6 e.2.2.2.2.1 8++(C6 e.2.2.2.2.2.1 8++(C6 e.2.2.2.2.2.2.1.1 4++(C6 e.2.2.2.2.2.2.1.2.1 1++
 (VI e.2.2.2.2.2.2.1.2.2.1++(VI e.2.2.2.2.2.2.1.2.2.2++(C6 (W e.2.2.2.2.2.2.2:V) 4++(e.2.2.2.2.2.2.2++[])))))))))))):=by rw[DT];rfl
 generalize B3 e=x at*;have i:BT (x,((0:V)),0) 8=_:=Ze (p:=[]) (k:=8) a o! g! g! w;rw[B7]at i;rw[B7]at a;have j:=Ze (k:=1) a o! g! g! y;rw[<-A2]at a;have l:=Ze (k:=4) a o! g! g! z;rw[<-A2]at a;have m:=Ze (k:=8) a o! g! g! A;rw[<-A2]at a;have n:=Ze (k:=8) a o! g! g! B;rw[<-A2]at a;have o:=Ze (k:=8) a o! g! g! C;rw[<-A2]at a;have q:=Ze (k:=4) a o! g! g! D;rw[<-A2]at a;have r:=Ze (k:=1) a o! g! g! E;rw[<-A2]at a;have F:=AFh a o! s;rw[<-A2]at a;have G:=AFh a o! t;rw[<-A2]at a;have c:=Ze (k:=4) a o! g! g! g;rw[<-A2]at a;have d:=AFk a o!;rw[DT]at a;rw[<-a]at d;unfold D7;rw[i,AD];rw[show((1:Q):V)=1 from rfl]at j r;rw[show((4:Q):V)=4 from rfl]at l q c;rw[show((8:Q):V)=8 from rfl]at m n o;rw[j,AD,l,AD,m,AD,n,AD,o,AD,q,AD,r,AD,F,AD,G,AD,c,AD,d,AD];obtain⟨b,u,v⟩:=Cc (x:=e);have f:b=ζ:=v.2 h;subst f;dsimp only[T];rw[show((0:V) !=0)=X by decide,A!,H!,A!];rw[show(e.1,e.2.1,e.2.2.1,e.2.2.2.1,e.2.2.2.2.1,e.2.2.2.2.2.1,(e.2.2.2.2.2.2.1.1,e.2.2.2.2.2.2.1.2.1,e.2.2.2.2.2.2.1.2.2.1,e.2.2.2.2.2.2.1.2.2.2),e.2.2.2.2.2.2.2)=e from rfl,u,AD,By,A!]
def Kx(l:S AE):Bd:=(l.map λe=>HX (B3 e)).flatten
theorem S9(l:S AE)(e:AE):Kx (l++[e])=Kx l++HX (B3 e):=by unfold Kx;grind
theorem pM(e:AE)(l:S AE):Kx (e::l)=HX (B3 e)++Kx l:=rfl
def tJ{l:S AE}(h:∀e∈l,Mc e):(Kx l).length<=8400*W l:=by
 induction l with
 |nil=>exact Al _
 |cons e r b=>have c:=b λx a=>h x (Av.2 (.inr a));have d:=S7 (h e (Av.2 (.inl rfl)));rw[pM,AZ,EM,Bh];omega
def ADR{x p a:Bd}{at_:V}{k:Q}(c:x=p++a)(e:at_=W p)(i:W x≤1099511627776)(h:1≤k)(f:k≤8)(g:k≤W a):
  ∃n b,A1 (x,at_,(k:V))=Y (n,0)/\B0 (x,at_,(k:V))=Y (n,0)/\x=(p++C6 n k)++b/\cr k n/\W b+k=W a:=by
 have d:=E! W c;rw[AZ]at d;obtain⟨q1,q2⟩:=tf (t:=a) g f;refine⟨rd (a.take k),a.drop k,?_,?_,?_,q1,?_⟩;rw[c,e,kG o! o! o!,C! o!,CO];rw[c,e,YV o! o! o!,C! o!,CO];rw[q2,A2,DG];exact c;rw[C2];omega
def lQ{x p rest:Bd}{at_ n:V}{k}(a:x=p++(C6 n k++rest))(d:at_=W p)(f:W x≤1099511627776)(e:1≤k)(c:k≤8)(hn:cr k n):
  A1 (x,at_,(k:V))=Y (n,0)/\B0 (x,at_,(k:V))=Y (n,0):=by
 have b:=E! W a;simp only[AZ,Ay]at b;refine⟨?_,?_⟩;rw[a,d,kG (by rw[AZ,Ay];omega) o! o!,C! (by rw[AZ,Ay];omega),CO,Fe (Ay _ _),rP c hn];rw[a,d,YV (by rw[AZ,Ay];omega) o! o!,C! (by rw[AZ,Ay];omega),CO,Fe (Ay _ _),rP c hn]
def Z5{x:U Ax×V×R×C1}{s:V×U Ax}(h:0<=s.1/\s.1<=θ x.1/\θ x.1<=16777216/\θ s.2<=s.1):Ao (Ag (Og x) s) λr=>θ r<=θ x.1:=by
 refine AW (λ(s:V×U Ax)=>0<=s.1/\s.1<=θ x.1/\θ x.1<=16777216/\θ s.2<=s.1) (λ(s:V×U Ax)=>((θ x.1:V)-s.1).toNat) h (λs b=>?_);unfold Og;exact x!
def K1{x:S Ax×V×R×C1}(h:W x.1<=16777216):Ao (GW x) λr=>W r<=W x.1:=by
 unfold GW;exact x!
def Z2{x:BB×V}{s:V}(h:0<=s/\s<=θ x.1.1/\(θ x.1.1:V)<=16777216/\0<=x.2/\x.2<θ x.1.2):Ao (Ag (Oc x) s) λr=>O:=by
 refine AW (λ(s:V)=>0<=s/\s<=θ x.1.1/\(θ x.1.1:V)<=16777216/\0<=x.2/\x.2<θ x.1.2) (λ(s:V)=>((θ x.1.1:V)-s).toNat) h (λs a=>?_);unfold Oc;exact x!
def Z3{x:BB×V}{s:V}(h:0<=s/\s<=x.2/\(x.2:V)<=16777216/\0<=x.2/\x.2<W x.1.2):Ao (Ag (Od x) s) λr=>O:=by
 refine AW (λs=>0<=s/\s<=x.2/\(x.2:V)<=16777216/\0<=x.2/\x.2<W x.1.2) (λs=>((x.2:V)-s).toNat) h (λs a=>?_);unfold Od;exact x!
def iN{x:BB×V}(h:W x.1.1<=4096/\W x.1.2<=4096)(b:0<=x.2/\x.2<W x.1.2):Ao (M8 x) λr=>O:=by
 unfold M8;exact x!
def Z4{x:U Ax×Ax}{s:R×V×U Ax}(h:0<=s.2.1/\s.2.1<=θ x.1/\θ x.1<=4096/\θ s.2.2<=s.2.1+1/\(s.1=η->(θ s.2.2:V)<=s.2.1)):Ao (Ag (Of x) s) λr=>θ r.2<=θ x.1+1/\(r.1=η->θ r.2<=θ x.1):=by
 refine AW (λ(s:R×V×U Ax)=>0<=s.2.1/\s.2.1<=θ x.1/\θ x.1<=4096/\θ s.2.2<=s.2.1+1/\(s.1=η->(θ s.2.2:V)<=s.2.1)) (λ(s:R×V×U Ax)=>((θ x.1:V)-s.2.1).toNat) h (λs c=>?_);unfold Of;repeat' with_reducible first|intro a|apply AC|apply AO|apply AL|(apply BJ;try dsimp only)|apply Bn|apply B5|apply AB|(apply AA (VY);intro r hr)|(refine AM ?_ (AI ?_ ?_);rintro r ⟨hr,f⟩)|(refine AM ?_ (Ac ?_);rintro r ⟨hr,d,b⟩)
 all_goals try (have e:=AY (x:=s.2.1+1))
 all_goals (first|omega|grind)
def iO{x:S Ax×Ax}(h:W x.1<=4096):Ao (M9 x) λr=>W r<=W x.1+1:=by
 unfold M9;exact x!
def YI{B:Q}(i:B<=2000){s:V×BB}(h:0<=s.1/\s.1<=s.2.2.length/\s.2.1.length+s.2.2.length<=B):Ao (Ag SH s) λr=>r.1.length+r.2.length<=B:=by refine AW (λs=>0<=s.1/\s.1<=s.2.2.length/\s.2.1.length+s.2.2.length<=B) (λs=>s.2.2.length*3000+((s.2.2.length:V)-s.1).toNat) h (λs d=>?_);have⟨b,e,c⟩:=d;refine AC (λa=>?_) (λa=>AB c);simp[T]at a;refine AA (iN d! ⟨b,a⟩) λv _=>AA (P:=λv:V×BB=>(v=s)\/(v.1= -1/\v.2.1.length<=s.2.1.length+1/\v.2.2.length+1=s.2.2.length)) ?_ λm g=>?_;refine AK (λ_=>?_) (λ_=>AB (.inl rfl));refine AA (AI b a) λj _=>AA (iO d!) λk c=>AA (BX o! b) λl f=>?_;grind[AY,AA,BX,Ac,AB];grind[AB,AY]
def Jm{B:Q}{x:BB}(a:B<=2000)(h:W x.1+W x.2<=B):Ao (Fj x) λr=>W r.1+W r.2<=B:=by exact AA (YI a ⟨q!,q!,h⟩) λr hr=>AB hr
theorem GS.of{x:BB}{B:Q}(a:B<=2000)(h:x.1.length+x.2.length<=B):GS x:=⟨by omega,by omega⟩
def GS.nil:GS (([],[]):BB):=⟨q!,q!⟩
def Mi{x:BB×V}(h:GS x.1):Ao (Hw x) λr=>GS r:=by refine AA (FQ h) λv d=>AO (y? h) (λc=>?_);have g:=d c;refine AA (K1 h.1) λa e=>AA (K1 h.2) λb f=>AA (Jm (B:=1024) g! ?_) λr hr=>AB (GS.of g! hr);grind[an]
def bw{x:BB×V}(h:GS x.1):Ao (Pa x) λr=>GS r:=by refine AA (FQ h) λv c=>AO (y? h) (λa=>?_);have e:=c a;refine AA (K1 h.2) λb d=>AA (Jm (B:=1024) g! ?_) λr hr=>AB (GS.of g! hr);grind[an]
def VX{x:BB×V×C1}(h:GS x.1):Ao (M7 x) λr=>GS r:=by refine AA (FQ h) λv c=>AO (y? h) (λa=>?_);have e:=c a;refine AA (K1 h.1) λb d=>AA (Jm (B:=1024) g! ?_) λr hr=>AB (GS.of g! hr);grind[an]
def Xq{x:BB×V}{s:V×Ax}(h:0<=s.1/\s.1<=θ x.1.2/\θ x.1.2<=16777216):Ao (Ag (Lc x) s) λr=>O:=by
 refine AW (λ(s:V×Ax)=>0<=s.1/\s.1<=θ x.1.2/\θ x.1.2<=16777216) (λ(s:V×Ax)=>((θ x.1.2:V)-s.1).toNat) h (λs b=>?_);unfold Lc;exact x!
def Ix{x:BB×V}(h:GS x.1):Ao (FT x) λr=>r.2=E->an x.1:=by
 unfold FT;exact x!
def ZJ{x:BB×Ax}{s:V}(h:0<=s/\s<=θ x.1.2/\(θ x.1.2:V)<=16777216/\θ x.1.1<=16777216):Ao (Ag (Nq x) s) λr=>∀u,r=.inl u->0<=u/\u<=θ x.1.2:=by
 refine AW (λ(s:V)=>0<=s/\s<=θ x.1.2/\(θ x.1.2:V)<=16777216/\θ x.1.1<=16777216) (λ(s:V)=>((θ x.1.2:V)-s).toNat) h (λs a=>?_);unfold Nq;exact x!
def fA{x:BB×Ax}(h:GS x.1):Ao (JC x) λr=>0<=r/\r<=W x.1.2:=by
 unfold JC;exact x!
def Z1{x:BB×Ax}(h:GS x.1):Ao (Ob x) λr=>GS r.1:=by refine AA (FQ h) λv o=>AO (y? GS.nil) (λl=>?_);have n:=o l;unfold an at n;refine AA Oe λ_ _=>AO (y? GS.nil) (λ_=>AA (Ix h) λz _=>?_);apply AK<;>intro m;simp_all[AK,AB,GS.nil];refine AK (y? h) (λ_=>AA (IV h.1) λ_ _=>AK (y? h) (λ_=>AK (y? GS.nil) (λ_=>AA (fA h) λp e=>AA (BX o! e.1 e.2) λq j=>AA (BX e.1 b! i!) λs a=>?_)));have f:=a.2;simp[T]at f;refine AA (Ac w!) λt b=>?_;have g:=b.2.1;simp at g;refine AA (Ac w!) λu c=>?_;have i:=c.2.1;simp at i;refine AA (Ac o!) λw k=>AA (Jm (B:=1025) g! d!) λy d=>AA (IV d!) λ_ _=>AB (GS.of g! d)
def Z8{x:U V×V}{s:R×V×U V}(h:0<=s.2.1/\s.2.1<=θ x.1/\θ x.1<=4096/\θ s.2.2<=s.2.1+1/\(s.1=η->(θ s.2.2:V)<=s.2.1)):Ao (Ag (OZ x) s) λr=>θ r.2<=θ x.1+1/\(r.1=η->θ r.2<=θ x.1):=by
 refine AW (λ(s:R×V×U V)=>0<=s.2.1/\s.2.1<=θ x.1/\θ x.1<=4096/\θ s.2.2<=s.2.1+1/\(s.1=η->(θ s.2.2:V)<=s.2.1)) (λ(s:R×V×U V)=>((θ x.1:V)-s.2.1).toNat) h (λs b=>?_);unfold OZ;repeat' with_reducible first|intro a|apply AC|apply AO|apply AL|apply AK|(apply BJ;try dsimp only)|apply Bn|apply B5|apply AB|(refine AM ?_ (AI ?_ ?_);rintro r ⟨hr,g⟩)|(refine AM ?_ (Ac ?_);rintro r ⟨hr,f,d⟩)
 all_goals try dsimp[T]at*
 all_goals try (have e:=AY (x:=s.2.1+1))
 all_goals try (have c:=b.2.2.2.2 v!)
 all_goals (try simp[Bh,Bj,Bool.true_eq_false,false_implies,and_true]at*)
 all_goals first|omega|grind
def Pe{x:S V×V}(h:W x.1<=4096):Ao (FY x) λr=>W r<=W x.1+1:=by
 unfold FY;exact x!
def Xr{x:BB}{s:U V×V}(h:0<=s.2/\s.2<=θ x.2/\θ x.2<=4096/\θ s.1<=s.2):Ao (Ag (Ld x) s) λr=>θ r<=θ x.2:=by
 refine AW (λ(s:U V×V)=>0<=s.2/\s.2<=θ x.2/\θ x.2<=4096/\θ s.1<=s.2) (λ(s:U V×V)=>((θ x.2:V)-s.2).toNat) h (λs b=>?_);unfold Ld;exact x!
def Z7{x}(h:GS x):Ao (KR x) λr=>W r<=4096:=by
 unfold KR;exact x!
theorem bx{x:BB×V}{b:Ax×R}{s:U V×V}(h:0<=s.2/\s.2<=θ x.1.1/\θ x.1.1<=1024/\θ s.1<=s.2):Ao (Ag (Pb x b) s) λr=>θ r<=θ x.1.1:=by
 refine AW (λ(s:U V×V)=>0<=s.2/\s.2<=θ x.1.1/\θ x.1.1<=1024/\θ s.1<=s.2) (λ(s:U V×V)=>((θ x.1.1:V)-s.2).toNat) h (λs c=>?_);unfold Pb;exact x!
theorem cC{x:BB×V}{b:Ax×R}{s:U V×V}(h:0<=s.2/\s.2<=θ x.1.2/\θ x.1.2<=1024/\θ s.1<=s.2+1024):Ao (Ag (Pc x b) s) λr=>θ r<=4096:=by
 refine AW (λ(s:U V×V)=>0<=s.2/\s.2<=θ x.1.2/\θ x.1.2<=1024/\θ s.1<=s.2+1024) (λ(s:U V×V)=>((θ x.1.2:V)-s.2).toNat) h (λs c=>?_);unfold Pc;exact x!
def MC{x:BB×V}(h:GS x.1):Ao (Ii x) λr=>W r<=4096:=by unfold Ii;refine AA (Ix h) λc b=>AO (y? q!) (λa=>?_);grind[an,AA,bx,cC,AB]
theorem Qn{x:BB×U V×V}{a:U V}{s:V}(h:0<=s/\s<=θ a/\(θ a:V)<=16777216/\1<=θ x.2.1/\θ x.2.1<=4096):Ao (Ag (Mj x a) s) λr=>∀u,r=.inl u->u=x.2.1:=by
 refine AW (λ(s:V)=>0<=s/\s<=θ a/\(θ a:V)<=16777216/\1<=θ x.2.1/\θ x.2.1<=4096) (λ(s:V)=>((θ a:V)-s).toNat) h (λs c=>?_);unfold Mj;exact x!
def YJ{x:BB×U V×V}{b:V}{s:R×V}(h:0<=s.2/\s.2<=θ x.2.1/\θ x.2.1<=4096):Ao (Ag (Mk x b) s) λr=>O:=by
 refine AW (λ(s:R×V)=>0<=s.2/\s.2<=θ x.2.1/\θ x.2.1<=4096) (λ(s:R×V)=>((θ x.2.1:V)-s.2).toNat) h (λs c=>?_);unfold Mk;exact x!
def AGs(d:Q){x:BB×U V×V}(h:GS x.1)(o:1<=x.2.1.length)(A:(x.2.1.length:V)+d=x.2.2)(p:x.2.2<=4096):Ao (pI Eu (d+1) x) λr=>r.length<=4096:=by
 induction d generalizing x with
 |zero=>show Ao (Eu _ x) _;unfold Eu;have e:=AY (x:=(x.2.1.length:V)-1);refine AA (AI (by simp[T];rw[e];omega) (by simp[T];rw[e];omega)) λv _=>AA (MC h) λm f=>AP (λ_=>?_) (λc=>absurd (by simp[T];omega) c);refine AA (Qn ⟨q!,q!,o!,o,o!⟩) λr hr=>BG (λu a=>AB (by rw[hr u a];omega)) (λ_ _=>AB q!)
 |succ d t=>show Ao (Eu _ x) _;unfold Eu;have e:=AY (x:=(x.2.1.length:V)-1);refine AA (AI (by simp[T];rw[e];omega) (by simp[T];rw[e];omega)) λv _=>AA (MC h) λm f=>AP (λ_=>?_) (λ_=>?_);grind[AA,Qn,BG,AB];refine AA (P:=λr=> ∀u,r= .inl u->u.length<=4096) ?_ λr hr=>BG (λu a=>AB (hr u a)) (λ_ _=>AB q!);refine AW (λ(s:V)=>0<=s/\s<=m.length) (λ(s:V)=>((m.length:V)-s).toNat) (s:=(0:V)) ⟨g!,o!⟩ (λs q=>?_);unfold SI;have b:=AY (x:=s+1);refine AC (λc=>?_) (λ_=>AB (λu a=>by cases a));simp[T]at c;refine AA (AI q.1 c) λB _=>AA (YJ ⟨q!,q!,o!⟩) λw _=>AK (λ_=>AB ⟨by rw[b];omega,by rw[b];omega⟩) (λ_=>AA (Ac w!) λy g=>?_);have k:=g.2.1;simp[Bj]at k;refine AA (Ac w!) λn i=>?_;have l:=i.2.1;simp[Bh,Bj]at l;refine AA (t (x:=(x.1,n,x.2.2)) h d! d! p) λz j=>AC (λ_=>AB λu a=>by cases a;exact j) (λ_=>AB ⟨by rw[b];omega,by rw[b];omega⟩)
def cD{x:BB×S V×V}(h:GS x.1)(a:1<=W x.2.1)(d:(W x.2.1:V)<=x.2.2)(b:x.2.2<=4096):Ao (Pd x) λr=>O:=by have⟨r,hr,_⟩:=AGs (x.2.2-W x.2.1).toNat h a o! b;have⟨s,c⟩:=iG hr;exact⟨s,c,P!⟩
def fB{x:BB×V}(h:GS x.1):Ao (MB x) λr=>O:=by unfold MB;refine AA (P:=λ_=>O) ?_ λr _=>BG (λ_ _=>AB trivial) (λ_ _=>AB trivial);refine AW (λs=>1<=s/\s<=4097) (λs=>(4097-s).toNat) ⟨g!,g!⟩ (λs d=>?_);unfold TG;have a:=AY (x:=s+1);refine AA (Z7 h) λe c=>AC (λb=>?_) (y? trivial);simp[T]at b;refine AA (cD h q! (by show(1:V)<=s;omega) (by show s<=4096;omega)) λf _=>AC (y? trivial) (y? ⟨by rw[a];omega,by rw[a];omega⟩)
def TP(l:S Ap):Q:=(l.map λt=>W t.2.2.2.2.1+1).sum
theorem AIq{l:S Ap}{i:Q}{o n:Ap}(h:l[i]?=Y o):TP (l.set i n)+W o.2.2.2.2.1=TP l+W n.2.2.2.2.1:=by
 induction l generalizing i with
 |nil=>simp at h
 |cons t r a=>
  cases i with
  |zero=>simp at h;subst h;simp[TP];omega
  |succ i=>have:=a (i:=i) (by simpa using h);simp[TP,List.set_cons_succ,B4,WV]at*;omega
def wJ{l:S Ap}{id:V}:TP (l.filter λt=>t.1 !=id)<=TP l:=by
 induction l with
 |nil=>simp
 |cons t r a=>simp[Mu];split;simp[TP,B4,WV]at*;omega;simp[TP,B4,WV]at*;omega
def xi{l:S Ap}{id:V}{i:Q}{t:Ap}(h:l[i]?=Y t)(a:t.1=id):TP (l.filter λt=>t.1 !=id)<TP l:=by
 induction l generalizing i with
 |nil=>simp at h
 |cons u r b=>
  have q:=wJ (l:=r) (id:=id);cases i with
  |zero=>simp at h;subst h;simp[Mu,a,H!,QH,if_false];simp[TP,B4,WV]at*;omega
  |succ i=>have:=b (i:=i) (by simpa using h);simp[Mu];split<;>(simp[TP,B4,WV]at*;omega)
def ZM{x:U Ap×V}{s:V×U Ap}(h:0<=s.1/\s.1<=θ x.1/\θ x.1<=64/\θ s.2=s.1):Ao (Ag (Ns x) s) λr=>θ r<=θ x.1:=by
 refine AW (λ(s:V×U Ap)=>0<=s.1/\s.1<=θ x.1/\θ x.1<=64/\θ s.2=s.1) (λ(s:V×U Ap)=>((θ x.1:V)-s.1).toNat) h (λs c=>?_);unfold Ns;exact x!
def Ub{x}:Ao (JE x) λr=>r.2=0->W r.1=W x.1+1/\W r.1<=64:=by
 unfold JE;exact x!
def ADn(l:S Ap)(id:V):S Ap:=l.filter λt=>t.1 !=id
theorem pp(l:S Ap)(id:V):(ADn l id).length<=W l:=EH _ _
theorem AHj(l:S Ap)(id:V):TP (ADn l id)<=TP l:=wJ
theorem AHk{l:S Ap}{id:V}{i:Q}{t:Ap}(h:l[i]?=Y t)(a:t.1=id):TP (ADn l id)<TP l:=xi h a
def mT{a:Type}{l:S a}{n:V}{p:a->R}{x:a}(b:0<=n)(c:l[ο n]?=Y x):(l.take (n+1).toNat).filter p=(l.take (ο n)).filter p++(if p x=E then [x]else []):=by
 have e:(n+1).toNat=ο n+1:=o!
 grind[List.take_add_one,Option.toList_some]
def pG{a:Type}{l:S a}{n:V}{p:a->R}(b:0<=n):(((l.take (ο n)).filter p).length:V)<=n:=by grind[List.length_filter_le,r?]
def YP{x:U Ap×V}{s:V×U Ap}(h:0<=s.1/\s.1<=θ x.1/\θ x.1<=16777216/\s.2=(x.1.take s.1.toNat).filter (λt=>t.1 !=x.2)):Ao (Ag (Mn x) s) λr=>r=x.1.filter λt=>t.1 !=x.2:=by
 refine AW (λ(s:V×U Ap)=>0<=s.1/\s.1<=θ x.1/\θ x.1<=16777216/\s.2=(x.1.take s.1.toNat).filter (λt=>t.1 !=x.2)) (λ(s:V×U Ap)=>((θ x.1:V)-s.1).toNat) h (λs f=>?_);unfold Mn;have⟨b,i,e,c⟩:=f;have a:=pG (l:=x.1) (p:=λt:Ap=>t.1 !=x.2) b;rw[<-c]at a;repeat' with_reducible first|intro d|apply AC|apply AL|apply AK|(apply BJ;try dsimp only)|apply Bn|apply B5|apply AB|(refine AM ?_ (AI ?_ ?_);rintro r ⟨hr,k⟩)|(refine AM ?_ (Ac ?_);rintro r ⟨hr,j,g⟩)
 all_goals dsimp[T]at*
 all_goals first|omega|(rw[(AY (x:=s.1+1))];refine⟨⟨o!,o!,e,?_⟩,o!⟩;rw[mT b v!];grind)|(rw[c,BN o!])|(simp;omega)
def Jo{x:S Ap×V}(h:W x.1<=16777216):Ao (Gm x) λr=>r=ADn x.1 x.2:=by
 unfold Gm ADn
 exact x!
def Nu{x:Ap}(h:W x.2.2.2.2.1<=16777216):Ao (Ia x) λr=>r.1=x.1/\r.2.2.2.2=x.2.2.2.2:=by
 unfold Ia;exact x!
def MG{x:S Ap×V×Ap}(h:W x.1<=16777216)(a:0<=x.2.1/\x.2.1<W x.1):Ao (Ik x) λr=>r=x.1.set x.2.1.toNat x.2.2:=by unfold Ik;refine AA (Ac (by simpa using h)) λr hr=>?_;have⟨hr,b,_⟩:=hr;rw[B7]at hr;subst hr;refine AA (AI a.1 a.2) λ_ _=>AA (AI a.1 a.2) λ_ _=>AB rfl
def SL{x:U Ap×AE}{a:Ap}{s:V×U V}(h:0<=s.1/\s.1<=θ a.2.2.2.2.1/\θ a.2.2.2.2.1<=4096/\θ s.2<=s.1):Ao (Ag (Oj x a) s) λr=>θ r<=θ a.2.2.2.2.1:=by
 refine AW (λ(s:V×U V)=>0<=s.1/\s.1<=θ a.2.2.2.2.1/\θ a.2.2.2.2.1<=4096/\θ s.2<=s.1) (λ(s:V×U V)=>((θ a.2.2.2.2.1:V)-s.1).toNat) h (λs d=>?_);unfold Oj;exact x!
def kH(l:S Ap)(id:V):Prop:=∃(j:Q)(t:Ap),l[j]?=Y t/\t.1=id
theorem kH.set{l:S Ap}{i:Q}{n:Ap}{id:V}(h:i<W l)(hn:n.1=id):kH (l.set i n) id:=⟨i,n,by rw[HB h],hn⟩
def AB7(l:S Ap)(kind tx:V)(m:S Ap):Prop:=W m<=W l/\(tx=0->m=l)/\(tx≠0->kind≠1->(kind≠4->TP m<TP l)/\TP m<=TP l)/\(tx≠0->kind=4->kH m tx)
def iR{x}:Ao (GX x) λr=>r.2=0->AB7 x.1 x.2.2.1 x.2.2.2.1 r.1:=by
 unfold GX;repeat' with_reducible first|intro a|apply AC|apply AO|apply AP|apply AL|apply AK|(apply BJ;try dsimp only)|apply Bn|apply B5|apply Na|(apply BF;try dsimp only)|(apply A0;try dsimp only)|(apply BG<;>(intro u c;try subst c))|apply AB|(apply AA (D0);intro r hr)|(apply AA (Cc);intro r hr)|(refine AM ?_ (IZ ?_);intro r hr)|(refine AM ?_ (SL ?_);intro r hr)|(refine AM ?_ (Jo ?_);intro r hr)|(refine AM ?_ (Nu ?_);intro r hr)|(refine AM ?_ (MG ?_ ?_);intro r hr)|(refine AM ?_ (AI ?_ ?_);rintro r ⟨hr,f⟩)|(refine AM ?_ (Ac ?_);rintro r ⟨hr,e,b⟩)
 all_goals dsimp[T]at*
 all_goals first|omega|(intro d;exact O! d g!)|(unfold Zn VTx at*;(first|omega|grind[AB7,AIq,AHk,AHj,pp,List.length_set,kH.set]))
variable {B:Int->Prop}
def TM{x}:Ao (IY x) λr=>r.2=0->Zn x.1/\0<=r.1/\r.1<W x.1:=by
 unfold IY;exact x!
def iS{x}:Ao (NC x) λr=>r.2=0->W r.1<=64:=by
 unfold NC;repeat' with_reducible first|intro a|apply AP|apply AL|apply AK|apply AB|(apply AA (TM);intro r hr)|(refine AM ?_ (MG ?_ ?_);intro r hr)|(refine AM ?_ (AI ?_ ?_);rintro r ⟨hr,e⟩)|(refine AM ?_ (Ac ?_);rintro r ⟨hr,d,b⟩)
 all_goals try dsimp[T]at*
 all_goals first|omega|(intro c;exact O! c v!)|grind[Zn,VTx,List.length_set]
def iQ{x}:Ao (NB x) λr=>r.2=0->W r.1<=64:=by
 unfold NB;repeat' with_reducible first|intro a|apply AC|apply AL|apply AK|apply AB|(apply AA (TM);intro r hr)|(refine AM ?_ (Nu ?_);intro r hr)|(refine AM ?_ (MG ?_ ?_);intro r hr)|(refine AM ?_ (AI ?_ ?_);rintro r ⟨hr,e⟩)|(refine AM ?_ (Ac ?_);rintro r ⟨hr,b,c⟩)|(refine AM ?_ (BX ?_ ?_ ?_);rintro r ⟨hr,b⟩)
 all_goals try dsimp[T]at*
 all_goals first|omega|(intro d;exact O! d v!)|grind[Zn,VTx,List.length_set,AY]
def jz{x:Bv×V×Be}(h:W x.1<=16777216)(a:0<=x.2.1/\x.2.1<W x.1):Ao (OD x) λr=>r=x.1.set x.2.1.toNat x.2.2:=by unfold OD;refine AA (Ac (by simpa using h)) λr hr=>?_;have⟨hr,b,_⟩:=hr;rw[B7]at hr;subst hr;refine AA (AI a.1 a.2) λ_ _=>AA (AI a.1 a.2) λ_ _=>AB rfl
def VZ{x}:Ao (Hy x) λr=>r.2=0->W r.1=W x.1/\(x.2.2.1≠7->r.1=x.1)/\(x.2.2.1=7->0<=x.2.2.2.2.2.2.2.1.1/\∃w,x.1[x.2.2.2.2.2.2.2.1.1.toNat]?=Y w/\r.1=x.1.set x.2.2.2.2.2.2.2.1.1.toNat ((if x.2.2.2.2.2.2.1>w.1 then x.2.2.2.2.2.2.1 else w.1),w.2)):=by
 unfold Hy;refine AA GN λv i=>AO (λa=>AB n!) (λa=>AA Cc λl k=>AO (λa=>AB n!) (λf=>AL (λa=>AB λ_=>⟨rfl,λ_=>rfl,λe=>O! e a⟩) (λd=>?_)));have i:Mc x.2:=k!
 have c:0<=x.2.2.2.2.2.2.2.1.1:=by grind[Mc,Vw,PG,Qe]
 refine AC (λa=>AB n!) (λg=>?_);simp[T]at g;refine AA (AI c) λw j=>AA (jz (by have:=(by grind:nX x.1).2;dsimp only;omega) ⟨c,d!⟩) λu h=>AB λ_=>?_;subst h;exact⟨q!,λe=>O! d e,λ_=>⟨c,w,j.1,rfl⟩⟩
def K6{x:AT×V}(h:SB x.1):Ao (Er x) λr=>Br x.1=Y E->KP x.1.1 x.1.2.2.1.2.1 x.1.2.2.2.1.2.1 x.1.2.2.2.2.2.2.2 x.1.2.2.2.2.2.2.1->0<=x.2->x.2<x.1.1->r=BY x.1.2.2.1.2.1 x.2:=by unfold Er;refine D6 (CK h) λv u t=>AO (λa=>AB λe=>?_) (λa=>?_);rw[u,a]at e;cases e;refine AC (λa=>AB λ_ _ p=>O! p o!) (λp=>AC (λa=>AB λ_ _ _ q=>O! q o!) (λq=>AA JD λg s=>AK (λa=>AB λ_ c d j=>?_) (λk=>?_)));have⟨_,_,_,e,f,n,b⟩:=s.1 a;have:=(c x.2 d j).1 f n (by rw[b];exact e);rw[b]at this;rw[this];exact Jf _ _;refine AA (KV h) λl o=>AK (λa=>AB λ_ c d j=>(c x.2 d j).2.1 _ (o.1 a).1 (o.1 a).2) (λm=>AA (AI o! (by have:=(t a).2.2.2.2.2.2.2;omega)) λr hr=>AB λ_ c d j=>?_);exact((c x.2 d j).2.2 r hr.1).2 (o.2 m) λf n e=>by have⟨i,w⟩:=Db n;exact O! ⟨i,f,w,e⟩ (s.2 k (t a).2.2.2.1)
def LX(a b:Aa):Prop:=b.1=a.1/\a.2.2<=b.2.2/\∃t,b.2.1=a.2.1++t
def LX.refl(a:Aa):LX a a:=⟨rfl,Ae _,[],q!⟩
def LX.trans{a b c}(h:LX a b)(g:LX b c):LX a c:=by have⟨i,k,t,j⟩:=h;have⟨d,f,u,e⟩:=g;exact⟨d.trans i,Yb k f,t++u,by rw[e,j,A2]⟩
def LX.get{a b}(h:LX a b){i:Q}{e:AE}(f:a.2.1[i]?=Y e):b.2.1[i]?=Y e:=by have⟨c,_,t,d⟩:=h;grind[List.getElem?_append_left,Nat.lt_or_ge,u?]
def AKz(k:AT)(z:AE)(m:AT):Prop:=
 ∃e,m.2.2.1.2.1=k.2.2.1.2.1++[e]/\e.1=k.2.2.1.1+W k.2.2.1.2.1/\e.2.1=z.2.1/\e.2.2.2.2.2=z.2.2.2.2.2/\
  (KP k.1 k.2.2.1.2.1 k.2.2.2.1.2.1 k.2.2.2.2.2.2.2 k.2.2.2.2.2.2.1->(e.2.1=1\/e.2.1=2)->0<=e.2.2.2.2.2.2.1.1->e.2.2.2.2.2.2.1.1<k.1->e.2.2.2.2.1=BY k.2.2.1.2.1 e.2.2.2.2.2.2.1.1)/\
  (z.2.1≠7->m.2.2.2.2.2.2.1=k.2.2.2.2.2.2.1)/\
  (z.2.1=7->0<=z.2.2.2.2.2.2.1.1/\∃w,k.2.2.2.2.2.2.1[z.2.2.2.2.2.2.1.1.toNat]?=Y w/\m.2.2.2.2.2.2.1=k.2.2.2.2.2.2.1.set z.2.2.2.2.2.2.1.1.toNat ((if z.2.2.2.2.2.1>w.1 then z.2.2.2.2.2.1 else w.1),w.2))
def AAn(k:AT)(z:AE)(m:AT):Prop:=
 m.1=k.1/\LX k.2.2.1 m.2.2.1/\Dg m.2.2.1/\m.2.2.2.1=k.2.2.2.1/\m.2.2.2.2.1=k.2.2.2.2.1/\AB7 k.2.2.2.2.2.1 z.2.1 z.2.2.1 m.2.2.2.2.2.1/\m.2.2.2.2.2.2.2=k.2.2.2.2.2.2.2/\SB m/\AKz k z m
def GC{x:AT×AE}(h:SB x.1):Ao (EY x) λr=>r.2.2=0->VK x.1/\AAn x.1 x.2 r.1/\r.2.1=x.1.2.2.1.1+W x.1.2.2.1.2.1:=by
 unfold EY;refine D6 (CK h) λv q E_=>AO (λa=>AB n!) (λa=>?_);have n:=E_ a;rw[a]at q;refine AA (P:=λs=>(∃u,s=.inl u/\u.2.1≠0)\/∃u,s=.inr u/\u.1.2.1=x.2.2.1/\u.1.2.2.1=x.2.2.2.1/\u.1.2.2.2.2.2=x.2.2.2.2.2.2) ?_ λs D_=>?_
 ·repeat' with_reducible first|intro a|apply AC|apply AO|apply AL|apply AK|(apply BJ;try dsimp only)|apply Bn|apply B5|apply Na|(apply BF;try dsimp only)|(apply A0;try dsimp only)|(apply BG<;>(intro u b;try subst b))|apply AB|(refine AM ?_ (Fl ?_);intro r hr)|(refine AM ?_ (AI ?_ ?_);rintro r ⟨hr,N⟩)
  all_goals ((try dsimp[T]at*);(try first|omega|assumption|grind[AY,SB]))
 rcases D_ with⟨u,rfl,b⟩|⟨u,rfl,b⟩;exact BF (AB λc=>O! c b);apply A0;refine AA (CR) λO A=>AA (P:=λv:AE=>v.2.1=x.2.2.1/\v.2.2.1=x.2.2.2.1/\v.2.2.2.2.2=x.2.2.2.2.2.2/\(KP x.1.1 x.1.2.2.1.2.1 x.1.2.2.2.1.2.1 x.1.2.2.2.2.2.2.2 x.1.2.2.2.2.2.2.1->(v.2.1=1\/v.2.1=2)->0<=v.2.2.2.2.2.2.1.1->v.2.2.2.2.2.2.1.1<x.1.1->v.2.2.2.2.1=BY x.1.2.2.1.2.1 v.2.2.2.2.2.2.1.1)) ?_ λt d=>?_;refine AK (λa=>?_) (λa=>AB ⟨b.1,b.2.1,b.2.2,λ_ n=>O! (A.2 n) (by simp[a])⟩);exact AA (K6 h) λw F=>AB ⟨b.1,b.2.1,b.2.2,λo _ G H=>F q o G H⟩;refine AA (bv) λi B=>AL (λa=>AB (O! · a)) (λa=>?_);have⟨a1,a2,a3,a4,a5,a6⟩:=B a;dsimp only at a2 a3 a4 a5 a6;refine AA (HG) λp e=>AA (iR) λI l=>AL (λa=>AB (O! · a)) (λf=>AA (VZ) λJ m=>AL (λa=>AB (O! · a)) (λg=>AB λ_=>⟨n,?_⟩))
 have L:=a2.1;have M:W i.1.2.1=W x.1.2.2.1.2.1+1:=by rw[a3];simp
 have⟨K,y,k,z⟩:=e.1 (e.2 a1 d! d!);dsimp only at y k z;have C:p.1=(i.2.1,t.2):=by
  have:(i.2.1-i.1.1).toNat=W x.1.2.2.1.2.1:=o!
  rw[this,a3]at k;simpa using k.symm
 have hn:=l f;have j:=(m g).2;rw[C]at hn j;dsimp only at hn j;rw[d.1,d.2.1]at hn;rw[d.1,d.2.2.1]at j;exact⟨⟨rfl,⟨a4,Int.le_of_eq a6.symm,_,a3⟩,a1,rfl,rfl,hn,rfl,⟨h.1,by have:=hn.1;have:=h.2.1;dsimp only at*;omega,h.2.2⟩,(i.2.1,t.2),a3,a5,d.1,d.2.2.1,d.2.2.2,j⟩,a5⟩
def AAn.ki{k m}{z}(h:AAn k z m)(b:KI B k)(a:z.2.1≠1/\z.2.1≠2/\z.2.1≠6/\z.2.1≠7):KI B m:=by obtain⟨a1,_,_,a4,_,_,a7,_,e,c,g,d,i,j,f,l⟩:=h;unfold KI;rw[a1,a4,a7,c,f a.2.2.2];rw[<-d]at a;exact⟨b.1.app ⟨λh=>o!,λh=>o!,λh=>o!⟩,b.2.1.app ⟨a.1,a.2.1⟩,b.2.2⟩
def AAn.sk{k m}{z}(h:AAn k z m)(a:SK B k)(b:z.2.1≠1/\z.2.1≠2/\z.2.1≠6/\z.2.1≠7):SK B m:=h.2.2.2.2.2.2.2.1.sk (h.ki a.ki b)
end Go.Pm
namespace Go.Pm
open Go Go.Ab
def DI(d:Bt):Prop:=W d.1<=64/\(∀(i:Q)(s:Bd),d.1[i]?=Y s->W s=256)/\d.2.2.1=[]/\d.2.2.2.2=[]
def YH{x:V}{s:V×U Bd}(h:0<=s.1/\s.1<=x/\x<=64/\s.2.length=s.1/\ ∀(i:Q) (t:Bd),s.2[i]? =some t->t=E5 (List.replicate (Int.toNat 256) 0)):Ao (Ag (Mh x) s) λr=>(r.length:V)=x/\ ∀(i:Q) (t:Bd),r[i]? =some t->t=E5 (List.replicate (Int.toNat 256) 0):=by
 refine AW (λ(s:V×U Bd)=>0<=s.1/\s.1<=x/\x<=64/\s.2.length=s.1/\ ∀(i:Q) (t:Bd),s.2[i]? =some t->t=E5 (List.replicate (Int.toNat 256) 0)) (λ(s:V×U Bd)=>(x-s.1).toNat) h (λs c=>?_);unfold Mh;have⟨f,g,a,j,b⟩:=c;have k:(E5 (List.replicate (Int.toNat 256) 0)).length=256:=by rw[My,Hh];rfl
 repeat' with_reducible first|apply AC<;>intro d|apply AK<;>intro d|apply AB|(refine AM ?_ (Ac ?_);rintro r ⟨hr,l,e⟩)
 all_goals first|omega|(generalize E5 (List.replicate (Int.toNat 256) 0)=bs at*;simp;omega)|(generalize E5 (List.replicate (Int.toNat 256) 0)=bs at*;rw[(AY (x:=s.1+1))];refine⟨⟨by omega,by omega,a,by grind,?_⟩,by omega⟩;grind)|(exact⟨by omega,b⟩)
def TE{x:V}(h:0<=x/\x<=64):Ao (PY x) λr=>(W r:V)=x/\∀(i:Q)(t:Bd),r[i]?=Y t->t=E5 (ς (ο 256) 0):=by exact AA (YH ⟨Ae _,h.1,h.2,rfl,λi t a=>by simp at a⟩) λr hr=>AB hr
def jt{x}:Ao (Kp x) λr=>r.2=0->DI r.1/\W r.1.1=x/\∀(i:Q)(t:Bd),r.1.1[i]?=Y t->t=E5 (ς (ο 256) 0):=by refine AC (λb=>AB n!) (λb=>AC (λb=>AB n!) (λc=>AA (TE o!) λr hr=>AB λ_=>⟨⟨d!,λi t d=>?_,rfl,rfl⟩,hr⟩));rw[hr.2 i t d,My,Hh];rfl
def eZ{x}:Ao (L8 x) λr=>O:=by
 unfold L8;exact x!
def ZC{x:Bt}{s:V}(h:0<=s/\s<=θ x.1/\(θ x.1:V)<=16777216):Ao (Ag (Nd x) s) λr=>r≠.inl ζ:=by
 refine AW (λ(s:V)=>0<=s/\s<=θ x.1/\(θ x.1:V)<=16777216) (λ(s:V)=>((θ x.1:V)-s).toNat) h (λs b=>?_);unfold Nd;exact x!
def ZD{x:Bt}{s:V}(h:0<=s/\s<=θ x.2.2.1/\(θ x.2.2.1:V)<=16777216):Ao (Ag (Nf x) s) λr=>r≠.inl ζ:=by
 refine AW (λ(s:V)=>0<=s/\s<=θ x.2.2.1/\(θ x.2.2.1:V)<=16777216) (λ(s:V)=>((θ x.2.2.1:V)-s).toNat) h (λs b=>?_);unfold Nf;exact x!
def ZE{x:Bt}{s:V}(h:0<=s/\s<=θ x.2.2.2.2/\(θ x.2.2.2.2:V)<=16777216):Ao (Ag (Ng x) s) λr=>r≠.inl ζ:=by
 refine AW (λ(s:V)=>0<=s/\s<=θ x.2.2.2.2/\(θ x.2.2.2.2:V)<=16777216) (λ(s:V)=>((θ x.2.2.2.2:V)-s).toNat) h (λs b=>?_);unfold Ng;exact x!
def eX{x:Bt}(h:W x.2.2.1<=16777216):Ao (L7 x) λr=>r=E->1<=W x.1/\W x.1<=64:=by
 unfold L7;exact x!
def Nk{x:Bt×V}(h:W x.1.2.2.1<=16777216):Ao (Gj x) λr=>r=0->0<=x.2/\x.2<W x.1.1/\W x.1.1<=64:=by
 unfold Gj;exact x!
def Xp{x:U V×V}{s:V×U V}(h:0<=s.1/\s.1<=θ x.1/\θ x.1<=16777216/\θ s.2<=s.1):Ao (Ag (Lb x) s) λr=>θ r<=θ x.1:=by
 refine AW (λ(s:V×U V)=>0<=s.1/\s.1<=θ x.1/\θ x.1<=16777216/\θ s.2<=s.1) (λ(s:V×U V)=>((θ x.1:V)-s.1).toNat) h (λs c=>?_);unfold Lb;exact x!
def SG{x:S V×V}(h:W x.1<=16777216):Ao (FO x) λr=>W r<=W x.1:=by
 unfold FO;exact x!
def bp{x:U V×V}{s:V}(h:0<=s/\s<=θ x.1/\(θ x.1:V)<=16777216):Ao (Ag (PZ x) s) λr=>O:=by
 refine AW (λ(s:V)=>0<=s/\s<=θ x.1/\(θ x.1:V)<=16777216) (λ(s:V)=>((θ x.1:V)-s).toNat) h (λs b=>?_);unfold PZ;exact x!
def ju{x:S V×V}(h:W x.1<=16777216):Ao (OA x) λr=>O:=by
 unfold OA;exact x!
def iK{x:Bt×V}(h:DI x.1):Ao (M5 x) λr=>r.2=0->W r.1=256/\0<=x.2/\x.1.1[x.2.toNat]?=Y r.1:=by
 unfold M5;exact x!
def DI.set{d}{l:S Bd}{i}{t:Bd}{u:S V}{w:V}{b:R}(h:DI d)(c:l=d.1)(n:W t=256)(e:W u<=([]:S V).length):DI (ER l i t,w,u,b,[]):=by subst c;have⟨a,f,g,k⟩:=h;refine⟨by simpa[ER]using a,λj s m=>?_,tz.1 (by simpa using e),rfl⟩;grind[ER]
def iL{x:Bt×V×Bd×V}(h:DI x.1):Ao (RM x) λr=>r.2=0->DI r.1/\∃o,0<=x.2.1/\x.1.1[x.2.1.toNat]?=Y o/\r.1.1=ER x.1.1 x.2.1 (x.2.2.1.take x.2.2.2.toNat++o.drop x.2.2.2.toNat):=by
 have⟨C,s,n,t⟩:=h;refine AA (Nk (by dsimp only;rw[n];simp)) λF i=>AL (λg=>AB (O! · g)) (λg=>AC (y? n!) (λc0=>AC (y? n!) (λB=>AL (y? n!) (λv=>?_))));have⟨b,c,E_⟩:=i g;simp only[T]at v;refine AA (Ac w!) λw j=>AA (Ac (by rw[n];simp)) λz k=>AA (Ac (by rw[t];simp)) λA m=>?_;have j:w=x.1.1:=k!
 have k:z=[]:=k!
 have m:A=[]:=k!
 subst j k m;refine AA (CW (Ae _)) λG e=>AA (AI b c) λH _=>AA (AI b c) λq p=>?_;have D_:=s _ _ p.1;refine AA (CW o! i! (by simp[T])) λI f=>AA (CM (by simp only[T]at f;omega)) λJ u=>AA (AI b c) λ_ _=>AA (AI b c) λ_ _=>AA (SG q!) λy d=>AB λ_=>⟨h.set rfl (by simp only[T]at f;omega) d,q,b,p.1,?_⟩
 dsimp only;rw[u.1,e.1,f.1,BN (l:=q.drop _) (by simp[T])];simp
def whole{l:S Bd}{i:Q}{s o a b r:Bd}(h:T s=256)(f:∀(i:Q)(s:Bd),l[i]?=Y s->W s=256)(hr:r=a++b)(c:a=List.take (ο 256-ο 0) (List.drop (ο 0) s))(d:b=List.take ((T o).toNat-ο 256) (List.drop (ο 256) o))(g:l[i]?=Y o):r=s:=by have j:=f _ _ g;have e:List.drop (ο 256) o=[]:=mF (by simp only[Int.reduceToNat];omega);simp only[T]at h;rw[hr,c,d,e,List.take_nil,DT];exact BN w!
def eY{x:Bt×V×Bd}(h:DI x.1):Ao (QU x) λr=>r.2=0->DI r.1/\0<=x.2.1/\r.1.1=ER x.1.1 x.2.1 x.2.2:=by
 have⟨B,o,i,j⟩:=h;refine AA (Nk (by dsimp only;rw[i];simp)) λC g=>?_;refine AL (λb=>AB (λc=>absurd c b)) (λb=>?_);refine AL (λb=>AB (λc=>absurd c (by decide))) (λd=>?_);refine AP (λb=>AB (λc=>absurd c (by decide))) (λq=>?_);refine AA (Ac (by simp;omega)) λy t=>?_;refine AA (Ac (by rw[i];simp)) λz u=>?_;refine AA (Ac (by rw[j];simp)) λA v=>?_;have l:y=x.1.1:=by grind
 have m:z=[]:=by grind
 have n:A=[]:=by grind
 subst l m n;have l1: ∀s,s.1=0->Ag (Nh x) s=some s.2:=λs e=>by rw[HV];unfold Nh;rw[j,e];rfl
 rw[l1 _ rfl];apply BJ;have l2: ∀a s,a.1=[]->s.2.1=0->Ag (Ni x a) s=some (s.1,(s.2.2.2.2.2.2.1,(s.2.2.2.2.2.1,s.2.2.2.2.2.2.2))):=λa s f e=>by rw[HV];unfold Ni;rw[f,e];rfl
 have w: ∀a s,a.1=[]->s.1=0->Ag (Nj a) s=some (s.2.2.2.2.2.1,(s.2.2.2.2.1,s.2.2.2.2.2.2)):=λa s f e=>by rw[HV];unfold Nj;rw[f,e];rfl
 rw[l2 _ _ rfl rfl];repeat' with_reducible first|apply AC<;>intro b|apply AO<;>intro b|apply AP<;>intro b|apply AL<;>intro b|apply AK<;>intro b|(apply BJ;try dsimp only)|apply Bn|apply B5|apply AB|(rw[w _ _ rfl rfl];apply BJ;dsimp only)|(refine AM ?_ (SG ?_);intro r hr)|(refine AM ?_ (AI ?_ ?_);rintro r ⟨hr,q⟩)|(refine AM ?_ (Ac ?_);rintro r ⟨hr,k,p⟩)|(refine AM ?_ (CM ?_);rintro r ⟨hr,k⟩)|(refine AM ?_ (CW ?_ ?_ ?_);rintro r ⟨hr,k⟩)
 all_goals first|omega|(simp;done)|(intro c;exact absurd c (by decide))|(exact λ_=>⟨h.set rfl (by grind) hr,(g (by assumption)).1,congrArg (ER _ _) (whole d o (by assumption) (by assumption) (by assumption) (by assumption))⟩)|(cases b;done)|grind
def DC(p:Bx):Q:=p.2.1.countP λf=>f.2.1
def UC(p:Bx):Q:=p.2.1.countP λf=>f.2.2.2
def ABB{a:Type}{l:S a}{i:Q}{o n:a}{q:a->R}(h:l[i]?=Y o):(l.set i n).countP q+(if q o=E then 1 else 0)=l.countP q+(if q n=E then 1 else 0):=k!
theorem ME{x:Bx×V×BK}(h:W x.1.2.1<=16777216)(a:0<=x.2.1/\x.2.1<W x.1.2.1):Ao (Ij x) λr=>r=(x.1.1,x.1.2.1.set x.2.1.toNat x.2.2,x.1.2.2):=by refine AA (Ac (by simpa using h)) λr hr=>?_;have⟨hr,b,_⟩:=hr;subst hr;refine AA (AI a.1 a.2) λ_ _=>AA (AI a.1 a.2) λ_ _=>AB rfl
def core(f:BK):AQ×R×V:=(f.1,f.2.1,f.2.2.1)
def CF(l:S BK):S (AQ×R×V):=l.map core
def AIb{l:S BK}{i:Q}{f g:BK}(h:l[i]?=Y f)(a:core g=core f):CF (l.set i g)=CF l:=by unfold CF;apply JW;grind
theorem tX{l m}(h:CF m=CF l){i:Q}{f:BK}(a:m[i]?=Y f):∃g,l[i]?=Y g/\core g=core f:=by
 have:(CF m)[i]?=Y (core f):=by unfold CF;rw[List.getElem?_map,a];rfl
 rw[h]at this;unfold CF at this;grind
def AIa{l m}(h:CF m=CF l):W m=W l:=by have:=E! W h;simpa[CF]using this
def AB4{p}:DC p=(CF p.2.1).countP λc=>c.2.1:=by unfold DC CF;rw[List.countP_map];rfl
theorem Kv.congr{l m}{n}(h:CF m=CF l)(d:Kv l n):Kv m n:=by refine⟨λi f r b=>?_,λi j f g c s b q=>?_⟩;have⟨g,a,o⟩:=tX h b;have:=d.1 i g r a;grind[core,pz];have⟨e,a,o⟩:=tX h b;have⟨k,p,t⟩:=tX h q;have:=d.2 i j e k c s a p;grind[core]
def Pz.uniq{p}(h:Pz p){i j:Q}{f g:BK}(a:p.2.1[i]?=Y f)(b:p.2.1[j]?=Y g)(e:f.1.1=g.1.1):f=g:=by have c:=h.2.2.2.2.2.2;grind
def YK{c:U (AQ×R×V)}{z:V}{s:Bx}(h:c=CF s.2.1/\z=s.1/\0<=s.2.2/\s.2.2<s.2.1.length/\s.2.1.length<=64):Ao (Ag SJ s) λr=>c=CF r.2.1/\z=r.1/\0<=r.2.2/\r.2.2<r.2.1.length/\r.2.1.length<=64:=by
 refine AW (λs=>c=CF s.2.1/\z=s.1/\0<=s.2.2/\s.2.2<s.2.1.length/\s.2.1.length<=64) UC h (λs n=>?_);have⟨k,l,i,j,m⟩:=n;refine AA (AI i j) λf q=>AK (λo=>?_) (λo=>AB ⟨k,l,i,j,m⟩);refine AA (AI i j) λd t=>?_;have e:d=f:=k!
 subst e;refine AA (ME d! ⟨i,j⟩) λp u=>?_;subst u;refine AP (λv=>?_) (λv=>AB ?_);grind;rw[(AY (x:=s.2.2+1))];refine⟨⟨?_,l,(qG (T (s.2.1.set s.2.2.toNat (d.1,d.2.1,d.2.2.1,false))) (a:=s.2.2+1) o!),(qF (s.2.2+1) (b:=T (s.2.1.set s.2.2.toNat (d.1,d.2.1,d.2.2.1,false))) w!),by rw[WT];exact m⟩,?_⟩;rw[k];exact(AIb (g:=(d.1,d.2.1,d.2.2.1,false)) q.1 rfl).symm;unfold UC;grind
def cF{x}:Ao (Pf x) λr=>(r.2.2=0->Pz x/\Pz r.1/\CF r.1.2.1=CF x.2.1/\oV r.1 r.2.1)/\(Pz x->W x.2.1≠0->r.2.2=0):=by refine AA EW λv g=>AO (λc=>AB ⟨n!,λh _=>?_⟩) (λc=>?_);grind;have b:=g.1 c;have e:=b;have⟨k,l,m,i,n,o⟩:=b;refine AP (λa=>AB ⟨n!,λ_ h=>O! a (by simpa[T]using h)⟩) (λa=>?_);simp only[T]at a;refine AA (YK ⟨rfl,rfl,i,o!⟩) λp b=>?_;have⟨q1,q2,q3,q4,q5⟩:=b;refine AA (AI q3 q4) λf d=>?_;have j:=AIa q1;refine AB ⟨λ_=>⟨e,⟨d!,d!,d!,q3,.inr q4,?_⟩,q1.symm,_,f,d.1,rfl⟩,λ_ _=>rfl⟩;grind[Kv.congr]
def iP{x}:Ao (NA x) λr=>Pz x.1->∀(i:Nat)(f:BK),x.1.2.1[i]?=Y f->f.1.1=x.2->f.2.1=X->(∀g∈r.1.2.1,g∈x.1.2.1)/\∀g∈x.1.2.1,g.2.1=E->g∈r.1.2.1:=by
 unfold NA;refine AA EW λv A=>AO (λn=>AB λo=>O! (A.2 o) (by simp[n])) (λn=>?_);have o:=A.1 n;have T:=o.2.1;have U:=o.2.2.1;refine AA (Gl o!) λi G=>?_;have⟨R,J,K,L⟩:=G;refine AC (λn=>AB λ_ j f p e _=>O! ⟨j,f,p,e⟩ (L n)) (λH=>?_);have⟨k,I,t⟩:=K o!;refine AA (AI o! J) λw Q=>?_;have B:w=k:=by grind[Option.some.inj]
 subst B;refine AK (λu=>AB λ_ j f p e l=>?_) (λu=>?_);have:=o.uniq p I (by rw[e,t]);subst this;rw[u]at l;cases l;have O:=AY (x:=i+1);refine AA (BX) λa C=>AA (BX o! b! i!) λb D_=>?_;have S:=C.2;have M:=D_.2;simp[len]at M;refine AA (Ac (by rw[Bj];omega)) λc s=>?_;have N:=s.2.1;rw[Bj]at N;refine AA (Ac o!) λd E_=>?_;have q:∀(j:Nat)(f:BK),x.1.2.1[j]?=Y f->f.1.1=x.2->f.2.1=X->(∀g∈d,g∈x.1.2.1)/\∀g∈x.1.2.1,g.2.1=E->g∈d:=by intro j f p e l;refine⟨λg y=>?_,λg y F=>?_⟩;grind[List.mem_of_mem_take,List.mem_of_mem_drop];have⟨m,z⟩:=Db y;rw[(by grind[List.take_of_length_le,List.length_drop]:d=x.1.2.1.take i.toNat++x.1.2.1.drop (i.toNat+1)),Ak];rcases Q9 m i.toNat with h|h|h;exact .inl (BP (i:=m) (by rw[II h];exact z));grind[Option.some.inj];exact .inr (BP (i:=m-(i.toNat+1)) (by rw[KD];rw[show i.toNat+1+(m-(i.toNat+1))=m by omega];exact z))
 refine AA (P:=λ_=>True) (AC (y? trivial) (y? trivial)) λV _=>AA (P:=λ_=>True) (AC (y? trivial) (y? trivial)) λW _=>AB λ_=>q
theorem fC{x:Bx×V×V}:Ao (QV x) λr=>r.2=0->Pz x.1/\DC r.1<=DC x.1/\(∀(i:Q) (f:BK),x.1.2.1[i]? =some f->f.1.1=x.2.1->f.2.1=true->f.1.2.1=x.2.2->DC r.1<DC x.1)/\(∀g∈r.1.2.1,∃f∈x.1.2.1,f.1.1=g.1.1/\f.1=g.1)/\ ∀f∈x.1.2.1,f.1.1≠x.2.1->f∈r.1.2.1:=by
 refine AA EW λv C=>?_;refine AO (λb=>AB (λo=>absurd o (by decide))) (λb=>?_);have l:=C.1 b;have J:=l.2.2.1;have I:=l.2.1;refine AA (Gl (by dsimp only;omega)) λi B=>?_;have⟨G,D_,E_,H⟩:=B;refine AC (λb=>AB (λo=>absurd o (by decide))) (λb=>?_);have⟨f,c,d⟩:=E_ (by omega);refine AA (AI (by omega) D_) λg z=>?_;have e:g=f:=by grind
 subst e;refine AC (λb=>AB (λo=>absurd o (by decide))) (λA=>?_);refine AO (λs=>AB (λ_=>⟨l,Al _,λj k m a h _=>?_,λg z=>⟨g,z,rfl,rfl⟩,λf c _=>c⟩)) (λs=>?_)
 ·have:=l.uniq m c (by rw[a,d]);subst this;rw[s]at h;cases h
 refine AA (P:=λn:BK=>(g.1.2.1=x.2.2->n.2.1=false)/\n.1=g.1) ?_ λn hn=>?_
 ·repeat' with_reducible first|refine AC ?_ ?_<;>intro b|refine AO ?_ ?_<;>intro b|refine AP ?_ ?_<;>intro b|refine AK ?_ ?_<;>intro b|(refine BJ ?_;try dsimp only)|refine Bn ?_|refine B5 ?_|refine AB ?_|(refine AM ?_ (AI ?_ ?_);rintro r ⟨hr,F⟩)
  all_goals grind
 ·refine AA (ME (by dsimp only;omega) ⟨by dsimp only;omega,by dsimp only;omega⟩) λp y=>?_;subst y;refine AB λ_=>?_;have u:=ABB (q:=λf:BK=>f.2.1) (n:=n) c;rw[s]at u;refine⟨l,?_,λj k m a h t=>?_,ACp c hn.2,λk m w=>ym c k m (by rw[d];exact w)⟩
  ·unfold DC;dsimp only;simp at u;split at u<;>omega
  ·have:=l.uniq m c (by rw[a,d]);subst this;rw[hn.1 t]at u;unfold DC;dsimp only;simp at u;omega
def TD{x}:Ao (DN x) λr=>r.2=0->Hg x/\r.1=IM x:=by have⟨v,b,h⟩:=OX (x:=x);by_cases a:v=0;exact⟨_,Ym (h a),λ_=>⟨h a,rfl⟩⟩;unfold DN;rw[b,AD];exact AL (y? λe=>O! e a) (O! · a)
theorem tG:I7 ()=Y (kD 256):=by unfold I7;rw[yv g!];rfl
def YG{x:Bd}{s:V×AQ×AQ}(h:0<=s.1/\s.1<=16/\W x=256):Ao (Ag (Gw x) s) λr=>∀u,r=.inl u->u.1=4:=by
 refine AW (λs=>0<=s.1/\s.1<=16/\W x=256) (λs=>(16-s.1).toNat) h (λs e=>?_);unfold Gw;obtain⟨g,i,j⟩:=e;have b:=AY (x:=s.1*13);have c:=AY (x:=12+s.1*13);have d:=AY (x:=12+s.1*13+1);rw[b,c,d];repeat' with_reducible first|intro a|apply AC|apply AP|apply AK|apply AB|(refine AM ?_ (Dd ?_ ?_);intro r hr)|(refine AM ?_ (CW ?_ ?_ ?_);rintro r ⟨hr,f⟩)|(refine AM ?_ (Rs ?_ ?_);rintro r ⟨hr,f⟩)
 all_goals try dsimp only[T]at*
 all_goals first|omega|grind[AY]
def bo{x:Bd}(h:W x<=1099511627776):Ao (El x) λr=>(r.2=0->Hg r.1/\x=IM r.1/\x≠kD 256)/\(r.2=7->x=kD 256):=by
 unfold El;rw[tG,AD];repeat' with_reducible first|intro b|apply AP|apply AL|apply AK|(apply BF;try dsimp only)|(apply A0;try dsimp only)|(apply BG<;>(intro u c;try subst c))|apply AB|(refine AM ?_ (Cp ?_);intro r hr)|(refine AM ?_ (QT ?_);intro r hr)|(refine AM ?_ (YG ?_);intro r hr)|(apply AA (TD);intro r hr)|(refine AM ?_ (CW ?_ ?_ ?_);rintro r ⟨hr,d⟩)
 all_goals try dsimp only[T]at*
 all_goals first|trivial|omega|(exact⟨n!,n!⟩)|grind
def js{x}:Ao (Cu x) λr=>r=(x,0,GG.all (X,[])):=by
 unfold Cu;exact x!
def Rd(s:Bd)(p:V)(q:AQ):Prop:=q.1=p/\((s=kD 256/\q=(p,0,GG.all (X,[])))\/(Hg q/\s=IM q/\s≠kD 256))
def ZA{x:Bd×V}(h:W x.1<=1099511627776):Ao (Co x) λr=>r.2=0->Rd x.1 x.2 r.1:=by refine AC (y? n!) (λ_=>AC (y? n!) (λ_=>AA (bo h) λv c=>AP (λd=>?_) (λ_=>AP (λf=>AL (y? n!) (λb=>AB λa=>⟨b,.inr (c.1 a)⟩)) (λhn=>AB λa=>O! a hn))));exact AA js λw e=>AB λ_=>by rw[e];exact⟨rfl,.inl ⟨c.2 d,rfl⟩⟩
def fE{x:Bv×V×V×Bd}(h:W x.2.2.2<=1099511627776):Ao (MF x) λr=>r.2=0->Rd x.2.2.2 x.2.1 r.1:=by
 unfold MF;repeat' with_reducible first|intro a|apply AC|apply AO|apply AL|apply AK|apply AB|(apply AA (GN);intro r hr)|(refine AM ?_ (ZA ?_);intro r hr)|(refine AM ?_ (AI ?_ ?_);rintro r ⟨hr,c⟩)
 all_goals try dsimp only[T]at*
 all_goals first|assumption|omega|(intro b;exact O! b v!)|(intro b;exact O! b g!)|(intro _;exact hr v!)|grind
def UX{x}:Ao (I9 x) λr=>(r.2=0->PG x.2/\Gy x.1.2.2 x.2.2.1=Y x.2.2.2.1)/\(PG x.2->x.2.1=x.1.1->Gy x.1.2.2 x.2.2.1=Y x.2.2.2.1->r=((x.1.1,x.1.2.1,Xe x.1.2.2 x.2.2.1 x.2.2.2.2),0)):=by unfold I9;refine AA UY λv g=>AO (λe=>AB ⟨n!,λh=>O! (g.2 h) (by simp[e])⟩) (λe=>?_);have b:=g.1 e;refine AL (λe=>AB ⟨n!,λ_ h=>O! h e⟩) (λj=>?_);obtain⟨c,i,_⟩:=Dd (a:=x.1.2.2) b.2.2.1 b.2.2.2.1;rw[i];refine BJ (BJ (AK (λd=>AB ⟨n!,λ_ _ h=>?_⟩) (λd=>BJ (BJ (AB ⟨λ_=>⟨b,?_⟩,λ_ _ _=>rfl⟩)))));rw[BW h]at d;simp at d;obtain⟨k,l⟩:=c;simp at d;rw[d.1,d.2]
def AB3{x}{e}(h:Hg x)(d:Mc e)(f:e.2.1=1\/e.2.1=2)(b:e.2.2.2.2.2.2.1.1=x.1)(g:e.2.2.2.2.1=x.2.1)(c:Gy x.2.2 e.2.2.2.2.2.2.1.2.1=Y e.2.2.2.2.2.2.1.2.2.1):JG (x,e)=Y (upd x e,0):=by
 suffices i:Ao (JG (x,e)) λr=>r=(upd x e,0) by obtain⟨r,hr,rfl⟩:=i;exact hr
 have a:PG e.2.2.2.2.2.2.1:=by grind[Mc,Vw]
 refine AA Cc λv j=>AO (λa=>O! (j.2 d) (by simp[a])) (λ_=>AA CR λw k=>AO (λa=>O! (k.2 f) (by simp[a])) (λ_=>?_));rw[tY h];refine BJ (AL (O! rfl ·) (λ_=>AL (O! b ·) (λ_=>AL (O! g ·) (λ_=>AA UX λr hr=>?_))));rw[hr.2 a b c];exact AL (O! rfl ·) (y? rfl)
def eu{x:AE×S AE}(h:W x.2<=16777215):Ao (MA x) λr=>r=x.1::x.2:=by
 unfold MA;exact x!
def Gv(L:S AE):Prop:=∀(i:Q)(e:AE),L[i]?=Y e->e.1=1+i/\Mc e
def Dg.num{l}(h:Dg l)(a:l.1=1):Gv l.2.1:=λi e b=>by have:=h.2.2.2.2.2 i e b;rw[a]at this;exact this
def Gv.take{L}(h:Gv L)(k:Q):Gv (L.take k):=λi e a=>h i e k!
def fa{L:S AE}{k:Q}(h:k<W L):L.take (k+1)=L.take k++[L[k]]:=by rw[Cl,Au h];rfl
def Gv.at{L}(h:Gv L){k:Q}(a:k<W L):L[k].1=1+k/\Mc L[k]:=h k _ (Au a)
def YT{L}(h:Gv L)(p:V):BY L p<=W L:=by
 have:=pL (p:=p) (b:=W L+1) L 0 o! λe c=>by have⟨i,a⟩:=Db c;have:=(h i e a).1;have:=Cv a;omega
 unfold BY;omega
def Rx{L}(h:Gv L)(p:V)(j:Q):∀k:Q,j<=k->BY (L.take j) p<=BY (L.take k) p
 |0,hj=>by rw[show j=0 by omega];exact Ae _
 |k+1,hj=>by by_cases e:j=k+1;rw[e];exact Ae _;have c:=Rx h p j k o!;by_cases a:k<W L;rw[fa a,Px];have b:=YT (h.take k) p;have d:=(h.at a).1;rw[BQ]at b;split<;>omega;rw[BN (l:=L) (i:=k+1) o!];rwa[BN (l:=L) (i:=k) o!]at c
def yJ{L}(h:Gv L){p}{i:Q}{e:AE}(a:L[i]?=Y e)(c:aT p e=E){k:Q}(d:i<k):e.1<=BY (L.take k) p:=by have b:=Cv a;have:=Rx h p (i+1) k d;rw[fa b,Px,(BW ((Au b).symm.trans a):L[i]=e),C! c]at this;exact this
def xE{L}(h:Gv L){p}{j k}(g:BY (L.take j) p=BY (L.take k) p):((L.take k).drop j).filter (aT p)=[]:=by refine List.filter_eq_nil_iff.2 λe f d=>?_;obtain⟨i,a⟩:=Db f;rw[KD]at a;have b:=Cv a;rw[BQ]at b;rw[II o!]at a;have:=yJ h a d (k:=k) o!;have c:=YT (h.take j) p;have:=(h _ _ a).1;rw[BQ]at c;omega
def vZ(L:S AE){j k:Q}(h:j<=k):L.take k=L.take j++(L.take k).drop j:=by
 conv=>lhs;rw[<-DG j (L.take k)]
 rw[Kh,RD h]
def ai{L:S AE}{p}{j k:Q}(h:j<=k):st (L.take k) p=(((L.take k).drop j).filter (aT p)).foldl upd (st (L.take j) p):=by
 conv=>lhs;rw[vZ L h]
 exact ACr _ _ _
theorem mg{L}(h:Gv L){p}{j k}(b:BY (L.take j) p=BY (L.take k) p):st (L.take j) p=st (L.take k) p:=by rcases Nat.le_total j k with a|a;rw[ai a,xE h b];rfl;rw[ai a,xE h b.symm];rfl
def tN{L}(h:Gv L){p:V}:∀{k},0<BY (L.take k) p->∃(i:Q)(e:AE),i<k/\L[i]?=Y e/\aT p e=E/\(i:V)+1=BY (L.take k) p
 |0,hk=>O! hk (by simp[BY])
 |k+1,hk=>by by_cases b:k<W L;rw[fa b,Px]at hk⊢;by_cases a:aT p L[k]=E;rw[C! a];exact⟨k,L[k],o!,Au b,a,by have:=(h.at b).1;omega⟩;rw[D! a]at hk⊢;obtain⟨i,e,d,r⟩:=tN h hk;exact⟨i,e,o!,r⟩;rw[BN (l:=L) (i:=k+1) o!]at hk⊢;rw[<-BN (l:=L) (i:=k) o!]at hk;obtain⟨i,e,d,f,g,c⟩:=tN h hk;rw[BN (l:=L) (i:=k) o!]at c;exact⟨i,e,o!,f,g,c⟩
def Ry{L}(h:Gv L)(p:V)(k:Q):0<=BY (L.take k) p:=Rx h p 0 k (BU _)
def Ut{L}(h:Gv L){p}{k}:BY (L.take (BY (L.take k) p).toNat) p=BY (L.take k) p:=by
 have f:=Ry h p k;by_cases d:BY (L.take k) p=0;rw[d];rfl;obtain⟨i,e,g,a,c,hn⟩:=tN h (by omega:0<BY (L.take k) p);have b:(BY (L.take k) p).toNat=i+1:=o!
 have:=yJ h a c (k:=i+1) o!;have:=YT (h.take (i+1)) p;have:=(h i e a).1;rw[b];rw[BQ]at*;omega
theorem XY{L}(h:Gv L){p:V}(b:0<=p/\p<64)(d:W L<=1099511627776):∀k:Q,Hg (st (L.take k) p)
 |0=>⟨b.1,b.2,Ae 0,(by decide:(0:V)<=1099511627776),λi=>⟨⟨BU 12,.inr rfl⟩,λ_=>rfl⟩⟩
 |k+1=>by
  have a:=XY h b d k;by_cases c:k<W L;rw[fa c,ABz];split;rename_i m;have⟨g,j⟩:=h.at c;have e:PG L[k].2.2.2.2.2.2.1:=by grind[Mc,Vw,aT]
  refine⟨a.1,a.2.1,by show 0<=L[k].1;omega,by show L[k].1<=_;omega,λi=>⟨?_,λf=>?_⟩⟩;show G6 (Xe _ _ _ i);unfold Xe;split;exact e.2.2.2.2.2;exact(a.2.2.2.2 i).1;have:L[k].1=0:=f;omega;exact a;rw[BN (l:=L) (i:=k+1) o!];rwa[BN (l:=L) (i:=k) o!]at a
def OKs:AQ->S AE->Prop
 |_,[]=>O
 |x,e::r=>(Hg x/\Mc e/\(e.2.1=1\/e.2.1=2)/\e.2.2.2.2.2.2.1.1=x.1/\e.2.2.2.2.1=x.2.1/\Gy x.2.2 e.2.2.2.2.2.2.1.2.1=Y e.2.2.2.2.2.2.1.2.2.1)/\OKs (upd x e) r
def OKs.snoc:∀{x}{l}{e:AE},OKs x l->OKs (l.foldl upd x) [e]->OKs x (l++[e])
 |_,[],_,_,h=>h
 |_,_::_,_,h,g=>⟨h.1,OKs.snoc h.2 g⟩
def rK{n}{L}(h:Gv L)(g:LI n L){p:V}(o:0<=p/\p<64)(m:W L<=1099511627776)(j:Q):∀k:Q,j<=k->OKs (st (L.take j) p) (((L.take k).drop j).filter (aT p))
 |0,hj=>by rw[show j=0 by omega];exact trivial
 |k+1,hj=>by
  by_cases e:j=k+1;rw[e,Rl (by rw[BQ];omega)];exact trivial;have c:=rK h g o m j k o!;by_cases b:k<W L;rw[fa b,mE (by rw[BQ];omega),GL,Mu,mI];split;rename_i q;refine c.snoc ⟨?_,P!⟩;rw[<-ai o!];have r:=g k _ (Au b);have a:(L[k].2.1=1\/L[k].2.1=2)/\L[k].2.2.2.2.2.2.1.1=p:=by simpa[aT]using q
  have⟨d,f⟩:=r.1 a.1;rw[a.2]at d f;exact⟨XY h o m k,(h.at b).2,a.1,by rw[a.2,Se],by rw[d,Jf],f⟩;rw[DT];exact c;rw[BN (l:=L) (i:=k+1) o!];rwa[BN (l:=L) (i:=k) o!]at c
def iC{L}(h:Gv L){p}{m j k:Q}(l:m<=j)(n:BY (L.take m) p=BY (L.take j) p):((L.take k).drop m).filter (aT p)=((L.take k).drop j).filter (aT p):=by rw[<-DG (j-m) ((L.take k).drop m),GL,LL,show m+(j-m)=j by omega];refine(E! (· ++_) (List.filter_eq_nil_iff.2 λe g f=>?_)).trans (B7 _);obtain⟨i,a⟩:=Db g;have c:=Cv a;rw[BQ]at c;rw[II o!,KD]at a;have b:=Cv a;rw[BQ]at b;rw[II o!]at a;have:=yJ h a f (k:=j) o!;have d:=YT (h.take m) p;have:=(h _ _ a).1;rw[BQ]at d;omega
def AJU{n}{l}(t:Dg l)(C:l.1=1)(I:LI n l.2.1){p:V}(T:0<=p/\p<64){j k:Nat}(A:BY (l.2.1.take j) p<=BY (l.2.1.take k) p):Ao (RN (l,p,BY (l.2.1.take k) p,BY (l.2.1.take j) p)) λr=>r=(((l.2.1.take k).drop j).filter (aT p),0):=by
 have b:=t.num C;have O:=Ry b p k;have Q:=Ry b p j;have R:=t.2.2.1;refine AA Bb λv B=>AO (λa=>O! (B.2 t) (by simp[a])) (λ_=>AC (O! · d!) (λ_=>AC (O! · d!) (λ_=>AC (O! · d!) (λ_=>AC (O! · d!) (λ_=>AA (P:=λr=>r=.inr (((l.2.1.take k).drop j).filter (aT p),BY (l.2.1.take j) p)) ?_ λr hr=>?_)))))
 ·refine CQ (λs=>∃m:Nat,m<=k/\s=(((l.2.1.take k).drop m).filter (aT p),BY (l.2.1.take m) p)/\BY (l.2.1.take j) p<=s.2) (·.2.toNat) ⟨k,Al _,by rw[Rl (by rw[BQ];omega)];rfl,A⟩ ?_;rintro s ⟨m,S,rfl,x⟩;unfold Ua;dsimp only at x⊢;refine AC (λa=>?_) (λa=>k? ?_)
  ·obtain⟨i,e,K,q,o,J⟩:=tN b (by omega:0<BY (l.2.1.take m) p);have z:=Cv q;have c:(e.2.1=1\/e.2.1=2)/\e.2.2.2.2.2.2.1.1=p:=by simpa[aT]using o
   refine AA HG λg D_=>?_;have F:=D_.2 t d! d!;have⟨_,_,u,_⟩:=D_.1 F;dsimp only at u;rw[C,show(BY (l.2.1.take m) p-1).toNat=i by omega,q]at u;rw[F,<-BW u];refine AL (O! rfl ·) (λ_=>AA CR λw N=>AO (λa=>O! (N.2 c.1) (by simp[a])) (λ_=>AL (O! c.2 ·) (λ_=>?_)));have y:=EH (aT p) ((l.2.1.take k).drop m);rw[C2,BQ]at y;have d:=((I i e q).1 c.1).1;rw[c.2]at d;have E_:=Ut b (p:=p) (k:=m);rw[show(BY (l.2.1.take m) p).toNat=i+1 by omega]at E_;have L:=Ut b (p:=p) (k:=j);have M:=Rx b p (BY (l.2.1.take j) p).toNat i o!;refine AA (eu d!) λf H=>y! ⟨i,o!,?_,d!⟩ (by dsimp only;rw[d];have:=YT (b.take i) p;rw[BQ]at this;omega)
   rw[d,H,<-iC b (m:=i+1) (j:=m) o! E_,OO (l:=l.2.1.take k) (i:=i) (by rw[BQ];omega),Mu];have G:(l.2.1.take k)[i]'(by rw[BQ];omega)=e:=by rw[nY];exact BW ((Au z).symm.trans q)
   rw[G,C! o]
  have e:BY (l.2.1.take m) p=BY (l.2.1.take j) p:=o!
  rw[e];rcases Nat.le_total m j with h|h;rw[iC b h e];rw[iC b h e.symm]
 subst hr;exact A0 (AC (O! · d!) (y? rfl))
def AIm{n:V}{l:Aa}(f:Dg l)(C:l.1=1)(F:LI n l.2.1){p:V}(t:0<=p/\p<64){j k:Nat}:Ao (RW (l,(st (l.2.1.take j) p,BY (l.2.1.take k) p))) λr=>r=(if BY (l.2.1.take j) p<=BY (l.2.1.take k) p then st (l.2.1.take k) p else st (l.2.1.take j) p,0):=by
 generalize G:(if BY (l.2.1.take j) p<=BY (l.2.1.take k) p then st (l.2.1.take k) p else st (l.2.1.take j) p)=y;have d:=f.num C;have S:=Ry d p k;have T:=f.2.2.1;have q:=XY d t o!;suffices Q:Ao (RX (l,(st (l.2.1.take j) p,BY (l.2.1.take k) p))) λr=>r.1=y/\r.2.2=0 from AA Q λr hr=>AB (by rw[hr.1,hr.2]);refine AA (P:=λr=> ∃b:U AE,r=(b,0)/\b.length<=4096/\OKs (st (l.2.1.take j) p) b/\b.foldl upd (st (l.2.1.take j) p)=y) ?_ λr hr=>?_;refine AA Bb λv w=>AO (λa=>absurd (w.2 f) (by simp[a])) (λ_=>?_);rw[tY (q j)];refine BJ (AL (λa=>absurd rfl a) (λ_=>AC (λa=>absurd a d!) (λ_=>AC (λa=>AB ?_) (λa=>?_))));rw[Jf]at a;refine⟨[],rfl,q!,trivial,?_⟩;rw[<-G];split;exact mg d (by dsimp only at a;omega);rfl;rw[Jf]at a;have c:j<=k:=by rcases Nat.le_total j k with h|h;exact h;have:=Rx d p k j h;dsimp only at a;omega
 have e:((st (l.2.1.take j) p).1,(BY (l.2.1.take k) p,(st (l.2.1.take j) p).2.1))=(p,(BY (l.2.1.take k) p,BY (l.2.1.take j) p)):=by rw[Se,Jf]
 dsimp only at e⊢;rw[e];refine AA (AJU f C F t (by dsimp only at a;omega)) λr hr=>AB ⟨_,hr,?_,rK d F t o! j k c,by rw[<-G,if_pos (by dsimp only at a;omega)];exact(ai c).symm⟩;have o:=EH (aT p) ((l.2.1.take k).drop j);rw[C2,BQ]at o;omega
 ·obtain⟨b,rfl,m,O,u⟩:=hr;refine AL (λa=>absurd rfl a) (λ_=>AA (P:=λr=> ∃z,r= .inr (y,z)) ?_ λr hr=>?_)
  ·refine CQ (λ(s:V×AQ×AQ)=> ∃A B,b=A++B/\s.1=A.length/\OKs s.2.1 B/\B.foldl upd s.2.1=y) (λ(s:V×AQ×AQ)=>((b.length:V)-s.1).toNat) ⟨[],b,rfl,rfl,O,u⟩ ?_;rintro⟨i,x,z⟩ ⟨A,B,rfl,D_,E_,g⟩;dsimp only at D_ E_ g;subst D_;unfold Ud;dsimp only[len];rw[AZ]at m;refine AC (λa=>?_) (λa=>Ao.done ?_)
   ·obtain _|⟨e,B⟩:=B;simp at a;have R:ix (A++e::B) (A.length:V)=some e:=by unfold ix;rw[if_pos o!,CO,Cn (Al _),G2];rfl
    obtain⟨⟨H,I,J,K,L,M⟩,N⟩:=E_;rw[R,AD,AB3 H I J K L M,AD,AY (x:=(A.length:V)+1)];refine AL (λa=>absurd rfl a) (λ_=>Ao.next ⟨A++[e],B,q!,q!,N,g⟩ d!)
   obtain _|⟨e,B⟩:=B;exact⟨z,by rw[<-g];rfl⟩;simp at a;omega
  obtain⟨z,rfl⟩:=hr;exact A0 (AB ⟨rfl,rfl⟩)
variable {B:Int->Prop}
def KS(B:V->Prop)(k m:AT):Prop:=m.1=k.1/\LX k.2.2.1 m.2.2.1/\Dg m.2.2.1/\m.2.2.2.2.1=k.2.2.2.2.1/\m.2.2.2.2.2.1=k.2.2.2.2.2.1/\SK B m
def KS.refl{k}(h:SK B k)(a:Dg k.2.2.1):KS B k k:=⟨rfl,LX.refl _,a,rfl,rfl,h⟩
def KS.trans{a b c}(h:KS B a b)(g:KS B b c):KS B a c:=⟨g.1.trans h.1,h.2.1.trans g.2.1,g.2.2.1,g.2.2.2.1.trans h.2.2.2.1,g.2.2.2.2.1.trans h.2.2.2.2.1,g.2.2.2.2.2⟩
def LX.of{a b:Aa}(h:b.1=a.1)(g:b.2.1=a.2.1)(d:a.2.2<=b.2.2):LX a b:=⟨h,d,[],by rw[g,DT]⟩
def KI.of{k m:AT}(h:KI B k)(a:m.1=k.1)(b:m.2.2.1.2.1=k.2.2.1.2.1)(c:m.2.2.2.1=k.2.2.2.1)(d:m.2.2.2.2.2.2=k.2.2.2.2.2.2):KI B m:=by unfold KI;rw[a,b,c,d];exact h
def tc{x:Aa×V}(h:Dg x.1)(c:x.2<=x.1.1+W x.1.2.1-1):Ao (EO x) λr=>r.2=0:=by refine AA Bb λv d=>AO (λa=>?_) (λ_=>?_);grind;refine AA En λe b=>?_;rw[h.last]at b;exact AC (O! · o!) (y? rfl)
def KU{x:AT×V}(h:SK B x.1)(c:Dg x.1.2.2.1):Ao (GD x) λr=>KS B x.1 r/\r.2.2.2.1=x.1.2.2.2.1/\(x.2<=x.1.2.2.1.1+W x.1.2.2.1.2.1-1->x.2<=r.2.2.1.2.2):=by unfold GD;refine AA Fi λv d=>?_;have d:=d c;refine AA (KQ.and (tc c (by dsimp only;split<;>omega))) λw a=>?_;have⟨i,e,j,k,f⟩:=a.1 a.2;refine Bn (AP (λb=>AB ⟨⟨rfl,LX.of j e k,i,rfl,rfl,SB.sk h.sb (h.ki.of rfl e rfl rfl)⟩,rfl,λg=>?_⟩) (O! a.2 ·));dsimp only at f⊢;split at f<;>omega
def aC{x:AT×V×V}(h:SK B x.1)(p:∃f∈x.1.2.2.2.1.2.1,f.1.1=x.2.1/\f.1.2.1=x.2.2):Ao (KW x) λr=>r.2=0->VK x.1/\KS B x.1 r.1/\DC r.1.2.2.2.1<=DC x.1.2.2.2.1/\∀(i:Nat)(f:BK),x.1.2.2.2.1.2.1[i]?=Y f->f.1.1=x.2.1->f.2.1=E->f.1.2.1=x.2.2->DC r.1.2.2.2.1<DC x.1.2.2.2.1:=by unfold KW;refine AA (CK h.sb) λv O=>AO (λb=>AB n!) (λb=>?_);have A:=O b;refine AC (λb=>AB n!) (λ_=>AC (λb=>AB n!) (λ_=>AC (λb=>AB n!) (λ_=>AA Fi λ_ _=>AC (λb=>AB n!) (λ_=>AA Fk λi L=>AA (P:=λs=>(∃u,s=.inl u/\u.1≠0)\/∃u,s=.inr u/\(DC u.1<=DC x.1.2.2.2.1/\∀(i:Nat)(f:BK),x.1.2.2.2.1.2.1[i]?=Y f->f.1.1=x.2.1->f.2.1=E->f.1.2.1=x.2.2->DC u.1<DC x.1.2.2.2.1)/\(∀g∈u.1.2.1,∃f∈x.1.2.2.2.1.2.1,f.1.1=g.1.1/\f.1=g.1)/\∀f∈x.1.2.2.2.1.2.1,f.1.1≠x.2.1->f∈u.1.2.1) ?_ λs N=>?_))));refine AC (λb=>?_) (λb=>AB (.inr ⟨_,rfl,⟨Al _,λj f M q _ _=>O! (L.2.2.2 A.2.2.2.1 ⟨j,f,M,q⟩) b⟩,λg K=>⟨g,K,rfl,rfl⟩,λf n _=>n⟩));grind[AA,fC,AL,AB];rcases N with⟨u,rfl,t⟩|⟨u,rfl,t,m,y⟩;exact BF (AB λc=>O! c t);apply A0;refine AA (GC h.sb) λa J=>AL (λb=>AB (O! · b)) (λb=>AB λ_=>?_);have⟨_,⟨a1,a2,a3,a4,a5,a6,a7,a8,e,E_,Q,F,o,R,S,G⟩,_⟩:=J b;have⟨f,n,H,I⟩:=p;have⟨q0,w,C,D_⟩:=G rfl;have T:=h.ki.2.2 f n;have d:=E! (·.2.1) ((h.ki.2.1 x.2.1 o! o!).1 f n H);rw[Jf]at d;refine⟨A,⟨a1,a2,a3,a5,a6.2.1 rfl,a8.1,a8.2.1,a8.2.2,?_⟩,t⟩;unfold KI;dsimp only at F o C D_⊢;rw[a1,a7,E_,D_];have k:=E! (·.1) o;have l:=E! (·.2.1.1) o;dsimp only at k l;refine⟨h.ki.1.app ⟨λh=>o!,λ_=>?_,λh=>o!⟩,(h.ki.2.1.written o! o! o! m y C).app o!,h.ki.2.2.sub m⟩;rw[k,l,<-I];exact d
def iT{x}(h:SK B x):Ao (ND x) λr=>r.2.2.2=0->VK x/\KS B x r.1/\(r.2.2.1=E->DC r.1.2.2.2.1=DC x.2.2.2.1/\∃(i:Q)(f:BK),r.1.2.2.2.1.2.1[i]?=Y f/\f.1=r.2.1/\f.2.1=E/\r.2.1.2.1<=r.1.2.2.1.2.2):=by
 unfold ND;refine AA (CK h.sb) λv M=>AO (λn=>AB n!) (λn=>?_);have c:=M n;refine AC (λn=>AB (λ_=>⟨c,KS.refl h c.2.2.1,λt=>by cases t⟩)) (λm=>AA cF λw D_=>?_);have⟨_,F,O,P⟩:=D_.1 (D_.2 c.2.2.2.1 (by have:=c.2.2.2.1.1;simp[T]at m;omega));have G:∀g∈w.1.2.1,∃f∈x.2.2.2.1.2.1,core g=core f:=λg b=>by grind[List.getElem?_of_mem,tX,List.mem_of_getElem?]
 have H:∀f∈x.2.2.2.1.2.1,∃g∈w.1.2.1,core g=core f:=λf l=>by grind[List.getElem?_of_mem,tX,List.mem_of_getElem?]
 have u:∀{f g},core f=core g->f.1=g.1/\f.2.1=g.2.1:=λe=>⟨E! (·.1) e,E! (·.2.1) e⟩
 have k1:∀g∈w.1.2.1,∃f∈x.2.2.2.1.2.1,f.1.1=g.1.1/\f.1=g.1:=λg b=>by have⟨f,l,e⟩:=G g b;exact⟨f,l,by rw[(u e).1],by rw[(u e).1]⟩
 have N:∀f∈x.2.2.2.1.2.1,f.2.1=E->∃g∈w.1.2.1,g.1.1=f.1.1/\g.2.1=E:=λf l y=>by have⟨g,b,e⟩:=H f l;exact⟨g,b,by rw[(u e).1],by rw[(u e).2,y]⟩
 refine AA Fk λi A=>?_;have E_:=A.2.2.2 F P;refine AA (AI E_ A.2.1) λf l=>?_;have a:KI B (x.1,x.2.1,x.2.2.1,w.1,x.2.2.2.2):=⟨h.ki.1,h.ki.2.1.frames k1 N,h.ki.2.2.sub k1⟩
 apply AO<;>intro n;have⟨_,L,o,J⟩:=A.2.2.1 E_;have K:L=f:=by have:=l.1;rw[o]at this;exact BW this
 subst K;refine AA iP λd y=>AB λ_=>⟨c,⟨rfl,LX.refl _,c.2.2.1,rfl,rfl,h.1,h.2.1,h.2.2.1,?_⟩,λt=>by cases t⟩
 have⟨C,I⟩:=y F _ _ o J n;exact⟨h.ki.1,a.2.1.frames (λg b=>⟨g,C g b,rfl,rfl⟩) (λg b s=>⟨g,I g b s,rfl,s⟩),a.2.2.sub λg b=>⟨g,C g b,rfl,rfl⟩⟩;refine AA (KU (SB.sk ⟨h.1,h.2.1,h.2.2.1⟩ a) c.2.2.1) λk j=>AB λ_=>⟨c,j.1,λ_=>⟨?_,i.toNat,f,?_,rfl,n,j.2.2 ?_⟩⟩
 rw[j.2.1,AB4,AB4,O];rw[j.2.1];exact l.1;have q:=BP l.1;have p:=a.2.2 f q;have:=E! (·.2.1) ((a.2.1 f.1.1 p.1 p.2.1).1 f q rfl);dsimp only at this⊢;rw[this,Jf];have:=mV c.2.2.1 f.1.1;omega
def AIl(P:S AE)(p:V)(s:Bd):Prop:=s=kD 256\/∃j:Q,s=IM (st (P.take j) p)
def dead(s:Bd):Prop:=s≠kD 256/\∀q,Hg q->s≠IM q
def DP(B:V->Prop)(P:S AE)(d:Bt):Prop:=DI d/\∀(i:Q)(s:Bd),d.1[i]?=Y s->(B i->AIl P i s)/\(B i\/dead s)
def dl(l:Aa):S AE:=l.2.1.take l.2.2.toNat
def DJ(B:V->Prop)(l:Aa)(d:Bt):Prop:=l.1=1/\DP B (dl l) d
def DP.up{P Q:S AE}{d}{m}(h:DP B P d)(e:P=Q.take m):DP B Q d:=⟨h.1,λi s a=>⟨λb=>by rcases(h.2 i s a).1 b with q|⟨j,q⟩;exact .inl q;rw[e,Kh]at q;exact .inr ⟨_,q⟩,(h.2 i s a).2⟩⟩
def DJ.up{a b}{d}(h:DJ B a d)(g:LX a b):DJ B b d:=by obtain⟨c,f,t,e⟩:=g;refine⟨c.trans h.1,h.2.up (m:=min a.2.2.toNat (W a.2.1)) ?_⟩;unfold dl;rw[e,Kh,RD o!,WW o!,Nat.min_comm,<-Kh,BN (l:=a.2.1.take _) (by rw[BQ];omega)]
def AF1{L}(h:Gv L){p d:V}(f:BY L p<=d):st (L.take (ο d)) p=st L p:=by
 have e:=Hk (l:=L);have a:=Ut h (p:=p) (k:=W L);rw[e]at a;have b:=Rx h p (BY L p).toNat (ο d) o!
 have c:BY (L.take (ο d)) p<=BY L p:=by rcases Nat.le_total (ο d) (W L)with q|q;have:=Rx h p _ _ q;rwa[e]at this;rw[BN q];exact Ae _
 have:=mg h (p:=p) (j:=ο d) (k:=W L) (by rw[e];omega);rwa[e]at this
def Uf{x:AV×AT×AQ}(h:SK B x.2.1)(A:Dg x.2.1.2.2.1)(l:DJ B x.2.1.2.2.1 x.1.2)(n:∃f∈x.2.1.2.2.2.1.2.1,f.1=x.2.2)(y:x.2.2.2.1<=x.2.1.2.2.1.2.2):Ao (MR x) λr=>r.2=0->KS B x.2.1 r.1.1/\DJ B r.1.1.2.2.1 r.1.2/\DC r.1.1.2.2.2.1<=DC x.2.1.2.2.2.1/\((∃(i:Q)(f:BK),x.2.1.2.2.2.1.2.1[i]?=Y f/\f.1=x.2.2/\f.2.1=E)->DC r.1.1.2.2.2.1<DC x.2.1.2.2.2.1):=by
 have⟨f,m,b⟩:=n;have a:=h.ki.2.2 f m;have c:=(h.ki.2.1 f.1.1 a.1 a.2.1).1 f m rfl;refine D6 TD λv G _=>AA (eY l.2.1) λw L=>AL (λd=>AB (O! · d)) (λd=>AA (aC h ⟨f,m,by rw[b],by rw[b]⟩) λu K=>AL (λd=>AB (O! · d)) (λq=>AB λ_=>?_));have⟨D_,E_,M,N⟩:=K q;have⟨O,P,F⟩:=L d;refine⟨E_,DJ.up ⟨l.1,O,λi s j=>?_⟩ E_.2.1,M,λ⟨i,g,H,t,I⟩=>N i g H (by rw[t]) I (by rw[t])⟩;have C:=A.num l.1;have k:=XY C (p:=f.1.1) ⟨a.1,by have:=D_.2.1;have:=D_.1;dsimp only at*;omega⟩ (by have:=A.2.2.1;omega) (W x.2.1.2.2.1.2.1);rw[Hk,<-c,b]at k;rw[Ym k]at G;dsimp only at F j;rw[F]at j;by_cases J:i=x.2.2.1.toNat
 subst J;have e:s=IM x.2.2:=by unfold ER at j;grind
 rw[b]at a c;rw[show((x.2.2.1.toNat:Q):V)=x.2.2.1 by omega];refine⟨λ_=>.inr ⟨(dl x.2.1.2.2.1).length,?_⟩,.inl a.2.2.2⟩;rw[Hk,e];unfold dl;rw[AF1 C (by have:=E! (·.2.1) c;rw[Jf]at this;omega),<-c];exact l.2.2 i s (by unfold ER at j;rwa[List.getElem?_set_ne o!]at j)
def SvR(B:V->Prop)(s r:AV):Prop:=KS B s.1 r.1/\DJ B r.1.2.2.1 r.2
def ic{x:AV}(h:SK B x.1)(j:Dg x.1.2.2.1)(g:DJ B x.1.2.2.1 x.2):Ao (NI x) λr=>r.2=0->SvR B x r.1:=by unfold NI;refine AA (P:=λr=>r.1=0->SvR B x r.2) ?_ λr hr=>AB hr;refine AW (SvR B x ·.1) (DC ·.1.1.2.2.2.1) ⟨KS.refl h j,g⟩ (λs c=>?_);unfold Ue;refine AA (iT c.1.2.2.2.2.2) λv k=>AL (λa=>AB (O! · a)) (λa=>?_);have⟨q,b,m⟩:=k a;refine AO (λa=>AB (λ_=>⟨c.1.trans b,c.2.up b.2.1⟩)) (λd=>?_);have⟨q1,i,f,q2,q3,q4,q5⟩:=m d;refine AA (Uf b.2.2.2.2.2 b.2.2.1 (c.2.up b.2.1) ⟨f,BP q2,q3⟩ q5) λw l=>AL (λa=>AB (O! · a)) (λa=>AB ?_);have⟨n,o,t,p⟩:=l a;exact⟨⟨(c.1.trans b).trans n,o⟩,by have:=p ⟨i,f,q2,q3,q4⟩;dsimp only at*;omega⟩
end Go.Pm
namespace Go.Pm
open Go Go.Ab
variable {B:Int->Prop}
def YQ{x:AT×AQ}{s:V×U Ai}(h:0<=s.1/\s.1<=θ x.1.2.2.2.2.2.2.2/\θ x.1.2.2.2.2.2.2.2<=16777216/\s.2=(x.1.2.2.2.2.2.2.2.take s.1.toNat).filter (λd=>d.1 !=x.2.1)):Ao (Ag (Mo x) s) λr=>r=x.1.2.2.2.2.2.2.2.filter λd=>d.1 !=x.2.1:=by refine AW (λ(s:V×U Ai)=>0<=s.1/\s.1<=θ x.1.2.2.2.2.2.2.2/\θ x.1.2.2.2.2.2.2.2<=16777216/\s.2=(x.1.2.2.2.2.2.2.2.take s.1.toNat).filter (λd=>d.1 !=x.2.1)) (λ(s:V×U Ai)=>((θ x.1.2.2.2.2.2.2.2:V)-s.1).toNat) h (λs j=>?_);have⟨b,q,g,i⟩:=j;unfold Mo;refine AC (λf=>?_) (λf=>AB ?_);simp[T]at f;have m:=pG (l:=x.1.2.2.2.2.2.2.2) (p:=λd=>d.1 !=x.2.1) b;rw[<-i]at m;refine AA (AI b f) λv o=>?_;have e:=AY (x:=s.1+1);have n:=mT (p:=λd:Ai=>d.1 !=x.2.1) b o.1;refine AA (P:=λa=>a=(x.1.2.2.2.2.2.2.2.take (s.1+1).toNat).filter (λd=>d.1 !=x.2.1)) ?_ λa c=>AB ⟨⟨d!,d!,g,by dsimp only;rw[c,e]⟩,d!⟩;refine AK (λk=>?_) (λk=>AB ?_);grind[AA,AI,Option.some.inj,Ac,AB];grind;grind[List.take_of_length_le]
def cI{x:AT×AQ}(h:SK B x.1)(L:Br x.1=Y E->x.2=st x.1.2.2.1.2.1 x.2.1/\B x.2.1):Ao (K7 x) λr=>r.2=0->KS B x.1 r.1/\oV r.1.2.2.2.1 x.2.1:=by
 unfold K7;refine D6 (CK h.sb) λv O hv=>AO (λg=>AB n!) (λg=>?_);have K:=hv g;rw[g]at O;refine AC (λg=>AB n!) (λx0=>AC (λg=>AB n!) (λx1=>AA (K6 h.sb) λy1 al=>AC (λg=>AB n!) (λx2=>AA (K6 h.sb) λy2 ao=>AC (λg=>AB n!) (λx3=>?_))));have⟨R,Q⟩:=L O;refine AA EW λv3 _=>AO (λg=>AB n!) (λ_=>AA OX λv4 _=>AL (λg=>?_) (λ_=>?_));grind[AL,AB];have p2:=K.2.2.2.1.2.1;have p3:=K.2.2.2.1.2.2.1;refine AA (Gl d!) λi I=>AC (λg=>AB n!) (λA=>?_);have A:=I.2.2.2 o!;refine AP (λg=>AB n!) (λ_=>AA (Ac w!) λv8 C=>?_);have⟨C,Z,_⟩:=C;rw[B7]at C;subst C;refine AA (Ac w!) λc n=>?_;have⟨n,o,_⟩:=n;have q:c[θ c-1]?=Y (x.2,X,0,E):=by rw[n];simp
 have hn:(θ c:Int)-1=((θ c-1:Nat):Int):=by simp at o;omega
 have e:=AY (x:=(θ c:Int)-1) (by simp at o;omega);have k:∀f∈x.1.2.2.2.1.2.1,f.1.1≠x.2.1:=λf H e=>by have⟨i,I⟩:=Db H;exact A ⟨i,f,I,e⟩
 refine AA (KV h.sb) λt w=>AA (P:=λv:Ψ BK×AT×Int×Int×Int×Int×Int×Int=>(∃(i:Nat)(f:BK),v.1[i]?=Y f/\f.1.1=x.2.1)/\(v.2.1.1=x.1.1/\v.2.1.2.2.1=x.1.2.2.1/\v.2.1.2.2.2.2.1=x.1.2.2.2.2.1/\v.2.1.2.2.2.2.2.1=x.1.2.2.2.2.2.1/\SB v.2.1/\v.2.1.2.2.2.2.2.2.1=x.1.2.2.2.2.2.2.1)/\KP x.1.1 x.1.2.2.1.2.1 v.1 v.2.1.2.2.2.2.2.2.2 x.1.2.2.2.2.2.2.1/\FD B x.1.1 v.1 v.2.1.2.2.2.2.2.2.2) ?_ λa0 m=>?_
 ·refine AK (λs=>?_) (λs=>AB ⟨⟨_,_,q,rfl⟩,⟨rfl,rfl,rfl,rfl,h.sb,rfl⟩,?_,?_⟩);rotate_left 1;rw[n];exact h.ki.2.1.supply R k rfl (.inr ⟨rfl,w.2 s,rfl⟩);rw[n];exact h.ki.2.2.supply (p:=x.2.1) o! o! Q rfl (λd y=>y) (w.2 s);rw[hn]at e;simp only[len,hn,e];have z:θ c-1<θ c:=by simp at o;omega
  refine AA (AI) λap W=>AA (AI) λj X_=>?_;have V:j.1=x.2:=by grind[s?,Option.some.inj]
  have ad:(ER c ((θ c-1:Nat):Int) (j.1,E,j.2.2)).length=θ c:=by simp[ER]
  refine AA (AI) λar Y_=>AA (AI) λa F=>?_;have l:a.1=x.2:=by grind[s?,ER,List.getElem?_set_self,Option.some.inj]
  refine AA (YQ ⟨q!,q!,h.2.2.1,q!⟩) λax G=>?_;have u:a.2.1=E:=by have:=F.1;simp[CO,ER]at this;rw[HB z]at this;rw[<-BW this]
  have N:ER (ER c ((θ c-1:Nat):Int) (j.1,E,j.2.2)) ((θ c-1:Nat):Int) (a.1,a.2.1,t.1.2.1,a.2.2.2)=x.1.2.2.2.1.2.1++[(a.1,a.2.1,t.1.2.1,a.2.2.2)]:=by simp[ER,CO,Yr,(by rw[n];simp:θ c-1=θ x.1.2.2.2.1.2.1)];rw[n,To _ _ (Al _)];simp
  subst G;refine AB ⟨⟨θ c-1,(a.1,a.2.1,t.1.2.1,a.2.2.2),?_,by rw[l]⟩,⟨rfl,rfl,rfl,rfl,⟨h.1,h.2.1,Cq (EH _ _) h.2.2.1⟩,rfl⟩,?_,?_⟩;simp[ER,CO];rw[HB (by simpa using z)];rw[N];exact h.ki.2.1.supply R k l (.inl ⟨u,rfl⟩);rw[N];exact h.ki.2.2.supply (p:=x.2.1) o! o! Q (by rw[l]) (λd y=>(BR.1 y).1) (λd y=>by simpa using(BR.1 y).2)
 have⟨i,f,H,J⟩:=m.1;have⟨M,D_,S,T,E_,U⟩:=m.2.1;refine AB λ_=>⟨⟨M,by dsimp only;rw[D_];exact LX.refl _,by dsimp only;rw[D_];exact K.2.2.1,S,T,E_.1,E_.2.1,E_.2.2,?_⟩,i,f,H,J⟩
 unfold KI;dsimp only;rw[M,D_,U];exact⟨h.ki.1,m.2.2⟩
def AJz{x:AT×V}(h:Br x.1=Y X):Er x=Y 0:=by unfold Er;rw[h];rfl
def Rd.st{P}{p}{s}{q}(h:Rd s p q)(d:AIl P p s)(e:∀j,Hg (st (P.take j) p)):∃j:Q,q=Go.Pm.st (P.take j) p:=by obtain⟨_,⟨_,h⟩|⟨a,b,c⟩⟩:=h;exact⟨0,h⟩;rcases d with q|⟨j,q⟩;exact O! q c;exact⟨j,AEt a (e j) (b.symm.trans q)⟩
def H5{x:AV×Int}(h:SK B x.1.1)(g:DJ B x.1.1.2.2.1 x.1.2):Ao (E7 x) λr=>r.2=0->SvR B x.1 r.1/\oV r.1.1.2.2.2.1 x.2:=by
 unfold E7;refine AA (CK h.sb) λv X_=>AO (λa=>AB n!) (λa=>?_);have s:=X_ a;refine AC (λa=>AB n!) (λp0=>AC (λa=>AB n!) (λp1=>AA Fk λi W=>AC (λa=>AB λ_=>⟨⟨KS.refl h s.2.2.1,g⟩,?_⟩) (λ_=>?_)));have⟨_,f,V,C⟩:=W.2.2.1 a;exact⟨_,f,V,C⟩;refine AA (ic h s.2.2.1 g) λo Q=>AL (λa=>AB (O! · a)) (λw=>?_);have⟨t,m⟩:=Q w;have n:=t.2.2.2.2.2;have F:=t.2.2.1;have k1:=s.1;have k2:=s.2.1;have H:0<=x.2/\x.2<64:=o!
 have M:=F.num m.1;have h4:=F.2.2.1;refine AA (iK m.2.1) λv3 R=>AL (λa=>AB (O! · a)) (λy=>?_);have⟨Y_,Z,O⟩:=R y;have⟨b,u,_⟩:=CK n.sb;refine AA (P:=λr=>∃k:Nat,r=BY (o.1.1.2.2.1.2.1.take k) x.2/\(b=E->k=θ o.1.1.2.2.1.2.1)) ?_ λv4 ⟨k,D_,E_⟩=>?_;cases b with
 |false=>exact⟨_,AJz u,0,rfl,λU=>by cases U⟩
 |true=>exact(K6 n.sb).mono λr hr=>⟨_,by rw[Hk];exact hr u n.ki.2.1 H.1 (by have:=t.1;dsimp only at this⊢;omega),λ_=>rfl⟩
 refine AA (fE d!) λv5 e=>AL (λa=>AB (O! · a)) (λz=>?_);have e:=e z;dsimp only at e;have d:=m.2.2 _ _ O;rw[show((x.2.toNat:Nat):Int)=x.2 by omega]at d;have L:B x.2:=d.2.resolve_right λg=>by obtain⟨_,⟨q,_⟩|⟨q1,q2,_⟩⟩:=e;exact g.1 q;exact g.2 _ q1 q2
 have I:=XY M H o!;obtain⟨j,p⟩:=e.st (d.1 L) λj=>by unfold dl;rw[Kh];exact I _
 unfold dl at p;rw[Kh]at p;generalize min j o.1.1.2.2.1.2.2.toNat=j' at p;rw[p,D_];refine AA (AIm F m.1 n.ki.1 H) λv6 S=>?_;subst S;refine AL (O! rfl ·) (λ_=>AA (cI n λK=>?_) λv7 T=>?_);rw[u]at K;have l:=E_ (BW K);have G:BY (o.1.1.2.2.1.2.1.take j') x.2<=BY (o.1.1.2.2.1.2.1.take k) x.2:=by rcases Nat.le_total j' k with q|q;exact Rx M _ _ _ q;rw[BN o!,l,Hk];exact Ae _
 dsimp only;rw[C! G,l,Hk,Se];exact⟨rfl,L⟩;refine AL (λa=>AB (O! · a)) (λA=>AB λ_=>?_);have⟨N,J⟩:=T A;refine⟨⟨t.trans N,m.up N.2.1⟩,?_⟩;dsimp only at J;split at J<;>rwa[Se]at J
end Go.Pm
namespace Go.Pm
open Go Go.Ab
variable {B:Int->Prop}
def KL(B:V->Prop)(k m:AT):Prop:=m.1=k.1/\LX k.2.2.1 m.2.2.1/\SK B m/\Dg m.2.2.1
theorem KL.refl{k}(h:SK B k)(a:Dg k.2.2.1):KL B k k:=⟨rfl,LX.refl _,h,a⟩
def KL.trans{a b c}(h:KL B a b)(g:KL B b c):KL B a c:=⟨g.1.trans h.1,h.2.1.trans g.2.1,g.2.2⟩
def KS.kl{a b}(h:KS B a b):KL B a b:=⟨h.1,h.2.1,h.2.2.2.2.2,h.2.2.1⟩
def AAn.kl{a b}{z}(h:AAn a z b)(c:SK B a)(d:z.2.1≠1/\z.2.1≠2/\z.2.1≠6/\z.2.1≠7):KL B a b:=⟨h.1,h.2.1,h.sk c d,h.2.2.1⟩
def SK.locks{k}{l}(h:SK B k)(a:GS l):SK B (k.1,k.2.1,k.2.2.1,k.2.2.2.1,l,k.2.2.2.2.2):=⟨a,h.2⟩
def Pz.idx{p}(h:Pz p){i j:Q}{f g:BK}(a:p.2.1[i]?=Y f)(b:p.2.1[j]?=Y g)(e:g.1.1=f.1.1):j=i:=by have l1:=Cv a;have l2:=Cv b;rcases Q9 i j with q|q|q;exact O! e.symm (h.2.2.2.2.2.2 i j f g q o! a b);exact q.symm;exact O! e (h.2.2.2.2.2.2 j i g f q o! b a)
def jx{x}:Ao (OB x) λr=>(∀g∈r.2.1,∃f∈x.1.2.1,f.1.1=g.1.1/\f.1=g.1)/\∀f∈x.1.2.1,f.2.1=E->∃g∈r.2.1,g.1.1=f.1.1/\g.2.1=E:=by unfold OB;refine AA Fk λv b=>AC (y? ⟨λg k=>⟨g,k,rfl,rfl⟩,λf a h=>⟨f,a,rfl,h⟩⟩) (λm=>?_);have d:=b.2.2.1 o!;have o:=d.1.2.1;have p:=d.1.2.2.1;refine AA (AI o! b.2.1) λl c=>AA (ME d! ⟨d!,b.2.1⟩) λr hr=>AB ?_;subst hr;refine⟨ACp c.1 rfl,λf a j=>?_⟩;by_cases e:f.1.1=l.1.1;have⟨i,n⟩:=Db a;grind[Option.some.inj,List.mem_of_getElem?,List.getElem?_set_self,Cv];exact⟨f,ym c.1 f a e,rfl,j⟩
def cE{x}:Ao (K2 x) λr=>r.2=0->Pz x.1/\∃(i:Q)(f g:BK),x.1.2.1[i]?=Y f/\f.1.1=x.2.1/\r.1.2.1=x.1.2.1.set i g/\g.1=x.2/\g.2.1=E:=by unfold K2;refine AA EW λv c=>AO (y? n!) (λb=>?_);have h:=(c.1 b).2.1;have j:=(c.1 b).2.2.1;refine AA OX λ_ _=>AL (λb=>AB λa=>O! a b) (λ_=>AA (Gl d!) λi d=>AC (y? n!) (λb=>AA (AI o! d.2.1) λk e=>AC (y? n!) (λ_=>AA (P:=λ_=>O) (AO (y? trivial) (y? trivial)) λl _=>?_)));grind[AA,ME,AB,Option.some.inj]
def Mc.cell{e}(h:Mc e):0<=e.2.2.2.2.2.2.1.2.1/\e.2.2.2.2.2.2.1.2.1<16:=by have a:=h.2.2.2.2.2.2.2.2;grind[Vw,PG,Qe]
def KI.same{k}(h:KI B k){f g:BK}(a:f∈k.2.2.2.1.2.1)(b:g∈k.2.2.2.1.2.1)(e:g.1.1=f.1.1):g.1=f.1:=by have hr:=h.2.2 f a;rw[(h.2.1 f.1.1 hr.1 hr.2.1).1 g b e];exact((h.2.1 f.1.1 hr.1 hr.2.1).1 f a rfl).symm
def WC{x:AT×AE}(h:SK B x.1)(L:Dg x.1.2.2.1)(b:0<=x.2.2.2.2.2.2.2.1.2.1/\x.2.2.2.2.2.2.2.1.2.1<16)(s:x.2.2.1=1\/x.2.2.1=2)(hp:Pz x.1.2.2.2.1)(ad:oV x.1.2.2.2.1 x.2.2.2.2.2.2.2.1.1)(G:∀f∈x.1.2.2.2.1.2.1,f.1.1=x.2.2.2.2.2.2.2.1.1->Gy f.1.2.2 x.2.2.2.2.2.2.2.1.2.1=Y x.2.2.2.2.2.2.2.1.2.2.1):Ao (Ks x) λr=>KL B x.1 r.1/\(r.2=0->AB7 x.1.2.2.2.2.2.1 x.2.2.1 x.2.2.2.1 r.1.2.2.2.2.2.1):=by
 unfold Ks;refine AA (GC h.sb) λv hv=>AL (λb=>AB ⟨KL.refl h L,λs=>O! s b⟩) (λN=>?_);have⟨_,l,c⟩:=hv N;refine AA JD λE_ S=>AA (Dd b.1 b.2) λ_ _=>AA (Dd b.1 b.2) λ_ _=>AA cE λv4 Z=>AL (λb=>AB ⟨KL.refl h L,λs=>O! s b⟩) (λO=>AB ⟨⟨l.1,l.2.1,?_,l.2.2.1⟩,λ_=>l.2.2.2.2.2.1⟩);have F:=l.2.2.2.2.2.2.2.1;have⟨_,i,f,g,p,a,d,o,J⟩:=Z O;have⟨_,_,_,_,_,_,a7,_,e,T,P,U,A,V,W,e7⟩:=l;have w:E_.2=E:=by cases q:E_.2<;>grind
 have y:E_.1.1=x.2.2.2.2.2.2.2.1.1:=(S.1 w).2.2.2.1;have C:e.2.2.2.2.2.2.1.1=x.2.2.2.2.2.2.2.1.1:=E! (·.2.1.1) A;have hr:=h.ki.2.2 f (BP p);dsimp only at p a d o c;refine⟨F.1,F.2.1,F.2.2,?_⟩;have t:e.2.1=1\/e.2.1=2:=by rw[U];exact s
 have u:∀n:Int,n≠1->n≠2->e.2.1≠n:=λn n1 n2 q=>by rcases t with D_|D_<;>rw[q]at D_;exact n1 D_;exact n2 D_
 unfold KI;dsimp only;rw[l.1,a7,T,W (by rcases s with q|q<;>rw[q]<;>decide),d];have K:g.1.1=f.1.1:=by rw[o,a]
 have m:=BP p;have I:=(h.ki.2.1 f.1.1 hr.1 hr.2.1).1 f m rfl;have M:E_.1=f.1:=by have⟨_,_,_,_,f',H,Q⟩:=S.1 w;rw[<-Q];exact h.ki.same m H (by rw[Q,a])
 have R:e.2.2.2.2.2.2.1.2.1=x.2.2.2.2.2.2.2.1.2.1:=E! (·.2.1.2.1) A;have Y_:e.2.2.2.2.2.2.1.2.2.1=x.2.2.2.2.2.2.2.1.2.2.1:=E! (·.2.1.2.2.1) A;have X_:e.2.2.2.2.2.2.1.2.2.2=x.2.2.2.2.2.2.2.1.2.2.2:=E! (·.2.1.2.2.2) A;refine⟨h.ki.1.app ⟨λq=>⟨V h.ki.2.1 q (by rw[C,<-y,<-a];exact hr.1) (by rw[C,<-y,<-a];exact hr.2.1),by rw[R,Y_,C,<-y,<-a,<-I];exact G f m (by rw[a,y])⟩,λq=>O! q (u 7 g! g!),λq=>O! q (u 6 g! g!)⟩,?_,h.ki.2.2.set p K⟩;refine h.ki.2.1.change h.ki.2.2 t p (by rw[a,y,C]) (by rw[o,M,c,<-P];unfold upd;rw[R,X_]) J (λj k hj q=>hp.idx p hj q) ?_;rw[P];exact mV L _
theorem B8{x}:Ao (BM x) λr=>r.1=5:=by grind[BM,AB]
theorem kF{x}:Ao (BM x) λr=>r.1=5/\r.2.2.2.2=x:=by grind[BM,AB]
theorem AEw{l:U Ap}{id:V}(h:l.length<=16777216)(m:kH l id):Ao (Ep (l,id)) λr=>0<=r/\r<l.length:=by
 unfold Ep;refine AA (P:=λr=> ∃u:V,r= .inl u/\0<=u/\u<l.length) ?_ λr hr=>?_;refine AW (λ(s:V)=>0<=s/\s<=l.length/\ ∀(j:Q) (t:Ap),j<s->l[j]? =some t->t.1≠id) (λ(s:V)=>((l.length:V)-s).toNat) ⟨Ae _,o!,λj t b=>absurd b o!⟩ (λs k=>?_);obtain⟨g,p,i⟩:=k;unfold KT;have e:=AY (x:=s+1);apply AC<;>intro d;simp only[T]at d;refine AA (AI g d) λq a=>AP (λ_=>AB ⟨s,rfl,g,d⟩) (λc=>AB ?_);dsimp only at c;rw[e];refine⟨⟨o!,o!,λj t b f=>?_⟩,o!⟩;by_cases n:(j:V)=s;have:s.toNat=j:=o!
 rw[this]at a;rw[f]at a;have:=BW a.1;rw[this];exact c;exact i j t o! f;obtain⟨j,t,b,f⟩:=m;have:=Cv b;simp only[T]at d;exact absurd f (i j t o! b);obtain⟨u,rfl,o⟩:=hr;exact BF (AB o)
def tZ{l:S Ap}{id}(h:W l<=16777216)(a:kH l id):Ao (Cf (l,id)) λr=>0<=r/\r<W l:=by grind[Cf,AA,AEw,AB]
def cK{x:AT×V}(h:SK B x.1)(k:Dg x.1.2.2.1)(j:kH x.1.2.2.2.2.2.1 x.2):Ao (K9 x) λr=>KL B x.1 r.1/\(r.2.1=1\/r.2.1=5):=by unfold K9;refine AA (tZ h.2.1 j) λo c=>AA (AI c.1 c.2) λp _=>AA (P:=λs=>(∃u,s=.inl u/\KL B x.1 u.1)\/∃u,s=.inr u/\KL B x.1 u.1/\(u.2.1=1\/u.2.1=5)) ?_ λs l=>?_;refine AP (λ_=>?_) (λ_=>?_);refine AA (Jo h.2.1) λq d=>AB (.inl ⟨_,rfl,rfl,LX.refl _,⟨h.1,?_,h.2.2⟩,k⟩);have:=pp x.1.2.2.2.2.2.1 x.2;have e:=h.2.1;dsimp only at*;rw[d];omega;refine AA (GC h.sb) λt f=>AL (λn=>?_) (λm=>?_);grind[AA,B8,AB,KL.refl];have b:=(f m).2.1.kl h u!;refine AA (KU b.2.2.1 b.2.2.2) λv g=>AB (.inl ⟨_,rfl,b.trans g.1.kl⟩);rcases l with⟨u,rfl,a⟩|⟨u,rfl,a⟩;apply BF;refine AA (Mi a.2.2.1.1) λw i=>AB ⟨⟨a.1,a.2.1,a.2.2.1.locks i,a.2.2.2⟩,.inl rfl⟩;exact A0 (AB a)
def Xu{x:AT×V×C1}{a:Ap}{s:V}(h:0<=s/\s<=θ a.2.2.2.2.1/\(θ a.2.2.2.2.1:V)<=16777216):Ao (Ag (Lf x a) s) λr=>O:=by
 refine AW (λ(s:V)=>0<=s/\s<=θ a.2.2.2.2.1/\(θ a.2.2.2.2.1:V)<=16777216) (λ(s:V)=>((θ a.2.2.2.2.1:V)-s).toNat) h (λs c=>?_);unfold Lf;exact x!
def AIp{l:S Ap}{i:Q}{t:Ap}(h:l[i]?=Y t):W t.2.2.2.2.1<TP l:=by
 induction l generalizing i with
 |nil=>simp at h
 |cons a r b=>
  unfold TP;rw[B4,WV];cases i with
  |zero=>simp at h;rw[h];omega
  |succ i=>have:=b (i:=i) (by simpa using h);unfold TP at this;omega
def AJ5{l:S Ap}(h:∀(i:Q)(t:Ap),l[i]?=Y t->W t.2.2.2.2.1<=4096):TP l<=W l*4097:=by
 induction l with
 |nil=>simp[TP]
 |cons a r c=>have d:=h 0 a q!;have e:=c (λi t b=>h (i+1) t (by simpa using b));unfold TP at*;grind[List.length_cons]
def Zn.tp{l}(h:Zn l):TP l<=262208:=by have:=AJ5 (l:=l) (λi t a=>(h.2 i t a).1);have:=h.1;omega
def aD{x:AT×V×C1}(h:W x.1.2.2.2.2.2.1<=16777216)(d:TP x.1.2.2.2.2.2.1<=262208)(c:kH x.1.2.2.2.2.2.1 x.2.1):Ao (KX x) λr=>O:=by unfold KX;refine AA (tZ h c) λe a=>AA (AI a.1 a.2) λf b=>?_;have:=AIp b.1;refine AA (Xu ⟨Ae _,o!⟩) λr _=>?_;grind[BG,AB]
def Uc{x:AT×V×V}(h:SK B x.1)(z:Dg x.1.2.2.1)(A:Zn x.1.2.2.2.2.2.1)(p:x.2.1≠0)(y:kH x.1.2.2.2.2.2.1 x.2.1):Ao (JF x) λr=>KL B x.1 r.1/\(r.2.1=x.2.2\/r.2.1=5):=by
 unfold JF;refine AA (bw h.1) λL c=>AA (tZ h.2.1 y) λM n=>AA (AI n.1 n.2) λN _=>AP (λ_=>?_) (λ_=>?_);refine AA (Jo h.2.1) λO t=>AA (Mi c) λQ u=>AB ⟨⟨rfl,LX.refl _,⟨u,?_,h.2.2⟩,z⟩,.inl rfl⟩;have:=pp x.1.2.2.2.2.2.1 x.2.1;have q:=h.2.1;dsimp only at*;rw[t];omega;refine AA (GC (h.locks c).sb) λf v=>AL (λi=>?_) (λC=>?_);grind[AA,B8,AB,KL.refl];have j:=(v C).2.1;have o:=j.2.2.2.2.2.1;have K:=(o.2.2.1 p (by show(4:V)≠1;decide)).2;have D_:=A.tp;have b:KL B x.1 f.1:=⟨j.1,j.2.1,(j.kl (h.locks c) u!).2.2⟩
 refine AA (P:=λr=>KL B x.1 r) ?_ λr hr=>AB ⟨hr,.inl rfl⟩;refine AW (λ(s:V×AT)=>0<=s.1/\s.1<=f.1.2.2.2.2.1.1.length/\KL B x.1 s.2/\s.2.2.2.2.2.2.1=f.1.2.2.2.2.2.1) (λs=>((f.1.2.2.2.2.1.1.length:V)-s.1).toNat) (s:=((0:V),f.1)) ⟨Ae _,d!,b,rfl⟩ (λs w=>?_);have⟨m,J,a,d⟩:=w;unfold TN;have I:=b.2.2.1.1.1;refine AC (λi=>?_) (λ_=>AB a);simp[T]at i;have e:=AY (x:=s.1+1);refine AA (AI m i) λR _=>AP (λ_=>?_) (λ_=>AB ⟨⟨d!,d!,a,d⟩,d!⟩);refine AA (AI m i) λS _=>AA (aD (by dsimp only;rw[d];exact b.2.2.1.2.1) (by dsimp only at*;rw[d];omega) (by dsimp only;rw[d];exact(o.2.2.2 p rfl))) λE_ _=>AA (P:=λk=>KL B x.1 k/\k.2.2.2.2.2.1=f.1.2.2.2.2.2.1) ?_ λH g=>AB ⟨⟨d!,d!,g.1,g.2⟩,d!⟩;refine AO (λ_=>?_) (λ_=>AB ⟨a,d⟩);refine AA (AI m i) λF _=>AA (VX a.2.2.1.1) λG l=>AB ⟨⟨a.1,a.2.1,a.2.2.1.locks l,a.2.2.2⟩,d⟩
end Go.Pm
namespace Go.Pm
open Go Go.Ab
variable {B:Int->Prop}
def cH{x}:Ao (K5 x) λr=>r=0->x.2.1=4\/x.2.1=5\/x.2.1=6\/x.2.1=7\/(0<=x.2.2.2.1/\x.2.2.2.1<16):=by unfold K5;refine AA (P:=λv=>O) (AK (y? trivial) (λ_=>AA (P:=λ_=>O) (AK (y? trivial) (y? trivial)) λ_ _=>AB trivial)) λi _=>AA (P:=λs=>(∃u,s=.inl u/\u=1)\/∃u,s=.inr u/\(x.2.1=4\/x.2.1=5\/x.2.1=6\/x.2.1=7\/(0<=x.2.2.2.1/\x.2.2.2.1<16))) ?_ λs c=>?_;refine AK (λ_=>?_) (λ_=>?_);refine AC (y? (.inl ⟨_,rfl,rfl⟩)) (λ_=>AC (y? (.inl ⟨_,rfl,rfl⟩)) (λ_=>AC (y? (.inl ⟨_,rfl,rfl⟩)) (λe=>AC (y? (.inl ⟨_,rfl,rfl⟩)) (λf=>AA (P:=λ_=>O) (AK (y? trivial) (y? trivial)) λj _=>AB (.inr ⟨_,rfl,?_⟩)))));omega;refine AA (P:=λs=>(∃u,s=.inl u/\u=1)\/∃u,s=.inr u/\(x.2.1=4\/x.2.1=5\/x.2.1=6\/x.2.1=7)) ?_ λs c=>?_;refine AP (λh=>?_) (λ_=>?_);refine AC (y? (.inl ⟨_,rfl,rfl⟩)) (λ_=>AC (y? (.inl ⟨_,rfl,rfl⟩)) (y? (.inr ⟨_,rfl,o!⟩)));refine AA (P:=λb=>b=E->x.2.1=4\/x.2.1=5\/x.2.1=6) ?_ λk g=>?_;grind[AP,AB,AA];simp_all[AK,AB];grind[BF,AB,A0];rcases c with⟨u,rfl,d⟩|⟨u,rfl,d⟩;grind[BF,AB];apply A0;refine AO (y? n!) (λ_=>AC (y? n!) (y? λ_=>d))
def Vb{x}:Ao (J1 x) λr=>O:=by unfold J1;refine AP (y? trivial) (λ_=>AA (P:=λ_=>O) (AK (y? trivial) (y? trivial)) λv _=>AK (y? trivial) (y? trivial))
def aE{x:AT×V×C4}(h:SK B x.1):Ao (KY x) λr=>r=0->VK x.1/\kH x.1.2.2.2.2.2.1 x.2.1/\(x.2.2.1=4\/x.2.2.1=5\/x.2.2.1=6\/x.2.2.1=7\/(0<=x.2.2.2.2.1/\x.2.2.2.2.1<16)):=by
 unfold KY;refine AA (CK h.sb) λv j=>AO (y? n!) (λb=>AA (Fl h.2.1) λk e=>AC (y? n!) (λg=>AA (AI o! e.2.1) λl _=>AL (y? n!) (λ_=>AA cH λm f=>AL (λb=>AB λa=>O! a b) (λc=>AA (Ix h.1) λn _=>AA Vb λo _=>?_))));have q:(0:V)=0->VK x.1/\kH x.1.2.2.2.2.2.1 x.2.1/\(x.2.2.1=4\/x.2.2.1=5\/x.2.2.1=6\/x.2.2.1=7\/(0<=x.2.2.2.2.1/\x.2.2.2.2.1<16)):=λ_=>by have⟨t,i,d⟩:=e.2.2 o!;exact⟨j b,⟨_,t,i,d⟩,f c⟩
 refine AK (λ_=>?_) (y? q);refine AL (λ_=>?_) (y? q);refine AO (y? n!) (λ_=>AO (y? n!) (y? q))
def cJ{x:AT×V×C4}(h:SK B x.1)(k:Dg x.1.2.2.1)(n:Pz x.1.2.2.2.1)(a:0<=x.2.2.2.2.1/\x.2.2.2.2.1<16):Ao (K8 x) λr=>KL B x.1 r.1/\(r.2.1=1\/r.2.1=3\/r.2.1=5)/\(r.2.1=3->r.2.2.2.1=x.2.2.2.1/\¬oV x.1.2.2.2.1 x.2.2.2.1/\r.1=x.1):=by unfold K8;have t:=KL.refl h k;refine AA JD λy m=>AO (λa=>AB ⟨t,.inr (.inl rfl),λ_=>⟨rfl,m.2 a n,rfl⟩⟩) (λd=>AP (λ_=>?_) (λ_=>?_));refine AA jx λz l=>AA (Dd a.1 a.2) λ_ _=>AA (Dd a.1 a.2) λ_ _=>AB ⟨⟨rfl,LX.refl _,⟨h.1,h.2.1,h.2.2.1,h.ki.1,h.ki.2.1.frames l.1 l.2,h.ki.2.2.sub l.1⟩,k⟩,(.inl rfl),λs=>O! s (by show(1:V)≠3;decide)⟩;refine AA (Dd a.1 a.2) λ_ _=>D6 (Dd a.1 a.2) λu o _=>AA (P:=λv:Dw=>v.1=x.2.2.2.1/\v.2.1=x.2.2.2.2.1/\v.2.2.1=u) (AK (y? ⟨rfl,rfl,rfl⟩) (y? ⟨rfl,rfl,rfl⟩)) λA b=>?_;have⟨_,_,j,i,f,p,c⟩:=m.1 d;refine AA (WC h k (by dsimp only;rw[b.2.1];exact a) (.inl rfl) n (by dsimp only;rw[b.1];exact j) λg q e=>?_) λC w=>?_;dsimp only at e⊢;rw[b.2.1,b.2.2,h.ki.same p q (by rw[e,b.1,c,i]),c];exact o;grind[AA,AL,B8,AB]
theorem fJ{x}:Ao (MK x) λr=>O:=by unfold MK;refine AP (y? trivial) (λa=>?_);simp only[T]at a;exact AA (AI (Ae _)) λ_ _=>AB trivial
def j8{x:AT×V}(h:SK B x.1):Ao (OE x) λr=>O:=by unfold OE;refine AA (MC h.1) λa _=>?_;grind[AA,fJ,AB]
def lK{x:AT×Int×C4}(h:SK B x.1)(i:Dg x.1.2.2.1):Ao (Pg x) λr=>KL B x.1 r.1/\(r.2.1=3->r.2.2.2.1=x.2.2.2.1/\¬oV x.1.2.2.2.1 x.2.2.2.1/\r.1.2.2.2.1=x.1.2.2.2.1)/\(r.2.1=2\/r.2.1=3->r.1.2.2.2.2.2.1=x.1.2.2.2.2.2.1):=by
 unfold Pg;have q:=KL.refl h i;refine AA (aE h) λX I=>AL (λ_=>?_) (λd=>?_);exact AA B8 λY V=>AB ⟨q,λd=>by dsimp only at d;omega,λ_=>rfl⟩;obtain⟨u,s,F⟩:=I d;have G:x.2.1≠0:=by obtain⟨j,t,M,W⟩:=s;have:=(u.2.2.2.2.2.1.2 j t M).2.2;omega
 refine AP (λ_=>?_) (λT=>?_);exact AA (cK h i s) λZ w=>AB ⟨w.1,λd=>by have:=w.2;omega,λd=>by have:=w.2;omega⟩;refine AP (λ_=>?_) (λU=>?_);refine AA (Uc h i u.2.2.2.2.2.1 G s) λv3 E=>AB ?_;have y:=E.2;dsimp only at y;exact⟨E.1,λd=>o!,λd=>o!⟩;refine AA (P:=λb=>b=ζ↔x.2.2.1=6\/x.2.2.1=7) ?_ λv4 J=>?_;refine AP (λp=>AB (by simp[p])) (λp=>AB (by simp[p]));refine AK (λ_=>?_) (λk=>?_);refine AA iS λv5 z=>AA (P:=λv=>v.2=0->θ v.1<=64) ?_ λv7 K=>?_;exact AK (λ_=>AA iQ λv6 p=>AB p) (y? z);refine AL (λ_=>?_) (λd=>AB ⟨⟨rfl,LX.refl _,⟨h.1,?_,h.2.2⟩,i⟩,λd=>O! d (by show(1:Int)≠3;decide),λd=>O! d (by show¬((1:Int)=2\/(1:Int)=3);decide)⟩);exact AA B8 λS L=>AB ⟨q,λd=>by dsimp only at d;omega,λ_=>rfl⟩;have:=K d;dsimp only;omega;have g:0<=x.2.2.2.2.1/\x.2.2.2.2.1<16:=by
  have:¬(x.2.2.1=6\/x.2.2.1=7):=λh=>by rw[J.2 h]at k;cases k
  omega
 refine AA Vb λv9 _=>AA (Z1 h.1) λC l=>AL (λ_=>?_) (λ_=>?_);exact AA B8 λS L=>AB ⟨q,λd=>by dsimp only at d;omega,λ_=>rfl⟩;have f:=h.locks l;have H:∀m,KL B (x.1.1,x.1.2.1,x.1.2.2.1,x.1.2.2.2.1,C.1,x.1.2.2.2.2.2) m->KL B x.1 m:=λm A=>⟨A.1,A.2.1,A.2.2⟩
 refine AK (λ_=>?_) (λ_=>?_);refine AA (cJ f i u.2.2.2.1 g) λN e=>AP (λz=>AB ⟨q,λd=>by dsimp only at d;omega,λ_=>rfl⟩) (y? ⟨H _ e.1,λd=>?_,λd=>?_⟩);obtain⟨a,b,c⟩:=e.2.2 d;exact⟨a,b,by rw[c]⟩;have D:=e.2.1;obtain⟨a,b,c⟩:=e.2.2 o!;rw[c];refine AA (fB l) λO _=>AC (λ_=>?_) (λ_=>?_);refine AA (Uc f i u.2.2.2.2.2.1 G s) λQ n=>?_;have o:=n.2;dsimp only at o;exact AP (λz=>AB ⟨q,λd=>by dsimp only at d;omega,λ_=>rfl⟩) (y? ⟨H _ n.1,λd=>o!,λd=>o!⟩);exact AA (j8 f) λR _=>AB ⟨⟨rfl,LX.refl _,f,i⟩,λd=>O! d (by show(2:Int)≠3;decide),λ_=>rfl⟩
end Go.Pm
namespace Go.Pm
open Go Go.Ab
variable {B:Int->Prop}
def RTx(l:S Ap)(id:V)(t:Ap):Prop:=∃v,Cf (l,id)=Y v/\0<=v/\l[v.toNat]?=Y t/\t.1=id
def RTx.uniq{l}{id}{t u}(h:RTx l id t)(g:RTx l id u):u=t:=by have⟨v,e,f,i,j⟩:=h;have⟨w,a,b,c,d⟩:=g;grind[Option.some.inj]
def NX(k:AT)(id:V)(e:AE):Prop:=∃t lsn,RTx k.2.2.2.2.2.1 id t/\t.2.2.2.2.1[W t.2.2.2.2.1-1]?=Y lsn/\k.2.2.1.2.1[(lsn-k.2.2.1.1).toNat]?=Y e
def NX.uniq{k m}{id}{e f}(h:NX k id e)(g:NX m id f)(o:m.2.2.2.2.2.1=k.2.2.2.2.2.1)(c:LX k.2.2.1 m.2.2.1):f=e:=by have⟨t,n,i,j,l⟩:=h;have⟨u,w,a,b,d⟩:=g;rw[o]at a;have:=i.uniq a;subst this;rw[j]at b;cases b;have:=c.get l;rw[c.1]at d;grind[Option.some.inj]
def I0{x:AT×V}(h:SK B x.1):Ao (FV x) λr=>r.2=0->VK x.1/\RTx x.1.2.2.2.2.2.1 x.2 r.1/\W r.1.2.2.2.2.1<=4096/\r.1.1≠0:=by
 unfold FV;refine AA (CK h.sb) λv i=>AO (y? n!) (λf=>?_);have c:=i f;refine D6 (Fl h.2.1) λj e d=>AC (y? n!) (λg=>AA (AI o! d.2.1) λk _=>AP (y? n!) (λ_=>AA (AI o! d.2.1) λl b=>AB λ_=>⟨c,⟨j,e,o!,b.1,?_⟩,(c.2.2.2.2.2.1.2 _ _ b.1).1,?_⟩))
 grind[Option.some.inj];have:=(c.2.2.2.2.2.1.2 _ _ b.1).2.2;dsimp only;omega
def iV{x:AT×V}(h:SK B x.1):Ao (H4 x) λr=>r.2=E->VK x.1/\NX x.1 x.2 r.1/\Mc r.1:=by
 unfold H4;refine AA (I0 h) λc f=>AL (y? λa=>by cases a) (λa=>?_);have⟨k,hr,o,_⟩:=f a;refine AP (y? λa=>by cases a) (λj=>?_);simp only[T]at j;rw[(AY (x:=T c.1.2.2.2.2.1-1) b!)];refine AA (AI b! b!) λp _=>AC (y? λa=>by cases a) (λ_=>AA (AI b! b!) λl g=>AA HG λq i=>AB λa=>?_);have⟨d,m,e,n⟩:=i.1 (by simpa using a);refine⟨k,⟨c.1,l,hr,?_,e⟩,d⟩;have b:=g.1;have:(T c.1.2.2.2.2.1-1).toNat=W c.1.2.2.2.2.1-1:=i!
 rw[this]at b;exact b
def lL{x:AT×Ap×C1×V}(h:x.2.1.2.2.2.2.1.length<=16777216)(c:0<=x.2.2.2/\x.2.2.2<=x.2.1.2.2.2.2.1.length):Ao (Ph x) λr=>r.2=true->Mc r.1/\r.1.2.2.2.2.2.2.1.1=x.2.2.1.1:=by unfold Ph;rw[(AY (x:=x.2.2.2-1))];refine AA (P:=λr=> ∀u,r= .inl u->u.1=true->Mc u.2/\u.2.2.2.2.2.2.2.1.1=x.2.2.1.1) ?_ λr hr=>BG (λu a=>AB (hr u a)) (λ_ _=>AB λb=>by cases b);refine AW (λ(s:V×AE)=> -1<=s.1/\s.1<x.2.1.2.2.2.2.1.length) (λ(s:V×AE)=>(s.1+1).toNat) d! (λs d=>?_);unfold WD;rw[(AY (x:=s.1-1))];refine AC (λe=>?_) (λ_=>AB λu a=>by cases a);grind[AA,AI,HG,AP,AB]
def TO{x:AT×V×C1}(h:SK B x.1):Ao (LA x) λr=>r.2=E->VK x.1/\Mc r.1/\r.1.2.2.2.2.2.2.1.1=x.2.2.1:=by refine AA (I0 h) λf b=>AL (y? λa=>by cases a) (λa=>AL (y? λa=>by cases a) (λ_=>?_));have⟨d,_,e,_⟩:=b a;exact AA (lL d! ⟨by simp[T],by simp[T]⟩) λg c=>AB λa=>⟨d,c a⟩
def Z0{x}:Ao (KO x) λr=>r=(x.1,x.2.1,x.2.2.2,x.2.2.1):=by grind[KO,AB]
def Vd{x:AT×Ap×AE}(h:SK B x.1)(t:Dg x.1.2.2.1)(u:Pz x.1.2.2.2.1)(A:Mc x.2.2)(v:x.2.1.1≠0):Ao (GY x) λr=>KL B x.1 r.1/\(r.2.1=3->r.2.2.2.1=x.2.2.2.2.2.2.2.2.1.1/\¬oV x.1.2.2.2.1 x.2.2.2.2.2.2.2.2.1.1/\r.1=x.1)/\(r.2.1≠3->r.2.1≠5->r.2.2.1≠0/\TP r.1.2.2.2.2.2.1<TP x.1.2.2.2.2.2.1)/\(r.2.1=5->r.2.2.2.2.2≠0):=by unfold GY;have F:=KL.refl h t;refine AA JD λG i=>AO (λl=>AB ⟨F,λ_=>⟨rfl,i.2 l u,rfl⟩,λa=>O! rfl a,λa=>O! a (by show(3:V)≠5;decide)⟩) (λc=>AA Z0 λH w=>?_);subst w;refine AA UX λI j=>AL (λl=>?_) (λo=>?_);grind[AA,kF,AB];refine AA (WC h t A.cell (.inr rfl) u (i.1 c).2.2.1 λg D_ e=>by have⟨_,_,_,m,f,C,d⟩:=i.1 c;rw[h.ki.same C D_ (by rw[e,d,m]),d];exact(j.1 o).2) λp q=>AL (λl=>?_) (λa=>?_);grind[AA,kF,AB];have E_:=(q.2 a).2.2.1 v (by show(2:V)≠1;decide);have n:=E_.1 (by show(2:V)≠4;decide);have b:KL B x.1 p.1:=q.1;refine AA (P:=λk=>KL B x.1 k/\k.2.2.2.2.2.1=p.1.2.2.2.2.2.1) ?_ λM s=>AB ⟨s.1,λa=>O! a (by show(1:V)≠3;decide),λ_ _=>⟨v,by rw[s.2];exact n⟩,λa=>O! a (by show(1:V)≠5;decide)⟩;refine AK (λ_=>?_) (y? ⟨b,rfl⟩);refine AA (TO b.2.2.1) λJ _=>AA (P:=λk=>KL B x.1 k/\k.2.2.2.2.2.1=p.1.2.2.2.2.2.1) ?_ λL z=>AB z;refine AO (λ_=>?_) (y? ⟨b,rfl⟩);exact AA (VX b.2.2.1.1) λK y=>AB ⟨⟨b.1,b.2.1,b.2.2.1.locks y,b.2.2.2⟩,rfl⟩
def Vc{x:AT×V}(h:SK B x.1)(m:Dg x.1.2.2.1):Ao (J2 x) λr=>KL B x.1 r.1/\(r.2.1=3->∃e,NX x.1 x.2 e/\r.2.2.2.1=e.2.2.2.2.2.2.1.1/\¬oV x.1.2.2.2.1 e.2.2.2.2.2.2.1.1)/\(r.2.1≠3->r.2.1≠5->TP r.1.2.2.2.2.2.1<TP x.1.2.2.2.2.2.1)/\(r.2.1=5->r.2.2.2.2.2≠0):=by
 unfold J2;have D_:=KL.refl h m;refine AA (I0 h) λA q=>AL (λi=>?_) (λd=>?_);grind[AA,kF,AB];have⟨y,hr,n,o⟩:=q d;have f:Ao (σ (H4 x) λk=>
  bif (!k.2)then
   σ (BM 14) λC=>
   Y (x.1,C)
  else
  σ (GY (x.1,A.1,k.1)) λp=>
  Y p) λr=>KL B x.1 r.1/\(r.2.1=3->∃e,NX x.1 x.2 e/\r.2.2.2.1=e.2.2.2.2.2.2.1.1/\¬oV x.1.2.2.2.1 e.2.2.2.2.2.2.1.1)/\(r.2.1≠3->r.2.1≠5->TP r.1.2.2.2.2.2.1<TP x.1.2.2.2.2.2.1)/\(r.2.1=5->r.2.2.2.2.2≠0):=by
  refine AA (iV h) λk u=>AO (λ_=>?_) (λi=>?_);grind[AA,kF,AB];have⟨_,hn,w⟩:=u i;refine AA (Vd h m y.2.2.2.1 w o) λp g=>AB ⟨g.1,λd=>?_,λa b=>(g.2.2.1 a b).2,g.2.2.2⟩;have⟨a,b,_⟩:=g.2.1 d;exact⟨_,hn,a,b⟩
 refine AP (λ_=>?_) (λ_=>f);refine AP (λ_=>?_) (λ_=>f);refine AA (GC h.sb) λE_ s=>AL (λi=>?_) (λd=>?_);grind[AA,kF,AB];have l:=(s d).2.1;have z:=(l.2.2.2.2.2.1.2.2.1 (by have⟨v,_,_,_,j⟩:=hr;rw[<-j];exact o) (by show(5:V)≠1;decide)).1 (by show(5:V)≠4;decide);have c:=l.kl h u!;exact AA (Mi c.2.2.1.1) λF t=>AB ⟨⟨c.1,c.2.1,c.2.2.1.locks t,c.2.2.2⟩,λd=>O! d (by show(1:V)≠3;decide),λ_ _=>z,λd=>O! d (by show(1:V)≠5;decide)⟩
def iU{x:AT×V×C1}(h:SK B x.1)(f:Dg x.1.2.2.1):Ao (NF x) λr=>KL B x.1 r.1/\(r.2.1=3->r.2.2.2.1=x.2.2.1/\¬oV x.1.2.2.2.1 x.2.2.1/\r.1=x.1)/\(r.2.1≠3->r.2.1≠5->r.2.2.1≠0->TP r.1.2.2.2.2.2.1<TP x.1.2.2.2.2.2.1):=by unfold NF;have o:=KL.refl h f;refine AA (I0 h) λp i=>AL (λ_=>?_) (λc=>?_);grind[AA,B8,AB];have⟨m,hr,g,n⟩:=i c;refine AL (λ_=>?_) (λ_=>?_);grind[AA,B8,AB];refine AA (TO h) λq j=>AO (y? ⟨o,λc=>O! c (by show(1:V)≠3;decide),λ_ _ c=>O! rfl c⟩) (λk=>?_);have⟨_,l,e⟩:=j k;refine AA (Vd h f m.2.2.2.1 l n) λs d=>AB ⟨d.1,λc=>?_,λa b _=>(d.2.2.1 a b).2⟩;have:=d.2.1 c;dsimp only at this;rw[e]at this;exact this
def SN{x:AV×V}(h:SK B x.1.1):Ao (EX x) λr=>O:=by unfold EX;refine AA (Fl h.2.1) λc a=>AC (λb=>?_) (y? trivial);grind[AA,AI,AB]
end Go.Pm
namespace Go.Pm
open Go Go.Ab
variable {B:Int->Prop}
def SR(B:V->Prop)(x s:AV):Prop:=KL B x.1 s.1/\DJ B s.1.2.2.1 s.2
def SR.trans{a b c}(h:SR B a b)(g:SR B b c):SR B a c:=⟨h.1.trans g.1,g.2⟩
def SvR.sr{a b}(h:SvR B a b):SR B a b:=⟨h.1.kl,h.2⟩
open Classical in
noncomputable def flag(p:Prop):Q:=if p then 1 else 0
theorem ACT(p:Prop):flag p<=1:=by unfold flag;split<;>omega
def yC{p:Prop}(h:p):flag p=1:=by unfold flag;rw[C! h]
def yB{p:Prop}(h:¬p):flag p=0:=by grind[flag]
def ZW{x:AV×V}(h:SK B x.1.1)(C:Dg x.1.1.2.2.1)(A:DJ B x.1.1.2.2.1 x.1.2):Ao (Ev x) λr=>r.2=0->SR B x.1 r.1:=by unfold Ev;refine AA (CK h.sb) λv E_=>AO (y? n!) (λm=>AA (Fl h.2.1) λH _=>AC (y? n!) (λ_=>AA (P:=λr=>(∀u,r=.inl u->u.1≠0)/\∀u,r=.inr u->SR B x.1 u.1) ?_ λr hr=>BG (λu a=>AB λb=>O! b (hr.1 u a)) (λu a=>AB λ_=>hr.2 u a)));refine AW (SR B x.1 ·.1) (λs=>2*TP s.1.1.2.2.2.2.2.1+flag (∃e,NX s.1.1 x.2 e/\¬oV s.1.1.2.2.2.1 e.2.2.2.2.2.2.1.1)) ⟨KL.refl h C,A⟩ (λs c=>?_);unfold Qo;have d:=c.1.2.2;refine AA (SN d.1) λI _=>AK (λ_=>?_) (y? ⟨λu a=>(by cases a),λu a=>(by cases a;exact c)⟩);refine AA (Vc d.1 d.2) λJ z=>?_;have⟨k1,D_,F,G⟩:=z;apply AP<;>intro i;grind[AB];refine AA (P:=λr=>(∃u,r=.inl u/\u.1≠0)\/∃u,r=.inr u/\SR B s.1 u.1/\2*TP u.1.1.2.2.2.2.2.1+flag (∃e,NX u.1.1 x.2 e/\¬oV u.1.1.2.2.2.1 e.2.2.2.2.2.2.1.1)<2*TP s.1.1.2.2.2.2.2.1+flag (∃e,NX s.1.1 x.2 e/\¬oV s.1.1.2.2.2.1 e.2.2.2.2.2.2.1.1)) ?_ λr hr=>?_;apply AP<;>intro o;have⟨e,k,p,q⟩:=D_ o;refine AA (H5 d.1 c.2) λK i=>AL (λm=>AB (.inl ⟨_,rfl,m⟩)) (λb=>AB (.inr ⟨_,rfl,(i b).1.sr,?_⟩));have⟨l,g⟩:=i b;have n:=l.1.2.2.2.2.1;rw[yC (⟨e,k,q⟩:∃e,NX s.1.1 x.2 e/\¬oV s.1.1.2.2.2.1 e.2.2.2.2.2.2.1.1),yB,n];dsimp only;omega;rintro⟨f,t,y⟩;have:=k.uniq t n l.1.2.1;subst this;dsimp only at g;rw[p]at g;exact y g;refine AB (.inr ⟨_,rfl,⟨k1,c.2.up k1.2.1⟩,?_⟩);grind[ACT,oV];rcases hr with⟨u,rfl,a⟩|⟨u,rfl,a⟩;refine BF (AB ⟨λw j=>?_,λw j=>(by cases j)⟩);cases j;exact a;exact A0 (AB ⟨c.trans a.1,a.2⟩)
def lO{x:AV×V×C4}(h:SK B x.1.1)(K:Dg x.1.1.2.2.1)(J:DJ B x.1.1.2.2.1 x.1.2):Ao (Pl x) λr=>SR B x.1 r.1/\(r.2.1=2->r.1.1.2.2.2.2.2.1=x.1.1.2.2.2.2.2.1):=by
 unfold Pl;refine AA (P:=λr=>SR B x.1 r.1/\(r.2.1=2->r.1.1.2.2.2.2.2.1=x.1.1.2.2.2.2.2.1)) ?_ λr hr=>AB hr;refine AW (λs=>SR B x.1 s.1/\s.1.1.2.2.2.2.2.1=x.1.1.2.2.2.2.2.1) (λs=>flag (¬oV s.1.1.2.2.2.1 x.2.2.2.1)) ⟨⟨KL.refl h K,J⟩,rfl⟩ (λs l=>?_);obtain⟨l,o⟩:=l;have y:=l.1.2.2;unfold WH;refine AA (lK y.1 y.2) λf E_=>?_;obtain⟨k1,L,z⟩:=E_;have j:SR B x.1 (f.1,s.1.2):=⟨l.1.trans k1,l.2.up k1.2.1⟩
 have g:=k1.2.2;apply AP<;>intro q;obtain⟨a,b,c⟩:=L q;have d:=z (.inr q);refine AA (H5 g.1 j.2) λT F=>AL (λ_=>?_) (λi=>AB ?_);refine AA B8 λU R=>AB ⟨j,λ_=>?_⟩;dsimp only at*;rw[d,o];obtain⟨t,v⟩:=F i;refine⟨⟨j.trans t.sr,?_⟩,?_⟩;have:=t.1.2.2.2.2.1;dsimp only at*;rw[this,d,o];dsimp only at*;rw[yC b,yB];omega;intro hn;rw[a]at v;exact hn v;have k:∀(Q:Step (AV×(AV×Bf)) (AV×Bf)->Prop),(∀r:AV×Bf,SR B x.1 r.1/\(r.2.1=2->r.1.1.2.2.2.2.2.1=x.1.1.2.2.2.2.2.1)->Q (.done r))->∀c:V,c≠2->f.2.1=c->Ao (σ (EX ((f.1,s.1.2),x.2.1)) λA=>
  σ ((
    bif A then
     σ (Ev ((f.1,s.1.2),x.2.1)) λn=>
     bif (n.2 !=0)then
      σ (BM n.2) λC=>
      Y (.inl ((f.1,s.1.2),C))
     else
     Y (.inr (n.1,s.2))
    else
    Y (.inr ((f.1,s.1.2),s.2))):(Z ((AV×Bf)⊕(AV×(AV×Bf))))) λO=>
  ν (λM=>Y (Step.done M))
  (λN=>Y (.done (N.1,f.2))) O) Q:=by
  intro Q w c S I;refine AA (SN g.1) λA _=>AA (P:=λr=>(∃u,r=.inl u/\SR B x.1 u.1/\u.2.1=5)\/∃u,r=.inr u/\SR B x.1 u.1) ?_ λr hr=>?_;refine AK (λ_=>?_) (y? (.inr ⟨_,rfl,j⟩));refine AA (ZW g.1 g.2 j.2) λn G=>AL (λ_=>?_) (λi=>AB (.inr ⟨_,rfl,j.trans (G i)⟩));exact AA B8 λC H=>AB (.inl ⟨_,rfl,j,H⟩);rcases hr with⟨u,rfl,m⟩|⟨u,rfl,m⟩;exact BF (AB (w _ ⟨m.1,λi=>by have:=m.2;omega⟩));exact A0 (AB (w _ ⟨m,λi=>by dsimp only at i;omega⟩))
 have e:SR B x.1 (f.1,s.1.2)/\(f.2.1=2->f.1.2.2.2.2.2.1=x.1.1.2.2.2.2.2.1):=⟨j,λi=>by rw[z (.inl i),o]⟩
 refine AP (λD_=>k _ (λr hr=>hr) 4 g! D_) (λ_=>AP (λp=>?_) (y? e));refine AP (λ_=>k _ (λr hr=>hr) 1 g! p) (λ_=>AP (λ_=>k _ (λr hr=>hr) 1 g! p) (y? e))
def fG{x}(h:SK B x)(d:Dg x.2.2.1):Ao (MI x) λr=>r.2.2=0->KL B x r.1:=by unfold MI;refine AA (CK h.sb) λv e=>AO (y? n!) (λb=>AC (y? n!) (λ_=>AA Ub λf c=>AL (λb=>AB λa=>O! a b) (λa=>AB λ_=>⟨rfl,LX.refl _,⟨h.1,?_,h.2.2⟩,d⟩)));have:=(c a).2;dsimp only;omega
def fP{x:AV}(h:SK B x.1)(e:Dg x.1.2.2.1)(d:DJ B x.1.2.2.1 x.2):Ao (MO x) λr=>r.2.2=0->SR B x r.1:=by unfold MO;refine AA (fG h e) λf b=>AL (λc=>AB λa=>O! a c) (λa=>AB λ_=>⟨b a,d.up (b a).2.1⟩)
def fH{x:AT×V}(h:SK B x.1)(n:Dg x.1.2.2.1):Ao (MJ x) λr=>r.2.2=0->KL B x.1 r.1/\Pz x.1.2.2.2.1/\oV x.1.2.2.2.1 x.2/\(∃f∈r.1.2.2.2.1.2.1,f.1=r.2.1)/\r.2.1.2.1<=r.1.2.2.1.2.2:=by
 unfold MJ;refine AA (CK h.sb) λv q=>AO (y? n!) (λp=>AA JD λs o=>AO (y? n!) (λj=>?_));have⟨a,b,c,d,e⟩:=o.1 j;refine AA (KU h n) λt i=>AB λ_=>⟨i.1.kl,a,c,by dsimp only;rw[i.2.1];exact e,i.2.2 ?_⟩
 have⟨f,m,k⟩:=e;have g:=h.ki.2.2 f m;have:=E! (·.2.1) ((h.ki.2.1 f.1.1 g.1 g.2.1).1 f m rfl);have:=mV n f.1.1;rw[Jf,k]at*;dsimp only;omega
def fR{x:AV×V}(h:SK B x.1.1)(j:Dg x.1.1.2.2.1)(i:DJ B x.1.1.2.2.1 x.1.2):Ao (MQ x) λr=>r.2=0->SR B x.1 r.1:=by unfold MQ;refine AA (fH h j) λn l=>AL (λm=>AB λe=>O! e m) (λe=>?_);have⟨a,b,c,d,k⟩:=l e;refine AA Fk λo f=>AA (AI (f.2.2.2 b c) f.2.1) λp _=>AO (y? λ_=>⟨KL.refl h j,i⟩) (λ_=>AA (Uf a.2.2.1 a.2.2.2 (i.up a.2.1) d k) λq g=>AB λe=>⟨a.trans (g e).1.kl,(g e).2.1⟩)
end Go.Pm
namespace Go.Pm
open Go Go.Ab
def VDs(l:S Ai)(p:V):Prop:=∀(i:Q)(d:Ai),l[i]?=Y d->((i:V)<=d.1/\d.1<p/\1<=d.2.1/\d.2.1<=d.2.2/\d.2.2<=1099511627776)/\∀f,0<i->l[i-1]?=Y f->f.1<d.1
def VIs(x:Bv):Prop:=1<=W x/\W x<=64/\∀r∈x,(0<=r.1/\r.1<=1099511627776)/\(0<=r.2.1/\r.2.1<=1099511627776)/\0<=r.2.2/\r.2.2<=1099511627776
def VDs.len{l}{p}(h:VDs l p)(b:p<=64):W l<=64:=by refine UD λa=>?_;have:=(h (W l-1) _ (Au o!)).1;omega
def ALQ{l:U Ai}{p:V}(A:l.length<=16777216):Ao (FU (l,p)) λr=>r=true->VDs l p:=by
 refine AA (P:=λr=>r= .inl false\/(r= .inr ()/\VDs l p)) ?_ λr hr=>?_
 ·refine CQ (λ(s:V)=>0<=s/\s<=l.length/\ ∀(i:Q) (d:Ai),(i:V)<s->l[i]? =some d->((i:V)<=d.1/\d.1<p/\1<=d.2.1/\d.2.1<=d.2.2/\d.2.2<=1099511627776)/\ ∀f,0<i->l[i-1]? =some f->f.1<d.1) (λs=>((l.length:V)-s).toNat) ⟨Ae _,o!,λi d y=>o!⟩ (λs w=>?_);have⟨t,B,m⟩:=w;unfold HA;dsimp[T];refine AC (λn=>?_) (λn=>Ao.done (.inr ⟨rfl,λi d a=>m i d (by have:=Cv a;omega) a⟩));obtain⟨k,rfl⟩:=Ef t;refine AA (AI t n) λv g=>?_;have g:=g.1;rw[CO]at g;refine AC (λ_=>Ao.done (.inl rfl)) (λq1=>AC (λ_=>Ao.done (.inl rfl)) (λq2=>AC (λ_=>Ao.done (.inl rfl)) (λq3=>AC (λ_=>Ao.done (.inl rfl)) (λq4=>AC (λ_=>Ao.done (.inl rfl)) (λq5=>?_)))));rw[AY (x:=(k:V)+1)];have b:((k:V)<=v.1/\ ∀f,0<k->l[k-1]? =some f->f.1<v.1)-> ∀(i:Q) (d:Ai),(i:V)<(k:V)+1->l[i]? =some d->((i:V)<=d.1/\d.1<p/\1<=d.2.1/\d.2.1<=d.2.2/\d.2.2<=1099511627776)/\ ∀f,0<i->l[i-1]? =some f->f.1<d.1:=λq i d y a=>by by_cases h:i=k;subst h;rw[g]at a;cases a;exact⟨⟨q.1,o!⟩,q.2⟩;exact m i d o! a
  refine AC (λe=>?_) (λe=>Ao.next ⟨o!,o!,b ⟨o!,λf u=>absurd u o!⟩⟩ o!);rw[AY (x:=(k:V)-1)];refine AA (AI) λz c=>?_;have c:=c.1;rw[show((k:V)-1).toNat=k-1 by omega]at c;refine AC (λ_=>Ao.done (.inl rfl)) (λq6=>?_);have j:=(m (k-1) z o! c).1.1;refine Ao.next ⟨o!,o!,b ⟨o!,λf _ o=>?_⟩⟩ o!
  rw[c]at o;cases o;omega
 grind[BF,AB,A0]
def AFH{x}:Ao (G4 x) λr=>r=E->0<=x/\x<=1099511627776:=by refine AC (λh=>AB λa=>⟨o!,N! a⟩) (y? λa=>by cases a)
def AJn{x:Bv}:Ao (D3 x) λr=>r=true->VIs x:=by
 refine AC (λ_=>AB λa=>by cases a) (λd=>AC (λ_=>AB λa=>by cases a) (λe=>?_));simp[T]at d e;refine AA (P:=λr=>r= .inl false\/(r= .inr ()/\VIs x)) ?_ λr hr=>?_
 ·refine CQ (λ(s:V)=>0<=s/\s<=x.length/\ ∀r∈x.take s.toNat,(0<=r.1/\r.1<=1099511627776)/\(0<=r.2.1/\r.2.1<=1099511627776)/\0<=r.2.2/\r.2.2<=1099511627776) (λs=>((x.length:V)-s).toNat) ⟨Ae _,o!,λr hr=>by simp at hr⟩ (λs g=>?_);have⟨i,p,c⟩:=g;unfold Jn;dsimp[T];refine AC (λb=>?_) (λb=>Ao.done (.inr ⟨rfl,o!,o!,by rw[BN o!]at c;exact c⟩));refine AA (AI i b) λv h=>AA AFH λj m=>AO (λ_=>Ao.done (.inl rfl)) (λq=>AA AFH λk n=>AO (λ_=>Ao.done (.inl rfl)) (λt=>AA AFH λl o=>AO (λ_=>Ao.done (.inl rfl)) (λu=>?_)));rw[AY (x:=s+1)];have f: ∀r∈x.take (s+1).toNat,(0<=r.1/\r.1<=1099511627776)/\(0<=r.2.1/\r.2.1<=1099511627776)/\0<=r.2.2/\r.2.2<=1099511627776:=λr hr=>by rw[show(s+1).toNat=s.toNat+1 by omega,Cl,h.1]at hr;grind
  grind[AP,Ao.next,AL,Ao.done]
 grind[BF,AB,A0]
def VCk(c:Ce):Prop:=1<=c.1/\c.1<=64/\1<=c.2.1/\c.2.1<=1073741825/\VDs c.2.2.2.1 c.1/\VIs c.2.2.2.2/\W c.2.2.2.2=c.1
def AK7{c:Ce}(d:W c.2.2.2.1<=16777216):Ao (HI c) λr=>r=E->VCk c:=by refine AC (y? λa=>by cases a) (λf=>AC (y? λa=>by cases a) (λg=>AC (y? λa=>by cases a) (λh=>AC (y? λa=>by cases a) (λi=>AA D0 λo b=>AO (y? λa=>by cases a) (λe=>AA (ALQ d) λp j=>AO (y? λa=>by cases a) (λl=>AA AJn λq k=>AO (y? λa=>by cases a) (λm=>AL (y? λa=>by cases a) (λn=>AA (RS ⟨Ae _,o!,by have:=(b e).1;omega⟩) λr hr=>?_))))))));grind[VCk,BG,AB]
def dB(d:Ai):Bd:=C6 d.1 1++(C6 d.2.1 8++C6 d.2.2 8)
def rB(r:Be):Bd:=C6 r.1 8++(C6 r.2.1 8++C6 r.2.2 8)
def wY(l:S Ai):Bd:=(l.map dB).flatten
def sZ(l:S Be):Bd:=(l.map rB).flatten
def AI6(d:Ai):(dB d).length=17:=rfl
def AJc(r:Be):(rB r).length=24:=rfl
def AEq(l:S Ai)(d:Ai):wY (l++[d])=wY l++dB d:=by grind[wY,List.flatten_append]
def AFt(l:S Be)(d:Be):sZ (l++[d])=sZ l++rB d:=by grind[sZ,List.flatten_append]
def zZ(l:S Ai)(d:Ai):wY (d::l)=dB d++wY l:=rfl
theorem AAW(l:S Be)(d:Be):sZ (d::l)=rB d++sZ l:=rfl
theorem mS:∀l:S Ai,(wY l).length=17*W l
 |[]=>rfl
 |d::l=>by rw[zZ,AZ,AI6,mS l,Bh];omega
theorem tR:∀l:S Be,(sZ l).length=24*W l
 |[]=>rfl
 |d::l=>by rw[AAW,AZ,AJc,tR l,Bh];omega
def i8r{n:V}(a:0<=n)(b:n<=1099511627776):cr 8 n:=⟨n!,o!⟩
def i1r{n:V}(a:0<=n)(b:n<256):cr 1 n:=⟨λ_=>k!,o!⟩
def i2r{n:V}(a:0<=n)(b:n<65536):cr 2 n:=⟨λ_=>k!,o!⟩
def i4r{n:V}(a:0<=n)(b:n<4294967296):cr 4 n:=⟨λ_=>k!,o!⟩
def AG7{x}(h:VIs x):Ao (IX x) λr=>r.1=C6 (W x:V) 2++sZ x\/r.1=[]:=by
 have⟨c,d,e⟩:=h;refine AA AJn λi b=>AO (y? (.inr rfl)) (λ_=>?_);rw[IF q! g! g!,AD,B7];refine AA (P:=λr=>r=C6 (W x:V) 2++sZ x) (CQ (λs=>∃k:Q,k<=W x/\s=(C6 (W x:V) 2++sZ (x.take k),(k:V))) (W x-·.2.toNat) ⟨0,BU _,by simp[sZ]⟩ ?_) λr hr=>AB (.inl hr);rintro s ⟨k,f,rfl⟩;unfold Iz;dsimp[T];refine AC (λa=>?_) (λa=>k? k!);have g:(C6 (W x:V) 2++sZ (x.take k)).length<=2000:=by grind[n?,Ay,tR,r?]
 rw[(by unfold ix;rw[C! o!,s?,m? o!]:ix x (k:V)=Y x[k]),p?,IF o! g! g!,p?,p?,IF (by rw[n?,Ay];simp only[Int.reduceToNat];omega) g! g!,p?,p?,IF (by rw[n?,n?,Ay,Ay];simp only[Int.reduceToNat];omega) g! g!,p?,AY];refine y! ⟨k+1,o!,?_⟩ o!
 rw[(by simp_all:x.take (k+1)=x.take k++[x[k]]),AFt];simp only[A2];exact DZ rfl o!
def AG2{x}(h:VIs x):Ao (Eo (C6 (W x:V) 2++sZ x)) λr=>r.2=0->r.1=x:=by
 have⟨t,u,i⟩:=h;have y:(C6 (W x:V) 2++sZ x).length=2+24*W x:=by rw[AZ,Ay,tR]
 unfold Eo;have d:=(lQ (x:=C6 (W x:V) 2++sZ x) (p:=[]) (rest:=sZ x) (at_:=0) (k:=2) (n:=(W x:V)) rfl rfl o! g! g! (i2r o! o!)).1;rw[show(((2:Q)):V)=2 from rfl]at d;rw[d,AD];have m:wi (T (C6 (W x:V) 2++sZ x)-2)=24*(W x:V):=by grind[AY]
 have o:wi (24*((W x:V),(0:V)).1)=24*(W x:V):=AY k!;rw[show((((W x:V),(0:V)):V×V).2 !=0)=X from rfl,A!,F! o!,A!,F! o!,A!];refine AA (P:=λr=>r=x) ?_ λr hr=>?_
 ·refine CQ (λs=>∃k:Q,k<=W x/\s=((k:V),x.take k)) (W x-·.1.toNat) ⟨0,BU _,rfl⟩ ?_;rintro s ⟨k,w,rfl⟩;unfold Iy;dsimp only;refine AC (λl=>?_) (λl=>k? (by rw[BN o!]));have b:k<W x:=o!
  have a:(sZ (x.take k)).length=24*k:=by grind[tR,r?]
  have c:C6 (W x:V) 2++sZ x=(C6 (W x:V) 2++sZ (x.take k))++(C6 x[k].1 8++(C6 x[k].2.1 8++(C6 x[k].2.2 8++sZ (x.drop (k+1))))):=by rw[(by grind[AAW,List.drop_eq_getElem_cons,sZ,List.flatten_append,List.take_append_drop]:sZ x=sZ (x.take k)++(rB x[k]++sZ (x.drop (k+1))))];unfold rB;simp[A2]
  have⟨q1,q2,q3⟩:=i x[k] (Gz b);have e:=(lQ (at_:=2+24*(k:V)) (k:=8) c (by rw[AZ,Ay,a];omega) o! g! g! (i8r q1.1 q1.2)).1;rw[<-A2]at c;have f:=(lQ (at_:=10+24*(k:V)) (k:=8) c (by simp[AZ,Ay,a];omega) o! g! g! (i8r q2.1 q2.2)).1;rw[<-A2]at c;have g:=(lQ (at_:=18+24*(k:V)) (k:=8) c (by simp[AZ,Ay,a];omega) o! g! g! (i8r q3.1 q3.2)).1;rw[show(((8:Q)):V)=8 from rfl]at e f g;rw[AY (x:=24*(k:V)),AY (x:=2+24*(k:V)),AY (x:=10+24*(k:V)),AY (x:=18+24*(k:V)),e,AD,f,AD,g,AD,AY (x:=(k:V)+1)];refine AA (Ac (by rw[BQ];simp;omega)) λz j=>y! ⟨k+1,b,?_⟩ d!
  rw[j.1,(by simp_all:x.take (k+1)=x.take k++[x[k]])];exact DZ d! rfl
 subst hr;exact AA AJn λA v=>AO (y? λq=>O! (show(28:V)=0 from q) g!) (y? λ_=>rfl)
def AG8{c:Ce}(l:W c.2.2.2.1<=16777216):Ao (Gn c) λr=>W r.1<=8192->r.1=[]\/(VCk c/\∃b g:Bd,r.1=C6 c.1 2++(C6 c.2.1 4++(C6 (W b:V) 4++(b++(C6 (W c.2.2.2.1:V) 1++(wY c.2.2.2.1++g)))))/\(g=C6 (W c.2.2.2.2:V) 2++sZ c.2.2.2.2\/g=[])):=by
 unfold Gn;refine AA (AK7 l) λB n=>AO (y? λ_=>.inl rfl) (λe=>?_);have m:=n e;have⟨a1,a2,a3,a4,a5,a6,a7⟩:=id m;have t:=a5.len a2;refine AA TL λx z=>?_;rw[IF q! g! g!,AD,B7,IF (by rw[Ay];decide) g! g!,AD,IF (by simp only[AZ,Ay];decide) g! g!,AD];refine AA (CM (by simp[AZ,Ay,Int.reduceToNat];omega)) λj q=>?_;have w:=q.2;simp[AZ,Ay,Int.reduceToNat]at w;dsimp[T];rw[IF o! g! g!,AD];refine AA (P:=λr=>r=j++(C6 (W c.2.2.2.1:V) 1++wY c.2.2.2.1)) ?_ λh o=>?_
 ·refine CQ (λs=>∃k:Q,k<=W c.2.2.2.1/\s=(j++(C6 (W c.2.2.2.1:V) 1++wY (c.2.2.2.1.take k)),(k:V))) (W c.2.2.2.1-·.2.toNat) ⟨0,BU _,by simp[wY]⟩ ?_;rintro s ⟨k,A,rfl⟩;unfold I1;dsimp[T];refine AC (λe=>?_) (λe=>k? k!);have a:k<W c.2.2.2.1:=o!
  have u:ix c.2.2.2.1 (k:V)=Y c.2.2.2.1[k]:=by unfold ix;rw[C! o!,s?,m? a]
  have l:(j++(C6 (W c.2.2.2.1:V) 1++wY (c.2.2.2.1.take k))).length<=100000000:=by grind[n?,Ay,mS,r?]
  rw[u,AD,IF o! g! g!,AD,AD,IF (by rw[AZ,Ay];simp only[Int.reduceToNat];omega) g! g!,AD,AD,IF (by rw[AZ,AZ,Ay,Ay];simp only[Int.reduceToNat];omega) g! g!,AD,AY];refine y! ⟨k+1,a,?_⟩ k!
  have f:c.2.2.2.1.take (k+1)=c.2.2.2.1.take k++[c.2.2.2.1[k]]:=t!
  rw[f,AEq];unfold dB;grind[t?,Prod.ext]
 refine AA (TJ.and (AG7 a6)) λi d=>?_;have v:W h<=100000000:=by grind[n?,Ay,mS]
 refine AA (CM o!) λy p=>AB λ_=>.inr ⟨m,x.1,i.1,?_,d.2⟩;grind[t?]
def AG3{c}(Q:VCk c){b l s:Bd}(J:s=C6 c.1 2++(C6 c.2.1 4++(C6 (θ b:Int) 4++(b++(C6 (θ c.2.2.2.1:Int) 1++(wY c.2.2.2.1++l))))))(X_:θ s≤8192)(v:l=C6 (θ c.2.2.2.2:Int) 2++sZ c.2.2.2.2∨l=[]):
  Ao (DO s) λr=>r.2=0->r.1.1=c.1/\r.1.2.2.2.1=c.2.2.2.1/\r.1.2.2.2.2=c.2.2.2.2:=by
 obtain⟨a1,a2,a3,a4,a5,a6,a7⟩:=id Q;have O:=a5.len a2;have d:=J;have y:=E! θ J;simp only[AZ,Ay,mS]at y;have F:=(lQ (x:=s) (p:=[]) (at_:=0) (k:=2) (n:=c.1) (show s=[]++(C6 c.1 2++_)from d) rfl o! g! g! (i2r o! o!)).1;have G:=(lQ (at_:=2) (k:=4) (n:=c.2.1) d (by rw[Ay];rfl) o! g! g! (i4r o! o!)).1;rw[<-A2]at d;have H:=(lQ (at_:=6) (k:=4) (n:=(θ b:Int)) d (by rw[AZ,Ay,Ay];rfl) o! g! g! (i4r o! o!)).1;rw[<-A2,<-A2]at d;have I:=(lQ (at_:=10+(θ b:Int)) (k:=1) (n:=(θ c.2.2.2.1:Int)) d (by simp only[AZ,Ay];omega) o! g! g! (i1r o! o!)).1;rw[<-A2]at d;rw[show(((2:Nat)):Int)=2 from rfl]at F;rw[show(((4:Nat)):Int)=4 from rfl]at G H;rw[show(((1:Nat)):Int)=1 from rfl]at I;have w:((((C6 c.1 2++C6 c.2.1 4)++C6 (θ b:Int) 4)++b)++C6 (θ c.2.2.2.1:Int) 1).length=11+θ b:=by simp only[AZ,Ay];omega
 generalize V:(((C6 c.1 2++C6 c.2.1 4)++C6 (θ b:Int) 4)++b)++C6 (θ c.2.2.2.1:Int) 1=P at d w;unfold DO;rw[F,AD,G,AD,H,AD];dsimp only[len];rw[show((0:Int) !=0)=X by decide,A!,AY (x:=(θ s:Int)-10),F! o!,A!,AY (x:=10+(θ b:Int))];refine AA (CW g!) λY_ L=>?_;rw[I,AD];dsimp only;rw[show((0:Int) !=0)=X by decide,A!,AY (x:=(θ s:Int)-(10+(θ b:Int))),AY (x:=(θ s:Int)-(10+(θ b:Int))-1),AY (x:=17*(θ c.2.2.2.1:Int)),F! o!,A!,AY (x:=10+(θ b:Int)+1)];refine AA (P:=λr=>r=((θ P:Int)+17*θ c.2.2.2.1,c.2.2.2.1,c.1,c.2.1,[],[])) ?_ λR m=>?_
 ·refine CQ (λq=>∃k:Nat,k<=θ c.2.2.2.1/\q=((θ P:Int)+17*k,(k:Int),c.2.2.2.1.take k,c.1,c.2.1,[],[])) (θ c.2.2.2.1-·.2.1.toNat) ⟨0,BU _,?_⟩ ?_;refine DZ ?_ rfl;dsimp only;omega;rintro q ⟨k,W,rfl⟩;unfold Mp;dsimp only;refine AC (λN=>?_) (λN=>k? (by rw[BN o!,show k=θ c.2.2.2.1 by omega]));have e:k<θ c.2.2.2.1:=o!
  have z:wY c.2.2.2.1=wY (c.2.2.2.1.take k)++(dB c.2.2.2.1[k]++wY (c.2.2.2.1.drop (k+1))):=by rw[<-zZ,<-OO e];unfold wY;rw[<-List.flatten_append,<-LR,DG]
  have f:(wY (c.2.2.2.1.take k)).length=17*k:=by rw[mS,BQ];omega
  have i:s=(P++wY (c.2.2.2.1.take k))++(C6 c.2.2.2.1[k].1 1++(C6 c.2.2.2.1[k].2.1 8++(C6 c.2.2.2.1[k].2.2 8++(wY (c.2.2.2.1.drop (k+1))++l)))):=by rw[d,z];unfold dB;simp only[A2]
  obtain⟨q1,q2,q3,q4,q5⟩:=(a5 k _ (Au e)).1;have C:=(lQ (at_:=(θ P:Int)+17*k) (k:=1) i (by rw[AZ,f];omega) o! g! g! (i1r o! o!)).1;rw[<-A2]at i;have D_:=(lQ (at_:=(θ P:Int)+17*k+1) (k:=8) i (by simp only[AZ,Ay,f];omega) o! g! g! (i8r o! o!)).1;rw[<-A2]at i;have E_:=(lQ (at_:=(θ P:Int)+17*k+9) (k:=8) i (by simp only[AZ,Ay,f];omega) o! g! g! (i8r o! o!)).1;rw[show(((1:Nat)):Int)=1 from rfl]at C;rw[show(((8:Nat)):Int)=8 from rfl]at D_ E_;rw[C,AD,AY (x:=(θ P:Int)+17*k+1),D_,AD,AY (x:=(θ P:Int)+17*k+9),E_,AD,AY (x:=(θ P:Int)+17*k+17),AY (x:=(k:Int)+1)];refine AA (Ac (by rw[BQ];simp;omega)) λZ M=>y! ⟨k+1,e,?_⟩ d!
  have B:c.2.2.2.1.take (k+1)=c.2.2.2.1.take k++[c.2.2.2.1[k]]:=by rw[Cl,Au e];rfl
  rw[M.1,B];refine DZ ?_ (DZ ?_ rfl);dsimp only;omega;dsimp only;omega
 subst m;refine AA (TK (by rw[L.1,BQ,C2];omega)) λS _=>AL (λg=>AB λh=>O! h g) (λ_=>?_);dsimp only;have A:R3 s ((θ P:Int)+17*(θ c.2.2.2.1:Int)) (θ s:Int)=Y l:=by
  unfold R3;rw[C! o!,d,<-A2];have u:(P++wY c.2.2.2.1).length=((θ P:Int)+17*(θ c.2.2.2.1:Int)).toNat:=by rw[AZ,mS];omega
  rw[<-u,Rk,BN (by rw[AZ];omega)]
 rw[A,AD];rcases v with rfl|rfl;refine AA ((TI o!).and (AG2 a6)) λT o=>AL (λg=>AB λh=>O! h g) (λj=>AA (Ol d!) λU _=>AO (y? λh=>O! (show(24:Int)=0 from h) g!) (y? λ_=>⟨rfl,rfl,o.2 j⟩));have K:Eo []=Y ([],5):=by unfold Eo;have:=kG (a:=[]) (t:=[]) (k:=2) g! g! g!;rw[DT,D! g!]at this;rw[show((([]:Bd).length:Nat):Int)=0 from rfl]at this;rw[this];rfl
 rw[K,AD];exact AB λh=>O! (show(5:Int)=0 from h) g!
variable {B:Int->Prop}
def fD{x:Bx}:Ao (MD x) λr=>r.length<=64/\(∀d∈r,∃f∈x.2.1,f.1.1=d.1/\d.2.2=f.1.2.1)/\(Pz x-> ∀f∈x.2.1,f.2.1=true->0<=f.1.1->f.1.1<64-> ∃d∈r,d.1=f.1.1):=by
 unfold MD;refine AA EW λv B=>AO (λm=>AB ⟨q!,q!,λo=>absurd (B.2 o) (by simp[m])⟩) (λm=>?_);have o:=B.1 m;have R:=o.2.1;have S:=o.2.2.1;refine AA (P:=λr=>r.length<=64/\(∀d∈r,∃f∈x.2.1,f.1.1=d.1/\d.2.2=f.1.2.1)/\ ∀f∈x.2.1,f.2.1=true->0<=f.1.1->f.1.1<64-> ∃d∈r,d.1=f.1.1) ?_ λr hr=>AB ⟨hr.1,hr.2.1,λ_=>hr.2.2⟩;refine CQ (λ(s:Int×List Ai)=>0<=s.1/\s.1<=64/\s.2.length<=s.1/\(∀d∈s.2,∃f∈x.2.1,f.1.1=d.1/\d.2.2=f.1.2.1)/\ ∀f∈x.2.1,f.2.1=true->0<=f.1.1->f.1.1<s.1-> ∃d∈s.2,d.1=f.1.1) (λ(s:Int×List Ai)=>(64-s.1).toNat) ⟨Ae _,u!,q!,q!,λf _ _ i k=>absurd k d!⟩ (λs I=>?_);have⟨k,O,Q,p,q⟩:=I;unfold TH;rw[(AY (x:=s.1+1))];refine AC (λm=>?_) (λm=>Ao.done ⟨o!,p,λf h c i k=>q f h c i o!⟩);refine AA (Gl d!) λL b=>AC (λa=>?_) (λa=>Ao.next ⟨d!,d!,d!,p,λf h c i k=>?_⟩ d!)
 ·have⟨g,A,t⟩:=b.2.2.1 a;have D_: ∀w,x.2.1[L.toNat]? =some w->w=g:=λw C=>by rw[A]at C;exact(BW C).symm
  refine AA (AI a b.2.1) λM y=>?_;have E_:=D_ M y.1;subst E_;refine AA (P:=λl=>l.length<=s.2.length+1/\(∀d∈l,∃f∈x.2.1,f.1.1=d.1/\d.2.2=f.1.2.1)/\ ∀f∈x.2.1,f.2.1=true->0<=f.1.1->f.1.1<s.1+1-> ∃d∈l,d.1=f.1.1) ?_ λV H=>Ao.next ⟨d!,d!,d!,H.2⟩ d!
  refine AK (λn=>?_) (λn=>AB ⟨o!,p,λf h c i k=>?_⟩);refine AA (AI a b.2.1) λT _=>AA (AI a b.2.1) λN z=>?_;have F:=D_ N z.1;subst F;refine AA (Ac w!) λU G=>AB ⟨?_,λd c=>?_,λf h c i k=>?_⟩;grind;grind;rw[G.1];by_cases e:f.1.1<s.1;have⟨d,J,K⟩:=q f h c i e;grind[List.mem_append_left];exact⟨_,LU _ (A9.2 rfl),d!⟩;by_cases e:f.1.1<s.1;exact q f h c i e;have⟨j,u⟩:=Db h;have:=o.uniq u A (by dsimp only at t;omega);subst this;rw[n]at c;cases c
 by_cases e:f.1.1<s.1;grind;have⟨j,u⟩:=Db h;exact absurd ⟨j,f,u,by dsimp only at k⊢;omega⟩ (b.2.2.2 o!)
def lM{x:AT}(h:SK B x):Ao (Pk x) λr=>r.2=0->r.1.2.2.2.1.length<=16777216/\r.1.1=x.1/\yw x.1 x.2.2.1.2.1 r.1.2.2.2.1 r.1.2.2.2.2:=by
 unfold Pk;refine AA (CK h.sb) λv hv=>AO (λ_=>AB n!) (λo=>?_);have J:=hv o;have ad:=J.2.1;have⟨al,n,H⟩:=h.ki;refine AA (P:=λr=>r.1.length<=16777216/\r.2=(x.1,(x.2.1,(x.2.2.2.2.2.1,x.2.2.2.2.2.2.1)))/\(∀d∈r.1,d.2.2=BY x.2.2.1.2.1 d.1)/\ ∀p,0<=p->p<x.1->(∀d∈r.1,d.1≠p)->(∀d∈x.2.2.2.2.2.2.2,d.1≠p)/\ ∀f∈x.2.2.2.1.2.1,f.1.1=p->f.2.1=false) ?_ λr hr=>AB λ_=>⟨hr.1,by rw[hr.2.1],λp g i=>⟨λd a e=>by rw[hr.2.2.1 d a,e],λw D_=>?_⟩⟩
 rotate_left 1;dsimp only at D_;rw[hr.2.1]at D_;have⟨_,_,c⟩:=n p g i;exact⟨(c w D_).1,λa=>(c w D_).2 (hr.2.2.2 p g i a).1 (hr.2.2.2 p g i a).2⟩;refine CQ (λ(s:Int×(List Ai)×Int×Int×(List Ap)×Bv)=>0<=s.1/\s.1<=x.1/\s.2.1.length<=65*s.1/\s.2.2=(x.1,(x.2.1,(x.2.2.2.2.2.1,x.2.2.2.2.2.2.1)))/\(∀d∈s.2.1,d.2.2=BY x.2.2.1.2.1 d.1)/\ ∀p,0<=p->p<s.1->(∀d∈s.2.1,d.1≠p)->(∀d∈x.2.2.2.2.2.2.2,d.1≠p)/\ ∀f∈x.2.2.2.1.2.1,f.1.1=p->f.2.1=false) (λ(s:Int×(List Ai)×Int×Int×(List Ap)×Bv)=>(x.1-s.1).toNat) ⟨Ae _,by have:=J.1;dsimp only;omega,q!,rfl,q!,λp g i=>absurd i d!⟩ (λs hI=>?_);have⟨h1,h2,h3,R,S,b⟩:=hI;unfold WE;have e:=AY (x:=s.1+1);rw[e];refine AC (λo=>?_) (λ_=>Ao.done ⟨o!,R,S,λp g i=>b p g o!⟩);refine AA (KV h.sb) λv2 y=>AA (P:=λl=>l.1.length<=s.2.1.length+1/\l.2=s.2.2/\(∀d∈l.1,d.2.2=BY x.2.2.1.2.1 d.1)/\(∀d∈s.2.1,d∈l.1)/\((∀d∈l.1,d.1≠s.1)-> ∀d∈x.2.2.2.2.2.2.2,d.1≠s.1)) ?_ λW F=>?_;refine AK (λm=>AA (Ac w!) λv6 b=>AB ?_) (λm=>AB ⟨o!,rfl,S,λd a=>a,λ_=>y.2 m⟩);have⟨q1,q2⟩:=y.1 m;have K:=b.2.1;simp at K;refine⟨d!,rfl,λd a=>?_,λd a=>by dsimp only;rw[b.1];exact F8 _ a,λhn=>absurd q2 (hn _ (by dsimp only;rw[b.1];exact LU _ (A9.2 rfl)))⟩;dsimp only at a;rw[b.1,Ak]at a;rcases a with a|a;grind;rw[A9]at a;subst a;exact(n _ (by dsimp only at q2;omega) (by dsimp only at q2;omega)).2.1 _ q1 rfl;have⟨a1,a2,a3,a4,a5⟩:=F;refine AA fD λE_ L=>?_;have⟨b1,Y_,Z⟩:=L;refine AA (P:=λl=>l.1.length<=s.2.1.length+65/\l.2=s.2.2/\(∀d∈l.1,d.2.2=BY x.2.2.1.2.1 d.1)/\(∀d∈W.1,d∈l.1)/\ ∀d∈E_,d.1=s.1->d∈l.1) ?_ λao k=>Ao.next ⟨d!,d!,d!,by dsimp only;rw[k.2.1,R],k.2.2.1,λp g i hn=>?_⟩ d!
 rotate_left 1;have⟨_,_,_,N,c5⟩:=k;dsimp only at i hn;by_cases u:p<s.1;exact b p g u λd a=>hn d (N d (a4 d a));have ep:p=s.1:=o!
 subst ep;refine⟨a5 λd a=>hn d (N d a),λf C Q=>?_⟩;cases hb:f.2.1 with
 |false=>rfl
 |true=>have⟨d,G,q⟩:=Z J.2.2.2.1 f C hb o! o!;exact absurd (q.trans Q) (hn d (c5 d G (q.trans Q)))
 refine CQ (λ(t:Int×(List Ai)×Int×Int×(List Ap)×Bv)=>0<=t.1/\t.1<=E_.length/\t.2.1.length<=s.2.1.length+1+t.1/\t.2.2=s.2.2/\(∀d∈t.2.1,d.2.2=BY x.2.2.1.2.1 d.1)/\(∀d∈W.1,d∈t.2.1)/\ ∀(j:Nat) (d:Ai),(j:Int)<t.1->E_[j]? =some d->d.1=s.1->d∈t.2.1) (λ(t:Int×(List Ai)×Int×Int×(List Ap)×Bv)=>((E_.length:Int)-t.1).toNat) ⟨Ae _,d!,d!,a2,a3,λd a=>a,λj d I=>absurd I d!⟩ (λt hJ=>?_);have⟨j1,j2,j3,U,M,V,j7⟩:=hJ;unfold WF;have e2:=AY (x:=t.1+1);rw[e2];refine AC (λo=>?_) (λo=>Ao.done ⟨o!,U,M,V,λd a O=>?_⟩);rotate_left 1;grind[List.getElem?_of_mem,Cv];simp[len]at o;refine AA (AI j1 o) λX_ z=>AA (P:=λl=>l.1.length<=t.2.1.length+1/\l.2=t.2.2/\(∀d∈l.1,d.2.2=BY x.2.2.1.2.1 d.1)/\(∀d∈t.2.1,d∈l.1)/\(X_.1=s.1->X_∈l.1)) ?_ λv9 A=>Ao.next ⟨d!,d!,d!,A.2.1.trans U,A.2.2.1,λd a=>A.2.2.2.1 d (V d a),λj d I a O=>?_⟩ d!
 rotate_left 1;dsimp only at I;by_cases u:(j:Int)<t.1;grind;have:j=t.1.toNat:=o!
 subst this;rw[z.1]at a;have:=BW a;subst this;exact A.2.2.2.2 O;refine AP (λT=>AA (Ac w!) λv6 b=>AB ?_) (λT=>AB ⟨o!,rfl,M,λd a=>a,λe=>absurd e T⟩);have K:=b.2.1;simp at K;refine⟨d!,rfl,λd a=>?_,λd a=>by dsimp only;rw[b.1];exact F8 _ a,λ_=>by dsimp only;rw[b.1];exact LU _ (A9.2 rfl)⟩;dsimp only at a;rw[b.1,Ak]at a;rcases a with a|a;exact M d a;rw[A9]at a;subst a;have⟨f,C,f1,f2⟩:=Y_ d z.2;have hr:=H f C;rw[f2,(n d.1 o! o!).1 f C f1,Jf]
theorem AG4:∃c e,DO []=Y (c,e)/\e≠0:=⟨(0,0,[],[],[]),5,h!,g!⟩
def iW{x}(h:SK B x):Ao (RR x) λr=>r.2.2=0->KL B x r.1:=by
 refine AA (lM h) λM u=>AL (λb=>AB λa=>O! a b) (λa=>?_);have⟨o,L,C⟩:=u a;refine AA ((cM o).and (AG8 o)) λE_ j=>AC (y? n!) (λf=>?_);simp[T]at f;have d:∀c,DO E_.1=Y (c,0)->c.1=x.1->yw x.1 x.2.2.1.2.1 c.2.2.2.1 c.2.2.2.2:=by intro c b _;rcases j.2 o! with e|⟨g,D_,K,A,i⟩;grind[AG4,Option.some.inj];have⟨_,q2,q3⟩:=(AG3 g A o! i).get b rfl;rw[q2,q3];exact C
 refine AA (GC h.sb) λN v=>AL (λb=>AB λa=>O! a b) (λa=>?_);have⟨_,⟨a1,a2,a3,a4,a5,a6,a7,a8,e,k,s,t,l,I,m,J⟩,w⟩:=v a;dsimp only at a1 a2 a4 a7 k s t l m w;have y:=a2.1;refine AA (KQ.and (tc a3 k!)) λO n=>AB λ_=>?_;have⟨F,p,G,H,_⟩:=n.1 n.2;refine⟨a1,a2.trans (LX.of G p H),⟨a8.1,a8.2.1,a8.2.2,?_⟩,F⟩;unfold KI;rw[a1,a4,a7,p,k,m g!];refine⟨h.ki.1.app ⟨λq=>o!,λq=>o!,λ_=>?_⟩,h.ki.2.1.app o!,h.ki.2.2⟩;rw[(E! (·.2.2) l)];exact d
def Xw{x:AV}(h:SK B x.1)(d:DJ B x.1.2.2.1 x.2):Ao (Lh x) λr=>r.2.2=0->SR B x r.1:=by exact AA (iW h) λe b=>AL (λc=>AB λa=>O! a c) (λa=>AB λ_=>⟨b a,d.up (b a).2.1⟩)
end Go.Pm
namespace Go.Pm
open Go Go.Ab
theorem cL{x:Bd}(h:x.length<=1099511627776):Ao (DO x) λr=>r.2=0->tk r.1/\r.1.2.2.2.1.length<=65536:=by unfold DO;refine AA (Cp h) λO _=>AA (Cp h) λQ _=>AA (Cp h) λc w=>AL (λa=>AB n!) (λj=>?_);have⟨a1,a2,a3,_⟩:=w j;have a4:=a3 k!;dsimp only at a1 a2;rw[(AY (x:=T x-10) k!)];refine AC (λa=>AB n!) (λa=>?_);simp[T]at a;rw[(AY (x:=10+c.1))];refine AA (CW g!) λR y=>AA (Cp h) λd z=>AL (λa=>AB n!) (λk=>?_);have⟨o,p,q,t⟩:=z k;have G:=q k!;have H:=t k!;dsimp only at o p;rw[(AY (x:=T x-(10+c.1)) k!)];rw[(AY (x:=T x-(10+c.1)-1) k!)];rw[(AY (x:=17*d.1))];refine AC (λa=>AB n!) (λi=>?_);simp[T]at i;rw[(AY (x:=10+c.1+1))];refine AA (P:=λr=>r.1=10+c.1+1+17*d.1/\r.2.1.length<=65536) ?_ λB e=>?_;refine AW (λ(s:V×V×U Ai×V×V×U Ap×Bv)=>0<=s.2.1/\s.2.1<=d.1/\s.1=10+c.1+1+17*s.2.1/\s.2.2.1.length<=s.2.1) (λ(s:V×V×U Ai×V×V×U Ap×Bv)=>(d.1-s.2.1).toNat) ⟨Ae _,k!,k!,q!⟩ (λs A=>?_);have⟨J,K,L,M⟩:=A;unfold Mp;refine AC (λa=>AA (Cp h) λ_ _=>AA (Cp h) λ_ _=>AA (Cp h) λ_ _=>AA (Ac w!) λS I=>?_) (λa=>AB ⟨k!,k!⟩);grind[List.length_cons,List.length_nil,AY,AB];have N:=y.2;refine AA (TK o!) λC u=>AL (λa=>AB λb=>absurd b a) (λm=>AA (CW o! (by simp[T];omega) i!) λD_ f=>?_);have l:=f.2;simp[T]at l;exact AA (TI o!) λE_ v=>AL (λa=>AB λb=>absurd b a) (λn=>AA (Ol d!) λF g=>AO (λa=>AB n!) (λa=>AB λ_=>⟨g a,e.2⟩))
def Mc.data{e}(h:Mc e):W e.2.2.2.2.2.2.2<=8192:=by have a:=h.2.2.2.2.2.2.2.2;grind[Vw]
def cN{x:Aa}:Ao (Pj x) λr=>r.2.2=true->(tk r.1/\r.1.2.2.2.1.length<=65536)/\ ∃(i:Q) (e:AE),x.2.1[i]? =some e/\e.2.1=6/\e.1=r.2.1/\DO e.2.2.2.2.2.2.2=some (r.1,0):=by
 refine AA Bb λv j=>AO (λ_=>AB λc=>by cases c) (λa=>?_);have f:=j.1 a;have g:=f.2.2.1;have e:=AY (x:=T x.2.1-1) k!;refine AA (P:=λr=> ∀u,r= .inl u->(tk u.2.2/\u.2.2.2.2.2.1.length<=65536)/\ ∃(i:Q) (e:AE),x.2.1[i]? =some e/\e.2.1=6/\e.1=u.1/\DO e.2.2.2.2.2.2.2=some (u.2.2,0)) ?_ λr hr=>BG (λu b=>AB λ_=>hr u b) (λ_ _=>AB λc=>by cases c);refine AW (λ(s:V×Ce)=> -1<=s.1/\s.1<x.2.1.length) (λ(s:V×Ce)=>(s.1+1).toNat) ⟨k!,k!⟩ (λs d=>?_);unfold SM;rw[(AY (x:=s.1-1))];refine AC (λa=>?_) (λ_=>AB λu b=>by cases b);have k:((-1<=s.1-1/\s.1-1<x.2.1.length)/\(s.1-1+1).toNat<(s.1+1).toNat):=o!
 refine AA (AI a d.2) λo l=>AL (λ_=>AB k) (λm=>AA (AI a d.2) λp h=>?_);have n:=(f.2.2.2.2.2 _ _ h.1).2.data;grind[D6,cL,AP,AA,AI,AB]
def DG2(x:S Ai×AE)(l:S Ai):Prop:=∀d∈l,(d.1=x.2.2.2.2.2.2.2.1.1/\d.2.2=x.2.1)\/(d.1≠x.2.2.2.2.2.2.2.1.1/\d∈x.1)
def DG1(x:S Ai×AE)(l:S Ai):Prop:=∀d∈l,∃c∈x.1,c.1=d.1/\c.2.2=d.2.2
def DK(x:S Ai×AE)(i:V)(l:S Ai):Prop:=∀(j:Q)(d:Ai),(j:V)<i->x.1[j]?=Y d->d.1≠x.2.2.2.2.2.2.2.1.1->d∈l
def DG2.snoc{x}{l m:S Ai}{d:Ai}(h:DG2 x l)(e:m=l++[d])(b:(d.1=x.2.2.2.2.2.2.2.1.1/\d.2.2=x.2.1)\/(d.1≠x.2.2.2.2.2.2.2.1.1/\d∈x.1)):DG2 x m:=by subst e;intro c a;rcases Ak.1 a with a|a;exact h c a;grind
def DG1.snoc{x}{l m:S Ai}{d:Ai}(h:DG1 x l)(e:m=l++[d])(b:∃c∈x.1,c.1=d.1/\c.2.2=d.2.2):DG1 x m:=by subst e;intro c a;rcases Ak.1 a with a|a;exact h c a;grind
def DK.snoc{x}{l m:S Ai}{d:Ai}{i}(h:DK x i l)(e:m=l++[d]):DK x i m:=λj c b a hn=>by rw[e];exact F8 _ (h j c b a hn)
def DK.next{x}{l}{v:Ai}{i k:V}(h:DK x i l)(d:0<=i)(f:k=i+1)(m:x.1[ο i]?=Y v)(g:v.1≠x.2.2.2.2.2.2.2.1.1->v∈l):DK x k l:=λj c e b hn=>by by_cases a:(j:V)<i;exact h j c a b hn;grind
def ZU{x:U Ai×AE}{s:R×V×U Ai}(o:x.2.2.1=7)(h:0<=s.2.1/\s.2.1<=θ x.1/\θ x.1<=1000000/\θ s.2.2<=s.2.1+1/\(s.1=η->(θ s.2.2:V)<=s.2.1)/\DG1 x s.2.2/\DK x s.2.1 s.2.2):Ao (Ag (F4 x) s) λr=>(θ r.2<=θ x.1+1/\(r.1=η->θ r.2<=θ x.1))/\DG1 x r.2/\DK x (θ x.1) r.2:=by
 refine AW (λ(s:R×V×U Ai)=>0<=s.2.1/\s.2.1<=θ x.1/\θ x.1<=1000000/\θ s.2.2<=s.2.1+1/\(s.1=η->(θ s.2.2:V)<=s.2.1)/\DG1 x s.2.2/\DK x s.2.1 s.2.2) (λ(s:R×V×U Ai)=>((θ x.1:V)-s.2.1).toNat) h (λs i=>?_);have⟨g,t,v,w,b,c,f⟩:=i;unfold F4;repeat' with_reducible first|intro a|apply AC|apply AO|apply AP|apply AK|(apply BJ;try dsimp only)|apply Bn|apply B5|apply Na|(apply BF;try dsimp only)|(apply A0;try dsimp only)|(apply BG<;>(intro u l;try subst l))|apply AB|(apply AA (CR);intro r hr)|(refine AM ?_ (AI ?_ ?_);rintro r ⟨hr,q⟩)|(refine AM ?_ (Ac ?_);rintro r ⟨hr,p,k⟩)
 all_goals try dsimp[T]at*
 all_goals try (have e:=AY (x:=s.2.1+1))
 all_goals try (have m:=b v!)
 all_goals (try simp only[Bh,Bj]at*)
 all_goals first
  |omega
  |exact⟨⟨o!,λh=>by have:=b h;omega⟩,c,λj d n=>f j d o!⟩
  |(exfalso;grind;done)
  |(refine⟨⟨o!,o!,o!,o!,by first|(intro h;have:=b h;omega)|(intro h;cases h),?_,?_⟩,o!⟩
    first|exact c|exact c.snoc v! (by refine⟨_,v!,?_,?_⟩<;>rfl)
    ·first|exact f.next g e v! (λhn=>O! v! hn)|exact(f.snoc v!).next g e v! (by first|(intro hn;exact O! v! hn)|(intro _;subst_vars;simp)))
def ZV{x:U Ai×AE}{s:R×V×U Ai}(q:x.2.2.1=1\/x.2.2.1=2)(h:0<=s.2.1/\s.2.1<=θ x.1/\θ x.1<=1000000/\θ s.2.2<=s.2.1+1/\(s.1=η->(θ s.2.2:V)<=s.2.1)/\DG2 x s.2.2/\DK x s.2.1 s.2.2/\(s.1=ζ->∃d∈s.2.2,d.1=x.2.2.2.2.2.2.2.1.1)):Ao (Ag (F4 x) s) λr=>(θ r.2<=θ x.1+1/\(r.1=η->θ r.2<=θ x.1))/\DG2 x r.2/\DK x (θ x.1) r.2/\(r.1=ζ->∃d∈r.2,d.1=x.2.2.2.2.2.2.2.1.1):=by
 refine AW (λ(s:R×V×U Ai)=>0<=s.2.1/\s.2.1<=θ x.1/\θ x.1<=1000000/\θ s.2.2<=s.2.1+1/\(s.1=η->(θ s.2.2:V)<=s.2.1)/\DG2 x s.2.2/\DK x s.2.1 s.2.2/\(s.1=ζ->∃d∈s.2.2,d.1=x.2.2.2.2.2.2.2.1.1)) (λ(s:R×V×U Ai)=>((θ x.1:V)-s.2.1).toNat) h (λs l=>?_);have⟨i,w,y,z,c,a,f,k⟩:=l;unfold F4;repeat' with_reducible first|intro b|apply AC|apply AO|apply AP|apply AK|(apply BJ;try dsimp only)|apply Bn|apply B5|apply Na|(apply BF;try dsimp only)|(apply A0;try dsimp only)|(apply BG<;>(intro u n;try subst n))|apply AB|(apply AA (CR);intro r hr)|(refine AM ?_ (AI ?_ ?_);rintro r ⟨hr,v⟩)|(refine AM ?_ (Ac ?_);rintro r ⟨hr,t,m⟩)
 all_goals try dsimp[T]at*
 all_goals try (have e:=AY (x:=s.2.1+1))
 all_goals try (have o:=c v!)
 all_goals (try simp only[Bh,Bj]at*)
 all_goals first
  |omega
  |exact⟨⟨o!,λh=>by have:=c h;omega⟩,a,λj d p=>f j d o!,k⟩
  |(exfalso;grind;done)
  |(refine⟨⟨o!,o!,o!,o!,by first|(intro h;have:=c h;omega)|(intro h;cases h)|trivial,?_,?_,?_⟩,o!⟩
    first|exact a.snoc v! (by exact .inl ⟨v!,rfl⟩)|exact a.snoc v! (by exact .inr ⟨v!,v!⟩)|refine DG2.snoc (DG2.snoc a v! (by exact .inl ⟨rfl,rfl⟩)) v! (by exact .inr ⟨o!,v!⟩)
    ·first|exact(f.snoc v!).next i e v! (by first|(intro hn;exact O! v! hn)|(intro _;subst_vars;simp))|exact((f.snoc v!).snoc v!).next i e v! (by intro _;subst_vars;simp)
    first|(intro h;refine(k h).elim λd g=>⟨d,by subst_vars;simp[g.1],g.2⟩)|(intro _;subst_vars;refine⟨_,LU _ (A9.2 rfl),?_⟩;assumption)|(intro _;subst_vars;refine⟨_,F8 _ (LU _ (A9.2 rfl)),?_⟩;rfl))
def fL{x:S Ai×AE}(h:W x.1<=1000000):Ao (HJ x) λr=>W r<=W x.1+1/\(¬(x.2.2.1=1\/x.2.2.1=2)->x.2.2.1≠7->r=x.1)/\(x.2.2.1=7->DG1 x r/\DK x (W x.1) r)/\(x.2.2.1=1\/x.2.2.1=2->DG2 x r/\DK x (W x.1) r/\∃d∈r,d.1=x.2.2.2.2.2.2.2.1.1):=by
 refine AA CR λB m=>AO (λb=>?_) (λb=>?_);have i:¬(x.2.2.1=1\/x.2.2.1=2):=λq=>by rw[m.2 q]at b;cases b
 refine AL (λhn=>AB ⟨o!,λ_ _=>rfl,λe=>O! e hn,λq=>O! q i⟩) (λo=>AA (ZU o ⟨Ae _,k!,h,q!,q!,by simp[DG1],λj d g=>O! g k!⟩) λv f=>AO (λp=>AA CR λs n=>AA (P:=λl=>l=v.2) (AK (λa=>O! (n.1 a) i) (y? rfl)) λl c=>AB ?_) (y? ⟨f.1.1,λ_ q=>O! o q,λ_=>f.2,λq=>O! q i⟩));grind;have k:=m.1 b;refine AA (ZV k ⟨Ae _,k!,h,q!,q!,by simp[DG2],λj d g=>O! g k!,λq=>by cases q⟩) λv f=>?_;have⟨⟨s,z⟩,t,u,A⟩:=f;refine AO (λp=>AA CR λw n=>AA (P:=λl=>l=v.2++[(x.2.2.2.2.2.2.2.1.1,x.2.1,x.2.1)]) (AK (λa=>?_) (λa=>?_)) λl c=>AB ?_) (λy=>AB ⟨s,λq=>O! k q,λq=>O! q o!,λ_=>⟨t,u,A y⟩⟩);grind[AA,Ac,AB];grind;have:=z p;refine⟨k!,λq=>O! k q,λq=>O! q o!,λ_=>⟨t.snoc c (.inl ⟨rfl,rfl⟩),u.snoc c,_,by rw[c];exact LU _ (A9.2 rfl),rfl⟩⟩
def yw.other{n}{L}{D}{R}{e:AE}(h:yw n L D R)(a:¬(e.2.1=1\/e.2.1=2)):yw n (L++[e]) D R:=by
 intro p b c;have:aT p e=X:=by simp only[not_or]at a;simp[aT,a.1,a.2]
 rw[Px,this,D! g!];exact h p b c
def yw.change{n}{L}{D_ r}{R}{e:AE}(h:yw n L D_ R)(v:e.2.1=1\/e.2.1=2)(o:∀p,BY L p<e.1)(k:DG2 (D_,e) r)(m:DK (D_,e) (W D_) r)(u:∃d∈r,d.1=e.2.2.2.2.2.2.1.1):yw n (L++[e]) r R:=by intro p s t;have⟨a,b⟩:=h p s t;rw[Px,(by grind[aT]:aT p e=(e.2.2.2.2.2.2.1.1==p))];by_cases i:e.2.2.2.2.2.2.1.1=p;rw[beq_iff_eq.2 i,C! rfl];refine⟨λd f c=>?_,λw g=>⟨by have:=(b w g).1;have:=o p;omega,λhn=>?_⟩⟩;rcases k d f with q|q;grind;grind;grind;rw[beq_eq_false_iff_ne.2 i,D! g!];refine⟨λd f c=>?_,λw g=>⟨(b w g).1,λhn=>(b w g).2 λd f c=>?_⟩⟩;rcases k d f with q|q;grind;exact a d q.2 c;have⟨j,l⟩:=Db f;exact hn d (m j d (by have:=Cv l;omega) l (λq=>i (q.symm.trans c))) c
def yw.index{n}{L}{D_ r}{R}{e:AE}{w:Be}(h:yw n L D_ R)(A:e.2.1=7)(B:e.2.2.2.2.2.1=BY L e.2.2.2.2.2.2.1.1)(y:0≤e.2.2.2.2.2.2.1.1)(k:DG1 (D_,e) r)(l:DK (D_,e) (W D_) r)(C:R[e.2.2.2.2.2.2.1.1.toNat]?=Y w):
  yw n (L++[e]) r (R.set e.2.2.2.2.2.2.1.1.toNat ((if e.2.2.2.2.2.1>w.1 then e.2.2.2.2.2.1 else w.1),w.2)):=by
 refine yw.other ?_ o!;intro p s t;have⟨a,b⟩:=h p s t;refine⟨λd g f=>?_,λu i=>?_⟩;have⟨c,z,v,x⟩:=k d g;grind;by_cases o:e.2.2.2.2.2.2.1.1=p;grind;rw[Dc o!]at i;refine⟨(b u i).1,λhn=>(b u i).2 λd g f=>?_⟩;have⟨j,m⟩:=Db g;exact hn d (l j d k! m (λq=>o (q.symm.trans f))) f
def vz{n:V}{L:S AE}{D_ r:S Ai}{R:S Be}{q:Bv×V}{e:AE}(h:yw n L D_ R)(l:EOK n L e)(m:∀p,BY L p<e.1)
  (j:W r<=W D_+1/\(¬(e.2.1=1\/e.2.1=2)->e.2.1≠7->r=D_)/\(e.2.1=7->DG1 (D_,e) r/\DK (D_,e) (W D_) r)/\(e.2.1=1\/e.2.1=2->DG2 (D_,e) r/\DK (D_,e) (W D_) r/\∃d∈r,d.1=e.2.2.2.2.2.2.1.1))
  (k:q.2=0->W q.1=W R/\(e.2.1≠7->q.1=R)/\(e.2.1=7->0<=e.2.2.2.2.2.2.1.1/\∃w,R[e.2.2.2.2.2.2.1.1.toNat]?=Y w/\q.1=R.set e.2.2.2.2.2.2.1.1.toNat ((if e.2.2.2.2.2.1>w.1 then e.2.2.2.2.2.1 else w.1),w.2)))
  (t:q.2=0):yw n (L++[e]) r q.1:=by
 have⟨_,g,f,c⟩:=j;have⟨_,u,v⟩:=k t;by_cases b:e.2.1=7;have⟨i,w,s,o⟩:=v b;rw[o];exact h.index b (l.2.1 b) i (f b).1 (f b).2 s;rw[u b];by_cases a:e.2.1=1\/e.2.1=2;exact h.change a m (c a).1 (c a).2.1 (c a).2.2;rw[g a b];exact h.other a
variable {B:Int->Prop}
def HL(l:S Ap):Prop:=W l<=64/\∀t∈l,W t.2.2.2.2.1<=4097
def Zn.hl{l}(h:Zn l):HL l:=⟨h.1,λt b=>by have⟨i,a⟩:=Ed.1 b;have:=(h.2 i t a).1;omega⟩
def HL.set{l}{i}{n:Ap}(h:HL l)(hn:W n.2.2.2.2.1<=4097):HL (l.set i n):=⟨by rw[WT];exact h.1,λt a=>by rcases Q5 a with q|q;exact h.2 t q;rw[q];exact hn⟩
def HL.rm{l}{id}(h:HL l):HL (ADn l id):=⟨by have:=pp l id;have:=h.1;omega,λt a=>h.2 t (BR.1 a).1⟩
def Zn.lens{l}{i:Q}{t:Ap}(h:Zn l)(a:l[i]?=Y t):W t.2.2.2.2.1<=4096:=(h.2 i t a).1
def AGS{x}:Ao (GX x) λr=>r.2=0->HL r.1:=by refine AA D0 λz j=>AO (λb=>AB n!) (λb=>?_);have c:=j b;have n:=c.1;refine AA Cc λA y=>AO (λb=>AB n!) (λ_=>AP (λb=>AB λ_=>c.hl) (λp=>AA (IZ k!) λB g=>AC (λb=>AB n!) (λo=>AA (AI o! g.2.1) λC m=>?_)));have f:=c.lens m.1;refine AL (λb=>AB n!) (λ_=>AA (P:=λs=>(∃u,s=.inl u/\W u.2.2.2.2.1<=4097)\/∃u,s=.inr u/\(u.2=0->HL u.1)) ?_ λs h=>?_);refine AP (λ_=>?_) (λ_=>?_);grind[AA,Ac,AB];refine AA (P:=λs=>(∃u,s=.inr u/\W u.2.2.2.2.1<=4097)\/∃u,s=.inl u/\(u.2=0->HL u.1)) (AP (λ_=>AA (SL ⟨Ae _,k!,f,q!⟩) λq k=>AP (y? (.inr ⟨_,rfl,n!⟩)) (y? (.inl ⟨_,rfl,k!⟩))) (λ_=>AP (y? (.inl ⟨_,rfl,k!⟩)) (λ_=>AA (Jo k!) λt d=>AB (.inr ⟨_,rfl,λ_=>by rw[d];exact c.hl.rm⟩)))) λs h=>?_;grind[A0,AB,BF];rcases h with⟨u,rfl,i⟩|⟨u,rfl,i⟩;refine BF (AA (Nu o!) λv l=>AA (MG k! ⟨k!,g.2.1⟩) λw e=>AB λ_=>?_);rw[e];exact c.hl.set k!;exact A0 (AB i)
def AN(n c:V)(L:S AE)(m:Q)(a:Cj):Prop:=a.1=n/\HL a.2.2.2.1/\W a.2.2.2.2.2.1<=m/\a.2.2.1=c/\yw n L a.2.2.2.2.2.1 a.2.2.2.2.2.2
def iY{x:Cj×AE}{n c:V}{L:U AE}{m:Q}(h:AN n c L m x.1)(f:m<=1000000)(d:EOK n L x.2)(e: ∀p,BY L p<x.2.1):Ao (NG x) λr=>r.2=0->AN n c (L++[x.2]) (m+1) r.1:=by
 unfold NG;have⟨a1,a2,a3,a5,a6⟩:=h;have a4:=a2.1;repeat' with_reducible first|apply AC<;>intro b|apply AL<;>intro b|apply AK<;>intro b|(apply BJ;try dsimp only)|apply Bn|apply B5|apply Na|(apply BF;try dsimp only)|(apply A0;try dsimp only)|apply AB|(apply AA AGS;intro r hr)|(refine AM ?_ (Fl ?_);intro r hr)|(apply AA (Ub);intro r hr)|(apply AA (VZ);intro r hr)|(apply AA (CR);intro r hr)|(refine AM ?_ (fL ?_);intro r hr)
 all_goals try dsimp[T]at*
 all_goals first|omega|(intro a;exact absurd a (by assumption))|(intro a;exact absurd a (by decide))|(intro _;unfold AN;refine⟨by first|assumption|grind,by grind,by first|omega|grind,by first|assumption|grind,?_⟩;exact vz a6 d e (by assumption) (by assumption) (by assumption))|grind
def WB{x}:Ao (OC x) λr=>∀w∈r.1,w.1=0:=by refine AC (y? q!) (λ_=>AC (y? q!) (λ_=>?_));grind[AA,zh,AB]
def fN{x:Aa×V}(n:Dg x.1)(u:x.1.1=1)(m:LI x.2 x.1.2.1):Ao (QW x) λr=>r.2=0->∃k:Q,k<=W x.1.2.1/\AN x.2 k (x.1.2.1.take k) 65536 r.1:=by
 refine AA cN λv j=>AO (λ_=>?_) (λb=>?_);refine AC (λb=>AB n!) (λ_=>AA WB λy l=>AB λ_=>⟨0,BU _,rfl,⟨q!,λt o=>by simp at o⟩,q!,rfl,λp _ _=>⟨q!,λw q=>by have:=l w (BP q);exact⟨by rw[this];exact Ae _,λ_=>this⟩⟩⟩)
 have⟨⟨d,f⟩,i,e,a,g,s,h⟩:=j b;refine AL (λb=>AB n!) (λhn=>AB λ_=>⟨i+1,Cv a,rfl,d.2.2.1.hl,f,?_,?_⟩);have:=(n.2.2.2.2.2 i e a).1;grind;rw[Cl,a];exact((m i e a).2.2 g _ h hn).other o!
def iX{x}:Ao (FZ x) λr=>O:=by exact AL (y? trivial) (λ_=>AL (y? trivial) (y? trivial))
def aG{x:U Ax×Ax}{s:V}(h:0<=s/\s<=θ x.1/\(θ x.1:V)<=16777216):Ao (Ag (Om x) s) λr=>0<=r/\r<=θ x.1:=by
 refine AW (λ(s:V)=>0<=s/\s<=θ x.1/\(θ x.1:V)<=16777216) (λ(s:V)=>((θ x.1:V)-s).toNat) h (λs a=>?_);unfold Om;exact x!
def iZ{x:S Ax×Ax}(h:W x.1<=1000000):Ao (RV x) λr=>W r<=W x.1+1:=by
 refine AA (aG ⟨Ae _,o!⟩) λp c=>?_;have main:Ao (σ (T6 x.1 0 p) λa=>
 σ (T6 x.1 p (T x.1)) λb=>
 σ (app [] a) λd=>
 σ (app d ([x.2]:S (V×((V×V)×V)))) λe=>
 σ (app e b) λf=>
 Y f) λr=>W r<=W x.1+1:=by refine AA (BX (Ae _) c.1 c.2) λa g=>AA (BX c.1 k! k!) λb i=>?_;grind[AA,Ac,AB]
 refine AC (λj=>?_) (λ_=>main);exact AA (AI c.1 j) λk _=>AK (y? o!) (λ_=>main)
def fM{x:Aa×U Ap}(h:HL x.2):Ao (MM x) λr=>r.1.length<=262208:=by unfold MM;have k:=h.1;refine AA (P:=λr=>(∀u,r= .inl u->u.1.length<=262208)/\ ∀u,r= .inr u->u.length<=262208) ?_ λr hr=>BG (λu a=>AB (hr.1 u a)) (λu a=>AB (hr.2 u a));refine AW (λ(s:U Ax×V)=>0<=s.2/\s.2<=x.2.length/\s.1.length<=4097*s.2) (λ(s:U Ax×V)=>((x.2.length:V)-s.2).toNat) ⟨Ae _,k!,q!⟩ (λs d=>?_);have⟨f,m,n⟩:=d;unfold TQ;rw[(AY (x:=s.2+1))];refine AC (λb=>?_) (λ_=>AB ⟨λu a=>(by cases a),λu a=>k!⟩);simp[T]at b;have⟨t,i,j⟩:=AI (l:=x.2) f b;have v:=h.2 t j.2;refine AA (P:=λr=>(∀u,r= .inl u->u.1.length<=262208)/\ ∀u,r= .inr u->u.length<=4097*(s.2+1)) ?_ λr hr=>?_;refine AW (λ(q:U Ax×V)=>0<=q.2/\q.2<=t.2.2.2.2.1.length/\q.1.length<=4097*s.2+q.2) (λ(q:U Ax×V)=>((t.2.2.2.2.1.length:V)-q.2).toNat) ⟨Ae _,k!,k!⟩ (λq e=>?_);have⟨g,o,p⟩:=e;unfold TR;rw[i];apply BJ;rw[(AY (x:=q.2+1))];refine AC (λb=>?_) (λ_=>AB ⟨λu a=>(by cases a),λu a=>k!⟩);simp[T]at b;refine BJ (AA (AI g b) λw _=>AA HG λy _=>AL (λ_=>AB ⟨λu a=>k!,λu a=>(by cases a)⟩) (λ_=>AL (λ_=>AB ⟨λu a=>(by cases a;simp),λu a=>(by cases a)⟩) (λ_=>BJ (AL (λ_=>AB ⟨λu a=>(by cases a;simp),λu a=>(by cases a)⟩) (λ_=>AA (iZ k!) λz c=>AB ?_)))));dsimp only at c;exact⟨⟨k!,o!,d!⟩,o!⟩;grind[BG,AB]
def aF{x:Aa×Int}(c:Dg x.1)(M:x.1.1=1)(G:LI x.2 x.1.2.1):Ao (KZ x) λr=>r.2=0->r.1.1=x.2/\HL r.1.2.2.2.1/\r.1.2.2.2.2.1.length<=262208/\r.1.2.2.2.2.2.1.length<=70000/\yw x.2 x.1.2.1 r.1.2.2.2.2.2.1 r.1.2.2.2.2.2.2:=by
 unfold KZ;refine AA Bb λv Q=>AO (λ_=>AB n!) (λa=>?_);have O:=Q.1 a;have H:=O.2.2.1;refine AC (λ_=>AB n!) (λ_=>AC (λ_=>AB n!) (λ_=>AA (fN c M G) λv1 I=>AL (λa=>AB λb=>absurd b a) (λD_=>?_)));have⟨k,N,K⟩:=I D_;refine AA (P:=λr=>(∀u,r= .inl u->u.1≠0)/\ ∀u,r= .inr u->AN x.2 k x.1.2.1 70000 u.1) ?_ λr hr=>BG (λu d=>AB λb=>absurd b (hr.1 u d)) (λu d=>?_);refine AW (λ(s:Int×Cj×Cj)=>0<=s.1/\s.1<=x.1.2.1.length/\AN x.2 k (x.1.2.1.take (max k s.1.toNat)) (65536+s.1.toNat) s.2.1) (λ(s:Int×Cj×Cj)=>((x.1.2.1.length:Int)-s.1).toNat) ⟨Ae _,d!,by simpa using K⟩ (λs z=>?_);have⟨m,R,f⟩:=z;unfold RT;have e:=AY (x:=s.1+1);rw[e];refine AC (λa=>?_) (λ_=>AB ⟨λu d=>(by cases d),λu d=>?_⟩);simp[len]at a;have en:(s.1+1).toNat=s.1.toNat+1:=o!
 refine AA (AI m a) λv3 J=>?_;have n3:=(c.2.2.2.2.2 _ _ J.1).1;refine AC (λB=>AB ⟨⟨d!,d!,?_⟩,d!⟩) (λB=>?_);have⟨q1,q2,q3,q4,q5⟩:=f;have n:max k (s.1+1).toNat=max k s.1.toNat:=o!
 exact⟨q1,q2,d!,q4,by dsimp only;rw[n];exact q5⟩;have q4:=f.2.2.2.1;have n:max k s.1.toNat=s.1.toNat:=o!
 rw[n]at f;refine AA (AI m a) λZ F=>?_;have i:x.1.2.1.take (max k (s.1+1).toNat)=x.1.2.1.take s.1.toNat++[Z]:=by grind[List.take_add_one]
 refine AA (iY f o! (G _ _ F.1) λp=>?_) λv5 h5=>?_;have n4:=(c.2.2.2.2.2 _ _ F.1).1;refine pL _ _ d! λe L=>?_;have⟨j,A⟩:=Db L;have C:=Cv A;rw[BQ]at C;rw[II o!]at A;have:=(c.2.2.2.2.2 j e A).1;dsimp only;omega;grind[AL,AB];cases d;have⟨q1,q2,q3,q4,q5⟩:=f;simp[len]at*;rw[BN o!]at q5;exact⟨q1,q2,o!,q4,q5⟩;have⟨q1,q2,q3,_,q5⟩:=hr.2 u d;have S:=q2.1;refine AA (P:=λl=>HL l) ?_ λX_ h=>?_;refine AW (λ(s:Int×List Ap)=>0<=s.1/\s.1<=u.1.2.2.2.1.length/\s.2.length<=s.1/\ ∀t∈s.2,t.2.2.2.2.1.length<=4097) (λ(s:Int×List Ap)=>((u.1.2.2.2.1.length:Int)-s.1).toNat) ⟨Ae _,d!,q!,λt i=>by simp at i⟩ (λs z=>?_);have⟨m,R,f,E_⟩:=z;unfold RU;have e:=AY (x:=s.1+1);rw[e];refine AC (λa=>?_) (λ_=>AB ⟨o!,E_⟩);simp[len]at a;refine AA (AI m a) λT _=>AA (P:=λl=>l.length<=s.2.length+1/\ ∀t∈l,t.2.2.2.2.1.length<=4097) ?_ λW g=>AB ⟨⟨d!,d!,by have:=g.1;dsimp only;omega,g.2⟩,d!⟩;refine AC (λ_=>AA (AI m a) λU o=>AA (Ac w!) λV q=>AB ⟨?_,λt i=>?_⟩) (λ_=>AB ⟨o!,E_⟩);grind;rw[q.1]at i;rcases Ak.1 i with w|w;exact E_ t w;simp at w;rw[w];exact q2.2 _ o.2;exact AA (fM h) λY_ y=>AL (λa=>AB λb=>absurd b a) (λb=>AB λ_=>⟨q1,h,y,q3,q5⟩)
def WA{x}:Ao (Kr x) λr=>r.1.2.1=[]:=by
 unfold Kr;exact x!
def fO{x:Aa×Cj×V}(t:Dg x.1)(h:HL x.2.1.2.2.2.1/\x.2.1.2.2.2.2.1.length<=262208/\x.2.1.2.2.2.2.2.1.length<=70000)(q:LI x.2.1.1 x.1.2.1)(e:yw x.2.1.1 x.1.2.1 x.2.1.2.2.2.2.2.1 x.2.1.2.2.2.2.2.2):Ao (MN x) λr=>r.2=0->r.1.1=x.2.1.1/\SK B r.1/\Dg r.1.2.2.1/\LX x.1 r.1.2.2.1:=by
 unfold MN;have⟨a1,a2,a3⟩:=h;have a4:=a1.1;refine AA WA λj f=>AL (λ_=>AB n!) (λ_=>?_);have k:SK B (x.2.1.1,(x.2.1.2.1,(x.1,(j.1,((x.2.1.2.2.2.2.1,[]),(x.2.1.2.2.2.1,(x.2.1.2.2.2.2.2.2,x.2.1.2.2.2.2.2.1))))))):=⟨⟨k!,q!⟩,k!,k!,q,λp g i=>⟨k!,(e p g i).1,λw l=>⟨((e p g i).2 w l).1,λhn _=>((e p g i).2 w l).2 hn⟩⟩,by unfold FD;dsimp only;rw[f];simp⟩
 refine AA (CK k.sb) λy _=>AO (λ_=>AB n!) (λ_=>AA (P:=λr=>(∀u,r= .inl u->u.1≠0)/\ ∀u,r= .inr u->KL B (x.2.1.1,(x.2.1.2.1,(x.1,(j.1,((x.2.1.2.2.2.2.1,[]),(x.2.1.2.2.2.1,(x.2.1.2.2.2.2.2.2,x.2.1.2.2.2.2.2.1))))))) u.1) ?_ λr hr=>BG (λu a=>AB λb=>absurd b (hr.1 u a)) (λu a=>AB λ_=>?_));refine AW (λ(s:V×AT×AT)=>0<=s.1/\s.1<=x.2.1.2.2.2.1.length/\KL B (x.2.1.1,(x.2.1.2.1,(x.1,(j.1,((x.2.1.2.2.2.2.1,[]),(x.2.1.2.2.2.1,(x.2.1.2.2.2.2.2.2,x.2.1.2.2.2.2.2.1))))))) s.2.1) (λ(s:V×AT×AT)=>((x.2.1.2.2.2.1.length:V)-s.1).toNat) ⟨Ae _,k!,KL.refl k t⟩ (λs o=>?_);have⟨m,v,d⟩:=o;unfold TS;rw[(AY (x:=s.1+1))];refine AC (λc=>?_) (λ_=>AB ⟨λu a=>(by cases a),λu a=>k!⟩);simp[T]at c;refine AA (AI m c) λz _=>AP (λ_=>AB ⟨⟨k!,o!,d⟩,o!⟩) (λ_=>AA (AI m c) λA _=>AA (GC d.2.2.1.sb) λC n=>AL (λc=>AB ⟨λu a=>(by cases a;exact c),λu a=>(by cases a)⟩) (λb=>AB ⟨⟨o!,o!,d.trans ((n b).2.1.kl d.2.2.1 u!)⟩,o!⟩));have:=hr.2 u a;exact⟨this.1,this.2.2.1,this.2.2.2,this.2.1⟩
end Go.Pm
namespace Go.Pm
open Go Go.Ab
variable {B:Int->Prop}
def im{x:AV×V×C1}(h:SK B x.1.1)(p:Dg x.1.1.2.2.1)(o:DJ B x.1.1.2.2.1 x.1.2):Ao (NK x) λr=>SR B x.1 r.1/\(r.2.1≠0->TP r.1.1.2.2.2.2.2.1<TP x.1.1.2.2.2.2.2.1):=by
 unfold NK;refine AA (P:=λr=>SR B x.1 r.2.2/\(r.1≠0->TP r.2.2.1.2.2.2.2.2.1<TP x.1.1.2.2.2.2.2.1)) ?_ λr hr=>AB hr;refine AW (λs=>SR B x.1 s.2.1/\TP s.2.1.1.2.2.2.2.2.1<=TP x.1.1.2.2.2.2.2.1/\(s.1≠0->TP s.2.1.1.2.2.2.2.2.1<TP x.1.1.2.2.2.2.2.1)) (λs=>2*TP s.2.1.1.2.2.2.2.2.1+flag (¬oV s.2.1.1.2.2.2.1 x.2.2.1)) ⟨⟨KL.refl h p,o⟩,Al _,λe=>O! rfl e⟩ (λs d=>?_);obtain⟨d,v,j⟩:=d;have k:=d.1.2.2;unfold Uh;refine AA (iU k.1 k.2) λw n=>?_;obtain⟨k1,q,t⟩:=n;refine AP (y? ⟨d,j⟩) (λm=>AA (P:=λr=>(∃u,r=.inl u/\u.1=s.1/\u.2.2=s.2.1)\/∃u,r=.inr u/\SR B s.2.1 u.2.1/\(TP u.2.1.1.2.2.2.2.2.1<TP s.2.1.1.2.2.2.2.2.1\/(u.1=s.1/\TP u.2.1.1.2.2.2.2.2.1=TP s.2.1.1.2.2.2.2.2.1/\oV u.2.1.1.2.2.2.1 x.2.2.1/\¬oV s.2.1.1.2.2.2.1 x.2.2.1))) ?_ λr hr=>?_);apply AP<;>intro l;obtain⟨a,b,c⟩:=q l;refine AA (H5 k.1 d.2) λy i=>AL (y? (.inl ⟨_,rfl,rfl,rfl⟩)) (λe=>AB (.inr ⟨_,rfl,(i e).1.sr,.inr ⟨rfl,?_,?_,b⟩⟩));have:=(i e).1.1.2.2.2.2.1;exact E! TP this;have:=(i e).2;rw[a]at this;exact this;refine AP (y? (.inl ⟨_,rfl,rfl,rfl⟩)) (λc0=>AB (.inr ⟨_,rfl,⟨k1,d.2.up k1.2.1⟩,.inl (t l m c0)⟩));rcases hr with⟨u,rfl,g⟩|⟨u,rfl,g⟩;refine BF (AB ?_);dsimp only;rw[g.1,g.2];exact⟨d,j⟩;refine A0 (AB ?_);obtain⟨q1,q2⟩:=g;rcases q2 with q2|⟨q2,q3,q4,q5⟩;have f:=ACT (¬oV u.2.1.1.2.2.2.1 x.2.2.1);exact⟨⟨d.trans q1,o!,λ_=>o!⟩,by first|omega|(dsimp only;omega)⟩;refine⟨⟨d.trans q1,o!,λe=>by rw[q3];exact j (by rw[<-q2];exact e)⟩,?_⟩;try dsimp only
 rw[yC q5,yB (· q4),q3];omega
def TT{x:AT×V}(h:SB x.1):Ao (Ib x) λr=>O:=by unfold Ib;refine AA (CK h) λv c=>AA (P:=λ_=>O) ?_ λr _=>BG (λ_ _=>AB trivial) (λ_ _=>AB trivial);refine AK (λ_=>?_) (y? trivial);refine AA (Fl h.2.1) λd a=>AC (λb=>?_) (y? trivial);refine AA (AI b a.2.1) λ_ _=>AP (λ_=>?_) (y? trivial);exact AA (AI b a.2.1) λ_ _=>AB trivial
def aI{x:AT}{s:V×U V}(h:0<=s.1/\s.1<=θ x.2.2.2.2.2.1/\θ x.2.2.2.2.2.1<=16777216/\θ s.2<=s.1/\SB x):Ao (Ag (On x) s) λr=>O:=by
 refine AW (λ(s:V×U V)=>0<=s.1/\s.1<=θ x.2.2.2.2.2.1/\θ x.2.2.2.2.2.1<=16777216/\θ s.2<=s.1/\SB x) (λ(s:V×U V)=>((θ x.2.2.2.2.2.1:V)-s.1).toNat) h (λs c=>?_);unfold On;exact x!
def ia{x}(h:SK B x):Ao (NH x) λr=>O:=by unfold NH;exact AA (aI ⟨Ae _,d!,h.2.1,q!,h.sb⟩) λ_ _=>AB trivial
def Xv{x:AT×V}{c:Ax×R}{a:U V}{s:V×C1}(h:0<=s.1/\s.1<=θ a/\θ a<=16777216/\SB x.1):Ao (Ag (Lg x c a) s) λr=>O:=by
 refine AW (λ(s:V×C1)=>0<=s.1/\s.1<=θ a/\θ a<=16777216/\SB x.1) (λ(s:V×C1)=>((θ a:V)-s.1).toNat) h (λs d=>?_);unfold Lg;exact x!
def aH{x:AT×V}(h:SK B x.1):Ao (Ka x) λr=>O:=by unfold Ka;refine AA (Ix h.1) λb _=>AO (y? trivial) (λ_=>AA (MC h.1) λc a=>AA (Xv ⟨Ae _,d!,o!,h.sb⟩) λr _=>BG (λ_ _=>AB trivial) (λ_ _=>AB trivial))
def lP{x:AV×V×C4}(h:SK B x.1.1)(k:Dg x.1.1.2.2.1)(j:DJ B x.1.1.2.2.1 x.1.2):Ao (Pn x) λr=>SR B x.1 r.1:=by unfold Pn;refine AA (P:=λr=>SR B x.1 r.1) ?_ λr hr=>AB hr;refine AW (SR B x.1 ·.1) (TP ·.1.1.2.2.2.2.2.1) ⟨KL.refl h k,j⟩ (λs c=>?_);have g:=c.1.2.2;unfold WI;refine AA (lO g.1 g.2 c.2) λm e=>?_;have b:=c.trans e.1;have a:=b.1.2.2;refine AL (y? b) (λi=>?_);have l:=e.2 i;refine AA (aH a.1) λn _=>AO (y? b) (λ_=>AA (im a.1 a.2 b.2) λo f=>?_);have d:=b.trans f.1;refine AL (λ_=>?_) (λ_=>?_);exact AA B8 λp _=>AB d;refine AP (y? d) (λc0=>AB ⟨d,?_⟩);have:=f.2 c0;dsimp only at*;rw[l]at this;exact this
def il{x:AV}(h:SK B x.1)(p:Dg x.1.2.2.1)(g:DJ B x.1.2.2.1 x.2):Ao (NJ x) λr=>r.2.2=0->SR B x r.1:=by
 unfold NJ;refine AA (CK h.sb) λv H=>AO (y? n!) (λc=>AC (λc=>?_) (λ_=>?_));simp only[T]at c;refine AA (AI (Ae _) c) λJ _=>AA (H5 h g) λK y=>AB λa=>(y a).1.sr;refine AA (ia h) λF _=>AP (y? λ_=>⟨KL.refl h p,g⟩) (λk=>?_);simp only[T]at k;refine AA (P:=λr=>r.2.1=0->SR B x r.2.2) ?_ λr hr=>AB hr;obtain⟨id,t,G⟩:=(AI (l:=F) (i:=0) (Ae _))
 refine AW (SR B x ·.1) (λs=>flag (∃e,NX s.1.1 id e/\¬oV s.1.1.2.2.2.1 e.2.2.2.2.2.2.1.1)) ⟨KL.refl h p,g⟩ (λs b=>?_);have j:=b.1.2.2;unfold Ug;rw[t];apply BJ;refine AA (Vc j.1 j.2) λL A=>?_;obtain⟨k1,C,I,D_⟩:=A;refine AP (λz=>AB λa=>O! a (D_ z)) (λ_=>AL (y? λ_=>⟨b.1.trans k1,b.2.up k1.2.1⟩) (λq=>?_));obtain⟨e,n,u,w⟩:=C q;refine AA (H5 j.1 b.2) λM o=>AL (λc=>AB λa=>O! a c) (λa=>AB ⟨b.trans (o a).1.sr,?_⟩);obtain⟨m,d⟩:=o a;have E_:=m.1.2.2.2.2.1;rw[yC (⟨e,n,w⟩:∃e,NX s.1.1 id e/\¬oV s.1.1.2.2.2.1 e.2.2.2.2.2.2.1.1),yB];omega;rintro⟨f,q1,q2⟩;have:=n.uniq q1 E_ m.1.2.1;subst this;dsimp only at d;rw[u]at d;exact q2 d
end Go.Pm
namespace Go.Pm
open Go Go.Ab
def runN{S R:Type}(f:S->Z (Step S R)):Q->S->Z R
 |0,_=>D
 |n+1,s=>
  match f s with
  |some (.next s')=>runN f n s'
  |some (.done r)=>Y r
  |none=>D
def yl{S R:Type}{f:S->Z (Step S R)}{r:R}:∀{n}{s},runN f n s=Y r->Ag f s=Y r
 |0,s,h=>by cases h
 |n+1,s,h=>by simp only[runN]at h;rw[HV];split at h;rename_i b e;rw[e];exact yl h;rename_i a e;rw[e];exact h;cases h
def U0:Bd:=[80,77,76,71,1,0,0,0,0,0,0,0]
def AHd:An (([80,77,76,71]:S UInt8),1,8)=Y U0:=by rw[(by kernel_rfl:An (([80,77,76,71]:S UInt8),1,8)=σ (Ag (Gi (([80,77,76,71]:S UInt8),1,8)) (([80,77,76,71]:S UInt8),0)) λa=>Y a),yl (n:=10) (r:=U0) h!];rfl
def AHD:A1 (U0,4,8)=Y (1,0):=by rw[(by kernel_rfl:A1 (U0,4,8)=σ (Ag (Gg (U0,4,8)) (0,0)) λa=>Y (wi a,0)),yl (n:=10) (r:=1) h!];rfl
def oH(a b:S AE):Kx (a++b)=Kx a++Kx b:=by grind[Kx]
def AJB:M6 1=Y (HX U0):=by unfold M6;rw[AHd,AD,cq g!,AD]
def AHA{e}(h:Mc e):JB e=Y (HX (B3 e)):=by grind[JB,rW,cq,S7]
def Dg.ent{l}(h:Dg l){e:AE}(a:e∈l.2.1):Mc e:=by have⟨k,b⟩:=Ed.1 a;exact(h.2.2.2.2.2 k e b).2
def AGv{l}{a:V}(h:Dg l)(D_:l.1=1):Ao (HF (l,a)) λr=>∃m:Nat,r=HX U0++(Kx (l.2.1.take l.2.2.toNat)++(Kx (l.2.1.drop l.2.2.toNat)).take m):=by
 have O:=h.2.2.1;have Q:=h.2.2.2.1;have R:=h.2.2.2.2.1;have b:∀k:Ψ AE,(∀e∈k,e∈l.2.1)->(Kx k).length<=8400*W k:=λk w=>tJ λe d=>h.ent (w e d);have⟨v,H,g⟩:=Bb (x:=l);have g:=g.2 h;subst g;unfold HF;dsimp only;rw[H,AD,By,A!,D_,AJB,AD];refine AA (P:=λr=>r=(HX U0++Kx (l.2.1.take l.2.2.toNat),Kx (l.2.1.drop l.2.2.toNat))) ?_ λK o=>?_
 ·refine CQ (λs=>∃k:Nat,k<=W l.2.1/\s=(HX U0++Kx ((l.2.1.take k).take l.2.2.toNat),Kx ((l.2.1.take k).drop l.2.2.toNat),(k:V))) (W l.2.1-·.2.2.toNat) ⟨0,BU _,by simp[Kx]⟩ ?_;rintro s ⟨k,w,rfl⟩;unfold TF;dsimp[T];refine AC (λB=>?_) (λB=>k? (by rw[BN (l:=l.2.1) (i:=k) o!]));have f:k<W l.2.1:=o!
  have I:ix l.2.1 (k:V)=Y l.2.1[k]:=by unfold ix;rw[C! o!,s?,m? f]
  have j:=h.2.2.2.2.2 k _ (Au f);have t:l.2.1.take (k+1)=l.2.1.take k++[l.2.1[k]]:=t!
  have E_:(l.2.1.take k).length=k:=k!
  have y:(HX U0++Kx ((l.2.1.take k).take l.2.2.toNat)).length<=40000000:=by
   have:=b ((l.2.1.take k).take l.2.2.toNat) λe d=>F9 (F9 d);have c:(HX U0).length=20:=by rw[EM];rfl
   grind[n?,r?]
  have z:(Kx ((l.2.1.take k).drop l.2.2.toNat)).length<=40000000:=k!
  have C:=S7 j.2;rw[I,AD,AD,AD,AHA j.2,AD,AD,AY (x:=(k:V)+1)];refine AA (P:=λr=>r=(HX U0++Kx ((l.2.1.take (k+1)).take l.2.2.toNat),Kx ((l.2.1.take (k+1)).drop l.2.2.toNat))) ?_ λJ n=>?_;apply AC<;>intro S;have q:k+1<=l.2.2.toNat:=o!
  refine AA (CM (by rw[EM];omega)) λN u=>AB ?_;grind[List.drop_of_length_le,r?,List.take_of_length_le,S9,t?];have q:l.2.2.toNat<=k:=o!
  refine AA (CM (by rw[EM];omega)) λN u=>AB ?_;rw[u.1,t,WW o!,mE o!,S9]
  ·rw[n];exact y! ⟨k+1,f,by rw[show(k:V)+1=((k+1:Nat):V) by omega]⟩ d!
 subst o;dsimp[T];have A:∃m:Nat,(if(((Kx (l.2.1.drop l.2.2.toNat)).length:V)<(if(0>a)then 0 else a))then((Kx (l.2.1.drop l.2.2.toNat)).length:V)else(if(0>a)then 0 else a))=(m:V)/\m<=(Kx (l.2.1.drop l.2.2.toNat)).length:=by refine⟨(if(((Kx (l.2.1.drop l.2.2.toNat)).length:V)<(if(0>a)then 0 else a))then((Kx (l.2.1.drop l.2.2.toNat)).length:V)else(if(0>a)then 0 else a)).toNat,?_,?_⟩;split<;>split<;>omega;split<;>split<;>omega
 have⟨m,F,G⟩:=A;rw[F];refine AA (CW (Ae _)) λL c=>?_;have y:(HX U0++Kx (l.2.1.take l.2.2.toNat)).length<=40000000:=by
  have:=b (l.2.1.take l.2.2.toNat) λe d=>F9 d;have c:(HX U0).length=20:=by rw[EM];rfl
  rw[AZ];rw[BQ]at this;omega
 have z:(Kx (l.2.1.drop l.2.2.toNat)).length<=40000000:=by have:=b (l.2.1.drop l.2.2.toNat) λe d=>Q4 d;rw[C2]at this;omega
 refine AA (CM (by have:=c.2;omega)) λM p=>AB ⟨m,?_⟩;rw[p.1,c.1,A2];simp
def AJ1{n:Q}(h:n<=8392):cr 4 (n:V):=⟨λ_=>k!,o!⟩
def AHC{p q s t:Bd}(d:W p<=8392)(e:W q<=8392)(h:HX p++s=HX q++t):p=q/\s=t:=by
 have c:W p=W q:=by have a:=h;unfold HX at a;simp at a;have:=(Eg a (by rw[Ay,Ay])).1;have:=YU g! (AJ1 d) (AJ1 e) this;omega
 have⟨b,f⟩:=Eg h (by rw[EM,EM,c]);have g:=(Eg b k!).2;grind[List.append_inj]
theorem AJM{b:List AE}{t y z:Bd}{d:Nat}(hn:b.length<=4096)(D_: ∀(i:Nat) (e:AE),b[i]? =some e->e.1=1+i/\Mc e)(G:t++y=Kx b)(M:t=Kx (b.take d)++z):Ao (J0 (HX U0++t)) λr=>r.2=0-> ∃k:Nat,k<=b.length/\min d b.length<=k/\r.1=(1,(b.take k,(k:Int))):=by
 have S:=tJ (l:=b) λe A=>by obtain⟨k,m⟩:=Ed.1 A;exact(D_ k e m).2
 have U:t.length<=40000000:=by have:=congrArg List.length G;rw[AZ]at this;omega
 have C:(HX U0).length=20:=by rw[EM];rfl
 have W:(HX U0++t).length<=50000000:=by rw[AZ];omega
 unfold J0;have o:Bl (HX U0++t,0)=some (U0,(20,0)):=by refine(Tm (a:=[]) (t:=HX U0++t) (by simp;omega)).trans (congrArg some ?_);rw[kJ (by decide)];rfl
 rw[o,AD];dsimp only;rw[show((0:Int) !=0)=false by decide,cond_false,show(len U0 !=12)=false by decide,cond_false,show R3 U0 0 4=some [80,77,76,71]from rfl,AD,bne_self_eq_false,cond_false,AHD,AD];dsimp only;rw[decide_eq_false (by decide),cond_false,decide_eq_false (by decide),cond_false,show wi ((1:Int)-1)=0 from rfl];refine AA (P:=λr=> ∃k:Nat,k<=b.length/\min d b.length<=k/\((∃u,r= .inl u/\u.2=(1,(b.take k,(k:Int))))\/ ∃u,r= .inr u/\(u.2.1,(u.1,u.2.2.1))=(1,(b.take k,(k:Int))))) ?_ λr hr=>?_
 ·refine CQ (λ(s:Int×List AE×Int×Int×Aa)=> ∃(k:Nat) (z:Aa) (c:Bd),k<=b.length/\s=(((HX U0++Kx (b.take k)).length:Int),(b.take k,(1,((k:Int),z))))/\t=Kx (b.take k)++c) (λs=>b.length-s.2.1.length) ⟨0,(0,([],0)),t,BU _,by simp[Kx,C],by simp[Kx]⟩ ?_;rintro s ⟨k,z,c,m,rfl,hr⟩;have E_:(b.take k).length=k:=by rw[BQ];omega
  have H:k<min d b.length-> ∃p R,p.length<=8392/\c=HX p++R:=λn=>by
   have g:k<b.length:=by omega
   have N:b.take d=b.take (k+1)++(b.take d).drop (k+1):=by
    conv=>lhs;rw[<-DG (k+1) (b.take d)]
    rw[Kh,RD (by omega)]
   have O:b.take (k+1)=b.take k++[b[k]]:=by rw[Cl,Au g];rfl
   rw[N,O,oH,S9,A2,A2]at M;exact⟨_,_,S7 (D_ k _ (Au g)).2,(Eg (hr.symm.trans M) rfl).2⟩
  unfold UZ;dsimp only[len];refine AC (λQ=>?_) (λQ=>Ao.done ⟨k,m,Nat.le_of_not_lt λn=>?_,.inr ⟨_,rfl,rfl⟩⟩);rotate_left 1
  ·omega
  have w:HX U0++t=(HX U0++Kx (b.take k))++c:=by rw[hr,A2]
  have F:=congrArg List.length w;rw[@AZ _ (HX U0++Kx (b.take k)) _]at F;have o:Bl (HX U0++t,((HX U0++Kx (b.take k)).length:Int))=some (UF (HX U0++Kx (b.take k)).length c):=by
   conv=>lhs;arg 1;rw[w]
   exact Tm (by omega)
  rw[o,AD];refine AL (λB=>Ao.done ⟨k,m,Nat.le_of_not_lt λn=>?_,.inl ⟨_,rfl,rfl⟩⟩) (λB=>?_)
  ·obtain⟨p,R,T,V⟩:=H n;rw[V,kJ T]at B;exact B rfl
  obtain⟨X_,⟨q,J⟩,Y_⟩:=zF B;have j:Kx b=Kx (b.take k)++Kx (b.drop k):=by rw[<-oH,DG]
  have f:c++y=Kx (b.drop k):=by rw[hr,A2,j]at G;exact(Eg G rfl).2
  by_cases g:k<b.length
  ·have h:=D_ k _ (Au g);rw[OO g,pM,J,A2]at f;obtain⟨I,Z⟩:=AHC X_ (S7 h.2) f;rw[I,AFj h.2,AD];dsimp only;rw[show((0:Int) !=0)=false by decide,cond_false,AY (x:=(k:Int)+1) (by omega),show(b[k].1 !=(k:Int)+1)=false by rw[h.1];exact bne_eq_false_iff_eq.2 (by omega),cond_false];have v:b.take (k+1)=b.take k++[b[k]]:=by rw[Cl,Au g];rfl
   refine AA (Ac (by rw[Bh,Bj];omega)) λv6 L=>?_;refine Ao.next ⟨k+1,z,q,g,?_,?_⟩ ?_
   ·rw[L.1,Y_,I,v,S9,<-A2,AZ (b:=HX (B3 b[k])),EM];refine DZ ?_ (DZ rfl (DZ rfl (DZ ?_ rfl)))
    ·dsimp only;omega
    ·dsimp only;rw[h.1];omega
   ·rw[hr,v,S9,A2,<-I,<-J]
   ·dsimp only;rw[L.2.1,E_];simp only[Bh,Bj];omega
  ·exfalso;rw[Rl (by omega)]at f;have K:=congrArg List.length f;rw[J,AZ,AZ,EM]at K;simp[Kx]at K
 ·obtain⟨k,m,A,⟨u,rfl,o⟩|⟨u,rfl,o⟩⟩:=hr
  ·exact BF (AB λ_=>⟨k,m,A,o⟩)
  ·exact A0 (AB λ_=>⟨k,m,A,o⟩)
variable {B:Int->Prop}
def CB(n:V)(P:S AE)(s:Bd):Prop:=∃es t y z,∃d:Q,s=HX U0++t/\t++y=Kx es/\W es<=4096/\Gv es/\LI n es/\P=es.take d/\t=Kx (es.take d)++z
def zW{n a:V}{l}(h:Dg l)(b:l.1=1)(c:LI n l.2.1):Ao (HF (l,a)) (CB n (dl l)):=by
 refine(AGv h b).mono λr ⟨m,hr⟩=>⟨l.2.1,_,(Kx (l.2.1.drop l.2.2.toNat)).drop m,_,l.2.2.toNat,hr,?_,h.2.2.1,h.num b,c,rfl,rfl⟩
 rw[A2,DG,<-oH,DG]
def CB.open_{n}{P}{s}(h:CB n P s):Ao (J0 s) λr=>r.2=0->Dg r.1/\r.1.1=1/\LI n r.1.2.1/\∃m,P=(dl r.1).take m:=by
 obtain⟨b,t,y,z,d,rfl,p,hn,c,g,rfl,j⟩:=h;refine(AJM hn c p j).mono λr hr u=>?_;obtain⟨k,v,o,e⟩:=hr u;rw[e];have w:(b.take k).length=k:=k!
 refine⟨⟨Ae _,k!,k!,k!,d!,λi f l=>?_⟩,rfl,?_,min d (W b),?_⟩;have:=c.take k i f l;exact this;rw[<-DG k b]at g;exact g.pre;unfold dl;dsimp only;rw[CO,Kh,Kh,RD (a:=min d (W b)) o!,RD o];rcases Nat.le_total d (W b)with q|q;rw[RD q];rw[Nat.min_eq_right q,BN q,Hk]
def SQB(B:V->Prop)(n:V)(s:AV):Prop:=s.1.1=n/\SK B s.1/\Dg s.1.2.2.1/\DJ B s.1.2.2.1 s.2
def SQ(n:V)(s:AV):Prop:=∃B,SQB B n s
def SQB.sr{n}{s r}(h:SQB B n s)(g:SR B s r):SQ n r:=⟨B,g.1.1.trans h.1,g.1.2.2.1,g.1.2.2.2,g.2⟩
def ii{P}{x:Bt×Bd×V×V}(n:CB x.2.2.1 P x.2.1)(o:DP B P x.1):Ao (RY x) λr=>r.2=0->SQ x.2.2.1 r.1:=by refine AA n.open_ λp j=>AL (λa=>AB λb=>O! b a) (λc=>?_);obtain⟨f,g,h,m,i⟩:=j c;refine AA (aF f g h) λq k=>AL (λa=>AB λb=>O! b a) (λd=>?_);obtain⟨a1,a2,a3,a4,a5⟩:=k d;refine AA (fO (B:=B) f ⟨a2,a3,a4⟩ k! k!) λs l=>AL (λa=>AB λb=>O! b a) (λe=>AB λ_=>?_);obtain⟨q1,q2,q3,q4⟩:=l e;exact⟨B,q1.trans a1,q2,q3,DJ.up ⟨g,o.up i⟩ q4⟩
def ik{P}{x:Bt×Bd×V×V}(b:CB x.2.2.1 P x.2.1)(c:DP B P x.1):Ao (RZ x) λr=>r.2=0->SQ x.2.2.1 r.1:=by exact AA (ii b c) λd a=>AB a
theorem AJl{n o:Bd}{c:Q}(hn:n.length=256)(p:o.length=256)(h:n.take 8=n.drop 248)(d:o.take 8=o.drop 248)(j:n.take 8=o.take 8->n=o)(b:(n.take c++o.drop c).take 8=(n.take c++o.drop c).drop 248):n.take c++o.drop c=n\/n.take c++o.drop c=o:=by
 have g: ∀i:Q,(n.take c++o.drop c)[i]? =if i<c then n[i]? else o[i]? :=λi=>by grind
 have q: ∀{l:Bd},l.take 8=l.drop 248-> ∀i:Q,i<8->l[i]? =l[248+i]? :=λ{l} e i a=>by have:=congrArg (λl:Bd=>l[i]?) e;rw[II a,KD]at this;exact this
 by_cases m:c<8
 ·refine .inr (JW λi=>?_);rw[g i];split
  ·rename_i a;have:=q b i (by omega);rw[g,g,if_pos a,if_neg (by omega),<-q d i (by omega)]at this;exact this
  ·rfl
 ·refine .inl ?_;by_cases k:c<=248
  ·have e:n=o:=j (JW λi=>by
    by_cases a:i<8
    ·have:=q b i a;rw[g,g,if_pos (by omega),if_neg (by omega),<-q d i a]at this;rw[II a,II a];exact this
    ·rw[Ct (by rw[BQ];omega),Ct (by rw[BQ];omega)])
   rw[e,DG]
  ·refine JW λi=>?_;rw[g i];split
   ·rfl
   ·rename_i a;by_cases f:i<256
    ·have:=q b (i-248) (by omega);rw[g,g,if_pos (by omega),if_neg (by omega),show 248+(i-248)=i by omega,q h (i-248) (by omega),show 248+(i-248)=i by omega]at this;exact this.symm
    ·rw[Ct (by omega),Ct (by omega)]
def AGF:(kD 256).take 8=(kD 256).drop 248:=g!
def DP.tear{P:S AE}{d t:Bt}{p:V}{o n m:Bd}{c:Q}(h:DP B P d)(z:0≤p)(f:B p)(E_:DI t)(I:d.1[ο p]?=Y o)(H:m=n.take c++o.drop c)(F:t.1=ER d.1 p m){x:AQ}(r:Hg x)(hn:n=IM x)(D_:AIl P p n)(N:1≤x.2.1)
  (M:∀j,(st (P.take j) p).2.1=x.2.1->st (P.take j) p=x) (K:∀j,Hg (st (P.take j) p)):∃A,DP A P t:=by
 have g:=(h.2 _ _ I).1 (by rw[Ig z];exact f);rw[Ig z]at g;have y:∀(i:Q)(s:Bd),i≠ο p->t.1[i]?=Y s->d.1[i]?=Y s:=λi s l a=>by rw[F]at a;unfold ER at a;rwa[Dc o!]at a
 have w:∀s:Bd,t.1[ο p]?=Y s->s=m:=λs a=>by rw[F]at a;unfold ER at a;grind
 by_cases b:dead m;refine⟨λj=>B j/\j≠p,E_,λi s a=>?_⟩;by_cases l:i=ο p
 subst l;rw[w s a];exact⟨λf=>O! (Ig z) f.2,.inr b⟩;have:=h.2 i s (y i s l a);exact⟨λf=>this.1 f.1,this.2.imp_left λf=>⟨f,o!⟩⟩;have C:m.take 8=m.drop 248:=by by_cases L:m=kD 256;rw[L];exact AGF;by_cases J:∃q,Hg q/\m=IM q;obtain⟨q,q1,q2⟩:=J;rw[q2,VL,pF q1];exact O! ⟨L,λq q1 q2=>J ⟨q,q1,q2⟩⟩ b
 have v:o.take 8=o.drop 248/\(n.take 8=o.take 8->n=o):=by rcases g with rfl|⟨j,rfl⟩;refine⟨AGF,λe=>?_⟩;rw[hn,VL]at e;have:=YU (k:=8) (n:=x.2.1) (m:=0) g! ⟨n!,by have:=r.2.2.1;omega,by have:=r.2.2.2.1;omega⟩ ⟨n!,g!,g!⟩ e;omega;refine⟨VL.trans (pF (K j)).symm,λe=>?_⟩;rw[hn,VL,VL]at e;have G:=K j;have:=YU (k:=8) g! ⟨n!,by have:=r.2.2.1;omega,by have:=r.2.2.2.1;omega⟩ ⟨n!,by have:=G.2.2.1;omega,by have:=G.2.2.2.1;omega⟩ e;rw[hn,M j this.symm]
 have u:=AJl (c:=c) (by rw[hn];exact eG r) (h.1.2.1 _ _ I) (by rw[hn,VL,pF r]) v.1 v.2 (by rw[<-H];exact C);rw[<-H]at u;refine⟨B,E_,λi s a=>?_⟩;by_cases l:i=ο p
 subst l;rw[w s a,Ig z];refine⟨λ_=>?_,.inl f⟩;rcases u with e|e<;>rw[e];exact D_;exact g;exact h.2 i s (y i s l a)
def fQ{x:AV×Int×Int×Int}(h:SK B x.1.1)(D_:Dg x.1.1.2.2.1)(v:DJ B x.1.1.2.2.1 x.1.2):Ao (MP x) λr=>∃A P,DP A P r.1/\CB x.1.1.1 P r.2:=by
 unfold MP;refine AA Fk λi Q=>AC (λO=>?_) (λ_=>AA (zW D_ v.1 h.ki.1) λL E_=>AB (⟨B,dl x.1.1.2.2.1,v.2,E_⟩:∃A P,DP A P x.1.2/\CB x.1.1.1 P L));have⟨J,f,G,m⟩:=Q.2.2.1 O;obtain⟨g,M,Y_,c⟩:=AI O Q.2.1;have e:=BW (Y_.symm.trans G);subst e;dsimp only at M m c;rw[M];refine BJ (AA (P:=λr:AT×Bt=>(∃A,DP A (dl r.1.2.2.1) r.2)/\Dg r.1.2.2.1/\r.1.2.2.1.1=1/\LI x.1.1.1 r.1.2.2.1.2.1) ?_ λv8 W=>?_);rotate_left 1;obtain⟨⟨A,R⟩,S,T,N⟩:=W;refine AA (zW S T N) λv9 X_=>AB ?_;exact⟨A,dl v8.1.2.2.1,R,X_⟩;refine AK (λF=>?_) (λ_=>?_);rotate_left 1;apply AB;exact⟨⟨B,v.2⟩,D_,v.1,h.ki.1⟩;have⟨t,n,_⟩:=J.2.2.2.2.2.1 i.toNat g (by have:=Cv G;omega) G;have n:=n F;apply BJ;rw[Ym t];refine BJ (BJ (AA (KU h D_) λu a=>AA (iL v.2.1) λv6 U=>?_));have b:=v.up a.1.2.1;have q:=h.ki.2.2 g c;have K:=a.1.2.2.1.num b.1;have N:=a.1.2.2.1.2.2.1;have C:=a.1.2.2.2.2.2.ki;have s:g.1=st u.2.2.1.2.1 x.2.2.1:=by have:=(C.2.1 x.2.2.1 o! (by rw[a.1.1];dsimp only;omega)).1 g (by rw[a.2.1];exact c) m;exact this
 have I:=XY K (p:=x.2.2.1) ⟨o!,by rw[<-m];exact t.2.1⟩ o!;have y:BY u.2.2.1.2.1 x.2.2.1=g.1.2.1:=by rw[<-Jf,<-s]
 have w:=a.2.2 (by have:=mV D_ g.1.1;have:=E! (·.2.1) ((h.ki.2.1 g.1.1 q.1 q.2.1).1 g c rfl);rw[Jf]at this;dsimp only;omega);refine AA (P:=λd=>∃A,DP A (dl u.2.2.1) d) (AP (λZ=>AB ?_) (y? ⟨B,b.2⟩)) λv7 V=>AB ⟨V,a.1.2.2.1,b.1,by have:=C.1;rw[a.1.1]at this;exact this⟩;obtain⟨t1,o,t2,t3,t4⟩:=U Z;refine b.2.tear t2 (by rw[<-m];exact q.2.2.2) t1 t3 rfl t4 t rfl ?_ o! (λj H=>?_) λj=>?_;refine .inr ⟨(dl u.2.2.1).length,?_⟩;rw[Hk];unfold dl;dsimp only at w⊢;rw[AF1 K o!,<-s];unfold dl at H⊢;rw[Kh]at H⊢;rw[s,<-Hk (l:=u.2.2.1.2.1)];rw[Hk];have:=mg K (p:=x.2.2.1) (j:=min j u.2.2.1.2.2.toNat) (k:=θ u.2.2.1.2.1) (by rw[Hk,y,<-H,Jf]);rwa[Hk]at this;unfold dl;rw[Kh];exact I _
def Ew{x}:Ao (D8 x) λr=>O:=by exact AL (λ_=>AA B8 λ_ _=>AB trivial) (y? trivial)
end Go.Pm
namespace Go.Pm
open Go Go.Ab
def cO{m:Q}{c:AV×R}{s:V×U V×AV×R}(i:m<=16777216)(h:0<=s.1/\s.1<=m/\s.2.1.length=m/\s.2.2=c):Ao (Ag Po s) λr=>r.1.length=m/\r.2=c:=by refine AW (λ(s:V×U V×AV×R)=>0<=s.1/\s.1<=m/\s.2.1.length=m/\s.2.2=c) (λ(s:V×U V×AV×R)=>((m:V)-s.1).toNat) h (λs g=>?_);obtain⟨b,j,d,f⟩:=g;unfold Po;have e:=AY (x:=s.1+1);rw[e];refine AC (λa=>?_) (λ_=>AB ⟨d,f⟩);simp only[T]at a;refine AA (AI b a) λ_ _=>AA (AI b a) λ_ _=>AB ⟨⟨d!,d!,by simp[ER,d],f⟩,d!⟩
def kB{n:Int}{x:AV×List LP}(h:SQ n x.1):Ao (OH x) λr=>SQ n r.1:=by
 unfold OH;refine AA (P:=λr=>SQ n r.2.2.2.1) ?_ λr hr=>AB hr;refine AW (λ(s:Int×List Bf×List Int×List JS×AV×Bool)=>0<=s.1/\s.1<=1000/\s.2.1.length<=s.1/\s.2.2.1.length<=s.1/\s.2.2.2.1.length<=s.1/\SQ n s.2.2.2.2.1) (λ(s:Int×List Bf×List Int×List JS×AV×Bool)=>(1000-s.1).toNat) ⟨Ae _,d!,q!,q!,q!,h⟩ (λs X_=>?_);obtain⟨Z,i2,i3,i4,i5,o⟩:=X_;obtain⟨B,i⟩:=id o;obtain⟨q1,q2,q3,q4⟩:=id i;unfold Ve;refine AC (λS=>?_) (λ_=>AB o);refine AC (λY_=>?_) (λ_=>AB o);refine AO (λ_=>?_) (λ_=>AB o);simp only[len]at S;have e:=AY (x:=s.1+1);have b: ∀(v:Bf) (t:List Int×List JS×AV×Bool),t.1.length<=s.1+1->t.2.1.length<=s.1+1->SQ n t.2.2.1-> ∀Q:Step (Int×((List Bf)×((List Int)×((List JS)×(AV×Bool))))) ((List Bf)×((List Int)×((List JS)×(AV×Bool))))->Prop,(∀a:Int×List Bf×List Int×List JS×AV×Bool,(0<=a.1/\a.1<=1000/\a.2.1.length<=a.1/\a.2.2.1.length<=a.1/\a.2.2.2.1.length<=a.1/\SQ n a.2.2.2.2.1)/\(1000-a.1).toNat<(1000-s.1).toNat->Q (.next a))->Ao (Option.bind (app s.2.1 ([v]:List (Int×(Int×(Int×((Bool×Bd)×Int)))))) λD_=>some (.next ((wi (s.1+1)),(D_,t)))) Q:=by intro v t h1 O G Q I;refine AA (Ac w!) λD_ W=>AB (I _ ?_);have l7:=W.2.1;simp only[Bh,Bj]at l7;rw[e];exact⟨⟨d!,d!,d!,d!,d!,G⟩,d!⟩
 have same: ∀(v:Bf) (Q:Step (Int×((List Bf)×((List Int)×((List JS)×(AV×Bool))))) ((List Bf)×((List Int)×((List JS)×(AV×Bool))))->Prop),(∀a:Int×List Bf×List Int×List JS×AV×Bool,(0<=a.1/\a.1<=1000/\a.2.1.length<=a.1/\a.2.2.1.length<=a.1/\a.2.2.2.1.length<=a.1/\SQ n a.2.2.2.2.1)/\(1000-a.1).toNat<(1000-s.1).toNat->Q (.next a))->Ao (Option.bind (app s.2.1 ([v]:List (Int×(Int×(Int×((Bool×Bd)×Int)))))) λD_=>some (.next ((wi (s.1+1)),(D_,s.2.2)))) Q:=λv Q I=>b v s.2.2 o! o! o Q I;refine AA (AI Z S) λv1 _=>AP (λ_=>?_) (λ_=>?_);refine AA (fP q2 q3 q4) λv2 O=>AA (P:=λr=>r.1.length<=s.1+1/\r.2=s.2.2.2.2) ?_ λv4 R=>?_;refine AP (λ_=>?_) (λ_=>AB ⟨d!,rfl⟩);refine AA (Ac w!) λv3 G=>AB ⟨?_,rfl⟩;have:=G.2.1;simp at this;dsimp only;omega;refine AA (P:=λr=>SQ n r.1) ?_ λv5 V=>?_;refine AP (λf=>AB (i.sr (O f))) (λ_=>AB (by rw[R.2];exact o));refine AA Ew λv6 _=>b _ (v4.1,(s.2.2.2.1,v5)) R.1 d! V _ (λ_ h=>h);refine AP (λ_=>?_) (λ_=>?_);refine AC (λ_=>AA B8 λN _=>same _ _ (λ_ h=>h)) (λc1=>AC (λ_=>AA B8 λN _=>same _ _ (λ_ h=>h)) (λT=>?_));simp only[len]at T;have U:=AY (x:=v1.2.1-1);rw[U];refine AA (AI) λad _=>AA (AI) λal _=>AP (λ_=>AA B8 λN _=>same _ _ (λ_ h=>h)) (λ_=>AA (AI) λao _=>AA (AI) λap _=>AA (lP q2 q3 q4) λJ E_=>?_);have u:=i.sr E_;refine AP (λ_=>same _ _ (λ_ h=>h)) (λ_=>AP (λ_=>?_) (λ_=>?_));refine AA (P:=λr=>r.1.length<=s.1+1/\SQ n r.2.1) ?_ λK y=>b _ (s.2.2.1,K) d! y.1 y.2 _ (λ_ h=>h);refine AP (λ_=>?_) (λ_=>AB ⟨d!,u⟩);refine AA Fi λar _=>AA (Ac w!) λax F=>AB ⟨?_,u⟩;have:=F.2.1;simp at this;dsimp only;omega;exact b _ (s.2.2.1,(s.2.2.2.1,(J.1,s.2.2.2.2.2))) d! d! u _ (λ_ h=>h);refine AP (λ_=>?_) (λ_=>?_);refine AA (fR q2 q3 q4) λC j=>AA (P:=λr=>SQ n r.1) (AP (λf=>AB (i.sr (j f))) (λ_=>AB o)) λg d=>AA Ew λw _=>b _ (s.2.2.1,(s.2.2.2.1,g)) d! d! d _ (λ_ h=>h);refine AP (λ_=>?_) (λ_=>?_);refine AA (Xw q2 q4) λC j=>AA (P:=λr=>SQ n r.1) (AP (λf=>AB (i.sr (j f))) (λ_=>AB o)) λg d=>AA Ew λw _=>b _ (s.2.2.1,(s.2.2.2.1,g)) d! d! d _ (λ_ h=>h);refine AP (λ_=>?_) (λ_=>?_);refine AA Fi λa0 _=>AA KQ λa1 k=>AA (P:=λr=>SQ n r.1) (AP (λf=>AB ⟨B,q1,SB.sk q2.sb (q2.ki.of rfl (k f).2.1 rfl rfl),(k f).1,q4.up (LX.of (k f).2.2.1 (k f).2.1 (k f).2.2.2.1)⟩) (λ_=>AB o)) λg d=>AA Ew λw _=>b _ (s.2.2.1,(s.2.2.2.1,g)) d! d! d _ (λ_ h=>h);refine AP (λ_=>?_) (λ_=>?_);refine AA (fQ q2 q3 q4) λa2 ⟨A,P,z⟩=>AA (ik z.2 z.1) λL H=>AA (cO (m:=s.2.2.1.length) (c:=s.2.2.2.2) o! ⟨Ae _,d!,rfl,rfl⟩) λp q=>AL (λ_=>?_) (λf=>?_);refine AA Ew λM _=>b _ (p.1,(s.2.2.2.1,(p.2.1,true))) (by have:=q.1;dsimp only;omega) d! (by dsimp only;rw[q.2];exact o) _ (λ_ h=>h);refine AA Ew λM _=>?_;have l:=H f;dsimp only at l;rw[q1]at l;exact b _ (p.1,(s.2.2.2.1,(L.1,p.2.2))) (by have:=q.1;dsimp only;omega) d! l _ (λ_ h=>h);refine AP (λ_=>?_) (λ_=>?_);refine AA (il q2 q3 q4) λC j=>AA (P:=λr=>SQ n r.1) (AP (λf=>AB (i.sr (j f))) (λ_=>AB o)) λg d=>AA Ew λw _=>b _ (s.2.2.1,(s.2.2.2.1,g)) d! d! d _ (λ_ h=>h);exact AA B8 λN _=>same _ _ (λ_ h=>h)
def CX(b:AU):Prop:=0<=b.2/\W b.1<=16777216/\∀x∈b.1,0<=x/\x<256
def CX.step{b}(h:CX b)(a:b.2<W b.1):CX (b.1,wi (b.2+1)):=by have⟨a1,a2,a3⟩:=h;rw[(AY (x:=b.2+1))];exact⟨d!,a2,a3⟩
def Wo{b}(h:CX b):Ao (Hd b 256) λr=>CX r.2/\0<=r.1/\r.1<256:=by unfold Hd;refine AC (y? ⟨h,Ae _,by show(0:V)<256;decide⟩) (λa=>?_);simp[T]at a;refine AC n! (λ_=>AA (AI h.1) λc d=>?_);have⟨f,g⟩:=h.2.2 c d.2;have e:=AY (x:=c);refine AC n! (λ_=>AP n! (y? ⟨h.step o!,?_,?_⟩));grind[Int.tmod_nonneg];grind[Int.tmod_lt_of_pos]
theorem Ah{b}{x:V}(h:CX b)(j:x<=4611686018427387904):Ao (Aj b x) λr=>CX r.2/\0<=r.1/\(r.1=0\/r.1<x):=by unfold Aj;refine AC (y? ⟨h,Ae _,.inl rfl⟩) (λa=>?_);simp[T]at a;refine AC (y? ⟨h,Ae _,.inl rfl⟩) (λf=>AA (AI h.1) λc e=>?_);have⟨d,g⟩:=h.2.2 c e.2;rw[(AY (x:=c))];refine AC (λ_=>?_) (λ_=>?_);refine AA (Wo (h.step o!)) λk i=>?_;grind[AP,AB,AY,Int.tmod_nonneg,Int.tmod_lt_of_pos];refine AP (O! · o!) (y? ⟨h.step o!,qG _ d,.inr (qF _ o!)⟩)
def YE{b:AU}{x:Unit}(h:CX b):Ao (Iv b x) λr=>CX r.2:=by unfold Iv;refine AA (Ah h g!) λt e=>AA (Ah e.1 g!) λu m=>AA (P:=λr=>CX r.2/\0<=r.1/\r.1<=14) ?_ λc f=>?_;grind[AP,AB,AA,Ah];have⟨d,a,k⟩:=f;refine AA (P:=λl:U V=>l.length=0) ⟨_,if_pos ⟨Ae _,a,o!⟩,q!⟩ λv n=>AA (P:=λr=>CX r.2) ?_ λw g=>AB g;refine AW (λ(s:V×U V×AU)=>0<=s.1/\s.1<=c.1/\s.2.1.length<=s.1/\CX s.2.2) (λ(s:V×U V×AU)=>(c.1-s.1).toNat) ⟨Ae _,a,d!,d⟩ (λs i=>?_);have⟨o,p,q,j⟩:=i;unfold QC;rw[(AY (x:=s.1+1))];refine AC (λ_=>?_) (λ_=>AB j);grind[AA,Ah,Ac,AB,List.length_cons,List.length_nil]
theorem Y9{b}{x}(h:CX b):Ao (HP b x) λr=>CX r.2:=by unfold HP;refine AA (Ah h g!) λf a=>AP (λ_=>AA (Ah a.1 g!) λe c=>AB c.1) (λ_=>AP (λ_=>?_) (λ_=>AA (Ah a.1 g!) λe c=>AB c.1));refine AA (Ah a.1 g!) λg d=>?_;have:=d.2.2;refine AA (AI d.2.1 w!) λ_ _=>?_;grind[AA,AI,AB]
theorem XK{b}{x:V}(h:CX b)(u:x<=1099511627776):Ao (ID b x) λr=>CX r.2:=by
 unfold ID;refine AA (Ah h g!) λv a=>?_;have l:=a.2.2;refine AA (AI a.2.1 w!) λ_ _=>AA (AI a.2.1 w!) λw _=>AA (P:=λ_=>O) (AK (y? trivial) (λ_=>AA (P:=λ_=>O) (AK (y? trivial) (y? trivial)) λ_ _=>AB trivial)) λy _=>AA (P:=λr=>CX r.1) ?_ λp e=>?_;refine AK (λ_=>?_) (λ_=>?_);refine AA (Ah a.1 o!) λz m=>AA (Ah m.1 g!) λA j=>AA (P:=λr=>CX r.1) ?_ λt i=>AB i;refine AK (λ_=>?_) (y? j.1);refine AA (YE j.1) λc n=>?_;have k:0<=(if(12<(T c.1))then 12 else(T c.1))/\(if(12<(T c.1))then 12 else(T c.1))<=W c.1:=by simp[T];split<;>omega
 exact AA (CW (Ae _) k.1 k.2) λB _=>AB n;refine AA (P:=λr=>CX r.1) ?_ λt i=>AB i;exact AK (λ_=>AA (Ah a.1 g!) λo d=>AB d.1) (y? a.1);refine AA (Ah e g!) λq f=>AA (P:=λr=>CX r.1) ?_ λs g=>AB g;refine AK (λ_=>?_) (y? f.1);grind[AA,Y9,AB]
theorem YF{b}{x:V×V×R}(h:CX b)(f:0<=x.1/\x.1<=64/\x.2.1<=64):Ao (Iw b x) λr=>CX r.2:=by unfold Iw;rw[(AY (x:=x.1+1))];refine AA (Ah h g!) λg a=>AA (P:=λ_=>O) (AK (y? trivial) (y? trivial)) λi _=>AK (y? a.1) (λ_=>AK (λ_=>AA (Ah a.1 o!) λj c=>AB c.1) (λ_=>AK (y? a.1) (λ_=>AK (y? a.1) (λ_=>AA (P:=λs=>(∃u,s=.inl u/\CX u.1)\/∃u,s=.inr u/\CX u.1) ?_ λs e=>?_))));refine AK (λ_=>?_) (λ_=>AK (y? (.inl ⟨_,rfl,a.1⟩)) (y? (.inr ⟨_,rfl,a.1⟩)));refine AK (λ_=>?_) (y? (.inr ⟨_,rfl,a.1⟩));refine AA (Ah a.1 g!) λk d=>?_;grind[AA,Ah,AB];grind[BF,AB,A0,AA,Ah,XK]
def Vs{b:AU}{x:V×V×R}(h:CX b)(g:0<=x.1/\x.1<=64/\x.2.1<=1000/\ -1000<=x.2.1):Ao (G9 b x) λr=>CX r.2:=by unfold G9;rw[(AY (x:=x.2.1+1))];refine AA (Ah h o!) λk a=>?_;have c:=a.2.2;refine AA (P:=λr=>CX r.2) ?_ λl d=>AB d;refine AW (λ(s:V×U LP×AU)=>0<=s.1/\s.1+s.2.1.length<=1010/\CX s.2.2) (λ(s:V×U LP×AU)=>s.1.toNat) ⟨a.2.1,w!,a.1⟩ (λs e=>?_);have⟨i,j,f⟩:=e;unfold M4;rw[(AY (x:=s.1-1))];refine AC (λ_=>?_) (λ_=>AB f);grind[AA,YF,Ac,AB,List.length_cons,List.length_nil]
variable {B:Int->Prop}
def wA:Dg (1,[],0):=⟨g!,g!,q!,g!,q!,λi e h=>by simp at h⟩
def jw{x}:Ao (G3 x) λr=>r=(1,[],0):=by unfold G3;exact AB rfl
def j9{x:V×V}(h:1<=x.1/\x.1<=64/\1<=x.2/\x.2<=64):Ao (OF x) λr=>r.2=0/\r.1.1=x.1/\SK (λ_=>O) r.1/\Dg r.1.2.2.1/\r.1.2.2.1.1=1:=by unfold OF;refine AC (O! · o!) (λ_=>AC (O! · o!) (λ_=>AC (O! · o!) (λ_=>AC (O! · o!) (λ_=>AA WA λf c=>AA WB λg d=>AA jw λi b=>AB ⟨rfl,rfl,⟨⟨q!,q!⟩,q!,q!,?_⟩,?_⟩))));unfold KI FD;dsimp only;rw[c,b];refine⟨LI.nil _,λp _ _=>⟨q!,q!,λw e=>?_⟩,q!⟩;have:=d w (BP e);exact⟨by rw[this];exact Ae _,λ_ _=>this⟩;dsimp only;rw[b];exact⟨wA,rfl⟩
def AG5{x:V}(h:1<=x/\x<=64):Ao (Kp x) λr=>r.2=0:=by unfold Kp;refine AC (O! · o!) (λ_=>AC (O! · o!) (λ_=>AA (TE o!) λb _=>AB rfl))
def kA{x:V×V}(h:1<=x.1/\x.1<=64/\1<=x.2/\x.2<=64):Ao (OG x) λr=>SQ x.1 r.1:=by unfold OG;refine AA (j9 h) λe a=>AL (O! a.1 ·) (λ_=>AA ((jt).and (AG5 ⟨h.1,h.2.1⟩)) λf b=>AL (O! b.2 ·) (y? ?_));exact⟨_,a.2.1,a.2.2.1,a.2.2.2.1,a.2.2.2.2,(b.1 b.2).1,λi s d=>⟨λ_=>.inl (((b.1 b.2).2.2 i s d).trans (nI _)),.inl trivial⟩⟩
def Wp{b}{x:V×R}(h:CX b)(c:x.1<=1000/\ -1000<=x.1):Ao (He b x) λr=>CX r.2/\∃n,1<=n/\n<=4/\SQ n r.1:=by unfold He;refine AA (Ah h g!) λl a=>AA (Ah a.1 g!) λm g=>?_;obtain⟨a1,a2,a3⟩:=a;obtain⟨d,o,p⟩:=g;have e:=AY (x:=1+l.1);have f:=AY (x:=1+m.1);rw[e,f];refine AA (kA d!) λq i=>AA (Vs d ⟨d!,d!,c.1,c.2⟩) λs j=>AA (kB i) λt k=>AB ⟨j,_,d!,d!,k⟩
def O6{b}{x:V×R}(h:CX b)(d:x.1<=1000/\ -1000<=x.1):Ao (IE b x) λr=>CX r.2/\1<=r.1.1/\r.1.1<=4/\LI r.1.1 r.1.2.2.1.2.1/\Dg r.1.2.2.1/\r.1.2.2.1.1=1:=by unfold IE;refine AA (Wp h d) λg a=>AB ?_;obtain⟨c,n,e,f,_,q1,q2,q3,q4⟩:=a;exact⟨c,d!,d!,q2.ki.1,q3,q4.1⟩
def lJ{b}{x:V}(h:CX b)(g:x<=1000/\ -1000<=x):Ao (La b x) λr=>CX r.2.2/\1<=r.1/\r.1<=4/\Dg r.2.1/\∃n,LI n r.2.1.2.1:=by unfold La;refine AA (O6 h g) λk d=>?_;obtain⟨c,i,j,q2,q3,q4⟩:=d;refine AA Fi λl f=>?_;have e:=f q3;refine AA (KQ.and (tc q3 d!)) λm a=>AB ⟨c,i,j,(a.1 a.2).1,_,by have:=q2;rw[<-(a.1 a.2).2.1]at this;exact this⟩
end Go.Pm
namespace Go.Pm
open Go Go.Ab
def I3{x}:Ao (H7 x) λr=>r=E↔1<=x.1/\x.1<=x.2.1/\x.2.1<=1099511627776/\0<=x.2.2.1/\x.2.2.1<=x.2.2.2.1/\x.2.2.2.1<64/\0<=x.2.2.2.2/\x.2.2.2.2<=8:=by
 unfold H7;exact x!
theorem Mq{x}:Ao (DA x) λr=>O:=by
 unfold DA;exact x!
def Qp{x:U AE×AE}{s:V}(h:0<=s/\s<=θ x.1/\(θ x.1:V)<=16777216):Ao (Ag (I2 x) s) λr=>0<=r/\r<=θ x.1:=by
 refine AW (λ(s:V)=>0<=s/\s<=θ x.1/\(θ x.1:V)<=16777216) (λ(s:V)=>((θ x.1:V)-s).toNat) h (λs a=>?_);unfold I2;exact x!
theorem cR{x:S AE×AE}(h:W x.1<=16777215):Ao (Cg x) λr=>W r.1<=W x.1+1:=by
 refine AA (Qp ⟨Ae _,o!⟩) λp a=>?_;have main:Ao (σ (T6 x.1 0 p) λb=>
  σ (T6 x.1 p (T x.1)) λc=>
  σ (app [] b) λd=>
  σ (app d ([x.2]:S (V×(V×(V×(V×(V×(V×((V×(V×((R×Bd)×(R×Bd))))×Bd))))))))) λe=>
  σ (app e c) λf=>
  Y (f,E)) λr=>W r.1<=W x.1+1:=by
  refine AA (BX (Ae _) a.1 a.2) λj g=>AA (BX a.1 k! k!) λk i=>?_;grind[AA,Ac,AB]
 refine AC (λl=>?_) (λ_=>main);grind[AA,AI,Mq,AP,AB]
def ZX{x:AS}{s:V}(h:0<=s/\s<=θ x.2.2.2.2.2/\(θ x.2.2.2.2.2:V)<=16777216):Ao (Ag (HQ x) s) λr=>r≠.inl ζ:=by
 refine AW (λ(s:V)=>0<=s/\s<=θ x.2.2.2.2.2/\(θ x.2.2.2.2.2:V)<=16777216) (λ(s:V)=>((θ x.2.2.2.2.2:V)-s).toNat) h (λs b=>?_);unfold HQ;exact x!
def aq(x:AS):Prop:=1<=x.1/\x.1<=x.2.1/\x.2.1<=1099511627776/\0<=x.2.2.1/\x.2.2.1<=x.2.2.2.1/\x.2.2.2.1<64/\0<=x.2.2.2.2.1/\x.2.2.2.2.1<=8/\W x.2.2.2.2.2<=4096
def Ot{x}:Ao (EP x) λr=>r=E->aq x:=by refine AA I3 λe b=>AO (y? λa=>by cases a) (λc=>?_);have hn:=b.1 c;refine AC (y? λa=>by cases a) (λd=>?_);simp[T]at d;refine AA (ZX ⟨Ae _,o!⟩) λr hr=>?_;grind[aq,BG,AB]
def SO{x:U AE×V×V×V×V×V}{s:V×AS}(h:0<=s.1/\s.1<=θ x.1/\θ x.1<=16777215):Ao (Ag (Oo x) s) λr=>∀u,r=.inl u->u.1≠0:=by
 refine AW (λ(s:V×AS)=>0<=s.1/\s.1<=θ x.1/\θ x.1<=16777215) (λ(s:V×AS)=>((θ x.1:V)-s.1).toNat) h (λs b=>?_);unfold Oo;exact x!
def SP{a:R×V×AS}{b:AE}{s:R×V}(h:0<=s.2/\s.2<=θ a.2.2.2.2.2.2.2/\θ a.2.2.2.2.2.2.2<=16777215):Ao (Ag (Oq a b) s) λr=>O:=by
 refine AW (λ(s:R×V)=>0<=s.2/\s.2<=θ a.2.2.2.2.2.2.2/\θ a.2.2.2.2.2.2.2<=16777215) (λ(s:R×V)=>((θ a.2.2.2.2.2.2.2:V)-s.2).toNat) h (λs c=>?_);unfold Oq;exact x!
def iu{x:U AE×V×V×V×V×V}(h:x.1.length<=16777215):Ao (J3 x) λr=>r.2=0->aq r.1:=by
 refine AA I3 λp _=>AO (λ_=>AB n!) (λ_=>AA (SO ⟨Ae _,k!,h⟩) λq g=>BG (λu e=>AB λa=>absurd a (g u e)) (λu e=>AA (P:=λr=>r.2.2.2.2.2.2.length<=16777215) ?_ λl f=>?_));refine AW (λ(s:R×V×AS)=>0<=s.2.1/\s.2.1<=x.1.length/\s.2.2.2.2.2.2.2.length<=s.2.1) (λ(s:R×V×AS)=>((x.1.length:V)-s.2.1).toNat) ⟨Ae _,k!,q!⟩ (λs i=>?_);have⟨j,n,o⟩:=i;unfold Kb;rw[(AY (x:=s.2.1+1))];refine AC (λc=>?_) (λ_=>AB k!);simp[T]at c;have b:((0<=s.2.1+1/\s.2.1+1<=x.1.length/\s.2.2.2.2.2.2.2.length<=s.2.1+1)/\((x.1.length:V)-(s.2.1+1)).toNat<((x.1.length:V)-s.2.1).toNat):=⟨o!,o!⟩
 refine AA (AI j c) λt _=>AA CR λv _=>AO (λ_=>AB b) (λ_=>AC (λ_=>AB b) (λ_=>AC (λ_=>AB b) (λ_=>AC (λ_=>AB b) (λ_=>AC (λ_=>AB b) (λ_=>AA (SP ⟨Ae _,k!,o!⟩) λk _=>?_)))));grind[AA,cR,AB];refine AK (λ_=>AB n!) (λ_=>AC (λ_=>AB n!) (λ_=>AA Ot λm d=>AO (λ_=>AB n!) (λc=>AB λ_=>d c)))
def iq{x}:Ao (H6 x) λr=>O:=by
 unfold H6;exact x!
def cQ{x:AS}:Ao (Gp x) λr=>r.1.length<=1099511627776:=by refine AA Ot λk b=>AO (λ_=>AB q!) (λa=>?_);have h:=(b a).2.2.2.2.2.2.2.2;refine AA iq λl _=>AA UW λm g=>AA (P:=λr:Bd=>r.length<=1099511627776) ?_ λo c=>AB c;refine AW (λ(s:Bd×V)=>0<=s.2/\s.2<=x.2.2.2.2.2.length/\s.1.length<=8408*s.2+8408) (λ(s:Bd×V)=>((x.2.2.2.2.2.length:V)-s.2).toNat) ⟨Ae _,k!,k!⟩ (λs d=>?_);have⟨f,i,j⟩:=d;have e:=AY (x:=s.2+1);refine AC (λa=>?_) (λ_=>AB o!);refine AA (AI f a) λn _=>?_;grind[AA,br,UW,CM,AB]
def cT{x:Bd×V×V}(h:W x.1<=1099511627776):Ao (Bg x) λr=>O:=by exact AA (Cp h) λ_ _=>AB trivial
def cP{x:Bd}(h:x.length<=1099511627776):Ao (Fm x) λr=>r.2=0->aq r.1:=by refine AA (SD h) λk n=>AL (λb=>AB λa=>absurd a b) (λj=>AL (λ_=>AB n!) (λg=>?_));simp[T]at g;refine AA (CW (Ae _) g!) λp _=>AL (λ_=>AB n!) (λ_=>?_);have hn: ∀y,Ao (Bg (k.1,y)) λ_=>O:=λy=>cT k!;refine AA (hn _) λq _=>AA (hn _) λt _=>AA (hn _) λv _=>AA (hn _) λw _=>AA (hn _) λz _=>AA (hn _) λA _=>AC (λ_=>AB n!) (λi=>AA (P:=λr=> ∀u,r= .inl u->u.1≠0) ?_ λl d=>?_);refine AW (λ(s:V×V×U AE×V×V×V×V×V×AS)=>0<=s.2.1/\s.2.1<=4096/\s.2.2.1.length<=s.2.1) (λ(s:V×V×U AE×V×V×V×V×V×AS)=>(4096-s.2.1).toNat) ⟨Ae _,k!,q!⟩ (λs o=>?_);have e:=AY (x:=s.2.1+1);refine AC (λb=>?_) (λ_=>AB λu c=>by cases c);grind[AA,SD,AL,AB,bq,Ac,List.length_cons,List.length_nil];refine BG (λu c=>AB λa=>absurd a (d u c)) (λu c=>AL (λ_=>AB n!) (λ_=>AA Ot λm f=>AO (λ_=>AB n!) (λb=>AB λ_=>f b)))
def SA(a:AJ):Prop:=W a.1<=16/\W a.2.2.1<=16777216/\∀f∈a.2.2.1,W f.2.2<=1099511627776
def VA(a:AJ):Prop:=1<=a.2.1/\a.2.1<=64/\1<=W a.1/\W a.1<=16/\1<=a.2.2.2.1/\a.2.2.2.1<=1099511627777/\1<=a.2.2.2.2/\a.2.2.2.2<=1073741825/\W a.2.2.1<=256
def cV{x:V×U V}:Ao (Fo x) λr=>r=true->1<=x.1/\x.1<=64/\1<=x.2.length/\x.2.length<=16:=by unfold Fo;refine AC (λ_=>AB λa=>by cases a) (λh=>AC (λ_=>AB λa=>by cases a) (λi=>AC (λ_=>AB λa=>by cases a) (λb=>AC (λ_=>AB λa=>by cases a) (λc=>?_))));simp only[T]at b c;refine AA (AI (Ae _)) λk _=>AL (λ_=>AB λa=>by cases a) (λ_=>AA (P:=λ_=>O) ?_ λr _=>?_);refine AW (λ(s:V)=>1<=s/\s<=x.2.length) (λ(s:V)=>((x.2.length:V)-s).toNat) ⟨Ae _,o!⟩ (λs j=>?_);unfold Ms;have d:=AY (x:=s-1);have f:=AY (x:=s+1);rw[d,f];refine AC (λg=>?_) (λ_=>AB trivial);simp only[T]at g;refine AA (AI) λ_ _=>AA (AI) λ_ _=>AC (λ_=>AB trivial) (λ_=>AB ⟨o!,o!⟩);refine BG (λu _=>AB λ_=>o!) (λu _=>?_);have e:=AY (x:=T x.2-1) i!;rw[e];exact AA (AI i! i!) λl _=>AB λ_=>o!
def ZY{x:AJ}{s:V×V}(h:0<=s.2/\s.2<=θ x.2.2.1/\θ x.2.2.1<=256):Ao (Ag (Jr x) s) λr=>r≠.inl ζ:=by
 refine AW (λ(s:V×V)=>0<=s.2/\s.2<=θ x.2.2.1/\θ x.2.2.1<=256) (λ(s:V×V)=>((θ x.2.2.1:V)-s.2).toNat) h (λs b=>?_);unfold Jr;exact x!
def Kc{x}:Ao (Cy x) λr=>r=E->VA x:=by
 unfold Cy;refine AA cV λi c=>AO (y? λa=>by cases a) (λd=>?_);obtain⟨a1,a2,a3,a4⟩:=c d;refine AC (y? λa=>by cases a) (λe=>AC (y? λa=>by cases a) (λf=>AC (y? λa=>by cases a) (λg=>AC (y? λa=>by cases a) (λh=>AC (y? λa=>by cases a) (λb=>?_)))));simp only[T]at b;refine AA (ZY ⟨Ae _,d!,o!⟩) λr hr=>?_;have q:VA x:=⟨a1,a2,a3,a4,o!⟩
 exact BG (λu _=>AB λ_=>q) (λu _=>AB λ_=>q)
def Uj{x:AJ×V}(h:W x.1.1<=16)(a:0<=x.2/\x.2<W x.1.1):Ao (E8 x) λr=>O:=by unfold E8;have e:=AY (x:=x.2+1);rw[e];refine AA (P:=λ_=>O) ?_ λd _=>AA (AI a.1 a.2) λf _=>AB trivial;refine AC (λb=>?_) (y? trivial);simp only[T]at b;exact AA (AI o! b) λc _=>AB trivial
def YS{x:AJ×AS}(h:x.1.1.length<=16):Ao (Fb x) λr=> -1<=r/\r<16:=by
 unfold Fb;refine AA (P:=λr=> ∀u,r= .inl u->0<=u/\u<16) ?_ λr hr=>BG (λu a=>AB (by have:=hr u a;omega)) (λ_ _=>AB g!);refine AW (λ(s:V)=>0<=s/\s<=x.1.1.length) (λ(s:V)=>((x.1.1.length:V)-s).toNat) ⟨Ae _,o!⟩ (λs d=>?_);unfold Hf;have e:=AY (x:=s+1);rw[e];refine AC (λb=>?_) (λ_=>AB λu a=>by cases a);simp only[T]at b;have c:((0<=s+1/\s+1<=x.1.1.length)/\((x.1.1.length:V)-(s+1)).toNat<((x.1.1.length:V)-s).toNat):=⟨o!,o!⟩
 refine AA (Uj h ⟨d.1,b⟩) λf _=>AP (λ_=>?_) (λ_=>AB c);exact AP (λ_=>AB λu a=>by cases a;omega) (λ_=>AB c)
def cU{x:AJ×Am}(h:W x.1.1<=16)(c:W x.2.2.2<=1099511627776):Ao (DQ x) λr=>0<=r.2->aq r.1:=by unfold DQ;refine AL (y? n!) (λ_=>AA (cP c) λd b=>AL (y? n!) (λa=>AA (YS h) λe _=>AB λ_=>b a))
def Xx{x:AS×V}{s:V×U AE×V×V×V×V×V}(h:0<=s.1/\s.1<=θ x.1.2.2.2.2.2/\θ x.1.2.2.2.2.2<=4096/\θ s.2.1<=s.1):Ao (Ag (Li x) s) λr=>θ r.1<=4096:=by
 refine AW (λ(s:V×U AE×V×V×V×V×V)=>0<=s.1/\s.1<=θ x.1.2.2.2.2.2/\θ x.1.2.2.2.2.2<=4096/\θ s.2.1<=s.1) (λ(s:V×U AE×V×V×V×V×V)=>((θ x.1.2.2.2.2.2:V)-s.1).toNat) h (λs c=>?_);unfold Li;exact x!
def SV{x:AS×V}(h:W x.1.2.2.2.2.2<=4096):Ao (FW x) λr=>W r.2.2.2.2.2<=4096:=by unfold FW;refine AC (y? h) (λ_=>AA (Xx ⟨Ae _,d!,h,q!⟩) λb a=>AB a)
def SU{x:AJ×Aa×V}{a:U AE}{s:V×AJ}(h:0<=s.1/\s.1<=θ a/\θ a<=4096):Ao (Ag (Ou x a) s) λr=>∀u,r=.inl u->u.1≠0:=by
 refine AW (λ(s:V×AJ)=>0<=s.1/\s.1<=θ a/\θ a<=4096) (λ(s:V×AJ)=>((θ a:V)-s.1).toNat) h (λs c=>?_);unfold Ou;exact x!
def RL(l:S AS):Prop:=∀r∈l,W r.2.2.2.2.2<=4096
def Rc{a:U AS×U V×V}{c:AS×V}{s:V}(h:0<=s/\s<=a.1.length/\a.1.length<=16777215):Ao (Ag (HS a c) s) λr=>0<=r/\r<=a.1.length:=by refine AW (λ(s:V)=>0<=s/\s<=a.1.length) (λ(s:V)=>s.toNat) ⟨h.1,h.2.1⟩ (λs b=>?_);unfold HS;have d:=h.2.2;have e:=AY (x:=s-1);rw[e];refine AC (λf=>?_) (λ_=>AB b);refine AA (AI) λg _=>AC (λ_=>AB ⟨o!,o!⟩) (λ_=>AB b)
def ZZ{x:AJ}{B:Int×List AS×List Int×List Bool}(h:VA x)(G:SA x)(V:0<=B.1):Ao (Ag (Ex x B) ([],([],0))) λr=>r.2.length=r.1.length/\r.1.length<=256/\RL r.1:=by have a4:=h.2.2.2.1;have a9:=h.2.2.2.2.2.2.2.2;refine AW (λ(s:List AS×List Int×Int)=>0<=s.2.2/\s.2.2<=x.2.2.1.length/\s.2.1.length=s.1.length/\s.1.length<=s.2.2/\RL s.1) (λ(s:List AS×List Int×Int)=>((x.2.2.1.length:Int)-s.2.2).toNat) ⟨Ae _,d!,rfl,q!,λr hr=>by simp at hr⟩ (λs E_=>?_);obtain⟨z,W,A,X_,f⟩:=E_;unfold Ex;have e:=AY (x:=s.2.2+1);rw[e];refine AC (λm=>?_) (λ_=>AB ⟨A,d!,f⟩);simp only[len]at m;refine AA (AI z m) λU C=>AA (cU a4 (G.2.2 U C.2)) λZ D_=>AL (λ_=>AB ⟨⟨d!,d!,A,d!,f⟩,d!⟩) (λF=>?_);have n:=D_ o!;refine AA (Rc ⟨i!,i!,o!⟩) λv7 d=>AA (BX (Ae _) d.1 d.2) λv8 v=>AA (BX d.1 i! i!) λv9 y=>?_;have Y_:=v.2;have K:=y.2;simp only[len]at K;refine AA (Ac w!) λL a=>?_;have o:=a.2.1;simp only[Bj]at o;refine AA (Ac w!) λM b=>?_;have p:=b.2.1;simp only[Bj,Bh]at p;refine AA (Ac o!) λN c=>?_;have H:=c.2.1;refine AA (BX (Ae _) d.1) λO g=>?_;have I:=g.2;refine AA (AI z m) λP _=>AA (BX d.1 i! i!) λQ i=>?_;have q:=i.2;simp only[len]at q;refine AA (Ac w!) λR j=>?_;have t:=j.2.1;simp only[Bj]at t;refine AA (Ac w!) λS k=>?_;have u:=k.2.1;simp only[Bj,Bh]at u;refine AA (Ac o!) λT l=>AB ?_;have J:=l.2.1;refine⟨⟨d!,d!,d!,d!,λr hr=>?_⟩,d!⟩;dsimp only at hr;rw[c.1,b.1,a.1,v.1,y.1]at hr;rcases Ak.1 hr with w|w;rcases Ak.1 w with w|w;rw[B7]at w;exact f r (Q4 (F9 w));simp at w;rw[w];exact n.2.2.2.2.2.2.2.2;exact f r (Q4 (F9 w))
def T3(n:V)(t:S AS×S V×S R):Prop:=W t.2.1=W t.1/\W t.2.2=W t.1/\W t.1<=n/\RL t.1
def Za{a:U AS×U V}{n:V}{t:U AS×U V×U R}(h:a.2.length=a.1.length/\a.1.length<=256/\RL a.1)(hn:n<=100000)(z:T3 n t):Ao (Ag (Ey a) (0,(0,t))) λr=>T3 (n+256) r:=by refine AW (λ(s:V×V×U AS×U V×U R)=>0<=s.2.1/\s.2.1<=a.1.length/\T3 (n+s.2.1) s.2.2) (λ(s:V×V×U AS×U V×U R)=>((a.1.length:V)-s.2.1).toNat) ⟨Ae _,d!,by simpa using z⟩ (λs y=>?_);obtain⟨d,K,q,u,L,k⟩:=y;obtain⟨I,J,v⟩:=h;unfold Ey;have e:=AY (x:=s.2.1+1);rw[e];refine AC (λc=>?_) (λ_=>AB ⟨q,u,o!,k⟩);simp only[T]at c;refine AA (AI d c) λA _=>AC (λ_=>AB ⟨⟨d!,d!,q,u,d!,k⟩,d!⟩) (λ_=>AA (AI d c) λp f=>AA (AI d) λB _=>AA (AI d c) λC _=>AA (SV (v p f.2)) λD_ g=>AA (Ac w!) λE_ b=>?_);have l:=b.2.1;simp only[Bj,Bh]at l;refine AA (Ac w!) λF i=>?_;have m:=i.2.1;simp only[Bj,Bh]at m;refine AA (Ac w!) λG j=>?_;have o:=j.2.1;simp only[Bj,Bh]at o;refine AA (AI d c) λH _=>AB ?_;refine⟨⟨d!,d!,d!,d!,d!,λr hr=>?_⟩,d!⟩;dsimp only at hr;rw[b.1]at hr;rcases Ak.1 hr with w|w;exact k r w;simp at w;rw[w];exact g
def XL{b}{x:Bd}(h:CX b)(I:W x<=1099511627776):Ao (GI b x) λr=>CX r.2/\W r.1<=W x+1:=by
 refine AP (λ_=>?_) (λg=>?_);refine AA (Ah h g!) λJ m=>AB ⟨m.1,?_⟩;rw[My];simp;simp only[T]at g;refine AA (Ah h i!) λw n=>?_;obtain⟨k,a,l⟩:=n;simp only[T]at l;have e:=AY (x:=w.1+1);refine AA (Ah k g!) λK f=>AP (λ_=>?_) (λ_=>?_);refine AA (CW (Ae _) a) λL E=>AA (CW o! i! i!) λM q=>?_;have u:=q.2;simp only[T]at u;refine AA (CM o!) λN F=>AB ⟨f.1,?_⟩;grind;refine AP (λ_=>?_) (λ_=>?_);refine AA (Ah f.1 g!) λC s=>?_;have v:(E5 ([(ι .u8 C.1)]:S V)).length=1:=by rw[My];rfl
 refine AA (CM o!) λO G=>AB ⟨s.1,?_⟩;grind;refine AA (CW (Ae _) a) λP H=>AA (Rs a o!) λD _=>AA (CW o! i! i!) λy c=>AA (Ah f.1 g!) λj d=>?_;have i:=c.2;simp only[T]at i;generalize t:E5 ([(ι .u8 (((π ((κ 8 D)^^^(κ 8 (ι .u8 (wi (1+j.1)))))):Q):V))]:S V)=B;have v:W B=1:=by rw[<-t,My];rfl
 refine AA (CM o!) λz o=>AA (CM o!) λA p=>AB ⟨d.1,?_⟩;grind
def ACz{x:Aa×V}(h:Dg x.1)(c:x.2=x.1.1+W x.1.2.1-1):Ao (EO x) λr=>r.1.2.2=r.1.1+W r.1.2.1-1/\r.1.1=x.1.1:=by refine AA Bb λv e=>AO (λa=>?_) (λ_=>?_);grind;refine AA En λf b=>?_;rw[h.last]at b;have d:=h.2.2.2.2.1;refine AC (O! · o!) (y? ⟨?_,rfl⟩);grind
def AAv{b}{x:V}(h:CX b)(f:x<=1000/\ -1000<=x):Ao (La b x) λr=>r.2.1.2.2=r.2.1.1+W r.2.1.2.1-1/\r.2.1.1=1:=by refine AA (O6 h f) λj d=>?_;obtain⟨c,g,i,q2,q3,q4⟩:=d;refine AA Fi λk e=>AA (ACz q3 (e q3)) λl a=>AB ⟨a.1,a.2.trans q4⟩
def jv{x:Aa×V}(h:Dg x.1)(p:x.1.2.2=x.1.1+W x.1.2.1-1)(l:x.1.1<=x.2)(m:x.2<=x.1.2.2+1)(n:x.2<=1099511627776):Ao (Kq x) λr=>r.2=0/\Dg r.1/\r.1.1=x.2:=by obtain⟨a1,a2,a3,a4,a5,a6⟩:=id h;refine AA Bb λv q=>AO (λa=>?_) (λ_=>?_);grind;refine AC (O! · o!) (λ_=>AA En λf d=>?_);rw[h.last]at d;have g:=AY (x:=f+1);have j:=AY (x:=x.1.2.2+1);have k:=AY (x:=x.2-x.1.1);refine AC (O! · o!) (λ_=>AC (O! · o!) (λ_=>AC (O! · o!) (λ_=>AA (BX o! k! k!) λs b=>?_)));have l2:=b.2;simp only[T]at l2;refine AA (Ac w!) λt c=>AB ⟨rfl,?_,rfl⟩;refine⟨k!,k!,k!,k!,k!,λi e o=>?_⟩;grind
def Ris(l:S V)(n:V):Prop:=∀(i:Q)(a b:V),(i:V)+1<n->l[i]?=Y a->l[i+1]?=Y b->a<b
def BD(n:V)(l:S V):Prop:=1<=n/\n<=64/\1<=W l/\W l<=16/\l[0]?=Y 0/\Ris l (W l)/\∀a,l[W l-1]?=Y a->a<n
def nt{x:V×U V}:Ao (Fo x) λr=>r=ζ↔BD x.1 x.2:=by
 unfold Fo;refine AC (λc=>AB ⟨λd=>(by cases d),λh=>(by have:=h.1;omega)⟩) (λL=>AC (λc=>AB ⟨λd=>(by cases d),λh=>(by have:=h.2.1;omega)⟩) (λM=>AC (λc=>AB ⟨λd=>(by cases d),λh=>(by have:=h.2.2.1;simp only[T]at c;omega)⟩) (λy=>AC (λc=>AB ⟨λd=>(by cases d),λh=>(by have:=h.2.2.2.1;simp only[T]at c;omega)⟩) (λz=>?_))));simp only[T]at y z;refine AA (AI (Ae _)) λQ E_=>?_;have f:=E_.1;refine AL (λc=>AB ⟨λd=>(by cases d),λh=>?_⟩) (λo=>?_);have:=h.2.2.2.2.1;simp only[mC]at f;rw[f]at this;exact O! (BW this) c;rw[o]at f;refine AA (P:=λr=>(r=.inl η/\¬Ris x.2 (θ x.2))\/(r=.inr ()/\Ris x.2 (θ x.2))) ?_ λr hr=>?_;refine AW (λ(s:V)=>1<=s/\s<=θ x.2/\Ris x.2 s) (λ(s:V)=>((θ x.2:V)-s).toNat) ⟨Ae _,o!,λi a b v=>O! v o!⟩ (λs G=>?_);obtain⟨N,O,w⟩:=G;unfold Ms;have A:=AY (x:=s-1);have B:=AY (x:=s+1);rw[A,B];refine AC (λk=>?_) (λk=>AB (.inr ⟨rfl,?_⟩));simp only[T]at k;refine AA (AI) λa j=>AA (AI o! k) λb u=>?_;have t:(s-1).toNat+1=s.toNat:=o!
 refine AC (λJ=>AB (.inl ⟨rfl,λH=>?_⟩)) (λm=>AB ⟨⟨o!,o!,λi p q v n l=>?_⟩,o!⟩);have:=H (s-1).toNat a b o! j.1 (by rw[t];exact u.1);omega;by_cases I:(i:V)+1<s;exact w i p q I n l;have C:i=(s-1).toNat:=o!
 subst C;rw[t]at l;rw[j.1]at n;rw[u.1]at l;have:=BW n;have:=BW l;omega;simp only[T]at k;have:s=θ x.2:=o!
 rw[<-this];exact w;rcases hr with⟨rfl,hr⟩|⟨rfl,hr⟩;exact BF (AB ⟨λd=>(by cases d),λh=>O! h.2.2.2.2.2.1 hr⟩);apply A0;have e:=AY (x:=T x.2-1) i!;rw[e];refine AA (AI i! i!) λK F=>AB ?_;have g:=F.1;have D_:(T x.2-1).toNat=θ x.2-1:=i!
 rw[D_]at g;rw[K!];refine⟨λm=>⟨o!,o!,o!,o!,f,hr,λa j=>?_⟩,λh=>h.2.2.2.2.2.2 K g⟩;rw[g]at j;have:=BW j;omega
def BI(i:V)(l:S V):Prop:=1<=W l/\W l<=16/\l[0]?=Y 0/\Ris l (W l)/\∀a,l[W l-1]?=Y a->a<i
def BI.mono{i}{l}(h:BI i l):BI (i+1) l:=⟨h.1,h.2.1,h.2.2.1,h.2.2.2.1,λa b=>by have:=h.2.2.2.2 a b;omega⟩
def BI.push{i}{l m:S V}(h:BI i l)(u:W l<16)(r:m=l++[i]):BI (i+1) m:=by
 subst r;obtain⟨s,t,n,o,p⟩:=h;have g:(l++[i]).length=W l+1:=q!
 refine⟨o!,o!,?_,λk a b q c d=>?_,λa c=>?_⟩;rw[CZ o!];exact n;rw[g]at q;rw[CZ o!]at c;by_cases f:k+1<W l;rw[CZ f]at d;exact o k a b o! c d;have j:k=W l-1:=o!
 subst j;rw[Cn o!]at d;have e:W l-1+1-W l=0:=o!
 rw[e]at d;simp at d;have:=p a c;omega;rw[g]at c;rw[Cn o!]at c;have e:W l+1-1-W l=0:=o!
 rw[e]at c;simp at c;omega
def ACy{b}{x:V}(h:CX b)(d:1<=x/\x<=64):Ao (L4 b x) λr=>CX r.2/\BD x r.1:=by
 unfold L4;refine AA (P:=λr=>CX r.2/\BD x r.1) ?_ λr hr=>AB hr;refine AW (λs=>1<=s.1/\s.1<=x/\BI s.1 s.2.1/\CX s.2.2) (λs=>(x-s.1).toNat) ⟨Ae _,d.1,⟨q!,q!,q!,λi a b q=>O! q w!,λa o=>by simp at o;omega⟩,h⟩ (λs n=>?_);obtain⟨u,v,c,g⟩:=n;unfold TB;have e:=AY (x:=s.1+1);rw[e];refine AC (λp=>?_) (λp=>AB ⟨g,?_⟩);refine AA (Ah g g!) λw f=>AP (λ_=>?_) (y? ⟨⟨d!,d!,c.mono,f.1⟩,d!⟩);refine AA (P:=λl=>BI (s.1+1) l) ?_ λz m=>AB ⟨⟨d!,d!,m,f.1⟩,d!⟩;refine AC (λt=>?_) (y? c.mono);simp only[T]at t;exact AA (Ac w!) λy k=>AB (c.push o! k.1);have j:s.1=x:=o!
 rw[j]at c;exact⟨d.1,d.2,c.1,c.2.1,c.2.2.1,c.2.2.2.1,c.2.2.2.2⟩
def FR(l:S Am)(m n:V):Prop:=(∀(i:Q)(f:Am),(i:V)<n->l[i]?=Y f->0<f.2.1/\f.2.1<m)/\∀(i:Q)(f g:Am),(i:V)+1<n->l[i]?=Y f->l[i+1]?=Y g->f.2.1<g.2.1
def VB(a:AJ):Prop:=BD a.2.1 a.1/\1<=a.2.2.2.1/\a.2.2.2.1<=1099511627777/\1<=a.2.2.2.2/\a.2.2.2.2<=1073741825/\W a.2.2.1<=256/\FR a.2.2.1 a.2.2.2.2 (W a.2.2.1)
theorem O3{x:AJ}:Ao (Cy x) λr=>r=ζ↔VB x:=by
 unfold Cy;refine AA nt λU w=>AO (λj=>AB ⟨λb=>(by cases b),λh=>(by rw[w.2 h.1]at j;cases j)⟩) (λj=>?_);have H:=w.1 j;refine AC (λc=>AB ⟨λb=>(by cases b),λh=>(by have:=h.2.1;omega)⟩) (λN=>AC (λc=>AB ⟨λb=>(by cases b),λh=>(by have:=h.2.2.1;omega)⟩) (λO=>AC (λc=>AB ⟨λb=>(by cases b),λh=>(by have:=h.2.2.2.1;omega)⟩) (λQ=>AC (λc=>AB ⟨λb=>(by cases b),λh=>(by have:=h.2.2.2.2.1;omega)⟩) (λR=>AC (λc=>AB ⟨λb=>(by cases b),λh=>(by have:=h.2.2.2.2.2.1;simp only[len]at c;omega)⟩) (λA=>?_)))));simp only[len]at A;refine AA (P:=λr=>(r=.inl η/\¬FR x.2.2.1 x.2.2.2.2 (θ x.2.2.1))\/(r=.inr ()/\FR x.2.2.1 x.2.2.2.2 (θ x.2.2.1))) ?_ λr hr=>?_;refine AW (λ(s:V×V)=>0<=s.2/\s.2<=θ x.2.2.1/\FR x.2.2.1 x.2.2.2.2 s.2/\0<=s.1/\(s.2=0->s.1=0)/\∀f,0<s.2->x.2.2.1[(s.2-1).toNat]?=δ f->f.2.1=s.1) (λ(s:V×V)=>((θ x.2.2.1:V)-s.2).toNat) ⟨Ae _,d!,⟨λi f k=>O! k d!,λi f g k=>O! k d!⟩,Ae _,λ_=>rfl,λf d=>O! d d!⟩ (λs G=>?_);obtain⟨q,S,t,T,L,z⟩:=G;unfold Jr;have e:=AY (x:=s.2+1);rw[e];refine AC (λj=>?_) (λj=>AB (.inr ⟨rfl,?_⟩));simp only[len]at j;refine AA (AI q j) λu D_=>?_;have a:=D_.1;refine AC (λJ=>AB (.inl ⟨rfl,λn=>?_⟩)) (λK=>?_);by_cases b:s.2=0;have:=(n.1 s.2.toNat u o! a).1;have:=L b;omega;obtain⟨f,d⟩:∃f,x.2.2.1[(s.2-1).toNat]?=δ f:=⟨_,Au o!⟩
 have m:(s.2-1).toNat+1=s.2.toNat:=o!
 have:=n.2 (s.2-1).toNat f u o! d (by rw[m];exact a);have:=z f o! d;omega;refine AA (AI q j) λv E_=>?_;have B:v=u:=by have:=E_.1;rw[a]at this;exact(BW this).symm
 subst B;refine AC (λI=>AB (.inl ⟨rfl,λn=>?_⟩)) (λy=>?_);have:=(n.1 s.2.toNat v o! a).2;omega;refine AA (AI q j) λM F=>AB ?_;have C:M=v:=by have:=F.1;rw[a]at this;exact(BW this).symm
 subst C;refine⟨⟨d!,d!,⟨λi f k d=>?_,λi f g k d p=>?_⟩,d!,λb=>O! b d!,λf _ d=>?_⟩,d!⟩;dsimp only at k;by_cases l:(i:V)<s.2;exact t.1 i f l d;have o:i=s.2.toNat:=o!
 subst o;rw[a]at d;have:=BW d;subst this;exact o!;dsimp only at k;by_cases l:(i:V)+1<s.2;exact t.2 i f g l d p;have o:i=(s.2-1).toNat:=o!
 have m:i+1=s.2.toNat:=o!
 rw[m,a]at p;have:=BW p;subst this;rw[o]at d;have:=z f o! d;omega;dsimp only at d⊢;have m:(s.2+1-1).toNat=s.2.toNat:=o!
 rw[m,a]at d;have:=BW d;rw[this];simp only[len]at j;have:s.2=θ x.2.2.1:=o!
 rw[<-this];exact t;rcases hr with⟨rfl,hr⟩|⟨rfl,hr⟩;exact BF (AB ⟨λb=>(by cases b),λh=>O! h.2.2.2.2.2.2 hr⟩);exact A0 (AB ⟨λ_=>⟨H,o!,o!,o!,o!,o!,hr⟩,λ_=>rfl⟩)
def qp{x}:Ao (IP x) λr=>r=E↔0<=x/\x<64:=by
 unfold IP;exact x!
theorem eS{x}:Ao (OT x) λr=>r=E↔PG x:=by
 unfold OT PG
 exact x!
def LM{x}:Ao (OV x) λr=>r=E↔0<=x.1/\x.1<x.2.1:=by
 unfold OV;exact x!
def ul{x}:Ao (M3 x) λr=>r=E↔x=Qe:=by grind[M3,Qe,AB,Prod.ext_iff]
def pS{x}:Ao (Ga x) λr=>r=E:=by grind[Ga,AB]
def pT{x}:Ao (Te x) λr=>r=E↔1<=x.2.2.2.2.2.1/\x.2.2.2.2.2.1<=x.2.2.2.1:=by
 unfold Te;exact x!
def pU{x}:Ao (Tf x) λr=>r=E↔0<=x.1/\x.1<64/\x.2=Qe.2:=by
 unfold Tf Qe;have⟨a,b,⟨c,d⟩,e,f⟩:=x;refine AK (λg=>?_) (λg=>AB ?_);refine AC (λh=>AB ?_) (λh=>AB ?_);simp at g;simp[g,h];try omega
 simp;try omega
 grind[Prod.ext_iff]
theorem Kk{x}:Ao (GZ x) λr=>Mc x->r=E:=by
 unfold GZ;refine AC (λi=>AB λh=>?_) (λs=>?_);have:=h.1;omega;refine AC (λi=>AB λh=>?_) (λt=>?_);have:=h.2.1;omega;refine AC (λi=>AB λh=>?_) (λu=>?_);have:=h.2.2.2.2.2.2.2.2;unfold Vw at this;omega;refine AC (λi=>AB λh=>?_) (λv=>?_);have:=h.2.2.2.2.2.2.2.2;unfold Vw at this;omega;refine AA LM λw j=>AO (λi=>AB λh=>?_) (λn=>?_);rw[j.2 ⟨h.2.2.1,h.2.2.2.1⟩]at i;cases i;refine AA LM λy k=>AO (λi=>AB λh=>?_) (λo=>?_);rw[k.2 ⟨h.2.2.2.2.1,h.2.2.2.2.2.1⟩]at i;cases i;refine AA LM λz l=>AO (λi=>AB λh=>?_) (λp=>?_);rw[l.2 ⟨h.2.2.2.2.2.2.1,h.2.2.2.2.2.2.2.1⟩]at i;cases i;refine Ao.mono (P:=λr=>Vw x->r=E) ?_ λr h q=>h q.2.2.2.2.2.2.2.2;clear j k l n o p;have⟨a,b,c,d,e,f,g,m⟩:=x;unfold Vw;dsimp only at*;refine AC (O! · o!) (λk0=>?_);exact x!
def jR{x}:Ao (Cm x) λr=>r=wi (wi (x.1+T x.2.1)-1):=by grind[Cm,AB]
def G8{x:Aa}(h:Dg x):Ao (Ha x) λr=>r=true:=by have⟨a1,a2,a3,a4,a5,a6⟩:=id h;unfold Ha;refine AC (λa=>absurd a o!) (λ_=>AC (λa=>absurd a o!) (λ_=>AC (λa=>absurd a (by simp[T];omega)) (λ_=>?_)));rw[(AY (x:=x.1-1))];refine AC (λa=>absurd a o!) (λ_=>AA jR λf b=>?_);rw[h.last]at b;refine AC (λa=>absurd a o!) (λ_=>AA (P:=λr=> ∃u,r= .inr u) ?_ λr hr=>?_);refine AW (λ(s:V)=>0<=s/\s<=x.2.1.length) (λ(s:V)=>((x.2.1.length:V)-s).toNat) ⟨Ae _,o!⟩ (λs c=>?_);have⟨d,e⟩:=c;unfold Y8;refine AC (λa=>?_) (λ_=>AB ⟨_,rfl⟩);grind[AA,AI,AY,AL,Kk,AO,AB];grind[A0,AB]
def Rw{x}(h:Dg x):Ao (OW x) λr=>r=x.1+W x.2.1-1:=by unfold OW;refine AA (G8 h) λv c=>AO (λb=>?_) (λ_=>?_);rw[c]at b;cases b;refine AA jR λd a=>AB ?_;rw[h.last]at a;exact a
def Fg{x:AJ}(h:VB x):Ao (Fz x) λr=>r=true:=by
 obtain⟨⟨L,M,N,O,p,t,v⟩,a1,a2,a3,a4,a5,a6⟩:=id h;unfold Fz;refine AC (λa=>absurd a o!) (λ_=>AC (λa=>absurd a o!) (λ_=>AC (λa=>absurd a i!) (λ_=>AC (λa=>absurd a i!) (λ_=>AA (AI (Ae _)) λQ B=>?_))));have b:=B.1;rw[show((0:V).toNat)=0 from rfl,p]at b;injection b with b;refine AL (λa=>absurd b.symm a) (λ_=>?_);have w:=AY (x:=T x.1-1) i!;rw[w];refine AA (AI i! i!) λI C=>?_;have c:=C.1;have y:(T x.1-1).toNat=x.1.length-1:=i!
 rw[y]at c;refine AC (λa=>absurd a (by have:=v I c;omega)) (λ_=>AA (P:=λr=> ∃u,r= .inr u) ?_ λr hr=>?_);refine AW (λ(s:V)=>1<=s/\s<=x.1.length) (λ(s:V)=>((x.1.length:V)-s).toNat) ⟨Ae _,o!⟩ (λs i=>?_);obtain⟨o,F⟩:=i;unfold X6;refine AC (λa=>?_) (λ_=>AB ⟨_,rfl⟩);simp only[T]at a;have z:=AY (x:=s-1);have e:=AY (x:=s+1);rw[z,e];refine AA (AI) λJ D_=>AA (AI o! a) λK E_=>?_
 have q:=t (s-1).toNat J K o! D_.1 (by have:(s-1).toNat+1=s.toNat:=o!;rw[this];exact E_.1)
 refine AC (λa=>absurd a o!) (λ_=>AB ⟨o!,o!⟩);obtain⟨u,rfl⟩:=hr;apply A0;refine AC (λa=>absurd a o!) (λ_=>AC (λa=>absurd a o!) (λ_=>AC (λa=>absurd a o!) (λ_=>AC (λa=>absurd a o!) (λ_=>AC (λa=>absurd a i!) (λ_=>AA (P:=λr=> ∃u,r= .inr u) ?_ λr hr=>?_)))));refine AW (λ(s:V×V)=>0<=s.2/\s.2<=x.2.2.1.length/\(s.2=0->s.1=0)/\ ∀f:Am,0<s.2->x.2.2.1[(s.2-1).toNat]? =some f->s.1=f.2.1) (λ(s:V×V)=>((x.2.2.1.length:V)-s.2).toNat) ⟨Ae _,d!,λ_=>rfl,λf m=>by dsimp only at m;omega⟩ (λs i=>?_);obtain⟨o,F,G,H⟩:=i;unfold X7;refine AC (λa=>?_) (λ_=>AB ⟨_,rfl⟩);simp only[T]at a;have e:=AY (x:=s.2+1);rw[e];refine AA (AI o a) λl g=>?_;have q1:=a6.1 s.2.toNat l o! g.1;have q2:s.1<l.2.1:=by
  by_cases k:s.2=0;rw[G k];exact q1.1;have j:(s.2-1).toNat<x.2.2.1.length:=o!
  have n:x.2.2.1[(s.2-1).toNat]? =some x.2.2.1[(s.2-1).toNat]:=Au j
  have:=a6.2 (s.2-1).toNat _ l o! n (by have:(s.2-1).toNat+1=s.2.toNat:=o!;rw[this];exact g.1)
  rw[H _ o! n];exact this
 refine AC (λa=>absurd a o!) (λ_=>AC (λa=>absurd a (by have:=q1.2;omega)) (λ_=>AB ⟨⟨d!,d!,λk=>?_,λf m d=>?_⟩,d!⟩));dsimp only at k;omega;dsimp only at d⊢;have A:(s.2+1-1).toNat=s.2.toNat:=o!
 rw[A,g.1]at d;injection d with d;rw[d];obtain⟨u,rfl⟩:=hr;exact A0 (AB rfl)
def aY{x:AJ×Aa×V×V}(h:VB x.1)(c:Dg x.2.1)(e:0<=x.2.2.1/\x.2.2.1<x.1.2.1/\0<=x.2.2.2):Ao (P9 x) λr=>r=0:=by unfold P9;refine AA (Fg h) λv d=>AO (λa=>?_) (λ_=>?_);rw[d]at a;cases a;refine AA (G8 c) λf b=>AO (λa=>?_) (λ_=>?_);rw[b]at a;cases a;refine AC (O! · o!) (λ_=>AC (O! · o!) (λ_=>AC (O! · o!) (y? rfl)))
end Go.Pm
