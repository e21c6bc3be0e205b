/- Parts of the proof; nothing is assumed. -/
import Derived.Test.YtdbincbpjobdpaaGreatK6
import Derived.KernelRfl
noncomputable section
set_option linter.all false
set_option maxHeartbeats 1000000
open Option renaming some->Z
open List renaming length->W
open Go renaming Ψ->S
open Bool renaming false->X
open Bool renaming true->E
open Option renaming none->D
open Go renaming Ω->V
open Option renaming some->δ,none->ε,bind->σ
open Bool renaming true->ζ,false->η
open List renaming length->θ,replicate->ς
open Go.IntKind renaming wrap->ι
open BitVec renaming ofInt->κ,toNat->π
open Sum renaming elim->ν
open Int renaming toNat->ο
open Decidable renaming decide->τ
open _root_ renaming Int->Y,List->U,Nat->Q,Bool->R,True->O
open Go.Ab renaming len->T
namespace Go.Pm
open Go Go.Ab
def Zh(c:BitVec 32):BitVec 32:=if c.getLsbD 0=E then(c>>>1)^^^2197175160#32 else c>>>1
def oK:Q->BitVec 32->BitVec 32
 |0,c=>c
 |n+1,c=>Zh (oK n c)
def kN(c:BitVec 32)(b:UInt8):BitVec 32:=oK 8 (c^^^BitVec.ofNat 32 b.toNat)
def AGw(s:Bd):BitVec 32:=4294967295#32^^^s.foldl kN 4294967295#32
def QA(s:Bd):Y:=((AGw s).toNat:Y)
def jY{a b:BitVec 32}(h:a^^^b=0#32):a=b:=t!
def ADu(a b:BitVec 32):Zh (a^^^b)=Zh a^^^Zh b:=by
 unfold Zh;rw[BitVec.getLsbD_xor,BitVec.ushiftRight_xor_distrib];cases a.getLsbD 0<;>cases b.getLsbD 0<;>simp;grind;grind;have:a>>>1^^^2197175160#32^^^(b>>>1^^^2197175160#32)=(a>>>1^^^b>>>1)^^^(2197175160#32^^^2197175160#32):=by ac_rfl
 grind
theorem yE:∀n(a b:BitVec 32),oK n (a^^^b)=oK n a^^^oK n b
 |0,a,b=>rfl
 |n+1,a,b=>by rw[oK,oK,oK,yE n,ADu]
def ABw{c}(h:Zh c=0#32):c=0#32:=by
 unfold Zh at h;by_cases b:c.getLsbD 0=E;rw[C! b]at h;have a:(c>>>1).getLsbD 31=(2197175160#32).getLsbD 31:=by rw[(jY h)]
 rw[BitVec.getLsbD_ushiftRight]at a;simp_all;rw[D! b]at h;apply qG;intro i d;cases i with
 |zero=>grind
 |succ j=>
  have a:(c>>>1).getLsbD j=(0#32).getLsbD j:=by rw[h]
  grind
def zn:∀n{c},oK n c=0#32->c=0#32
 |0,c,h=>h
 |n+1,c,h=>zn n (ABw h)
def ACY{n}{a b}(h:oK n a=oK n b):a=b:=by refine jY (zn n ?_);rw[yE,h,cw]
def AGq{a b}{x}(h:kN a x=kN b x):a=b:=by have c:=ACY h;simp_all
def AGr{a}{x y}(h:kN a x=kN a y):x=y:=by
 have:a^^^(a^^^BitVec.ofNat 32 x.toNat)=a^^^(a^^^BitVec.ofNat 32 y.toNat):=by rw[(ACY h)]
 rw[<-mC,cw,mD,<-mC,cw,mD]at this;have b:=E! π this;rw[cu,cu]at b;have c:=x.toNat_lt;have d:=y.toNat_lt;exact UInt8.toNat_inj.1 o!
def AE0:∀(s:Bd){a b},s.foldl kN a=s.foldl kN b->a=b
 |[],a,b,h=>h
 |x::r,a,b,h=>AGq (AE0 r h)
def AGx{u v:Bd}{x y:UInt8}(h:QA (u++x::v)=QA (u++y::v)):x=y:=by
 unfold QA at h;have a:AGw (u++x::v)=AGw (u++y::v):=BitVec.eq_of_toNat_eq o!;unfold AGw at a;rw[Yc,Yc,Yd,Yd]at a;have b:∀p q:BitVec 32,4294967295#32^^^p=4294967295#32^^^q->p=q:=λp q c=>by
  have:4294967295#32^^^(4294967295#32^^^p)=4294967295#32^^^(4294967295#32^^^q):=by rw[c]
  rwa[<-mC,cw,mD,<-mC,cw,mD]at this
 exact AGr (AE0 v (b _ _ a))
def aS(s:Bd):0<=QA s/\QA s<4294967296:=by unfold QA;omega
theorem bvI(c:BitVec 32):κ 32 (c.toNat:Y)=c:=k!
theorem w32(c:BitVec 32):ι .u32 (c.toNat:Y)=(c.toNat:Y):=by rw[xT];omega
theorem fdN(c:BitVec 32)(k:Q)(a:k<=32):Int.fdiv (c.toNat:Y) (2^(min (ο (k:Y)) 32))=((c>>>k).toNat:Y):=by rw[show min (ο (k:Y)) 32=k by omega,mF _ (by exact_mod_cast BV (2^k)),BitVec.toNat_ushiftRight,Nat.shiftRight_eq_div_pow];grind
theorem fd1(c:BitVec 32):Int.fdiv (c.toNat:Y) (2^(min (ο 1) 32))=((c>>>1).toNat:Y):=by grind[fdN]
def fd4(c:BitVec 32):Int.fdiv (c.toNat:Y) (2^(min (ο 4) 32))=((c>>>4).toNat:Y):=by grind[fdN]
theorem AHO(c:BitVec 32):((ι .u32 (((π ((κ 32 (c.toNat:Y))&&&(κ 32 1))):Q):Y))==1)=c.getLsbD 0:=by grind[bvI,w32,BitVec.toNat_and,κ]
def AIV(c:BitVec 32):(bif ((ι .u32 (((π ((κ 32 (c.toNat:Y))&&&(κ 32 1))):Q):Y))==1)then
     Z (ι .u32 (((π ((κ 32 (Int.fdiv (c.toNat:Y) (2^(min (ο 1) 32))))^^^(κ 32 2197175160))):Q):Y))
    else
    Z (Int.fdiv (c.toNat:Y) (2^(min (ο 1) 32))):V Y)=Z ((Zh c).toNat:Y):=by grind[AHO,fd1,bvI,w32,Zh]
def AJk(c:BitVec 32):Ai IU ((c.toNat:Y),0)=Z ((oK 8 c).toNat:Y):=by
 have key:An (Ai IU ((c.toNat:Y),0)) λr=>r=((oK 8 c).toNat:Y):=by refine AW (λs=>0<=s.2/\s.2<=8/\s.1=((oK s.2.toNat c).toNat:Y)) (λs=>(8-s.2).toNat) ⟨Ae _,d!,rfl⟩ ?_;rintro⟨g,a⟩ ⟨e,f,b⟩;dsimp only at e f b;subst b;refine AC (λd=>?_) (λd=>AB (by rw[show a.toNat=8 by omega]));rw[AIV,AD,AY];refine AB ⟨⟨o!,o!,?_⟩,o!⟩;rw[show(a+1).toNat=a.toNat+1 by omega];rfl
 obtain⟨r,hr,rfl⟩:=key;exact hr
def AEc(c:BitVec 32)(b:UInt8):ι .u32 (((π ((κ 32 (c.toNat:Y))^^^(κ 32 (ι .u32 (b.toNat:Y))))):Q):Y)=((c^^^BitVec.ofNat 32 b.toNat).toNat:Y):=by grind[ι,xT,bvI,w32]
def AFx{x:Bd}{i:Y}(a:0<=i)(c:i<W x):∃b:UInt8,six x i=Z (b.toNat:Y)/\x.take (i+1).toNat=x.take (ο i)++[b]:=by obtain⟨k,rfl⟩:=EG a;refine⟨x[k],?_,?_⟩;grind[six];simp_all
def xc{x:Bd}(h:θ x<=2199023255552):FJ x=δ (QA x):=by
 have key:An (Ai (IT x) (4294967295,0)) λr=>r=((x.foldl kN 4294967295#32).toNat:Y):=by refine AW (λ(s:Y×Y)=>0<=s.2/\s.2<=θ x/\s.1=(((x.take s.2.toNat).foldl kN 4294967295#32).toNat:Y)) (λs=>((θ x:Y)-s.2).toNat) ⟨Ae _,d!,rfl⟩ ?_;rintro⟨f,g⟩ ⟨c,e,d⟩;dsimp only at c e d;subst d;unfold IT;simp only[T];refine AC (λa=>?_) (λa=>AB (by rw[BM o!]));have⟨b,q1,q2⟩:=AFx c a;rw[q1,AD,AEc,AJk,AD,AY];refine AB ⟨⟨o!,o!,?_⟩,o!⟩;rw[q2,Yc];rfl
 obtain⟨r,hr,rfl⟩:=key;unfold FJ;rw[hr,AD,bvI];rw[show(κ 32 (if(η=ζ)then(-1)else(if(η=ζ)then((2^(32-1))-1)else((2^32)-1))))=4294967295#32 by decide,w32];rfl
def ALF{d:BitVec 32}(b:d.getLsbD 0=X)(c:d.getLsbD 1=X)(f:d.getLsbD 2=X)(g:d.getLsbD 3=X):oK 4 d=d>>>4:=by
 have st:∀e:BitVec 32,e.getLsbD 0=X->Zh e=e>>>1:=λe a=>by unfold Zh;rw[D! (by rw[a];decide)]
 show Zh (Zh (Zh (Zh d)))=_;grind
def AJI(c:BitVec 32):(c>>>4)^^^oK 4 (c&&&15#32)=oK 4 c:=by
 have d:c=(c&&& ~~~15#32)^^^(c&&&15#32):=by apply qG;intro i a;rw[BitVec.getLsbD_xor,BitVec.getLsbD_and,BitVec.getLsbD_and,BitVec.getLsbD_not];grind
 have e:oK 4 (c&&& ~~~15#32)=c>>>4:=by
  have z:∀i,i<4->(c&&& ~~~15#32).getLsbD i=X:=λi a=>by
   have:i=0\/i=1\/i=2\/i=3:=o!
   grind
  rw[ALF (z 0 g!) (z 1 g!) (z 2 g!) (z 3 g!)];apply qG;intro i a;have b:(15#32).getLsbD (4+i)=X:=by show(15#32).toNat.testBit (4+i)=X;grind
  grind
 grind[yE]
def AJg(c:BitVec 32):Ai Lv ((c.toNat:Y),0)=Z ((oK 4 c).toNat:Y):=by
 have key:An (Ai Lv ((c.toNat:Y),0)) λr=>r=((oK 4 c).toNat:Y):=by refine AW (λs=>0<=s.2/\s.2<=4/\s.1=((oK s.2.toNat c).toNat:Y)) (λs=>(4-s.2).toNat) ⟨Ae _,d!,rfl⟩ ?_;rintro⟨g,a⟩ ⟨e,f,b⟩;dsimp only at e f b;subst b;refine AC (λd=>?_) (λd=>AB (by rw[show a.toNat=4 by omega]));rw[AIV,AD,AY];refine AB ⟨⟨o!,o!,?_⟩,o!⟩;rw[show(a+1).toNat=a.toNat+1 by omega];rfl
 obtain⟨r,hr,rfl⟩:=key;exact hr
def AEC(t:Fin (15+1)->(Ty.int IntKind.u32).D):Prop:=∀j:Fin 16,t j=((oK 4 (BitVec.ofNat 32 j.val)).toNat:Y)
def AKf:An (LV ()) AEC:=by refine AA (P:=AEC) ?_ λr hr=>AB hr;refine AW (λs=>0<=s.1/\s.1<=16/\∀j:Fin 16,(j.val:Y)<s.1->s.2 j=((oK 4 (BitVec.ofNat 32 j.val)).toNat:Y)) (λs=>(16-s.1).toNat) ⟨Ae _,g!,λj b=>O! b d!⟩ ?_;rintro⟨h,i⟩ ⟨c,g,d⟩;refine AC (λa=>?_) (λa=>AB λj=>d j (by have:=j.isLt;omega));obtain⟨k,rfl⟩:=EG c;rw[(by grind[xT,BitVec.toNat_ofNat]:ι .u32 (k:Y)=((BitVec.ofNat 32 k).toNat:Y)),AJg,AD];refine AA (De o! o!) λl e=>AA (De o! o!) λm f=>AB ?_;grind[AY,Xi]
def AF7{t:Fin (15+1)->(Ty.int IntKind.u32).D}(b:AEC t)(c:BitVec 32):G2 t (ι .u32 (((π ((κ 32 (c.toNat:Y))&&&(κ 32 15))):Q):Y))=Z ((oK 4 (c&&&15#32)).toNat:Y):=by
 rw[bvI,show κ 32 15=15#32 by decide,w32];have a:(c&&&15#32).toNat<16:=by exact Nat.lt_succ_of_le Nat.and_le_right
 unfold G2;rw[dif_pos o!];refine E! Z ((b ⟨(c&&&15#32).toNat,a⟩).trans ?_);grind
def AKO(c:BitVec 32):ι .u32 (((π ((κ 32 (Int.fdiv (c.toNat:Y) (2^(min (ο 4) 32))))^^^(κ 32 ((oK 4 (c&&&15#32)).toNat:Y)))):Q):Y)=((oK 4 c).toNat:Y):=by rw[fd4,bvI,bvI,AJI,w32]
def ACX:∀m n c,oK m (oK n c)=oK (m+n) c
 |0,n,c=>by rw[oK,DZ]
 |m+1,n,c=>by rw[oK,ACX m n,Nat.succ_add];rfl
def yP{x:Bd}(h:θ x<=2199023255552):O9 x=δ (QA x):=by
 unfold O9;have⟨t,f,a⟩:=AKf;rw[f,AD];have key:An (Ai (VT x t) (4294967295,0)) λr=>r=((x.foldl kN 4294967295#32).toNat:Y):=by refine AW (λ(s:Y×Y)=>0<=s.2/\s.2<=θ x/\s.1=(((x.take s.2.toNat).foldl kN 4294967295#32).toNat:Y)) (λs=>((θ x:Y)-s.2).toNat) ⟨Ae _,d!,rfl⟩ ?_;rintro⟨i,j⟩ ⟨d,g,e⟩;dsimp only at d g e;subst e;unfold VT;simp only[T];refine AC (λc=>?_) (λc=>AB (by rw[BM o!]));have⟨b,q1,q2⟩:=AFx d c;rw[q1,AD,AEc,AF7 a,AD,AD,AKO,AF7 a,AD,AD,AKO,AY];refine AB ⟨⟨o!,o!,?_⟩,o!⟩;rw[q2,Yc,ACX];rfl
 obtain⟨r,hr,rfl⟩:=key;rw[hr,AD,bvI];rw[show(κ 32 (if(η=ζ)then(-1)else(if(η=ζ)then((2^(32-1))-1)else((2^32)-1))))=4294967295#32 by decide,w32];rfl
def kE(n:Q):Bd:=ς n 0
def XM(c:Cj):Bd:=C4 (if c.1=E then(W c.2:Y)else 255) 1++(c.2++kE (12-W c.2))
def cl(a:GK 16 Cj)(i:Q):Cj:=(G2 a i).getD (X,[])
def PY(a:GK 16 Cj)(k:Q):Bd:=(List.range k).flatMap λi=>XM (cl a i)
def LQ(x:AS):Bd:=C4 x.2.1 8++(C4 x.1 4++(PY x.2.2 16++kE 24))
def IL(x:AS):Bd:=LQ x++(C4 (QA (LQ x)) 4++C4 x.2.1 8)
def nO{a}{i:Q}(h:i<16):G2 a (i:Y)=Z (cl a i)/\cl a i=a ⟨i,h⟩:=by
 have e:G2 a (i:Y)=Z (a ⟨i,h⟩):=by unfold G2;rw[dif_pos o!];rfl
 unfold cl;rw[e];exact⟨rfl,rfl⟩
theorem RM(a:GK 16 Cj)(k:Q):PY a (k+1)=PY a k++XM (cl a k):=by unfold PY;rw[List.range_succ,We,Ii,qQ,Dc]
def dz{c:Cj}(h:W c.2<=12):(XM c).length=13:=by unfold XM kE;rw[Aa,Aa,Az,Hi];omega
def Hh.cl{x}(h:Hh x)(i:Q):HA (cl x.2.2 i):=by rcases A0 i 16 with a|a;rw[(nO a).2];exact(h.2.2.2.2 _).1;unfold Go.Pm.cl G2;rw[dif_neg o!];exact⟨g!,.inr rfl⟩
theorem JZ{x:AS}(h:Hh x):∀k:Q,(PY x.2.2 k).length=13*k
 |0=>rfl
 |k+1=>by rw[RM,Aa,JZ h k,dz (h.cl k).1];omega
def HF{x}(h:Hh x):(LQ x).length=244:=by unfold LQ kE;simp only[Aa,Az,JZ h,Hi]
theorem eD{x}(h:Hh x):(IL x).length=256:=by unfold IL;simp only[Aa,Az,HF h]
def VN{x}:(IL x).take 8=C4 x.2.1 8:=by unfold IL LQ;rw[A3,Fi (Az _ _)]
def pF{x}(h:Hh x):(IL x).drop 248=C4 x.2.1 8:=by unfold IL;rw[<-A3,mK (by rw[Aa,HF h,Az])]
def nL(n:Q):E7 (ς n 0)=kE n:=by unfold E7 kE;rw[List.map_replicate];rfl
def yp{x:Y}(h:0<=x/\x<=16777216):HH x=Z (kE (ο x)):=by unfold HH Go.Ab.mk;rw[C! ⟨h.1,Ae _,h.2⟩,AD,nL]
def od{s:Bd}{n k:Y}(h:W s<=1099511627776)(a:1<=k/\k<=8):An (Ao (s,n,k)) λr=>r=s++C4 n (ο k):=⟨_,IE h a.1 a.2,rfl⟩
def tZ{x}(h:Hh x):D1 x=Z 0:=by have⟨a,g,c⟩:=Md (x:=x);have⟨b,i,d⟩:=Oc (x:=x);have e:a=E:=c.2 ⟨h.1,h.2.1,h.2.2.1,h.2.2.2.1⟩;have f:b=E:=d.2 h.2.2.2.2;unfold D1;rw[g,e,AD,i,f];rfl
theorem Yk{x}(h:Hh x):DQ x=Z (IL x,0):=by
 suffices g:An (DQ x) λr=>r=(IL x,0) by obtain⟨r,hr,rfl⟩:=g;exact hr
 unfold DQ;rw[tZ h,AD];refine AL (O! rfl ·) λ_=>AA (od g! g!) λL p=>AA (od (by rw[p];simp[Az]) g!) λG z=>?_;have w:G=C4 x.2.1 8++C4 x.1 4:=by rw[z,p];rfl
 refine AA (P:=λr=>r=C4 x.2.1 8++(C4 x.1 4++PY x.2.2 16)) ?_ λf d=>?_
 ·refine CQ (λs=>0<=s.2/\s.2<=16/\s.1=C4 x.2.1 8++(C4 x.1 4++PY x.2.2 s.2.toNat)) (λs=>(16-s.2).toNat) ⟨Ae _,u!,by rw[w];simp[PY]⟩ ?_;rintro⟨s,i⟩ ⟨u,C,g⟩;dsimp only at u C g;subst g;unfold SG;dsimp only;refine AC (λb=>?_) (λb=>k? (by rw[show i.toNat=16 by omega]));have⟨t,K⟩:=nO (a:=x.2.2) (i:=i.toNat) o!;rw[JW u]at t;have b:=(h.cl i.toNat).1;simp only[t,AD,AY (x:=i+1)];have J:(C4 x.2.1 8++(C4 x.1 4++PY x.2.2 i.toNat)).length<=300:=by simp only[Aa,Az,JZ h];omega
  refine AA (P:=λv=>v=if(cl x.2.2 i.toNat).1=E then((cl x.2.2 i.toNat).2.length:Y)else 255) ?_ λM A=>?_;exact AK (λb=>AB (C! b).symm) (λb=>AB (D! (by rw[b];decide)).symm);refine AA (od o! g!) λN q=>?_;have y:wi (12-T (cl x.2.2 i.toNat).2)=((12-(cl x.2.2 i.toNat).2.length:Q):Y):=by rw[AY i!];simp only[T];omega
  rw[y,yp o!,AD,CR];refine AA (CN (by simp only[kE,Hi];omega)) λn c=>?_;have D_:W n<=24:=by rw[c.2];simp only[kE,Hi];omega
  refine AA (CN (by rw[q,Aa,Az];simp only[Int.reduceToNat];omega)) λF k=>y! ⟨d!,d!,?_⟩ d!
  dsimp only;rw[k.1,c.1,q,A,show(i+1).toNat=i.toNat+1 by omega,RM];simp only[XM,A3,Int.reduceToNat]
 have E_:W f=220:=by rw[d];simp only[Aa,Az,JZ h]
 rw[show wi (244-T f)=24 by rw[AY i!];simp only[T];omega,yp g!,AD];refine AA (CN (by simp only[kE,Hi,Int.reduceToNat];omega)) λo l=>?_;have j:o=LQ x:=by rw[l.1,d];simp only[LQ,A3,Int.reduceToNat]
 rw[j,xc (by rw[HF h];decide),AD];have B:=aS (LQ x);rw[AY];refine AA (od (by rw[HF h];decide) g!) λH e=>AA (od (by rw[e,Aa,HF h,Az];decide) g!) λI m=>AB ?_;rw[m,e];simp only[IL,A3,Int.reduceToNat]
def ADA{c d}(e:HA c)(f:HA d)(h:XM c=XM d):c=d:=by obtain⟨g,l⟩:=c;obtain⟨i,m⟩:=d;obtain⟨j,b⟩:=Ei h (by rw[Az,Az]);have l1:=e.1;have l2:=f.1;dsimp only at l1 l2;have a:=YU (k:=1) g! ⟨λ_=>by dsimp only;split<;>omega,by dsimp only;split<;>omega,by dsimp only;split<;>omega⟩ ⟨λ_=>by dsimp only;split<;>omega,by dsimp only;split<;>omega,by dsimp only;split<;>omega⟩ j;dsimp only at a b;cases g<;>cases i;have:=e.2;have:=f.2;simp_all;exfalso;simp at a;omega;exfalso;simp at a;omega;simp at a;exact Da rfl (Ei b o!).1
def uN{x y}(a:Hh x)(b:Hh y):∀k:Q,PY x.2.2 k=PY y.2.2 k->∀i,i<k->cl x.2.2 i=cl y.2.2 i
 |0,_=>λi c=>O! c o!
 |k+1,h=>by rw[RM,RM]at h;obtain⟨d,e⟩:=Ei h (by rw[JZ a,JZ b]);intro i c;by_cases f:i=k;subst f;exact ADA (a.cl i) (b.cl i) e;exact uN a b k d i o!
theorem AEu{x y:AS}(a:Hh x)(b:Hh y)(h:IL x=IL y):x=y:=by obtain⟨h,_⟩:=Ei h (by rw[HF a,HF b]);obtain⟨c,h⟩:=Ei h (by rw[Az,Az]);obtain⟨d,h⟩:=Ei h (by rw[Az,Az]);obtain⟨e,_⟩:=Ei h (by rw[JZ a,JZ b]);have f:=a.1;have g:=a.2.1;have j:=a.2.2.1;have k:=a.2.2.2.1;have l:=b.1;have m:=b.2.1;have n:=b.2.2.1;have o:=b.2.2.2.1;refine Da (YU (by decide) ⟨λ_=>by omega,by omega,by omega⟩ ⟨λ_=>by omega,by omega,by omega⟩ d) (Da (YU (by decide) ⟨λ_=>by omega,by omega,by omega⟩ ⟨λ_=>by omega,by omega,by omega⟩ c) (funext λi=>?_));have:=uN a b 16 e i.val i.isLt;rw[(nO i.isLt).2,(nO i.isLt).2]at this;exact this
def vJ{s:Bd}{n k:Y}(h:W s<=1099511627776)(a:1<=k/\k<=8):O8 (s,n,k)=Z (s++C4 n (ο k)):=by grind[O8]
theorem ABW{n:Y}(h:0<=n/\n<=8000):LN ([0],n)=Z (kE (ο n)):=by unfold LN;dsimp only;rw[G! h.1,G! h.2];rfl
theorem ABf{n:Y}{k:Q}(hn:0<=n)(h:n<256^k)(a:n<9223372036854775808):rd (C4 n k)=n:=by unfold rd;grind[tQ,Int.emod_eq_of_lt,AY]
def AHT{b:Bd}{c:Cj}(h:W b<=1000)(i:W c.2<=12):Km b c=Z (b++XM c):=by
 suffices e:An (Km b c) λr=>r=b++XM c by obtain⟨r,hr,rfl⟩:=e;exact hr
 unfold Km;refine AA (P:=λv=>v=if c.1=E then(W c.2:Y)else 255) ?_ λj g=>?_;simp_all[AK,AB];rw[vJ o! g!,AD];refine AA (CN (by rw[Aa,Az];simp[Int.reduceToNat];omega)) λk d=>?_;rw[AY b!,ABW b!,AD];rw[(by simp only[T];omega:(12-T c.2).toNat=12-W c.2)];refine AA (CN (by rw[d.2,Aa,Az];simp[kE,Hi,Int.reduceToNat];omega)) λf a=>AB ?_;grind[XM,t?,Int.reduceToNat]
def AAI{x:Y}(h:0<=x/\x<64):IP x=Z E:=by grind[IP]
def ADf{x}(h:Hh x):W7 x=Z E:=by unfold W7;rw[AAI ⟨h.1,h.2.1⟩,AD,G! (show x.2.1>=0 from h.2.2.1),G! h.2.2.2.1];rfl
def AFc{x}(h:Hh x):VX x=Z E:=by
 suffices e:An (VX x) λr=>r=E by obtain⟨r,hr,rfl⟩:=e;exact hr
 unfold VX;refine AA (P:=λr=>r=.inr ()) ?_ λr hr=>by rw[hr];exact Ay (AB rfl)
 refine CQ (λs=>0<=s/\s<=16) (λs=>(16-s).toNat) ⟨Ae _,g!⟩ (λs d=>?_);have⟨g,k⟩:=d;unfold jT;refine AC (λa=>?_) (λ_=>k? rfl);have i:An (Z (Step.next (wi (s+1))):V (Step Y (R⊕Unit))) (MU (λs=>0<=s/\s<=16) (λs=>(16-s).toNat) (16-s).toNat λr=>r=.inr ()):=by grind[AY,y!]
 refine AA (De g a) λv f=>?_;have b:=h.2.2.2.2 ⟨s.toNat,o!⟩;rw[<-f]at b;refine AC (λa=>O! a (by have:=b.1.1;simp[T];omega)) (λ_=>AP (λc=>?_) (λj=>?_));refine AL (λhn=>O! (b.1.2.resolve_left (by rw[c];decide)) hn) (λ_=>AK (λa=>by rw[c]at a;cases a) (λ_=>i));simp_all[AK,AO]
def mf{x}(h:Hh x):Nd x=Z (IL x,0):=by
 suffices c:An (Nd x) λr=>r=(IL x,0) by obtain⟨r,hr,rfl⟩:=c;exact hr
 unfold Nd;rw[ADf h,AD,AFc h,AD,Bn,A!,A!,vJ g! g!,AD,vJ (by rw[B5,Az];decide) g!,AD];refine AA (P:=λr=>r=C4 x.2.1 8++(C4 x.1 4++PY x.2.2 16)) ?_ λb g=>?_
 ·refine CQ (λs=>0<=s.1/\s.1<=16/\s.2=C4 x.2.1 8++(C4 x.1 4++PY x.2.2 s.1.toNat)) (λs=>(16-s.1).toNat) ⟨Ae _,u!,by simp[PY]⟩ ?_;rintro⟨i,s⟩ ⟨f,m,c⟩;dsimp only at f m c;subst c;unfold eS;dsimp only;refine AC (λk=>?_) (λk=>k? (by rw[show i.toNat=16 by omega]));have⟨e,o⟩:=nO (a:=x.2.2) (i:=i.toNat) o!;rw[JW f]at e;rw[e,AD,AHT (by simp[Aa,Az,JZ h];omega) (h.cl i.toNat).1,AD,AY (x:=i+1)];refine y! ⟨d!,d!,?_⟩ d!
  dsimp only;rw[show(i+1).toNat=i.toNat+1 by omega,RM];simp[A3]
 have n:W b=220:=by grind[n?,Az,JZ]
 rw[show wi (244-T b)=24 by rw[AY b!];simp[T];omega,ABW g!,AD];refine AA (CN (by simp[kE,Hi,Int.reduceToNat];omega)) λd j=>?_;rw[(by grind[LQ,t?,Int.reduceToNat]:d=LQ x),yP (by rw[HF h];decide),AD];have l:=aS (LQ x);rw[AY,vJ (by rw[HF h];decide) g!,AD,vJ (by rw[Aa,HF h,Az];decide) g!,AD];grind[AB,IL,t?,Int.reduceToNat]
def uO(a:GK 16 Cj)(i:Q):∀k:Q,i<=k->∃r,PY a k=PY a i++r
 |0,h=>⟨[],by rw[show i=0 by omega];rfl⟩
 |k+1,h=>by by_cases e:i=k+1;exact⟨[],by rw[e,Dc]⟩;obtain⟨r,hr⟩:=uO a i k o!;exact⟨r++XM (cl a k),by rw[RM,hr,A3]⟩
def wb{x}(h:Hh x){i:Q}(a:i<16):∃A r,IL x=A++(XM (cl x.2.2 i)++r)/\W A=12+13*i:=by have⟨r,hr⟩:=uO x.2.2 (i+1) 16 o!;refine⟨C4 x.2.1 8++(C4 x.1 4++PY x.2.2 i),r++(kE 24++(C4 (QA (LQ x)) 4++C4 x.2.1 8)),?_,by simp[Aa,Az,JZ h];omega⟩;grind[IL,LQ,RM,t?]
def AB8{x a:GK 16 Cj}{i:Y}{c:Cj}(h:∀j:Fin 16,a j=if(j.val:Y)<i then x j else(X,[]))(e:0<=i/\i<16)(d:∀b,x ⟨ο i,b⟩=c):∀j:Fin 16,Xi a i c j=if(j.val:Y)<i+1 then x j else(X,[]):=by grind[Xi,Fin.ext]
def zG{x a:GK 16 Cj}{i:Y}(h:∀j:Fin 16,a j=if(j.val:Y)<i then x j else(X,[]))(d:0<=i/\i<16)(c:∀b,x ⟨ο i,b⟩=(X,[])):∀j:Fin 16,a j=if(j.val:Y)<i+1 then x j else(X,[]):=by grind[Fin.ext]
def yX{a t:Bd}{n k:Y}(h:(W a:Y)+W t<=2199023255552)(b:1<=k)(d:k<=8)(e:k<=W t)(g:t.take (ο k)=C4 n (ο k))(hn:0<=n)(f:n<256^ο k)(c:n<9223372036854775808):HQ (a++t,(W a:Y),k)=Z n:=by grind[HQ,YV,p?,ABf]
def AHb{x}(h:Hh x):XN (IL x)=Z (x,E):=by
 suffices C:An (XN (IL x)) λr=>r=(x,E) by obtain⟨r,hr,rfl⟩:=C;exact hr
 have l:=eD h;have O:=h.1;have S:=h.2.1;have Q:=h.2.2.1;have T:=h.2.2.2.1;have q1:HQ (IL x,8,4)=Z x.1:=by have:=yX (a:=C4 x.2.1 8) (t:=C4 x.1 4++(PY x.2.2 16++(kE 24++(C4 (QA (LQ x)) 4++C4 x.2.1 8)))) (n:=x.1) (k:=4) (by simp only[Aa,Az,JZ h,kE,Hi];omega) g! g! (by simp[Aa,Az];omega) (by exact Fi (Az _ _)) O (by simp[Int.reduceToNat];omega) o!;rw[Az]at this;rw[<-this];simp only[IL,LQ,A3];rfl
 have q2:HQ (IL x,0,8)=Z x.2.1:=by have:=yX (a:=[]) (t:=IL x) (n:=x.2.1) (k:=8) (by rw[l];decide) g! g! (by rw[l];decide) VN Q (by simp[Int.reduceToNat];omega) o!;exact this
 unfold XN;rw[q1,AD,q2,AD];refine AA (P:=λr=>∃z,r=.inr (x,z)) ?_ λr hr=>by obtain⟨z,rfl⟩:=hr;exact Ay (AB rfl)
 refine CQ (λs=>0<=s.1/\s.1<=16/\s.2.1.1=x.1/\s.2.1.2.1=x.2.1/\∀j:Fin 16,s.2.1.2.2 j=if(j.val:Y)<s.1 then x.2.2 j else(X,[])) (λs=>(16-s.1).toNat) ⟨Ae _,u!,rfl,rfl,λj=>by rw[D! d!];rfl⟩ ?_;rintro⟨i,⟨p,n,a⟩,z⟩ ⟨o,N,G,hn,f⟩;dsimp only at o N G hn f;subst G hn;unfold lM;dsimp only;refine AC (λg=>?_) (λg=>k? ⟨z,?_⟩)
 ·rw[AY (x:=i*13),AY (x:=12+i*13),AY (x:=12+i*13+1),AY (x:=i+1)];have⟨R,m⟩:=nO (a:=x.2.2) (i:=i.toNat) o!;obtain⟨A,r,B,K⟩:=wb h (i:=i.toNat) o!;have b:=h.cl i.toNat
  generalize L:cl x.2.2 i.toNat=c at*;have F:W A+(13+W r)=256:=by have:=l;rw[B,Aa,Aa,dz b.1]at this;exact this
  have e:HQ (IL x,12+i*13,1)=Z (if c.1=E then(W c.2:Y)else 255):=by have y:=b.1;have:=yX (a:=A) (t:=XM c++r) (n:=if c.1=E then(W c.2:Y)else 255) (k:=1) (by rw[Aa,dz b.1];omega) g! g! (by rw[Aa,dz b.1];omega) (by unfold XM;rw[t?];exact List.take_left' (Az _ _)) (by split<;>omega) (by simp[Int.reduceToNat];split<;>omega) (by split<;>omega);rw[<-B]at this;rw[<-this,K];congr 3;omega
  rw[e,AD];have H:∀q:GK 16 Cj,(∀j:Fin 16,q j=if(j.val:Y)<i+1 then x.2.2 j else(X,[]))->An (Z (Step.next (i+1,(x.1,x.2.1,q),z)):V (Step (Y×AS×AS) ((Bool×AS)⊕(AS×AS)))) (MU (λs=>0<=s.1/\s.1<=16/\s.2.1.1=x.1/\s.2.1.2.1=x.2.1/\∀j:Fin 16,s.2.1.2.2 j=if(j.val:Y)<s.1 then x.2.2 j else(X,[])) (λs=>(16-s.1).toNat) (16-i).toNat λr=>∃z,r=.inr (x,z)):=λq w=>y! ⟨d!,d!,rfl,rfl,w⟩ d!
  by_cases d:c.1=E;rw[C! d];have y:=b.1;rw[beq_eq_false_iff_ne.2 o!,A!,F! o!,A!,AY];obtain⟨s,C,D_⟩:=CW (s:=IL x) (lo:=12+i*13+1) (hi:=12+i*13+1+(W c.2:Y)) o! o! (by rw[l];omega);have E_:s=c.2:=by
   rw[D_.1,B];have I:(12+i*13+1).toNat=W A+1:=o!
   have J:(12+i*13+1+(W c.2:Y)).toNat-(12+i*13+1).toNat=W c.2:=o!
   rw[J,I,<-LK,Rn];unfold XM;rw[C! d,A3,mK (Az _ _),A3,Yr]
  rw[C,E_,AD];have u:∃v,G2 a i=Z v:=by obtain⟨v,m,_⟩:=De (a:=a) o g;exact⟨v,m⟩
  have⟨v,u⟩:=u;rw[u,AD,AD,AD,Sum.elim_inl];exact H _ (AB8 f ⟨o,g⟩ λM=>m.symm.trans (Da d rfl));rw[D! d,beq_iff_eq.2 rfl,B!,AD,Sum.elim_inl];exact H _ (zG f ⟨o,g⟩ λM=>m.symm.trans (Da (by simpa using d) (b.2.resolve_left d)))
 refine E! Sum.inr (Da (Da rfl (Da rfl (funext λj=>?_))) rfl);exact(f j).trans (C! o!)
theorem ACO{x:AS}(h:Hh x)(hn:x.2.1≠0):IL x≠kE 256:=λe=>hn (by have:=congrArg (List.take 8) e;rw[VN]at this;have a:=h.2.2.1;have b:=h.2.2.2.1;exact YU (k:=8) (by decide) ⟨λ_=>by omega,by omega,by omega⟩ ⟨λ_=>by omega,by omega,by omega⟩ (this.trans (by decide)))
theorem AAD:YE ()=Z (kE 256):=by grind[YE,ABW]
theorem ADZ{x}(h:Hh x)(hn:x.2.1≠0):QP (IL x)=Z (x,0):=by
 have b:=eD h;unfold QP;have⟨m,q1,d⟩:=CW (s:=IL x) (lo:=0) (hi:=8) g! g! (by rw[b];decide);have⟨j,q2,e⟩:=CW (s:=IL x) (lo:=248) (hi:=256) g! g! (by rw[b];decide);have⟨l,q3,f⟩:=CW (s:=IL x) (lo:=0) (hi:=244) g! g! (by rw[b];decide);have g:j=C4 x.2.1 8:=by rw[e.1];show List.take 8 (List.drop 248 (IL x))=_;rw[pF h,BM (by rw[Az];exact Al _)]
 have i:l=LQ x:=f.1.trans (by show List.take 244 (IL x)=_;unfold IL;exact Fi (HF h));have c:=aS (LQ x);have q4:HQ (IL x,244,4)=Z (QA (LQ x)):=by have:=yX (a:=LQ x) (t:=C4 (QA (LQ x)) 4++C4 x.2.1 8) (n:=QA (LQ x)) (k:=4) (by simp only[Aa,Az,HF h];decide) g! g! (by simp only[Aa,Az];decide) (Fi (Az _ _)) o! (by simp[Int.reduceToNat];omega) o!;rw[HF h]at this;exact this
 rw[(by simp[T];omega:T (IL x)=256),H!,A!,AAD,AD,beq_eq_false_iff_ne.2 (ACO h hn),A!,q1,AD,q2,AD,d.1.trans VN,g,H!,A!,q3,AD,i,q4,AD,yP (by rw[HF h];decide),AD,AY,H!,A!,AHb h,AD,mf h,AD,H!,H!];rfl
def eC(x:AS):Bd:=if x.2.1=0 then kE 256 else IL x
theorem AFV{x}(h:Hh x)(a:x.2.1=0->x=(x.1,0,GK.all (X,[]))):Gd (eC x,x.1)=Z (x,0):=by unfold Gd eC;rw[AAI ⟨h.1,h.2.1⟩,AD,Bn,A!];by_cases hn:x.2.1=0;rw[C! hn];rw[(by grind[QP,kE,List.length_replicate,AAD,p?]:QP (kE 256)=Z ((0,0,GK.all (X,[])),7)),AD];exact E! (λq=>Z (q,(0:Y))) (a hn).symm;grind[ADZ,p?]
def HZ(p:Bd):Bd:=C4 (W p:Y) 4++(p++C4 (QA (C4 (W p:Y) 4++p)) 4)
theorem EQ(p:Bd):(HZ p).length=W p+8:=by grind[HZ,n?,Az]
theorem cj{p:Bd}(h:W p<=8392):Dj p=Z (HZ p):=by
 unfold Dj;simp only[T];rw[F! o!,A!,IE q! g! g!,AD,B5];have b:(C4 (W p:Y) 4++p).length=W p+4:=by grind[n?,Az]
 rw[(by grind[sapp,Az]:sapp (C4 (W p:Y) (ο 4)) p=Z (C4 (W p:Y) 4++p)),AD,xc o!,AD];have a:=aS (C4 (W p:Y) 4++p);rw[AY,IE o! g! g!,AD,A3];rfl
def UF(al:Q)(t:Bd):Bd×Y×Y:=
 if W t<4 then([],0,5)else
 if rd (t.take 4)>8392 then([],0,2)else
 if(W t:Y)<rd (t.take 4)+8 then([],0,5)else
 if rd ((t.drop (4+(rd (t.take 4)).toNat)).take 4)≠QA (t.take (4+(rd (t.take 4)).toNat))then([],0,3)else
 ((t.drop 4).take (rd (t.take 4)).toNat,(al:Y)+8+rd (t.take 4),0)
def rd4{t:Bd}(h:4<=W t):0<=rd (t.take 4)/\rd (t.take 4)<4294967296:=by
 have a:(t.take 4).length=4:=by rw[BP];omega
 have:=(ABe (l:=t.take 4) o!).1 o!;rw[a]at this;exact this
theorem To{a t:Bd}(h:(W a:Y)+W t<=2199023255552):Bk (a++t,(W a:Y))=Z (UF (W a) t):=by
 have b:T (a++t)=(W a:Y)+W t:=by grind[n?]
 have o:((a++t).length:Y)=(W a:Y)+W t:=b;unfold Bk UF;dsimp only;rw[F! o!,A!,F! o!,A!,kH h g! g!];by_cases g:W t<4;rw[D! o!,C! g];rfl;rw[C! o!,D! g,AD,show ο 4=4 from rfl];have⟨p,u⟩:=rd4 (t:=t) o!;generalize hn:rd (t.take 4)=n at*;obtain⟨m,rfl⟩:=EG p;rw[show((0:Y) !=0)=X by decide,A!];by_cases d:(m:Y)>8392;rw[G! d,B!,C! d];rw[F! d,A!,D! d,b,AY,AY];by_cases i:(W t:Y)<(m:Y)+8;rw[G! o!,B!,C! i];rw[F! o!,A!,D! i,CR];have f:wi (wi ((W a:Y)+4)+(m:Y))=((a++t.take (4+m)).length:Y):=by rw[AY (x:=(W a:Y)+4),AY,Aa,BP];omega
 have j:a++t=(a++t.take (4+m))++t.drop (4+m):=by rw[A3,DG]
 have s:((t.drop (4+m)).length:Y)=W t-(4+m):=by rw[C5];omega
 have c:((a++t.take (4+m)).length:Y)=W a+4+m:=by rw[Aa,BP];omega
 have l:A2 (a++t,wi (wi ((W a:Y)+4)+(m:Y)),4)=Z (rd ((t.drop (4+m)).take 4),0):=by
  rw[f];conv=>lhs;rw[j]
  rw[kH o! g! g!,C! o!];rfl
 have q:R4 (a++t) (W a:Y) (wi (wi ((W a:Y)+4)+(m:Y)))=Z (t.take (4+m)):=by unfold R4;rw[f,C! o!,c,CR,Rn,show((W a:Y)+4+m).toNat-W a=4+m by omega]
 have r:R4 (a++t) (wi ((W a:Y)+4)) (wi (wi ((W a:Y)+4)+(m:Y)))=Z ((t.drop 4).take m):=by unfold R4;rw[f,AY (x:=(W a:Y)+4),C! o!,c,show((W a:Y)+4).toNat=W a+4 by omega,Yb,Ro o!,B5,Tr,show((W a:Y)+4+m).toNat-(W a+4)=m by omega]
 rw[l,AD,q,AD,xc (by rw[BP];omega),AD,r];have⟨q1,q2⟩:=rd4 (t:=t.drop (4+m)) o!;have k:ι .u32 (rd ((t.drop (4+m)).take 4))=rd ((t.drop (4+m)).take 4):=by rw[xT];omega
 rw[k];by_cases e:rd ((t.drop (4+m)).take 4)=QA (t.take (4+m));rw[D! (by simp[e]),e,H!,A!,AD,AY (x:=(W a:Y)+8),AY];rw[C! e,bne_iff_ne.2 e,B!]
theorem AFU{x:Bd}{i:Y}(a:0<=i)(h:i>W x):B0 (x,i,4)=Z (0,5):=by grind[B0]
theorem XY{a t:Bd}(h:(W a:Y)+W t<=2199023255552):Dq (a++t,(W a:Y))=Z (UF (W a) t):=by
 have f:T (a++t)=(W a:Y)+W t:=by grind[n?]
 have p:((a++t).length:Y)=(W a:Y)+W t:=f;unfold Dq UF;dsimp only;rw[F! o!,A!,F! o!,A!,YV h g! g!];by_cases i:W t<4;rw[D! o!,C! i];rfl;rw[C! o!,D! i,AD,show ο 4=4 from rfl];have⟨q,w⟩:=rd4 (t:=t) o!;generalize hn:rd (t.take 4)=n at*;obtain⟨m,rfl⟩:=EG q;rw[show((0:Y) !=0)=X by decide,A!];by_cases d:(m:Y)>8392;rw[G! d,B!,C! d];rw[F! d,A!,D! d];have k:wi (wi ((W a:Y)+4)+(m:Y))=(W a:Y)+4+m:=by grind[AY]
 by_cases j:(W t:Y)<(m:Y)+8;rw[C! j];have:B0 (a++t,wi (wi ((W a:Y)+4)+(m:Y)),4)=Z (0,5):=by
  rw[k];by_cases v:(W a:Y)+4+m>(a++t).length;grind[AFU];have c:(W a:Y)+4+m=((a++t.take (4+m)).length:Y):=by grind[n?,r?]
  have g:a++t=(a++t.take (4+m))++t.drop (4+m):=by rw[A3,DG]
  grind[List.length_drop,YV]
 rw[this];rfl;rw[D! j,CR];have c:wi (wi ((W a:Y)+4)+(m:Y))=((a++t.take (4+m)).length:Y):=by grind[n?,r?]
 have g:a++t=(a++t.take (4+m))++t.drop (4+m):=by rw[A3,DG]
 have u:((t.drop (4+m)).length:Y)=W t-(4+m):=by rw[C5];omega
 have b:((a++t.take (4+m)).length:Y)=W a+4+m:=by rw[Aa,BP];omega
 have l:B0 (a++t,wi (wi ((W a:Y)+4)+(m:Y)),4)=Z (rd ((t.drop (4+m)).take 4),0):=by
  rw[c];conv=>lhs;rw[g]
  rw[YV o! g! g!,C! o!];rfl
 have r:R4 (a++t) (W a:Y) (wi (wi ((W a:Y)+4)+(m:Y)))=Z (t.take (4+m)):=by unfold R4;rw[c,C! o!,b,CR,Rn,show((W a:Y)+4+m).toNat-W a=4+m by omega]
 have s:R4 (a++t) (wi ((W a:Y)+4)) (wi (wi ((W a:Y)+4)+(m:Y)))=Z ((t.drop 4).take m):=by unfold R4;rw[c,AY (x:=(W a:Y)+4),C! o!,b,show((W a:Y)+4).toNat=W a+4 by omega,Yb,Ro o!,B5,Tr,show((W a:Y)+4+m).toNat-(W a+4)=m by omega]
 rw[l,AD,show(((rd ((t.drop (4+m)).take 4),(0:Y)):Y×Y).2 !=0)=X from rfl,A!,r,AD,yP (by rw[BP];omega),AD,s];have o:=aS (t.take (4+m));rw[AY (x:=QA (t.take (4+m)))];by_cases e:rd ((t.drop (4+m)).take 4)=QA (t.take (4+m));rw[D! (by simp[e]),e,H!,A!,AD,k,AY];refine E! Z (Da rfl (Da ?_ rfl));dsimp only;omega;rw[C! e,bne_iff_ne.2 e,B!]
def zB{a}{t}(h:(UF a t).2.2=0):(UF a t).1.length<=8392/\(∃c,t=HZ (UF a t).1++c)/\(UF a t).2.1=(a:Y)+8+(UF a t).1.length:=by
 unfold UF at h⊢;by_cases j:W t<4;rw[C! j]at h;exact O! h g!;rw[D! j]at h⊢;obtain⟨q,r⟩:=rd4 (t:=t) o!;by_cases k:rd (t.take 4)>8392;rw[C! k]at h;exact O! h g!;rw[D! k]at h⊢;by_cases o:(W t:Y)<rd (t.take 4)+8;rw[C! o]at h;exact O! h g!;rw[D! o]at h⊢;by_cases b:rd ((t.drop (4+(rd (t.take 4)).toNat)).take 4)≠QA (t.take (4+(rd (t.take 4)).toNat));rw[C! b]at h;exact O! h g!;rw[D! b]at h⊢;have b:=Decidable.not_not.1 b;dsimp only;have e:(t.take 4).length=4:=by rw[BP];omega
 have g:C4 (rd (t.take 4)) 4=t.take 4:=by have:=yG (l:=t.take 4) o!;rwa[e]at this
 generalize hn:rd (t.take 4)=n at*;obtain⟨m,rfl⟩:=EG q;rw[CR]at b⊢;have i:((t.drop 4).take m).length=m:=by rw[BP,C5];omega
 refine⟨o!,?_,o!⟩;have p:t.take (4+m)=C4 (m:Y) 4++(t.drop 4).take m:=by rw[List.take_add,g]
 have f:((t.drop (4+m)).take 4).length=4:=by rw[BP,C5];omega
 have d:C4 (QA (t.take (4+m))) 4=(t.drop (4+m)).take 4:=by rw[<-b];have:=yG (l:=(t.drop (4+m)).take 4) o!;rwa[f]at this
 refine⟨t.drop (4+m+4),?_⟩;unfold HZ;rw[i,<-p,d,<-A3,<-p];conv=>lhs;rw[<-DG (4+m) t,<-DG 4 (t.drop (4+m)),LK]
 rw[A3]
theorem kJ{c}{p a:Bd}(h:W p<=8392):UF c (HZ p++a)=(p,(c:Y)+8+W p,0):=by
 have d:ck 4 (W p:Y):=⟨λ_=>⟨o!,by rw[show(256:Y)^4=4294967296 by decide];omega⟩,o!⟩
 have e:=aS (C4 (W p:Y) 4++p);have b:ck 4 (QA (C4 (W p:Y) 4++p)):=⟨λ_=>⟨o!,by rw[show(256:Y)^4=4294967296 by decide];omega⟩,o!⟩
 unfold UF;rw[(by grind[HZ,t?,List.take_left',Az]:(HZ p++a).take 4=C4 (W p:Y) 4),rV g! d,CR,(by grind[HZ,t?,List.take_left',n?,Az]:(HZ p++a).take (4+W p)=C4 (W p:Y) 4++p),(by grind[HZ,t?,List.drop_left',n?,Az]:(HZ p++a).drop (4+W p)=C4 (QA (C4 (W p:Y) 4++p)) 4++a),(by grind[HZ,t?,List.drop_left',Az]:(HZ p++a).drop 4=p++(C4 (QA (C4 (W p:Y) 4++p)) 4++a)),(by rw[Aa,(EQ p)]:(HZ p++a).length=W p+8+W a),D! o!,D! o!,D! o!,Fi (Az _ _),rV g! b,D! q!,Fi rfl]
def CI(b:Ds):Prop:=W b.1<=1099511627776/\0<=b.2.1/\b.2.1<=W b.1
def N9{b}{x:Y}(h:CI b)(c:0<=x/\x<=8):An (BW b x) λr=>CI r.2/\(x<=4->0<=r.1/\r.1<4294967296):=by
 unfold BW;unfold CI at*
 exact x!
def Oe{b}{x:Y}(h:CI b)(d:0<=x/\x<=4294967296):An (C3 b x) λr=>CI r.2:=by
 unfold C3;unfold CI at*
 exact x!
def XQ{b}{x}(h:CI b):An (Cr b x) λr=>CI r.2:=by
 unfold Cr;exact x!
theorem bk{x:Bd}(h:W x<=1099511627776):An (D9 x) λr=>r.2=0->MZ r.1:=by
 unfold D9;have b:CI (x,0,0):=⟨h,q!,q!⟩
 exact x!
def Xv{x:Bd×U Y}{s:Bd×Y}(h:0<=s.2/\s.2<=θ x.2/\θ x.2<=16777216/\θ x.1<=1073741824/\(θ s.1:Y)<=θ x.1+8*s.2):An (Ai (Lc x) s) λr=>(θ r:Y)<=θ x.1+8*θ x.2:=by
 refine AW (λ(s:Bd×Y)=>0<=s.2/\s.2<=θ x.2/\θ x.2<=16777216/\θ x.1<=1073741824/\(θ s.1:Y)<=θ x.1+8*s.2) (λ(s:Bd×Y)=>((θ x.2:Y)-s.2).toNat) h (λs b=>?_);unfold Lc;exact x!
def aA{x:Bd×S Y}(h:W x.2<=16777216/\W x.1<=1073741824):An (Hw x) λr=>(W r:Y)<=W x.1+8*W x.2:=by
 unfold Hw;exact x!
def YP{x:U Ap}{s:Bd×Y}(h:0<=s.2/\s.2<=θ x/\Zm x/\(θ s.1:Y)<=10+40000*s.2):An (Ai (Mj x) s) λr=>(θ r:Y)<=10+40000*θ x:=by
 refine AW (λ(s:Bd×Y)=>0<=s.2/\s.2<=θ x/\Zm x/\(θ s.1:Y)<=10+40000*s.2) (λ(s:Bd×Y)=>((θ x:Y)-s.2).toNat) h (λs c=>?_);unfold Mj;have⟨e,f,⟨b,a⟩,g⟩:=c;repeat' with_reducible first|intro d|apply AC|apply AK|apply AB|(refine AM ?_ (Dk ?_);intro r hr)|(refine AM ?_ (aA ?_);intro r hr)|(refine AM ?_ (AI ?_ ?_);rintro r ⟨hr,i⟩)
 all_goals try (have j:=a _ _ v!)
 all_goals try unfold VTx at*
 all_goals dsimp[T]at*
 all_goals first|omega|(refine⟨⟨?_,?_,⟨b,a⟩,?_⟩,?_⟩<;>(simp (disch:=omega) only[AY];omega))|grind
def TM{x}:An (K3 x) λr=>W r.1<=16777216:=by
 unfold K3;exact x!
def CJ(b:CG):Prop:=W b.1<=1099511627776/\0<=b.2.1/\b.2.1<=W b.1
def GQ{b}{x:Y}(h:CJ b)(c:0<=x/\x<=8):An (Cg b x) λr=>CJ r.2/\(x<=2->0<=r.1/\r.1<65536):=by
 unfold Cg;unfold CJ at*
 exact x!
def Vb  {s:Y×U Y×CG}(h:0<=s.1/\s.1+θ s.2.1<=65536/\CJ s.2.2):An (Ai (Jb) s) λr=>CJ r.2/\θ r.1<=65536:=by
 refine AW (λ(s:Y×U Y×CG)=>0<=s.1/\s.1+θ s.2.1<=65536/\CJ s.2.2) (λ(s:Y×U Y×CG)=>s.1.toNat) h (λs c=>?_);unfold Jb;exact x!
def XS{b}{x:Y}(h:CJ b)(a:0<=x/\x<=2):An (GJ b x) λr=>CJ r.2:=by
 unfold GJ;exact x!
def YO  {s:Y×U Ap×CG}(h:0<=s.1/\s.1+θ s.2.1<=65536/\CJ s.2.2):An (Ai (Mi) s) λr=>CJ r.2/\θ r.1<=65536:=by
 refine AW (λ(s:Y×U Ap×CG)=>0<=s.1/\s.1+θ s.2.1<=65536/\CJ s.2.2) (λ(s:Y×U Ap×CG)=>s.1.toNat) h (λs c=>?_);unfold Mi;exact x!
def TL{x:Bd}(h:W x<=1099511627776):An (K2 x) λr=>W r.1<=65536/\(r.2=0->Zm r.1):=by
 unfold K2;have b:CJ (x,0,X):=⟨h,q!,q!⟩
 exact x!
def YN{x:By}{s:Bd×Y}(h:0<=s.2/\s.2<=θ x/\θ x<=64/\(θ s.1:Y)<=10+24*s.2):An (Ai (Iz x) s) λr=>θ r<=2000:=by
 refine AW (λ(s:Bd×Y)=>0<=s.2/\s.2<=θ x/\θ x<=64/\(θ s.1:Y)<=10+24*s.2) (λ(s:Bd×Y)=>((θ x:Y)-s.2).toNat) h (λs b=>?_);unfold Iz;exact x!
def TK{x}:An (IX x) λr=>W r.1<=2000:=by
 unfold IX;exact x!
def YM{x:Bd}{a:Y×Y}{s:Y×U Be}(h:0<=s.1/\s.1<=a.1/\a.1<=65536/\θ x<=1099511627776/\θ s.2<=s.1):An (Ai (Iy x a) s) λr=>θ r<=65536:=by
 refine AW (λ(s:Y×U Be)=>0<=s.1/\s.1<=a.1/\a.1<=65536/\θ x<=1099511627776/\θ s.2<=s.1) (λ(s:Y×U Be)=>(a.1-s.1).toNat) h (λs d=>?_);unfold Iy;exact x!
def TJ{x:Bd}(h:W x<=1099511627776):An (Ep x) λr=>(r.2=0->na r.1)/\W r.1<=65536:=by
 unfold Ep;exact x!
def RV{x:Cd}{s:Y}(h:0<=s/\s<=θ x.2.2.1/\(θ x.2.2.1:Y)<=16777216):An (Ai (N2 x) s) λr=>r≠.inl ζ:=by
 refine AW (λ(s:Y)=>0<=s/\s<=θ x.2.2.1/\(θ x.2.2.1:Y)<=16777216) (λ(s:Y)=>((θ x.2.2.1:Y)-s).toNat) h (λs b=>?_);unfold N2;exact x!
def tn(x:Cd):Prop:=1<=x.1/\x.1<=64/\Zm x.2.2.1/\na x.2.2.2.2/\W x.2.2.2.2=x.1
def Oq{x:Cd}(h:W x.2.2.2.1<=16777216):An (HM x) λr=>r=E->tn x:=by
 unfold HM tn
 exact x!
def YS{x:Cd}{s:Bd×Y}(h:0<=s.2/\s.2<=θ x.2.2.2.1/\θ x.2.2.2.1<=16777216/\(θ s.1:Y)<=100000000+24*s.2):An (Ai (I1 x) s) λr=>θ r<=1073741824:=by
 refine AW (λ(s:Bd×Y)=>0<=s.2/\s.2<=θ x.2.2.2.1/\θ x.2.2.2.1<=16777216/\(θ s.1:Y)<=100000000+24*s.2) (λ(s:Bd×Y)=>((θ x.2.2.2.1:Y)-s.2).toNat) h (λs b=>?_);unfold I1;exact x!
def cI{x:Cd}(h:W x.2.2.2.1<=16777216):An (Gs x) λr=>W r.1<=2147483648:=by
 unfold Gs;exact x!
def VL(c:Cj):Bd:=bif c.1 then C4 (W c.2:Y) 1++c.2 else C4 255 1
def B3(e:AE):Bd:=
 C4 e.1 8++(C4 e.2.1 1++(C4 e.2.2.1 4++(C4 e.2.2.2.1 8++(C4 e.2.2.2.2.1 8++(C4 e.2.2.2.2.2.1 8++(C4 e.2.2.2.2.2.2.1.1 4++(C4 e.2.2.2.2.2.2.1.2.1 1++
 (VL e.2.2.2.2.2.2.1.2.2.1++(VL e.2.2.2.2.2.2.1.2.2.2++(C4 (W e.2.2.2.2.2.2.2:Y) 4++e.2.2.2.2.2.2.2))))))))))
theorem k9{c}(h:HA c):(VL c).length<=13:=by
 unfold VL;cases c.1 with
 |true=>rw[B!,Aa,Az];have:=h.1;omega
 |false=>grind[Az]
def ACE{s:Bd}{c:Cj}(h:W s<=1099511627776)(a:W c.2<=8192):GV (s,c)=Z (s++VL c):=by grind[GV,VL,Bool.not_false,IE,Bool.not_true,sapp,C4,ο,n?,Az,t?]
def MZ.cells{e}(h:MZ e):HA e.2.2.2.2.2.2.1.2.2.1/\HA e.2.2.2.2.2.2.1.2.2.2/\W e.2.2.2.2.2.2.2<=8192/\ck 8 e.1/\ck 1 e.2.1/\ck 4 e.2.2.1/\ck 8 e.2.2.2.1/\ck 8 e.2.2.2.2.1/\ck 8 e.2.2.2.2.2.1/\ck 4 e.2.2.2.2.2.2.1.1/\ck 1 e.2.2.2.2.2.2.1.2.1:=by
 have⟨a1,a2,a3,a4,a5,a6,a7,a8,j⟩:=h;have k:∀n:Y,0<=n->n<=1099511627776->ck 8 n:=λn l m=>⟨n!,o!⟩
 have p:∀n:Y,0<=n->n<=1073741824->ck 4 n:=λn l m=>⟨λ_=>by rw[show(256:Y)^4=4294967296 by decide];omega,o!⟩
 have o:∀n:Y,0<=n->n<=255->ck 1 n:=λn l m=>⟨λ_=>by rw[show(256:Y)^1=256 by decide];omega,o!⟩
 have z:HA (X,[]):=⟨g!,.inr rfl⟩
 refine and_assoc.1 (and_assoc.1 ⟨?_,k _ o! o!,?_⟩);rcases j with⟨k1,f,d,g,c,a⟩|⟨k1,f,d,g,c,a,i,b⟩|⟨k1,f,d,g,c,a,i,b⟩|⟨k1,f,d,g,c,a,i⟩|j;exact⟨⟨a.2.2.2.2.1,a.2.2.2.2.2⟩,by rw[d];decide⟩;exact⟨⟨b.2.2.2.2.1,b.2.2.2.2.2⟩,by rw[c];decide⟩;rw[c,a];exact⟨⟨z,z⟩,g!⟩;rw[a];exact⟨⟨z,z⟩,i⟩;have⟨k1,f,d,g,c,a,i,b⟩:=j;rw[i,b];exact⟨⟨z,z⟩,g!⟩;have q:1<=e.2.1/\e.2.1<=8/\0<=e.2.2.1/\e.2.2.1<=1073741824/\0<=e.2.2.2.2.2.2.1.1/\e.2.2.2.2.2.2.1.1<64/\0<=e.2.2.2.2.2.2.1.2.1/\e.2.2.2.2.2.2.1.2.1<16:=by rcases j with⟨k1,f,d,g,c,a⟩|⟨k1,f,d,g,c,a,i,b⟩|⟨k1,f,d,g,c,a,i,b⟩|⟨k1,f,d,g,c,a,i⟩|j;have:=a.1;have:=a.2.1;have:=a.2.2.1;have:=a.2.2.2.1;omega;have:=b.1;have:=b.2.1;have:=b.2.2.1;have:=b.2.2.2.1;omega;grind[Qj];grind[Qj];grind[Qj]
 exact⟨o _ o! o!,p _ o! o!,k _ o! o!,k _ o! o!,k _ o! o!,p _ o! o!,o _ o! o!⟩
theorem S8{e}(h:MZ e):(B3 e).length<=8392:=by have⟨a,b,c,_⟩:=h.cells;grind[k9,B3,n?,Az]
theorem rf{e}(h:MZ e):Fk e=Z (B3 e,0):=by have⟨c,d,i,_⟩:=h.cells;have l1:=k9 c;have l2:=k9 d;have⟨b,f,g⟩:=Cc (x:=e);have a:b=E:=g.2 h;subst a;unfold Fk;rw[f,AD,Bn,A!];rw[IE q! g! g!,AD,B5];rw[IE (by simp only[Aa,Az];simp only[Int.reduceToNat];omega) g! g!,AD];rw[IE (by simp only[Aa,Az];simp only[Int.reduceToNat];omega) g! g!,AD];rw[IE (by simp only[Aa,Az];simp only[Int.reduceToNat];omega) g! g!,AD];rw[IE (by simp only[Aa,Az];simp only[Int.reduceToNat];omega) g! g!,AD];rw[IE (by simp only[Aa,Az];simp only[Int.reduceToNat];omega) g! g!,AD];rw[IE (by simp only[Aa,Az];simp only[Int.reduceToNat];omega) g! g!,AD];rw[IE (by simp only[Aa,Az];simp only[Int.reduceToNat];omega) g! g!,AD];rw[ACE (by simp only[Aa,Az];simp only[Int.reduceToNat];omega) (by have:=c.1;omega),AD];rw[ACE (by simp only[Aa,Az];simp[Int.reduceToNat];omega) (by have:=d.1;omega),AD];rw[IE (by simp only[Aa,Az];simp[Int.reduceToNat];omega) g! g!,AD];unfold sapp;rw[C! (by simp only[Aa,Az];simp[Int.reduceToNat];omega),AD];simp[A3];rfl
def CS(x p:Bd)(c:Bd×Y×Y):Prop:=c.1=x/\(c.2.2=0->∃rest,x=p++rest/\c.2.1=W p)
def tf{t:Bd}{k:Q}(h:k<=W t)(a:k<=8):ck k (rd (t.take k))/\C4 (rd (t.take k)) k=t.take k:=by grind[r?,ABe,yG]
def cX{x p}{c}{k:Q}(h:CS x p c)(o:W x<=1099511627776)(q:1<=k)(m:k<=8):An (BW c (k:Y)) λr=>CS x (p++C4 r.1 k) r.2/\(r.2.2.2=0->ck k r.1)/\(c.2.2≠0->r=(0,c)):=by have⟨s,l,e⟩:=c;have⟨g,i⟩:=h;dsimp only at g i;subst g;unfold BW;refine AL (λd=>AB ⟨⟨rfl,λb=>O! b d⟩,λb=>O! b d,λ_=>rfl⟩) (λd=>?_);dsimp only at d;subst d;have⟨a,hr,n⟩:=i rfl;subst hr n;rw[Aa]at o;rw[kH o! o! o!];by_cases j:(k:Y)<=W a;rw[C! j,AD,CR];have⟨q1,q2⟩:=tf (t:=a) (k:=k) o! m;rw[show((0:Y) !=0)=X by decide,A!];refine AB ⟨⟨rfl,λ_=>⟨a.drop k,?_,?_⟩⟩,λ_=>q1,λf=>O! rfl f⟩;grind[t?,List.take_append_drop];grind[AY,n?,Az];rw[D! j,AD];rw[show((5:Y) !=0)=E by decide,B!];exact AB ⟨⟨rfl,λb=>O! (show(5:Y)=0 from b) g!⟩,λb=>O! (show(5:Y)=0 from b) g!,λf=>O! rfl f⟩
def AFm{x p}{c}{n:Y}(h:CS x p c)(k:W x<=1099511627776)(hn:c.2.2=0->0<=n/\n<4294967296):An (C3 c n) λr=>CS x (p++r.1) r.2/\(r.2.2.2=0->(W r.1:Y)=n/\c.2.2=0):=by have⟨s,g,e⟩:=c;have⟨d,f⟩:=h;dsimp only at d f hn;subst d;unfold C3;by_cases j:e=0;subst j;have⟨a,hr,i⟩:=f rfl;have⟨l,q⟩:=hn rfl;subst hr i;obtain⟨m,rfl⟩:=EG l;rw[Aa]at k;rw[show((0:Y) !=0)=X by decide,A!];simp only[T];rw[show wi (((p++a).length:Y)-(W p:Y))=W a by rw[Aa,AY];omega];by_cases o:(m:Y)<=W a;rw[F! o!,A!];rw[(by grind[AY,R4,n?,List.drop_left]:R4 (p++a) (wi (wi ((W p:Y)+(m:Y))-(m:Y))) (wi ((W p:Y)+(m:Y)))=Z (a.take m)),AD];refine AB ⟨⟨rfl,λ_=>⟨a.drop m,?_,?_⟩⟩,λ_=>⟨?_,by first|rfl|trivial⟩⟩;grind[t?,List.take_append_drop];grind[AY,n?,r?];grind[r?];rw[G! o!,B!];exact AB ⟨⟨rfl,λb=>O! (show(5:Y)=0 from b) g!⟩,λb=>O! (show(5:Y)=0 from b) g!⟩;grind[AB]
def AFj{x p}{c}(h:CS x p c)(i:W x<=1099511627776):An (Cr c ()) λr=>CS x (p++VL r.1) r.2/\(r.2.2.2=0->HA r.1):=by unfold Cr;refine AA (cX (k:=1) h i g! g!) λv n=>?_;have⟨⟨f,j⟩,q,y⟩:=n;refine AL (λd=>AB ⟨⟨f,λb=>O! b d⟩,λb=>O! b d⟩) (λd=>?_);have⟨e,hr,g⟩:=j d;have m:=(q d).1 g!;rw[show(256:Y)^1=256 by decide]at m;refine AO (λa=>AB ⟨⟨f,λ_=>⟨e,?_,?_⟩⟩,λ_=>⟨BV _,.inr rfl⟩⟩) (λa=>?_);dsimp only;rw[a]at hr;exact hr;dsimp only;rw[a]at g;exact g;refine AC (y? ⟨⟨f,λb=>O! (show(4:Y)=0 from b) g!⟩,λb=>O! (show(4:Y)=0 from b) g!⟩) (λl=>?_);refine AA (AFm (x:=x) (p:=p++C4 v.1 1) ⟨f,j⟩ i (λ_=>o!)) λw o=>AB ?_;have⟨⟨s,z⟩,t⟩:=o;refine⟨⟨s,λb=>?_⟩,λb=>?_⟩;grind[VL,C4,t?];dsimp only at b⊢;have⟨u,_⟩:=t b;exact⟨d!,.inl rfl⟩
def Ze{x p a:Bd}{n}{k}(e:x=p++(C4 n k++a))(d:W x<=1099511627776)(b:1<=k)(c:k<=8)(hn:ck k n):BW (x,(W p:Y),0) (k:Y)=Z (n,x,((p++C4 n k).length:Y),0):=by grind[W,n?,Az,BW,kH,s?,List.take_left',rV,AY]
theorem AFl{x p w a:Bd}(c:x=p++(w++a))(d:W x<=1099511627776):C3 (x,(W p:Y),0) (W w:Y)=Z (w,x,((p++w).length:Y),0):=by
 have b:=E! W c;simp[Aa]at b;unfold C3;dsimp only;rw[show((0:Y) !=0)=X by decide,A!];simp only[T];rw[show τ ((W w:Y)>wi ((W x:Y)-(W p:Y)))=X from F! (by rw[AY];omega),A!];have e:R4 x (wi (wi ((W p:Y)+(W w:Y))-(W w:Y))) (wi ((W p:Y)+(W w:Y)))=Z w:=by rw[AY (x:=(W p:Y)+(W w:Y)),AY];unfold R4;rw[C! o!,c,show((W p:Y)+(W w:Y)-(W w:Y)).toNat=W p by omega,Rn,show((W p:Y)+(W w:Y)).toNat-W p=W w by omega,Yr]
 grind[AY,n?]
def AFi{x p a:Bd}{c}(e:x=p++(VL c++a))(i:W x<=1099511627776)(k:HA c):Cr (x,(W p:Y),0) ()=Z (c,x,((p++VL c).length:Y),0):=by
 have⟨b,d⟩:=c;have⟨j,f⟩:=k;dsimp only at j f;unfold Cr;cases b with
 |false=>
  have l:d=[]:=by rcases f with h|h;cases h;exact h
  subst l;rw[(rfl:VL (X,[])=C4 255 1)]at e⊢;rw[show(1:Y)=((1:Q):Y)from rfl,Ze e i g! g! ⟨λ_=>g!,g!,g!⟩];rfl
 |true=>have g:VL (E,d)=C4 (W d:Y) 1++d:=rfl;rw[g,A3]at e;rw[g];rw[show(1:Y)=((1:Q):Y)from rfl,Ze e i g! g! ⟨λ_=>by rw[show(256:Y)^1=256 by decide];omega,o!⟩,AD];grind[AFl,t?]
def AJd{x:Bd}(a:W x<=1099511627776):An (D9 x) λr=>r.2=0->x=B3 r.1/\HA r.1.2.2.2.2.2.2.1.2.2.1/\HA r.1.2.2.2.2.2.2.1.2.2.2/\ck 4 (W r.1.2.2.2.2.2.2.2:Y)/\Cu r.1=Z ζ:=by
 unfold D9;have I:CS x [] (x,0,0):=⟨rfl,λ_=>⟨x,rfl,rfl⟩⟩
 refine AA (cX (k:=8) I a g! g!) λO y=>AA (cX (k:=1) y.1 a g! g!) λP z=>AA (cX (k:=4) z.1 a g! g!) λQ A=>AA (cX (k:=8) A.1 a g! g!) λR B=>AA (cX (k:=8) B.1 a g! g!) λS C=>AA (cX (k:=8) C.1 a g! g!) λT D=>AA (cX (k:=4) D.1 a g! g!) λU E=>AA (cX (k:=1) E.1 a g! g!) λV F=>D7 (AFj F.1 a) λq M o=>D7 (AFj o.1 a) λs w p=>AA (cX (k:=4) p.1 a g! g!) λj b=>AA (AFm (n:=j.1) b.1 a (λc=>?_)) λJ f=>?_;have:=(b.2.1 c).1 g!;rw[show(256:Y)^4=4294967296 by decide]at this;exact this;refine AL (λh=>AB λc=>O! c h) (λh=>AL (y? n!) (λG=>D7 (Cc) λK i _=>AP (y? n!) (λH=>AB λ_=>?_)));subst H;obtain⟨q11,d⟩:=f.2 h;have l:s.2.2.2=0:=UI λe=>by have:=b.2.2 e;rw[this]at d;exact e d
 have u:=p.2 l;have L:q.2.2.2=0:=UI λe=>by
  have:s=((X,[]),q.2):=by have:=w;unfold Cr BW at this;rw[bne_iff_ne.2 e,B!,AD,bne_iff_ne.2 e,B!]at this;injection this with this;exact this.symm
  rw[this]at l;exact e l
 have t:=o.2 L;obtain⟨g,m,N⟩:=f.1.2 h;have hr:g=[]:=by simp only[len]at G;have v:=E! W m;rw[Aa]at v;exact D8 o!
 subst hr;refine⟨?_,t,u,?_,i⟩;rw[m];unfold B3;dsimp only;rw[q11];simp only[A3,B5,Dc];dsimp only;rw[q11];exact b.2.1 d
def AFk{e}(h:MZ e):D9 (B3 e)=Z (e,0):=by
 obtain⟨s,t,H,w,y,z,A,B,C,D,E⟩:=h.cells;have I:=S8 h;have g:ck 4 (W e.2.2.2.2.2.2.2:Y):=⟨λ_=>by rw[show(256:Y)^4=4294967296 by decide];omega,o!⟩
 have a:B3 e=[]++(C4 e.1 8++(C4 e.2.1 1++(C4 e.2.2.1 4++(C4 e.2.2.2.1 8++(C4 e.2.2.2.2.1 8++(C4 e.2.2.2.2.2.1 8++(C4 e.2.2.2.2.2.2.1.1 4++(C4 e.2.2.2.2.2.2.1.2.1 1++
 (VL e.2.2.2.2.2.2.1.2.2.1++(VL e.2.2.2.2.2.2.1.2.2.2++(C4 (W e.2.2.2.2.2.2.2:Y) 4++(e.2.2.2.2.2.2.2++[])))))))))))):=by rw[Dc];rfl
 generalize B3 e=x at*;have i:BW (x,((0:Y)),0) 8=_:=Ze (p:=[]) (k:=8) a o! g! g! w;rw[B5]at i;rw[B5]at a;have j:=Ze (k:=1) a o! g! g! y;rw[<-A3]at a;have l:=Ze (k:=4) a o! g! g! z;rw[<-A3]at a;have m:=Ze (k:=8) a o! g! g! A;rw[<-A3]at a;have n:=Ze (k:=8) a o! g! g! B;rw[<-A3]at a;have o:=Ze (k:=8) a o! g! g! C;rw[<-A3]at a;have q:=Ze (k:=4) a o! g! g! D;rw[<-A3]at a;have r:=Ze (k:=1) a o! g! g! E;rw[<-A3]at a;have F:=AFi a o! s;rw[<-A3]at a;have G:=AFi a o! t;rw[<-A3]at a;have c:=Ze (k:=4) a o! g! g! g;rw[<-A3]at a;have d:=AFl a o!;rw[Dc]at a;rw[<-a]at d;unfold D9;rw[i,AD];rw[show((1:Q):Y)=1 from rfl]at j r;rw[show((4:Q):Y)=4 from rfl]at l q c;rw[show((8:Q):Y)=8 from rfl]at m n o;rw[j,AD,l,AD,m,AD,n,AD,o,AD,q,AD,r,AD,F,AD,G,AD,c,AD,d,AD];obtain⟨b,u,v⟩:=Cc (x:=e);have f:b=ζ:=v.2 h;subst f;dsimp only[T];rw[show((0:Y) !=0)=X by decide,A!,H!,A!];rw[show(e.1,e.2.1,e.2.2.1,e.2.2.2.1,e.2.2.2.2.1,e.2.2.2.2.2.1,(e.2.2.2.2.2.2.1.1,e.2.2.2.2.2.2.1.2.1,e.2.2.2.2.2.2.1.2.2.1,e.2.2.2.2.2.2.1.2.2.2),e.2.2.2.2.2.2.2)=e from rfl,u,AD,Bn,A!]
def Kw(l:S AE):Bd:=(l.map λe=>HZ (B3 e)).flatten
theorem TA(l:S AE)(e:AE):Kw (l++[e])=Kw l++HZ (B3 e):=by unfold Kw;grind
theorem pM(e:AE)(l:S AE):Kw (e::l)=HZ (B3 e)++Kw l:=rfl
def tL{l:S AE}(h:∀e∈l,MZ e):(Kw l).length<=8400*W l:=by
 induction l with
 |nil=>exact Al _
 |cons e r b=>have c:=b λx a=>h x (Av.2 (.inr a));have d:=S8 (h e (Av.2 (.inl rfl)));rw[pM,Aa,EQ,Bh];omega
def ADP{x p a:Bd}{at_:Y}{k:Q}(c:x=p++a)(e:at_=W p)(i:W x≤1099511627776)(h:1≤k)(f:k≤8)(g:k≤W a):
  ∃n b,A2 (x,at_,(k:Y))=Z (n,0)/\B0 (x,at_,(k:Y))=Z (n,0)/\x=(p++C4 n k)++b/\ck k n/\W b+k=W a:=by
 have d:=E! W c;rw[Aa]at d;obtain⟨q1,q2⟩:=tf (t:=a) g f;refine⟨rd (a.take k),a.drop k,?_,?_,?_,q1,?_⟩;rw[c,e,kH o! o! o!,C! o!,CR];rw[c,e,YV o! o! o!,C! o!,CR];rw[q2,A3,DG];exact c;rw[C5];omega
def lU{x p rest:Bd}{at_ n:Y}{k}(a:x=p++(C4 n k++rest))(d:at_=W p)(f:W x≤1099511627776)(e:1≤k)(c:k≤8)(hn:ck k n):
  A2 (x,at_,(k:Y))=Z (n,0)/\B0 (x,at_,(k:Y))=Z (n,0):=by
 have b:=E! W a;simp only[Aa,Az]at b;refine⟨?_,?_⟩;rw[a,d,kH (by rw[Aa,Az];omega) o! o!,C! (by rw[Aa,Az];omega),CR,Fi (Az _ _),rV c hn];rw[a,d,YV (by rw[Aa,Az];omega) o! o!,C! (by rw[Aa,Az];omega),CR,Fi (Az _ _),rV c hn]
def Z4{x:U Ax×Y×R×Cz}{s:Y×U Ax}(h:0<=s.1/\s.1<=θ x.1/\θ x.1<=16777216/\θ s.2<=s.1):An (Ai (Ol x) s) λr=>θ r<=θ x.1:=by
 refine AW (λ(s:Y×U Ax)=>0<=s.1/\s.1<=θ x.1/\θ x.1<=16777216/\θ s.2<=s.1) (λ(s:Y×U Ax)=>((θ x.1:Y)-s.1).toNat) h (λs b=>?_);unfold Ol;exact x!
def K0{x:S Ax×Y×R×Cz}(h:W x.1<=16777216):An (GX x) λr=>W r<=W x.1:=by
 unfold GX;exact x!
def Z1{x:BC×Y}{s:Y}(h:0<=s/\s<=θ x.1.1/\(θ x.1.1:Y)<=16777216/\0<=x.2/\x.2<θ x.1.2):An (Ai (Og x) s) λr=>O:=by
 refine AW (λ(s:Y)=>0<=s/\s<=θ x.1.1/\(θ x.1.1:Y)<=16777216/\0<=x.2/\x.2<θ x.1.2) (λ(s:Y)=>((θ x.1.1:Y)-s).toNat) h (λs a=>?_);unfold Og;exact x!
def Z2{x:BC×Y}{s:Y}(h:0<=s/\s<=x.2/\(x.2:Y)<=16777216/\0<=x.2/\x.2<W x.1.2):An (Ai (Oh x) s) λr=>O:=by
 refine AW (λs=>0<=s/\s<=x.2/\(x.2:Y)<=16777216/\0<=x.2/\x.2<W x.1.2) (λs=>((x.2:Y)-s).toNat) h (λs a=>?_);unfold Oh;exact x!
def iO{x:BC×Y}(h:W x.1.1<=4096/\W x.1.2<=4096)(b:0<=x.2/\x.2<W x.1.2):An (M6 x) λr=>O:=by
 unfold M6;exact x!
def Z3{x:U Ax×Ax}{s:R×Y×U Ax}(h:0<=s.2.1/\s.2.1<=θ x.1/\θ x.1<=4096/\θ s.2.2<=s.2.1+1/\(s.1=η->(θ s.2.2:Y)<=s.2.1)):An (Ai (Oj x) s) λr=>θ r.2<=θ x.1+1/\(r.1=η->θ r.2<=θ x.1):=by
 refine AW (λ(s:R×Y×U Ax)=>0<=s.2.1/\s.2.1<=θ x.1/\θ x.1<=4096/\θ s.2.2<=s.2.1+1/\(s.1=η->(θ s.2.2:Y)<=s.2.1)) (λ(s:R×Y×U Ax)=>((θ x.1:Y)-s.2.1).toNat) h (λs c=>?_);unfold Oj;repeat' with_reducible first|intro a|apply AC|apply AP|apply AL|(apply BJ;try dsimp only)|apply Bo|apply B6|apply AB|(apply AA (VZ);intro r hr)|(refine AM ?_ (AI ?_ ?_);rintro r ⟨hr,f⟩)|(refine AM ?_ (AZ ?_);rintro r ⟨hr,d,b⟩)
 all_goals try (have e:=AY (x:=s.2.1+1))
 all_goals (first|omega|grind)
def iP{x:S Ax×Ax}(h:W x.1<=4096):An (M7 x) λr=>W r<=W x.1+1:=by
 unfold M7;exact x!
def YJ{B:Q}(i:B<=2000){s:Y×BC}(h:0<=s.1/\s.1<=s.2.2.length/\s.2.1.length+s.2.2.length<=B):An (Ai SI s) λr=>r.1.length+r.2.length<=B:=by refine AW (λs=>0<=s.1/\s.1<=s.2.2.length/\s.2.1.length+s.2.2.length<=B) (λs=>s.2.2.length*3000+((s.2.2.length:Y)-s.1).toNat) h (λs d=>?_);have⟨b,e,c⟩:=d;refine AC (λa=>?_) (λa=>AB c);simp[T]at a;refine AA (iO d! ⟨b,a⟩) λv _=>AA (P:=λv:Y×BC=>(v=s)\/(v.1= -1/\v.2.1.length<=s.2.1.length+1/\v.2.2.length+1=s.2.2.length)) ?_ λm g=>?_;refine AK (λ_=>?_) (λ_=>AB (.inl rfl));refine AA (AI b a) λj _=>AA (iP d!) λk c=>AA (BU o! b) λl f=>?_;grind[AY,AA,BU,AZ,AB];grind[AB,AY]
def Jn{B:Q}{x:BC}(a:B<=2000)(h:W x.1+W x.2<=B):An (Fm x) λr=>W r.1+W r.2<=B:=by exact AA (YJ a ⟨q!,q!,h⟩) λr hr=>AB hr
theorem GS.of{x:BC}{B:Q}(a:B<=2000)(h:x.1.length+x.2.length<=B):GS x:=⟨by omega,by omega⟩
def GS.nil:GS (([],[]):BC):=⟨q!,q!⟩
def Mf{x:BC×Y}(h:GS x.1):An (Ht x) λr=>GS r:=by refine AA (FV h) λv d=>AP (y? h) (λc=>?_);have g:=d c;refine AA (K0 h.1) λa e=>AA (K0 h.2) λb f=>AA (Jn (B:=1024) g! ?_) λr hr=>AB (GS.of g! hr);grind[aj]
def bq{x:BC×Y}(h:GS x.1):An (Pe x) λr=>GS r:=by refine AA (FV h) λv c=>AP (y? h) (λa=>?_);have e:=c a;refine AA (K0 h.2) λb d=>AA (Jn (B:=1024) g! ?_) λr hr=>AB (GS.of g! hr);grind[aj]
def VY{x:BC×Y×Cz}(h:GS x.1):An (M5 x) λr=>GS r:=by refine AA (FV h) λv c=>AP (y? h) (λa=>?_);have e:=c a;refine AA (K0 h.1) λb d=>AA (Jn (B:=1024) g! ?_) λr hr=>AB (GS.of g! hr);grind[aj]
def Xt{x:BC×Y}{s:Y×Ax}(h:0<=s.1/\s.1<=θ x.1.2/\θ x.1.2<=16777216):An (Ai (La x) s) λr=>O:=by
 refine AW (λ(s:Y×Ax)=>0<=s.1/\s.1<=θ x.1.2/\θ x.1.2<=16777216) (λ(s:Y×Ax)=>((θ x.1.2:Y)-s.1).toNat) h (λs b=>?_);unfold La;exact x!
def Ix{x:BC×Y}(h:GS x.1):An (FW x) λr=>r.2=E->aj x.1:=by
 unfold FW;exact x!
def ZJ{x:BC×Ax}{s:Y}(h:0<=s/\s<=θ x.1.2/\(θ x.1.2:Y)<=16777216/\θ x.1.1<=16777216):An (Ai (Ns x) s) λr=>∀u,r=.inl u->0<=u/\u<=θ x.1.2:=by
 refine AW (λ(s:Y)=>0<=s/\s<=θ x.1.2/\(θ x.1.2:Y)<=16777216/\θ x.1.1<=16777216) (λ(s:Y)=>((θ x.1.2:Y)-s).toNat) h (λs a=>?_);unfold Ns;exact x!
def eZ{x:BC×Ax}(h:GS x.1):An (JC x) λr=>0<=r/\r<=W x.1.2:=by
 unfold JC;exact x!
def Z0{x:BC×Ax}(h:GS x.1):An (Of x) λr=>GS r.1:=by refine AA (FV h) λv o=>AP (y? GS.nil) (λl=>?_);have n:=o l;unfold aj at n;refine AA Oi λ_ _=>AP (y? GS.nil) (λ_=>AA (Ix h) λz _=>?_);apply AK<;>intro m;simp_all[AK,AB,GS.nil];refine AK (y? h) (λ_=>AA (IV h.1) λ_ _=>AK (y? h) (λ_=>AK (y? GS.nil) (λ_=>AA (eZ h) λp e=>AA (BU o! e.1 e.2) λq j=>AA (BU e.1 b! i!) λs a=>?_)));have f:=a.2;simp[T]at f;refine AA (AZ w!) λt b=>?_;have g:=b.2.1;simp at g;refine AA (AZ w!) λu c=>?_;have i:=c.2.1;simp at i;refine AA (AZ o!) λw k=>AA (Jn (B:=1025) g! d!) λy d=>AA (IV d!) λ_ _=>AB (GS.of g! d)
def Z7{x:U Y×Y}{s:R×Y×U Y}(h:0<=s.2.1/\s.2.1<=θ x.1/\θ x.1<=4096/\θ s.2.2<=s.2.1+1/\(s.1=η->(θ s.2.2:Y)<=s.2.1)):An (Ai (Od x) s) λr=>θ r.2<=θ x.1+1/\(r.1=η->θ r.2<=θ x.1):=by
 refine AW (λ(s:R×Y×U Y)=>0<=s.2.1/\s.2.1<=θ x.1/\θ x.1<=4096/\θ s.2.2<=s.2.1+1/\(s.1=η->(θ s.2.2:Y)<=s.2.1)) (λ(s:R×Y×U Y)=>((θ x.1:Y)-s.2.1).toNat) h (λs b=>?_);unfold Od;repeat' with_reducible first|intro a|apply AC|apply AP|apply AL|apply AK|(apply BJ;try dsimp only)|apply Bo|apply B6|apply AB|(refine AM ?_ (AI ?_ ?_);rintro r ⟨hr,g⟩)|(refine AM ?_ (AZ ?_);rintro r ⟨hr,f,d⟩)
 all_goals try dsimp[T]at*
 all_goals try (have e:=AY (x:=s.2.1+1))
 all_goals try (have c:=b.2.2.2.2 v!)
 all_goals (try simp[Bh,Bi,Bool.true_eq_false,false_implies,and_true]at*)
 all_goals first|omega|grind
def Pj{x:S Y×Y}(h:W x.1<=4096):An (Fb x) λr=>W r<=W x.1+1:=by
 unfold Fb;exact x!
def Xu{x:BC}{s:U Y×Y}(h:0<=s.2/\s.2<=θ x.2/\θ x.2<=4096/\θ s.1<=s.2):An (Ai (Lb x) s) λr=>θ r<=θ x.2:=by
 refine AW (λ(s:U Y×Y)=>0<=s.2/\s.2<=θ x.2/\θ x.2<=4096/\θ s.1<=s.2) (λ(s:U Y×Y)=>((θ x.2:Y)-s.2).toNat) h (λs b=>?_);unfold Lb;exact x!
def Z6{x}(h:GS x):An (KO x) λr=>W r<=4096:=by
 unfold KO;exact x!
theorem br{x:BC×Y}{b:Ax×R}{s:U Y×Y}(h:0<=s.2/\s.2<=θ x.1.1/\θ x.1.1<=1024/\θ s.1<=s.2):An (Ai (Pf x b) s) λr=>θ r<=θ x.1.1:=by
 refine AW (λ(s:U Y×Y)=>0<=s.2/\s.2<=θ x.1.1/\θ x.1.1<=1024/\θ s.1<=s.2) (λ(s:U Y×Y)=>((θ x.1.1:Y)-s.2).toNat) h (λs c=>?_);unfold Pf;exact x!
theorem bu{x:BC×Y}{b:Ax×R}{s:U Y×Y}(h:0<=s.2/\s.2<=θ x.1.2/\θ x.1.2<=1024/\θ s.1<=s.2+1024):An (Ai (Pg x b) s) λr=>θ r<=4096:=by
 refine AW (λ(s:U Y×Y)=>0<=s.2/\s.2<=θ x.1.2/\θ x.1.2<=1024/\θ s.1<=s.2+1024) (λ(s:U Y×Y)=>((θ x.1.2:Y)-s.2).toNat) h (λs c=>?_);unfold Pg;exact x!
def L9{x:BC×Y}(h:GS x.1):An (Ij x) λr=>W r<=4096:=by unfold Ij;refine AA (Ix h) λc b=>AP (y? q!) (λa=>?_);grind[aj,AA,br,bu,AB]
theorem Qs{x:BC×U Y×Y}{a:U Y}{s:Y}(h:0<=s/\s<=θ a/\(θ a:Y)<=16777216/\1<=θ x.2.1/\θ x.2.1<=4096):An (Ai (Mg x a) s) λr=>∀u,r=.inl u->u=x.2.1:=by
 refine AW (λ(s:Y)=>0<=s/\s<=θ a/\(θ a:Y)<=16777216/\1<=θ x.2.1/\θ x.2.1<=4096) (λ(s:Y)=>((θ a:Y)-s).toNat) h (λs c=>?_);unfold Mg;exact x!
def YK{x:BC×U Y×Y}{b:Y}{s:R×Y}(h:0<=s.2/\s.2<=θ x.2.1/\θ x.2.1<=4096):An (Ai (Mh x b) s) λr=>O:=by
 refine AW (λ(s:R×Y)=>0<=s.2/\s.2<=θ x.2.1/\θ x.2.1<=4096) (λ(s:R×Y)=>((θ x.2.1:Y)-s.2).toNat) h (λs c=>?_);unfold Mh;exact x!
def AGs(d:Q){x:BC×U Y×Y}(h:GS x.1)(o:1<=x.2.1.length)(A:(x.2.1.length:Y)+d=x.2.2)(p:x.2.2<=4096):An (pI Ew (d+1) x) λr=>r.length<=4096:=by
 induction d generalizing x with
 |zero=>show An (Ew _ x) _;unfold Ew;have e:=AY (x:=(x.2.1.length:Y)-1);refine AA (AI (by simp[T];rw[e];omega) (by simp[T];rw[e];omega)) λv _=>AA (L9 h) λm f=>AO (λ_=>?_) (λc=>absurd (by simp[T];omega) c);refine AA (Qs ⟨q!,q!,o!,o,o!⟩) λr hr=>BH (λu a=>AB (by rw[hr u a];omega)) (λ_ _=>AB q!)
 |succ d t=>show An (Ew _ x) _;unfold Ew;have e:=AY (x:=(x.2.1.length:Y)-1);refine AA (AI (by simp[T];rw[e];omega) (by simp[T];rw[e];omega)) λv _=>AA (L9 h) λm f=>AO (λ_=>?_) (λ_=>?_);grind[AA,Qs,BH,AB];refine AA (P:=λr=> ∀u,r= .inl u->u.length<=4096) ?_ λr hr=>BH (λu a=>AB (hr u a)) (λ_ _=>AB q!);refine AW (λ(s:Y)=>0<=s/\s<=m.length) (λ(s:Y)=>((m.length:Y)-s).toNat) (s:=(0:Y)) ⟨g!,o!⟩ (λs q=>?_);unfold SJ;have b:=AY (x:=s+1);refine AC (λc=>?_) (λ_=>AB (λu a=>by cases a));simp[T]at c;refine AA (AI q.1 c) λB _=>AA (YK ⟨q!,q!,o!⟩) λw _=>AK (λ_=>AB ⟨by rw[b];omega,by rw[b];omega⟩) (λ_=>AA (AZ w!) λy g=>?_);have k:=g.2.1;simp[Bi]at k;refine AA (AZ w!) λn i=>?_;have l:=i.2.1;simp[Bh,Bi]at l;refine AA (t (x:=(x.1,n,x.2.2)) h d! d! p) λz j=>AC (λ_=>AB λu a=>by cases a;exact j) (λ_=>AB ⟨by rw[b];omega,by rw[b];omega⟩)
def bv{x:BC×S Y×Y}(h:GS x.1)(a:1<=W x.2.1)(d:(W x.2.1:Y)<=x.2.2)(b:x.2.2<=4096):An (Ph x) λr=>O:=by have⟨r,hr,_⟩:=AGs (x.2.2-W x.2.1).toNat h a o! b;have⟨s,c⟩:=iG hr;exact⟨s,c,P!⟩
def ej{x:BC×Y}(h:GS x.1):An (L8 x) λr=>O:=by unfold L8;refine AA (P:=λ_=>O) ?_ λr _=>BH (λ_ _=>AB trivial) (λ_ _=>AB trivial);refine AW (λs=>1<=s/\s<=4097) (λs=>(4097-s).toNat) ⟨g!,g!⟩ (λs d=>?_);unfold TH;have a:=AY (x:=s+1);refine AA (Z6 h) λe c=>AC (λb=>?_) (y? trivial);simp[T]at b;refine AA (bv h q! (by show(1:Y)<=s;omega) (by show s<=4096;omega)) λf _=>AC (y? trivial) (y? ⟨by rw[a];omega,by rw[a];omega⟩)
def TP(l:S Ap):Q:=(l.map λt=>W t.2.2.2.2.1+1).sum
theorem AIq{l:S Ap}{i:Q}{o n:Ap}(h:l[i]?=Z o):TP (l.set i n)+W o.2.2.2.2.1=TP l+W n.2.2.2.2.1:=by
 induction l generalizing i with
 |nil=>simp at h
 |cons t r a=>
  cases i with
  |zero=>simp at h;subst h;simp[TP];omega
  |succ i=>have:=a (i:=i) (by simpa using h);simp[TP,List.set_cons_succ,B4,WY]at*;omega
def wJ{l:S Ap}{id:Y}:TP (l.filter λt=>t.1 !=id)<=TP l:=by
 induction l with
 |nil=>simp
 |cons t r a=>simp[Mr];split;simp[TP,B4,WY]at*;omega;simp[TP,B4,WY]at*;omega
def xd{l:S Ap}{id:Y}{i:Q}{t:Ap}(h:l[i]?=Z t)(a:t.1=id):TP (l.filter λt=>t.1 !=id)<TP l:=by
 induction l generalizing i with
 |nil=>simp at h
 |cons u r b=>
  have q:=wJ (l:=r) (id:=id);cases i with
  |zero=>simp at h;subst h;simp[Mr,a,H!,QK,if_false];simp[TP,B4,WY]at*;omega
  |succ i=>have:=b (i:=i) (by simpa using h);simp[Mr];split<;>(simp[TP,B4,WY]at*;omega)
def ZM{x:U Ap×Y}{s:Y×U Ap}(h:0<=s.1/\s.1<=θ x.1/\θ x.1<=64/\θ s.2=s.1):An (Ai (Nu x) s) λr=>θ r<=θ x.1:=by
 refine AW (λ(s:Y×U Ap)=>0<=s.1/\s.1<=θ x.1/\θ x.1<=64/\θ s.2=s.1) (λ(s:Y×U Ap)=>((θ x.1:Y)-s.1).toNat) h (λs c=>?_);unfold Nu;exact x!
def Uf{x}:An (JE x) λr=>r.2=0->W r.1=W x.1+1/\W r.1<=64:=by
 unfold JE;exact x!
def ADl(l:S Ap)(id:Y):S Ap:=l.filter λt=>t.1 !=id
theorem pp(l:S Ap)(id:Y):(ADl l id).length<=W l:=EK _ _
theorem AHk(l:S Ap)(id:Y):TP (ADl l id)<=TP l:=wJ
theorem AHl{l:S Ap}{id:Y}{i:Q}{t:Ap}(h:l[i]?=Z t)(a:t.1=id):TP (ADl l id)<TP l:=xd h a
def mX{a:Type}{l:S a}{n:Y}{p:a->R}{x:a}(b:0<=n)(c:l[ο n]?=Z x):(l.take (n+1).toNat).filter p=(l.take (ο n)).filter p++(if p x=E then [x]else []):=by
 have e:(n+1).toNat=ο n+1:=o!
 grind[List.take_add_one,Option.toList_some]
def pG{a:Type}{l:S a}{n:Y}{p:a->R}(b:0<=n):(((l.take (ο n)).filter p).length:Y)<=n:=by grind[List.length_filter_le,r?]
def YQ{x:U Ap×Y}{s:Y×U Ap}(h:0<=s.1/\s.1<=θ x.1/\θ x.1<=16777216/\s.2=(x.1.take s.1.toNat).filter (λt=>t.1 !=x.2)):An (Ai (Mk x) s) λr=>r=x.1.filter λt=>t.1 !=x.2:=by
 refine AW (λ(s:Y×U Ap)=>0<=s.1/\s.1<=θ x.1/\θ x.1<=16777216/\s.2=(x.1.take s.1.toNat).filter (λt=>t.1 !=x.2)) (λ(s:Y×U Ap)=>((θ x.1:Y)-s.1).toNat) h (λs f=>?_);unfold Mk;have⟨b,i,e,c⟩:=f;have a:=pG (l:=x.1) (p:=λt:Ap=>t.1 !=x.2) b;rw[<-c]at a;repeat' with_reducible first|intro d|apply AC|apply AL|apply AK|(apply BJ;try dsimp only)|apply Bo|apply B6|apply AB|(refine AM ?_ (AI ?_ ?_);rintro r ⟨hr,k⟩)|(refine AM ?_ (AZ ?_);rintro r ⟨hr,j,g⟩)
 all_goals dsimp[T]at*
 all_goals first|omega|(rw[(AY (x:=s.1+1))];refine⟨⟨o!,o!,e,?_⟩,o!⟩;rw[mX b v!];grind)|(rw[c,BM o!])|(simp;omega)
def Jp{x:S Ap×Y}(h:W x.1<=16777216):An (Gr x) λr=>r=ADl x.1 x.2:=by
 unfold Gr ADl
 exact x!
def Nw{x:Ap}(h:W x.2.2.2.2.1<=16777216):An (Ia x) λr=>r.1=x.1/\r.2.2.2.2=x.2.2.2.2:=by
 unfold Ia;exact x!
def MD{x:S Ap×Y×Ap}(h:W x.1<=16777216)(a:0<=x.2.1/\x.2.1<W x.1):An (Il x) λr=>r=x.1.set x.2.1.toNat x.2.2:=by unfold Il;refine AA (AZ (by simpa using h)) λr hr=>?_;have⟨hr,b,_⟩:=hr;rw[B5]at hr;subst hr;refine AA (AI a.1 a.2) λ_ _=>AA (AI a.1 a.2) λ_ _=>AB rfl
def SM{x:U Ap×AE}{a:Ap}{s:Y×U Y}(h:0<=s.1/\s.1<=θ a.2.2.2.2.1/\θ a.2.2.2.2.1<=4096/\θ s.2<=s.1):An (Ai (Oo x a) s) λr=>θ r<=θ a.2.2.2.2.1:=by
 refine AW (λ(s:Y×U Y)=>0<=s.1/\s.1<=θ a.2.2.2.2.1/\θ a.2.2.2.2.1<=4096/\θ s.2<=s.1) (λ(s:Y×U Y)=>((θ a.2.2.2.2.1:Y)-s.1).toNat) h (λs d=>?_);unfold Oo;exact x!
def kI(l:S Ap)(id:Y):Prop:=∃(j:Q)(t:Ap),l[j]?=Z t/\t.1=id
theorem kI.set{l:S Ap}{i:Q}{n:Ap}{id:Y}(h:i<W l)(hn:n.1=id):kI (l.set i n) id:=⟨i,n,by rw[HE h],hn⟩
def AB3(l:S Ap)(kind tx:Y)(m:S Ap):Prop:=W m<=W l/\(tx=0->m=l)/\(tx≠0->kind≠1->(kind≠4->TP m<TP l)/\TP m<=TP l)/\(tx≠0->kind=4->kI m tx)
def iS{x}:An (GY x) λr=>r.2=0->AB3 x.1 x.2.2.1 x.2.2.2.1 r.1:=by
 unfold GY;repeat' with_reducible first|intro a|apply AC|apply AP|apply AO|apply AL|apply AK|(apply BJ;try dsimp only)|apply Bo|apply B6|apply Nc|(apply BF;try dsimp only)|(apply Ay;try dsimp only)|(apply BH<;>(intro u c;try subst c))|apply AB|(apply AA (D0);intro r hr)|(apply AA (Cc);intro r hr)|(refine AM ?_ (IZ ?_);intro r hr)|(refine AM ?_ (SM ?_);intro r hr)|(refine AM ?_ (Jp ?_);intro r hr)|(refine AM ?_ (Nw ?_);intro r hr)|(refine AM ?_ (MD ?_ ?_);intro r hr)|(refine AM ?_ (AI ?_ ?_);rintro r ⟨hr,f⟩)|(refine AM ?_ (AZ ?_);rintro r ⟨hr,e,b⟩)
 all_goals dsimp[T]at*
 all_goals first|omega|(intro d;exact O! d g!)|(unfold Zm VTx at*;(first|omega|grind[AB3,AIq,AHl,AHk,pp,List.length_set,kI.set]))
variable {B:Int->Prop}
def TN{x}:An (IY x) λr=>r.2=0->Zm x.1/\0<=r.1/\r.1<W x.1:=by
 unfold IY;exact x!
def iT{x}:An (NA x) λr=>r.2=0->W r.1<=64:=by
 unfold NA;repeat' with_reducible first|intro a|apply AO|apply AL|apply AK|apply AB|(apply AA (TN);intro r hr)|(refine AM ?_ (MD ?_ ?_);intro r hr)|(refine AM ?_ (AI ?_ ?_);rintro r ⟨hr,e⟩)|(refine AM ?_ (AZ ?_);rintro r ⟨hr,d,b⟩)
 all_goals try dsimp[T]at*
 all_goals first|omega|(intro c;exact O! c v!)|grind[Zm,VTx,List.length_set]
def iR{x}:An (M9 x) λr=>r.2=0->W r.1<=64:=by
 unfold M9;repeat' with_reducible first|intro a|apply AC|apply AL|apply AK|apply AB|(apply AA (TN);intro r hr)|(refine AM ?_ (Nw ?_);intro r hr)|(refine AM ?_ (MD ?_ ?_);intro r hr)|(refine AM ?_ (AI ?_ ?_);rintro r ⟨hr,e⟩)|(refine AM ?_ (AZ ?_);rintro r ⟨hr,b,c⟩)|(refine AM ?_ (BU ?_ ?_ ?_);rintro r ⟨hr,b⟩)
 all_goals try dsimp[T]at*
 all_goals first|omega|(intro d;exact O! d v!)|grind[Zm,VTx,List.length_set,AY]
def j8{x:By×Y×Be}(h:W x.1<=16777216)(a:0<=x.2.1/\x.2.1<W x.1):An (OG x) λr=>r=x.1.set x.2.1.toNat x.2.2:=by unfold OG;refine AA (AZ (by simpa using h)) λr hr=>?_;have⟨hr,b,_⟩:=hr;rw[B5]at hr;subst hr;refine AA (AI a.1 a.2) λ_ _=>AA (AI a.1 a.2) λ_ _=>AB rfl
def Va{x}:An (Hu x) λr=>r.2=0->W r.1=W x.1/\(x.2.2.1≠7->r.1=x.1)/\(x.2.2.1=7->0<=x.2.2.2.2.2.2.2.1.1/\∃w,x.1[x.2.2.2.2.2.2.2.1.1.toNat]?=Z w/\r.1=x.1.set x.2.2.2.2.2.2.2.1.1.toNat ((if x.2.2.2.2.2.2.1>w.1 then x.2.2.2.2.2.2.1 else w.1),w.2)):=by
 unfold Hu;refine AA GO λv i=>AP (λa=>AB n!) (λa=>AA Cc λl k=>AP (λa=>AB n!) (λf=>AL (λa=>AB λ_=>⟨rfl,λ_=>rfl,λe=>O! e a⟩) (λd=>?_)));have i:MZ x.2:=k!
 have c:0<=x.2.2.2.2.2.2.2.1.1:=by grind[MZ,Vy,PJ,Qj]
 refine AC (λa=>AB n!) (λg=>?_);simp[T]at g;refine AA (AI c) λw j=>AA (j8 (by have:=(by grind:na x.1).2;dsimp only;omega) ⟨c,d!⟩) λu h=>AB λ_=>?_;subst h;exact⟨q!,λe=>O! d e,λ_=>⟨c,w,j.1,rfl⟩⟩
def K5{x:AU×Y}(h:SB x.1):An (Es x) λr=>Br x.1=Z E->KP x.1.1 x.1.2.2.1.2.1 x.1.2.2.2.1.2.1 x.1.2.2.2.2.2.2.2 x.1.2.2.2.2.2.2.1->0<=x.2->x.2<x.1.1->r=BZ x.1.2.2.1.2.1 x.2:=by unfold Es;refine D7 (CM h) λv u t=>AP (λa=>AB λe=>?_) (λa=>?_);rw[u,a]at e;cases e;refine AC (λa=>AB λ_ _ p=>O! p o!) (λp=>AC (λa=>AB λ_ _ _ q=>O! q o!) (λq=>AA JD λg s=>AK (λa=>AB λ_ c d j=>?_) (λk=>?_)));have⟨_,_,_,e,f,n,b⟩:=s.1 a;have:=(c x.2 d j).1 f n (by rw[b];exact e);rw[b]at this;rw[this];exact Jg _ _;refine AA (KT h) λl o=>AK (λa=>AB λ_ c d j=>(c x.2 d j).2.1 _ (o.1 a).1 (o.1 a).2) (λm=>AA (AI o! (by have:=(t a).2.2.2.2.2.2.2;omega)) λr hr=>AB λ_ c d j=>?_);exact((c x.2 d j).2.2 r hr.1).2 (o.2 m) λf n e=>by have⟨i,w⟩:=DW n;exact O! ⟨i,f,w,e⟩ (s.2 k (t a).2.2.2.1)
def LX(a b:Ac):Prop:=b.1=a.1/\a.2.2<=b.2.2/\∃t,b.2.1=a.2.1++t
def LX.refl(a:Ac):LX a a:=⟨rfl,Ae _,[],q!⟩
def LX.trans{a b c}(h:LX a b)(g:LX b c):LX a c:=by have⟨i,k,t,j⟩:=h;have⟨d,f,u,e⟩:=g;exact⟨d.trans i,Ya k f,t++u,by rw[e,j,A3]⟩
def LX.get{a b}(h:LX a b){i:Q}{e:AE}(f:a.2.1[i]?=Z e):b.2.1[i]?=Z e:=by have⟨c,_,t,d⟩:=h;grind[List.getElem?_append_left,Nat.lt_or_ge,u?]
def AK0(k:AU)(z:AE)(m:AU):Prop:=
 ∃e,m.2.2.1.2.1=k.2.2.1.2.1++[e]/\e.1=k.2.2.1.1+W k.2.2.1.2.1/\e.2.1=z.2.1/\e.2.2.2.2.2=z.2.2.2.2.2/\
  (KP k.1 k.2.2.1.2.1 k.2.2.2.1.2.1 k.2.2.2.2.2.2.2 k.2.2.2.2.2.2.1->(e.2.1=1\/e.2.1=2)->0<=e.2.2.2.2.2.2.1.1->e.2.2.2.2.2.2.1.1<k.1->e.2.2.2.2.1=BZ k.2.2.1.2.1 e.2.2.2.2.2.2.1.1)/\
  (z.2.1≠7->m.2.2.2.2.2.2.1=k.2.2.2.2.2.2.1)/\
  (z.2.1=7->0<=z.2.2.2.2.2.2.1.1/\∃w,k.2.2.2.2.2.2.1[z.2.2.2.2.2.2.1.1.toNat]?=Z w/\m.2.2.2.2.2.2.1=k.2.2.2.2.2.2.1.set z.2.2.2.2.2.2.1.1.toNat ((if z.2.2.2.2.2.1>w.1 then z.2.2.2.2.2.1 else w.1),w.2))
def AAf(k:AU)(z:AE)(m:AU):Prop:=
 m.1=k.1/\LX k.2.2.1 m.2.2.1/\Dh m.2.2.1/\m.2.2.2.1=k.2.2.2.1/\m.2.2.2.2.1=k.2.2.2.2.1/\AB3 k.2.2.2.2.2.1 z.2.1 z.2.2.1 m.2.2.2.2.2.1/\m.2.2.2.2.2.2.2=k.2.2.2.2.2.2.2/\SB m/\AK0 k z m
def GC{x:AU×AE}(h:SB x.1):An (Ec x) λr=>r.2.2=0->VK x.1/\AAf x.1 x.2 r.1/\r.2.1=x.1.2.2.1.1+W x.1.2.2.1.2.1:=by
 unfold Ec;refine D7 (CM h) λv q E_=>AP (λa=>AB n!) (λa=>?_);have n:=E_ a;rw[a]at q;refine AA (P:=λs=>(∃u,s=.inl u/\u.2.1≠0)\/∃u,s=.inr u/\u.1.2.1=x.2.2.1/\u.1.2.2.1=x.2.2.2.1/\u.1.2.2.2.2.2=x.2.2.2.2.2.2) ?_ λs D_=>?_
 ·repeat' with_reducible first|intro a|apply AC|apply AP|apply AL|apply AK|(apply BJ;try dsimp only)|apply Bo|apply B6|apply Nc|(apply BF;try dsimp only)|(apply Ay;try dsimp only)|(apply BH<;>(intro u b;try subst b))|apply AB|(refine AM ?_ (Fp ?_);intro r hr)|(refine AM ?_ (AI ?_ ?_);rintro r ⟨hr,N⟩)
  all_goals ((try dsimp[T]at*);(try first|omega|assumption|grind[AY,SB]))
 rcases D_ with⟨u,rfl,b⟩|⟨u,rfl,b⟩;exact BF (AB λc=>O! c b);apply Ay;refine AA (CT) λO A=>AA (P:=λv:AE=>v.2.1=x.2.2.1/\v.2.2.1=x.2.2.2.1/\v.2.2.2.2.2=x.2.2.2.2.2.2/\(KP x.1.1 x.1.2.2.1.2.1 x.1.2.2.2.1.2.1 x.1.2.2.2.2.2.2.2 x.1.2.2.2.2.2.2.1->(v.2.1=1\/v.2.1=2)->0<=v.2.2.2.2.2.2.1.1->v.2.2.2.2.2.2.1.1<x.1.1->v.2.2.2.2.1=BZ x.1.2.2.1.2.1 v.2.2.2.2.2.2.1.1)) ?_ λt d=>?_;refine AK (λa=>?_) (λa=>AB ⟨b.1,b.2.1,b.2.2,λ_ n=>O! (A.2 n) (by simp[a])⟩);exact AA (K5 h) λw F=>AB ⟨b.1,b.2.1,b.2.2,λo _ G H=>F q o G H⟩;refine AA (bp) λi B=>AL (λa=>AB (O! · a)) (λa=>?_);have⟨a1,a2,a3,a4,a5,a6⟩:=B a;dsimp only at a2 a3 a4 a5 a6;refine AA (HJ) λp e=>AA (iS) λI l=>AL (λa=>AB (O! · a)) (λf=>AA (Va) λJ m=>AL (λa=>AB (O! · a)) (λg=>AB λ_=>⟨n,?_⟩))
 have L:=a2.1;have M:W i.1.2.1=W x.1.2.2.1.2.1+1:=by rw[a3];simp
 have⟨K,y,k,z⟩:=e.1 (e.2 a1 d! d!);dsimp only at y k z;have C:p.1=(i.2.1,t.2):=by
  have:(i.2.1-i.1.1).toNat=W x.1.2.2.1.2.1:=o!
  rw[this,a3]at k;simpa using k.symm
 have hn:=l f;have j:=(m g).2;rw[C]at hn j;dsimp only at hn j;rw[d.1,d.2.1]at hn;rw[d.1,d.2.2.1]at j;exact⟨⟨rfl,⟨a4,Int.le_of_eq a6.symm,_,a3⟩,a1,rfl,rfl,hn,rfl,⟨h.1,by have:=hn.1;have:=h.2.1;dsimp only at*;omega,h.2.2⟩,(i.2.1,t.2),a3,a5,d.1,d.2.2.1,d.2.2.2,j⟩,a5⟩
def AAf.ki{k m}{z}(h:AAf k z m)(b:KI B k)(a:z.2.1≠1/\z.2.1≠2/\z.2.1≠6/\z.2.1≠7):KI B m:=by obtain⟨a1,_,_,a4,_,_,a7,_,e,c,g,d,i,j,f,l⟩:=h;unfold KI;rw[a1,a4,a7,c,f a.2.2.2];rw[<-d]at a;exact⟨b.1.app ⟨λh=>o!,λh=>o!,λh=>o!⟩,b.2.1.app ⟨a.1,a.2.1⟩,b.2.2⟩
def AAf.sk{k m}{z}(h:AAf k z m)(a:SK B k)(b:z.2.1≠1/\z.2.1≠2/\z.2.1≠6/\z.2.1≠7):SK B m:=h.2.2.2.2.2.2.2.1.sk (h.ki a.ki b)
end Go.Pm
namespace Go.Pm
open Go Go.Ab
def DI(d:Bw):Prop:=W d.1<=64/\(∀(i:Q)(s:Bd),d.1[i]?=Z s->W s=256)/\d.2.2.1=[]/\d.2.2.2.2=[]
def YI{x:Y}{s:Y×U Bd}(h:0<=s.1/\s.1<=x/\x<=64/\s.2.length=s.1/\ ∀(i:Q) (t:Bd),s.2[i]? =some t->t=E7 (List.replicate (Int.toNat 256) 0)):An (Ai (Me x) s) λr=>(r.length:Y)=x/\ ∀(i:Q) (t:Bd),r[i]? =some t->t=E7 (List.replicate (Int.toNat 256) 0):=by
 refine AW (λ(s:Y×U Bd)=>0<=s.1/\s.1<=x/\x<=64/\s.2.length=s.1/\ ∀(i:Q) (t:Bd),s.2[i]? =some t->t=E7 (List.replicate (Int.toNat 256) 0)) (λ(s:Y×U Bd)=>(x-s.1).toNat) h (λs c=>?_);unfold Me;have⟨f,g,a,j,b⟩:=c;have k:(E7 (List.replicate (Int.toNat 256) 0)).length=256:=by rw[Mv,Hi];rfl
 repeat' with_reducible first|apply AC<;>intro d|apply AK<;>intro d|apply AB|(refine AM ?_ (AZ ?_);rintro r ⟨hr,l,e⟩)
 all_goals first|omega|(generalize E7 (List.replicate (Int.toNat 256) 0)=bs at*;simp;omega)|(generalize E7 (List.replicate (Int.toNat 256) 0)=bs at*;rw[(AY (x:=s.1+1))];refine⟨⟨by omega,by omega,a,by grind,?_⟩,by omega⟩;grind)|(exact⟨by omega,b⟩)
def TF{x:Y}(h:0<=x/\x<=64):An (Pc x) λr=>(W r:Y)=x/\∀(i:Q)(t:Bd),r[i]?=Z t->t=E7 (ς (ο 256) 0):=by exact AA (YI ⟨Ae _,h.1,h.2,rfl,λi t a=>by simp at a⟩) λr hr=>AB hr
def ju{x}:An (Ko x) λr=>r.2=0->DI r.1/\W r.1.1=x/\∀(i:Q)(t:Bd),r.1.1[i]?=Z t->t=E7 (ς (ο 256) 0):=by refine AC (λb=>AB n!) (λb=>AC (λb=>AB n!) (λc=>AA (TF o!) λr hr=>AB λ_=>⟨⟨d!,λi t d=>?_,rfl,rfl⟩,hr⟩));rw[hr.2 i t d,Mv,Hi];rfl
def eW{x}:An (L5 x) λr=>O:=by
 unfold L5;exact x!
def ZC{x:Bw}{s:Y}(h:0<=s/\s<=θ x.1/\(θ x.1:Y)<=16777216):An (Ai (Ng x) s) λr=>r≠.inl ζ:=by
 refine AW (λ(s:Y)=>0<=s/\s<=θ x.1/\(θ x.1:Y)<=16777216) (λ(s:Y)=>((θ x.1:Y)-s).toNat) h (λs b=>?_);unfold Ng;exact x!
def ZD{x:Bw}{s:Y}(h:0<=s/\s<=θ x.2.2.1/\(θ x.2.2.1:Y)<=16777216):An (Ai (Nh x) s) λr=>r≠.inl ζ:=by
 refine AW (λ(s:Y)=>0<=s/\s<=θ x.2.2.1/\(θ x.2.2.1:Y)<=16777216) (λ(s:Y)=>((θ x.2.2.1:Y)-s).toNat) h (λs b=>?_);unfold Nh;exact x!
def ZE{x:Bw}{s:Y}(h:0<=s/\s<=θ x.2.2.2.2/\(θ x.2.2.2.2:Y)<=16777216):An (Ai (Ni x) s) λr=>r≠.inl ζ:=by
 refine AW (λ(s:Y)=>0<=s/\s<=θ x.2.2.2.2/\(θ x.2.2.2.2:Y)<=16777216) (λ(s:Y)=>((θ x.2.2.2.2:Y)-s).toNat) h (λs b=>?_);unfold Ni;exact x!
def eU{x:Bw}(h:W x.2.2.1<=16777216):An (L4 x) λr=>r=E->1<=W x.1/\W x.1<=64:=by
 unfold L4;exact x!
def Nn{x:Bw×Y}(h:W x.1.2.2.1<=16777216):An (Gn x) λr=>r=0->0<=x.2/\x.2<W x.1.1/\W x.1.1<=64:=by
 unfold Gn;exact x!
def Xr{x:U Y×Y}{s:Y×U Y}(h:0<=s.1/\s.1<=θ x.1/\θ x.1<=16777216/\θ s.2<=s.1):An (Ai (LZ x) s) λr=>θ r<=θ x.1:=by
 refine AW (λ(s:Y×U Y)=>0<=s.1/\s.1<=θ x.1/\θ x.1<=16777216/\θ s.2<=s.1) (λ(s:Y×U Y)=>((θ x.1:Y)-s.1).toNat) h (λs c=>?_);unfold LZ;exact x!
def SH{x:S Y×Y}(h:W x.1<=16777216):An (FU x) λr=>W r<=W x.1:=by
 unfold FU;exact x!
def bj{x:U Y×Y}{s:Y}(h:0<=s/\s<=θ x.1/\(θ x.1:Y)<=16777216):An (Ai (Pd x) s) λr=>O:=by
 refine AW (λ(s:Y)=>0<=s/\s<=θ x.1/\(θ x.1:Y)<=16777216) (λ(s:Y)=>((θ x.1:Y)-s).toNat) h (λs b=>?_);unfold Pd;exact x!
def jv{x:S Y×Y}(h:W x.1<=16777216):An (OD x) λr=>O:=by
 unfold OD;exact x!
def iL{x:Bw×Y}(h:DI x.1):An (M3 x) λr=>r.2=0->W r.1=256/\0<=x.2/\x.1.1[x.2.toNat]?=Z r.1:=by
 unfold M3;exact x!
def DI.set{d}{l:S Bd}{i}{t:Bd}{u:S Y}{w:Y}{b:R}(h:DI d)(c:l=d.1)(n:W t=256)(e:W u<=([]:S Y).length):DI (EU l i t,w,u,b,[]):=by subst c;have⟨a,f,g,k⟩:=h;refine⟨by simpa[EU]using a,λj s m=>?_,uA.1 (by simpa using e),rfl⟩;grind[EU]
def iM{x:Bw×Y×Bd×Y}(h:DI x.1):An (RP x) λr=>r.2=0->DI r.1/\∃o,0<=x.2.1/\x.1.1[x.2.1.toNat]?=Z o/\r.1.1=EU x.1.1 x.2.1 (x.2.2.1.take x.2.2.2.toNat++o.drop x.2.2.2.toNat):=by
 have⟨C,s,n,t⟩:=h;refine AA (Nn (by dsimp only;rw[n];simp)) λF i=>AL (λg=>AB (O! · g)) (λg=>AC (y? n!) (λc0=>AC (y? n!) (λB=>AL (y? n!) (λv=>?_))));have⟨b,c,E_⟩:=i g;simp only[T]at v;refine AA (AZ w!) λw j=>AA (AZ (by rw[n];simp)) λz k=>AA (AZ (by rw[t];simp)) λA m=>?_;have j:w=x.1.1:=k!
 have k:z=[]:=k!
 have m:A=[]:=k!
 subst j k m;refine AA (CW (Ae _)) λG e=>AA (AI b c) λH _=>AA (AI b c) λq p=>?_;have D_:=s _ _ p.1;refine AA (CW o! i! (by simp[T])) λI f=>AA (CN (by simp only[T]at f;omega)) λJ u=>AA (AI b c) λ_ _=>AA (AI b c) λ_ _=>AA (SH q!) λy d=>AB λ_=>⟨h.set rfl (by simp only[T]at f;omega) d,q,b,p.1,?_⟩
 dsimp only;rw[u.1,e.1,f.1,BM (l:=q.drop _) (by simp[T])];simp
def whole{l:S Bd}{i:Q}{s o a b r:Bd}(h:T s=256)(f:∀(i:Q)(s:Bd),l[i]?=Z s->W s=256)(hr:r=a++b)(c:a=List.take (ο 256-ο 0) (List.drop (ο 0) s))(d:b=List.take ((T o).toNat-ο 256) (List.drop (ο 256) o))(g:l[i]?=Z o):r=s:=by have j:=f _ _ g;have e:List.drop (ο 256) o=[]:=mJ (by simp only[Int.reduceToNat];omega);simp only[T]at h;rw[hr,c,d,e,List.take_nil,Dc];exact BM w!
def eV{x:Bw×Y×Bd}(h:DI x.1):An (QZ x) λr=>r.2=0->DI r.1/\0<=x.2.1/\r.1.1=EU x.1.1 x.2.1 x.2.2:=by
 have⟨B,o,i,j⟩:=h;refine AA (Nn (by dsimp only;rw[i];simp)) λC g=>?_;refine AL (λb=>AB (λc=>absurd c b)) (λb=>?_);refine AL (λb=>AB (λc=>absurd c (by decide))) (λd=>?_);refine AO (λb=>AB (λc=>absurd c (by decide))) (λq=>?_);refine AA (AZ (by simp;omega)) λy t=>?_;refine AA (AZ (by rw[i];simp)) λz u=>?_;refine AA (AZ (by rw[j];simp)) λA v=>?_;have l:y=x.1.1:=by grind
 have m:z=[]:=by grind
 have n:A=[]:=by grind
 subst l m n;have l1: ∀s,s.1=0->Ai (Nj x) s=some s.2:=λs e=>by rw[HX];unfold Nj;rw[j,e];rfl
 rw[l1 _ rfl];apply BJ;have l2: ∀a s,a.1=[]->s.2.1=0->Ai (Nk x a) s=some (s.1,(s.2.2.2.2.2.2.1,(s.2.2.2.2.2.1,s.2.2.2.2.2.2.2))):=λa s f e=>by rw[HX];unfold Nk;rw[f,e];rfl
 have w: ∀a s,a.1=[]->s.1=0->Ai (Nl a) s=some (s.2.2.2.2.2.1,(s.2.2.2.2.1,s.2.2.2.2.2.2)):=λa s f e=>by rw[HX];unfold Nl;rw[f,e];rfl
 rw[l2 _ _ rfl rfl];repeat' with_reducible first|apply AC<;>intro b|apply AP<;>intro b|apply AO<;>intro b|apply AL<;>intro b|apply AK<;>intro b|(apply BJ;try dsimp only)|apply Bo|apply B6|apply AB|(rw[w _ _ rfl rfl];apply BJ;dsimp only)|(refine AM ?_ (SH ?_);intro r hr)|(refine AM ?_ (AI ?_ ?_);rintro r ⟨hr,q⟩)|(refine AM ?_ (AZ ?_);rintro r ⟨hr,k,p⟩)|(refine AM ?_ (CN ?_);rintro r ⟨hr,k⟩)|(refine AM ?_ (CW ?_ ?_ ?_);rintro r ⟨hr,k⟩)
 all_goals first|omega|(simp;done)|(intro c;exact absurd c (by decide))|(exact λ_=>⟨h.set rfl (by grind) hr,(g (by assumption)).1,congrArg (EU _ _) (whole d o (by assumption) (by assumption) (by assumption) (by assumption))⟩)|(cases b;done)|grind
def DC(p:Bz):Q:=p.2.1.countP λf=>f.2.1
def UC(p:Bz):Q:=p.2.1.countP λf=>f.2.2.2
def AA4{a:Type}{l:S a}{i:Q}{o n:a}{q:a->R}(h:l[i]?=Z o):(l.set i n).countP q+(if q o=E then 1 else 0)=l.countP q+(if q n=E then 1 else 0):=k!
theorem MB{x:Bz×Y×BK}(h:W x.1.2.1<=16777216)(a:0<=x.2.1/\x.2.1<W x.1.2.1):An (Ik x) λr=>r=(x.1.1,x.1.2.1.set x.2.1.toNat x.2.2,x.1.2.2):=by refine AA (AZ (by simpa using h)) λr hr=>?_;have⟨hr,b,_⟩:=hr;subst hr;refine AA (AI a.1 a.2) λ_ _=>AA (AI a.1 a.2) λ_ _=>AB rfl
def core(f:BK):AS×R×Y:=(f.1,f.2.1,f.2.2.1)
def CF(l:S BK):S (AS×R×Y):=l.map core
def AIb{l:S BK}{i:Q}{f g:BK}(h:l[i]?=Z f)(a:core g=core f):CF (l.set i g)=CF l:=by unfold CF;apply JX;grind
theorem tY{l m}(h:CF m=CF l){i:Q}{f:BK}(a:m[i]?=Z f):∃g,l[i]?=Z g/\core g=core f:=by
 have:(CF m)[i]?=Z (core f):=by unfold CF;rw[List.getElem?_map,a];rfl
 rw[h]at this;unfold CF at this;grind
def AIa{l m}(h:CF m=CF l):W m=W l:=by have:=E! W h;simpa[CF]using this
def ABz{p}:DC p=(CF p.2.1).countP λc=>c.2.1:=by unfold DC CF;rw[List.countP_map];rfl
theorem Ku.congr{l m}{n}(h:CF m=CF l)(d:Ku l n):Ku m n:=by refine⟨λi f r b=>?_,λi j f g c s b q=>?_⟩;have⟨g,a,o⟩:=tY h b;have:=d.1 i g r a;grind[core,qC];have⟨e,a,o⟩:=tY h b;have⟨k,p,t⟩:=tY h q;have:=d.2 i j e k c s a p;grind[core]
def P2.uniq{p}(h:P2 p){i j:Q}{f g:BK}(a:p.2.1[i]?=Z f)(b:p.2.1[j]?=Z g)(e:f.1.1=g.1.1):f=g:=by have c:=h.2.2.2.2.2.2;grind
def YL{c:U (AS×R×Y)}{z:Y}{s:Bz}(h:c=CF s.2.1/\z=s.1/\0<=s.2.2/\s.2.2<s.2.1.length/\s.2.1.length<=64):An (Ai SL s) λr=>c=CF r.2.1/\z=r.1/\0<=r.2.2/\r.2.2<r.2.1.length/\r.2.1.length<=64:=by
 refine AW (λs=>c=CF s.2.1/\z=s.1/\0<=s.2.2/\s.2.2<s.2.1.length/\s.2.1.length<=64) UC h (λs n=>?_);have⟨k,l,i,j,m⟩:=n;refine AA (AI i j) λf q=>AK (λo=>?_) (λo=>AB ⟨k,l,i,j,m⟩);refine AA (AI i j) λd t=>?_;have e:d=f:=k!
 subst e;refine AA (MB d! ⟨i,j⟩) λp u=>?_;subst u;refine AO (λv=>?_) (λv=>AB ?_);grind;rw[(AY (x:=s.2.2+1))];refine⟨⟨?_,l,(Int.tmod_nonneg (T (s.2.1.set s.2.2.toNat (d.1,d.2.1,d.2.2.1,false))) (a:=s.2.2+1) o!),(Int.tmod_lt_of_pos (s.2.2+1) (b:=T (s.2.1.set s.2.2.toNat (d.1,d.2.1,d.2.2.1,false))) w!),by rw[WW];exact m⟩,?_⟩;rw[k];exact(AIb (g:=(d.1,d.2.1,d.2.2.1,false)) q.1 rfl).symm;unfold UC;grind
def bx{x}:An (Pk x) λr=>(r.2.2=0->P2 x/\P2 r.1/\CF r.1.2.1=CF x.2.1/\oV r.1 r.2.1)/\(P2 x->W x.2.1≠0->r.2.2=0):=by refine AA Ea λv g=>AP (λc=>AB ⟨n!,λh _=>?_⟩) (λc=>?_);grind;have b:=g.1 c;have e:=b;have⟨k,l,m,i,n,o⟩:=b;refine AO (λa=>AB ⟨n!,λ_ h=>O! a (by simpa[T]using h)⟩) (λa=>?_);simp only[T]at a;refine AA (YL ⟨rfl,rfl,i,o!⟩) λp b=>?_;have⟨q1,q2,q3,q4,q5⟩:=b;refine AA (AI q3 q4) λf d=>?_;have j:=AIa q1;refine AB ⟨λ_=>⟨e,⟨d!,d!,d!,q3,.inr q4,?_⟩,q1.symm,_,f,d.1,rfl⟩,λ_ _=>rfl⟩;grind[Ku.congr]
def iQ{x}:An (M8 x) λr=>P2 x.1->∀(i:Nat)(f:BK),x.1.2.1[i]?=Z f->f.1.1=x.2->f.2.1=X->(∀g∈r.1.2.1,g∈x.1.2.1)/\∀g∈x.1.2.1,g.2.1=E->g∈r.1.2.1:=by
 unfold M8;refine AA Ea λv A=>AP (λn=>AB λo=>O! (A.2 o) (by simp[n])) (λn=>?_);have o:=A.1 n;have T:=o.2.1;have U:=o.2.2.1;refine AA (Gq o!) λi G=>?_;have⟨R,J,K,L⟩:=G;refine AC (λn=>AB λ_ j f p e _=>O! ⟨j,f,p,e⟩ (L n)) (λH=>?_);have⟨k,I,t⟩:=K o!;refine AA (AI o! J) λw Q=>?_;have B:w=k:=by grind[Option.some.inj]
 subst B;refine AK (λu=>AB λ_ j f p e l=>?_) (λu=>?_);have:=o.uniq p I (by rw[e,t]);subst this;rw[u]at l;cases l;have O:=AY (x:=i+1);refine AA (BU) λa C=>AA (BU o! b! i!) λb D_=>?_;have S:=C.2;have M:=D_.2;simp[len]at M;refine AA (AZ (by rw[Bi];omega)) λc s=>?_;have N:=s.2.1;rw[Bi]at N;refine AA (AZ o!) λd E_=>?_;have q:∀(j:Nat)(f:BK),x.1.2.1[j]?=Z f->f.1.1=x.2->f.2.1=X->(∀g∈d,g∈x.1.2.1)/\∀g∈x.1.2.1,g.2.1=E->g∈d:=by intro j f p e l;refine⟨λg y=>?_,λg y F=>?_⟩;grind[List.mem_of_mem_take,List.mem_of_mem_drop];have⟨m,z⟩:=DW y;rw[(by grind[List.take_of_length_le,List.length_drop]:d=x.1.2.1.take i.toNat++x.1.2.1.drop (i.toNat+1)),Ak];rcases RG m i.toNat with h|h|h;exact .inl (BO (i:=m) (by rw[KD h];exact z));grind[Option.some.inj];exact .inr (BO (i:=m-(i.toNat+1)) (by rw[KC];rw[show i.toNat+1+(m-(i.toNat+1))=m by omega];exact z))
 refine AA (P:=λ_=>True) (AC (y? trivial) (y? trivial)) λV _=>AA (P:=λ_=>True) (AC (y? trivial) (y? trivial)) λW _=>AB λ_=>q
theorem eu{x:Bz×Y×Y}:An (Qa x) λr=>r.2=0->P2 x.1/\DC r.1<=DC x.1/\(∀(i:Q) (f:BK),x.1.2.1[i]? =some f->f.1.1=x.2.1->f.2.1=true->f.1.2.1=x.2.2->DC r.1<DC x.1)/\(∀g∈r.1.2.1,∃f∈x.1.2.1,f.1.1=g.1.1/\f.1=g.1)/\ ∀f∈x.1.2.1,f.1.1≠x.2.1->f∈r.1.2.1:=by
 refine AA Ea λv C=>?_;refine AP (λb=>AB (λo=>absurd o (by decide))) (λb=>?_);have l:=C.1 b;have J:=l.2.2.1;have I:=l.2.1;refine AA (Gq (by dsimp only;omega)) λi B=>?_;have⟨G,D_,E_,H⟩:=B;refine AC (λb=>AB (λo=>absurd o (by decide))) (λb=>?_);have⟨f,c,d⟩:=E_ (by omega);refine AA (AI (by omega) D_) λg z=>?_;have e:g=f:=by grind
 subst e;refine AC (λb=>AB (λo=>absurd o (by decide))) (λA=>?_);refine AP (λs=>AB (λ_=>⟨l,Al _,λj k m a h _=>?_,λg z=>⟨g,z,rfl,rfl⟩,λf c _=>c⟩)) (λs=>?_)
 ·have:=l.uniq m c (by rw[a,d]);subst this;rw[s]at h;cases h
 refine AA (P:=λn:BK=>(g.1.2.1=x.2.2->n.2.1=false)/\n.1=g.1) ?_ λn hn=>?_
 ·repeat' with_reducible first|refine AC ?_ ?_<;>intro b|refine AP ?_ ?_<;>intro b|refine AO ?_ ?_<;>intro b|refine AK ?_ ?_<;>intro b|(refine BJ ?_;try dsimp only)|refine Bo ?_|refine B6 ?_|refine AB ?_|(refine AM ?_ (AI ?_ ?_);rintro r ⟨hr,F⟩)
  all_goals grind
 ·refine AA (MB (by dsimp only;omega) ⟨by dsimp only;omega,by dsimp only;omega⟩) λp y=>?_;subst y;refine AB λ_=>?_;have u:=AA4 (q:=λf:BK=>f.2.1) (n:=n) c;rw[s]at u;refine⟨l,?_,λj k m a h t=>?_,ACl c hn.2,λk m w=>yi c k m (by rw[d];exact w)⟩
  ·unfold DC;dsimp only;simp at u;split at u<;>omega
  ·have:=l.uniq m c (by rw[a,d]);subst this;rw[hn.1 t]at u;unfold DC;dsimp only;simp at u;omega
def TE{x}:An (DQ x) λr=>r.2=0->Hh x/\r.1=IL x:=by have⟨v,b,h⟩:=Ob (x:=x);by_cases a:v=0;exact⟨_,Yk (h a),λ_=>⟨h a,rfl⟩⟩;unfold DQ;rw[b,AD];exact AL (y? λe=>O! e a) (O! · a)
theorem tJ:I7 ()=Z (kE 256):=by unfold I7;rw[yp g!];rfl
def YH{x:Bd}{s:Y×AS×AS}(h:0<=s.1/\s.1<=16/\W x=256):An (Ai (Gz x) s) λr=>∀u,r=.inl u->u.1=4:=by
 refine AW (λs=>0<=s.1/\s.1<=16/\W x=256) (λs=>(16-s.1).toNat) h (λs e=>?_);unfold Gz;obtain⟨g,i,j⟩:=e;have b:=AY (x:=s.1*13);have c:=AY (x:=12+s.1*13);have d:=AY (x:=12+s.1*13+1);rw[b,c,d];repeat' with_reducible first|intro a|apply AC|apply AO|apply AK|apply AB|(refine AM ?_ (De ?_ ?_);intro r hr)|(refine AM ?_ (CW ?_ ?_ ?_);rintro r ⟨hr,f⟩)|(refine AM ?_ (Ru ?_ ?_);rintro r ⟨hr,f⟩)
 all_goals try dsimp only[T]at*
 all_goals first|omega|grind[AY]
def bi{x:Bd}(h:W x<=1099511627776):An (Em x) λr=>(r.2=0->Hh r.1/\x=IL r.1/\x≠kE 256)/\(r.2=7->x=kE 256):=by
 unfold Em;rw[tJ,AD];repeat' with_reducible first|intro b|apply AO|apply AL|apply AK|(apply BF;try dsimp only)|(apply Ay;try dsimp only)|(apply BH<;>(intro u c;try subst c))|apply AB|(refine AM ?_ (Cp ?_);intro r hr)|(refine AM ?_ (QY ?_);intro r hr)|(refine AM ?_ (YH ?_);intro r hr)|(apply AA (TE);intro r hr)|(refine AM ?_ (CW ?_ ?_ ?_);rintro r ⟨hr,d⟩)
 all_goals try dsimp only[T]at*
 all_goals first|trivial|omega|(exact⟨n!,n!⟩)|grind
def jt{x}:An (C6 x) λr=>r=(x,0,GK.all (X,[])):=by
 unfold C6;exact x!
def Rd(s:Bd)(p:Y)(q:AS):Prop:=q.1=p/\((s=kE 256/\q=(p,0,GK.all (X,[])))\/(Hh q/\s=IL q/\s≠kE 256))
def ZA{x:Bd×Y}(h:W x.1<=1099511627776):An (Co x) λr=>r.2=0->Rd x.1 x.2 r.1:=by refine AC (y? n!) (λ_=>AC (y? n!) (λ_=>AA (bi h) λv c=>AO (λd=>?_) (λ_=>AO (λf=>AL (y? n!) (λb=>AB λa=>⟨b,.inr (c.1 a)⟩)) (λhn=>AB λa=>O! a hn))));exact AA jt λw e=>AB λ_=>by rw[e];exact⟨rfl,.inl ⟨c.2 d,rfl⟩⟩
def fB{x:By×Y×Y×Bd}(h:W x.2.2.2<=1099511627776):An (MC x) λr=>r.2=0->Rd x.2.2.2 x.2.1 r.1:=by
 unfold MC;repeat' with_reducible first|intro a|apply AC|apply AP|apply AL|apply AK|apply AB|(apply AA (GO);intro r hr)|(refine AM ?_ (ZA ?_);intro r hr)|(refine AM ?_ (AI ?_ ?_);rintro r ⟨hr,c⟩)
 all_goals try dsimp only[T]at*
 all_goals first|assumption|omega|(intro b;exact O! b v!)|(intro b;exact O! b g!)|(intro _;exact hr v!)|grind
def Ub{x}:An (I9 x) λr=>(r.2=0->PJ x.2/\G2 x.1.2.2 x.2.2.1=Z x.2.2.2.1)/\(PJ x.2->x.2.1=x.1.1->G2 x.1.2.2 x.2.2.1=Z x.2.2.2.1->r=((x.1.1,x.1.2.1,Xi x.1.2.2 x.2.2.1 x.2.2.2.2),0)):=by unfold I9;refine AA Uc λv g=>AP (λe=>AB ⟨n!,λh=>O! (g.2 h) (by simp[e])⟩) (λe=>?_);have b:=g.1 e;refine AL (λe=>AB ⟨n!,λ_ h=>O! h e⟩) (λj=>?_);obtain⟨c,i,_⟩:=De (a:=x.1.2.2) b.2.2.1 b.2.2.2.1;rw[i];refine BJ (BJ (AK (λd=>AB ⟨n!,λ_ _ h=>?_⟩) (λd=>BJ (BJ (AB ⟨λ_=>⟨b,?_⟩,λ_ _ _=>rfl⟩)))));rw[BY h]at d;simp at d;obtain⟨k,l⟩:=c;simp at d;rw[d.1,d.2]
def ABy{x}{e}(h:Hh x)(d:MZ e)(f:e.2.1=1\/e.2.1=2)(b:e.2.2.2.2.2.2.1.1=x.1)(g:e.2.2.2.2.1=x.2.1)(c:G2 x.2.2 e.2.2.2.2.2.2.1.2.1=Z e.2.2.2.2.2.2.1.2.2.1):JG (x,e)=Z (upd x e,0):=by
 suffices i:An (JG (x,e)) λr=>r=(upd x e,0) by obtain⟨r,hr,rfl⟩:=i;exact hr
 have a:PJ e.2.2.2.2.2.2.1:=by grind[MZ,Vy]
 refine AA Cc λv j=>AP (λa=>O! (j.2 d) (by simp[a])) (λ_=>AA CT λw k=>AP (λa=>O! (k.2 f) (by simp[a])) (λ_=>?_));rw[tZ h];refine BJ (AL (O! rfl ·) (λ_=>AL (O! b ·) (λ_=>AL (O! g ·) (λ_=>AA Ub λr hr=>?_))));rw[hr.2 a b c];exact AL (O! rfl ·) (y? rfl)
def eY{x:AE×S AE}(h:W x.2<=16777215):An (L7 x) λr=>r=x.1::x.2:=by
 unfold L7;exact x!
def Ge(L:U AE):Prop:= ∀(i:Q) (e:AE),L[i]? =some e->e.1=1+i/\MZ e
def Dh.num{l}(h:Dh l)(a:l.1=1):Ge l.2.1:=λi e b=>by have:=h.2.2.2.2.2 i e b;rw[a]at this;exact this
def Ge.take{L}(h:Ge L)(k:Q):Ge (L.take k):=λi e a=>h i e k!
def fY{L:S AE}{k:Q}(h:k<W L):L.take (k+1)=L.take k++[L[k]]:=by rw[Ck,Au h];rfl
def Ge.at{L}(h:Ge L){k:Q}(a:k<W L):L[k].1=1+k/\MZ L[k]:=h k _ (Au a)
def W8{L}(h:Ge L)(p:Y):BZ L p<=W L:=by
 have:=pL (p:=p) (b:=W L+1) L 0 o! λe c=>by have⟨i,a⟩:=DW c;have:=(h i e a).1;have:=Cs a;omega
 unfold BZ;omega
def Rx{L}(h:Ge L)(p:Y)(j:Q):∀k:Q,j<=k->BZ (L.take j) p<=BZ (L.take k) p
 |0,hj=>by rw[show j=0 by omega];exact Ae _
 |k+1,hj=>by by_cases e:j=k+1;rw[e];exact Ae _;have c:=Rx h p j k o!;by_cases a:k<W L;rw[fY a,P0];have b:=W8 (h.take k) p;have d:=(h.at a).1;rw[BP]at b;split<;>omega;rw[BM (l:=L) (i:=k+1) o!];rwa[BM (l:=L) (i:=k) o!]at c
def yF{L}(h:Ge L){p}{i:Q}{e:AE}(a:L[i]?=Z e)(c:aR p e=E){k:Q}(d:i<k):e.1<=BZ (L.take k) p:=by have b:=Cs a;have:=Rx h p (i+1) k d;rw[fY b,P0,(BY ((Au b).symm.trans a):L[i]=e),C! c]at this;exact this
def xC{L}(h:Ge L){p}{j k}(g:BZ (L.take j) p=BZ (L.take k) p):((L.take k).drop j).filter (aR p)=[]:=by refine List.filter_eq_nil_iff.2 λe f d=>?_;obtain⟨i,a⟩:=DW f;rw[KC]at a;have b:=Cs a;rw[BP]at b;rw[KD o!]at a;have:=yF h a d (k:=k) o!;have c:=W8 (h.take j) p;have:=(h _ _ a).1;rw[BP]at c;omega
def vc(L:S AE){j k:Q}(h:j<=k):L.take k=L.take j++(L.take k).drop j:=by
 conv=>lhs;rw[<-DG j (L.take k)]
 rw[Kf,RH h]
def af{L:S AE}{p}{j k:Q}(h:j<=k):st (L.take k) p=(((L.take k).drop j).filter (aR p)).foldl upd (st (L.take j) p):=by
 conv=>lhs;rw[vc L h]
 exact ACn _ _ _
theorem ml{L}(h:Ge L){p}{j k}(b:BZ (L.take j) p=BZ (L.take k) p):st (L.take j) p=st (L.take k) p:=by rcases Nat.le_total j k with a|a;rw[af a,xC h b];rfl;rw[af a,xC h b.symm];rfl
def tP{L}(h:Ge L){p:Y}:∀{k},0<BZ (L.take k) p->∃(i:Q)(e:AE),i<k/\L[i]?=Z e/\aR p e=E/\(i:Y)+1=BZ (L.take k) p
 |0,hk=>O! hk (by simp[BZ])
 |k+1,hk=>by by_cases b:k<W L;rw[fY b,P0]at hk⊢;by_cases a:aR p L[k]=E;rw[C! a];exact⟨k,L[k],o!,Au b,a,by have:=(h.at b).1;omega⟩;rw[D! a]at hk⊢;obtain⟨i,e,d,r⟩:=tP h hk;exact⟨i,e,o!,r⟩;rw[BM (l:=L) (i:=k+1) o!]at hk⊢;rw[<-BM (l:=L) (i:=k) o!]at hk;obtain⟨i,e,d,f,g,c⟩:=tP h hk;rw[BM (l:=L) (i:=k) o!]at c;exact⟨i,e,o!,f,g,c⟩
def Ry{L}(h:Ge L)(p:Y)(k:Q):0<=BZ (L.take k) p:=Rx h p 0 k (BV _)
def Uw{L}(h:Ge L){p}{k}:BZ (L.take (BZ (L.take k) p).toNat) p=BZ (L.take k) p:=by
 have f:=Ry h p k;by_cases d:BZ (L.take k) p=0;rw[d];rfl;obtain⟨i,e,g,a,c,hn⟩:=tP h (by omega:0<BZ (L.take k) p);have b:(BZ (L.take k) p).toNat=i+1:=o!
 have:=yF h a c (k:=i+1) o!;have:=W8 (h.take (i+1)) p;have:=(h i e a).1;rw[b];rw[BP]at*;omega
theorem Xc{L}(h:Ge L){p:Y}(b:0<=p/\p<64)(d:W L<=1099511627776):∀k:Q,Hh (st (L.take k) p)
 |0=>⟨b.1,b.2,Ae 0,(by decide:(0:Y)<=1099511627776),λi=>⟨⟨BV 12,.inr rfl⟩,λ_=>rfl⟩⟩
 |k+1=>by
  have a:=Xc h b d k;by_cases c:k<W L;rw[fY c,ABu];split;rename_i m;have⟨g,j⟩:=h.at c;have e:PJ L[k].2.2.2.2.2.2.1:=by grind[MZ,Vy,aR]
  refine⟨a.1,a.2.1,by show 0<=L[k].1;omega,by show L[k].1<=_;omega,λi=>⟨?_,λf=>?_⟩⟩;show HA (Xi _ _ _ i);unfold Xi;split;exact e.2.2.2.2.2;exact(a.2.2.2.2 i).1;have:L[k].1=0:=f;omega;exact a;rw[BM (l:=L) (i:=k+1) o!];rwa[BM (l:=L) (i:=k) o!]at a
def OKs:AS->S AE->Prop
 |_,[]=>O
 |x,e::r=>(Hh x/\MZ e/\(e.2.1=1\/e.2.1=2)/\e.2.2.2.2.2.2.1.1=x.1/\e.2.2.2.2.1=x.2.1/\G2 x.2.2 e.2.2.2.2.2.2.1.2.1=Z e.2.2.2.2.2.2.1.2.2.1)/\OKs (upd x e) r
def OKs.snoc:∀{x}{l}{e:AE},OKs x l->OKs (l.foldl upd x) [e]->OKs x (l++[e])
 |_,[],_,_,h=>h
 |_,_::_,_,h,g=>⟨h.1,OKs.snoc h.2 g⟩
def rO{n}{L}(h:Ge L)(g:LI n L){p:Y}(o:0<=p/\p<64)(m:W L<=1099511627776)(j:Q):∀k:Q,j<=k->OKs (st (L.take j) p) (((L.take k).drop j).filter (aR p))
 |0,hj=>by rw[show j=0 by omega];exact trivial
 |k+1,hj=>by
  by_cases e:j=k+1;rw[e,Ro (by rw[BP];omega)];exact trivial;have c:=rO h g o m j k o!;by_cases b:k<W L;rw[fY b,qP (by rw[BP];omega),GM,Mr,mM];split;rename_i q;refine c.snoc ⟨?_,P!⟩;rw[<-af o!];have r:=g k _ (Au b);have a:(L[k].2.1=1\/L[k].2.1=2)/\L[k].2.2.2.2.2.2.1.1=p:=by simpa[aR]using q
  have⟨d,f⟩:=r.1 a.1;rw[a.2]at d f;exact⟨Xc h o m k,(h.at b).2,a.1,by rw[a.2,Sf],by rw[d,Jg],f⟩;rw[Dc];exact c;rw[BM (l:=L) (i:=k+1) o!];rwa[BM (l:=L) (i:=k) o!]at c
def iC{L}(h:Ge L){p}{m j k:Q}(l:m<=j)(n:BZ (L.take m) p=BZ (L.take j) p):((L.take k).drop m).filter (aR p)=((L.take k).drop j).filter (aR p):=by rw[<-DG (j-m) ((L.take k).drop m),GM,LK,show m+(j-m)=j by omega];refine(E! (· ++_) (List.filter_eq_nil_iff.2 λe g f=>?_)).trans (B5 _);obtain⟨i,a⟩:=DW g;have c:=Cs a;rw[BP]at c;rw[KD o!,KC]at a;have b:=Cs a;rw[BP]at b;rw[KD o!]at a;have:=yF h a f (k:=j) o!;have d:=W8 (h.take m) p;have:=(h _ _ a).1;rw[BP]at d;omega
def AJV{n}{l}(t:Dh l)(C:l.1=1)(I:LI n l.2.1){p:Y}(T:0<=p/\p<64){j k:Nat}(A:BZ (l.2.1.take j) p<=BZ (l.2.1.take k) p):An (RQ (l,p,BZ (l.2.1.take k) p,BZ (l.2.1.take j) p)) λr=>r=(((l.2.1.take k).drop j).filter (aR p),0):=by
 have b:=t.num C;have O:=Ry b p k;have Q:=Ry b p j;have R:=t.2.2.1;refine AA Bb λv B=>AP (λa=>O! (B.2 t) (by simp[a])) (λ_=>AC (O! · d!) (λ_=>AC (O! · d!) (λ_=>AC (O! · d!) (λ_=>AC (O! · d!) (λ_=>AA (P:=λr=>r=.inr (((l.2.1.take k).drop j).filter (aR p),BZ (l.2.1.take j) p)) ?_ λr hr=>?_)))))
 ·refine CQ (λs=>∃m:Nat,m<=k/\s=(((l.2.1.take k).drop m).filter (aR p),BZ (l.2.1.take m) p)/\BZ (l.2.1.take j) p<=s.2) (·.2.toNat) ⟨k,Al _,by rw[Ro (by rw[BP];omega)];rfl,A⟩ ?_;rintro s ⟨m,S,rfl,x⟩;unfold Ue;dsimp only at x⊢;refine AC (λa=>?_) (λa=>k? ?_)
  ·obtain⟨i,e,K,q,o,J⟩:=tP b (by omega:0<BZ (l.2.1.take m) p);have z:=Cs q;have c:(e.2.1=1\/e.2.1=2)/\e.2.2.2.2.2.2.1.1=p:=by simpa[aR]using o
   refine AA HJ λg D_=>?_;have F:=D_.2 t d! d!;have⟨_,_,u,_⟩:=D_.1 F;dsimp only at u;rw[C,show(BZ (l.2.1.take m) p-1).toNat=i by omega,q]at u;rw[F,<-BY u];refine AL (O! rfl ·) (λ_=>AA CT λw N=>AP (λa=>O! (N.2 c.1) (by simp[a])) (λ_=>AL (O! c.2 ·) (λ_=>?_)));have y:=EK (aR p) ((l.2.1.take k).drop m);rw[C5,BP]at y;have d:=((I i e q).1 c.1).1;rw[c.2]at d;have E_:=Uw b (p:=p) (k:=m);rw[show(BZ (l.2.1.take m) p).toNat=i+1 by omega]at E_;have L:=Uw b (p:=p) (k:=j);have M:=Rx b p (BZ (l.2.1.take j) p).toNat i o!;refine AA (eY d!) λf H=>y! ⟨i,o!,?_,d!⟩ (by dsimp only;rw[d];have:=W8 (b.take i) p;rw[BP]at this;omega)
   rw[d,H,<-iC b (m:=i+1) (j:=m) o! E_,OQ (l:=l.2.1.take k) (i:=i) (by rw[BP];omega),Mr];have G:(l.2.1.take k)[i]'(by rw[BP];omega)=e:=by rw[ng];exact BY ((Au z).symm.trans q)
   rw[G,C! o]
  have e:BZ (l.2.1.take m) p=BZ (l.2.1.take j) p:=o!
  rw[e];rcases Nat.le_total m j with h|h;rw[iC b h e];rw[iC b h e.symm]
 subst hr;exact Ay (AC (O! · d!) (y? rfl))
def AIm{n:Y}{l:Ac}(f:Dh l)(C:l.1=1)(F:LI n l.2.1){p:Y}(t:0<=p/\p<64){j k:Nat}:An (RZ (l,(st (l.2.1.take j) p,BZ (l.2.1.take k) p))) λr=>r=(if BZ (l.2.1.take j) p<=BZ (l.2.1.take k) p then st (l.2.1.take k) p else st (l.2.1.take j) p,0):=by
 generalize G:(if BZ (l.2.1.take j) p<=BZ (l.2.1.take k) p then st (l.2.1.take k) p else st (l.2.1.take j) p)=y;have d:=f.num C;have S:=Ry d p k;have T:=f.2.2.1;have q:=Xc d t o!;suffices Q:An (Ra (l,(st (l.2.1.take j) p,BZ (l.2.1.take k) p))) λr=>r.1=y/\r.2.2=0 from AA Q λr hr=>AB (by rw[hr.1,hr.2]);refine AA (P:=λr=> ∃b:U AE,r=(b,0)/\b.length<=4096/\OKs (st (l.2.1.take j) p) b/\b.foldl upd (st (l.2.1.take j) p)=y) ?_ λr hr=>?_;refine AA Bb λv w=>AP (λa=>absurd (w.2 f) (by simp[a])) (λ_=>?_);rw[tZ (q j)];refine BJ (AL (λa=>absurd rfl a) (λ_=>AC (λa=>absurd a d!) (λ_=>AC (λa=>AB ?_) (λa=>?_))));rw[Jg]at a;refine⟨[],rfl,q!,trivial,?_⟩;rw[<-G];split;exact ml d (by dsimp only at a;omega);rfl;rw[Jg]at a;have c:j<=k:=by rcases Nat.le_total j k with h|h;exact h;have:=Rx d p k j h;dsimp only at a;omega
 have e:((st (l.2.1.take j) p).1,(BZ (l.2.1.take k) p,(st (l.2.1.take j) p).2.1))=(p,(BZ (l.2.1.take k) p,BZ (l.2.1.take j) p)):=by rw[Sf,Jg]
 dsimp only at e⊢;rw[e];refine AA (AJV f C F t (by dsimp only at a;omega)) λr hr=>AB ⟨_,hr,?_,rO d F t o! j k c,by rw[<-G,if_pos (by dsimp only at a;omega)];exact(af c).symm⟩;have o:=EK (aR p) ((l.2.1.take k).drop j);rw[C5,BP]at o;omega
 ·obtain⟨b,rfl,m,O,u⟩:=hr;refine AL (λa=>absurd rfl a) (λ_=>AA (P:=λr=> ∃z,r= .inr (y,z)) ?_ λr hr=>?_)
  ·refine CQ (λ(s:Y×AS×AS)=> ∃A B,b=A++B/\s.1=A.length/\OKs s.2.1 B/\B.foldl upd s.2.1=y) (λ(s:Y×AS×AS)=>((b.length:Y)-s.1).toNat) ⟨[],b,rfl,rfl,O,u⟩ ?_;rintro⟨i,x,z⟩ ⟨A,B,rfl,D_,E_,g⟩;dsimp only at D_ E_ g;subst D_;unfold Uh;dsimp only[len];rw[Aa]at m;refine AC (λa=>?_) (λa=>An.done ?_)
   ·obtain _|⟨e,B⟩:=B;simp at a;have R:ix (A++e::B) (A.length:Y)=some e:=by unfold ix;rw[if_pos o!,CR,Cn (Al _),G5];rfl
    obtain⟨⟨H,I,J,K,L,M⟩,N⟩:=E_;rw[R,AD,ABy H I J K L M,AD,AY (x:=(A.length:Y)+1)];refine AL (λa=>absurd rfl a) (λ_=>An.next ⟨A++[e],B,q!,q!,N,g⟩ d!)
   obtain _|⟨e,B⟩:=B;exact⟨z,by rw[<-g];rfl⟩;simp at a;omega
  obtain⟨z,rfl⟩:=hr;exact Ay (AB ⟨rfl,rfl⟩)
variable {B:Int->Prop}
def KS(B:Y->Prop)(k m:AU):Prop:=m.1=k.1/\LX k.2.2.1 m.2.2.1/\Dh m.2.2.1/\m.2.2.2.2.1=k.2.2.2.2.1/\m.2.2.2.2.2.1=k.2.2.2.2.2.1/\SK B m
def KS.refl{k}(h:SK B k)(a:Dh k.2.2.1):KS B k k:=⟨rfl,LX.refl _,a,rfl,rfl,h⟩
def KS.trans{a b c}(h:KS B a b)(g:KS B b c):KS B a c:=⟨g.1.trans h.1,h.2.1.trans g.2.1,g.2.2.1,g.2.2.2.1.trans h.2.2.2.1,g.2.2.2.2.1.trans h.2.2.2.2.1,g.2.2.2.2.2⟩
def LX.of{a b:Ac}(h:b.1=a.1)(g:b.2.1=a.2.1)(d:a.2.2<=b.2.2):LX a b:=⟨h,d,[],by rw[g,Dc]⟩
def KI.of{k m:AU}(h:KI B k)(a:m.1=k.1)(b:m.2.2.1.2.1=k.2.2.1.2.1)(c:m.2.2.2.1=k.2.2.2.1)(d:m.2.2.2.2.2.2=k.2.2.2.2.2.2):KI B m:=by unfold KI;rw[a,b,c,d];exact h
def td{x:Ac×Y}(h:Dh x.1)(c:x.2<=x.1.1+W x.1.2.1-1):An (ER x) λr=>r.2=0:=by refine AA Bb λv d=>AP (λa=>?_) (λ_=>?_);grind;refine AA Eo λe b=>?_;rw[h.last]at b;exact AC (O! · o!) (y? rfl)
def KR{x:AU×Y}(h:SK B x.1)(c:Dh x.1.2.2.1):An (GD x) λr=>KS B x.1 r/\r.2.2.2.1=x.1.2.2.2.1/\(x.2<=x.1.2.2.1.1+W x.1.2.2.1.2.1-1->x.2<=r.2.2.1.2.2):=by unfold GD;refine AA Fl λv d=>?_;have d:=d c;refine AA (KM.and (td c (by dsimp only;split<;>omega))) λw a=>?_;have⟨i,e,j,k,f⟩:=a.1 a.2;refine Bo (AO (λb=>AB ⟨⟨rfl,LX.of j e k,i,rfl,rfl,SB.sk h.sb (h.ki.of rfl e rfl rfl)⟩,rfl,λg=>?_⟩) (O! a.2 ·));dsimp only at f⊢;split at f<;>omega
def aB{x:AU×Y×Y}(h:SK B x.1)(p:∃f∈x.1.2.2.2.1.2.1,f.1.1=x.2.1/\f.1.2.1=x.2.2):An (KU x) λr=>r.2=0->VK x.1/\KS B x.1 r.1/\DC r.1.2.2.2.1<=DC x.1.2.2.2.1/\∀(i:Nat)(f:BK),x.1.2.2.2.1.2.1[i]?=Z f->f.1.1=x.2.1->f.2.1=E->f.1.2.1=x.2.2->DC r.1.2.2.2.1<DC x.1.2.2.2.1:=by unfold KU;refine AA (CM h.sb) λv O=>AP (λb=>AB n!) (λb=>?_);have A:=O b;refine AC (λb=>AB n!) (λ_=>AC (λb=>AB n!) (λ_=>AC (λb=>AB n!) (λ_=>AA Fl λ_ _=>AC (λb=>AB n!) (λ_=>AA Fo λi L=>AA (P:=λs=>(∃u,s=.inl u/\u.1≠0)\/∃u,s=.inr u/\(DC u.1<=DC x.1.2.2.2.1/\∀(i:Nat)(f:BK),x.1.2.2.2.1.2.1[i]?=Z f->f.1.1=x.2.1->f.2.1=E->f.1.2.1=x.2.2->DC u.1<DC x.1.2.2.2.1)/\(∀g∈u.1.2.1,∃f∈x.1.2.2.2.1.2.1,f.1.1=g.1.1/\f.1=g.1)/\∀f∈x.1.2.2.2.1.2.1,f.1.1≠x.2.1->f∈u.1.2.1) ?_ λs N=>?_))));refine AC (λb=>?_) (λb=>AB (.inr ⟨_,rfl,⟨Al _,λj f M q _ _=>O! (L.2.2.2 A.2.2.2.1 ⟨j,f,M,q⟩) b⟩,λg K=>⟨g,K,rfl,rfl⟩,λf n _=>n⟩));grind[AA,eu,AL,AB];rcases N with⟨u,rfl,t⟩|⟨u,rfl,t,m,y⟩;exact BF (AB λc=>O! c t);apply Ay;refine AA (GC h.sb) λa J=>AL (λb=>AB (O! · b)) (λb=>AB λ_=>?_);have⟨_,⟨a1,a2,a3,a4,a5,a6,a7,a8,e,E_,Q,F,o,R,S,G⟩,_⟩:=J b;have⟨f,n,H,I⟩:=p;have⟨q0,w,C,D_⟩:=G rfl;have T:=h.ki.2.2 f n;have d:=E! (·.2.1) ((h.ki.2.1 x.2.1 o! o!).1 f n H);rw[Jg]at d;refine⟨A,⟨a1,a2,a3,a5,a6.2.1 rfl,a8.1,a8.2.1,a8.2.2,?_⟩,t⟩;unfold KI;dsimp only at F o C D_⊢;rw[a1,a7,E_,D_];have k:=E! (·.1) o;have l:=E! (·.2.1.1) o;dsimp only at k l;refine⟨h.ki.1.app ⟨λh=>o!,λ_=>?_,λh=>o!⟩,(h.ki.2.1.written o! o! o! m y C).app o!,h.ki.2.2.sub m⟩;rw[k,l,<-I];exact d
def iU{x}(h:SK B x):An (NB x) λr=>r.2.2.2=0->VK x/\KS B x r.1/\(r.2.2.1=E->DC r.1.2.2.2.1=DC x.2.2.2.1/\∃(i:Q)(f:BK),r.1.2.2.2.1.2.1[i]?=Z f/\f.1=r.2.1/\f.2.1=E/\r.2.1.2.1<=r.1.2.2.1.2.2):=by
 unfold NB;refine AA (CM h.sb) λv M=>AP (λn=>AB n!) (λn=>?_);have c:=M n;refine AC (λn=>AB (λ_=>⟨c,KS.refl h c.2.2.1,λt=>by cases t⟩)) (λm=>AA bx λw D_=>?_);have⟨_,F,O,P⟩:=D_.1 (D_.2 c.2.2.2.1 (by have:=c.2.2.2.1.1;simp[T]at m;omega));have G:∀g∈w.1.2.1,∃f∈x.2.2.2.1.2.1,core g=core f:=λg b=>by grind[List.getElem?_of_mem,tY,List.mem_of_getElem?]
 have H:∀f∈x.2.2.2.1.2.1,∃g∈w.1.2.1,core g=core f:=λf l=>by grind[List.getElem?_of_mem,tY,List.mem_of_getElem?]
 have u:∀{f g},core f=core g->f.1=g.1/\f.2.1=g.2.1:=λe=>⟨E! (·.1) e,E! (·.2.1) e⟩
 have k1:∀g∈w.1.2.1,∃f∈x.2.2.2.1.2.1,f.1.1=g.1.1/\f.1=g.1:=λg b=>by have⟨f,l,e⟩:=G g b;exact⟨f,l,by rw[(u e).1],by rw[(u e).1]⟩
 have N:∀f∈x.2.2.2.1.2.1,f.2.1=E->∃g∈w.1.2.1,g.1.1=f.1.1/\g.2.1=E:=λf l y=>by have⟨g,b,e⟩:=H f l;exact⟨g,b,by rw[(u e).1],by rw[(u e).2,y]⟩
 refine AA Fo λi A=>?_;have E_:=A.2.2.2 F P;refine AA (AI E_ A.2.1) λf l=>?_;have a:KI B (x.1,x.2.1,x.2.2.1,w.1,x.2.2.2.2):=⟨h.ki.1,h.ki.2.1.frames k1 N,h.ki.2.2.sub k1⟩
 apply AP<;>intro n;have⟨_,L,o,J⟩:=A.2.2.1 E_;have K:L=f:=by have:=l.1;rw[o]at this;exact BY this
 subst K;refine AA iQ λd y=>AB λ_=>⟨c,⟨rfl,LX.refl _,c.2.2.1,rfl,rfl,h.1,h.2.1,h.2.2.1,?_⟩,λt=>by cases t⟩
 have⟨C,I⟩:=y F _ _ o J n;exact⟨h.ki.1,a.2.1.frames (λg b=>⟨g,C g b,rfl,rfl⟩) (λg b s=>⟨g,I g b s,rfl,s⟩),a.2.2.sub λg b=>⟨g,C g b,rfl,rfl⟩⟩;refine AA (KR (SB.sk ⟨h.1,h.2.1,h.2.2.1⟩ a) c.2.2.1) λk j=>AB λ_=>⟨c,j.1,λ_=>⟨?_,i.toNat,f,?_,rfl,n,j.2.2 ?_⟩⟩
 rw[j.2.1,ABz,ABz,O];rw[j.2.1];exact l.1;have q:=BO l.1;have p:=a.2.2 f q;have:=E! (·.2.1) ((a.2.1 f.1.1 p.1 p.2.1).1 f q rfl);dsimp only at this⊢;rw[this,Jg];have:=mZ c.2.2.1 f.1.1;omega
def AIl(P:S AE)(p:Y)(s:Bd):Prop:=s=kE 256\/∃j:Q,s=IL (st (P.take j) p)
def dead(s:Bd):Prop:=s≠kE 256/\∀q,Hh q->s≠IL q
def DP(B:Y->Prop)(P:S AE)(d:Bw):Prop:=DI d/\∀(i:Q)(s:Bd),d.1[i]?=Z s->(B i->AIl P i s)/\(B i\/dead s)
def dl(l:Ac):S AE:=l.2.1.take l.2.2.toNat
def DJ(B:Y->Prop)(l:Ac)(d:Bw):Prop:=l.1=1/\DP B (dl l) d
def DP.up{P Q:S AE}{d}{m}(h:DP B P d)(e:P=Q.take m):DP B Q d:=⟨h.1,λi s a=>⟨λb=>by rcases(h.2 i s a).1 b with q|⟨j,q⟩;exact .inl q;rw[e,Kf]at q;exact .inr ⟨_,q⟩,(h.2 i s a).2⟩⟩
def DJ.up{a b}{d}(h:DJ B a d)(g:LX a b):DJ B b d:=by obtain⟨c,f,t,e⟩:=g;refine⟨c.trans h.1,h.2.up (m:=min a.2.2.toNat (W a.2.1)) ?_⟩;unfold dl;rw[e,Kf,RH o!,Yq o!,Nat.min_comm,<-Kf,BM (l:=a.2.1.take _) (by rw[BP];omega)]
def AF2{L}(h:Ge L){p d:Y}(f:BZ L p<=d):st (L.take (ο d)) p=st L p:=by
 have e:=Hk (l:=L);have a:=Uw h (p:=p) (k:=W L);rw[e]at a;have b:=Rx h p (BZ L p).toNat (ο d) o!
 have c:BZ (L.take (ο d)) p<=BZ L p:=by rcases Nat.le_total (ο d) (W L)with q|q;have:=Rx h p _ _ q;rwa[e]at this;rw[BM q];exact Ae _
 have:=ml h (p:=p) (j:=ο d) (k:=W L) (by rw[e];omega);rwa[e]at this
def Uj{x:AV×AU×AS}(h:SK B x.2.1)(A:Dh x.2.1.2.2.1)(l:DJ B x.2.1.2.2.1 x.1.2)(n:∃f∈x.2.1.2.2.2.1.2.1,f.1=x.2.2)(y:x.2.2.2.1<=x.2.1.2.2.1.2.2):An (MO x) λr=>r.2=0->KS B x.2.1 r.1.1/\DJ B r.1.1.2.2.1 r.1.2/\DC r.1.1.2.2.2.1<=DC x.2.1.2.2.2.1/\((∃(i:Q)(f:BK),x.2.1.2.2.2.1.2.1[i]?=Z f/\f.1=x.2.2/\f.2.1=E)->DC r.1.1.2.2.2.1<DC x.2.1.2.2.2.1):=by
 have⟨f,m,b⟩:=n;have a:=h.ki.2.2 f m;have c:=(h.ki.2.1 f.1.1 a.1 a.2.1).1 f m rfl;refine D7 TE λv G _=>AA (eV l.2.1) λw L=>AL (λd=>AB (O! · d)) (λd=>AA (aB h ⟨f,m,by rw[b],by rw[b]⟩) λu K=>AL (λd=>AB (O! · d)) (λq=>AB λ_=>?_));have⟨D_,E_,M,N⟩:=K q;have⟨O,P,F⟩:=L d;refine⟨E_,DJ.up ⟨l.1,O,λi s j=>?_⟩ E_.2.1,M,λ⟨i,g,H,t,I⟩=>N i g H (by rw[t]) I (by rw[t])⟩;have C:=A.num l.1;have k:=Xc C (p:=f.1.1) ⟨a.1,by have:=D_.2.1;have:=D_.1;dsimp only at*;omega⟩ (by have:=A.2.2.1;omega) (W x.2.1.2.2.1.2.1);rw[Hk,<-c,b]at k;rw[Yk k]at G;dsimp only at F j;rw[F]at j;by_cases J:i=x.2.2.1.toNat
 subst J;have e:s=IL x.2.2:=by unfold EU at j;grind
 rw[b]at a c;rw[show((x.2.2.1.toNat:Q):Y)=x.2.2.1 by omega];refine⟨λ_=>.inr ⟨(dl x.2.1.2.2.1).length,?_⟩,.inl a.2.2.2⟩;rw[Hk,e];unfold dl;rw[AF2 C (by have:=E! (·.2.1) c;rw[Jg]at this;omega),<-c];exact l.2.2 i s (by unfold EU at j;rwa[List.getElem?_set_ne o!]at j)
def SvR(B:Y->Prop)(s r:AV):Prop:=KS B s.1 r.1/\DJ B r.1.2.2.1 r.2
def ii{x:AV}(h:SK B x.1)(j:Dh x.1.2.2.1)(g:DJ B x.1.2.2.1 x.2):An (NG x) λr=>r.2=0->SvR B x r.1:=by unfold NG;refine AA (P:=λr=>r.1=0->SvR B x r.2) ?_ λr hr=>AB hr;refine AW (SvR B x ·.1) (DC ·.1.1.2.2.2.1) ⟨KS.refl h j,g⟩ (λs c=>?_);unfold Ui;refine AA (iU c.1.2.2.2.2.2) λv k=>AL (λa=>AB (O! · a)) (λa=>?_);have⟨q,b,m⟩:=k a;refine AP (λa=>AB (λ_=>⟨c.1.trans b,c.2.up b.2.1⟩)) (λd=>?_);have⟨q1,i,f,q2,q3,q4,q5⟩:=m d;refine AA (Uj b.2.2.2.2.2 b.2.2.1 (c.2.up b.2.1) ⟨f,BO q2,q3⟩ q5) λw l=>AL (λa=>AB (O! · a)) (λa=>AB ?_);have⟨n,o,t,p⟩:=l a;exact⟨⟨(c.1.trans b).trans n,o⟩,by have:=p ⟨i,f,q2,q3,q4⟩;dsimp only at*;omega⟩
end Go.Pm
namespace Go.Pm
open Go Go.Ab
variable {B:Int->Prop}
def YR{x:AU×AS}{s:Y×U Aj}(h:0<=s.1/\s.1<=θ x.1.2.2.2.2.2.2.2/\θ x.1.2.2.2.2.2.2.2<=16777216/\s.2=(x.1.2.2.2.2.2.2.2.take s.1.toNat).filter (λd=>d.1 !=x.2.1)):An (Ai (Ml x) s) λr=>r=x.1.2.2.2.2.2.2.2.filter λd=>d.1 !=x.2.1:=by refine AW (λ(s:Y×U Aj)=>0<=s.1/\s.1<=θ x.1.2.2.2.2.2.2.2/\θ x.1.2.2.2.2.2.2.2<=16777216/\s.2=(x.1.2.2.2.2.2.2.2.take s.1.toNat).filter (λd=>d.1 !=x.2.1)) (λ(s:Y×U Aj)=>((θ x.1.2.2.2.2.2.2.2:Y)-s.1).toNat) h (λs j=>?_);have⟨b,q,g,i⟩:=j;unfold Ml;refine AC (λf=>?_) (λf=>AB ?_);simp[T]at f;have m:=pG (l:=x.1.2.2.2.2.2.2.2) (p:=λd=>d.1 !=x.2.1) b;rw[<-i]at m;refine AA (AI b f) λv o=>?_;have e:=AY (x:=s.1+1);have n:=mX (p:=λd:Aj=>d.1 !=x.2.1) b o.1;refine AA (P:=λa=>a=(x.1.2.2.2.2.2.2.2.take (s.1+1).toNat).filter (λd=>d.1 !=x.2.1)) ?_ λa c=>AB ⟨⟨d!,d!,g,by dsimp only;rw[c,e]⟩,d!⟩;refine AK (λk=>?_) (λk=>AB ?_);grind[AA,AI,Option.some.inj,AZ,AB];grind;grind[List.take_of_length_le]
def cD{x:AU×AS}(h:SK B x.1)(L:Br x.1=Z E->x.2=st x.1.2.2.1.2.1 x.2.1/\B x.2.1):An (K6 x) λr=>r.2=0->KS B x.1 r.1/\oV r.1.2.2.2.1 x.2.1:=by
 unfold K6;refine D7 (CM h.sb) λv O hv=>AP (λg=>AB n!) (λg=>?_);have K:=hv g;rw[g]at O;refine AC (λg=>AB n!) (λx0=>AC (λg=>AB n!) (λx1=>AA (K5 h.sb) λy1 al=>AC (λg=>AB n!) (λx2=>AA (K5 h.sb) λy2 ao=>AC (λg=>AB n!) (λx3=>?_))));have⟨R,Q⟩:=L O;refine AA Ea λv3 _=>AP (λg=>AB n!) (λ_=>AA Ob λv4 _=>AL (λg=>?_) (λ_=>?_));grind[AL,AB];have p2:=K.2.2.2.1.2.1;have p3:=K.2.2.2.1.2.2.1;refine AA (Gq d!) λi I=>AC (λg=>AB n!) (λA=>?_);have A:=I.2.2.2 o!;refine AO (λg=>AB n!) (λ_=>AA (AZ w!) λv8 C=>?_);have⟨C,Z_,_⟩:=C;rw[B5]at C;subst C;refine AA (AZ w!) λc n=>?_;have⟨n,o,_⟩:=n;have q:c[θ c-1]?=Z (x.2,X,0,E):=by rw[n];simp
 have hn:(θ c:Int)-1=((θ c-1:Nat):Int):=by simp at o;omega
 have e:=AY (x:=(θ c:Int)-1) (by simp at o;omega);have k:∀f∈x.1.2.2.2.1.2.1,f.1.1≠x.2.1:=λf H e=>by have⟨i,I⟩:=DW H;exact A ⟨i,f,I,e⟩
 refine AA (KT h.sb) λt w=>AA (P:=λv:Ψ BK×AU×Int×Int×Int×Int×Int×Int=>(∃(i:Nat)(f:BK),v.1[i]?=Z f/\f.1.1=x.2.1)/\(v.2.1.1=x.1.1/\v.2.1.2.2.1=x.1.2.2.1/\v.2.1.2.2.2.2.1=x.1.2.2.2.2.1/\v.2.1.2.2.2.2.2.1=x.1.2.2.2.2.2.1/\SB v.2.1/\v.2.1.2.2.2.2.2.2.1=x.1.2.2.2.2.2.2.1)/\KP x.1.1 x.1.2.2.1.2.1 v.1 v.2.1.2.2.2.2.2.2.2 x.1.2.2.2.2.2.2.1/\FD B x.1.1 v.1 v.2.1.2.2.2.2.2.2.2) ?_ λa0 m=>?_
 ·refine AK (λs=>?_) (λs=>AB ⟨⟨_,_,q,rfl⟩,⟨rfl,rfl,rfl,rfl,h.sb,rfl⟩,?_,?_⟩);rotate_left 1;rw[n];exact h.ki.2.1.supply R k rfl (.inr ⟨rfl,w.2 s,rfl⟩);rw[n];exact h.ki.2.2.supply (p:=x.2.1) o! o! Q rfl (λd y=>y) (w.2 s);rw[hn]at e;simp only[len,hn,e];have z:θ c-1<θ c:=by simp at o;omega
  refine AA (AI) λap W=>AA (AI) λj X_=>?_;have V:j.1=x.2:=by grind[s?,Option.some.inj]
  have ad:(EU c ((θ c-1:Nat):Int) (j.1,E,j.2.2)).length=θ c:=by simp[EU]
  refine AA (AI) λar Y=>AA (AI) λa F=>?_;have l:a.1=x.2:=by grind[s?,EU,List.getElem?_set_self,Option.some.inj]
  refine AA (YR ⟨q!,q!,h.2.2.1,q!⟩) λax G=>?_;have u:a.2.1=E:=by have:=F.1;simp[CR,EU]at this;rw[HE z]at this;rw[<-BY this]
  have N:EU (EU c ((θ c-1:Nat):Int) (j.1,E,j.2.2)) ((θ c-1:Nat):Int) (a.1,a.2.1,t.1.2.1,a.2.2.2)=x.1.2.2.2.1.2.1++[(a.1,a.2.1,t.1.2.1,a.2.2.2)]:=by simp[EU,CR,Yo,(by rw[n];simp:θ c-1=θ x.1.2.2.2.1.2.1)];rw[n,Tq _ _ (Al _)];simp
  subst G;refine AB ⟨⟨θ c-1,(a.1,a.2.1,t.1.2.1,a.2.2.2),?_,by rw[l]⟩,⟨rfl,rfl,rfl,rfl,⟨h.1,h.2.1,Cl (EK _ _) h.2.2.1⟩,rfl⟩,?_,?_⟩;simp[EU,CR];rw[HE (by simpa using z)];rw[N];exact h.ki.2.1.supply R k l (.inl ⟨u,rfl⟩);rw[N];exact h.ki.2.2.supply (p:=x.2.1) o! o! Q (by rw[l]) (λd y=>(BQ.1 y).1) (λd y=>by simpa using(BQ.1 y).2)
 have⟨i,f,H,J⟩:=m.1;have⟨M,D_,S,T,E_,U⟩:=m.2.1;refine AB λ_=>⟨⟨M,by dsimp only;rw[D_];exact LX.refl _,by dsimp only;rw[D_];exact K.2.2.1,S,T,E_.1,E_.2.1,E_.2.2,?_⟩,i,f,H,J⟩
 unfold KI;dsimp only;rw[M,D_,U];exact⟨h.ki.1,m.2.2⟩
def AJy{x:AU×Y}(h:Br x.1=Z X):Es x=Z 0:=by unfold Es;rw[h];rfl
def Rd.st{P}{p}{s}{q}(h:Rd s p q)(d:AIl P p s)(e:∀j,Hh (st (P.take j) p)):∃j:Q,q=Go.Pm.st (P.take j) p:=by obtain⟨_,⟨_,h⟩|⟨a,b,c⟩⟩:=h;exact⟨0,h⟩;rcases d with q|⟨j,q⟩;exact O! q c;exact⟨j,AEu a (e j) (b.symm.trans q)⟩
def Hz{x:AV×Int}(h:SK B x.1.1)(g:DJ B x.1.1.2.2.1 x.1.2):An (E9 x) λr=>r.2=0->SvR B x.1 r.1/\oV r.1.1.2.2.2.1 x.2:=by
 unfold E9;refine AA (CM h.sb) λv X_=>AP (λa=>AB n!) (λa=>?_);have s:=X_ a;refine AC (λa=>AB n!) (λp0=>AC (λa=>AB n!) (λp1=>AA Fo λi W=>AC (λa=>AB λ_=>⟨⟨KS.refl h s.2.2.1,g⟩,?_⟩) (λ_=>?_)));have⟨_,f,V,C⟩:=W.2.2.1 a;exact⟨_,f,V,C⟩;refine AA (ii h s.2.2.1 g) λo Q=>AL (λa=>AB (O! · a)) (λw=>?_);have⟨t,m⟩:=Q w;have n:=t.2.2.2.2.2;have F:=t.2.2.1;have k1:=s.1;have k2:=s.2.1;have H:0<=x.2/\x.2<64:=o!
 have M:=F.num m.1;have h4:=F.2.2.1;refine AA (iL m.2.1) λv3 R=>AL (λa=>AB (O! · a)) (λy=>?_);have⟨Y,Z_,O⟩:=R y;have⟨b,u,_⟩:=CM n.sb;refine AA (P:=λr=>∃k:Nat,r=BZ (o.1.1.2.2.1.2.1.take k) x.2/\(b=E->k=θ o.1.1.2.2.1.2.1)) ?_ λv4 ⟨k,D_,E_⟩=>?_;cases b with
 |false=>exact⟨_,AJy u,0,rfl,λU=>by cases U⟩
 |true=>exact(K5 n.sb).mono λr hr=>⟨_,by rw[Hk];exact hr u n.ki.2.1 H.1 (by have:=t.1;dsimp only at this⊢;omega),λ_=>rfl⟩
 refine AA (fB d!) λv5 e=>AL (λa=>AB (O! · a)) (λz=>?_);have e:=e z;dsimp only at e;have d:=m.2.2 _ _ O;rw[show((x.2.toNat:Nat):Int)=x.2 by omega]at d;have L:B x.2:=d.2.resolve_right λg=>by obtain⟨_,⟨q,_⟩|⟨q1,q2,_⟩⟩:=e;exact g.1 q;exact g.2 _ q1 q2
 have I:=Xc M H o!;obtain⟨j,p⟩:=e.st (d.1 L) λj=>by unfold dl;rw[Kf];exact I _
 unfold dl at p;rw[Kf]at p;generalize min j o.1.1.2.2.1.2.2.toNat=j' at p;rw[p,D_];refine AA (AIm F m.1 n.ki.1 H) λv6 S=>?_;subst S;refine AL (O! rfl ·) (λ_=>AA (cD n λK=>?_) λv7 T=>?_);rw[u]at K;have l:=E_ (BY K);have G:BZ (o.1.1.2.2.1.2.1.take j') x.2<=BZ (o.1.1.2.2.1.2.1.take k) x.2:=by rcases Nat.le_total j' k with q|q;exact Rx M _ _ _ q;rw[BM o!,l,Hk];exact Ae _
 dsimp only;rw[C! G,l,Hk,Sf];exact⟨rfl,L⟩;refine AL (λa=>AB (O! · a)) (λA=>AB λ_=>?_);have⟨N,J⟩:=T A;refine⟨⟨t.trans N,m.up N.2.1⟩,?_⟩;dsimp only at J;split at J<;>rwa[Sf]at J
end Go.Pm
namespace Go.Pm
open Go Go.Ab
variable {B:Int->Prop}
def KL(B:Y->Prop)(k m:AU):Prop:=m.1=k.1/\LX k.2.2.1 m.2.2.1/\SK B m/\Dh m.2.2.1
theorem KL.refl{k}(h:SK B k)(a:Dh k.2.2.1):KL B k k:=⟨rfl,LX.refl _,h,a⟩
def KL.trans{a b c}(h:KL B a b)(g:KL B b c):KL B a c:=⟨g.1.trans h.1,h.2.1.trans g.2.1,g.2.2⟩
def KS.kl{a b}(h:KS B a b):KL B a b:=⟨h.1,h.2.1,h.2.2.2.2.2,h.2.2.1⟩
def AAf.kl{a b}{z}(h:AAf a z b)(c:SK B a)(d:z.2.1≠1/\z.2.1≠2/\z.2.1≠6/\z.2.1≠7):KL B a b:=⟨h.1,h.2.1,h.sk c d,h.2.2.1⟩
def SK.locks{k}{l}(h:SK B k)(a:GS l):SK B (k.1,k.2.1,k.2.2.1,k.2.2.2.1,l,k.2.2.2.2.2):=⟨a,h.2⟩
def P2.idx{p}(h:P2 p){i j:Q}{f g:BK}(a:p.2.1[i]?=Z f)(b:p.2.1[j]?=Z g)(e:g.1.1=f.1.1):j=i:=by have l1:=Cs a;have l2:=Cs b;rcases RG i j with q|q|q;exact O! e.symm (h.2.2.2.2.2.2 i j f g q o! a b);exact q.symm;exact O! e (h.2.2.2.2.2.2 j i g f q o! b a)
def jy{x}:An (OE x) λr=>(∀g∈r.2.1,∃f∈x.1.2.1,f.1.1=g.1.1/\f.1=g.1)/\∀f∈x.1.2.1,f.2.1=E->∃g∈r.2.1,g.1.1=f.1.1/\g.2.1=E:=by unfold OE;refine AA Fo λv b=>AC (y? ⟨λg k=>⟨g,k,rfl,rfl⟩,λf a h=>⟨f,a,rfl,h⟩⟩) (λm=>?_);have d:=b.2.2.1 o!;have o:=d.1.2.1;have p:=d.1.2.2.1;refine AA (AI o! b.2.1) λl c=>AA (MB d! ⟨d!,b.2.1⟩) λr hr=>AB ?_;subst hr;refine⟨ACl c.1 rfl,λf a j=>?_⟩;by_cases e:f.1.1=l.1.1;have⟨i,n⟩:=DW a;grind[Option.some.inj,List.mem_of_getElem?,List.getElem?_set_self,Cs];exact⟨f,yi c.1 f a e,rfl,j⟩
def bw{x}:An (K1 x) λr=>r.2=0->P2 x.1/\∃(i:Q)(f g:BK),x.1.2.1[i]?=Z f/\f.1.1=x.2.1/\r.1.2.1=x.1.2.1.set i g/\g.1=x.2/\g.2.1=E:=by unfold K1;refine AA Ea λv c=>AP (y? n!) (λb=>?_);have h:=(c.1 b).2.1;have j:=(c.1 b).2.2.1;refine AA Ob λ_ _=>AL (λb=>AB λa=>O! a b) (λ_=>AA (Gq d!) λi d=>AC (y? n!) (λb=>AA (AI o! d.2.1) λk e=>AC (y? n!) (λ_=>AA (P:=λ_=>O) (AP (y? trivial) (y? trivial)) λl _=>?_)));grind[AA,MB,AB,Option.some.inj]
def MZ.cell{e}(h:MZ e):0<=e.2.2.2.2.2.2.1.2.1/\e.2.2.2.2.2.2.1.2.1<16:=by have a:=h.2.2.2.2.2.2.2.2;grind[Vy,PJ,Qj]
def KI.same{k}(h:KI B k){f g:BK}(a:f∈k.2.2.2.1.2.1)(b:g∈k.2.2.2.1.2.1)(e:g.1.1=f.1.1):g.1=f.1:=by have hr:=h.2.2 f a;rw[(h.2.1 f.1.1 hr.1 hr.2.1).1 g b e];exact((h.2.1 f.1.1 hr.1 hr.2.1).1 f a rfl).symm
def WE{x:AU×AE}(h:SK B x.1)(L:Dh x.1.2.2.1)(b:0<=x.2.2.2.2.2.2.2.1.2.1/\x.2.2.2.2.2.2.2.1.2.1<16)(s:x.2.2.1=1\/x.2.2.1=2)(hp:P2 x.1.2.2.2.1)(ad:oV x.1.2.2.2.1 x.2.2.2.2.2.2.2.1.1)(G:∀f∈x.1.2.2.2.1.2.1,f.1.1=x.2.2.2.2.2.2.2.1.1->G2 f.1.2.2 x.2.2.2.2.2.2.2.1.2.1=Z x.2.2.2.2.2.2.2.1.2.2.1):An (Kr x) λr=>KL B x.1 r.1/\(r.2=0->AB3 x.1.2.2.2.2.2.1 x.2.2.1 x.2.2.2.1 r.1.2.2.2.2.2.1):=by
 unfold Kr;refine AA (GC h.sb) λv hv=>AL (λb=>AB ⟨KL.refl h L,λs=>O! s b⟩) (λN=>?_);have⟨_,l,c⟩:=hv N;refine AA JD λE_ S=>AA (De b.1 b.2) λ_ _=>AA (De b.1 b.2) λ_ _=>AA bw λv4 Z_=>AL (λb=>AB ⟨KL.refl h L,λs=>O! s b⟩) (λO=>AB ⟨⟨l.1,l.2.1,?_,l.2.2.1⟩,λ_=>l.2.2.2.2.2.1⟩);have F:=l.2.2.2.2.2.2.2.1;have⟨_,i,f,g,p,a,d,o,J⟩:=Z_ O;have⟨_,_,_,_,_,_,a7,_,e,T,P,U,A,V,W,e7⟩:=l;have w:E_.2=E:=by cases q:E_.2<;>grind
 have y:E_.1.1=x.2.2.2.2.2.2.2.1.1:=(S.1 w).2.2.2.1;have C:e.2.2.2.2.2.2.1.1=x.2.2.2.2.2.2.2.1.1:=E! (·.2.1.1) A;have hr:=h.ki.2.2 f (BO p);dsimp only at p a d o c;refine⟨F.1,F.2.1,F.2.2,?_⟩;have t:e.2.1=1\/e.2.1=2:=by rw[U];exact s
 have u:∀n:Int,n≠1->n≠2->e.2.1≠n:=λn n1 n2 q=>by rcases t with D_|D_<;>rw[q]at D_;exact n1 D_;exact n2 D_
 unfold KI;dsimp only;rw[l.1,a7,T,W (by rcases s with q|q<;>rw[q]<;>decide),d];have K:g.1.1=f.1.1:=by rw[o,a]
 have m:=BO p;have I:=(h.ki.2.1 f.1.1 hr.1 hr.2.1).1 f m rfl;have M:E_.1=f.1:=by have⟨_,_,_,_,f',H,Q⟩:=S.1 w;rw[<-Q];exact h.ki.same m H (by rw[Q,a])
 have R:e.2.2.2.2.2.2.1.2.1=x.2.2.2.2.2.2.2.1.2.1:=E! (·.2.1.2.1) A;have Y:e.2.2.2.2.2.2.1.2.2.1=x.2.2.2.2.2.2.2.1.2.2.1:=E! (·.2.1.2.2.1) A;have X_:e.2.2.2.2.2.2.1.2.2.2=x.2.2.2.2.2.2.2.1.2.2.2:=E! (·.2.1.2.2.2) A;refine⟨h.ki.1.app ⟨λq=>⟨V h.ki.2.1 q (by rw[C,<-y,<-a];exact hr.1) (by rw[C,<-y,<-a];exact hr.2.1),by rw[R,Y,C,<-y,<-a,<-I];exact G f m (by rw[a,y])⟩,λq=>O! q (u 7 g! g!),λq=>O! q (u 6 g! g!)⟩,?_,h.ki.2.2.set p K⟩;refine h.ki.2.1.change h.ki.2.2 t p (by rw[a,y,C]) (by rw[o,M,c,<-P];unfold upd;rw[R,X_]) J (λj k hj q=>hp.idx p hj q) ?_;rw[P];exact mZ L _
theorem B9{x}:An (BN x) λr=>r.1=5:=by grind[BN,AB]
theorem kG{x}:An (BN x) λr=>r.1=5/\r.2.2.2.2=x:=by grind[BN,AB]
theorem AEx{l:U Ap}{id:Y}(h:l.length<=16777216)(m:kI l id):An (Er (l,id)) λr=>0<=r/\r<l.length:=by
 unfold Er;refine AA (P:=λr=> ∃u:Y,r= .inl u/\0<=u/\u<l.length) ?_ λr hr=>?_;refine AW (λ(s:Y)=>0<=s/\s<=l.length/\ ∀(j:Q) (t:Ap),j<s->l[j]? =some t->t.1≠id) (λ(s:Y)=>((l.length:Y)-s).toNat) ⟨Ae _,o!,λj t b=>absurd b o!⟩ (λs k=>?_);obtain⟨g,p,i⟩:=k;unfold KQ;have e:=AY (x:=s+1);apply AC<;>intro d;simp only[T]at d;refine AA (AI g d) λq a=>AO (λ_=>AB ⟨s,rfl,g,d⟩) (λc=>AB ?_);dsimp only at c;rw[e];refine⟨⟨o!,o!,λj t b f=>?_⟩,o!⟩;by_cases n:(j:Y)=s;have:s.toNat=j:=o!
 rw[this]at a;rw[f]at a;have:=BY a.1;rw[this];exact c;exact i j t o! f;obtain⟨j,t,b,f⟩:=m;have:=Cs b;simp only[T]at d;exact absurd f (i j t o! b);obtain⟨u,rfl,o⟩:=hr;exact BF (AB o)
def tc{l:S Ap}{id}(h:W l<=16777216)(a:kI l id):An (Ce (l,id)) λr=>0<=r/\r<W l:=by grind[Ce,AA,AEx,AB]
def cF{x:AU×Y}(h:SK B x.1)(k:Dh x.1.2.2.1)(j:kI x.1.2.2.2.2.2.1 x.2):An (K8 x) λr=>KL B x.1 r.1/\(r.2.1=1\/r.2.1=5):=by unfold K8;refine AA (tc h.2.1 j) λo c=>AA (AI c.1 c.2) λp _=>AA (P:=λs=>(∃u,s=.inl u/\KL B x.1 u.1)\/∃u,s=.inr u/\KL B x.1 u.1/\(u.2.1=1\/u.2.1=5)) ?_ λs l=>?_;refine AO (λ_=>?_) (λ_=>?_);refine AA (Jp h.2.1) λq d=>AB (.inl ⟨_,rfl,rfl,LX.refl _,⟨h.1,?_,h.2.2⟩,k⟩);have:=pp x.1.2.2.2.2.2.1 x.2;have e:=h.2.1;dsimp only at*;rw[d];omega;refine AA (GC h.sb) λt f=>AL (λn=>?_) (λm=>?_);grind[AA,B9,AB,KL.refl];have b:=(f m).2.1.kl h u!;refine AA (KR b.2.2.1 b.2.2.2) λv g=>AB (.inl ⟨_,rfl,b.trans g.1.kl⟩);rcases l with⟨u,rfl,a⟩|⟨u,rfl,a⟩;apply BF;refine AA (Mf a.2.2.1.1) λw i=>AB ⟨⟨a.1,a.2.1,a.2.2.1.locks i,a.2.2.2⟩,.inl rfl⟩;exact Ay (AB a)
def Xw{x:AU×Y×Cz}{a:Ap}{s:Y}(h:0<=s/\s<=θ a.2.2.2.2.1/\(θ a.2.2.2.2.1:Y)<=16777216):An (Ai (Ld x a) s) λr=>O:=by
 refine AW (λ(s:Y)=>0<=s/\s<=θ a.2.2.2.2.1/\(θ a.2.2.2.2.1:Y)<=16777216) (λ(s:Y)=>((θ a.2.2.2.2.1:Y)-s).toNat) h (λs c=>?_);unfold Ld;exact x!
def AIp{l:S Ap}{i:Q}{t:Ap}(h:l[i]?=Z t):W t.2.2.2.2.1<TP l:=by
 induction l generalizing i with
 |nil=>simp at h
 |cons a r b=>
  unfold TP;rw[B4,WY];cases i with
  |zero=>simp at h;rw[h];omega
  |succ i=>have:=b (i:=i) (by simpa using h);unfold TP at this;omega
def AJ4{l:S Ap}(h:∀(i:Q)(t:Ap),l[i]?=Z t->W t.2.2.2.2.1<=4096):TP l<=W l*4097:=by
 induction l with
 |nil=>simp[TP]
 |cons a r c=>have d:=h 0 a q!;have e:=c (λi t b=>h (i+1) t (by simpa using b));unfold TP at*;grind[List.length_cons]
def Zm.tp{l}(h:Zm l):TP l<=262208:=by have:=AJ4 (l:=l) (λi t a=>(h.2 i t a).1);have:=h.1;omega
def aC{x:AU×Y×Cz}(h:W x.1.2.2.2.2.2.1<=16777216)(d:TP x.1.2.2.2.2.2.1<=262208)(c:kI x.1.2.2.2.2.2.1 x.2.1):An (KV x) λr=>O:=by unfold KV;refine AA (tc h c) λe a=>AA (AI a.1 a.2) λf b=>?_;have:=AIp b.1;refine AA (Xw ⟨Ae _,o!⟩) λr _=>?_;grind[BH,AB]
def Ug{x:AU×Y×Y}(h:SK B x.1)(z:Dh x.1.2.2.1)(A:Zm x.1.2.2.2.2.2.1)(p:x.2.1≠0)(y:kI x.1.2.2.2.2.2.1 x.2.1):An (JF x) λr=>KL B x.1 r.1/\(r.2.1=x.2.2\/r.2.1=5):=by
 unfold JF;refine AA (bq h.1) λL c=>AA (tc h.2.1 y) λM n=>AA (AI n.1 n.2) λN _=>AO (λ_=>?_) (λ_=>?_);refine AA (Jp h.2.1) λO t=>AA (Mf c) λQ u=>AB ⟨⟨rfl,LX.refl _,⟨u,?_,h.2.2⟩,z⟩,.inl rfl⟩;have:=pp x.1.2.2.2.2.2.1 x.2.1;have q:=h.2.1;dsimp only at*;rw[t];omega;refine AA (GC (h.locks c).sb) λf v=>AL (λi=>?_) (λC=>?_);grind[AA,B9,AB,KL.refl];have j:=(v C).2.1;have o:=j.2.2.2.2.2.1;have K:=(o.2.2.1 p (by show(4:Y)≠1;decide)).2;have D_:=A.tp;have b:KL B x.1 f.1:=⟨j.1,j.2.1,(j.kl (h.locks c) u!).2.2⟩
 refine AA (P:=λr=>KL B x.1 r) ?_ λr hr=>AB ⟨hr,.inl rfl⟩;refine AW (λ(s:Y×AU)=>0<=s.1/\s.1<=f.1.2.2.2.2.1.1.length/\KL B x.1 s.2/\s.2.2.2.2.2.2.1=f.1.2.2.2.2.2.1) (λs=>((f.1.2.2.2.2.1.1.length:Y)-s.1).toNat) (s:=((0:Y),f.1)) ⟨Ae _,d!,b,rfl⟩ (λs w=>?_);have⟨m,J,a,d⟩:=w;unfold TO;have I:=b.2.2.1.1.1;refine AC (λi=>?_) (λ_=>AB a);simp[T]at i;have e:=AY (x:=s.1+1);refine AA (AI m i) λR _=>AO (λ_=>?_) (λ_=>AB ⟨⟨d!,d!,a,d⟩,d!⟩);refine AA (AI m i) λS _=>AA (aC (by dsimp only;rw[d];exact b.2.2.1.2.1) (by dsimp only at*;rw[d];omega) (by dsimp only;rw[d];exact(o.2.2.2 p rfl))) λE_ _=>AA (P:=λk=>KL B x.1 k/\k.2.2.2.2.2.1=f.1.2.2.2.2.2.1) ?_ λH g=>AB ⟨⟨d!,d!,g.1,g.2⟩,d!⟩;refine AP (λ_=>?_) (λ_=>AB ⟨a,d⟩);refine AA (AI m i) λF _=>AA (VY a.2.2.1.1) λG l=>AB ⟨⟨a.1,a.2.1,a.2.2.1.locks l,a.2.2.2⟩,d⟩
end Go.Pm
namespace Go.Pm
open Go Go.Ab
variable {B:Int->Prop}
def cC{x}:An (K4 x) λr=>r=0->x.2.1=4\/x.2.1=5\/x.2.1=6\/x.2.1=7\/(0<=x.2.2.2.1/\x.2.2.2.1<16):=by unfold K4;refine AA (P:=λv=>O) (AK (y? trivial) (λ_=>AA (P:=λ_=>O) (AK (y? trivial) (y? trivial)) λ_ _=>AB trivial)) λi _=>AA (P:=λs=>(∃u,s=.inl u/\u=1)\/∃u,s=.inr u/\(x.2.1=4\/x.2.1=5\/x.2.1=6\/x.2.1=7\/(0<=x.2.2.2.1/\x.2.2.2.1<16))) ?_ λs c=>?_;refine AK (λ_=>?_) (λ_=>?_);refine AC (y? (.inl ⟨_,rfl,rfl⟩)) (λ_=>AC (y? (.inl ⟨_,rfl,rfl⟩)) (λ_=>AC (y? (.inl ⟨_,rfl,rfl⟩)) (λe=>AC (y? (.inl ⟨_,rfl,rfl⟩)) (λf=>AA (P:=λ_=>O) (AK (y? trivial) (y? trivial)) λj _=>AB (.inr ⟨_,rfl,?_⟩)))));omega;refine AA (P:=λs=>(∃u,s=.inl u/\u=1)\/∃u,s=.inr u/\(x.2.1=4\/x.2.1=5\/x.2.1=6\/x.2.1=7)) ?_ λs c=>?_;refine AO (λh=>?_) (λ_=>?_);refine AC (y? (.inl ⟨_,rfl,rfl⟩)) (λ_=>AC (y? (.inl ⟨_,rfl,rfl⟩)) (y? (.inr ⟨_,rfl,o!⟩)));refine AA (P:=λb=>b=E->x.2.1=4\/x.2.1=5\/x.2.1=6) ?_ λk g=>?_;grind[AO,AB,AA];simp_all[AK,AB];grind[BF,AB,Ay];rcases c with⟨u,rfl,d⟩|⟨u,rfl,d⟩;grind[BF,AB];apply Ay;refine AP (y? n!) (λ_=>AC (y? n!) (y? λ_=>d))
def Vc{x}:An (J1 x) λr=>O:=by unfold J1;refine AO (y? trivial) (λ_=>AA (P:=λ_=>O) (AK (y? trivial) (y? trivial)) λv _=>AK (y? trivial) (y? trivial))
def aD{x:AU×Y×C2}(h:SK B x.1):An (KW x) λr=>r=0->VK x.1/\kI x.1.2.2.2.2.2.1 x.2.1/\(x.2.2.1=4\/x.2.2.1=5\/x.2.2.1=6\/x.2.2.1=7\/(0<=x.2.2.2.2.1/\x.2.2.2.2.1<16)):=by
 unfold KW;refine AA (CM h.sb) λv j=>AP (y? n!) (λb=>AA (Fp h.2.1) λk e=>AC (y? n!) (λg=>AA (AI o! e.2.1) λl _=>AL (y? n!) (λ_=>AA cC λm f=>AL (λb=>AB λa=>O! a b) (λc=>AA (Ix h.1) λn _=>AA Vc λo _=>?_))));have q:(0:Y)=0->VK x.1/\kI x.1.2.2.2.2.2.1 x.2.1/\(x.2.2.1=4\/x.2.2.1=5\/x.2.2.1=6\/x.2.2.1=7\/(0<=x.2.2.2.2.1/\x.2.2.2.2.1<16)):=λ_=>by have⟨t,i,d⟩:=e.2.2 o!;exact⟨j b,⟨_,t,i,d⟩,f c⟩
 refine AK (λ_=>?_) (y? q);refine AL (λ_=>?_) (y? q);refine AP (y? n!) (λ_=>AP (y? n!) (y? q))
def cE{x:AU×Y×C2}(h:SK B x.1)(k:Dh x.1.2.2.1)(n:P2 x.1.2.2.2.1)(a:0<=x.2.2.2.2.1/\x.2.2.2.2.1<16):An (K7 x) λr=>KL B x.1 r.1/\(r.2.1=1\/r.2.1=3\/r.2.1=5)/\(r.2.1=3->r.2.2.2.1=x.2.2.2.1/\¬oV x.1.2.2.2.1 x.2.2.2.1/\r.1=x.1):=by unfold K7;have t:=KL.refl h k;refine AA JD λy m=>AP (λa=>AB ⟨t,.inr (.inl rfl),λ_=>⟨rfl,m.2 a n,rfl⟩⟩) (λd=>AO (λ_=>?_) (λ_=>?_));refine AA jy λz l=>AA (De a.1 a.2) λ_ _=>AA (De a.1 a.2) λ_ _=>AB ⟨⟨rfl,LX.refl _,⟨h.1,h.2.1,h.2.2.1,h.ki.1,h.ki.2.1.frames l.1 l.2,h.ki.2.2.sub l.1⟩,k⟩,(.inl rfl),λs=>O! s (by show(1:Y)≠3;decide)⟩;refine AA (De a.1 a.2) λ_ _=>D7 (De a.1 a.2) λu o _=>AA (P:=λv:Dw=>v.1=x.2.2.2.1/\v.2.1=x.2.2.2.2.1/\v.2.2.1=u) (AK (y? ⟨rfl,rfl,rfl⟩) (y? ⟨rfl,rfl,rfl⟩)) λA b=>?_;have⟨_,_,j,i,f,p,c⟩:=m.1 d;refine AA (WE h k (by dsimp only;rw[b.2.1];exact a) (.inl rfl) n (by dsimp only;rw[b.1];exact j) λg q e=>?_) λC w=>?_;dsimp only at e⊢;rw[b.2.1,b.2.2,h.ki.same p q (by rw[e,b.1,c,i]),c];exact o;grind[AA,AL,B9,AB]
theorem fF{x}:An (MH x) λr=>O:=by unfold MH;refine AO (y? trivial) (λa=>?_);simp only[T]at a;exact AA (AI (Ae _)) λ_ _=>AB trivial
def j9{x:AU×Y}(h:SK B x.1):An (OH x) λr=>O:=by unfold OH;refine AA (L9 h.1) λa _=>?_;grind[AA,fF,AB]
def lP{x:AU×Int×C2}(h:SK B x.1)(i:Dh x.1.2.2.1):An (Pl x) λr=>KL B x.1 r.1/\(r.2.1=3->r.2.2.2.1=x.2.2.2.1/\¬oV x.1.2.2.2.1 x.2.2.2.1/\r.1.2.2.2.1=x.1.2.2.2.1)/\(r.2.1=2\/r.2.1=3->r.1.2.2.2.2.2.1=x.1.2.2.2.2.2.1):=by
 unfold Pl;have q:=KL.refl h i;refine AA (aD h) λX I=>AL (λ_=>?_) (λd=>?_);exact AA B9 λY V=>AB ⟨q,λd=>by dsimp only at d;omega,λ_=>rfl⟩;obtain⟨u,s,F⟩:=I d;have G:x.2.1≠0:=by obtain⟨j,t,M,W⟩:=s;have:=(u.2.2.2.2.2.1.2 j t M).2.2;omega
 refine AO (λ_=>?_) (λT=>?_);exact AA (cF h i s) λZ w=>AB ⟨w.1,λd=>by have:=w.2;omega,λd=>by have:=w.2;omega⟩;refine AO (λ_=>?_) (λU=>?_);refine AA (Ug h i u.2.2.2.2.2.1 G s) λv3 E=>AB ?_;have y:=E.2;dsimp only at y;exact⟨E.1,λd=>o!,λd=>o!⟩;refine AA (P:=λb=>b=ζ↔x.2.2.1=6\/x.2.2.1=7) ?_ λv4 J=>?_;refine AO (λp=>AB (by simp[p])) (λp=>AB (by simp[p]));refine AK (λ_=>?_) (λk=>?_);refine AA iT λv5 z=>AA (P:=λv=>v.2=0->θ v.1<=64) ?_ λv7 K=>?_;exact AK (λ_=>AA iR λv6 p=>AB p) (y? z);refine AL (λ_=>?_) (λd=>AB ⟨⟨rfl,LX.refl _,⟨h.1,?_,h.2.2⟩,i⟩,λd=>O! d (by show(1:Int)≠3;decide),λd=>O! d (by show¬((1:Int)=2\/(1:Int)=3);decide)⟩);exact AA B9 λS L=>AB ⟨q,λd=>by dsimp only at d;omega,λ_=>rfl⟩;have:=K d;dsimp only;omega;have g:0<=x.2.2.2.2.1/\x.2.2.2.2.1<16:=by
  have:¬(x.2.2.1=6\/x.2.2.1=7):=λh=>by rw[J.2 h]at k;cases k
  omega
 refine AA Vc λv9 _=>AA (Z0 h.1) λC l=>AL (λ_=>?_) (λ_=>?_);exact AA B9 λS L=>AB ⟨q,λd=>by dsimp only at d;omega,λ_=>rfl⟩;have f:=h.locks l;have H:∀m,KL B (x.1.1,x.1.2.1,x.1.2.2.1,x.1.2.2.2.1,C.1,x.1.2.2.2.2.2) m->KL B x.1 m:=λm A=>⟨A.1,A.2.1,A.2.2⟩
 refine AK (λ_=>?_) (λ_=>?_);refine AA (cE f i u.2.2.2.1 g) λN e=>AO (λz=>AB ⟨q,λd=>by dsimp only at d;omega,λ_=>rfl⟩) (y? ⟨H _ e.1,λd=>?_,λd=>?_⟩);obtain⟨a,b,c⟩:=e.2.2 d;exact⟨a,b,by rw[c]⟩;have D:=e.2.1;obtain⟨a,b,c⟩:=e.2.2 o!;rw[c];refine AA (ej l) λO _=>AC (λ_=>?_) (λ_=>?_);refine AA (Ug f i u.2.2.2.2.2.1 G s) λQ n=>?_;have o:=n.2;dsimp only at o;exact AO (λz=>AB ⟨q,λd=>by dsimp only at d;omega,λ_=>rfl⟩) (y? ⟨H _ n.1,λd=>o!,λd=>o!⟩);exact AA (j9 f) λR _=>AB ⟨⟨rfl,LX.refl _,f,i⟩,λd=>O! d (by show(2:Int)≠3;decide),λ_=>rfl⟩
end Go.Pm
namespace Go.Pm
open Go Go.Ab
variable {B:Int->Prop}
def RTx(l:S Ap)(id:Y)(t:Ap):Prop:=∃v,Ce (l,id)=Z v/\0<=v/\l[v.toNat]?=Z t/\t.1=id
def RTx.uniq{l}{id}{t u}(h:RTx l id t)(g:RTx l id u):u=t:=by have⟨v,e,f,i,j⟩:=h;have⟨w,a,b,c,d⟩:=g;grind[Option.some.inj]
def NX(k:AU)(id:Y)(e:AE):Prop:=∃t lsn,RTx k.2.2.2.2.2.1 id t/\t.2.2.2.2.1[W t.2.2.2.2.1-1]?=Z lsn/\k.2.2.1.2.1[(lsn-k.2.2.1.1).toNat]?=Z e
def NX.uniq{k m}{id}{e f}(h:NX k id e)(g:NX m id f)(o:m.2.2.2.2.2.1=k.2.2.2.2.2.1)(c:LX k.2.2.1 m.2.2.1):f=e:=by have⟨t,n,i,j,l⟩:=h;have⟨u,w,a,b,d⟩:=g;rw[o]at a;have:=i.uniq a;subst this;rw[j]at b;cases b;have:=c.get l;rw[c.1]at d;grind[Option.some.inj]
def I0{x:AU×Y}(h:SK B x.1):An (FY x) λr=>r.2=0->VK x.1/\RTx x.1.2.2.2.2.2.1 x.2 r.1/\W r.1.2.2.2.2.1<=4096/\r.1.1≠0:=by
 unfold FY;refine AA (CM h.sb) λv i=>AP (y? n!) (λf=>?_);have c:=i f;refine D7 (Fp h.2.1) λj e d=>AC (y? n!) (λg=>AA (AI o! d.2.1) λk _=>AO (y? n!) (λ_=>AA (AI o! d.2.1) λl b=>AB λ_=>⟨c,⟨j,e,o!,b.1,?_⟩,(c.2.2.2.2.2.1.2 _ _ b.1).1,?_⟩))
 grind[Option.some.inj];have:=(c.2.2.2.2.2.1.2 _ _ b.1).2.2;dsimp only;omega
def iW{x:AU×Y}(h:SK B x.1):An (Hy x) λr=>r.2=E->VK x.1/\NX x.1 x.2 r.1/\MZ r.1:=by
 unfold Hy;refine AA (I0 h) λc f=>AL (y? λa=>by cases a) (λa=>?_);have⟨k,hr,o,_⟩:=f a;refine AO (y? λa=>by cases a) (λj=>?_);simp only[T]at j;rw[(AY (x:=T c.1.2.2.2.2.1-1) b!)];refine AA (AI b! b!) λp _=>AC (y? λa=>by cases a) (λ_=>AA (AI b! b!) λl g=>AA HJ λq i=>AB λa=>?_);have⟨d,m,e,n⟩:=i.1 (by simpa using a);refine⟨k,⟨c.1,l,hr,?_,e⟩,d⟩;have b:=g.1;have:(T c.1.2.2.2.2.1-1).toNat=W c.1.2.2.2.2.1-1:=i!
 rw[this]at b;exact b
def lQ{x:AU×Ap×Cz×Y}(h:x.2.1.2.2.2.2.1.length<=16777216)(c:0<=x.2.2.2/\x.2.2.2<=x.2.1.2.2.2.2.1.length):An (Pn x) λr=>r.2=true->MZ r.1/\r.1.2.2.2.2.2.2.1.1=x.2.2.1.1:=by unfold Pn;rw[(AY (x:=x.2.2.2-1))];refine AA (P:=λr=> ∀u,r= .inl u->u.1=true->MZ u.2/\u.2.2.2.2.2.2.2.1.1=x.2.2.1.1) ?_ λr hr=>BH (λu a=>AB (hr u a)) (λ_ _=>AB λb=>by cases b);refine AW (λ(s:Y×AE)=> -1<=s.1/\s.1<x.2.1.2.2.2.2.1.length) (λ(s:Y×AE)=>(s.1+1).toNat) d! (λs d=>?_);unfold WF;rw[(AY (x:=s.1-1))];refine AC (λe=>?_) (λ_=>AB λu a=>by cases a);grind[AA,AI,HJ,AO,AB]
def TQ{x:AU×Y×Cz}(h:SK B x.1):An (K9 x) λr=>r.2=E->VK x.1/\MZ r.1/\r.1.2.2.2.2.2.2.1.1=x.2.2.1:=by refine AA (I0 h) λf b=>AL (y? λa=>by cases a) (λa=>AL (y? λa=>by cases a) (λ_=>?_));have⟨d,_,e,_⟩:=b a;exact AA (lQ d! ⟨by simp[T],by simp[T]⟩) λg c=>AB λa=>⟨d,c a⟩
def Zz{x}:An (KK x) λr=>r=(x.1,x.2.1,x.2.2.2,x.2.2.1):=by grind[KK,AB]
def Ve{x:AU×Ap×AE}(h:SK B x.1)(t:Dh x.1.2.2.1)(u:P2 x.1.2.2.2.1)(A:MZ x.2.2)(v:x.2.1.1≠0):An (GZ x) λr=>KL B x.1 r.1/\(r.2.1=3->r.2.2.2.1=x.2.2.2.2.2.2.2.2.1.1/\¬oV x.1.2.2.2.1 x.2.2.2.2.2.2.2.2.1.1/\r.1=x.1)/\(r.2.1≠3->r.2.1≠5->r.2.2.1≠0/\TP r.1.2.2.2.2.2.1<TP x.1.2.2.2.2.2.1)/\(r.2.1=5->r.2.2.2.2.2≠0):=by unfold GZ;have F:=KL.refl h t;refine AA JD λG i=>AP (λl=>AB ⟨F,λ_=>⟨rfl,i.2 l u,rfl⟩,λa=>O! rfl a,λa=>O! a (by show(3:Y)≠5;decide)⟩) (λc=>AA Zz λH w=>?_);subst w;refine AA Ub λI j=>AL (λl=>?_) (λo=>?_);grind[AA,kG,AB];refine AA (WE h t A.cell (.inr rfl) u (i.1 c).2.2.1 λg D_ e=>by have⟨_,_,_,m,f,C,d⟩:=i.1 c;rw[h.ki.same C D_ (by rw[e,d,m]),d];exact(j.1 o).2) λp q=>AL (λl=>?_) (λa=>?_);grind[AA,kG,AB];have E_:=(q.2 a).2.2.1 v (by show(2:Y)≠1;decide);have n:=E_.1 (by show(2:Y)≠4;decide);have b:KL B x.1 p.1:=q.1;refine AA (P:=λk=>KL B x.1 k/\k.2.2.2.2.2.1=p.1.2.2.2.2.2.1) ?_ λM s=>AB ⟨s.1,λa=>O! a (by show(1:Y)≠3;decide),λ_ _=>⟨v,by rw[s.2];exact n⟩,λa=>O! a (by show(1:Y)≠5;decide)⟩;refine AK (λ_=>?_) (y? ⟨b,rfl⟩);refine AA (TQ b.2.2.1) λJ _=>AA (P:=λk=>KL B x.1 k/\k.2.2.2.2.2.1=p.1.2.2.2.2.2.1) ?_ λL z=>AB z;refine AP (λ_=>?_) (y? ⟨b,rfl⟩);exact AA (VY b.2.2.1.1) λK y=>AB ⟨⟨b.1,b.2.1,b.2.2.1.locks y,b.2.2.2⟩,rfl⟩
def Vd{x:AU×Y}(h:SK B x.1)(m:Dh x.1.2.2.1):An (J2 x) λr=>KL B x.1 r.1/\(r.2.1=3->∃e,NX x.1 x.2 e/\r.2.2.2.1=e.2.2.2.2.2.2.1.1/\¬oV x.1.2.2.2.1 e.2.2.2.2.2.2.1.1)/\(r.2.1≠3->r.2.1≠5->TP r.1.2.2.2.2.2.1<TP x.1.2.2.2.2.2.1)/\(r.2.1=5->r.2.2.2.2.2≠0):=by
 unfold J2;have D_:=KL.refl h m;refine AA (I0 h) λA q=>AL (λi=>?_) (λd=>?_);grind[AA,kG,AB];have⟨y,hr,n,o⟩:=q d;have f:An (σ (Hy x) λk=>
  bif (!k.2)then
   σ (BN 14) λC=>
   Z (x.1,C)
  else
  σ (GZ (x.1,A.1,k.1)) λp=>
  Z p) λr=>KL B x.1 r.1/\(r.2.1=3->∃e,NX x.1 x.2 e/\r.2.2.2.1=e.2.2.2.2.2.2.1.1/\¬oV x.1.2.2.2.1 e.2.2.2.2.2.2.1.1)/\(r.2.1≠3->r.2.1≠5->TP r.1.2.2.2.2.2.1<TP x.1.2.2.2.2.2.1)/\(r.2.1=5->r.2.2.2.2.2≠0):=by
  refine AA (iW h) λk u=>AP (λ_=>?_) (λi=>?_);grind[AA,kG,AB];have⟨_,hn,w⟩:=u i;refine AA (Ve h m y.2.2.2.1 w o) λp g=>AB ⟨g.1,λd=>?_,λa b=>(g.2.2.1 a b).2,g.2.2.2⟩;have⟨a,b,_⟩:=g.2.1 d;exact⟨_,hn,a,b⟩
 refine AO (λ_=>?_) (λ_=>f);refine AO (λ_=>?_) (λ_=>f);refine AA (GC h.sb) λE_ s=>AL (λi=>?_) (λd=>?_);grind[AA,kG,AB];have l:=(s d).2.1;have z:=(l.2.2.2.2.2.1.2.2.1 (by have⟨v,_,_,_,j⟩:=hr;rw[<-j];exact o) (by show(5:Y)≠1;decide)).1 (by show(5:Y)≠4;decide);have c:=l.kl h u!;exact AA (Mf c.2.2.1.1) λF t=>AB ⟨⟨c.1,c.2.1,c.2.2.1.locks t,c.2.2.2⟩,λd=>O! d (by show(1:Y)≠3;decide),λ_ _=>z,λd=>O! d (by show(1:Y)≠5;decide)⟩
def iV{x:AU×Y×Cz}(h:SK B x.1)(f:Dh x.1.2.2.1):An (NC x) λr=>KL B x.1 r.1/\(r.2.1=3->r.2.2.2.1=x.2.2.1/\¬oV x.1.2.2.2.1 x.2.2.1/\r.1=x.1)/\(r.2.1≠3->r.2.1≠5->r.2.2.1≠0->TP r.1.2.2.2.2.2.1<TP x.1.2.2.2.2.2.1):=by unfold NC;have o:=KL.refl h f;refine AA (I0 h) λp i=>AL (λ_=>?_) (λc=>?_);grind[AA,B9,AB];have⟨m,hr,g,n⟩:=i c;refine AL (λ_=>?_) (λ_=>?_);grind[AA,B9,AB];refine AA (TQ h) λq j=>AP (y? ⟨o,λc=>O! c (by show(1:Y)≠3;decide),λ_ _ c=>O! rfl c⟩) (λk=>?_);have⟨_,l,e⟩:=j k;refine AA (Ve h f m.2.2.2.1 l n) λs d=>AB ⟨d.1,λc=>?_,λa b _=>(d.2.2.1 a b).2⟩;have:=d.2.1 c;dsimp only at this;rw[e]at this;exact this
def SO{x:AV×Y}(h:SK B x.1.1):An (Eb x) λr=>O:=by unfold Eb;refine AA (Fp h.2.1) λc a=>AC (λb=>?_) (y? trivial);grind[AA,AI,AB]
end Go.Pm
namespace Go.Pm
open Go Go.Ab
variable {B:Int->Prop}
def SR(B:Y->Prop)(x s:AV):Prop:=KL B x.1 s.1/\DJ B s.1.2.2.1 s.2
def SR.trans{a b c}(h:SR B a b)(g:SR B b c):SR B a c:=⟨h.1.trans g.1,g.2⟩
def SvR.sr{a b}(h:SvR B a b):SR B a b:=⟨h.1.kl,h.2⟩
open Classical in
noncomputable def flag(p:Prop):Q:=if p then 1 else 0
theorem ACQ(p:Prop):flag p<=1:=by unfold flag;split<;>omega
def xy{p:Prop}(h:p):flag p=1:=by unfold flag;rw[C! h]
def xw{p:Prop}(h:¬p):flag p=0:=by grind[flag]
def ZW{x:AV×Y}(h:SK B x.1.1)(C:Dh x.1.1.2.2.1)(A:DJ B x.1.1.2.2.1 x.1.2):An (Ex x) λr=>r.2=0->SR B x.1 r.1:=by unfold Ex;refine AA (CM h.sb) λv E_=>AP (y? n!) (λm=>AA (Fp h.2.1) λH _=>AC (y? n!) (λ_=>AA (P:=λr=>(∀u,r=.inl u->u.1≠0)/\∀u,r=.inr u->SR B x.1 u.1) ?_ λr hr=>BH (λu a=>AB λb=>O! b (hr.1 u a)) (λu a=>AB λ_=>hr.2 u a)));refine AW (SR B x.1 ·.1) (λs=>2*TP s.1.1.2.2.2.2.2.1+flag (∃e,NX s.1.1 x.2 e/\¬oV s.1.1.2.2.2.1 e.2.2.2.2.2.2.1.1)) ⟨KL.refl h C,A⟩ (λs c=>?_);unfold Qt;have d:=c.1.2.2;refine AA (SO d.1) λI _=>AK (λ_=>?_) (y? ⟨λu a=>(by cases a),λu a=>(by cases a;exact c)⟩);refine AA (Vd d.1 d.2) λJ z=>?_;have⟨k1,D_,F,G⟩:=z;apply AO<;>intro i;grind[AB];refine AA (P:=λr=>(∃u,r=.inl u/\u.1≠0)\/∃u,r=.inr u/\SR B s.1 u.1/\2*TP u.1.1.2.2.2.2.2.1+flag (∃e,NX u.1.1 x.2 e/\¬oV u.1.1.2.2.2.1 e.2.2.2.2.2.2.1.1)<2*TP s.1.1.2.2.2.2.2.1+flag (∃e,NX s.1.1 x.2 e/\¬oV s.1.1.2.2.2.1 e.2.2.2.2.2.2.1.1)) ?_ λr hr=>?_;apply AO<;>intro o;have⟨e,k,p,q⟩:=D_ o;refine AA (Hz d.1 c.2) λK i=>AL (λm=>AB (.inl ⟨_,rfl,m⟩)) (λb=>AB (.inr ⟨_,rfl,(i b).1.sr,?_⟩));have⟨l,g⟩:=i b;have n:=l.1.2.2.2.2.1;rw[xy (⟨e,k,q⟩:∃e,NX s.1.1 x.2 e/\¬oV s.1.1.2.2.2.1 e.2.2.2.2.2.2.1.1),xw,n];dsimp only;omega;rintro⟨f,t,y⟩;have:=k.uniq t n l.1.2.1;subst this;dsimp only at g;rw[p]at g;exact y g;refine AB (.inr ⟨_,rfl,⟨k1,c.2.up k1.2.1⟩,?_⟩);grind[ACQ,oV];rcases hr with⟨u,rfl,a⟩|⟨u,rfl,a⟩;refine BF (AB ⟨λw j=>?_,λw j=>(by cases j)⟩);cases j;exact a;exact Ay (AB ⟨c.trans a.1,a.2⟩)
def lS{x:AV×Y×C2}(h:SK B x.1.1)(K:Dh x.1.1.2.2.1)(J:DJ B x.1.1.2.2.1 x.1.2):An (Pq x) λr=>SR B x.1 r.1/\(r.2.1=2->r.1.1.2.2.2.2.2.1=x.1.1.2.2.2.2.2.1):=by
 unfold Pq;refine AA (P:=λr=>SR B x.1 r.1/\(r.2.1=2->r.1.1.2.2.2.2.2.1=x.1.1.2.2.2.2.2.1)) ?_ λr hr=>AB hr;refine AW (λs=>SR B x.1 s.1/\s.1.1.2.2.2.2.2.1=x.1.1.2.2.2.2.2.1) (λs=>flag (¬oV s.1.1.2.2.2.1 x.2.2.2.1)) ⟨⟨KL.refl h K,J⟩,rfl⟩ (λs l=>?_);obtain⟨l,o⟩:=l;have y:=l.1.2.2;unfold WJ;refine AA (lP y.1 y.2) λf E_=>?_;obtain⟨k1,L,z⟩:=E_;have j:SR B x.1 (f.1,s.1.2):=⟨l.1.trans k1,l.2.up k1.2.1⟩
 have g:=k1.2.2;apply AO<;>intro q;obtain⟨a,b,c⟩:=L q;have d:=z (.inr q);refine AA (Hz g.1 j.2) λT F=>AL (λ_=>?_) (λi=>AB ?_);refine AA B9 λU R=>AB ⟨j,λ_=>?_⟩;dsimp only at*;rw[d,o];obtain⟨t,v⟩:=F i;refine⟨⟨j.trans t.sr,?_⟩,?_⟩;have:=t.1.2.2.2.2.1;dsimp only at*;rw[this,d,o];dsimp only at*;rw[xy b,xw];omega;intro hn;rw[a]at v;exact hn v;have k:∀(Q:Step (AV×(AV×Bf)) (AV×Bf)->Prop),(∀r:AV×Bf,SR B x.1 r.1/\(r.2.1=2->r.1.1.2.2.2.2.2.1=x.1.1.2.2.2.2.2.1)->Q (.done r))->∀c:Y,c≠2->f.2.1=c->An (σ (Eb ((f.1,s.1.2),x.2.1)) λA=>
  σ ((
    bif A then
     σ (Ex ((f.1,s.1.2),x.2.1)) λn=>
     bif (n.2 !=0)then
      σ (BN n.2) λC=>
      Z (.inl ((f.1,s.1.2),C))
     else
     Z (.inr (n.1,s.2))
    else
    Z (.inr ((f.1,s.1.2),s.2))):(V ((AV×Bf)⊕(AV×(AV×Bf))))) λO=>
  ν (λM=>Z (Step.done M))
  (λN=>Z (.done (N.1,f.2))) O) Q:=by
  intro Q w c S I;refine AA (SO g.1) λA _=>AA (P:=λr=>(∃u,r=.inl u/\SR B x.1 u.1/\u.2.1=5)\/∃u,r=.inr u/\SR B x.1 u.1) ?_ λr hr=>?_;refine AK (λ_=>?_) (y? (.inr ⟨_,rfl,j⟩));refine AA (ZW g.1 g.2 j.2) λn G=>AL (λ_=>?_) (λi=>AB (.inr ⟨_,rfl,j.trans (G i)⟩));exact AA B9 λC H=>AB (.inl ⟨_,rfl,j,H⟩);rcases hr with⟨u,rfl,m⟩|⟨u,rfl,m⟩;exact BF (AB (w _ ⟨m.1,λi=>by have:=m.2;omega⟩));exact Ay (AB (w _ ⟨m,λi=>by dsimp only at i;omega⟩))
 have e:SR B x.1 (f.1,s.1.2)/\(f.2.1=2->f.1.2.2.2.2.2.1=x.1.1.2.2.2.2.2.1):=⟨j,λi=>by rw[z (.inl i),o]⟩
 refine AO (λD_=>k _ (λr hr=>hr) 4 g! D_) (λ_=>AO (λp=>?_) (y? e));refine AO (λ_=>k _ (λr hr=>hr) 1 g! p) (λ_=>AO (λ_=>k _ (λr hr=>hr) 1 g! p) (y? e))
def fD{x}(h:SK B x)(d:Dh x.2.2.1):An (MF x) λr=>r.2.2=0->KL B x r.1:=by unfold MF;refine AA (CM h.sb) λv e=>AP (y? n!) (λb=>AC (y? n!) (λ_=>AA Uf λf c=>AL (λb=>AB λa=>O! a b) (λa=>AB λ_=>⟨rfl,LX.refl _,⟨h.1,?_,h.2.2⟩,d⟩)));have:=(c a).2;dsimp only;omega
def fM{x:AV}(h:SK B x.1)(e:Dh x.1.2.2.1)(d:DJ B x.1.2.2.1 x.2):An (ML x) λr=>r.2.2=0->SR B x r.1:=by unfold ML;refine AA (fD h e) λf b=>AL (λc=>AB λa=>O! a c) (λa=>AB λ_=>⟨b a,d.up (b a).2.1⟩)
def fE{x:AU×Y}(h:SK B x.1)(n:Dh x.1.2.2.1):An (MG x) λr=>r.2.2=0->KL B x.1 r.1/\P2 x.1.2.2.2.1/\oV x.1.2.2.2.1 x.2/\(∃f∈r.1.2.2.2.1.2.1,f.1=r.2.1)/\r.2.1.2.1<=r.1.2.2.1.2.2:=by
 unfold MG;refine AA (CM h.sb) λv q=>AP (y? n!) (λp=>AA JD λs o=>AP (y? n!) (λj=>?_));have⟨a,b,c,d,e⟩:=o.1 j;refine AA (KR h n) λt i=>AB λ_=>⟨i.1.kl,a,c,by dsimp only;rw[i.2.1];exact e,i.2.2 ?_⟩
 have⟨f,m,k⟩:=e;have g:=h.ki.2.2 f m;have:=E! (·.2.1) ((h.ki.2.1 f.1.1 g.1 g.2.1).1 f m rfl);have:=mZ n f.1.1;rw[Jg,k]at*;dsimp only;omega
def fO{x:AV×Y}(h:SK B x.1.1)(j:Dh x.1.1.2.2.1)(i:DJ B x.1.1.2.2.1 x.1.2):An (MN x) λr=>r.2=0->SR B x.1 r.1:=by unfold MN;refine AA (fE h j) λn l=>AL (λm=>AB λe=>O! e m) (λe=>?_);have⟨a,b,c,d,k⟩:=l e;refine AA Fo λo f=>AA (AI (f.2.2.2 b c) f.2.1) λp _=>AP (y? λ_=>⟨KL.refl h j,i⟩) (λ_=>AA (Uj a.2.2.1 a.2.2.2 (i.up a.2.1) d k) λq g=>AB λe=>⟨a.trans (g e).1.kl,(g e).2.1⟩)
end Go.Pm
namespace Go.Pm
open Go Go.Ab
def VDs(l:S Aj)(p:Y):Prop:=∀(i:Q)(d:Aj),l[i]?=Z d->((i:Y)<=d.1/\d.1<p/\1<=d.2.1/\d.2.1<=d.2.2/\d.2.2<=1099511627776)/\∀f,0<i->l[i-1]?=Z f->f.1<d.1
def VIs(x:By):Prop:=1<=W x/\W x<=64/\∀r∈x,(0<=r.1/\r.1<=1099511627776)/\(0<=r.2.1/\r.2.1<=1099511627776)/\0<=r.2.2/\r.2.2<=1099511627776
def VDs.len{l}{p}(h:VDs l p)(b:p<=64):W l<=64:=by refine UI λa=>?_;have:=(h (W l-1) _ (Au o!)).1;omega
def ALR{l:U Aj}{p:Y}(A:l.length<=16777216):An (FX (l,p)) λr=>r=true->VDs l p:=by
 refine AA (P:=λr=>r= .inl false\/(r= .inr ()/\VDs l p)) ?_ λr hr=>?_
 ·refine CQ (λ(s:Y)=>0<=s/\s<=l.length/\ ∀(i:Q) (d:Aj),(i:Y)<s->l[i]? =some d->((i:Y)<=d.1/\d.1<p/\1<=d.2.1/\d.2.1<=d.2.2/\d.2.2<=1099511627776)/\ ∀f,0<i->l[i-1]? =some f->f.1<d.1) (λs=>((l.length:Y)-s).toNat) ⟨Ae _,o!,λi d y=>o!⟩ (λs w=>?_);have⟨t,B,m⟩:=w;unfold HD;dsimp[T];refine AC (λn=>?_) (λn=>An.done (.inr ⟨rfl,λi d a=>m i d (by have:=Cs a;omega) a⟩));obtain⟨k,rfl⟩:=EG t;refine AA (AI t n) λv g=>?_;have g:=g.1;rw[CR]at g;refine AC (λ_=>An.done (.inl rfl)) (λq1=>AC (λ_=>An.done (.inl rfl)) (λq2=>AC (λ_=>An.done (.inl rfl)) (λq3=>AC (λ_=>An.done (.inl rfl)) (λq4=>AC (λ_=>An.done (.inl rfl)) (λq5=>?_)))));rw[AY (x:=(k:Y)+1)];have b:((k:Y)<=v.1/\ ∀f,0<k->l[k-1]? =some f->f.1<v.1)-> ∀(i:Q) (d:Aj),(i:Y)<(k:Y)+1->l[i]? =some d->((i:Y)<=d.1/\d.1<p/\1<=d.2.1/\d.2.1<=d.2.2/\d.2.2<=1099511627776)/\ ∀f,0<i->l[i-1]? =some f->f.1<d.1:=λq i d y a=>by by_cases h:i=k;subst h;rw[g]at a;cases a;exact⟨⟨q.1,o!⟩,q.2⟩;exact m i d o! a
  refine AC (λe=>?_) (λe=>An.next ⟨o!,o!,b ⟨o!,λf u=>absurd u o!⟩⟩ o!);rw[AY (x:=(k:Y)-1)];refine AA (AI) λz c=>?_;have c:=c.1;rw[show((k:Y)-1).toNat=k-1 by omega]at c;refine AC (λ_=>An.done (.inl rfl)) (λq6=>?_);have j:=(m (k-1) z o! c).1.1;refine An.next ⟨o!,o!,b ⟨o!,λf _ o=>?_⟩⟩ o!
  rw[c]at o;cases o;omega
 grind[BF,AB,Ay]
def AFI{x}:An (G7 x) λr=>r=E->0<=x/\x<=1099511627776:=by refine AC (λh=>AB λa=>⟨o!,N! a⟩) (y? λa=>by cases a)
def AJn{x:By}:An (D3 x) λr=>r=true->VIs x:=by
 refine AC (λ_=>AB λa=>by cases a) (λd=>AC (λ_=>AB λa=>by cases a) (λe=>?_));simp[T]at d e;refine AA (P:=λr=>r= .inl false\/(r= .inr ()/\VIs x)) ?_ λr hr=>?_
 ·refine CQ (λ(s:Y)=>0<=s/\s<=x.length/\ ∀r∈x.take s.toNat,(0<=r.1/\r.1<=1099511627776)/\(0<=r.2.1/\r.2.1<=1099511627776)/\0<=r.2.2/\r.2.2<=1099511627776) (λs=>((x.length:Y)-s).toNat) ⟨Ae _,o!,λr hr=>by simp at hr⟩ (λs g=>?_);have⟨i,p,c⟩:=g;unfold Jo;dsimp[T];refine AC (λb=>?_) (λb=>An.done (.inr ⟨rfl,o!,o!,by rw[BM o!]at c;exact c⟩));refine AA (AI i b) λv h=>AA AFI λj m=>AP (λ_=>An.done (.inl rfl)) (λq=>AA AFI λk n=>AP (λ_=>An.done (.inl rfl)) (λt=>AA AFI λl o=>AP (λ_=>An.done (.inl rfl)) (λu=>?_)));rw[AY (x:=s+1)];have f: ∀r∈x.take (s+1).toNat,(0<=r.1/\r.1<=1099511627776)/\(0<=r.2.1/\r.2.1<=1099511627776)/\0<=r.2.2/\r.2.2<=1099511627776:=λr hr=>by rw[show(s+1).toNat=s.toNat+1 by omega,Ck,h.1]at hr;grind
  grind[AO,An.next,AL,An.done]
 grind[BF,AB,Ay]
def VCk(c:Cd):Prop:=1<=c.1/\c.1<=64/\1<=c.2.1/\c.2.1<=1073741825/\VDs c.2.2.2.1 c.1/\VIs c.2.2.2.2/\W c.2.2.2.2=c.1
def AK8{c:Cd}(d:W c.2.2.2.1<=16777216):An (HM c) λr=>r=E->VCk c:=by refine AC (y? λa=>by cases a) (λf=>AC (y? λa=>by cases a) (λg=>AC (y? λa=>by cases a) (λh=>AC (y? λa=>by cases a) (λi=>AA D0 λo b=>AP (y? λa=>by cases a) (λe=>AA (ALR d) λp j=>AP (y? λa=>by cases a) (λl=>AA AJn λq k=>AP (y? λa=>by cases a) (λm=>AL (y? λa=>by cases a) (λn=>AA (RV ⟨Ae _,o!,by have:=(b e).1;omega⟩) λr hr=>?_))))))));grind[VCk,BH,AB]
def dB(d:Aj):Bd:=C4 d.1 1++(C4 d.2.1 8++C4 d.2.2 8)
def rB(r:Be):Bd:=C4 r.1 8++(C4 r.2.1 8++C4 r.2.2 8)
def wY(l:S Aj):Bd:=(l.map dB).flatten
def sh(l:S Be):Bd:=(l.map rB).flatten
def AI7(d:Aj):(dB d).length=17:=rfl
def AJc(r:Be):(rB r).length=24:=rfl
def AEr(l:S Aj)(d:Aj):wY (l++[d])=wY l++dB d:=by grind[wY,List.flatten_append]
def AFu(l:S Be)(d:Be):sh (l++[d])=sh l++rB d:=by grind[sh,List.flatten_append]
def zT(l:S Aj)(d:Aj):wY (d::l)=dB d++wY l:=rfl
theorem AAO(l:S Be)(d:Be):sh (d::l)=rB d++sh l:=rfl
theorem mW:∀l:S Aj,(wY l).length=17*W l
 |[]=>rfl
 |d::l=>by rw[zT,Aa,AI7,mW l,Bh];omega
theorem tS:∀l:S Be,(sh l).length=24*W l
 |[]=>rfl
 |d::l=>by rw[AAO,Aa,AJc,tS l,Bh];omega
def i8r{n:Y}(a:0<=n)(b:n<=1099511627776):ck 8 n:=⟨n!,o!⟩
def i1r{n:Y}(a:0<=n)(b:n<256):ck 1 n:=⟨λ_=>k!,o!⟩
def i2r{n:Y}(a:0<=n)(b:n<65536):ck 2 n:=⟨λ_=>k!,o!⟩
def i4r{n:Y}(a:0<=n)(b:n<4294967296):ck 4 n:=⟨λ_=>k!,o!⟩
def AG7{x}(h:VIs x):An (IX x) λr=>r.1=C4 (W x:Y) 2++sh x\/r.1=[]:=by
 have⟨c,d,e⟩:=h;refine AA AJn λi b=>AP (y? (.inr rfl)) (λ_=>?_);rw[IE q! g! g!,AD,B5];refine AA (P:=λr=>r=C4 (W x:Y) 2++sh x) (CQ (λs=>∃k:Q,k<=W x/\s=(C4 (W x:Y) 2++sh (x.take k),(k:Y))) (W x-·.2.toNat) ⟨0,BV _,by simp[sh]⟩ ?_) λr hr=>AB (.inl hr);rintro s ⟨k,f,rfl⟩;unfold Iz;dsimp[T];refine AC (λa=>?_) (λa=>k? k!);have g:(C4 (W x:Y) 2++sh (x.take k)).length<=2000:=by grind[n?,Az,tS,r?]
 rw[(by unfold ix;rw[C! o!,s?,m? o!]:ix x (k:Y)=Z x[k]),p?,IE o! g! g!,p?,p?,IE (by rw[n?,Az];simp only[Int.reduceToNat];omega) g! g!,p?,p?,IE (by rw[n?,n?,Az,Az];simp only[Int.reduceToNat];omega) g! g!,p?,AY];refine y! ⟨k+1,o!,?_⟩ o!
 rw[(by simp_all:x.take (k+1)=x.take k++[x[k]]),AFu];simp only[A3];exact Da rfl o!
def AG2{x}(h:VIs x):An (Ep (C4 (W x:Y) 2++sh x)) λr=>r.2=0->r.1=x:=by
 have⟨t,u,i⟩:=h;have y:(C4 (W x:Y) 2++sh x).length=2+24*W x:=by rw[Aa,Az,tS]
 unfold Ep;have d:=(lU (x:=C4 (W x:Y) 2++sh x) (p:=[]) (rest:=sh x) (at_:=0) (k:=2) (n:=(W x:Y)) rfl rfl o! g! g! (i2r o! o!)).1;rw[show(((2:Q)):Y)=2 from rfl]at d;rw[d,AD];have m:wi (T (C4 (W x:Y) 2++sh x)-2)=24*(W x:Y):=by grind[AY]
 have o:wi (24*((W x:Y),(0:Y)).1)=24*(W x:Y):=AY k!;rw[show((((W x:Y),(0:Y)):Y×Y).2 !=0)=X from rfl,A!,F! o!,A!,F! o!,A!];refine AA (P:=λr=>r=x) ?_ λr hr=>?_
 ·refine CQ (λs=>∃k:Q,k<=W x/\s=((k:Y),x.take k)) (W x-·.1.toNat) ⟨0,BV _,rfl⟩ ?_;rintro s ⟨k,w,rfl⟩;unfold Iy;dsimp only;refine AC (λl=>?_) (λl=>k? (by rw[BM o!]));have b:k<W x:=o!
  have a:(sh (x.take k)).length=24*k:=by grind[tS,r?]
  have c:C4 (W x:Y) 2++sh x=(C4 (W x:Y) 2++sh (x.take k))++(C4 x[k].1 8++(C4 x[k].2.1 8++(C4 x[k].2.2 8++sh (x.drop (k+1))))):=by rw[(by grind[AAO,List.drop_eq_getElem_cons,sh,List.flatten_append,List.take_append_drop]:sh x=sh (x.take k)++(rB x[k]++sh (x.drop (k+1))))];unfold rB;simp[A3]
  have⟨q1,q2,q3⟩:=i x[k] (F8 b);have e:=(lU (at_:=2+24*(k:Y)) (k:=8) c (by rw[Aa,Az,a];omega) o! g! g! (i8r q1.1 q1.2)).1;rw[<-A3]at c;have f:=(lU (at_:=10+24*(k:Y)) (k:=8) c (by simp[Aa,Az,a];omega) o! g! g! (i8r q2.1 q2.2)).1;rw[<-A3]at c;have g:=(lU (at_:=18+24*(k:Y)) (k:=8) c (by simp[Aa,Az,a];omega) o! g! g! (i8r q3.1 q3.2)).1;rw[show(((8:Q)):Y)=8 from rfl]at e f g;rw[AY (x:=24*(k:Y)),AY (x:=2+24*(k:Y)),AY (x:=10+24*(k:Y)),AY (x:=18+24*(k:Y)),e,AD,f,AD,g,AD,AY (x:=(k:Y)+1)];refine AA (AZ (by rw[BP];simp;omega)) λz j=>y! ⟨k+1,b,?_⟩ d!
  rw[j.1,(by simp_all:x.take (k+1)=x.take k++[x[k]])];exact Da d! rfl
 subst hr;exact AA AJn λA v=>AP (y? λq=>O! (show(28:Y)=0 from q) g!) (y? λ_=>rfl)
def AG8{c:Cd}(l:W c.2.2.2.1<=16777216):An (Gs c) λr=>W r.1<=8192->r.1=[]\/(VCk c/\∃b g:Bd,r.1=C4 c.1 2++(C4 c.2.1 4++(C4 (W b:Y) 4++(b++(C4 (W c.2.2.2.1:Y) 1++(wY c.2.2.2.1++g)))))/\(g=C4 (W c.2.2.2.2:Y) 2++sh c.2.2.2.2\/g=[])):=by
 unfold Gs;refine AA (AK8 l) λB n=>AP (y? λ_=>.inl rfl) (λe=>?_);have m:=n e;have⟨a1,a2,a3,a4,a5,a6,a7⟩:=id m;have t:=a5.len a2;refine AA TM λx z=>?_;rw[IE q! g! g!,AD,B5,IE (by rw[Az];decide) g! g!,AD,IE (by simp only[Aa,Az];decide) g! g!,AD];refine AA (CN (by simp[Aa,Az,Int.reduceToNat];omega)) λj q=>?_;have w:=q.2;simp[Aa,Az,Int.reduceToNat]at w;dsimp[T];rw[IE o! g! g!,AD];refine AA (P:=λr=>r=j++(C4 (W c.2.2.2.1:Y) 1++wY c.2.2.2.1)) ?_ λh o=>?_
 ·refine CQ (λs=>∃k:Q,k<=W c.2.2.2.1/\s=(j++(C4 (W c.2.2.2.1:Y) 1++wY (c.2.2.2.1.take k)),(k:Y))) (W c.2.2.2.1-·.2.toNat) ⟨0,BV _,by simp[wY]⟩ ?_;rintro s ⟨k,A,rfl⟩;unfold I1;dsimp[T];refine AC (λe=>?_) (λe=>k? k!);have a:k<W c.2.2.2.1:=o!
  have u:ix c.2.2.2.1 (k:Y)=Z c.2.2.2.1[k]:=by unfold ix;rw[C! o!,s?,m? a]
  have l:(j++(C4 (W c.2.2.2.1:Y) 1++wY (c.2.2.2.1.take k))).length<=100000000:=by grind[n?,Az,mW,r?]
  rw[u,AD,IE o! g! g!,AD,AD,IE (by rw[Aa,Az];simp only[Int.reduceToNat];omega) g! g!,AD,AD,IE (by rw[Aa,Aa,Az,Az];simp only[Int.reduceToNat];omega) g! g!,AD,AY];refine y! ⟨k+1,a,?_⟩ k!
  have f:c.2.2.2.1.take (k+1)=c.2.2.2.1.take k++[c.2.2.2.1[k]]:=t!
  rw[f,AEr];unfold dB;grind[t?,Prod.ext]
 refine AA (TK.and (AG7 a6)) λi d=>?_;have v:W h<=100000000:=by grind[n?,Az,mW]
 refine AA (CN o!) λy p=>AB λ_=>.inr ⟨m,x.1,i.1,?_,d.2⟩;grind[t?]
def AG3{c}(Q:VCk c){b l s:Bd}(J:s=C4 c.1 2++(C4 c.2.1 4++(C4 (θ b:Int) 4++(b++(C4 (θ c.2.2.2.1:Int) 1++(wY c.2.2.2.1++l))))))(X_:θ s≤8192)(v:l=C4 (θ c.2.2.2.2:Int) 2++sh c.2.2.2.2∨l=[]):
  An (DR s) λr=>r.2=0->r.1.1=c.1/\r.1.2.2.2.1=c.2.2.2.1/\r.1.2.2.2.2=c.2.2.2.2:=by
 obtain⟨a1,a2,a3,a4,a5,a6,a7⟩:=id Q;have O:=a5.len a2;have d:=J;have y:=E! θ J;simp only[Aa,Az,mW]at y;have F:=(lU (x:=s) (p:=[]) (at_:=0) (k:=2) (n:=c.1) (show s=[]++(C4 c.1 2++_)from d) rfl o! g! g! (i2r o! o!)).1;have G:=(lU (at_:=2) (k:=4) (n:=c.2.1) d (by rw[Az];rfl) o! g! g! (i4r o! o!)).1;rw[<-A3]at d;have H:=(lU (at_:=6) (k:=4) (n:=(θ b:Int)) d (by rw[Aa,Az,Az];rfl) o! g! g! (i4r o! o!)).1;rw[<-A3,<-A3]at d;have I:=(lU (at_:=10+(θ b:Int)) (k:=1) (n:=(θ c.2.2.2.1:Int)) d (by simp only[Aa,Az];omega) o! g! g! (i1r o! o!)).1;rw[<-A3]at d;rw[show(((2:Nat)):Int)=2 from rfl]at F;rw[show(((4:Nat)):Int)=4 from rfl]at G H;rw[show(((1:Nat)):Int)=1 from rfl]at I;have w:((((C4 c.1 2++C4 c.2.1 4)++C4 (θ b:Int) 4)++b)++C4 (θ c.2.2.2.1:Int) 1).length=11+θ b:=by simp only[Aa,Az];omega
 generalize V:(((C4 c.1 2++C4 c.2.1 4)++C4 (θ b:Int) 4)++b)++C4 (θ c.2.2.2.1:Int) 1=P at d w;unfold DR;rw[F,AD,G,AD,H,AD];dsimp only[len];rw[show((0:Int) !=0)=X by decide,A!,AY (x:=(θ s:Int)-10),F! o!,A!,AY (x:=10+(θ b:Int))];refine AA (CW g!) λY L=>?_;rw[I,AD];dsimp only;rw[show((0:Int) !=0)=X by decide,A!,AY (x:=(θ s:Int)-(10+(θ b:Int))),AY (x:=(θ s:Int)-(10+(θ b:Int))-1),AY (x:=17*(θ c.2.2.2.1:Int)),F! o!,A!,AY (x:=10+(θ b:Int)+1)];refine AA (P:=λr=>r=((θ P:Int)+17*θ c.2.2.2.1,c.2.2.2.1,c.1,c.2.1,[],[])) ?_ λR m=>?_
 ·refine CQ (λq=>∃k:Nat,k<=θ c.2.2.2.1/\q=((θ P:Int)+17*k,(k:Int),c.2.2.2.1.take k,c.1,c.2.1,[],[])) (θ c.2.2.2.1-·.2.1.toNat) ⟨0,BV _,?_⟩ ?_;refine Da ?_ rfl;dsimp only;omega;rintro q ⟨k,W,rfl⟩;unfold Mm;dsimp only;refine AC (λN=>?_) (λN=>k? (by rw[BM o!,show k=θ c.2.2.2.1 by omega]));have e:k<θ c.2.2.2.1:=o!
  have z:wY c.2.2.2.1=wY (c.2.2.2.1.take k)++(dB c.2.2.2.1[k]++wY (c.2.2.2.1.drop (k+1))):=by rw[<-zT,<-OQ e];unfold wY;rw[<-List.flatten_append,<-Ke,DG]
  have f:(wY (c.2.2.2.1.take k)).length=17*k:=by rw[mW,BP];omega
  have i:s=(P++wY (c.2.2.2.1.take k))++(C4 c.2.2.2.1[k].1 1++(C4 c.2.2.2.1[k].2.1 8++(C4 c.2.2.2.1[k].2.2 8++(wY (c.2.2.2.1.drop (k+1))++l)))):=by rw[d,z];unfold dB;simp only[A3]
  obtain⟨q1,q2,q3,q4,q5⟩:=(a5 k _ (Au e)).1;have C:=(lU (at_:=(θ P:Int)+17*k) (k:=1) i (by rw[Aa,f];omega) o! g! g! (i1r o! o!)).1;rw[<-A3]at i;have D_:=(lU (at_:=(θ P:Int)+17*k+1) (k:=8) i (by simp only[Aa,Az,f];omega) o! g! g! (i8r o! o!)).1;rw[<-A3]at i;have E_:=(lU (at_:=(θ P:Int)+17*k+9) (k:=8) i (by simp only[Aa,Az,f];omega) o! g! g! (i8r o! o!)).1;rw[show(((1:Nat)):Int)=1 from rfl]at C;rw[show(((8:Nat)):Int)=8 from rfl]at D_ E_;rw[C,AD,AY (x:=(θ P:Int)+17*k+1),D_,AD,AY (x:=(θ P:Int)+17*k+9),E_,AD,AY (x:=(θ P:Int)+17*k+17),AY (x:=(k:Int)+1)];refine AA (AZ (by rw[BP];simp;omega)) λZ_ M=>y! ⟨k+1,e,?_⟩ d!
  have B:c.2.2.2.1.take (k+1)=c.2.2.2.1.take k++[c.2.2.2.1[k]]:=by rw[Ck,Au e];rfl
  rw[M.1,B];refine Da ?_ (Da ?_ rfl);dsimp only;omega;dsimp only;omega
 subst m;refine AA (TL (by rw[L.1,BP,C5];omega)) λS _=>AL (λg=>AB λh=>O! h g) (λ_=>?_);dsimp only;have A:R4 s ((θ P:Int)+17*(θ c.2.2.2.1:Int)) (θ s:Int)=Z l:=by
  unfold R4;rw[C! o!,d,<-A3];have u:(P++wY c.2.2.2.1).length=((θ P:Int)+17*(θ c.2.2.2.1:Int)).toNat:=by rw[Aa,mW];omega
  rw[<-u,Rn,BM (by rw[Aa];omega)]
 rw[A,AD];rcases v with rfl|rfl;refine AA ((TJ o!).and (AG2 a6)) λT o=>AL (λg=>AB λh=>O! h g) (λj=>AA (Oq d!) λU _=>AP (y? λh=>O! (show(24:Int)=0 from h) g!) (y? λ_=>⟨rfl,rfl,o.2 j⟩));have K:Ep []=Z ([],5):=by unfold Ep;have:=kH (a:=[]) (t:=[]) (k:=2) g! g! g!;rw[Dc,D! g!]at this;rw[show((([]:Bd).length:Nat):Int)=0 from rfl]at this;rw[this];rfl
 rw[K,AD];exact AB λh=>O! (show(5:Int)=0 from h) g!
variable {B:Int->Prop}
def fA{x:Bz}:An (MA x) λr=>r.length<=64/\(∀d∈r,∃f∈x.2.1,f.1.1=d.1/\d.2.2=f.1.2.1)/\(P2 x-> ∀f∈x.2.1,f.2.1=true->0<=f.1.1->f.1.1<64-> ∃d∈r,d.1=f.1.1):=by
 unfold MA;refine AA Ea λv B=>AP (λm=>AB ⟨q!,q!,λo=>absurd (B.2 o) (by simp[m])⟩) (λm=>?_);have o:=B.1 m;have R:=o.2.1;have S:=o.2.2.1;refine AA (P:=λr=>r.length<=64/\(∀d∈r,∃f∈x.2.1,f.1.1=d.1/\d.2.2=f.1.2.1)/\ ∀f∈x.2.1,f.2.1=true->0<=f.1.1->f.1.1<64-> ∃d∈r,d.1=f.1.1) ?_ λr hr=>AB ⟨hr.1,hr.2.1,λ_=>hr.2.2⟩;refine CQ (λ(s:Y×List Aj)=>0<=s.1/\s.1<=64/\s.2.length<=s.1/\(∀d∈s.2,∃f∈x.2.1,f.1.1=d.1/\d.2.2=f.1.2.1)/\ ∀f∈x.2.1,f.2.1=true->0<=f.1.1->f.1.1<s.1-> ∃d∈s.2,d.1=f.1.1) (λ(s:Y×List Aj)=>(64-s.1).toNat) ⟨Ae _,u!,q!,q!,λf _ _ i k=>absurd k d!⟩ (λs I=>?_);have⟨k,O,Q,p,q⟩:=I;unfold TI;rw[(AY (x:=s.1+1))];refine AC (λm=>?_) (λm=>An.done ⟨o!,p,λf h c i k=>q f h c i o!⟩);refine AA (Gq d!) λL b=>AC (λa=>?_) (λa=>An.next ⟨d!,d!,d!,p,λf h c i k=>?_⟩ d!)
 ·have⟨g,A,t⟩:=b.2.2.1 a;have D_: ∀w,x.2.1[L.toNat]? =some w->w=g:=λw C=>by rw[A]at C;exact(BY C).symm
  refine AA (AI a b.2.1) λM y=>?_;have E_:=D_ M y.1;subst E_;refine AA (P:=λl=>l.length<=s.2.length+1/\(∀d∈l,∃f∈x.2.1,f.1.1=d.1/\d.2.2=f.1.2.1)/\ ∀f∈x.2.1,f.2.1=true->0<=f.1.1->f.1.1<s.1+1-> ∃d∈l,d.1=f.1.1) ?_ λV H=>An.next ⟨d!,d!,d!,H.2⟩ d!
  refine AK (λn=>?_) (λn=>AB ⟨o!,p,λf h c i k=>?_⟩);refine AA (AI a b.2.1) λT _=>AA (AI a b.2.1) λN z=>?_;have F:=D_ N z.1;subst F;refine AA (AZ w!) λU G=>AB ⟨?_,λd c=>?_,λf h c i k=>?_⟩;grind;grind;rw[G.1];by_cases e:f.1.1<s.1;have⟨d,J,K⟩:=q f h c i e;grind[List.mem_append_left];exact⟨_,NU _ (A5.2 rfl),d!⟩;by_cases e:f.1.1<s.1;exact q f h c i e;have⟨j,u⟩:=DW h;have:=o.uniq u A (by dsimp only at t;omega);subst this;rw[n]at c;cases c
 by_cases e:f.1.1<s.1;grind;have⟨j,u⟩:=DW h;exact absurd ⟨j,f,u,by dsimp only at k⊢;omega⟩ (b.2.2.2 o!)
def lR{x:AU}(h:SK B x):An (Pp x) λr=>r.2=0->r.1.2.2.2.1.length<=16777216/\r.1.1=x.1/\yq x.1 x.2.2.1.2.1 r.1.2.2.2.1 r.1.2.2.2.2:=by
 unfold Pp;refine AA (CM h.sb) λv hv=>AP (λ_=>AB n!) (λo=>?_);have J:=hv o;have ad:=J.2.1;have⟨al,n,H⟩:=h.ki;refine AA (P:=λr=>r.1.length<=16777216/\r.2=(x.1,(x.2.1,(x.2.2.2.2.2.1,x.2.2.2.2.2.2.1)))/\(∀d∈r.1,d.2.2=BZ x.2.2.1.2.1 d.1)/\ ∀p,0<=p->p<x.1->(∀d∈r.1,d.1≠p)->(∀d∈x.2.2.2.2.2.2.2,d.1≠p)/\ ∀f∈x.2.2.2.1.2.1,f.1.1=p->f.2.1=false) ?_ λr hr=>AB λ_=>⟨hr.1,by rw[hr.2.1],λp g i=>⟨λd a e=>by rw[hr.2.2.1 d a,e],λw D_=>?_⟩⟩
 rotate_left 1;dsimp only at D_;rw[hr.2.1]at D_;have⟨_,_,c⟩:=n p g i;exact⟨(c w D_).1,λa=>(c w D_).2 (hr.2.2.2 p g i a).1 (hr.2.2.2 p g i a).2⟩;refine CQ (λ(s:Int×(List Aj)×Int×Int×(List Ap)×By)=>0<=s.1/\s.1<=x.1/\s.2.1.length<=65*s.1/\s.2.2=(x.1,(x.2.1,(x.2.2.2.2.2.1,x.2.2.2.2.2.2.1)))/\(∀d∈s.2.1,d.2.2=BZ x.2.2.1.2.1 d.1)/\ ∀p,0<=p->p<s.1->(∀d∈s.2.1,d.1≠p)->(∀d∈x.2.2.2.2.2.2.2,d.1≠p)/\ ∀f∈x.2.2.2.1.2.1,f.1.1=p->f.2.1=false) (λ(s:Int×(List Aj)×Int×Int×(List Ap)×By)=>(x.1-s.1).toNat) ⟨Ae _,by have:=J.1;dsimp only;omega,q!,rfl,q!,λp g i=>absurd i d!⟩ (λs hI=>?_);have⟨h1,h2,h3,R,S,b⟩:=hI;unfold WG;have e:=AY (x:=s.1+1);rw[e];refine AC (λo=>?_) (λ_=>An.done ⟨o!,R,S,λp g i=>b p g o!⟩);refine AA (KT h.sb) λv2 y=>AA (P:=λl=>l.1.length<=s.2.1.length+1/\l.2=s.2.2/\(∀d∈l.1,d.2.2=BZ x.2.2.1.2.1 d.1)/\(∀d∈s.2.1,d∈l.1)/\((∀d∈l.1,d.1≠s.1)-> ∀d∈x.2.2.2.2.2.2.2,d.1≠s.1)) ?_ λW F=>?_;refine AK (λm=>AA (AZ w!) λv6 b=>AB ?_) (λm=>AB ⟨o!,rfl,S,λd a=>a,λ_=>y.2 m⟩);have⟨q1,q2⟩:=y.1 m;have K:=b.2.1;simp at K;refine⟨d!,rfl,λd a=>?_,λd a=>by dsimp only;rw[b.1];exact GU _ a,λhn=>absurd q2 (hn _ (by dsimp only;rw[b.1];exact NU _ (A5.2 rfl)))⟩;dsimp only at a;rw[b.1,Ak]at a;rcases a with a|a;grind;rw[A5]at a;subst a;exact(n _ (by dsimp only at q2;omega) (by dsimp only at q2;omega)).2.1 _ q1 rfl;have⟨a1,a2,a3,a4,a5⟩:=F;refine AA fA λE_ L=>?_;have⟨b1,Y,Z_⟩:=L;refine AA (P:=λl=>l.1.length<=s.2.1.length+65/\l.2=s.2.2/\(∀d∈l.1,d.2.2=BZ x.2.2.1.2.1 d.1)/\(∀d∈W.1,d∈l.1)/\ ∀d∈E_,d.1=s.1->d∈l.1) ?_ λao k=>An.next ⟨d!,d!,d!,by dsimp only;rw[k.2.1,R],k.2.2.1,λp g i hn=>?_⟩ d!
 rotate_left 1;have⟨_,_,_,N,c5⟩:=k;dsimp only at i hn;by_cases u:p<s.1;exact b p g u λd a=>hn d (N d (a4 d a));have ep:p=s.1:=o!
 subst ep;refine⟨a5 λd a=>hn d (N d a),λf C Q=>?_⟩;cases hb:f.2.1 with
 |false=>rfl
 |true=>have⟨d,G,q⟩:=Z_ J.2.2.2.1 f C hb o! o!;exact absurd (q.trans Q) (hn d (c5 d G (q.trans Q)))
 refine CQ (λ(t:Int×(List Aj)×Int×Int×(List Ap)×By)=>0<=t.1/\t.1<=E_.length/\t.2.1.length<=s.2.1.length+1+t.1/\t.2.2=s.2.2/\(∀d∈t.2.1,d.2.2=BZ x.2.2.1.2.1 d.1)/\(∀d∈W.1,d∈t.2.1)/\ ∀(j:Nat) (d:Aj),(j:Int)<t.1->E_[j]? =some d->d.1=s.1->d∈t.2.1) (λ(t:Int×(List Aj)×Int×Int×(List Ap)×By)=>((E_.length:Int)-t.1).toNat) ⟨Ae _,d!,d!,a2,a3,λd a=>a,λj d I=>absurd I d!⟩ (λt hJ=>?_);have⟨j1,j2,j3,U,M,V,j7⟩:=hJ;unfold WH;have e2:=AY (x:=t.1+1);rw[e2];refine AC (λo=>?_) (λo=>An.done ⟨o!,U,M,V,λd a O=>?_⟩);rotate_left 1;grind[List.getElem?_of_mem,Cs];simp[len]at o;refine AA (AI j1 o) λX_ z=>AA (P:=λl=>l.1.length<=t.2.1.length+1/\l.2=t.2.2/\(∀d∈l.1,d.2.2=BZ x.2.2.1.2.1 d.1)/\(∀d∈t.2.1,d∈l.1)/\(X_.1=s.1->X_∈l.1)) ?_ λv9 A=>An.next ⟨d!,d!,d!,A.2.1.trans U,A.2.2.1,λd a=>A.2.2.2.1 d (V d a),λj d I a O=>?_⟩ d!
 rotate_left 1;dsimp only at I;by_cases u:(j:Int)<t.1;grind;have:j=t.1.toNat:=o!
 subst this;rw[z.1]at a;have:=BY a;subst this;exact A.2.2.2.2 O;refine AO (λT=>AA (AZ w!) λv6 b=>AB ?_) (λT=>AB ⟨o!,rfl,M,λd a=>a,λe=>absurd e T⟩);have K:=b.2.1;simp at K;refine⟨d!,rfl,λd a=>?_,λd a=>by dsimp only;rw[b.1];exact GU _ a,λ_=>by dsimp only;rw[b.1];exact NU _ (A5.2 rfl)⟩;dsimp only at a;rw[b.1,Ak]at a;rcases a with a|a;exact M d a;rw[A5]at a;subst a;have⟨f,C,f1,f2⟩:=Y d z.2;have hr:=H f C;rw[f2,(n d.1 o! o!).1 f C f1,Jg]
theorem AG4:∃c e,DR []=Z (c,e)/\e≠0:=⟨(0,0,[],[],[]),5,h!,g!⟩
def iX{x}(h:SK B x):An (RU x) λr=>r.2.2=0->KL B x r.1:=by
 refine AA (lR h) λM u=>AL (λb=>AB λa=>O! a b) (λa=>?_);have⟨o,L,C⟩:=u a;refine AA ((cI o).and (AG8 o)) λE_ j=>AC (y? n!) (λf=>?_);simp[T]at f;have d:∀c,DR E_.1=Z (c,0)->c.1=x.1->yq x.1 x.2.2.1.2.1 c.2.2.2.1 c.2.2.2.2:=by intro c b _;rcases j.2 o! with e|⟨g,D_,K,A,i⟩;grind[AG4,Option.some.inj];have⟨_,q2,q3⟩:=(AG3 g A o! i).get b rfl;rw[q2,q3];exact C
 refine AA (GC h.sb) λN v=>AL (λb=>AB λa=>O! a b) (λa=>?_);have⟨_,⟨a1,a2,a3,a4,a5,a6,a7,a8,e,k,s,t,l,I,m,J⟩,w⟩:=v a;dsimp only at a1 a2 a4 a7 k s t l m w;have y:=a2.1;refine AA (KM.and (td a3 k!)) λO n=>AB λ_=>?_;have⟨F,p,G,H,_⟩:=n.1 n.2;refine⟨a1,a2.trans (LX.of G p H),⟨a8.1,a8.2.1,a8.2.2,?_⟩,F⟩;unfold KI;rw[a1,a4,a7,p,k,m g!];refine⟨h.ki.1.app ⟨λq=>o!,λq=>o!,λ_=>?_⟩,h.ki.2.1.app o!,h.ki.2.2⟩;rw[(E! (·.2.2) l)];exact d
def Xy{x:AV}(h:SK B x.1)(d:DJ B x.1.2.2.1 x.2):An (Lf x) λr=>r.2.2=0->SR B x r.1:=by exact AA (iX h) λe b=>AL (λc=>AB λa=>O! a c) (λa=>AB λ_=>⟨b a,d.up (b a).2.1⟩)
end Go.Pm
namespace Go.Pm
open Go Go.Ab
theorem cH{x:Bd}(h:x.length<=1099511627776):An (DR x) λr=>r.2=0->tn r.1/\r.1.2.2.2.1.length<=65536:=by unfold DR;refine AA (Cp h) λO _=>AA (Cp h) λQ _=>AA (Cp h) λc w=>AL (λa=>AB n!) (λj=>?_);have⟨a1,a2,a3,_⟩:=w j;have a4:=a3 k!;dsimp only at a1 a2;rw[(AY (x:=T x-10) k!)];refine AC (λa=>AB n!) (λa=>?_);simp[T]at a;rw[(AY (x:=10+c.1))];refine AA (CW g!) λR y=>AA (Cp h) λd z=>AL (λa=>AB n!) (λk=>?_);have⟨o,p,q,t⟩:=z k;have G:=q k!;have H:=t k!;dsimp only at o p;rw[(AY (x:=T x-(10+c.1)) k!)];rw[(AY (x:=T x-(10+c.1)-1) k!)];rw[(AY (x:=17*d.1))];refine AC (λa=>AB n!) (λi=>?_);simp[T]at i;rw[(AY (x:=10+c.1+1))];refine AA (P:=λr=>r.1=10+c.1+1+17*d.1/\r.2.1.length<=65536) ?_ λB e=>?_;refine AW (λ(s:Y×Y×U Aj×Y×Y×U Ap×By)=>0<=s.2.1/\s.2.1<=d.1/\s.1=10+c.1+1+17*s.2.1/\s.2.2.1.length<=s.2.1) (λ(s:Y×Y×U Aj×Y×Y×U Ap×By)=>(d.1-s.2.1).toNat) ⟨Ae _,k!,k!,q!⟩ (λs A=>?_);have⟨J,K,L,M⟩:=A;unfold Mm;refine AC (λa=>AA (Cp h) λ_ _=>AA (Cp h) λ_ _=>AA (Cp h) λ_ _=>AA (AZ w!) λS I=>?_) (λa=>AB ⟨k!,k!⟩);grind[List.length_cons,List.length_nil,AY,AB];have N:=y.2;refine AA (TL o!) λC u=>AL (λa=>AB λb=>absurd b a) (λm=>AA (CW o! (by simp[T];omega) i!) λD_ f=>?_);have l:=f.2;simp[T]at l;exact AA (TJ o!) λE_ v=>AL (λa=>AB λb=>absurd b a) (λn=>AA (Oq d!) λF g=>AP (λa=>AB n!) (λa=>AB λ_=>⟨g a,e.2⟩))
def MZ.data{e}(h:MZ e):W e.2.2.2.2.2.2.2<=8192:=by have a:=h.2.2.2.2.2.2.2.2;grind[Vy]
def cJ{x:Ac}:An (Po x) λr=>r.2.2=true->(tn r.1/\r.1.2.2.2.1.length<=65536)/\ ∃(i:Q) (e:AE),x.2.1[i]? =some e/\e.2.1=6/\e.1=r.2.1/\DR e.2.2.2.2.2.2.2=some (r.1,0):=by
 refine AA Bb λv j=>AP (λ_=>AB λc=>by cases c) (λa=>?_);have f:=j.1 a;have g:=f.2.2.1;have e:=AY (x:=T x.2.1-1) k!;refine AA (P:=λr=> ∀u,r= .inl u->(tn u.2.2/\u.2.2.2.2.2.1.length<=65536)/\ ∃(i:Q) (e:AE),x.2.1[i]? =some e/\e.2.1=6/\e.1=u.1/\DR e.2.2.2.2.2.2.2=some (u.2.2,0)) ?_ λr hr=>BH (λu b=>AB λ_=>hr u b) (λ_ _=>AB λc=>by cases c);refine AW (λ(s:Y×Cd)=> -1<=s.1/\s.1<x.2.1.length) (λ(s:Y×Cd)=>(s.1+1).toNat) ⟨k!,k!⟩ (λs d=>?_);unfold SN;rw[(AY (x:=s.1-1))];refine AC (λa=>?_) (λ_=>AB λu b=>by cases b);have k:((-1<=s.1-1/\s.1-1<x.2.1.length)/\(s.1-1+1).toNat<(s.1+1).toNat):=o!
 refine AA (AI a d.2) λo l=>AL (λ_=>AB k) (λm=>AA (AI a d.2) λp h=>?_);have n:=(f.2.2.2.2.2 _ _ h.1).2.data;grind[D7,cH,AO,AA,AI,AB]
def DG2(x:S Aj×AE)(l:S Aj):Prop:=∀d∈l,(d.1=x.2.2.2.2.2.2.2.1.1/\d.2.2=x.2.1)\/(d.1≠x.2.2.2.2.2.2.2.1.1/\d∈x.1)
def DG1(x:S Aj×AE)(l:S Aj):Prop:=∀d∈l,∃c∈x.1,c.1=d.1/\c.2.2=d.2.2
def DK(x:S Aj×AE)(i:Y)(l:S Aj):Prop:=∀(j:Q)(d:Aj),(j:Y)<i->x.1[j]?=Z d->d.1≠x.2.2.2.2.2.2.2.1.1->d∈l
def DG2.snoc{x}{l m:S Aj}{d:Aj}(h:DG2 x l)(e:m=l++[d])(b:(d.1=x.2.2.2.2.2.2.2.1.1/\d.2.2=x.2.1)\/(d.1≠x.2.2.2.2.2.2.2.1.1/\d∈x.1)):DG2 x m:=by subst e;intro c a;rcases Ak.1 a with a|a;exact h c a;grind
def DG1.snoc{x}{l m:S Aj}{d:Aj}(h:DG1 x l)(e:m=l++[d])(b:∃c∈x.1,c.1=d.1/\c.2.2=d.2.2):DG1 x m:=by subst e;intro c a;rcases Ak.1 a with a|a;exact h c a;grind
def DK.snoc{x}{l m:S Aj}{d:Aj}{i}(h:DK x i l)(e:m=l++[d]):DK x i m:=λj c b a hn=>by rw[e];exact GU _ (h j c b a hn)
def DK.next{x}{l}{v:Aj}{i k:Y}(h:DK x i l)(d:0<=i)(f:k=i+1)(m:x.1[ο i]?=Z v)(g:v.1≠x.2.2.2.2.2.2.2.1.1->v∈l):DK x k l:=λj c e b hn=>by by_cases a:(j:Y)<i;exact h j c a b hn;grind
def ZU{x:U Aj×AE}{s:R×Y×U Aj}(o:x.2.2.1=7)(h:0<=s.2.1/\s.2.1<=θ x.1/\θ x.1<=1000000/\θ s.2.2<=s.2.1+1/\(s.1=η->(θ s.2.2:Y)<=s.2.1)/\DG1 x s.2.2/\DK x s.2.1 s.2.2):An (Ai (F5 x) s) λr=>(θ r.2<=θ x.1+1/\(r.1=η->θ r.2<=θ x.1))/\DG1 x r.2/\DK x (θ x.1) r.2:=by
 refine AW (λ(s:R×Y×U Aj)=>0<=s.2.1/\s.2.1<=θ x.1/\θ x.1<=1000000/\θ s.2.2<=s.2.1+1/\(s.1=η->(θ s.2.2:Y)<=s.2.1)/\DG1 x s.2.2/\DK x s.2.1 s.2.2) (λ(s:R×Y×U Aj)=>((θ x.1:Y)-s.2.1).toNat) h (λs i=>?_);have⟨g,t,v,w,b,c,f⟩:=i;unfold F5;repeat' with_reducible first|intro a|apply AC|apply AP|apply AO|apply AK|(apply BJ;try dsimp only)|apply Bo|apply B6|apply Nc|(apply BF;try dsimp only)|(apply Ay;try dsimp only)|(apply BH<;>(intro u l;try subst l))|apply AB|(apply AA (CT);intro r hr)|(refine AM ?_ (AI ?_ ?_);rintro r ⟨hr,q⟩)|(refine AM ?_ (AZ ?_);rintro r ⟨hr,p,k⟩)
 all_goals try dsimp[T]at*
 all_goals try (have e:=AY (x:=s.2.1+1))
 all_goals try (have m:=b v!)
 all_goals (try simp only[Bh,Bi]at*)
 all_goals first
  |omega
  |exact⟨⟨o!,λh=>by have:=b h;omega⟩,c,λj d n=>f j d o!⟩
  |(exfalso;grind;done)
  |(refine⟨⟨o!,o!,o!,o!,by first|(intro h;have:=b h;omega)|(intro h;cases h),?_,?_⟩,o!⟩
    first|exact c|exact c.snoc v! (by refine⟨_,v!,?_,?_⟩<;>rfl)
    ·first|exact f.next g e v! (λhn=>O! v! hn)|exact(f.snoc v!).next g e v! (by first|(intro hn;exact O! v! hn)|(intro _;subst_vars;simp)))
def ZV{x:U Aj×AE}{s:R×Y×U Aj}(q:x.2.2.1=1\/x.2.2.1=2)(h:0<=s.2.1/\s.2.1<=θ x.1/\θ x.1<=1000000/\θ s.2.2<=s.2.1+1/\(s.1=η->(θ s.2.2:Y)<=s.2.1)/\DG2 x s.2.2/\DK x s.2.1 s.2.2/\(s.1=ζ->∃d∈s.2.2,d.1=x.2.2.2.2.2.2.2.1.1)):An (Ai (F5 x) s) λr=>(θ r.2<=θ x.1+1/\(r.1=η->θ r.2<=θ x.1))/\DG2 x r.2/\DK x (θ x.1) r.2/\(r.1=ζ->∃d∈r.2,d.1=x.2.2.2.2.2.2.2.1.1):=by
 refine AW (λ(s:R×Y×U Aj)=>0<=s.2.1/\s.2.1<=θ x.1/\θ x.1<=1000000/\θ s.2.2<=s.2.1+1/\(s.1=η->(θ s.2.2:Y)<=s.2.1)/\DG2 x s.2.2/\DK x s.2.1 s.2.2/\(s.1=ζ->∃d∈s.2.2,d.1=x.2.2.2.2.2.2.2.1.1)) (λ(s:R×Y×U Aj)=>((θ x.1:Y)-s.2.1).toNat) h (λs l=>?_);have⟨i,w,y,z,c,a,f,k⟩:=l;unfold F5;repeat' with_reducible first|intro b|apply AC|apply AP|apply AO|apply AK|(apply BJ;try dsimp only)|apply Bo|apply B6|apply Nc|(apply BF;try dsimp only)|(apply Ay;try dsimp only)|(apply BH<;>(intro u n;try subst n))|apply AB|(apply AA (CT);intro r hr)|(refine AM ?_ (AI ?_ ?_);rintro r ⟨hr,v⟩)|(refine AM ?_ (AZ ?_);rintro r ⟨hr,t,m⟩)
 all_goals try dsimp[T]at*
 all_goals try (have e:=AY (x:=s.2.1+1))
 all_goals try (have o:=c v!)
 all_goals (try simp only[Bh,Bi]at*)
 all_goals first
  |omega
  |exact⟨⟨o!,λh=>by have:=c h;omega⟩,a,λj d p=>f j d o!,k⟩
  |(exfalso;grind;done)
  |(refine⟨⟨o!,o!,o!,o!,by first|(intro h;have:=c h;omega)|(intro h;cases h)|trivial,?_,?_,?_⟩,o!⟩
    first|exact a.snoc v! (by exact .inl ⟨v!,rfl⟩)|exact a.snoc v! (by exact .inr ⟨v!,v!⟩)|refine DG2.snoc (DG2.snoc a v! (by exact .inl ⟨rfl,rfl⟩)) v! (by exact .inr ⟨o!,v!⟩)
    ·first|exact(f.snoc v!).next i e v! (by first|(intro hn;exact O! v! hn)|(intro _;subst_vars;simp))|exact((f.snoc v!).snoc v!).next i e v! (by intro _;subst_vars;simp)
    first|(intro h;refine(k h).elim λd g=>⟨d,by subst_vars;simp[g.1],g.2⟩)|(intro _;subst_vars;refine⟨_,NU _ (A5.2 rfl),?_⟩;assumption)|(intro _;subst_vars;refine⟨_,GU _ (NU _ (A5.2 rfl)),?_⟩;rfl))
def fH{x:S Aj×AE}(h:W x.1<=1000000):An (HN x) λr=>W r<=W x.1+1/\(¬(x.2.2.1=1\/x.2.2.1=2)->x.2.2.1≠7->r=x.1)/\(x.2.2.1=7->DG1 x r/\DK x (W x.1) r)/\(x.2.2.1=1\/x.2.2.1=2->DG2 x r/\DK x (W x.1) r/\∃d∈r,d.1=x.2.2.2.2.2.2.2.1.1):=by
 refine AA CT λB m=>AP (λb=>?_) (λb=>?_);have i:¬(x.2.2.1=1\/x.2.2.1=2):=λq=>by rw[m.2 q]at b;cases b
 refine AL (λhn=>AB ⟨o!,λ_ _=>rfl,λe=>O! e hn,λq=>O! q i⟩) (λo=>AA (ZU o ⟨Ae _,k!,h,q!,q!,by simp[DG1],λj d g=>O! g k!⟩) λv f=>AP (λp=>AA CT λs n=>AA (P:=λl=>l=v.2) (AK (λa=>O! (n.1 a) i) (y? rfl)) λl c=>AB ?_) (y? ⟨f.1.1,λ_ q=>O! o q,λ_=>f.2,λq=>O! q i⟩));grind;have k:=m.1 b;refine AA (ZV k ⟨Ae _,k!,h,q!,q!,by simp[DG2],λj d g=>O! g k!,λq=>by cases q⟩) λv f=>?_;have⟨⟨s,z⟩,t,u,A⟩:=f;refine AP (λp=>AA CT λw n=>AA (P:=λl=>l=v.2++[(x.2.2.2.2.2.2.2.1.1,x.2.1,x.2.1)]) (AK (λa=>?_) (λa=>?_)) λl c=>AB ?_) (λy=>AB ⟨s,λq=>O! k q,λq=>O! q o!,λ_=>⟨t,u,A y⟩⟩);grind[AA,AZ,AB];grind;have:=z p;refine⟨k!,λq=>O! k q,λq=>O! q o!,λ_=>⟨t.snoc c (.inl ⟨rfl,rfl⟩),u.snoc c,_,by rw[c];exact NU _ (A5.2 rfl),rfl⟩⟩
def yq.other{n}{L}{D}{R}{e:AE}(h:yq n L D R)(a:¬(e.2.1=1\/e.2.1=2)):yq n (L++[e]) D R:=by
 intro p b c;have:aR p e=X:=by simp only[not_or]at a;simp[aR,a.1,a.2]
 rw[P0,this,D! g!];exact h p b c
def yq.change{n}{L}{D_ r}{R}{e:AE}(h:yq n L D_ R)(v:e.2.1=1\/e.2.1=2)(o:∀p,BZ L p<e.1)(k:DG2 (D_,e) r)(m:DK (D_,e) (W D_) r)(u:∃d∈r,d.1=e.2.2.2.2.2.2.1.1):yq n (L++[e]) r R:=by intro p s t;have⟨a,b⟩:=h p s t;rw[P0,(by grind[aR]:aR p e=(e.2.2.2.2.2.2.1.1==p))];by_cases i:e.2.2.2.2.2.2.1.1=p;rw[beq_iff_eq.2 i,C! rfl];refine⟨λd f c=>?_,λw g=>⟨by have:=(b w g).1;have:=o p;omega,λhn=>?_⟩⟩;rcases k d f with q|q;grind;grind;grind;rw[beq_eq_false_iff_ne.2 i,D! g!];refine⟨λd f c=>?_,λw g=>⟨(b w g).1,λhn=>(b w g).2 λd f c=>?_⟩⟩;rcases k d f with q|q;grind;exact a d q.2 c;have⟨j,l⟩:=DW f;exact hn d (m j d (by have:=Cs l;omega) l (λq=>i (q.symm.trans c))) c
def yq.index{n}{L}{D_ r}{R}{e:AE}{w:Be}(h:yq n L D_ R)(A:e.2.1=7)(B:e.2.2.2.2.2.1=BZ L e.2.2.2.2.2.2.1.1)(y:0≤e.2.2.2.2.2.2.1.1)(k:DG1 (D_,e) r)(l:DK (D_,e) (W D_) r)(C:R[e.2.2.2.2.2.2.1.1.toNat]?=Z w):
  yq n (L++[e]) r (R.set e.2.2.2.2.2.2.1.1.toNat ((if e.2.2.2.2.2.1>w.1 then e.2.2.2.2.2.1 else w.1),w.2)):=by
 refine yq.other ?_ o!;intro p s t;have⟨a,b⟩:=h p s t;refine⟨λd g f=>?_,λu i=>?_⟩;have⟨c,z,v,x⟩:=k d g;grind;by_cases o:e.2.2.2.2.2.2.1.1=p;grind;rw[Dd o!]at i;refine⟨(b u i).1,λhn=>(b u i).2 λd g f=>?_⟩;have⟨j,m⟩:=DW g;exact hn d (l j d k! m (λq=>o (q.symm.trans f))) f
def wA{n:Y}{L:S AE}{D_ r:S Aj}{R:S Be}{q:By×Y}{e:AE}(h:yq n L D_ R)(l:EOK n L e)(m:∀p,BZ L p<e.1)
  (j:W r<=W D_+1/\(¬(e.2.1=1\/e.2.1=2)->e.2.1≠7->r=D_)/\(e.2.1=7->DG1 (D_,e) r/\DK (D_,e) (W D_) r)/\(e.2.1=1\/e.2.1=2->DG2 (D_,e) r/\DK (D_,e) (W D_) r/\∃d∈r,d.1=e.2.2.2.2.2.2.1.1))
  (k:q.2=0->W q.1=W R/\(e.2.1≠7->q.1=R)/\(e.2.1=7->0<=e.2.2.2.2.2.2.1.1/\∃w,R[e.2.2.2.2.2.2.1.1.toNat]?=Z w/\q.1=R.set e.2.2.2.2.2.2.1.1.toNat ((if e.2.2.2.2.2.1>w.1 then e.2.2.2.2.2.1 else w.1),w.2)))
  (t:q.2=0):yq n (L++[e]) r q.1:=by
 have⟨_,g,f,c⟩:=j;have⟨_,u,v⟩:=k t;by_cases b:e.2.1=7;have⟨i,w,s,o⟩:=v b;rw[o];exact h.index b (l.2.1 b) i (f b).1 (f b).2 s;rw[u b];by_cases a:e.2.1=1\/e.2.1=2;exact h.change a m (c a).1 (c a).2.1 (c a).2.2;rw[g a b];exact h.other a
variable {B:Int->Prop}
def HL(l:S Ap):Prop:=W l<=64/\∀t∈l,W t.2.2.2.2.1<=4097
def Zm.hl{l}(h:Zm l):HL l:=⟨h.1,λt b=>by have⟨i,a⟩:=Eg.1 b;have:=(h.2 i t a).1;omega⟩
def HL.set{l}{i}{n:Ap}(h:HL l)(hn:W n.2.2.2.2.1<=4097):HL (l.set i n):=⟨by rw[WW];exact h.1,λt a=>by rcases Q9 a with q|q;exact h.2 t q;rw[q];exact hn⟩
def HL.rm{l}{id}(h:HL l):HL (ADl l id):=⟨by have:=pp l id;have:=h.1;omega,λt a=>h.2 t (BQ.1 a).1⟩
def Zm.lens{l}{i:Q}{t:Ap}(h:Zm l)(a:l[i]?=Z t):W t.2.2.2.2.1<=4096:=(h.2 i t a).1
def AGS{x}:An (GY x) λr=>r.2=0->HL r.1:=by refine AA D0 λz j=>AP (λb=>AB n!) (λb=>?_);have c:=j b;have n:=c.1;refine AA Cc λA y=>AP (λb=>AB n!) (λ_=>AO (λb=>AB λ_=>c.hl) (λp=>AA (IZ k!) λB g=>AC (λb=>AB n!) (λo=>AA (AI o! g.2.1) λC m=>?_)));have f:=c.lens m.1;refine AL (λb=>AB n!) (λ_=>AA (P:=λs=>(∃u,s=.inl u/\W u.2.2.2.2.1<=4097)\/∃u,s=.inr u/\(u.2=0->HL u.1)) ?_ λs h=>?_);refine AO (λ_=>?_) (λ_=>?_);grind[AA,AZ,AB];refine AA (P:=λs=>(∃u,s=.inr u/\W u.2.2.2.2.1<=4097)\/∃u,s=.inl u/\(u.2=0->HL u.1)) (AO (λ_=>AA (SM ⟨Ae _,k!,f,q!⟩) λq k=>AO (y? (.inr ⟨_,rfl,n!⟩)) (y? (.inl ⟨_,rfl,k!⟩))) (λ_=>AO (y? (.inl ⟨_,rfl,k!⟩)) (λ_=>AA (Jp k!) λt d=>AB (.inr ⟨_,rfl,λ_=>by rw[d];exact c.hl.rm⟩)))) λs h=>?_;grind[Ay,AB,BF];rcases h with⟨u,rfl,i⟩|⟨u,rfl,i⟩;refine BF (AA (Nw o!) λv l=>AA (MD k! ⟨k!,g.2.1⟩) λw e=>AB λ_=>?_);rw[e];exact c.hl.set k!;exact Ay (AB i)
def AN(n c:Y)(L:S AE)(m:Q)(a:Ci):Prop:=a.1=n/\HL a.2.2.2.1/\W a.2.2.2.2.2.1<=m/\a.2.2.1=c/\yq n L a.2.2.2.2.2.1 a.2.2.2.2.2.2
def iZ{x:Ci×AE}{n c:Y}{L:U AE}{m:Q}(h:AN n c L m x.1)(f:m<=1000000)(d:EOK n L x.2)(e: ∀p,BZ L p<x.2.1):An (ND x) λr=>r.2=0->AN n c (L++[x.2]) (m+1) r.1:=by
 unfold ND;have⟨a1,a2,a3,a5,a6⟩:=h;have a4:=a2.1;repeat' with_reducible first|apply AC<;>intro b|apply AL<;>intro b|apply AK<;>intro b|(apply BJ;try dsimp only)|apply Bo|apply B6|apply Nc|(apply BF;try dsimp only)|(apply Ay;try dsimp only)|apply AB|(apply AA AGS;intro r hr)|(refine AM ?_ (Fp ?_);intro r hr)|(apply AA (Uf);intro r hr)|(apply AA (Va);intro r hr)|(apply AA (CT);intro r hr)|(refine AM ?_ (fH ?_);intro r hr)
 all_goals try dsimp[T]at*
 all_goals first|omega|(intro a;exact absurd a (by assumption))|(intro a;exact absurd a (by decide))|(intro _;unfold AN;refine⟨by first|assumption|grind,by grind,by first|omega|grind,by first|assumption|grind,?_⟩;exact wA a6 d e (by assumption) (by assumption) (by assumption))|grind
def WD{x}:An (OF x) λr=>∀w∈r.1,w.1=0:=by refine AC (y? q!) (λ_=>AC (y? q!) (λ_=>?_));grind[AA,za,AB]
def fK{x:Ac×Y}(n:Dh x.1)(u:x.1.1=1)(m:LI x.2 x.1.2.1):An (Qb x) λr=>r.2=0->∃k:Q,k<=W x.1.2.1/\AN x.2 k (x.1.2.1.take k) 65536 r.1:=by
 refine AA cJ λv j=>AP (λ_=>?_) (λb=>?_);refine AC (λb=>AB n!) (λ_=>AA WD λy l=>AB λ_=>⟨0,BV _,rfl,⟨q!,λt o=>by simp at o⟩,q!,rfl,λp _ _=>⟨q!,λw q=>by have:=l w (BO q);exact⟨by rw[this];exact Ae _,λ_=>this⟩⟩⟩)
 have⟨⟨d,f⟩,i,e,a,g,s,h⟩:=j b;refine AL (λb=>AB n!) (λhn=>AB λ_=>⟨i+1,Cs a,rfl,d.2.2.1.hl,f,?_,?_⟩);have:=(n.2.2.2.2.2 i e a).1;grind;rw[Ck,a];exact((m i e a).2.2 g _ h hn).other o!
def iY{x}:An (Fc x) λr=>O:=by exact AL (y? trivial) (λ_=>AL (y? trivial) (y? trivial))
def aF{x:U Ax×Ax}{s:Y}(h:0<=s/\s<=θ x.1/\(θ x.1:Y)<=16777216):An (Ai (Ot x) s) λr=>0<=r/\r<=θ x.1:=by
 refine AW (λ(s:Y)=>0<=s/\s<=θ x.1/\(θ x.1:Y)<=16777216) (λ(s:Y)=>((θ x.1:Y)-s).toNat) h (λs a=>?_);unfold Ot;exact x!
def ia{x:S Ax×Ax}(h:W x.1<=1000000):An (RY x) λr=>W r<=W x.1+1:=by
 refine AA (aF ⟨Ae _,o!⟩) λp c=>?_;have main:An (σ (Sr x.1 0 p) λa=>
 σ (Sr x.1 p (T x.1)) λb=>
 σ (app [] a) λd=>
 σ (app d ([x.2]:S (Y×((Y×Y)×Y)))) λe=>
 σ (app e b) λf=>
 Z f) λr=>W r<=W x.1+1:=by refine AA (BU (Ae _) c.1 c.2) λa g=>AA (BU c.1 k! k!) λb i=>?_;grind[AA,AZ,AB]
 refine AC (λj=>?_) (λ_=>main);exact AA (AI c.1 j) λk _=>AK (y? o!) (λ_=>main)
def fJ{x:Ac×U Ap}(h:HL x.2):An (MJ x) λr=>r.1.length<=262208:=by unfold MJ;have k:=h.1;refine AA (P:=λr=>(∀u,r= .inl u->u.1.length<=262208)/\ ∀u,r= .inr u->u.length<=262208) ?_ λr hr=>BH (λu a=>AB (hr.1 u a)) (λu a=>AB (hr.2 u a));refine AW (λ(s:U Ax×Y)=>0<=s.2/\s.2<=x.2.length/\s.1.length<=4097*s.2) (λ(s:U Ax×Y)=>((x.2.length:Y)-s.2).toNat) ⟨Ae _,k!,q!⟩ (λs d=>?_);have⟨f,m,n⟩:=d;unfold TR;rw[(AY (x:=s.2+1))];refine AC (λb=>?_) (λ_=>AB ⟨λu a=>(by cases a),λu a=>k!⟩);simp[T]at b;have⟨t,i,j⟩:=AI (l:=x.2) f b;have v:=h.2 t j.2;refine AA (P:=λr=>(∀u,r= .inl u->u.1.length<=262208)/\ ∀u,r= .inr u->u.length<=4097*(s.2+1)) ?_ λr hr=>?_;refine AW (λ(q:U Ax×Y)=>0<=q.2/\q.2<=t.2.2.2.2.1.length/\q.1.length<=4097*s.2+q.2) (λ(q:U Ax×Y)=>((t.2.2.2.2.1.length:Y)-q.2).toNat) ⟨Ae _,k!,k!⟩ (λq e=>?_);have⟨g,o,p⟩:=e;unfold TS;rw[i];apply BJ;rw[(AY (x:=q.2+1))];refine AC (λb=>?_) (λ_=>AB ⟨λu a=>(by cases a),λu a=>k!⟩);simp[T]at b;refine BJ (AA (AI g b) λw _=>AA HJ λy _=>AL (λ_=>AB ⟨λu a=>k!,λu a=>(by cases a)⟩) (λ_=>AL (λ_=>AB ⟨λu a=>(by cases a;simp),λu a=>(by cases a)⟩) (λ_=>BJ (AL (λ_=>AB ⟨λu a=>(by cases a;simp),λu a=>(by cases a)⟩) (λ_=>AA (ia k!) λz c=>AB ?_)))));dsimp only at c;exact⟨⟨k!,o!,d!⟩,o!⟩;grind[BH,AB]
def aE{x:Ac×Int}(c:Dh x.1)(M:x.1.1=1)(G:LI x.2 x.1.2.1):An (KX x) λr=>r.2=0->r.1.1=x.2/\HL r.1.2.2.2.1/\r.1.2.2.2.2.1.length<=262208/\r.1.2.2.2.2.2.1.length<=70000/\yq x.2 x.1.2.1 r.1.2.2.2.2.2.1 r.1.2.2.2.2.2.2:=by
 unfold KX;refine AA Bb λv Q=>AP (λ_=>AB n!) (λa=>?_);have O:=Q.1 a;have H:=O.2.2.1;refine AC (λ_=>AB n!) (λ_=>AC (λ_=>AB n!) (λ_=>AA (fK c M G) λv1 I=>AL (λa=>AB λb=>absurd b a) (λD_=>?_)));have⟨k,N,K⟩:=I D_;refine AA (P:=λr=>(∀u,r= .inl u->u.1≠0)/\ ∀u,r= .inr u->AN x.2 k x.1.2.1 70000 u.1) ?_ λr hr=>BH (λu d=>AB λb=>absurd b (hr.1 u d)) (λu d=>?_);refine AW (λ(s:Int×Ci×Ci)=>0<=s.1/\s.1<=x.1.2.1.length/\AN x.2 k (x.1.2.1.take (max k s.1.toNat)) (65536+s.1.toNat) s.2.1) (λ(s:Int×Ci×Ci)=>((x.1.2.1.length:Int)-s.1).toNat) ⟨Ae _,d!,by simpa using K⟩ (λs z=>?_);have⟨m,R,f⟩:=z;unfold RW;have e:=AY (x:=s.1+1);rw[e];refine AC (λa=>?_) (λ_=>AB ⟨λu d=>(by cases d),λu d=>?_⟩);simp[len]at a;have en:(s.1+1).toNat=s.1.toNat+1:=o!
 refine AA (AI m a) λv3 J=>?_;have n3:=(c.2.2.2.2.2 _ _ J.1).1;refine AC (λB=>AB ⟨⟨d!,d!,?_⟩,d!⟩) (λB=>?_);have⟨q1,q2,q3,q4,q5⟩:=f;have n:max k (s.1+1).toNat=max k s.1.toNat:=o!
 exact⟨q1,q2,d!,q4,by dsimp only;rw[n];exact q5⟩;have q4:=f.2.2.2.1;have n:max k s.1.toNat=s.1.toNat:=o!
 rw[n]at f;refine AA (AI m a) λZ_ F=>?_;have i:x.1.2.1.take (max k (s.1+1).toNat)=x.1.2.1.take s.1.toNat++[Z_]:=by grind[List.take_add_one]
 refine AA (iZ f o! (G _ _ F.1) λp=>?_) λv5 h5=>?_;have n4:=(c.2.2.2.2.2 _ _ F.1).1;refine pL _ _ d! λe L=>?_;have⟨j,A⟩:=DW L;have C:=Cs A;rw[BP]at C;rw[KD o!]at A;have:=(c.2.2.2.2.2 j e A).1;dsimp only;omega;grind[AL,AB];cases d;have⟨q1,q2,q3,q4,q5⟩:=f;simp[len]at*;rw[BM o!]at q5;exact⟨q1,q2,o!,q4,q5⟩;have⟨q1,q2,q3,_,q5⟩:=hr.2 u d;have S:=q2.1;refine AA (P:=λl=>HL l) ?_ λX_ h=>?_;refine AW (λ(s:Int×List Ap)=>0<=s.1/\s.1<=u.1.2.2.2.1.length/\s.2.length<=s.1/\ ∀t∈s.2,t.2.2.2.2.1.length<=4097) (λ(s:Int×List Ap)=>((u.1.2.2.2.1.length:Int)-s.1).toNat) ⟨Ae _,d!,q!,λt i=>by simp at i⟩ (λs z=>?_);have⟨m,R,f,E_⟩:=z;unfold RX;have e:=AY (x:=s.1+1);rw[e];refine AC (λa=>?_) (λ_=>AB ⟨o!,E_⟩);simp[len]at a;refine AA (AI m a) λT _=>AA (P:=λl=>l.length<=s.2.length+1/\ ∀t∈l,t.2.2.2.2.1.length<=4097) ?_ λW g=>AB ⟨⟨d!,d!,by have:=g.1;dsimp only;omega,g.2⟩,d!⟩;refine AC (λ_=>AA (AI m a) λU o=>AA (AZ w!) λV q=>AB ⟨?_,λt i=>?_⟩) (λ_=>AB ⟨o!,E_⟩);grind;rw[q.1]at i;rcases Ak.1 i with w|w;exact E_ t w;simp at w;rw[w];exact q2.2 _ o.2;exact AA (fJ h) λY y=>AL (λa=>AB λb=>absurd b a) (λb=>AB λ_=>⟨q1,h,y,q3,q5⟩)
def WC{x}:An (Kq x) λr=>r.1.2.1=[]:=by
 unfold Kq;exact x!
def fL{x:Ac×Ci×Y}(t:Dh x.1)(h:HL x.2.1.2.2.2.1/\x.2.1.2.2.2.2.1.length<=262208/\x.2.1.2.2.2.2.2.1.length<=70000)(q:LI x.2.1.1 x.1.2.1)(e:yq x.2.1.1 x.1.2.1 x.2.1.2.2.2.2.2.1 x.2.1.2.2.2.2.2.2):An (MK x) λr=>r.2=0->r.1.1=x.2.1.1/\SK B r.1/\Dh r.1.2.2.1/\LX x.1 r.1.2.2.1:=by
 unfold MK;have⟨a1,a2,a3⟩:=h;have a4:=a1.1;refine AA WC λj f=>AL (λ_=>AB n!) (λ_=>?_);have k:SK B (x.2.1.1,(x.2.1.2.1,(x.1,(j.1,((x.2.1.2.2.2.2.1,[]),(x.2.1.2.2.2.1,(x.2.1.2.2.2.2.2.2,x.2.1.2.2.2.2.2.1))))))):=⟨⟨k!,q!⟩,k!,k!,q,λp g i=>⟨k!,(e p g i).1,λw l=>⟨((e p g i).2 w l).1,λhn _=>((e p g i).2 w l).2 hn⟩⟩,by unfold FD;dsimp only;rw[f];simp⟩
 refine AA (CM k.sb) λy _=>AP (λ_=>AB n!) (λ_=>AA (P:=λr=>(∀u,r= .inl u->u.1≠0)/\ ∀u,r= .inr u->KL B (x.2.1.1,(x.2.1.2.1,(x.1,(j.1,((x.2.1.2.2.2.2.1,[]),(x.2.1.2.2.2.1,(x.2.1.2.2.2.2.2.2,x.2.1.2.2.2.2.2.1))))))) u.1) ?_ λr hr=>BH (λu a=>AB λb=>absurd b (hr.1 u a)) (λu a=>AB λ_=>?_));refine AW (λ(s:Y×AU×AU)=>0<=s.1/\s.1<=x.2.1.2.2.2.1.length/\KL B (x.2.1.1,(x.2.1.2.1,(x.1,(j.1,((x.2.1.2.2.2.2.1,[]),(x.2.1.2.2.2.1,(x.2.1.2.2.2.2.2.2,x.2.1.2.2.2.2.2.1))))))) s.2.1) (λ(s:Y×AU×AU)=>((x.2.1.2.2.2.1.length:Y)-s.1).toNat) ⟨Ae _,k!,KL.refl k t⟩ (λs o=>?_);have⟨m,v,d⟩:=o;unfold TT;rw[(AY (x:=s.1+1))];refine AC (λc=>?_) (λ_=>AB ⟨λu a=>(by cases a),λu a=>k!⟩);simp[T]at c;refine AA (AI m c) λz _=>AO (λ_=>AB ⟨⟨k!,o!,d⟩,o!⟩) (λ_=>AA (AI m c) λA _=>AA (GC d.2.2.1.sb) λC n=>AL (λc=>AB ⟨λu a=>(by cases a;exact c),λu a=>(by cases a)⟩) (λb=>AB ⟨⟨o!,o!,d.trans ((n b).2.1.kl d.2.2.1 u!)⟩,o!⟩));have:=hr.2 u a;exact⟨this.1,this.2.2.1,this.2.2.2,this.2.1⟩
end Go.Pm
namespace Go.Pm
open Go Go.Ab
variable {B:Int->Prop}
def iq{x:AV×Y×Cz}(h:SK B x.1.1)(p:Dh x.1.1.2.2.1)(o:DJ B x.1.1.2.2.1 x.1.2):An (NI x) λr=>SR B x.1 r.1/\(r.2.1≠0->TP r.1.1.2.2.2.2.2.1<TP x.1.1.2.2.2.2.2.1):=by
 unfold NI;refine AA (P:=λr=>SR B x.1 r.2.2/\(r.1≠0->TP r.2.2.1.2.2.2.2.2.1<TP x.1.1.2.2.2.2.2.1)) ?_ λr hr=>AB hr;refine AW (λs=>SR B x.1 s.2.1/\TP s.2.1.1.2.2.2.2.2.1<=TP x.1.1.2.2.2.2.2.1/\(s.1≠0->TP s.2.1.1.2.2.2.2.2.1<TP x.1.1.2.2.2.2.2.1)) (λs=>2*TP s.2.1.1.2.2.2.2.2.1+flag (¬oV s.2.1.1.2.2.2.1 x.2.2.1)) ⟨⟨KL.refl h p,o⟩,Al _,λe=>O! rfl e⟩ (λs d=>?_);obtain⟨d,v,j⟩:=d;have k:=d.1.2.2;unfold Ul;refine AA (iV k.1 k.2) λw n=>?_;obtain⟨k1,q,t⟩:=n;refine AO (y? ⟨d,j⟩) (λm=>AA (P:=λr=>(∃u,r=.inl u/\u.1=s.1/\u.2.2=s.2.1)\/∃u,r=.inr u/\SR B s.2.1 u.2.1/\(TP u.2.1.1.2.2.2.2.2.1<TP s.2.1.1.2.2.2.2.2.1\/(u.1=s.1/\TP u.2.1.1.2.2.2.2.2.1=TP s.2.1.1.2.2.2.2.2.1/\oV u.2.1.1.2.2.2.1 x.2.2.1/\¬oV s.2.1.1.2.2.2.1 x.2.2.1))) ?_ λr hr=>?_);apply AO<;>intro l;obtain⟨a,b,c⟩:=q l;refine AA (Hz k.1 d.2) λy i=>AL (y? (.inl ⟨_,rfl,rfl,rfl⟩)) (λe=>AB (.inr ⟨_,rfl,(i e).1.sr,.inr ⟨rfl,?_,?_,b⟩⟩));have:=(i e).1.1.2.2.2.2.1;exact E! TP this;have:=(i e).2;rw[a]at this;exact this;refine AO (y? (.inl ⟨_,rfl,rfl,rfl⟩)) (λc0=>AB (.inr ⟨_,rfl,⟨k1,d.2.up k1.2.1⟩,.inl (t l m c0)⟩));rcases hr with⟨u,rfl,g⟩|⟨u,rfl,g⟩;refine BF (AB ?_);dsimp only;rw[g.1,g.2];exact⟨d,j⟩;refine Ay (AB ?_);obtain⟨q1,q2⟩:=g;rcases q2 with q2|⟨q2,q3,q4,q5⟩;have f:=ACQ (¬oV u.2.1.1.2.2.2.1 x.2.2.1);exact⟨⟨d.trans q1,o!,λ_=>o!⟩,by first|omega|(dsimp only;omega)⟩;refine⟨⟨d.trans q1,o!,λe=>by rw[q3];exact j (by rw[<-q2];exact e)⟩,?_⟩;try dsimp only
 rw[xy q5,xw (· q4),q3];omega
def TU{x:AU×Y}(h:SB x.1):An (Ib x) λr=>O:=by unfold Ib;refine AA (CM h) λv c=>AA (P:=λ_=>O) ?_ λr _=>BH (λ_ _=>AB trivial) (λ_ _=>AB trivial);refine AK (λ_=>?_) (y? trivial);refine AA (Fp h.2.1) λd a=>AC (λb=>?_) (y? trivial);refine AA (AI b a.2.1) λ_ _=>AO (λ_=>?_) (y? trivial);exact AA (AI b a.2.1) λ_ _=>AB trivial
def aH{x:AU}{s:Y×U Y}(h:0<=s.1/\s.1<=θ x.2.2.2.2.2.1/\θ x.2.2.2.2.2.1<=16777216/\θ s.2<=s.1/\SB x):An (Ai (Ou x) s) λr=>O:=by
 refine AW (λ(s:Y×U Y)=>0<=s.1/\s.1<=θ x.2.2.2.2.2.1/\θ x.2.2.2.2.2.1<=16777216/\θ s.2<=s.1/\SB x) (λ(s:Y×U Y)=>((θ x.2.2.2.2.2.1:Y)-s.1).toNat) h (λs c=>?_);unfold Ou;exact x!
def ic{x}(h:SK B x):An (NF x) λr=>O:=by unfold NF;exact AA (aH ⟨Ae _,d!,h.2.1,q!,h.sb⟩) λ_ _=>AB trivial
def Xx{x:AU×Y}{c:Ax×R}{a:U Y}{s:Y×Cz}(h:0<=s.1/\s.1<=θ a/\θ a<=16777216/\SB x.1):An (Ai (Le x c a) s) λr=>O:=by
 refine AW (λ(s:Y×Cz)=>0<=s.1/\s.1<=θ a/\θ a<=16777216/\SB x.1) (λ(s:Y×Cz)=>((θ a:Y)-s.1).toNat) h (λs d=>?_);unfold Le;exact x!
def aG{x:AU×Y}(h:SK B x.1):An (KY x) λr=>O:=by unfold KY;refine AA (Ix h.1) λb _=>AP (y? trivial) (λ_=>AA (L9 h.1) λc a=>AA (Xx ⟨Ae _,d!,o!,h.sb⟩) λr _=>BH (λ_ _=>AB trivial) (λ_ _=>AB trivial))
def lT{x:AV×Y×C2}(h:SK B x.1.1)(k:Dh x.1.1.2.2.1)(j:DJ B x.1.1.2.2.1 x.1.2):An (Pr x) λr=>SR B x.1 r.1:=by unfold Pr;refine AA (P:=λr=>SR B x.1 r.1) ?_ λr hr=>AB hr;refine AW (SR B x.1 ·.1) (TP ·.1.1.2.2.2.2.2.1) ⟨KL.refl h k,j⟩ (λs c=>?_);have g:=c.1.2.2;unfold WK;refine AA (lS g.1 g.2 c.2) λm e=>?_;have b:=c.trans e.1;have a:=b.1.2.2;refine AL (y? b) (λi=>?_);have l:=e.2 i;refine AA (aG a.1) λn _=>AP (y? b) (λ_=>AA (iq a.1 a.2 b.2) λo f=>?_);have d:=b.trans f.1;refine AL (λ_=>?_) (λ_=>?_);exact AA B9 λp _=>AB d;refine AO (y? d) (λc0=>AB ⟨d,?_⟩);have:=f.2 c0;dsimp only at*;rw[l]at this;exact this
def im{x:AV}(h:SK B x.1)(p:Dh x.1.2.2.1)(g:DJ B x.1.2.2.1 x.2):An (NH x) λr=>r.2.2=0->SR B x r.1:=by
 unfold NH;refine AA (CM h.sb) λv H=>AP (y? n!) (λc=>AC (λc=>?_) (λ_=>?_));simp only[T]at c;refine AA (AI (Ae _) c) λJ _=>AA (Hz h g) λK y=>AB λa=>(y a).1.sr;refine AA (ic h) λF _=>AO (y? λ_=>⟨KL.refl h p,g⟩) (λk=>?_);simp only[T]at k;refine AA (P:=λr=>r.2.1=0->SR B x r.2.2) ?_ λr hr=>AB hr;obtain⟨id,t,G⟩:=(AI (l:=F) (i:=0) (Ae _))
 refine AW (SR B x ·.1) (λs=>flag (∃e,NX s.1.1 id e/\¬oV s.1.1.2.2.2.1 e.2.2.2.2.2.2.1.1)) ⟨KL.refl h p,g⟩ (λs b=>?_);have j:=b.1.2.2;unfold Uk;rw[t];apply BJ;refine AA (Vd j.1 j.2) λL A=>?_;obtain⟨k1,C,I,D_⟩:=A;refine AO (λz=>AB λa=>O! a (D_ z)) (λ_=>AL (y? λ_=>⟨b.1.trans k1,b.2.up k1.2.1⟩) (λq=>?_));obtain⟨e,n,u,w⟩:=C q;refine AA (Hz j.1 b.2) λM o=>AL (λc=>AB λa=>O! a c) (λa=>AB ⟨b.trans (o a).1.sr,?_⟩);obtain⟨m,d⟩:=o a;have E_:=m.1.2.2.2.2.1;rw[xy (⟨e,n,w⟩:∃e,NX s.1.1 id e/\¬oV s.1.1.2.2.2.1 e.2.2.2.2.2.2.1.1),xw];omega;rintro⟨f,q1,q2⟩;have:=n.uniq q1 E_ m.1.2.1;subst this;dsimp only at d;rw[u]at d;exact q2 d
end Go.Pm
namespace Go.Pm
open Go Go.Ab
def runN{S R:Type}(f:S->V (Step S R)):Q->S->V R
 |0,_=>D
 |n+1,s=>
  match f s with
  |some (.next s')=>runN f n s'
  |some (.done r)=>Z r
  |none=>D
def yh{S R:Type}{f:S->V (Step S R)}{r:R}:∀{n}{s},runN f n s=Z r->Ai f s=Z r
 |0,s,h=>by cases h
 |n+1,s,h=>by simp only[runN]at h;rw[HX];split at h;rename_i b e;rw[e];exact yh h;rename_i a e;rw[e];exact h;cases h
def U2:Bd:=[80,77,76,71,1,0,0,0,0,0,0,0]
def AHe:Ao (([80,77,76,71]:S UInt8),1,8)=Z U2:=by rw[(by kernel_rfl:Ao (([80,77,76,71]:S UInt8),1,8)=σ (Ai (Gm (([80,77,76,71]:S UInt8),1,8)) (([80,77,76,71]:S UInt8),0)) λa=>Z a),yh (n:=10) (r:=U2) h!];rfl
def AHD:A2 (U2,4,8)=Z (1,0):=by rw[(by kernel_rfl:A2 (U2,4,8)=σ (Ai (Gl (U2,4,8)) (0,0)) λa=>Z (wi a,0)),yh (n:=10) (r:=1) h!];rfl
def oI(a b:S AE):Kw (a++b)=Kw a++Kw b:=by grind[Kw]
def AJC:M4 1=Z (HZ U2):=by unfold M4;rw[AHe,AD,cj g!,AD]
def AHA{e}(h:MZ e):JB e=Z (HZ (B3 e)):=by grind[JB,rf,cj,S8]
def Dh.ent{l}(h:Dh l){e:AE}(a:e∈l.2.1):MZ e:=by have⟨k,b⟩:=Eg.1 a;exact(h.2.2.2.2.2 k e b).2
def AGv{l}{a:Y}(h:Dh l)(D_:l.1=1):An (HI (l,a)) λr=>∃m:Nat,r=HZ U2++(Kw (l.2.1.take l.2.2.toNat)++(Kw (l.2.1.drop l.2.2.toNat)).take m):=by
 have O:=h.2.2.1;have Q:=h.2.2.2.1;have R:=h.2.2.2.2.1;have b:∀k:Ψ AE,(∀e∈k,e∈l.2.1)->(Kw k).length<=8400*W k:=λk w=>tL λe d=>h.ent (w e d);have⟨v,H,g⟩:=Bb (x:=l);have g:=g.2 h;subst g;unfold HI;dsimp only;rw[H,AD,Bn,A!,D_,AJC,AD];refine AA (P:=λr=>r=(HZ U2++Kw (l.2.1.take l.2.2.toNat),Kw (l.2.1.drop l.2.2.toNat))) ?_ λK o=>?_
 ·refine CQ (λs=>∃k:Nat,k<=W l.2.1/\s=(HZ U2++Kw ((l.2.1.take k).take l.2.2.toNat),Kw ((l.2.1.take k).drop l.2.2.toNat),(k:Y))) (W l.2.1-·.2.2.toNat) ⟨0,BV _,by simp[Kw]⟩ ?_;rintro s ⟨k,w,rfl⟩;unfold TG;dsimp[T];refine AC (λB=>?_) (λB=>k? (by rw[BM (l:=l.2.1) (i:=k) o!]));have f:k<W l.2.1:=o!
  have I:ix l.2.1 (k:Y)=Z l.2.1[k]:=by unfold ix;rw[C! o!,s?,m? f]
  have j:=h.2.2.2.2.2 k _ (Au f);have t:l.2.1.take (k+1)=l.2.1.take k++[l.2.1[k]]:=t!
  have E_:(l.2.1.take k).length=k:=k!
  have y:(HZ U2++Kw ((l.2.1.take k).take l.2.2.toNat)).length<=40000000:=by
   have:=b ((l.2.1.take k).take l.2.2.toNat) λe d=>F9 (F9 d);have c:(HZ U2).length=20:=by rw[EQ];rfl
   grind[n?,r?]
  have z:(Kw ((l.2.1.take k).drop l.2.2.toNat)).length<=40000000:=k!
  have C:=S8 j.2;rw[I,AD,AD,AD,AHA j.2,AD,AD,AY (x:=(k:Y)+1)];refine AA (P:=λr=>r=(HZ U2++Kw ((l.2.1.take (k+1)).take l.2.2.toNat),Kw ((l.2.1.take (k+1)).drop l.2.2.toNat))) ?_ λJ n=>?_;apply AC<;>intro S;have q:k+1<=l.2.2.toNat:=o!
  refine AA (CN (by rw[EQ];omega)) λN u=>AB ?_;grind[List.drop_of_length_le,r?,List.take_of_length_le,TA,t?];have q:l.2.2.toNat<=k:=o!
  refine AA (CN (by rw[EQ];omega)) λN u=>AB ?_;rw[u.1,t,Yq o!,qP o!,TA]
  ·rw[n];exact y! ⟨k+1,f,by rw[show(k:Y)+1=((k+1:Nat):Y) by omega]⟩ d!
 subst o;dsimp[T];have A:∃m:Nat,(if(((Kw (l.2.1.drop l.2.2.toNat)).length:Y)<(if(0>a)then 0 else a))then((Kw (l.2.1.drop l.2.2.toNat)).length:Y)else(if(0>a)then 0 else a))=(m:Y)/\m<=(Kw (l.2.1.drop l.2.2.toNat)).length:=by refine⟨(if(((Kw (l.2.1.drop l.2.2.toNat)).length:Y)<(if(0>a)then 0 else a))then((Kw (l.2.1.drop l.2.2.toNat)).length:Y)else(if(0>a)then 0 else a)).toNat,?_,?_⟩;split<;>split<;>omega;split<;>split<;>omega
 have⟨m,F,G⟩:=A;rw[F];refine AA (CW (Ae _)) λL c=>?_;have y:(HZ U2++Kw (l.2.1.take l.2.2.toNat)).length<=40000000:=by
  have:=b (l.2.1.take l.2.2.toNat) λe d=>F9 d;have c:(HZ U2).length=20:=by rw[EQ];rfl
  rw[Aa];rw[BP]at this;omega
 have z:(Kw (l.2.1.drop l.2.2.toNat)).length<=40000000:=by have:=b (l.2.1.drop l.2.2.toNat) λe d=>Q8 d;rw[C5]at this;omega
 refine AA (CN (by have:=c.2;omega)) λM p=>AB ⟨m,?_⟩;rw[p.1,c.1,A3];simp
def AJ0{n:Q}(h:n<=8392):ck 4 (n:Y):=⟨λ_=>k!,o!⟩
def AHC{p q s t:Bd}(d:W p<=8392)(e:W q<=8392)(h:HZ p++s=HZ q++t):p=q/\s=t:=by
 have c:W p=W q:=by have a:=h;unfold HZ at a;simp at a;have:=(Ei a (by rw[Az,Az])).1;have:=YU g! (AJ0 d) (AJ0 e) this;omega
 have⟨b,f⟩:=Ei h (by rw[EQ,EQ,c]);have g:=(Ei b k!).2;grind[List.append_inj]
def AJN{b:Ψ AE}{t y z:Bd}{d}(hn:θ b<=4096)(D_:∀(i:Nat)(e:AE),b[i]?=Z e->e.1=1+i/\MZ e)(G:t++y=Kw b)(M:t=Kw (b.take d)++z):An (J0 (HZ U2++t)) λr=>r.2=0->∃k:Nat,k<=θ b/\min d (θ b)<=k/\r.1=(1,b.take k,(k:Int)):=by
 have S:=tL (l:=b) λe A=>by obtain⟨k,m⟩:=Eg.1 A;exact(D_ k e m).2
 have U:θ t<=40000000:=by have:=E! θ G;rw[Aa]at this;omega
 have C:(HZ U2).length=20:=by rw[EQ];rfl
 have W:(HZ U2++t).length<=50000000:=by rw[Aa];omega
 unfold J0;have o:Bk (HZ U2++t,0)=Z (U2,20,0):=by refine(To (a:=[]) (t:=HZ U2++t) w!).trans (E! Z ?_);rw[kJ g!];rfl
 rw[o,AD];dsimp only;rw[show((0:Int) !=0)=X by decide,A!,show(len U2 !=12)=X by decide,A!,show R4 U2 0 4=Z [80,77,76,71]from rfl,AD,H!,A!,AHD,AD];dsimp only;rw[F! g!,A!,F! g!,A!,show wi ((1:Int)-1)=0 from rfl];refine AA (P:=λr=>∃k:Nat,k<=θ b/\min d (θ b)<=k/\((∃u,r=.inl u/\u.2=(1,b.take k,(k:Int)))\/∃u,r=.inr u/\(u.2.1,u.1,u.2.2.1)=(1,b.take k,(k:Int)))) ?_ λr hr=>?_
 ·refine CQ (λs=>∃(k:Nat)(z:Ac)(c:Bd),k<=θ b/\s=(((HZ U2++Kw (b.take k)).length:Int),b.take k,1,(k:Int),z)/\t=Kw (b.take k)++c) (θ b-θ ·.2.1) ⟨0,(0,[],0),t,BV _,by simp[Kw,C],by simp[Kw]⟩ ?_;rintro s ⟨k,z,c,m,rfl,hr⟩;have E_:(b.take k).length=k:=by rw[BP];omega
  have H:k<min d (θ b)->∃p R,θ p<=8392/\c=HZ p++R:=λn=>by
   have g:k<θ b:=o!
   have N:b.take d=b.take (k+1)++(b.take d).drop (k+1):=by
    conv=>lhs;rw[<-DG (k+1) (b.take d)]
    rw[Kf,RH o!]
   have O:b.take (k+1)=b.take k++[b[k]]:=by rw[Ck,Au g];rfl
   rw[N,O,oI,TA,A3,A3]at M;exact⟨_,_,S8 (D_ k _ (Au g)).2,(Ei (hr.symm.trans M) rfl).2⟩
  unfold Ud;dsimp only[len];refine AC (λQ=>?_) (λQ=>k? ⟨k,m,Nat.le_of_not_lt λn=>?_,.inr ⟨_,rfl,rfl⟩⟩);rotate_left 1;omega;have w:HZ U2++t=(HZ U2++Kw (b.take k))++c:=by rw[hr,A3]
  have F:=E! θ w;rw[@Aa _ (HZ U2++Kw (b.take k)) _]at F;have o:Bk (HZ U2++t,((HZ U2++Kw (b.take k)).length:Int))=Z (UF (HZ U2++Kw (b.take k)).length c):=by
   conv=>lhs;arg 1;rw[w]
   exact To o!
  rw[o,AD];refine AL (λB=>k? ⟨k,m,Nat.le_of_not_lt λn=>?_,.inl ⟨_,rfl,rfl⟩⟩) (λB=>?_);obtain⟨p,R,T,V⟩:=H n;rw[V,kJ T]at B;exact B rfl;obtain⟨X_,⟨q,J⟩,Y⟩:=zB B;have j:Kw b=Kw (b.take k)++Kw (b.drop k):=by rw[<-oI,DG]
  have f:c++y=Kw (b.drop k):=by rw[hr,A3,j]at G;exact(Ei G rfl).2
  by_cases g:k<θ b
  ·have h:=D_ k _ (Au g);rw[OQ g,pM,J,A3]at f;obtain⟨I,Z_⟩:=AHC X_ (S8 h.2) f;rw[I,AFk h.2,AD];dsimp only;rw[show((0:Int) !=0)=X by decide,A!,AY (x:=(k:Int)+1),show(b[k].1 !=(k:Int)+1)=X by rw[h.1];exact bne_eq_false_iff_eq.2 o!,A!];have v:b.take (k+1)=b.take k++[b[k]]:=by rw[Ck,Au g];rfl
   refine AA (AZ (by rw[Bh,Bi];omega)) λv6 L=>y! ⟨k+1,z,q,g,?_,?_⟩ ?_
   rw[L.1,Y,I,v,TA,<-A3,Aa (b:=HZ (B3 b[k])),EQ];refine Da ?_ (Da rfl (Da rfl (Da ?_ rfl)));dsimp only;omega;dsimp only;rw[h.1];omega;rw[hr,v,TA,A3,<-I,<-J];dsimp only;rw[L.2.1,E_];simp only[Bh,Bi];omega
  exfalso;rw[Ro o!]at f;have K:=E! θ f;rw[J,Aa,Aa,EQ]at K;simp[Kw]at K
 obtain⟨k,m,A,⟨u,rfl,o⟩|⟨u,rfl,o⟩⟩:=hr;exact BF (AB λ_=>⟨k,m,A,o⟩);exact Ay (AB λ_=>⟨k,m,A,o⟩)
variable {B:Int->Prop}
def CB(n:Y)(P:S AE)(s:Bd):Prop:=∃es t y z,∃d:Q,s=HZ U2++t/\t++y=Kw es/\W es<=4096/\Ge es/\LI n es/\P=es.take d/\t=Kw (es.take d)++z
def zQ{n a:Y}{l}(h:Dh l)(b:l.1=1)(c:LI n l.2.1):An (HI (l,a)) (CB n (dl l)):=by
 refine(AGv h b).mono λr ⟨m,hr⟩=>⟨l.2.1,_,(Kw (l.2.1.drop l.2.2.toNat)).drop m,_,l.2.2.toNat,hr,?_,h.2.2.1,h.num b,c,rfl,rfl⟩
 rw[A3,DG,<-oI,DG]
def CB.open_{n}{P}{s}(h:CB n P s):An (J0 s) λr=>r.2=0->Dh r.1/\r.1.1=1/\LI n r.1.2.1/\∃m,P=(dl r.1).take m:=by
 obtain⟨b,t,y,z,d,rfl,p,hn,c,g,rfl,j⟩:=h;refine(AJN hn c p j).mono λr hr u=>?_;obtain⟨k,v,o,e⟩:=hr u;rw[e];have w:(b.take k).length=k:=k!
 refine⟨⟨Ae _,k!,k!,k!,d!,λi f l=>?_⟩,rfl,?_,min d (W b),?_⟩;have:=c.take k i f l;exact this;rw[<-DG k b]at g;exact g.pre;unfold dl;dsimp only;rw[CR,Kf,Kf,RH (a:=min d (W b)) o!,RH o];rcases Nat.le_total d (W b)with q|q;rw[RH q];rw[Nat.min_eq_right q,BM q,Hk]
def SQB(B:Y->Prop)(n:Y)(s:AV):Prop:=s.1.1=n/\SK B s.1/\Dh s.1.2.2.1/\DJ B s.1.2.2.1 s.2
def SQ(n:Y)(s:AV):Prop:=∃B,SQB B n s
def SQB.sr{n}{s r}(h:SQB B n s)(g:SR B s r):SQ n r:=⟨B,g.1.1.trans h.1,g.1.2.2.1,g.1.2.2.2,g.2⟩
def ik{P}{x:Bw×Bd×Y×Y}(n:CB x.2.2.1 P x.2.1)(o:DP B P x.1):An (Rb x) λr=>r.2=0->SQ x.2.2.1 r.1:=by refine AA n.open_ λp j=>AL (λa=>AB λb=>O! b a) (λc=>?_);obtain⟨f,g,h,m,i⟩:=j c;refine AA (aE f g h) λq k=>AL (λa=>AB λb=>O! b a) (λd=>?_);obtain⟨a1,a2,a3,a4,a5⟩:=k d;refine AA (fL (B:=B) f ⟨a2,a3,a4⟩ k! k!) λs l=>AL (λa=>AB λb=>O! b a) (λe=>AB λ_=>?_);obtain⟨q1,q2,q3,q4⟩:=l e;exact⟨B,q1.trans a1,q2,q3,DJ.up ⟨g,o.up i⟩ q4⟩
def il{P}{x:Bw×Bd×Y×Y}(b:CB x.2.2.1 P x.2.1)(c:DP B P x.1):An (Rc x) λr=>r.2=0->SQ x.2.2.1 r.1:=by exact AA (ik b c) λd a=>AB a
theorem AJl{n o:Bd}{c:Q}(hn:n.length=256)(p:o.length=256)(h:n.take 8=n.drop 248)(d:o.take 8=o.drop 248)(j:n.take 8=o.take 8->n=o)(b:(n.take c++o.drop c).take 8=(n.take c++o.drop c).drop 248):n.take c++o.drop c=n\/n.take c++o.drop c=o:=by
 have g: ∀i:Q,(n.take c++o.drop c)[i]? =if i<c then n[i]? else o[i]? :=λi=>by grind
 have q: ∀{l:Bd},l.take 8=l.drop 248-> ∀i:Q,i<8->l[i]? =l[248+i]? :=λ{l} e i a=>by have:=congrArg (λl:Bd=>l[i]?) e;rw[KD a,KC]at this;exact this
 by_cases m:c<8
 ·refine .inr (JX λi=>?_);rw[g i];split
  ·rename_i a;have:=q b i (by omega);rw[g,g,if_pos a,if_neg (by omega),<-q d i (by omega)]at this;exact this
  ·rfl
 ·refine .inl ?_;by_cases k:c<=248
  ·have e:n=o:=j (JX λi=>by
    by_cases a:i<8
    ·have:=q b i a;rw[g,g,if_pos (by omega),if_neg (by omega),<-q d i a]at this;rw[KD a,KD a];exact this
    ·rw[Ct (by rw[BP];omega),Ct (by rw[BP];omega)])
   rw[e,DG]
  ·refine JX λi=>?_;rw[g i];split
   ·rfl
   ·rename_i a;by_cases f:i<256
    ·have:=q b (i-248) (by omega);rw[g,g,if_pos (by omega),if_neg (by omega),show 248+(i-248)=i by omega,q h (i-248) (by omega),show 248+(i-248)=i by omega]at this;exact this.symm
    ·rw[Ct (by omega),Ct (by omega)]
def AGG:(kE 256).take 8=(kE 256).drop 248:=g!
def DP.tear{P:S AE}{d t:Bw}{p:Y}{o n m:Bd}{c:Q}(h:DP B P d)(z:0≤p)(f:B p)(E_:DI t)(I:d.1[ο p]?=Z o)(H:m=n.take c++o.drop c)(F:t.1=EU d.1 p m){x:AS}(r:Hh x)(hn:n=IL x)(D_:AIl P p n)(N:1≤x.2.1)
  (M:∀j,(st (P.take j) p).2.1=x.2.1->st (P.take j) p=x) (K:∀j,Hh (st (P.take j) p)):∃A,DP A P t:=by
 have g:=(h.2 _ _ I).1 (by rw[JW z];exact f);rw[JW z]at g;have y:∀(i:Q)(s:Bd),i≠ο p->t.1[i]?=Z s->d.1[i]?=Z s:=λi s l a=>by rw[F]at a;unfold EU at a;rwa[Dd o!]at a
 have w:∀s:Bd,t.1[ο p]?=Z s->s=m:=λs a=>by rw[F]at a;unfold EU at a;grind
 by_cases b:dead m;refine⟨λj=>B j/\j≠p,E_,λi s a=>?_⟩;by_cases l:i=ο p
 subst l;rw[w s a];exact⟨λf=>O! (JW z) f.2,.inr b⟩;have:=h.2 i s (y i s l a);exact⟨λf=>this.1 f.1,this.2.imp_left λf=>⟨f,o!⟩⟩;have C:m.take 8=m.drop 248:=by by_cases L:m=kE 256;rw[L];exact AGG;by_cases J:∃q,Hh q/\m=IL q;obtain⟨q,q1,q2⟩:=J;rw[q2,VN,pF q1];exact O! ⟨L,λq q1 q2=>J ⟨q,q1,q2⟩⟩ b
 have v:o.take 8=o.drop 248/\(n.take 8=o.take 8->n=o):=by rcases g with rfl|⟨j,rfl⟩;refine⟨AGG,λe=>?_⟩;rw[hn,VN]at e;have:=YU (k:=8) (n:=x.2.1) (m:=0) g! ⟨n!,by have:=r.2.2.1;omega,by have:=r.2.2.2.1;omega⟩ ⟨n!,g!,g!⟩ e;omega;refine⟨VN.trans (pF (K j)).symm,λe=>?_⟩;rw[hn,VN,VN]at e;have G:=K j;have:=YU (k:=8) g! ⟨n!,by have:=r.2.2.1;omega,by have:=r.2.2.2.1;omega⟩ ⟨n!,by have:=G.2.2.1;omega,by have:=G.2.2.2.1;omega⟩ e;rw[hn,M j this.symm]
 have u:=AJl (c:=c) (by rw[hn];exact eD r) (h.1.2.1 _ _ I) (by rw[hn,VN,pF r]) v.1 v.2 (by rw[<-H];exact C);rw[<-H]at u;refine⟨B,E_,λi s a=>?_⟩;by_cases l:i=ο p
 subst l;rw[w s a,JW z];refine⟨λ_=>?_,.inl f⟩;rcases u with e|e<;>rw[e];exact D_;exact g;exact h.2 i s (y i s l a)
def fN{x:AV×Int×Int×Int}(h:SK B x.1.1)(D_:Dh x.1.1.2.2.1)(v:DJ B x.1.1.2.2.1 x.1.2):An (MM x) λr=>∃A P,DP A P r.1/\CB x.1.1.1 P r.2:=by
 unfold MM;refine AA Fo λi Q=>AC (λO=>?_) (λ_=>AA (zQ D_ v.1 h.ki.1) λL E_=>AB (⟨B,dl x.1.1.2.2.1,v.2,E_⟩:∃A P,DP A P x.1.2/\CB x.1.1.1 P L));have⟨J,f,G,m⟩:=Q.2.2.1 O;obtain⟨g,M,Y,c⟩:=AI O Q.2.1;have e:=BY (Y.symm.trans G);subst e;dsimp only at M m c;rw[M];refine BJ (AA (P:=λr:AU×Bw=>(∃A,DP A (dl r.1.2.2.1) r.2)/\Dh r.1.2.2.1/\r.1.2.2.1.1=1/\LI x.1.1.1 r.1.2.2.1.2.1) ?_ λv8 W=>?_);rotate_left 1;obtain⟨⟨A,R⟩,S,T,N⟩:=W;refine AA (zQ S T N) λv9 X_=>AB ?_;exact⟨A,dl v8.1.2.2.1,R,X_⟩;refine AK (λF=>?_) (λ_=>?_);rotate_left 1;apply AB;exact⟨⟨B,v.2⟩,D_,v.1,h.ki.1⟩;have⟨t,n,_⟩:=J.2.2.2.2.2.1 i.toNat g (by have:=Cs G;omega) G;have n:=n F;apply BJ;rw[Yk t];refine BJ (BJ (AA (KR h D_) λu a=>AA (iM v.2.1) λv6 U=>?_));have b:=v.up a.1.2.1;have q:=h.ki.2.2 g c;have K:=a.1.2.2.1.num b.1;have N:=a.1.2.2.1.2.2.1;have C:=a.1.2.2.2.2.2.ki;have s:g.1=st u.2.2.1.2.1 x.2.2.1:=by have:=(C.2.1 x.2.2.1 o! (by rw[a.1.1];dsimp only;omega)).1 g (by rw[a.2.1];exact c) m;exact this
 have I:=Xc K (p:=x.2.2.1) ⟨o!,by rw[<-m];exact t.2.1⟩ o!;have y:BZ u.2.2.1.2.1 x.2.2.1=g.1.2.1:=by rw[<-Jg,<-s]
 have w:=a.2.2 (by have:=mZ D_ g.1.1;have:=E! (·.2.1) ((h.ki.2.1 g.1.1 q.1 q.2.1).1 g c rfl);rw[Jg]at this;dsimp only;omega);refine AA (P:=λd=>∃A,DP A (dl u.2.2.1) d) (AO (λZ_=>AB ?_) (y? ⟨B,b.2⟩)) λv7 V=>AB ⟨V,a.1.2.2.1,b.1,by have:=C.1;rw[a.1.1]at this;exact this⟩;obtain⟨t1,o,t2,t3,t4⟩:=U Z_;refine b.2.tear t2 (by rw[<-m];exact q.2.2.2) t1 t3 rfl t4 t rfl ?_ o! (λj H=>?_) λj=>?_;refine .inr ⟨(dl u.2.2.1).length,?_⟩;rw[Hk];unfold dl;dsimp only at w⊢;rw[AF2 K o!,<-s];unfold dl at H⊢;rw[Kf]at H⊢;rw[s,<-Hk (l:=u.2.2.1.2.1)];rw[Hk];have:=ml K (p:=x.2.2.1) (j:=min j u.2.2.1.2.2.toNat) (k:=θ u.2.2.1.2.1) (by rw[Hk,y,<-H,Jg]);rwa[Hk]at this;unfold dl;rw[Kf];exact I _
def Ey{x}:An (EA x) λr=>O:=by exact AL (λ_=>AA B9 λ_ _=>AB trivial) (y? trivial)
end Go.Pm
namespace Go.Pm
open Go Go.Ab
def cK{m:Q}{c:AV×R}{s:Y×U Y×AV×R}(i:m<=16777216)(h:0<=s.1/\s.1<=m/\s.2.1.length=m/\s.2.2=c):An (Ai Ps s) λr=>r.1.length=m/\r.2=c:=by refine AW (λ(s:Y×U Y×AV×R)=>0<=s.1/\s.1<=m/\s.2.1.length=m/\s.2.2=c) (λ(s:Y×U Y×AV×R)=>((m:Y)-s.1).toNat) h (λs g=>?_);obtain⟨b,j,d,f⟩:=g;unfold Ps;have e:=AY (x:=s.1+1);rw[e];refine AC (λa=>?_) (λ_=>AB ⟨d,f⟩);simp only[T]at a;refine AA (AI b a) λ_ _=>AA (AI b a) λ_ _=>AB ⟨⟨d!,d!,by simp[EU,d],f⟩,d!⟩
def kC{n:Int}{x:AV×List LO}(h:SQ n x.1):An (OK x) λr=>SQ n r.1:=by
 unfold OK;refine AA (P:=λr=>SQ n r.2.2.2.1) ?_ λr hr=>AB hr;refine AW (λ(s:Int×List Bf×List Int×List JR×AV×Bool)=>0<=s.1/\s.1<=1000/\s.2.1.length<=s.1/\s.2.2.1.length<=s.1/\s.2.2.2.1.length<=s.1/\SQ n s.2.2.2.2.1) (λ(s:Int×List Bf×List Int×List JR×AV×Bool)=>(1000-s.1).toNat) ⟨Ae _,d!,q!,q!,q!,h⟩ (λs X_=>?_);obtain⟨Z_,i2,i3,i4,i5,o⟩:=X_;obtain⟨B,i⟩:=id o;obtain⟨q1,q2,q3,q4⟩:=id i;unfold Vf;refine AC (λS=>?_) (λ_=>AB o);refine AC (λY=>?_) (λ_=>AB o);refine AP (λ_=>?_) (λ_=>AB o);simp only[len]at S;have e:=AY (x:=s.1+1);have b: ∀(v:Bf) (t:List Int×List JR×AV×Bool),t.1.length<=s.1+1->t.2.1.length<=s.1+1->SQ n t.2.2.1-> ∀Q:Step (Int×((List Bf)×((List Int)×((List JR)×(AV×Bool))))) ((List Bf)×((List Int)×((List JR)×(AV×Bool))))->Prop,(∀a:Int×List Bf×List Int×List JR×AV×Bool,(0<=a.1/\a.1<=1000/\a.2.1.length<=a.1/\a.2.2.1.length<=a.1/\a.2.2.2.1.length<=a.1/\SQ n a.2.2.2.2.1)/\(1000-a.1).toNat<(1000-s.1).toNat->Q (.next a))->An (Option.bind (app s.2.1 ([v]:List (Int×(Int×(Int×((Bool×Bd)×Int)))))) λD_=>some (.next ((wi (s.1+1)),(D_,t)))) Q:=by intro v t h1 O G Q I;refine AA (AZ w!) λD_ W=>AB (I _ ?_);have l7:=W.2.1;simp only[Bh,Bi]at l7;rw[e];exact⟨⟨d!,d!,d!,d!,d!,G⟩,d!⟩
 have same: ∀(v:Bf) (Q:Step (Int×((List Bf)×((List Int)×((List JR)×(AV×Bool))))) ((List Bf)×((List Int)×((List JR)×(AV×Bool))))->Prop),(∀a:Int×List Bf×List Int×List JR×AV×Bool,(0<=a.1/\a.1<=1000/\a.2.1.length<=a.1/\a.2.2.1.length<=a.1/\a.2.2.2.1.length<=a.1/\SQ n a.2.2.2.2.1)/\(1000-a.1).toNat<(1000-s.1).toNat->Q (.next a))->An (Option.bind (app s.2.1 ([v]:List (Int×(Int×(Int×((Bool×Bd)×Int)))))) λD_=>some (.next ((wi (s.1+1)),(D_,s.2.2)))) Q:=λv Q I=>b v s.2.2 o! o! o Q I;refine AA (AI Z_ S) λv1 _=>AO (λ_=>?_) (λ_=>?_);refine AA (fM q2 q3 q4) λv2 O=>AA (P:=λr=>r.1.length<=s.1+1/\r.2=s.2.2.2.2) ?_ λv4 R=>?_;refine AO (λ_=>?_) (λ_=>AB ⟨d!,rfl⟩);refine AA (AZ w!) λv3 G=>AB ⟨?_,rfl⟩;have:=G.2.1;simp at this;dsimp only;omega;refine AA (P:=λr=>SQ n r.1) ?_ λv5 V=>?_;refine AO (λf=>AB (i.sr (O f))) (λ_=>AB (by rw[R.2];exact o));refine AA Ey λv6 _=>b _ (v4.1,(s.2.2.2.1,v5)) R.1 d! V _ (λ_ h=>h);refine AO (λ_=>?_) (λ_=>?_);refine AC (λ_=>AA B9 λN _=>same _ _ (λ_ h=>h)) (λc1=>AC (λ_=>AA B9 λN _=>same _ _ (λ_ h=>h)) (λT=>?_));simp only[len]at T;have U:=AY (x:=v1.2.1-1);rw[U];refine AA (AI) λad _=>AA (AI) λal _=>AO (λ_=>AA B9 λN _=>same _ _ (λ_ h=>h)) (λ_=>AA (AI) λao _=>AA (AI) λap _=>AA (lT q2 q3 q4) λJ E_=>?_);have u:=i.sr E_;refine AO (λ_=>same _ _ (λ_ h=>h)) (λ_=>AO (λ_=>?_) (λ_=>?_));refine AA (P:=λr=>r.1.length<=s.1+1/\SQ n r.2.1) ?_ λK y=>b _ (s.2.2.1,K) d! y.1 y.2 _ (λ_ h=>h);refine AO (λ_=>?_) (λ_=>AB ⟨d!,u⟩);refine AA Fl λar _=>AA (AZ w!) λax F=>AB ⟨?_,u⟩;have:=F.2.1;simp at this;dsimp only;omega;exact b _ (s.2.2.1,(s.2.2.2.1,(J.1,s.2.2.2.2.2))) d! d! u _ (λ_ h=>h);refine AO (λ_=>?_) (λ_=>?_);refine AA (fO q2 q3 q4) λC j=>AA (P:=λr=>SQ n r.1) (AO (λf=>AB (i.sr (j f))) (λ_=>AB o)) λg d=>AA Ey λw _=>b _ (s.2.2.1,(s.2.2.2.1,g)) d! d! d _ (λ_ h=>h);refine AO (λ_=>?_) (λ_=>?_);refine AA (Xy q2 q4) λC j=>AA (P:=λr=>SQ n r.1) (AO (λf=>AB (i.sr (j f))) (λ_=>AB o)) λg d=>AA Ey λw _=>b _ (s.2.2.1,(s.2.2.2.1,g)) d! d! d _ (λ_ h=>h);refine AO (λ_=>?_) (λ_=>?_);refine AA Fl λa0 _=>AA KM λa1 k=>AA (P:=λr=>SQ n r.1) (AO (λf=>AB ⟨B,q1,SB.sk q2.sb (q2.ki.of rfl (k f).2.1 rfl rfl),(k f).1,q4.up (LX.of (k f).2.2.1 (k f).2.1 (k f).2.2.2.1)⟩) (λ_=>AB o)) λg d=>AA Ey λw _=>b _ (s.2.2.1,(s.2.2.2.1,g)) d! d! d _ (λ_ h=>h);refine AO (λ_=>?_) (λ_=>?_);refine AA (fN q2 q3 q4) λa2 ⟨A,P,z⟩=>AA (il z.2 z.1) λL H=>AA (cK (m:=s.2.2.1.length) (c:=s.2.2.2.2) o! ⟨Ae _,d!,rfl,rfl⟩) λp q=>AL (λ_=>?_) (λf=>?_);refine AA Ey λM _=>b _ (p.1,(s.2.2.2.1,(p.2.1,true))) (by have:=q.1;dsimp only;omega) d! (by dsimp only;rw[q.2];exact o) _ (λ_ h=>h);refine AA Ey λM _=>?_;have l:=H f;dsimp only at l;rw[q1]at l;exact b _ (p.1,(s.2.2.2.1,(L.1,p.2.2))) (by have:=q.1;dsimp only;omega) d! l _ (λ_ h=>h);refine AO (λ_=>?_) (λ_=>?_);refine AA (im q2 q3 q4) λC j=>AA (P:=λr=>SQ n r.1) (AO (λf=>AB (i.sr (j f))) (λ_=>AB o)) λg d=>AA Ey λw _=>b _ (s.2.2.1,(s.2.2.2.1,g)) d! d! d _ (λ_ h=>h);exact AA B9 λN _=>same _ _ (λ_ h=>h)
def CX(b:AT):Prop:=0<=b.2/\W b.1<=16777216/\∀x∈b.1,0<=x/\x<256
def CX.step{b}(h:CX b)(a:b.2<W b.1):CX (b.1,wi (b.2+1)):=by have⟨a1,a2,a3⟩:=h;rw[(AY (x:=b.2+1))];exact⟨d!,a2,a3⟩
def Wp{b}(h:CX b):An (He b 256) λr=>CX r.2/\0<=r.1/\r.1<256:=by unfold He;refine AC (y? ⟨h,Ae _,by show(0:Y)<256;decide⟩) (λa=>?_);simp[T]at a;refine AC n! (λ_=>AA (AI h.1) λc d=>?_);have⟨f,g⟩:=h.2.2 c d.2;have e:=AY (x:=c);refine AC n! (λ_=>AO n! (y? ⟨h.step o!,?_,?_⟩));grind[Int.tmod_nonneg];grind[Int.tmod_lt_of_pos]
theorem Ah{b}{x:Y}(h:CX b)(j:x<=4611686018427387904):An (Af b x) λr=>CX r.2/\0<=r.1/\(r.1=0\/r.1<x):=by unfold Af;refine AC (y? ⟨h,Ae _,.inl rfl⟩) (λa=>?_);simp[T]at a;refine AC (y? ⟨h,Ae _,.inl rfl⟩) (λf=>AA (AI h.1) λc e=>?_);have⟨d,g⟩:=h.2.2 c e.2;rw[(AY (x:=c))];refine AC (λ_=>?_) (λ_=>?_);refine AA (Wp (h.step o!)) λk i=>?_;grind[AO,AB,AY,Int.tmod_nonneg,Int.tmod_lt_of_pos];refine AO (O! · o!) (y? ⟨h.step o!,Int.tmod_nonneg _ d,.inr (Int.tmod_lt_of_pos _ o!)⟩)
def YF{b:AT}{x:Unit}(h:CX b):An (Iv b x) λr=>CX r.2:=by unfold Iv;refine AA (Ah h g!) λt e=>AA (Ah e.1 g!) λu m=>AA (P:=λr=>CX r.2/\0<=r.1/\r.1<=14) ?_ λc f=>?_;grind[AO,AB,AA,Ah];have⟨d,a,k⟩:=f;refine AA (P:=λl:U Y=>l.length=0) ⟨_,if_pos ⟨Ae _,a,o!⟩,q!⟩ λv n=>AA (P:=λr=>CX r.2) ?_ λw g=>AB g;refine AW (λ(s:Y×U Y×AT)=>0<=s.1/\s.1<=c.1/\s.2.1.length<=s.1/\CX s.2.2) (λ(s:Y×U Y×AT)=>(c.1-s.1).toNat) ⟨Ae _,a,d!,d⟩ (λs i=>?_);have⟨o,p,q,j⟩:=i;unfold QG;rw[(AY (x:=s.1+1))];refine AC (λ_=>?_) (λ_=>AB j);grind[AA,Ah,AZ,AB,List.length_cons,List.length_nil]
theorem Y9{b}{x}(h:CX b):An (HS b x) λr=>CX r.2:=by unfold HS;refine AA (Ah h g!) λf a=>AO (λ_=>AA (Ah a.1 g!) λe c=>AB c.1) (λ_=>AO (λ_=>?_) (λ_=>AA (Ah a.1 g!) λe c=>AB c.1));refine AA (Ah a.1 g!) λg d=>?_;have:=d.2.2;refine AA (AI d.2.1 w!) λ_ _=>?_;grind[AA,AI,AB]
theorem XO{b}{x:Y}(h:CX b)(u:x<=1099511627776):An (IB b x) λr=>CX r.2:=by
 unfold IB;refine AA (Ah h g!) λv a=>?_;have l:=a.2.2;refine AA (AI a.2.1 w!) λ_ _=>AA (AI a.2.1 w!) λw _=>AA (P:=λ_=>O) (AK (y? trivial) (λ_=>AA (P:=λ_=>O) (AK (y? trivial) (y? trivial)) λ_ _=>AB trivial)) λy _=>AA (P:=λr=>CX r.1) ?_ λp e=>?_;refine AK (λ_=>?_) (λ_=>?_);refine AA (Ah a.1 o!) λz m=>AA (Ah m.1 g!) λA j=>AA (P:=λr=>CX r.1) ?_ λt i=>AB i;refine AK (λ_=>?_) (y? j.1);refine AA (YF j.1) λc n=>?_;have k:0<=(if(12<(T c.1))then 12 else(T c.1))/\(if(12<(T c.1))then 12 else(T c.1))<=W c.1:=by simp[T];split<;>omega
 exact AA (CW (Ae _) k.1 k.2) λB _=>AB n;refine AA (P:=λr=>CX r.1) ?_ λt i=>AB i;exact AK (λ_=>AA (Ah a.1 g!) λo d=>AB d.1) (y? a.1);refine AA (Ah e g!) λq f=>AA (P:=λr=>CX r.1) ?_ λs g=>AB g;refine AK (λ_=>?_) (y? f.1);grind[AA,Y9,AB]
theorem YG{b}{x:Y×Y×R}(h:CX b)(f:0<=x.1/\x.1<=64/\x.2.1<=64):An (Iw b x) λr=>CX r.2:=by unfold Iw;rw[(AY (x:=x.1+1))];refine AA (Ah h g!) λg a=>AA (P:=λ_=>O) (AK (y? trivial) (y? trivial)) λi _=>AK (y? a.1) (λ_=>AK (λ_=>AA (Ah a.1 o!) λj c=>AB c.1) (λ_=>AK (y? a.1) (λ_=>AK (y? a.1) (λ_=>AA (P:=λs=>(∃u,s=.inl u/\CX u.1)\/∃u,s=.inr u/\CX u.1) ?_ λs e=>?_))));refine AK (λ_=>?_) (λ_=>AK (y? (.inl ⟨_,rfl,a.1⟩)) (y? (.inr ⟨_,rfl,a.1⟩)));refine AK (λ_=>?_) (y? (.inr ⟨_,rfl,a.1⟩));refine AA (Ah a.1 g!) λk d=>?_;grind[AA,Ah,AB];grind[BF,AB,Ay,AA,Ah,XO]
def Vu{b:AT}{x:Y×Y×R}(h:CX b)(g:0<=x.1/\x.1<=64/\x.2.1<=1000/\ -1000<=x.2.1):An (HC b x) λr=>CX r.2:=by unfold HC;rw[(AY (x:=x.2.1+1))];refine AA (Ah h o!) λk a=>?_;have c:=a.2.2;refine AA (P:=λr=>CX r.2) ?_ λl d=>AB d;refine AW (λ(s:Y×U LO×AT)=>0<=s.1/\s.1+s.2.1.length<=1010/\CX s.2.2) (λ(s:Y×U LO×AT)=>s.1.toNat) ⟨a.2.1,w!,a.1⟩ (λs e=>?_);have⟨i,j,f⟩:=e;unfold M2;rw[(AY (x:=s.1-1))];refine AC (λ_=>?_) (λ_=>AB f);grind[AA,YG,AZ,AB,List.length_cons,List.length_nil]
variable {B:Int->Prop}
def wB:Dh (1,[],0):=⟨g!,g!,q!,g!,q!,λi e h=>by simp at h⟩
def jx{x}:An (G6 x) λr=>r=(1,[],0):=by unfold G6;exact AB rfl
def kA{x:Y×Y}(h:1<=x.1/\x.1<=64/\1<=x.2/\x.2<=64):An (OI x) λr=>r.2=0/\r.1.1=x.1/\SK (λ_=>O) r.1/\Dh r.1.2.2.1/\r.1.2.2.1.1=1:=by unfold OI;refine AC (O! · o!) (λ_=>AC (O! · o!) (λ_=>AC (O! · o!) (λ_=>AC (O! · o!) (λ_=>AA WC λf c=>AA WD λg d=>AA jx λi b=>AB ⟨rfl,rfl,⟨⟨q!,q!⟩,q!,q!,?_⟩,?_⟩))));unfold KI FD;dsimp only;rw[c,b];refine⟨LI.nil _,λp _ _=>⟨q!,q!,λw e=>?_⟩,q!⟩;have:=d w (BO e);exact⟨by rw[this];exact Ae _,λ_ _=>this⟩;dsimp only;rw[b];exact⟨wB,rfl⟩
def AG5{x:Y}(h:1<=x/\x<=64):An (Ko x) λr=>r.2=0:=by unfold Ko;refine AC (O! · o!) (λ_=>AC (O! · o!) (λ_=>AA (TF o!) λb _=>AB rfl))
def kB{x:Y×Y}(h:1<=x.1/\x.1<=64/\1<=x.2/\x.2<=64):An (OJ x) λr=>SQ x.1 r.1:=by unfold OJ;refine AA (kA h) λe a=>AL (O! a.1 ·) (λ_=>AA ((ju).and (AG5 ⟨h.1,h.2.1⟩)) λf b=>AL (O! b.2 ·) (y? ?_));exact⟨_,a.2.1,a.2.2.1,a.2.2.2.1,a.2.2.2.2,(b.1 b.2).1,λi s d=>⟨λ_=>.inl (((b.1 b.2).2.2 i s d).trans (nL _)),.inl trivial⟩⟩
def Wq{b}{x:Y×R}(h:CX b)(c:x.1<=1000/\ -1000<=x.1):An (Hf b x) λr=>CX r.2/\∃n,1<=n/\n<=4/\SQ n r.1:=by unfold Hf;refine AA (Ah h g!) λl a=>AA (Ah a.1 g!) λm g=>?_;obtain⟨a1,a2,a3⟩:=a;obtain⟨d,o,p⟩:=g;have e:=AY (x:=1+l.1);have f:=AY (x:=1+m.1);rw[e,f];refine AA (kB d!) λq i=>AA (Vu d ⟨d!,d!,c.1,c.2⟩) λs j=>AA (kC i) λt k=>AB ⟨j,_,d!,d!,k⟩
def PA{b}{x:Y×R}(h:CX b)(d:x.1<=1000/\ -1000<=x.1):An (IC b x) λr=>CX r.2/\1<=r.1.1/\r.1.1<=4/\LI r.1.1 r.1.2.2.1.2.1/\Dh r.1.2.2.1/\r.1.2.2.1.1=1:=by unfold IC;refine AA (Wq h d) λg a=>AB ?_;obtain⟨c,n,e,f,_,q1,q2,q3,q4⟩:=a;exact⟨c,d!,d!,q2.ki.1,q3,q4.1⟩
def lO{b}{x:Y}(h:CX b)(g:x<=1000/\ -1000<=x):An (LY b x) λr=>CX r.2.2/\1<=r.1/\r.1<=4/\Dh r.2.1/\∃n,LI n r.2.1.2.1:=by unfold LY;refine AA (PA h g) λk d=>?_;obtain⟨c,i,j,q2,q3,q4⟩:=d;refine AA Fl λl f=>?_;have e:=f q3;refine AA (KM.and (td q3 d!)) λm a=>AB ⟨c,i,j,(a.1 a.2).1,_,by have:=q2;rw[<-(a.1 a.2).2.1]at this;exact this⟩
end Go.Pm
namespace Go.Pm
open Go Go.Ab
def I3{x}:An (H5 x) λr=>r=E↔1<=x.1/\x.1<=x.2.1/\x.2.1<=1099511627776/\0<=x.2.2.1/\x.2.2.1<=x.2.2.2.1/\x.2.2.2.1<64/\0<=x.2.2.2.2/\x.2.2.2.2<=8:=by
 unfold H5;exact x!
theorem Mn{x}:An (C9 x) λr=>O:=by
 unfold C9;exact x!
def Qu{x:U AE×AE}{s:Y}(h:0<=s/\s<=θ x.1/\(θ x.1:Y)<=16777216):An (Ai (I2 x) s) λr=>0<=r/\r<=θ x.1:=by
 refine AW (λ(s:Y)=>0<=s/\s<=θ x.1/\(θ x.1:Y)<=16777216) (λ(s:Y)=>((θ x.1:Y)-s).toNat) h (λs a=>?_);unfold I2;exact x!
theorem cN{x:S AE×AE}(h:W x.1<=16777215):An (Cf x) λr=>W r.1<=W x.1+1:=by
 refine AA (Qu ⟨Ae _,o!⟩) λp a=>?_;have main:An (σ (Sr x.1 0 p) λb=>
  σ (Sr x.1 p (T x.1)) λc=>
  σ (app [] b) λd=>
  σ (app d ([x.2]:S (Y×(Y×(Y×(Y×(Y×(Y×((Y×(Y×((R×Bd)×(R×Bd))))×Bd))))))))) λe=>
  σ (app e c) λf=>
  Z (f,E)) λr=>W r.1<=W x.1+1:=by
  refine AA (BU (Ae _) a.1 a.2) λj g=>AA (BU a.1 k! k!) λk i=>?_;grind[AA,AZ,AB]
 refine AC (λl=>?_) (λ_=>main);grind[AA,AI,Mn,AO,AB]
def ZX{x:AQ}{s:Y}(h:0<=s/\s<=θ x.2.2.2.2.2/\(θ x.2.2.2.2.2:Y)<=16777216):An (Ai (HT x) s) λr=>r≠.inl ζ:=by
 refine AW (λ(s:Y)=>0<=s/\s<=θ x.2.2.2.2.2/\(θ x.2.2.2.2.2:Y)<=16777216) (λ(s:Y)=>((θ x.2.2.2.2.2:Y)-s).toNat) h (λs b=>?_);unfold HT;exact x!
def ak(x:AQ):Prop:=1<=x.1/\x.1<=x.2.1/\x.2.1<=1099511627776/\0<=x.2.2.1/\x.2.2.1<=x.2.2.2.1/\x.2.2.2.1<64/\0<=x.2.2.2.2.1/\x.2.2.2.2.1<=8/\W x.2.2.2.2.2<=4096
def Ox{x}:An (ES x) λr=>r=E->ak x:=by refine AA I3 λe b=>AP (y? λa=>by cases a) (λc=>?_);have hn:=b.1 c;refine AC (y? λa=>by cases a) (λd=>?_);simp[T]at d;refine AA (ZX ⟨Ae _,o!⟩) λr hr=>?_;grind[ak,BH,AB]
def SP{x:U AE×Y×Y×Y×Y×Y}{s:Y×AQ}(h:0<=s.1/\s.1<=θ x.1/\θ x.1<=16777215):An (Ai (Ov x) s) λr=>∀u,r=.inl u->u.1≠0:=by
 refine AW (λ(s:Y×AQ)=>0<=s.1/\s.1<=θ x.1/\θ x.1<=16777215) (λ(s:Y×AQ)=>((θ x.1:Y)-s.1).toNat) h (λs b=>?_);unfold Ov;exact x!
def SS{a:R×Y×AQ}{b:AE}{s:R×Y}(h:0<=s.2/\s.2<=θ a.2.2.2.2.2.2.2/\θ a.2.2.2.2.2.2.2<=16777215):An (Ai (Ow a b) s) λr=>O:=by
 refine AW (λ(s:R×Y)=>0<=s.2/\s.2<=θ a.2.2.2.2.2.2.2/\θ a.2.2.2.2.2.2.2<=16777215) (λ(s:R×Y)=>((θ a.2.2.2.2.2.2.2:Y)-s.2).toNat) h (λs c=>?_);unfold Ow;exact x!
def iv{x:U AE×Y×Y×Y×Y×Y}(h:x.1.length<=16777215):An (J3 x) λr=>r.2=0->ak r.1:=by
 refine AA I3 λp _=>AP (λ_=>AB n!) (λ_=>AA (SP ⟨Ae _,k!,h⟩) λq g=>BH (λu e=>AB λa=>absurd a (g u e)) (λu e=>AA (P:=λr=>r.2.2.2.2.2.2.length<=16777215) ?_ λl f=>?_));refine AW (λ(s:R×Y×AQ)=>0<=s.2.1/\s.2.1<=x.1.length/\s.2.2.2.2.2.2.2.length<=s.2.1) (λ(s:R×Y×AQ)=>((x.1.length:Y)-s.2.1).toNat) ⟨Ae _,k!,q!⟩ (λs i=>?_);have⟨j,n,o⟩:=i;unfold KZ;rw[(AY (x:=s.2.1+1))];refine AC (λc=>?_) (λ_=>AB k!);simp[T]at c;have b:((0<=s.2.1+1/\s.2.1+1<=x.1.length/\s.2.2.2.2.2.2.2.length<=s.2.1+1)/\((x.1.length:Y)-(s.2.1+1)).toNat<((x.1.length:Y)-s.2.1).toNat):=⟨o!,o!⟩
 refine AA (AI j c) λt _=>AA CT λv _=>AP (λ_=>AB b) (λ_=>AC (λ_=>AB b) (λ_=>AC (λ_=>AB b) (λ_=>AC (λ_=>AB b) (λ_=>AC (λ_=>AB b) (λ_=>AA (SS ⟨Ae _,k!,o!⟩) λk _=>?_)))));grind[AA,cN,AB];refine AK (λ_=>AB n!) (λ_=>AC (λ_=>AB n!) (λ_=>AA Ox λm d=>AP (λ_=>AB n!) (λc=>AB λ_=>d c)))
def iu{x}:An (H4 x) λr=>O:=by
 unfold H4;exact x!
def cM{x:AQ}:An (Gt x) λr=>r.1.length<=1099511627776:=by refine AA Ox λk b=>AP (λ_=>AB q!) (λa=>?_);have h:=(b a).2.2.2.2.2.2.2.2;refine AA iu λl _=>AA Ua λm g=>AA (P:=λr:Bd=>r.length<=1099511627776) ?_ λo c=>AB c;refine AW (λ(s:Bd×Y)=>0<=s.2/\s.2<=x.2.2.2.2.2.length/\s.1.length<=8408*s.2+8408) (λ(s:Bd×Y)=>((x.2.2.2.2.2.length:Y)-s.2).toNat) ⟨Ae _,k!,k!⟩ (λs d=>?_);have⟨f,i,j⟩:=d;have e:=AY (x:=s.2+1);refine AC (λa=>?_) (λ_=>AB o!);refine AA (AI f a) λn _=>?_;grind[AA,bn,Ua,CN,AB]
def cO{x:Bd×Y×Y}(h:W x.1<=1099511627776):An (Bg x) λr=>O:=by exact AA (Cp h) λ_ _=>AB trivial
def cL{x:Bd}(h:x.length<=1099511627776):An (Fq x) λr=>r.2=0->ak r.1:=by refine AA (SE h) λk n=>AL (λb=>AB λa=>absurd a b) (λj=>AL (λ_=>AB n!) (λg=>?_));simp[T]at g;refine AA (CW (Ae _) g!) λp _=>AL (λ_=>AB n!) (λ_=>?_);have hn: ∀y,An (Bg (k.1,y)) λ_=>O:=λy=>cO k!;refine AA (hn _) λq _=>AA (hn _) λt _=>AA (hn _) λv _=>AA (hn _) λw _=>AA (hn _) λz _=>AA (hn _) λA _=>AC (λ_=>AB n!) (λi=>AA (P:=λr=> ∀u,r= .inl u->u.1≠0) ?_ λl d=>?_);refine AW (λ(s:Y×Y×U AE×Y×Y×Y×Y×Y×AQ)=>0<=s.2.1/\s.2.1<=4096/\s.2.2.1.length<=s.2.1) (λ(s:Y×Y×U AE×Y×Y×Y×Y×Y×AQ)=>(4096-s.2.1).toNat) ⟨Ae _,k!,q!⟩ (λs o=>?_);have e:=AY (x:=s.2.1+1);refine AC (λb=>?_) (λ_=>AB λu c=>by cases c);grind[AA,SE,AL,AB,bk,AZ,List.length_cons,List.length_nil];refine BH (λu c=>AB λa=>absurd a (d u c)) (λu c=>AL (λ_=>AB n!) (λ_=>AA Ox λm f=>AP (λ_=>AB n!) (λb=>AB λ_=>f b)))
def SA(a:AJ):Prop:=W a.1<=16/\W a.2.2.1<=16777216/\∀f∈a.2.2.1,W f.2.2<=1099511627776
def VA(a:AJ):Prop:=1<=a.2.1/\a.2.1<=64/\1<=W a.1/\W a.1<=16/\1<=a.2.2.2.1/\a.2.2.2.1<=1099511627777/\1<=a.2.2.2.2/\a.2.2.2.2<=1073741825/\W a.2.2.1<=256
def cQ{x:Y×U Y}:An (Fs x) λr=>r=true->1<=x.1/\x.1<=64/\1<=x.2.length/\x.2.length<=16:=by unfold Fs;refine AC (λ_=>AB λa=>by cases a) (λh=>AC (λ_=>AB λa=>by cases a) (λi=>AC (λ_=>AB λa=>by cases a) (λb=>AC (λ_=>AB λa=>by cases a) (λc=>?_))));simp only[T]at b c;refine AA (AI (Ae _)) λk _=>AL (λ_=>AB λa=>by cases a) (λ_=>AA (P:=λ_=>O) ?_ λr _=>?_);refine AW (λ(s:Y)=>1<=s/\s<=x.2.length) (λ(s:Y)=>((x.2.length:Y)-s).toNat) ⟨Ae _,o!⟩ (λs j=>?_);unfold Mp;have d:=AY (x:=s-1);have f:=AY (x:=s+1);rw[d,f];refine AC (λg=>?_) (λ_=>AB trivial);simp only[T]at g;refine AA (AI) λ_ _=>AA (AI) λ_ _=>AC (λ_=>AB trivial) (λ_=>AB ⟨o!,o!⟩);refine BH (λu _=>AB λ_=>o!) (λu _=>?_);have e:=AY (x:=T x.2-1) i!;rw[e];exact AA (AI i! i!) λl _=>AB λ_=>o!
def ZY{x:AJ}{s:Y×Y}(h:0<=s.2/\s.2<=θ x.2.2.1/\θ x.2.2.1<=256):An (Ai (Js x) s) λr=>r≠.inl ζ:=by
 refine AW (λ(s:Y×Y)=>0<=s.2/\s.2<=θ x.2.2.1/\θ x.2.2.1<=256) (λ(s:Y×Y)=>((θ x.2.2.1:Y)-s.2).toNat) h (λs b=>?_);unfold Js;exact x!
def Ka{x}:An (Cv x) λr=>r=E->VA x:=by
 unfold Cv;refine AA cQ λi c=>AP (y? λa=>by cases a) (λd=>?_);obtain⟨a1,a2,a3,a4⟩:=c d;refine AC (y? λa=>by cases a) (λe=>AC (y? λa=>by cases a) (λf=>AC (y? λa=>by cases a) (λg=>AC (y? λa=>by cases a) (λh=>AC (y? λa=>by cases a) (λb=>?_)))));simp only[T]at b;refine AA (ZY ⟨Ae _,d!,o!⟩) λr hr=>?_;have q:VA x:=⟨a1,a2,a3,a4,o!⟩
 exact BH (λu _=>AB λ_=>q) (λu _=>AB λ_=>q)
def Un{x:AJ×Y}(h:W x.1.1<=16)(a:0<=x.2/\x.2<W x.1.1):An (FA x) λr=>O:=by unfold FA;have e:=AY (x:=x.2+1);rw[e];refine AA (P:=λ_=>O) ?_ λd _=>AA (AI a.1 a.2) λf _=>AB trivial;refine AC (λb=>?_) (y? trivial);simp only[T]at b;exact AA (AI o! b) λc _=>AB trivial
def YT{x:AJ×AQ}(h:x.1.1.length<=16):An (Ff x) λr=> -1<=r/\r<16:=by
 unfold Ff;refine AA (P:=λr=> ∀u,r= .inl u->0<=u/\u<16) ?_ λr hr=>BH (λu a=>AB (by have:=hr u a;omega)) (λ_ _=>AB g!);refine AW (λ(s:Y)=>0<=s/\s<=x.1.1.length) (λ(s:Y)=>((x.1.1.length:Y)-s).toNat) ⟨Ae _,o!⟩ (λs d=>?_);unfold Hg;have e:=AY (x:=s+1);rw[e];refine AC (λb=>?_) (λ_=>AB λu a=>by cases a);simp only[T]at b;have c:((0<=s+1/\s+1<=x.1.1.length)/\((x.1.1.length:Y)-(s+1)).toNat<((x.1.1.length:Y)-s).toNat):=⟨o!,o!⟩
 refine AA (Un h ⟨d.1,b⟩) λf _=>AO (λ_=>?_) (λ_=>AB c);exact AO (λ_=>AB λu a=>by cases a;omega) (λ_=>AB c)
def cP{x:AJ×Am}(h:W x.1.1<=16)(c:W x.2.2.2<=1099511627776):An (DT x) λr=>0<=r.2->ak r.1:=by unfold DT;refine AL (y? n!) (λ_=>AA (cL c) λd b=>AL (y? n!) (λa=>AA (YT h) λe _=>AB λ_=>b a))
def Xz{x:AQ×Y}{s:Y×U AE×Y×Y×Y×Y×Y}(h:0<=s.1/\s.1<=θ x.1.2.2.2.2.2/\θ x.1.2.2.2.2.2<=4096/\θ s.2.1<=s.1):An (Ai (Lg x) s) λr=>θ r.1<=4096:=by
 refine AW (λ(s:Y×U AE×Y×Y×Y×Y×Y)=>0<=s.1/\s.1<=θ x.1.2.2.2.2.2/\θ x.1.2.2.2.2.2<=4096/\θ s.2.1<=s.1) (λ(s:Y×U AE×Y×Y×Y×Y×Y)=>((θ x.1.2.2.2.2.2:Y)-s.1).toNat) h (λs c=>?_);unfold Lg;exact x!
def SX{x:AQ×Y}(h:W x.1.2.2.2.2.2<=4096):An (FZ x) λr=>W r.2.2.2.2.2<=4096:=by unfold FZ;refine AC (y? h) (λ_=>AA (Xz ⟨Ae _,d!,h,q!⟩) λb a=>AB a)
def SV{x:AJ×Ac×Y}{a:U AE}{s:Y×AJ}(h:0<=s.1/\s.1<=θ a/\θ a<=4096):An (Ai (Oy x a) s) λr=>∀u,r=.inl u->u.1≠0:=by
 refine AW (λ(s:Y×AJ)=>0<=s.1/\s.1<=θ a/\θ a<=4096) (λ(s:Y×AJ)=>((θ a:Y)-s.1).toNat) h (λs c=>?_);unfold Oy;exact x!
def RL(l:S AQ):Prop:=∀r∈l,W r.2.2.2.2.2<=4096
def Rg{a:U AQ×U Y×Y}{c:AQ×Y}{s:Y}(h:0<=s/\s<=a.1.length/\a.1.length<=16777215):An (Ai (HU a c) s) λr=>0<=r/\r<=a.1.length:=by refine AW (λ(s:Y)=>0<=s/\s<=a.1.length) (λ(s:Y)=>s.toNat) ⟨h.1,h.2.1⟩ (λs b=>?_);unfold HU;have d:=h.2.2;have e:=AY (x:=s-1);rw[e];refine AC (λf=>?_) (λ_=>AB b);refine AA (AI) λg _=>AC (λ_=>AB ⟨o!,o!⟩) (λ_=>AB b)
def ZZ{x:AJ}{B:Int×List AQ×List Int×List Bool}(h:VA x)(G:SA x)(V:0<=B.1):An (Ai (Ez x B) ([],([],0))) λr=>r.2.length=r.1.length/\r.1.length<=256/\RL r.1:=by have a4:=h.2.2.2.1;have a9:=h.2.2.2.2.2.2.2.2;refine AW (λ(s:List AQ×List Int×Int)=>0<=s.2.2/\s.2.2<=x.2.2.1.length/\s.2.1.length=s.1.length/\s.1.length<=s.2.2/\RL s.1) (λ(s:List AQ×List Int×Int)=>((x.2.2.1.length:Int)-s.2.2).toNat) ⟨Ae _,d!,rfl,q!,λr hr=>by simp at hr⟩ (λs E_=>?_);obtain⟨z,W,A,X_,f⟩:=E_;unfold Ez;have e:=AY (x:=s.2.2+1);rw[e];refine AC (λm=>?_) (λ_=>AB ⟨A,d!,f⟩);simp only[len]at m;refine AA (AI z m) λU C=>AA (cP a4 (G.2.2 U C.2)) λZ_ D_=>AL (λ_=>AB ⟨⟨d!,d!,A,d!,f⟩,d!⟩) (λF=>?_);have n:=D_ o!;refine AA (Rg ⟨i!,i!,o!⟩) λv7 d=>AA (BU (Ae _) d.1 d.2) λv8 v=>AA (BU d.1 i! i!) λv9 y=>?_;have Y:=v.2;have K:=y.2;simp only[len]at K;refine AA (AZ w!) λL a=>?_;have o:=a.2.1;simp only[Bi]at o;refine AA (AZ w!) λM b=>?_;have p:=b.2.1;simp only[Bi,Bh]at p;refine AA (AZ o!) λN c=>?_;have H:=c.2.1;refine AA (BU (Ae _) d.1) λO g=>?_;have I:=g.2;refine AA (AI z m) λP _=>AA (BU d.1 i! i!) λQ i=>?_;have q:=i.2;simp only[len]at q;refine AA (AZ w!) λR j=>?_;have t:=j.2.1;simp only[Bi]at t;refine AA (AZ w!) λS k=>?_;have u:=k.2.1;simp only[Bi,Bh]at u;refine AA (AZ o!) λT l=>AB ?_;have J:=l.2.1;refine⟨⟨d!,d!,d!,d!,λr hr=>?_⟩,d!⟩;dsimp only at hr;rw[c.1,b.1,a.1,v.1,y.1]at hr;rcases Ak.1 hr with w|w;rcases Ak.1 w with w|w;rw[B5]at w;exact f r (Q8 (F9 w));simp at w;rw[w];exact n.2.2.2.2.2.2.2.2;exact f r (Q8 (F9 w))
def T3(n:Y)(t:S AQ×S Y×S R):Prop:=W t.2.1=W t.1/\W t.2.2=W t.1/\W t.1<=n/\RL t.1
def Za{a:U AQ×U Y}{n:Y}{t:U AQ×U Y×U R}(h:a.2.length=a.1.length/\a.1.length<=256/\RL a.1)(hn:n<=100000)(z:T3 n t):An (Ai (E2 a) (0,(0,t))) λr=>T3 (n+256) r:=by refine AW (λ(s:Y×Y×U AQ×U Y×U R)=>0<=s.2.1/\s.2.1<=a.1.length/\T3 (n+s.2.1) s.2.2) (λ(s:Y×Y×U AQ×U Y×U R)=>((a.1.length:Y)-s.2.1).toNat) ⟨Ae _,d!,by simpa using z⟩ (λs y=>?_);obtain⟨d,K,q,u,L,k⟩:=y;obtain⟨I,J,v⟩:=h;unfold E2;have e:=AY (x:=s.2.1+1);rw[e];refine AC (λc=>?_) (λ_=>AB ⟨q,u,o!,k⟩);simp only[T]at c;refine AA (AI d c) λA _=>AC (λ_=>AB ⟨⟨d!,d!,q,u,d!,k⟩,d!⟩) (λ_=>AA (AI d c) λp f=>AA (AI d) λB _=>AA (AI d c) λC _=>AA (SX (v p f.2)) λD_ g=>AA (AZ w!) λE_ b=>?_);have l:=b.2.1;simp only[Bi,Bh]at l;refine AA (AZ w!) λF i=>?_;have m:=i.2.1;simp only[Bi,Bh]at m;refine AA (AZ w!) λG j=>?_;have o:=j.2.1;simp only[Bi,Bh]at o;refine AA (AI d c) λH _=>AB ?_;refine⟨⟨d!,d!,d!,d!,d!,λr hr=>?_⟩,d!⟩;dsimp only at hr;rw[b.1]at hr;rcases Ak.1 hr with w|w;exact k r w;simp at w;rw[w];exact g
def XP{b}{x:Bd}(h:CX b)(I:W x<=1099511627776):An (GI b x) λr=>CX r.2/\W r.1<=W x+1:=by
 refine AO (λ_=>?_) (λg=>?_);refine AA (Ah h g!) λJ m=>AB ⟨m.1,?_⟩;rw[Mv];simp;simp only[T]at g;refine AA (Ah h i!) λw n=>?_;obtain⟨k,a,l⟩:=n;simp only[T]at l;have e:=AY (x:=w.1+1);refine AA (Ah k g!) λK f=>AO (λ_=>?_) (λ_=>?_);refine AA (CW (Ae _) a) λL E=>AA (CW o! i! i!) λM q=>?_;have u:=q.2;simp only[T]at u;refine AA (CN o!) λN F=>AB ⟨f.1,?_⟩;grind;refine AO (λ_=>?_) (λ_=>?_);refine AA (Ah f.1 g!) λC s=>?_;have v:(E7 ([(ι .u8 C.1)]:S Y)).length=1:=by rw[Mv];rfl
 refine AA (CN o!) λO G=>AB ⟨s.1,?_⟩;grind;refine AA (CW (Ae _) a) λP H=>AA (Ru a o!) λD _=>AA (CW o! i! i!) λy c=>AA (Ah f.1 g!) λj d=>?_;have i:=c.2;simp only[T]at i;generalize t:E7 ([(ι .u8 (((π ((κ 8 D)^^^(κ 8 (ι .u8 (wi (1+j.1)))))):Q):Y))]:S Y)=B;have v:W B=1:=by rw[<-t,Mv];rfl
 refine AA (CN o!) λz o=>AA (CN o!) λA p=>AB ⟨d.1,?_⟩;grind
def ACv{x:Ac×Y}(h:Dh x.1)(c:x.2=x.1.1+W x.1.2.1-1):An (ER x) λr=>r.1.2.2=r.1.1+W r.1.2.1-1/\r.1.1=x.1.1:=by refine AA Bb λv e=>AP (λa=>?_) (λ_=>?_);grind;refine AA Eo λf b=>?_;rw[h.last]at b;have d:=h.2.2.2.2.1;refine AC (O! · o!) (y? ⟨?_,rfl⟩);grind
def AAn{b}{x:Y}(h:CX b)(f:x<=1000/\ -1000<=x):An (LY b x) λr=>r.2.1.2.2=r.2.1.1+W r.2.1.2.1-1/\r.2.1.1=1:=by refine AA (PA h f) λj d=>?_;obtain⟨c,g,i,q2,q3,q4⟩:=d;refine AA Fl λk e=>AA (ACv q3 (e q3)) λl a=>AB ⟨a.1,a.2.trans q4⟩
def jw{x:Ac×Y}(h:Dh x.1)(p:x.1.2.2=x.1.1+W x.1.2.1-1)(l:x.1.1<=x.2)(m:x.2<=x.1.2.2+1)(n:x.2<=1099511627776):An (Kp x) λr=>r.2=0/\Dh r.1/\r.1.1=x.2:=by obtain⟨a1,a2,a3,a4,a5,a6⟩:=id h;refine AA Bb λv q=>AP (λa=>?_) (λ_=>?_);grind;refine AC (O! · o!) (λ_=>AA Eo λf d=>?_);rw[h.last]at d;have g:=AY (x:=f+1);have j:=AY (x:=x.1.2.2+1);have k:=AY (x:=x.2-x.1.1);refine AC (O! · o!) (λ_=>AC (O! · o!) (λ_=>AC (O! · o!) (λ_=>AA (BU o! k! k!) λs b=>?_)));have l2:=b.2;simp only[T]at l2;refine AA (AZ w!) λt c=>AB ⟨rfl,?_,rfl⟩;refine⟨k!,k!,k!,k!,k!,λi e o=>?_⟩;grind
def Ris(l:S Y)(n:Y):Prop:=∀(i:Q)(a b:Y),(i:Y)+1<n->l[i]?=Z a->l[i+1]?=Z b->a<b
def BD(n:Y)(l:S Y):Prop:=1<=n/\n<=64/\1<=W l/\W l<=16/\l[0]?=Z 0/\Ris l (W l)/\∀a,l[W l-1]?=Z a->a<n
def nv{x:Y×U Y}:An (Fs x) λr=>r=ζ↔BD x.1 x.2:=by
 unfold Fs;refine AC (λc=>AB ⟨λd=>(by cases d),λh=>(by have:=h.1;omega)⟩) (λL=>AC (λc=>AB ⟨λd=>(by cases d),λh=>(by have:=h.2.1;omega)⟩) (λM=>AC (λc=>AB ⟨λd=>(by cases d),λh=>(by have:=h.2.2.1;simp only[T]at c;omega)⟩) (λy=>AC (λc=>AB ⟨λd=>(by cases d),λh=>(by have:=h.2.2.2.1;simp only[T]at c;omega)⟩) (λz=>?_))));simp only[T]at y z;refine AA (AI (Ae _)) λQ E_=>?_;have f:=E_.1;refine AL (λc=>AB ⟨λd=>(by cases d),λh=>?_⟩) (λo=>?_);have:=h.2.2.2.2.1;simp only[mH]at f;rw[f]at this;exact O! (BY this) c;rw[o]at f;refine AA (P:=λr=>(r=.inl η/\¬Ris x.2 (θ x.2))\/(r=.inr ()/\Ris x.2 (θ x.2))) ?_ λr hr=>?_;refine AW (λ(s:Y)=>1<=s/\s<=θ x.2/\Ris x.2 s) (λ(s:Y)=>((θ x.2:Y)-s).toNat) ⟨Ae _,o!,λi a b v=>O! v o!⟩ (λs G=>?_);obtain⟨N,O,w⟩:=G;unfold Mp;have A:=AY (x:=s-1);have B:=AY (x:=s+1);rw[A,B];refine AC (λk=>?_) (λk=>AB (.inr ⟨rfl,?_⟩));simp only[T]at k;refine AA (AI) λa j=>AA (AI o! k) λb u=>?_;have t:(s-1).toNat+1=s.toNat:=o!
 refine AC (λJ=>AB (.inl ⟨rfl,λH=>?_⟩)) (λm=>AB ⟨⟨o!,o!,λi p q v n l=>?_⟩,o!⟩);have:=H (s-1).toNat a b o! j.1 (by rw[t];exact u.1);omega;by_cases I:(i:Y)+1<s;exact w i p q I n l;have C:i=(s-1).toNat:=o!
 subst C;rw[t]at l;rw[j.1]at n;rw[u.1]at l;have:=BY n;have:=BY l;omega;simp only[T]at k;have:s=θ x.2:=o!
 rw[<-this];exact w;rcases hr with⟨rfl,hr⟩|⟨rfl,hr⟩;exact BF (AB ⟨λd=>(by cases d),λh=>O! h.2.2.2.2.2.1 hr⟩);apply Ay;have e:=AY (x:=T x.2-1) i!;rw[e];refine AA (AI i! i!) λK F=>AB ?_;have g:=F.1;have D_:(T x.2-1).toNat=θ x.2-1:=i!
 rw[D_]at g;rw[K!];refine⟨λm=>⟨o!,o!,o!,o!,f,hr,λa j=>?_⟩,λh=>h.2.2.2.2.2.2 K g⟩;rw[g]at j;have:=BY j;omega
def BI(i:Y)(l:S Y):Prop:=1<=W l/\W l<=16/\l[0]?=Z 0/\Ris l (W l)/\∀a,l[W l-1]?=Z a->a<i
def BI.mono{i}{l}(h:BI i l):BI (i+1) l:=⟨h.1,h.2.1,h.2.2.1,h.2.2.2.1,λa b=>by have:=h.2.2.2.2 a b;omega⟩
def BI.push{i}{l m:S Y}(h:BI i l)(u:W l<16)(r:m=l++[i]):BI (i+1) m:=by
 subst r;obtain⟨s,t,n,o,p⟩:=h;have g:(l++[i]).length=W l+1:=q!
 refine⟨o!,o!,?_,λk a b q c d=>?_,λa c=>?_⟩;rw[CY o!];exact n;rw[g]at q;rw[CY o!]at c;by_cases f:k+1<W l;rw[CY f]at d;exact o k a b o! c d;have j:k=W l-1:=o!
 subst j;rw[Cn o!]at d;have e:W l-1+1-W l=0:=o!
 rw[e]at d;simp at d;have:=p a c;omega;rw[g]at c;rw[Cn o!]at c;have e:W l+1-1-W l=0:=o!
 rw[e]at c;simp at c;omega
def ACu{b}{x:Y}(h:CX b)(d:1<=x/\x<=64):An (Lx b x) λr=>CX r.2/\BD x r.1:=by
 unfold Lx;refine AA (P:=λr=>CX r.2/\BD x r.1) ?_ λr hr=>AB hr;refine AW (λs=>1<=s.1/\s.1<=x/\BI s.1 s.2.1/\CX s.2.2) (λs=>(x-s.1).toNat) ⟨Ae _,d.1,⟨q!,q!,q!,λi a b q=>O! q w!,λa o=>by simp at o;omega⟩,h⟩ (λs n=>?_);obtain⟨u,v,c,g⟩:=n;unfold TC;have e:=AY (x:=s.1+1);rw[e];refine AC (λp=>?_) (λp=>AB ⟨g,?_⟩);refine AA (Ah g g!) λw f=>AO (λ_=>?_) (y? ⟨⟨d!,d!,c.mono,f.1⟩,d!⟩);refine AA (P:=λl=>BI (s.1+1) l) ?_ λz m=>AB ⟨⟨d!,d!,m,f.1⟩,d!⟩;refine AC (λt=>?_) (y? c.mono);simp only[T]at t;exact AA (AZ w!) λy k=>AB (c.push o! k.1);have j:s.1=x:=o!
 rw[j]at c;exact⟨d.1,d.2,c.1,c.2.1,c.2.2.1,c.2.2.2.1,c.2.2.2.2⟩
def FR(l:S Am)(m n:Y):Prop:=(∀(i:Q)(f:Am),(i:Y)<n->l[i]?=Z f->0<f.2.1/\f.2.1<m)/\∀(i:Q)(f g:Am),(i:Y)+1<n->l[i]?=Z f->l[i+1]?=Z g->f.2.1<g.2.1
def VB(a:AJ):Prop:=BD a.2.1 a.1/\1<=a.2.2.2.1/\a.2.2.2.1<=1099511627777/\1<=a.2.2.2.2/\a.2.2.2.2<=1073741825/\W a.2.2.1<=256/\FR a.2.2.1 a.2.2.2.2 (W a.2.2.1)
theorem O7{x:AJ}:An (Cv x) λr=>r=ζ↔VB x:=by
 unfold Cv;refine AA nv λU w=>AP (λj=>AB ⟨λb=>(by cases b),λh=>(by rw[w.2 h.1]at j;cases j)⟩) (λj=>?_);have H:=w.1 j;refine AC (λc=>AB ⟨λb=>(by cases b),λh=>(by have:=h.2.1;omega)⟩) (λN=>AC (λc=>AB ⟨λb=>(by cases b),λh=>(by have:=h.2.2.1;omega)⟩) (λO=>AC (λc=>AB ⟨λb=>(by cases b),λh=>(by have:=h.2.2.2.1;omega)⟩) (λQ=>AC (λc=>AB ⟨λb=>(by cases b),λh=>(by have:=h.2.2.2.2.1;omega)⟩) (λR=>AC (λc=>AB ⟨λb=>(by cases b),λh=>(by have:=h.2.2.2.2.2.1;simp only[len]at c;omega)⟩) (λA=>?_)))));simp only[len]at A;refine AA (P:=λr=>(r=.inl η/\¬FR x.2.2.1 x.2.2.2.2 (θ x.2.2.1))\/(r=.inr ()/\FR x.2.2.1 x.2.2.2.2 (θ x.2.2.1))) ?_ λr hr=>?_;refine AW (λ(s:Y×Y)=>0<=s.2/\s.2<=θ x.2.2.1/\FR x.2.2.1 x.2.2.2.2 s.2/\0<=s.1/\(s.2=0->s.1=0)/\∀f,0<s.2->x.2.2.1[(s.2-1).toNat]?=δ f->f.2.1=s.1) (λ(s:Y×Y)=>((θ x.2.2.1:Y)-s.2).toNat) ⟨Ae _,d!,⟨λi f k=>O! k d!,λi f g k=>O! k d!⟩,Ae _,λ_=>rfl,λf d=>O! d d!⟩ (λs G=>?_);obtain⟨q,S,t,T,L,z⟩:=G;unfold Js;have e:=AY (x:=s.2+1);rw[e];refine AC (λj=>?_) (λj=>AB (.inr ⟨rfl,?_⟩));simp only[len]at j;refine AA (AI q j) λu D_=>?_;have a:=D_.1;refine AC (λJ=>AB (.inl ⟨rfl,λn=>?_⟩)) (λK=>?_);by_cases b:s.2=0;have:=(n.1 s.2.toNat u o! a).1;have:=L b;omega;obtain⟨f,d⟩:∃f,x.2.2.1[(s.2-1).toNat]?=δ f:=⟨_,Au o!⟩
 have m:(s.2-1).toNat+1=s.2.toNat:=o!
 have:=n.2 (s.2-1).toNat f u o! d (by rw[m];exact a);have:=z f o! d;omega;refine AA (AI q j) λv E_=>?_;have B:v=u:=by have:=E_.1;rw[a]at this;exact(BY this).symm
 subst B;refine AC (λI=>AB (.inl ⟨rfl,λn=>?_⟩)) (λy=>?_);have:=(n.1 s.2.toNat v o! a).2;omega;refine AA (AI q j) λM F=>AB ?_;have C:M=v:=by have:=F.1;rw[a]at this;exact(BY this).symm
 subst C;refine⟨⟨d!,d!,⟨λi f k d=>?_,λi f g k d p=>?_⟩,d!,λb=>O! b d!,λf _ d=>?_⟩,d!⟩;dsimp only at k;by_cases l:(i:Y)<s.2;exact t.1 i f l d;have o:i=s.2.toNat:=o!
 subst o;rw[a]at d;have:=BY d;subst this;exact o!;dsimp only at k;by_cases l:(i:Y)+1<s.2;exact t.2 i f g l d p;have o:i=(s.2-1).toNat:=o!
 have m:i+1=s.2.toNat:=o!
 rw[m,a]at p;have:=BY p;subst this;rw[o]at d;have:=z f o! d;omega;dsimp only at d⊢;have m:(s.2+1-1).toNat=s.2.toNat:=o!
 rw[m,a]at d;have:=BY d;rw[this];simp only[len]at j;have:s.2=θ x.2.2.1:=o!
 rw[<-this];exact t;rcases hr with⟨rfl,hr⟩|⟨rfl,hr⟩;exact BF (AB ⟨λb=>(by cases b),λh=>O! h.2.2.2.2.2.2 hr⟩);exact Ay (AB ⟨λ_=>⟨H,o!,o!,o!,o!,o!,hr⟩,λ_=>rfl⟩)
def qu{x}:An (IP x) λr=>r=E↔0<=x/\x<64:=by
 unfold IP;exact x!
theorem eP{x}:An (OW x) λr=>r=E↔PJ x:=by
 unfold OW PJ
 exact x!
def LL{x}:An (OY x) λr=>r=E↔0<=x.1/\x.1<x.2.1:=by
 unfold OY;exact x!
def um{x}:An (M1 x) λr=>r=E↔x=Qj:=by grind[M1,Qj,AB,Prod.ext_iff]
def pS{x}:An (Gc x) λr=>r=E:=by grind[Gc,AB]
def pT{x}:An (Tg x) λr=>r=E↔1<=x.2.2.2.2.2.1/\x.2.2.2.2.2.1<=x.2.2.2.1:=by
 unfold Tg;exact x!
def pU{x}:An (Th x) λr=>r=E↔0<=x.1/\x.1<64/\x.2=Qj.2:=by
 unfold Th Qj;have⟨a,b,⟨c,d⟩,e,f⟩:=x;refine AK (λg=>?_) (λg=>AB ?_);refine AC (λh=>AB ?_) (λh=>AB ?_);simp at g;simp[g,h];try omega
 simp;try omega
 grind[Prod.ext_iff]
theorem Kj{x}:An (Gb x) λr=>MZ x->r=E:=by
 unfold Gb;refine AC (λi=>AB λh=>?_) (λs=>?_);have:=h.1;omega;refine AC (λi=>AB λh=>?_) (λt=>?_);have:=h.2.1;omega;refine AC (λi=>AB λh=>?_) (λu=>?_);have:=h.2.2.2.2.2.2.2.2;unfold Vy at this;omega;refine AC (λi=>AB λh=>?_) (λv=>?_);have:=h.2.2.2.2.2.2.2.2;unfold Vy at this;omega;refine AA LL λw j=>AP (λi=>AB λh=>?_) (λn=>?_);rw[j.2 ⟨h.2.2.1,h.2.2.2.1⟩]at i;cases i;refine AA LL λy k=>AP (λi=>AB λh=>?_) (λo=>?_);rw[k.2 ⟨h.2.2.2.2.1,h.2.2.2.2.2.1⟩]at i;cases i;refine AA LL λz l=>AP (λi=>AB λh=>?_) (λp=>?_);rw[l.2 ⟨h.2.2.2.2.2.2.1,h.2.2.2.2.2.2.2.1⟩]at i;cases i;refine An.mono (P:=λr=>Vy x->r=E) ?_ λr h q=>h q.2.2.2.2.2.2.2.2;clear j k l n o p;have⟨a,b,c,d,e,f,g,m⟩:=x;unfold Vy;dsimp only at*;refine AC (O! · o!) (λk0=>?_);exact x!
def jS{x}:An (Cm x) λr=>r=wi (wi (x.1+T x.2.1)-1):=by grind[Cm,AB]
theorem GH{x:Ac}(h:Dh x):An (Ip x) λr=>r=true:=by
 have⟨a1,a2,a3,a4,a5,a6⟩:=id h;unfold Ip;refine AC (λa=>absurd a (by omega)) (λ_=>?_);refine AC (λa=>absurd a (by omega)) (λ_=>?_);refine AC (λa=>absurd a (by simp[T];omega)) (λ_=>?_);rw[(AY (x:=x.1-1) (by omega))];refine AC (λa=>absurd a (by omega)) (λ_=>?_);refine AA jS λf b=>?_;rw[h.last]at b;refine AC (λa=>absurd a (by omega)) (λ_=>?_);refine AA (P:=λr=> ∃u,r= .inr u) ?_ λr hr=>?_
 ·refine AW (λ(s:Y)=>0<=s/\s<=x.2.1.length) (λ(s:Y)=>((x.2.1.length:Y)-s).toNat) ⟨Ae _,by omega⟩ (λs c=>?_);have⟨d,e⟩:=c;unfold Y8;refine AC (λa=>?_) (λ_=>AB ⟨_,rfl⟩);grind[AA,AI,AY,AL,Kj,AP,AB]
 ·grind[Ay,AB]
def Oa{x}(h:Dh x):An (OZ x) λr=>r=x.1+W x.2.1-1:=by unfold OZ;refine AA (GH h) λv c=>AP (λb=>?_) (λ_=>?_);rw[c]at b;cases b;refine AA jS λd a=>AB ?_;rw[h.last]at a;exact a
theorem EO{x:AJ}(h:VB x):An (Gk x) λr=>r=true:=by
 obtain⟨⟨L,M,N,O,p,t,v⟩,a1,a2,a3,a4,a5,a6⟩:=id h;unfold Gk;refine AC (λa=>absurd a (by omega)) (λ_=>?_);refine AC (λa=>absurd a (by omega)) (λ_=>?_);refine AC (λa=>absurd a (by simp only[T];omega)) (λ_=>?_);refine AC (λa=>absurd a (by simp only[T];omega)) (λ_=>?_);refine AA (AI (Ae _) (by omega)) λQ B=>?_;have b:=B.1;rw[show((0:Y).toNat)=0 from rfl,p]at b;injection b with b;refine AL (λa=>absurd b.symm a) (λ_=>?_);have w:=AY (x:=T x.1-1) (by simp only[T];omega);rw[w];refine AA (AI (by simp only[T];omega) (by simp only[T];omega)) λI C=>?_;have c:=C.1;have y:(T x.1-1).toNat=x.1.length-1:=by simp only[T];omega
 rw[y]at c;refine AC (λa=>absurd a (by have:=v I c;omega)) (λ_=>?_);refine AA (P:=λr=> ∃u,r= .inr u) ?_ λr hr=>?_
 ·refine AW (λ(s:Y)=>1<=s/\s<=x.1.length) (λ(s:Y)=>((x.1.length:Y)-s).toNat) ⟨Ae _,by omega⟩ (λs i=>?_);obtain⟨o,F⟩:=i;unfold X8;refine AC (λa=>?_) (λ_=>AB ⟨_,rfl⟩);simp only[T]at a;have z:=AY (x:=s-1) (by omega);have e:=AY (x:=s+1) (by omega);rw[z,e];refine AA (AI (by omega) (by omega)) λJ D_=>?_;refine AA (AI (by omega) a) λK E_=>?_
  have q:=t (s-1).toNat J K (by omega) D_.1 (by have:(s-1).toNat+1=s.toNat:=(by omega);rw[this];exact E_.1)
  refine AC (λa=>absurd a (by omega)) (λ_=>AB ⟨⟨by omega,by omega⟩,by omega⟩)
 ·obtain⟨u,rfl⟩:=hr;refine Ay ?_;refine AC (λa=>absurd a (by omega)) (λ_=>?_);refine AC (λa=>absurd a (by omega)) (λ_=>?_);refine AC (λa=>absurd a (by omega)) (λ_=>?_);refine AC (λa=>absurd a (by omega)) (λ_=>?_);refine AC (λa=>absurd a (by simp only[T];omega)) (λ_=>?_);refine AA (P:=λr=> ∃u,r= .inr u) ?_ λr hr=>?_
  ·refine AW (λ(s:Y×Y)=>0<=s.2/\s.2<=x.2.2.1.length/\(s.2=0->s.1=0)/\ ∀f:Am,0<s.2->x.2.2.1[(s.2-1).toNat]? =some f->s.1=f.2.1) (λ(s:Y×Y)=>((x.2.2.1.length:Y)-s.2).toNat) ⟨Ae _,by dsimp only;omega,λ_=>rfl,λf m=>by dsimp only at m;omega⟩ (λs i=>?_);obtain⟨o,F,G,H⟩:=i;unfold X9;refine AC (λa=>?_) (λ_=>AB ⟨_,rfl⟩);simp only[T]at a;have e:=AY (x:=s.2+1) (by omega);rw[e];refine AA (AI o a) λl g=>?_;have q1:=a6.1 s.2.toNat l (by omega) g.1;have q2:s.1<l.2.1:=by
    by_cases k:s.2=0
    ·rw[G k];exact q1.1
    ·have j:(s.2-1).toNat<x.2.2.1.length:=by omega
     have n:x.2.2.1[(s.2-1).toNat]? =some x.2.2.1[(s.2-1).toNat]:=Au j
     have:=a6.2 (s.2-1).toNat _ l (by omega) n (by have:(s.2-1).toNat+1=s.2.toNat:=(by omega);rw[this];exact g.1)
     rw[H _ (by omega) n];exact this
   refine AC (λa=>absurd a (by omega)) (λ_=>?_);refine AC (λa=>absurd a (by have:=q1.2;omega)) (λ_=>AB ⟨⟨by dsimp only;omega,by dsimp only;omega,λk=>?_,λf m d=>?_⟩,by dsimp only;omega⟩)
   ·dsimp only at k;omega
   ·dsimp only at d⊢;have A:(s.2+1-1).toNat=s.2.toNat:=by omega
    rw[A,g.1]at d;injection d with d;rw[d]
  ·obtain⟨u,rfl⟩:=hr;exact Ay (AB rfl)
def aW{x:AJ×Ac×Y×Y}(h:VB x.1)(c:Dh x.2.1)(e:0<=x.2.2.1/\x.2.2.1<x.1.2.1/\0<=x.2.2.2):An (QD x) λr=>r=0:=by unfold QD;refine AA (EO h) λv d=>AP (λa=>?_) (λ_=>?_);rw[d]at a;cases a;refine AA (GH c) λf b=>AP (λa=>?_) (λ_=>?_);rw[b]at a;cases a;refine AC (O! · o!) (λ_=>AC (O! · o!) (λ_=>AC (O! · o!) (y? rfl)))
def cU{x p}{c}{k:Q}(h:CS x p c)(o:W x<=1099511627776)(q:1<=k)(m:k<=8):An (CD c (k:Y)) λr=>CS x (p++C4 r.1 k) r.2/\(r.2.2.2=0->ck k r.1)/\(c.2.2≠0->r=(0,c)):=by obtain⟨s,i,e⟩:=c;obtain⟨j,l⟩:=h;subst j;refine AL (λd=>AB ⟨⟨rfl,λb=>O! b d⟩,λb=>O! b d,λ_=>rfl⟩) (λd=>?_);subst d;obtain⟨a,hr,n⟩:=l rfl;subst hr n;rw[Aa]at o;rw[YV o! o! o!];by_cases g:(k:Y)<=W a;rw[C! g,AD,CR];obtain⟨q1,q2⟩:=tf (t:=a) (k:=k) o! m;refine AB ⟨⟨rfl,λ_=>⟨a.drop k,?_,?_⟩⟩,λ_=>q1,λf=>O! rfl f⟩;simp_all;dsimp only;rw[AY,Aa,Az];omega;rw[D! g,AD];exact AB ⟨⟨rfl,λb=>O! (show(5:Y)=0 from b) g!⟩,λb=>O! (show(5:Y)=0 from b) g!,λf=>O! rfl f⟩
def AFZ{x p}{c}{n:Y}(h:CS x p c)(l:W x<=1099511627776)(hn:c.2.2=0->0<=n/\n<4294967296):An (FH c n) λr=>CS x (p++r.1) r.2/\(r.2.2.2=0->(W r.1:Y)=n/\c.2.2=0):=by
 obtain⟨s,f,e⟩:=c;obtain⟨g,i⟩:=h;subst g;unfold FH;by_cases d:e=0;subst d;obtain⟨a,hr,j⟩:=i rfl;obtain⟨o,t⟩:=hn rfl;subst hr j;obtain⟨m,rfl⟩:=EG o;rw[Aa]at l;rw[show wi (((p++a).length:Y)-(W p:Y))=W a by rw[Aa,AY];omega];by_cases q:(m:Y)<=W a;rw[F! o!,A!,AD,show((0:Y) !=0)=X by decide,A!];have k:R4 (p++a) (wi (wi ((W p:Y)+(m:Y))-(m:Y))) (wi ((W p:Y)+(m:Y)))=Z (a.take m):=by rw[AY (x:=(W p:Y)+(m:Y)),AY];unfold R4;rw[C! k!,show((W p:Y)+(m:Y)-(m:Y)).toNat=W p by omega,Rn,show((W p:Y)+(m:Y)).toNat-W p=m by omega]
 rw[k,AD];refine AB ⟨⟨rfl,λ_=>⟨a.drop m,?_,?_⟩⟩,λ_=>⟨?_,k!⟩⟩;simp_all;dsimp only;rw[AY,Aa,BP];omega;grind;rw[G! o!,B!,AD,show((5:Y) !=0)=E by decide,B!];exact AB ⟨⟨rfl,λb=>O! (show(5:Y)=0 from b) g!⟩,λb=>O! (show(5:Y)=0 from b) g!⟩;rw[beq_false_of_ne d,A!,bne_iff_ne.2 d,B!];exact AB ⟨⟨rfl,λb=>O! b d⟩,λb=>O! b d⟩
def AFX{x p}{c}(h:CS x p c)(j:W x<=1099511627776):An (FG c ()) λr=>CS x (p++VL r.1) r.2/\(r.2.2.2=0->HA r.1):=by
 refine AA (cU (k:=1) h j g! g!) λv o=>?_;obtain⟨⟨g,l⟩,s,z⟩:=o;refine AL (λd=>AB ⟨⟨g,λa=>O! a d⟩,λa=>O! a d⟩) (λd=>?_);obtain⟨f,hr,i⟩:=l d;have y:=(s d).1 g!;refine AO (λb=>AB ⟨⟨g,λ_=>⟨f,?_,?_⟩⟩,λ_=>⟨BV _,.inr rfl⟩⟩) (λb=>?_);dsimp only;rw[b]at hr;exact hr;dsimp only;rw[b]at i;exact i;refine AC (y? ⟨⟨g,λa=>O! (show(4:Y)=0 from a) g!⟩,λa=>O! (show(4:Y)=0 from a) g!⟩) (λn=>AA (AFZ (x:=x) (p:=p++C4 v.1 1) ⟨g,l⟩ j (λ_=>o!)) λw q=>AB ?_);obtain⟨⟨t,A⟩,u⟩:=q;refine⟨⟨t,λa=>?_⟩,λa=>?_⟩;dsimp only at a⊢;obtain⟨m,_⟩:=u a;have e:VL (E,w.1)=C4 v.1 1++w.1:=by unfold VL;rw[B!,m]
 grind;dsimp only at a⊢;exact⟨k!,.inl rfl⟩
def Zd{x p a:Bd}{n}{k}(c:x=p++(C4 n k++a))(f:W x<=1099511627776)(e:1<=k)(d:k<=8)(hn:ck k n):CD (x,(W p:Y),0) (k:Y)=Z (n,x,((p++C4 n k).length:Y),0):=by
 have b:=E! W c;simp only[Aa,Az]at b;unfold CD;dsimp only;rw[show((0:Y) !=0)=X by decide,A!];conv=>lhs;arg 1;rw[c]
 rw[YV k! o! o!,C! k!,AD,CR,Fi (Az _ _),rV d hn];rw[Aa,Az];rw[AY];rfl
def AFY{x p w a:Bd}(c:x=p++(w++a))(e:W x<=1099511627776):FH (x,(W p:Y),0) (W w:Y)=Z (w,x,((p++w).length:Y),0):=by
 have b:=E! W c;simp at b;unfold FH;rw[show τ (wi ((W x:Y)-(W p:Y))<(W w:Y))=X from F! (by rw[AY];omega),A!];rw[AD,show((0:Y) !=0)=X by decide,A!];dsimp only;have d:R4 x (wi (wi ((W p:Y)+(W w:Y))-(W w:Y))) (wi ((W p:Y)+(W w:Y)))=Z w:=by rw[AY (x:=(W p:Y)+(W w:Y)),AY];unfold R4;rw[C! o!,c,show((W p:Y)+(W w:Y)-(W w:Y)).toNat=W p by omega,Rn,show((W p:Y)+(W w:Y)).toNat-W p=W w by omega,Yr]
 rw[d,AD,AY,Aa];rfl
def AFW{x p a:Bd}{c}(e:x=p++(VL c++a))(f:W x<=1099511627776)(j:HA c):FG (x,(W p:Y),0) ()=Z (c,x,((p++VL c).length:Y),0):=by
 obtain⟨b,d⟩:=c;obtain⟨h,i⟩:=j;dsimp only at h i;unfold FG;cases b with
 |false=>
  have k:d=[]:=k!
  subst k;rw[show(1:Y)=((1:Q):Y)from rfl,Zd e f g! g! ⟨λ_=>g!,g!,g!⟩];rfl
 |true=>have g:VL (E,d)=C4 (W d:Y) 1++d:=rfl;rw[g,A3]at e;rw[g];rw[show(1:Y)=((1:Q):Y)from rfl,Zd e f g! g! ⟨λ_=>k!,o!⟩,AD];rw[show((0:Y) !=0)=X by decide,A!,show((W d:Y)==255)=X by grind,A!,F! o!,A!];rw[AFY (by rw[e,A3]) f,AD,A3]
def AJS{x:Bd}(a:W x<=1099511627776):An (Jy x) λr=>r.2=0->x=B3 r.1/\HA r.1.2.2.2.2.2.2.1.2.2.1/\HA r.1.2.2.2.2.2.2.1.2.2.2/\ck 4 (W r.1.2.2.2.2.2.2.2:Y)/\Gb r.1=Z ζ:=by
 unfold Jy;have I:CS x [] (x,0,0):=⟨rfl,λ_=>⟨x,rfl,rfl⟩⟩
 refine AA (cU (k:=8) I a g! g!) λO y=>AA (cU (k:=1) y.1 a g! g!) λP z=>AA (cU (k:=4) z.1 a g! g!) λQ A=>AA (cU (k:=8) A.1 a g! g!) λR B=>AA (cU (k:=8) B.1 a g! g!) λS C=>AA (cU (k:=8) C.1 a g! g!) λT D=>AA (cU (k:=4) D.1 a g! g!) λU E=>AA (cU (k:=1) E.1 a g! g!) λV F=>D7 (AFX F.1 a) λq M o=>D7 (AFX o.1 a) λs w p=>AA (cU (k:=4) p.1 a g! g!) λj b=>AA (AFZ (n:=j.1) b.1 a (λc=>?_)) λJ f=>?_;have:=(b.2.1 c).1 g!;rw[show(256:Y)^4=4294967296 by decide]at this;exact this;refine AL (λh=>AB λc=>O! c h) (λh=>AL (y? n!) (λG=>D7 (Kj) λK i _=>AP (y? n!) (λH=>AB λ_=>?_)));subst H;obtain⟨q11,d⟩:=f.2 h;have l:s.2.2.2=0:=UI λe=>by have:=b.2.2 e;rw[this]at d;exact e d
 have u:=p.2 l;have L:q.2.2.2=0:=UI λe=>by
  have:s=((X,[]),q.2):=by have:=w;unfold FG CD at this;rw[bne_iff_ne.2 e,B!,AD,bne_iff_ne.2 e,B!]at this;injection this with this;exact this.symm
  rw[this]at l;exact e l
 have t:=o.2 L;obtain⟨g,m,N⟩:=f.1.2 h;have hr:g=[]:=by simp only[len]at G;have v:=E! W m;rw[Aa]at v;exact D8 o!
 subst hr;refine⟨?_,t,u,?_,i⟩;rw[m];unfold B3;dsimp only;rw[q11];simp only[A3,B5,Dc];dsimp only;rw[q11];exact b.2.1 d
def AJR{e}(h:MZ e):Jy (B3 e)=Z (e,0):=by
 obtain⟨s,t,H,w,y,z,A,B,C,D,E⟩:=h.cells;have I:=S8 h;have g:ck 4 (W e.2.2.2.2.2.2.2:Y):=⟨λ_=>by rw[show(256:Y)^4=4294967296 by decide];omega,o!⟩
 have a:B3 e=[]++(C4 e.1 8++(C4 e.2.1 1++(C4 e.2.2.1 4++(C4 e.2.2.2.1 8++(C4 e.2.2.2.2.1 8++(C4 e.2.2.2.2.2.1 8++(C4 e.2.2.2.2.2.2.1.1 4++(C4 e.2.2.2.2.2.2.1.2.1 1++
 (VL e.2.2.2.2.2.2.1.2.2.1++(VL e.2.2.2.2.2.2.1.2.2.2++(C4 (W e.2.2.2.2.2.2.2:Y) 4++(e.2.2.2.2.2.2.2++[])))))))))))):=by rw[Dc];rfl
 generalize B3 e=x at*;have i:CD (x,((0:Y)),0) 8=_:=Zd (p:=[]) (k:=8) a o! g! g! w;rw[B5]at i;rw[B5]at a;have j:=Zd (k:=1) a o! g! g! y;rw[<-A3]at a;have l:=Zd (k:=4) a o! g! g! z;rw[<-A3]at a;have m:=Zd (k:=8) a o! g! g! A;rw[<-A3]at a;have n:=Zd (k:=8) a o! g! g! B;rw[<-A3]at a;have o:=Zd (k:=8) a o! g! g! C;rw[<-A3]at a;have q:=Zd (k:=4) a o! g! g! D;rw[<-A3]at a;have r:=Zd (k:=1) a o! g! g! E;rw[<-A3]at a;have F:=AFW a o! s;rw[<-A3]at a;have G:=AFW a o! t;rw[<-A3]at a;have c:=Zd (k:=4) a o! g! g! g;rw[<-A3]at a;have d:=AFY a o!;rw[Dc]at a;rw[<-a]at d;unfold Jy;rw[i,AD];rw[show((1:Q):Y)=1 from rfl]at j r;rw[show((4:Q):Y)=4 from rfl]at l q c;rw[show((8:Q):Y)=8 from rfl]at m n o;rw[j,AD,l,AD,m,AD,n,AD,o,AD,q,AD,r,AD,F,AD,G,AD,c,AD,d,AD];obtain⟨b,u,v⟩:=Kj (x:=e);have f:b=ζ:=v h;subst f;dsimp only[T];rw[show((0:Y) !=0)=X by decide,A!,H!,A!];rw[show(e.1,e.2.1,e.2.2.1,e.2.2.2.1,e.2.2.2.2.1,e.2.2.2.2.2.1,(e.2.2.2.2.2.2.1.1,e.2.2.2.2.2.2.1.2.1,e.2.2.2.2.2.2.1.2.2.1,e.2.2.2.2.2.2.1.2.2.2),e.2.2.2.2.2.2.2)=e from rfl,u,AD,Bn,A!]
end Go.Pm
