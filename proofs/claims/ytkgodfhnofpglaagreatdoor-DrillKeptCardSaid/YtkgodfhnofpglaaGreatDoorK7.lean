/- Texts of wip, joined and shortened by wip/tools/pack.py; nothing is assumed. -/
import Derived.Test.YtkgodfhnofpglaaGreatDoorK6
import Derived.KernelRfl
noncomputable section
set_option linter.all false
set_option maxHeartbeats 400000
open Option renaming some->D
open List renaming length->Z
open Go renaming Ψ->E
open Bool renaming false->X
open Bool renaming true->Y
open Go renaming Ω->V
open Option renaming some->δ,bind->σ
open Bool renaming true->ζ,false->η
open List renaming length->θ,replicate->ς
open Go.IntKind renaming wrap->ι
open BitVec renaming ofInt->κ,toNat->π
open Sum renaming elim->ν
open Int renaming toNat->ο
open Decidable renaming decide->τ
open _root_ renaming Int->A,Nat->W,True->z
open Go.Ab renaming len->U
namespace Go.Pm
open Go Go.Ab
def gK(c:BitVec 32):BitVec 32:=if c.getLsbD 0=Y then(c>>>1)^^^2197175160#32 else c>>>1
def qY:W->BitVec 32->BitVec 32
 |0,c=>c
 |n+1,c=>gK (qY n c)
def zt(c:BitVec 32)(b:UInt8):BitVec 32:=qY 8 (c^^^BitVec.ofNat 32 b.toNat)
def ALG(s:Bc):BitVec 32:=4294967295#32^^^s.foldl zt 4294967295#32
def W8(s:Bc):A:=((ALG s).toNat:A)
def AEN(a b:BitVec 32):gK (a^^^b)=gK a^^^gK b:=by
 unfold gK;rw[BitVec.getLsbD_xor,BitVec.ushiftRight_xor_distrib];cases a.getLsbD 0<;>cases b.getLsbD 0<;>simp;grind;grind;have:a>>>1^^^2197175160#32^^^(b>>>1^^^2197175160#32)=(a>>>1^^^b>>>1)^^^(2197175160#32^^^2197175160#32):=by ac_rfl
 grind
theorem AC3:∀n(a b:BitVec 32),qY n (a^^^b)=qY n a^^^qY n b
 |0,a,b=>rfl
 |n+1,a,b=>by rw[qY,qY,qY,AC3 n,AEN]
def im(s:Bc):0<=W8 s/\W8 s<4294967296:=by unfold W8;omega
theorem bvI(c:BitVec 32):κ 32 (c.toNat:A)=c:=q!
theorem w32(c:BitVec 32):ι .u32 (c.toNat:A)=(c.toNat:A):=by rw[xz];omega
theorem fdN(c:BitVec 32)(k:W)(a:k<=32):Int.fdiv (c.toNat:A) (2^(min (ο (k:A)) 32))=((c>>>k).toNat:A):=by rw[show min (ο (k:A)) 32=k by omega,ml _ (by exact_mod_cast Bh (2^k)),BitVec.toNat_ushiftRight,Nat.shiftRight_eq_div_pow];grind
theorem fd1(c:BitVec 32):Int.fdiv (c.toNat:A) (2^(min (ο 1) 32))=((c>>>1).toNat:A):=by grind[fdN]
def fd4(c:BitVec 32):Int.fdiv (c.toNat:A) (2^(min (ο 4) 32))=((c>>>4).toNat:A):=by grind[fdN]
theorem AHc(c:BitVec 32):((ι .u32 (((π ((κ 32 (c.toNat:A))&&&(κ 32 1))):W):A))==1)=c.getLsbD 0:=by grind[bvI,w32,BitVec.toNat_and,κ]
def AIg(c:BitVec 32):(bif ((ι .u32 (((π ((κ 32 (c.toNat:A))&&&(κ 32 1))):W):A))==1)then
     D (ι .u32 (((π ((κ 32 (Int.fdiv (c.toNat:A) (2^(min (ο 1) 32))))^^^(κ 32 2197175160))):W):A))
    else
    D (Int.fdiv (c.toNat:A) (2^(min (ο 1) 32))):V A)=D ((gK c).toNat:A):=by grind[AHc,fd1,bvI,w32,gK]
def AJp(c:BitVec 32):Ad IG ((c.toNat:A),0)=D ((qY 8 c).toNat:A):=by
 have key:Ao (Ad IG ((c.toNat:A),0)) λr=>r=((qY 8 c).toNat:A):=by refine AW (λs=>0<=s.2/\s.2<=8/\s.1=((qY s.2.toNat c).toNat:A)) (λs=>(8-s.2).toNat) ⟨AY _,d!,rfl⟩ ?_;rintro⟨g,a⟩ ⟨e,f,b⟩;dsimp only at e f b;subst b;refine AC (λd=>?_) (λd=>AB (by rw[show a.toNat=8 by omega]));rw[AIg,AD,AX];refine AB ⟨⟨o!,o!,?_⟩,o!⟩;rw[show(a+1).toNat=a.toNat+1 by omega];rfl
 obtain⟨r,hr,rfl⟩:=key;exact hr
def AE6(c:BitVec 32)(b:UInt8):ι .u32 (((π ((κ 32 (c.toNat:A))^^^(κ 32 (ι .u32 (b.toNat:A))))):W):A)=((c^^^BitVec.ofNat 32 b.toNat).toNat:A):=by grind[ι,xz,bvI,w32]
def AGQ{x:Bc}{i:A}(a:0<=i)(c:i<Z x):∃b:UInt8,six x i=D (b.toNat:A)/\x.take (i+1).toNat=x.take (ο i)++[b]:=by obtain⟨k,rfl⟩:=FY a;refine⟨x[k],?_,?_⟩;grind[six];simp_all
def yG{x:Bc}(h:θ x<=2199023255552):E0 x=δ (W8 x):=by
 have key:Ao (Ad (IF x) (4294967295,0)) λr=>r=((x.foldl zt 4294967295#32).toNat:Int):=by refine AW (λ(s:Int×Int)=>0<=s.2/\s.2<=θ x/\s.1=(((x.take s.2.toNat).foldl zt 4294967295#32).toNat:Int)) (λs=>((θ x:Int)-s.2).toNat) ⟨AY _,d!,rfl⟩ ?_;rintro⟨i,j⟩ ⟨c,e,d⟩;dsimp only at c e d;subst d;unfold IF;simp only[len];refine AC (λa=>?_) (λa=>AB (by rw[BG o!]));have⟨b,f,g⟩:=AGQ c a;rw[f,AD,AE6,AJp,AD,AX];refine AB ⟨⟨o!,o!,?_⟩,o!⟩;rw[g,mu];rfl
 obtain⟨r,hr,rfl⟩:=key;unfold E0;rw[hr,AD,bvI];rw[show(κ 32 (if(η=ζ)then(-1)else(if(η=ζ)then((2^(32-1))-1)else((2^32)-1))))=4294967295#32 by decide,w32];rfl
def ALM{d:BitVec 32}(b:d.getLsbD 0=X)(c:d.getLsbD 1=X)(f:d.getLsbD 2=X)(g:d.getLsbD 3=X):qY 4 d=d>>>4:=by
 have st:∀e:BitVec 32,e.getLsbD 0=X->gK e=e>>>1:=λe a=>by unfold gK;rw[D! (by rw[a];decide)]
 show gK (gK (gK (gK d)))=_;grind
def AJR(c:BitVec 32):(c>>>4)^^^qY 4 (c&&&15#32)=qY 4 c:=by
 have d:c=(c&&& ~~~15#32)^^^(c&&&15#32):=by apply wk;intro i a;rw[BitVec.getLsbD_xor,BitVec.getLsbD_and,BitVec.getLsbD_and,BitVec.getLsbD_not];grind
 have e:qY 4 (c&&& ~~~15#32)=c>>>4:=by
  have z:∀i,i<4->(c&&& ~~~15#32).getLsbD i=X:=λi a=>by
   have:i=0\/i=1\/i=2\/i=3:=o!
   grind
  rw[ALM (z 0 g!) (z 1 g!) (z 2 g!) (z 3 g!)];apply wk;intro i a;have b:(15#32).getLsbD (4+i)=X:=by show(15#32).toNat.testBit (4+i)=X;grind
  grind
 grind[AC3]
def AJl(c:BitVec 32):Ad MB ((c.toNat:A),0)=D ((qY 4 c).toNat:A):=by
 have key:Ao (Ad MB ((c.toNat:A),0)) λr=>r=((qY 4 c).toNat:A):=by refine AW (λs=>0<=s.2/\s.2<=4/\s.1=((qY s.2.toNat c).toNat:A)) (λs=>(4-s.2).toNat) ⟨AY _,d!,rfl⟩ ?_;rintro⟨g,a⟩ ⟨e,f,b⟩;dsimp only at e f b;subst b;refine AC (λd=>?_) (λd=>AB (by rw[show a.toNat=4 by omega]));rw[AIg,AD,AX];refine AB ⟨⟨o!,o!,?_⟩,o!⟩;rw[show(a+1).toNat=a.toNat+1 by omega];rfl
 obtain⟨r,hr,rfl⟩:=key;exact hr
def AEf(t:Fin (15+1)->(Ty.int IntKind.u32).D):Prop:=∀j:Fin 16,t j=((qY 4 (BitVec.ofNat 32 j.val)).toNat:A)
def AKh:Ao (Lh ()) AEf:=by refine AA (P:=AEf) ?_ λr hr=>AB hr;refine AW (λs=>0<=s.1/\s.1<=16/\∀j:Fin 16,(j.val:A)<s.1->s.2 j=((qY 4 (BitVec.ofNat 32 j.val)).toNat:A)) (λs=>(16-s.1).toNat) ⟨AY _,g!,λj b=>O! b d!⟩ ?_;rintro⟨h,i⟩ ⟨c,g,d⟩;refine AC (λa=>?_) (λa=>AB λj=>d j (by have:=j.isLt;omega));obtain⟨k,rfl⟩:=FY c;rw[(by grind[xz,BitVec.toNat_ofNat]:ι .u32 (k:A)=((BitVec.ofNat 32 k).toNat:A)),AJl,AD];refine AA (Ca o! o!) λl e=>AA (Ca o! o!) λm f=>AB ?_;grind[AX,Xw]
def AGb{t:Fin (15+1)->(Ty.int IntKind.u32).D}(b:AEf t)(c:BitVec 32):F4 t (ι .u32 (((π ((κ 32 (c.toNat:A))&&&(κ 32 15))):W):A))=D ((qY 4 (c&&&15#32)).toNat:A):=by
 rw[bvI,show κ 32 15=15#32 by decide,w32];have a:(c&&&15#32).toNat<16:=by exact Nat.lt_succ_of_le Nat.and_le_right
 unfold F4;rw[dif_pos o!];refine E! D ((b ⟨(c&&&15#32).toNat,a⟩).trans ?_);grind
def AKR(c:BitVec 32):ι .u32 (((π ((κ 32 (Int.fdiv (c.toNat:A) (2^(min (ο 4) 32))))^^^(κ 32 ((qY 4 (c&&&15#32)).toNat:A)))):W):A)=((qY 4 c).toNat:A):=by rw[fd4,bvI,bvI,AJR,w32]
def AC2:∀m n c,qY m (qY n c)=qY (m+n) c
 |0,n,c=>by rw[qY,DQ]
 |m+1,n,c=>by rw[qY,AC2 m n,Nat.succ_add];rfl
def yr{x:Bc}(h:θ x<=2199023255552):PP x=δ (W8 x):=by
 unfold PP;have⟨t,f,a⟩:=AKh;rw[f,AD];have key:Ao (Ad (Vp x t) (4294967295,0)) λr=>r=((x.foldl zt 4294967295#32).toNat:Int):=by refine AW (λ(s:Int×Int)=>0<=s.2/\s.2<=θ x/\s.1=(((x.take s.2.toNat).foldl zt 4294967295#32).toNat:Int)) (λs=>((θ x:Int)-s.2).toNat) ⟨AY _,d!,rfl⟩ ?_;rintro⟨k,l⟩ ⟨d,g,e⟩;dsimp only at d g e;subst e;unfold Vp;simp only[len];refine AC (λc=>?_) (λc=>AB (by rw[BG o!]));have⟨b,i,j⟩:=AGQ d c;rw[i,AD,AE6,AGb a,AD,AD,AKR,AGb a,AD,AD,AKR,AX];refine AB ⟨⟨o!,o!,?_⟩,o!⟩;rw[j,mu,AC2];rfl
 obtain⟨r,hr,rfl⟩:=key;rw[hr,AD,bvI];rw[show(κ 32 (if(η=ζ)then(-1)else(if(η=ζ)then((2^(32-1))-1)else((2^32)-1))))=4294967295#32 by decide,w32];rfl
def lA(n:W):Bc:=ς n 0
def Xb(c:Co):Bc:=DE (if c.1=Y then(Z c.2:A)else 255) 1++(c.2++lA (12-Z c.2))
def cl(a:F5 16 Co)(i:W):Co:=(F4 a i).getD (X,[])
def Pq(a:F5 16 Co)(k:W):Bc:=(List.range k).flatMap λi=>Xb (cl a i)
def Ld(x:AV):Bc:=DE x.2.1 8++(DE x.1 4++(Pq x.2.2 16++lA 24))
def IB(x:AV):Bc:=Ld x++(DE (W8 (Ld x)) 4++DE x.2.1 8)
def oA{a}{i:W}(h:i<16):F4 a (i:A)=D (cl a i)/\cl a i=a ⟨i,h⟩:=by
 have e:F4 a (i:A)=D (a ⟨i,h⟩):=by unfold F4;rw[dif_pos o!];rfl
 unfold cl;rw[e];exact⟨rfl,rfl⟩
theorem Re(a:F5 16 Co)(k:W):Pq a (k+1)=Pq a k++Xb (cl a k):=by unfold Pq;rw[List.range_succ,Yu,IV,qv,D1]
def eu{c:Co}(h:Z c.2<=12):(Xb c).length=13:=by unfold Xb lA;rw[Ae,Ae,A0,GH];omega
def HP.cl{x}(h:HP x)(i:W):Ix (cl x.2.2 i):=by rcases Aw i 16 with a|a;rw[(oA a).2];exact(h.2.2.2.2 _).1;unfold Go.Pm.cl F4;rw[dif_neg o!];exact⟨g!,.inr rfl⟩
theorem JP{x:AV}(h:HP x):∀k:W,(Pq x.2.2 k).length=13*k
 |0=>rfl
 |k+1=>by rw[Re,Ae,JP h k,eu (h.cl k).1];omega
def G4{x}(h:HP x):(Ld x).length=244:=by unfold Ld lA;simp only[Ae,A0,JP h,GH]
theorem fB{x}(h:HP x):(IB x).length=256:=by unfold IB;simp only[Ae,A0,G4 h]
def Vi{x}:(IB x).take 8=DE x.2.1 8:=by unfold IB Ld;rw[A5,El (A0 _ _)]
def pj{x}(h:HP x):(IB x).drop 248=DE x.2.1 8:=by unfold IB;rw[<-A5,mr (by rw[Ae,G4 h,A0])]
def nw(n:W):Gp (ς n 0)=lA n:=by unfold Gp lA;rw[List.map_replicate];rfl
def zM{x:A}(h:0<=x/\x<=16777216):G6 x=D (lA (ο x)):=by unfold G6 Go.Ab.mk;rw[C! ⟨h.1,AY _,h.2⟩,AD,nw]
def pD{s:Bc}{n k:A}(h:Z s<=1099511627776)(a:1<=k/\k<=8):Ao (An (s,n,k)) λr=>r=s++DE n (ο k):=⟨_,HQ h a.1 a.2,rfl⟩
def uE{x}(h:HP x):Dv x=D 0:=by have⟨a,g,c⟩:=Mq (x:=x);have⟨b,i,d⟩:=Ot (x:=x);have e:a=Y:=c.2 ⟨h.1,h.2.1,h.2.2.1,h.2.2.2.1⟩;have f:b=Y:=d.2 h.2.2.2.2;unfold Dv;rw[g,e,AD,i,f];rfl
theorem Y3{x}(h:HP x):DH x=D (IB x,0):=by
 suffices g:Ao (DH x) λr=>r=(IB x,0) by obtain⟨r,hr,rfl⟩:=g;exact hr
 unfold DH;rw[uE h,AD];refine AK (O! rfl ·) λ_=>AA (pD g! g!) λL p=>AA (pD (by rw[p];simp[A0]) g!) λG z=>?_;have w:G=DE x.2.1 8++DE x.1 4:=by rw[z,p];rfl
 refine AA (P:=λr=>r=DE x.2.1 8++(DE x.1 4++Pq x.2.2 16)) ?_ λf d=>?_
 ·refine CE (λs=>0<=s.2/\s.2<=16/\s.1=DE x.2.1 8++(DE x.1 4++Pq x.2.2 s.2.toNat)) (λs=>(16-s.2).toNat) ⟨AY _,u!,by rw[w];simp[Pq]⟩ ?_;rintro⟨s,i⟩ ⟨u,C,g⟩;dsimp only at u C g;subst g;unfold Sd;dsimp only;refine AC (λb=>?_) (λb=>k? (by rw[show i.toNat=16 by omega]));have⟨t,K⟩:=oA (a:=x.2.2) (i:=i.toNat) o!;rw[IU u]at t;have b:=(h.cl i.toNat).1;simp only[t,AD,AX (x:=i+1)];have J:(DE x.2.1 8++(DE x.1 4++Pq x.2.2 i.toNat)).length<=300:=by simp only[Ae,A0,JP h];omega
  refine AA (P:=λv=>v=if(cl x.2.2 i.toNat).1=Y then((cl x.2.2 i.toNat).2.length:A)else 255) ?_ λM A_=>?_;exact AJ (λb=>AB (C! b).symm) (λb=>AB (D! (by rw[b];decide)).symm);refine AA (pD o! g!) λN q=>?_;have y:wi (12-U (cl x.2.2 i.toNat).2)=((12-(cl x.2.2 i.toNat).2.length:W):A):=by rw[AX i!];simp only[U];omega
  rw[y,zM o!,AD,C5];refine AA (Cb (by simp only[lA,GH];omega)) λn c=>?_;have D_:Z n<=24:=by rw[c.2];simp only[lA,GH];omega
  refine AA (Cb (by rw[q,Ae,A0];simp only[Int.reduceToNat];omega)) λF k=>y! ⟨d!,d!,?_⟩ d!
  dsimp only;rw[k.1,c.1,q,A_,show(i+1).toNat=i.toNat+1 by omega,Re];simp only[Xb,A5,Int.reduceToNat]
 have E:Z f=220:=by rw[d];simp only[Ae,A0,JP h]
 rw[show wi (244-U f)=24 by rw[AX i!];simp only[U];omega,zM g!,AD];refine AA (Cb (by simp only[lA,GH,Int.reduceToNat];omega)) λo l=>?_;have j:o=Ld x:=by rw[l.1,d];simp only[Ld,A5,Int.reduceToNat]
 rw[j,yG (by rw[G4 h];decide),AD];have B:=im (Ld x);rw[AX];refine AA (pD (by rw[G4 h];decide) g!) λH e=>AA (pD (by rw[e,Ae,G4 h,A0];decide) g!) λI m=>AB ?_;rw[m,e];simp only[IB,A5,Int.reduceToNat]
def ADf{c d}(e:Ix c)(f:Ix d)(h:Xb c=Xb d):c=d:=by obtain⟨g,l⟩:=c;obtain⟨i,m⟩:=d;obtain⟨j,b⟩:=M7 h (by rw[A0,A0]);have l1:=e.1;have l2:=f.1;dsimp only at l1 l2;have a:=bE (k:=1) g! ⟨λ_=>by dsimp only;split<;>omega,by dsimp only;split<;>omega,by dsimp only;split<;>omega⟩ ⟨λ_=>by dsimp only;split<;>omega,by dsimp only;split<;>omega,by dsimp only;split<;>omega⟩ j;dsimp only at a b;cases g<;>cases i;have:=e.2;have:=f.2;simp_all;exfalso;simp at a;omega;exfalso;simp at a;omega;simp at a;exact Dh rfl (M7 b o!).1
def uf{x y}(a:HP x)(b:HP y):∀k:W,Pq x.2.2 k=Pq y.2.2 k->∀i,i<k->cl x.2.2 i=cl y.2.2 i
 |0,_=>λi c=>O! c o!
 |k+1,h=>by rw[Re,Re]at h;obtain⟨d,e⟩:=M7 h (by rw[JP a,JP b]);intro i c;by_cases f:i=k;subst f;exact ADf (a.cl i) (b.cl i) e;exact uf a b k d i o!
theorem AFL{x y:AV}(a:HP x)(b:HP y)(h:IB x=IB y):x=y:=by obtain⟨h,_⟩:=M7 h (by rw[G4 a,G4 b]);obtain⟨c,h⟩:=M7 h (by rw[A0,A0]);obtain⟨d,h⟩:=M7 h (by rw[A0,A0]);obtain⟨e,_⟩:=M7 h (by rw[JP a,JP b]);have f:=a.1;have g:=a.2.1;have j:=a.2.2.1;have k:=a.2.2.2.1;have l:=b.1;have m:=b.2.1;have n:=b.2.2.1;have o:=b.2.2.2.1;refine Dh (bE (by decide) ⟨λ_=>by omega,by omega,by omega⟩ ⟨λ_=>by omega,by omega,by omega⟩ d) (Dh (bE (by decide) ⟨λ_=>by omega,by omega,by omega⟩ ⟨λ_=>by omega,by omega,by omega⟩ c) (funext λi=>?_));have:=uf a b 16 e i.val i.isLt;rw[(oA i.isLt).2,(oA i.isLt).2]at this;exact this
def vj{s:Bc}{n k:A}(h:Z s<=1099511627776)(a:1<=k/\k<=8):PO (s,n,k)=D (s++DE n (ο k)):=by grind[PO]
theorem ABz{n:A}(h:0<=n/\n<=8000):LW ([0],n)=D (lA (ο n)):=by unfold LW;dsimp only;rw[G! h.1,G! h.2];rfl
theorem ACA{n:A}{k:W}(hn:0<=n)(h:n<256^k)(a:n<9223372036854775808):rd (DE n k)=n:=by unfold rd;grind[tm,Int.emod_eq_of_lt,AX]
def AHk{b:Bc}{c:Co}(h:Z b<=1000)(i:Z c.2<=12):Kn b c=D (b++Xb c):=by
 suffices e:Ao (Kn b c) λr=>r=b++Xb c by obtain⟨r,hr,rfl⟩:=e;exact hr
 unfold Kn;refine AA (P:=λv=>v=if c.1=Y then(Z c.2:A)else 255) ?_ λj g=>?_;simp_all[AJ,AB];rw[vj o! g!,AD];refine AA (Cb (by rw[Ae,A0];simp[Int.reduceToNat];omega)) λk d=>?_;rw[AX b!,ABz b!,AD];rw[(by simp only[U];omega:(12-U c.2).toNat=12-Z c.2)];refine AA (Cb (by rw[d.2,Ae,A0];simp[lA,GH,Int.reduceToNat];omega)) λf a=>AB ?_;grind[Xb,t?,Int.reduceToNat]
def AAn{x:A}(h:0<=x/\x<64):ID x=D Y:=by grind[ID]
def AD9{x}(h:HP x):XS x=D Y:=by unfold XS;rw[AAn ⟨h.1,h.2.1⟩,AD,G! (show x.2.1>=0 from h.2.2.1),G! h.2.2.2.1];rfl
def AF2{x}(h:HP x):Vu x=D Y:=by
 suffices e:Ao (Vu x) λr=>r=Y by obtain⟨r,hr,rfl⟩:=e;exact hr
 unfold Vu;refine AA (P:=λr=>r=.inr ()) ?_ λr hr=>by rw[hr];exact Au (AB rfl)
 refine CE (λs=>0<=s/\s<=16) (λs=>(16-s).toNat) ⟨AY _,g!⟩ (λs d=>?_);have⟨g,k⟩:=d;unfold j9;refine AC (λa=>?_) (λ_=>k? rfl);have i:Ao (D (Step.next (wi (s+1))):V (Step A (Bool⊕Unit))) (Kj (λs=>0<=s/\s<=16) (λs=>(16-s).toNat) (16-s).toNat λr=>r=.inr ()):=by grind[AX,y!]
 refine AA (Ca g a) λv f=>?_;have b:=h.2.2.2.2 ⟨s.toNat,o!⟩;rw[<-f]at b;refine AC (λa=>O! a (by have:=b.1.1;simp[U];omega)) (λ_=>AP (λc=>?_) (λj=>?_));refine AK (λhn=>O! (b.1.2.resolve_left (by rw[c];decide)) hn) (λ_=>AJ (λa=>by rw[c]at a;cases a) (λ_=>i));simp_all[AJ,AT]
def nO{x}(h:HP x):Nn x=D (IB x,0):=by
 suffices c:Ao (Nn x) λr=>r=(IB x,0) by obtain⟨r,hr,rfl⟩:=c;exact hr
 unfold Nn;rw[AD9 h,AD,AF2 h,AD,Ce,A!,A!,vj g! g!,AD,vj (by rw[Cq,A0];decide) g!,AD];refine AA (P:=λr=>r=DE x.2.1 8++(DE x.1 4++Pq x.2.2 16)) ?_ λb g=>?_
 ·refine CE (λs=>0<=s.1/\s.1<=16/\s.2=DE x.2.1 8++(DE x.1 4++Pq x.2.2 s.1.toNat)) (λs=>(16-s.1).toNat) ⟨AY _,u!,by simp[Pq]⟩ ?_;rintro⟨i,s⟩ ⟨f,m,c⟩;dsimp only at f m c;subst c;unfold fV;dsimp only;refine AC (λk=>?_) (λk=>k? (by rw[show i.toNat=16 by omega]));have⟨e,o⟩:=oA (a:=x.2.2) (i:=i.toNat) o!;rw[IU f]at e;rw[e,AD,AHk (by simp[Ae,A0,JP h];omega) (h.cl i.toNat).1,AD,AX (x:=i+1)];refine y! ⟨d!,d!,?_⟩ d!
  dsimp only;rw[show(i+1).toNat=i.toNat+1 by omega,Re];simp[A5]
 have n:Z b=220:=by grind[n?,A0,JP]
 rw[show wi (244-U b)=24 by rw[AX b!];simp[U];omega,ABz g!,AD];refine AA (Cb (by simp[lA,GH,Int.reduceToNat];omega)) λd j=>?_;rw[(by grind[Ld,t?,Int.reduceToNat]:d=Ld x),yr (by rw[G4 h];decide),AD];have l:=im (Ld x);rw[AX,vj (by rw[G4 h];decide) g!,AD,vj (by rw[Ae,G4 h,A0];decide) g!,AD];grind[AB,IB,t?,Int.reduceToNat]
def uh(a:F5 16 Co)(i:W):∀k:W,i<=k->∃r,Pq a k=Pq a i++r
 |0,h=>⟨[],by rw[show i=0 by omega];rfl⟩
 |k+1,h=>by by_cases e:i=k+1;exact⟨[],by rw[e,D1]⟩;obtain⟨r,hr⟩:=uh a i k o!;exact⟨r++Xb (cl a k),by rw[Re,hr,A5]⟩
def xE{x}(h:HP x){i:W}(a:i<16):∃A_ r,IB x=A_++(Xb (cl x.2.2 i)++r)/\Z A_=12+13*i:=by have⟨r,hr⟩:=uh x.2.2 (i+1) 16 o!;refine⟨DE x.2.1 8++(DE x.1 4++Pq x.2.2 i),r++(lA 24++(DE (W8 (Ld x)) 4++DE x.2.1 8)),?_,by simp[Ae,A0,JP h];omega⟩;grind[IB,Ld,Re,t?]
def ACc{x a:F5 16 Co}{i:A}{c:Co}(h:∀j:Fin 16,a j=if(j.val:A)<i then x j else(X,[]))(e:0<=i/\i<16)(d:∀b,x ⟨ο i,b⟩=c):∀j:Fin 16,Xw a i c j=if(j.val:A)<i+1 then x j else(X,[]):=by grind[Xw,Fin.ext]
def zm{x a:F5 16 Co}{i:A}(h:∀j:Fin 16,a j=if(j.val:A)<i then x j else(X,[]))(d:0<=i/\i<16)(c:∀b,x ⟨ο i,b⟩=(X,[])):∀j:Fin 16,a j=if(j.val:A)<i+1 then x j else(X,[]):=by grind[Fin.ext]
def y9{a t:Bc}{n k:A}(h:(Z a:A)+Z t<=2199023255552)(b:1<=k)(d:k<=8)(e:k<=Z t)(g:t.take (ο k)=DE n (ο k))(hn:0<=n)(f:n<256^ο k)(c:n<9223372036854775808):HE (a++t,(Z a:A),k)=D n:=by grind[HE,Yo,p?,ACA]
def AHr{x}(h:HP x):Xd (IB x)=D (x,Y):=by
 suffices C:Ao (Xd (IB x)) λr=>r=(x,Y) by obtain⟨r,hr,rfl⟩:=C;exact hr
 have l:=fB h;have R:=h.1;have U:=h.2.1;have S:=h.2.2.1;have V:=h.2.2.2.1;have O:HE (IB x,8,4)=D x.1:=by have:=y9 (a:=DE x.2.1 8) (t:=DE x.1 4++(Pq x.2.2 16++(lA 24++(DE (W8 (Ld x)) 4++DE x.2.1 8)))) (n:=x.1) (k:=4) (by simp only[Ae,A0,JP h,lA,GH];omega) g! g! (by simp[Ae,A0];omega) (by exact El (A0 _ _)) R (by simp[Int.reduceToNat];omega) o!;rw[A0]at this;rw[<-this];simp only[IB,Ld,A5];rfl
 have Q:HE (IB x,0,8)=D x.2.1:=by have:=y9 (a:=[]) (t:=IB x) (n:=x.2.1) (k:=8) (by rw[l];decide) g! g! (by rw[l];decide) Vi S (by simp[Int.reduceToNat];omega) o!;exact this
 unfold Xd;rw[O,AD,Q,AD];refine AA (P:=λr=>∃z,r=.inr (x,z)) ?_ λr hr=>by obtain⟨z,rfl⟩:=hr;exact Au (AB rfl)
 refine CE (λs=>0<=s.1/\s.1<=16/\s.2.1.1=x.1/\s.2.1.2.1=x.2.1/\∀j:Fin 16,s.2.1.2.2 j=if(j.val:A)<s.1 then x.2.2 j else(X,[])) (λs=>(16-s.1).toNat) ⟨AY _,u!,rfl,rfl,λj=>by rw[D! d!];rfl⟩ ?_;rintro⟨i,⟨p,n,a⟩,z⟩ ⟨o,N,G,hn,f⟩;dsimp only at o N G hn f;subst G hn;unfold mF;dsimp only;refine AC (λg=>?_) (λg=>k? ⟨z,?_⟩)
 ·rw[AX (x:=i*13),AX (x:=12+i*13),AX (x:=12+i*13+1),AX (x:=i+1)];have⟨T,m⟩:=oA (a:=x.2.2) (i:=i.toNat) o!;obtain⟨A_,r,B,K⟩:=xE h (i:=i.toNat) o!;have b:=h.cl i.toNat
  generalize L:cl x.2.2 i.toNat=c at*;have F:Z A_+(13+Z r)=256:=by have:=l;rw[B,Ae,Ae,eu b.1]at this;exact this
  have e:HE (IB x,12+i*13,1)=D (if c.1=Y then(Z c.2:A)else 255):=by have y:=b.1;have:=y9 (a:=A_) (t:=Xb c++r) (n:=if c.1=Y then(Z c.2:A)else 255) (k:=1) (by rw[Ae,eu b.1];omega) g! g! (by rw[Ae,eu b.1];omega) (by unfold Xb;rw[t?];exact List.take_left' (A0 _ _)) (by split<;>omega) (by simp[Int.reduceToNat];split<;>omega) (by split<;>omega);rw[<-B]at this;rw[<-this,K];congr 3;omega
  rw[e,AD];have H:∀q:F5 16 Co,(∀j:Fin 16,q j=if(j.val:A)<i+1 then x.2.2 j else(X,[]))->Ao (D (Step.next (i+1,(x.1,x.2.1,q),z)):Ω (Step (A×AV×AV) ((Bool×AV)⊕(AV×AV)))) (Kj (λs=>0<=s.1/\s.1<=16/\s.2.1.1=x.1/\s.2.1.2.1=x.2.1/\∀j:Fin 16,s.2.1.2.2 j=if(j.val:A)<s.1 then x.2.2 j else(X,[])) (λs=>(16-s.1).toNat) (16-i).toNat λr=>∃z,r=.inr (x,z)):=λq w=>y! ⟨d!,d!,rfl,rfl,w⟩ d!
  by_cases d:c.1=Y;rw[C! d];have y:=b.1;rw[beq_eq_false_iff_ne.2 o!,A!,F! o!,A!,AX];obtain⟨s,C,D_⟩:=Cj (s:=IB x) (lo:=12+i*13+1) (hi:=12+i*13+1+(Z c.2:A)) o! o! (by rw[l];omega);have E:s=c.2:=by
   rw[D_.1,B];have I:(12+i*13+1).toNat=Z A_+1:=o!
   have J:(12+i*13+1+(Z c.2:A)).toNat-(12+i*13+1).toNat=Z c.2:=o!
   rw[J,I,<-M8,R6];unfold Xb;rw[C! d,A5,mr (A0 _ _),A5,Y9]
  rw[C,E,AD];have u:∃v,F4 a i=D v:=by obtain⟨v,m,_⟩:=Ca (a:=a) o g;exact⟨v,m⟩
  have⟨v,u⟩:=u;rw[u,AD,AD,AD,Sum.elim_inl];exact H _ (ACc f ⟨o,g⟩ λM=>m.symm.trans (Dh d rfl));rw[D! d,beq_iff_eq.2 rfl,B!,AD,Sum.elim_inl];exact H _ (zm f ⟨o,g⟩ λM=>m.symm.trans (Dh (by simpa using d) (b.2.resolve_left d)))
 refine E! Sum.inr (Dh (Dh rfl (Dh rfl (funext λj=>?_))) rfl);exact(f j).trans (C! o!)
theorem ACr{x:AV}(h:HP x)(hn:x.2.1≠0):IB x≠lA 256:=λe=>hn (by have:=congrArg (List.take 8) e;rw[Vi]at this;have a:=h.2.2.1;have b:=h.2.2.2.1;exact bE (k:=8) (by decide) ⟨λ_=>by omega,by omega,by omega⟩ ⟨λ_=>by omega,by omega,by omega⟩ (this.trans (by decide)))
theorem AAh:YZ ()=D (lA 256):=by grind[YZ,ABz]
theorem AD3{x}(h:HP x)(hn:x.2.1≠0):Qi (IB x)=D (x,0):=by
 have b:=fB h;unfold Qi;have⟨r,d,i⟩:=Cj (s:=IB x) (lo:=0) (hi:=8) g! g! (by rw[b];decide);have⟨p,e,j⟩:=Cj (s:=IB x) (lo:=248) (hi:=256) g! g! (by rw[b];decide);have⟨q,f,l⟩:=Cj (s:=IB x) (lo:=0) (hi:=244) g! g! (by rw[b];decide);have m:p=DE x.2.1 8:=by rw[j.1];show List.take 8 (List.drop 248 (IB x))=_;rw[pj h,BG (by rw[A0];exact Am _)]
 have o:q=Ld x:=l.1.trans (by show List.take 244 (IB x)=_;unfold IB;exact El (G4 h));have c:=im (Ld x);have g:HE (IB x,244,4)=D (W8 (Ld x)):=by have:=y9 (a:=Ld x) (t:=DE (W8 (Ld x)) 4++DE x.2.1 8) (n:=W8 (Ld x)) (k:=4) (by simp only[Ae,A0,G4 h];decide) g! g! (by simp only[Ae,A0];decide) (El (A0 _ _)) o! (by simp[Int.reduceToNat];omega) o!;rw[G4 h]at this;exact this
 rw[(by simp[U];omega:U (IB x)=256),H!,A!,AAh,AD,beq_eq_false_iff_ne.2 (ACr h hn),A!,d,AD,e,AD,i.1.trans Vi,m,H!,A!,f,AD,o,g,AD,yr (by rw[G4 h];decide),AD,AX,H!,A!,AHr h,AD,nO h,AD,H!,H!];rfl
def fA(x:AV):Bc:=if x.2.1=0 then lA 256 else IB x
theorem AFw{x}(h:HP x)(a:x.2.1=0->x=(x.1,0,F5.all (X,[]))):GU (fA x,x.1)=D (x,0):=by unfold GU fA;rw[AAn ⟨h.1,h.2.1⟩,AD,Ce,A!];by_cases hn:x.2.1=0;rw[C! hn];rw[(by grind[Qi,lA,List.length_replicate,AAh,p?]:Qi (lA 256)=D ((0,0,F5.all (X,[])),7)),AD];exact E! (λq=>D (q,(0:A))) (a hn).symm;grind[AD3,p?]
def HD(p:Bc):Bc:=DE (Z p:A) 4++(p++DE (W8 (DE (Z p:A) 4++p)) 4)
theorem EA(p:Bc):(HD p).length=Z p+8:=by grind[HD,n?,A0]
theorem Y4{p:Bc}(h:Z p<=8392):DY p=D (HD p):=by
 unfold DY;simp only[U];rw[F! o!,A!,HQ k! g! g!,AD,Cq];have b:(DE (Z p:A) 4++p).length=Z p+4:=by grind[n?,A0]
 rw[(by grind[sapp,A0]:sapp (DE (Z p:A) (ο 4)) p=D (DE (Z p:A) 4++p)),AD,yG o!,AD];have a:=im (DE (Z p:A) 4++p);rw[AX,HQ o! g! g!,AD,A5];rfl
def UF(al:W)(t:Bc):Bc×A×A:=
 if Z t<4 then([],0,5)else
 if rd (t.take 4)>8392 then([],0,2)else
 if(Z t:A)<rd (t.take 4)+8 then([],0,5)else
 if rd ((t.drop (4+(rd (t.take 4)).toNat)).take 4)≠W8 (t.take (4+(rd (t.take 4)).toNat))then([],0,3)else
 ((t.drop 4).take (rd (t.take 4)).toNat,(al:A)+8+rd (t.take 4),0)
def rd4{t:Bc}(h:4<=Z t):0<=rd (t.take 4)/\rd (t.take 4)<4294967296:=by
 have a:(t.take 4).length=4:=by rw[BK];omega
 have:=(AB9 (l:=t.take 4) o!).1 o!;rw[a]at this;exact this
theorem Pb{a t:Bc}(h:(Z a:A)+Z t<=2199023255552):Bd (a++t,(Z a:A))=D (UF (Z a) t):=by
 have b:U (a++t)=(Z a:A)+Z t:=by grind[n?]
 have o:((a++t).length:A)=(Z a:A)+Z t:=b;unfold Bd UF;dsimp only;rw[F! o!,A!,F! o!,A!,lD h g! g!];by_cases g:Z t<4;rw[D! o!,C! g];rfl;rw[C! o!,D! g,AD,show ο 4=4 from rfl];have⟨p,w⟩:=rd4 (t:=t) o!;generalize hn:rd (t.take 4)=n at*;obtain⟨m,rfl⟩:=FY p;rw[show((0:A) !=0)=X by decide,A!];by_cases d:(m:A)>8392;rw[G! d,B!,C! d];rw[F! d,A!,D! d,b,AX,AX];by_cases i:(Z t:A)<(m:A)+8;rw[G! o!,B!,C! i];rw[F! o!,A!,D! i,C5];have f:wi (wi ((Z a:A)+4)+(m:A))=((a++t.take (4+m)).length:A):=by rw[AX (x:=(Z a:A)+4),AX,Ae,BK];omega
 have j:a++t=(a++t.take (4+m))++t.drop (4+m):=by rw[A5,Cr]
 have s:((t.drop (4+m)).length:A)=Z t-(4+m):=by rw[Dr];omega
 have c:((a++t.take (4+m)).length:A)=Z a+4+m:=by rw[Ae,BK];omega
 have l:Ay (a++t,wi (wi ((Z a:A)+4)+(m:A)),4)=D (rd ((t.drop (4+m)).take 4),0):=by
  rw[f];conv=>lhs;rw[j]
  rw[lD o! g! g!,C! o!];rfl
 have q:US (a++t) (Z a:A) (wi (wi ((Z a:A)+4)+(m:A)))=D (t.take (4+m)):=by unfold US;rw[f,C! o!,c,C5,R6,show((Z a:A)+4+m).toNat-Z a=4+m by omega]
 have r:US (a++t) (wi ((Z a:A)+4)) (wi (wi ((Z a:A)+4)+(m:A)))=D ((t.drop 4).take m):=by unfold US;rw[f,AX (x:=(Z a:A)+4),C! o!,c,show((Z a:A)+4).toNat=Z a+4 by omega,Yt,M9 o!,Cq,UA,show((Z a:A)+4+m).toNat-(Z a+4)=m by omega]
 rw[l,AD,q,AD,yG (by rw[BK];omega),AD,r];have⟨u,v⟩:=rd4 (t:=t.drop (4+m)) o!;have k:ι .u32 (rd ((t.drop (4+m)).take 4))=rd ((t.drop (4+m)).take 4):=by rw[xz];omega
 rw[k];by_cases e:rd ((t.drop (4+m)).take 4)=W8 (t.take (4+m));rw[D! (by simp[e]),e,H!,A!,AD,AX (x:=(Z a:A)+8),AX];rw[C! e,bne_iff_ne.2 e,B!]
theorem AFv{x:Bc}{i:A}(a:0<=i)(h:i>Z x):By (x,i,4)=D (0,5):=by grind[By]
theorem Xl{a t:Bc}(h:(Z a:A)+Z t<=2199023255552):Dk (a++t,(Z a:A))=D (UF (Z a) t):=by
 have f:U (a++t)=(Z a:A)+Z t:=by grind[n?]
 have p:((a++t).length:A)=(Z a:A)+Z t:=f;unfold Dk UF;dsimp only;rw[F! o!,A!,F! o!,A!,Yo h g! g!];by_cases i:Z t<4;rw[D! o!,C! i];rfl;rw[C! o!,D! i,AD,show ο 4=4 from rfl];have⟨q,w⟩:=rd4 (t:=t) o!;generalize hn:rd (t.take 4)=n at*;obtain⟨m,rfl⟩:=FY q;rw[show((0:A) !=0)=X by decide,A!];by_cases d:(m:A)>8392;rw[G! d,B!,C! d];rw[F! d,A!,D! d];have k:wi (wi ((Z a:A)+4)+(m:A))=(Z a:A)+4+m:=by grind[AX]
 by_cases j:(Z t:A)<(m:A)+8;rw[C! j];have:By (a++t,wi (wi ((Z a:A)+4)+(m:A)),4)=D (0,5):=by
  rw[k];by_cases v:(Z a:A)+4+m>(a++t).length;grind[AFv];have c:(Z a:A)+4+m=((a++t.take (4+m)).length:A):=by grind[n?,r?]
  have g:a++t=(a++t.take (4+m))++t.drop (4+m):=by rw[A5,Cr]
  grind[List.length_drop,Yo]
 rw[this];rfl;rw[D! j,C5];have c:wi (wi ((Z a:A)+4)+(m:A))=((a++t.take (4+m)).length:A):=by grind[n?,r?]
 have g:a++t=(a++t.take (4+m))++t.drop (4+m):=by rw[A5,Cr]
 have u:((t.drop (4+m)).length:A)=Z t-(4+m):=by rw[Dr];omega
 have b:((a++t.take (4+m)).length:A)=Z a+4+m:=by rw[Ae,BK];omega
 have l:By (a++t,wi (wi ((Z a:A)+4)+(m:A)),4)=D (rd ((t.drop (4+m)).take 4),0):=by
  rw[c];conv=>lhs;rw[g]
  rw[Yo o! g! g!,C! o!];rfl
 have r:US (a++t) (Z a:A) (wi (wi ((Z a:A)+4)+(m:A)))=D (t.take (4+m)):=by unfold US;rw[c,C! o!,b,C5,R6,show((Z a:A)+4+m).toNat-Z a=4+m by omega]
 have s:US (a++t) (wi ((Z a:A)+4)) (wi (wi ((Z a:A)+4)+(m:A)))=D ((t.drop 4).take m):=by unfold US;rw[c,AX (x:=(Z a:A)+4),C! o!,b,show((Z a:A)+4).toNat=Z a+4 by omega,Yt,M9 o!,Cq,UA,show((Z a:A)+4+m).toNat-(Z a+4)=m by omega]
 rw[l,AD,show(((rd ((t.drop (4+m)).take 4),(0:A)):A×A).2 !=0)=X from rfl,A!,r,AD,yr (by rw[BK];omega),AD,s];have o:=im (t.take (4+m));rw[AX (x:=W8 (t.take (4+m)))];by_cases e:rd ((t.drop (4+m)).take 4)=W8 (t.take (4+m));rw[D! (by simp[e]),e,H!,A!,AD,k,AX];refine E! D (Dh rfl (Dh ?_ rfl));dsimp only;omega;rw[C! e,bne_iff_ne.2 e,B!]
def wg{a}{t}(h:(UF a t).2.2=0):(UF a t).1.length<=8392/\(∃c,t=HD (UF a t).1++c)/\(UF a t).2.1=(a:A)+8+(UF a t).1.length:=by
 unfold UF at h⊢;by_cases j:Z t<4;rw[C! j]at h;exact O! h g!;rw[D! j]at h⊢;obtain⟨q,r⟩:=rd4 (t:=t) o!;by_cases k:rd (t.take 4)>8392;rw[C! k]at h;exact O! h g!;rw[D! k]at h⊢;by_cases o:(Z t:A)<rd (t.take 4)+8;rw[C! o]at h;exact O! h g!;rw[D! o]at h⊢;by_cases b:rd ((t.drop (4+(rd (t.take 4)).toNat)).take 4)≠W8 (t.take (4+(rd (t.take 4)).toNat));rw[C! b]at h;exact O! h g!;rw[D! b]at h⊢;have b:=Decidable.not_not.1 b;dsimp only;have e:(t.take 4).length=4:=by rw[BK];omega
 have g:DE (rd (t.take 4)) 4=t.take 4:=by have:=yl (l:=t.take 4) o!;rwa[e]at this
 generalize hn:rd (t.take 4)=n at*;obtain⟨m,rfl⟩:=FY q;rw[C5]at b⊢;have i:((t.drop 4).take m).length=m:=by rw[BK,Dr];omega
 refine⟨o!,?_,o!⟩;have p:t.take (4+m)=DE (m:A) 4++(t.drop 4).take m:=by rw[List.take_add,g]
 have f:((t.drop (4+m)).take 4).length=4:=by rw[BK,Dr];omega
 have d:DE (W8 (t.take (4+m))) 4=(t.drop (4+m)).take 4:=by rw[<-b];have:=yl (l:=(t.drop (4+m)).take 4) o!;rwa[f]at this
 refine⟨t.drop (4+m+4),?_⟩;unfold HD;rw[i,<-p,d,<-A5,<-p];conv=>lhs;rw[<-Cr (4+m) t,<-Cr 4 (t.drop (4+m)),M8]
 rw[A5]
theorem bM{c}{p a:Bc}(h:Z p<=8392):UF c (HD p++a)=(p,(c:A)+8+Z p,0):=by
 have d:gR 4 (Z p:A):=⟨λ_=>⟨o!,by rw[show(256:A)^4=4294967296 by decide];omega⟩,o!⟩
 have e:=im (DE (Z p:A) 4++p);have b:gR 4 (W8 (DE (Z p:A) 4++p)):=⟨λ_=>⟨o!,by rw[show(256:A)^4=4294967296 by decide];omega⟩,o!⟩
 unfold UF;rw[(by grind[HD,t?,List.take_left',A0]:(HD p++a).take 4=DE (Z p:A) 4),sJ g! d,C5,(by grind[HD,t?,List.take_left',n?,A0]:(HD p++a).take (4+Z p)=DE (Z p:A) 4++p),(by grind[HD,t?,List.drop_left',n?,A0]:(HD p++a).drop (4+Z p)=DE (W8 (DE (Z p:A) 4++p)) 4++a),(by grind[HD,t?,List.drop_left',A0]:(HD p++a).drop 4=p++(DE (W8 (DE (Z p:A) 4++p)) 4++a)),(by rw[Ae,(EA p)]:(HD p++a).length=Z p+8+Z a),D! o!,D! o!,D! o!,El (A0 _ _),sJ g! b,D! k!,El rfl]
def YB{x:Bc×List Int}{s:Bc×Int}(h:0<=s.2/\s.2<=θ x.2/\θ x.2<=16777216/\θ x.1<=1073741824/\(θ s.1:Int)<=θ x.1+8*s.2):Ao (Ad (Lq x) s) λr=>(θ r:Int)<=θ x.1+8*θ x.2:=by
 refine AW (λ(s:Bc×Int)=>0<=s.2/\s.2<=θ x.2/\θ x.2<=16777216/\θ x.1<=1073741824/\(θ s.1:Int)<=θ x.1+8*s.2) (λ(s:Bc×Int)=>((θ x.2:Int)-s.2).toNat) h (λs b=>?_);unfold Lq;exact x!
def aU{x:Bc×E A}(h:Z x.2<=16777216/\Z x.1<=1073741824):Ao (Hf x) λr=>(Z r:A)<=Z x.1+8*Z x.2:=by
 unfold Hf;exact x!
def Yk{x:List Ak}{s:Bc×Int}(h:0<=s.2/\s.2<=θ x/\Z3 x/\(θ s.1:Int)<=10+40000*s.2):Ao (Ad (Mw x) s) λr=>(θ r:Int)<=10+40000*θ x:=by
 refine AW (λ(s:Bc×Int)=>0<=s.2/\s.2<=θ x/\Z3 x/\(θ s.1:Int)<=10+40000*s.2) (λ(s:Bc×Int)=>((θ x:Int)-s.2).toNat) h (λs c=>?_);unfold Mw;have⟨e,f,⟨b,a⟩,g⟩:=c;repeat' with_reducible first|intro d|apply AC|apply AJ|apply AB|(refine AM ?_ (DZ ?_);intro r hr)|(refine AM ?_ (aU ?_);intro r hr)|(refine AM ?_ (AE ?_ ?_);rintro r ⟨hr,i⟩)
 all_goals try (have j:=a _ _ v!)
 all_goals try unfold VTx at*
 all_goals dsimp[len]at*
 all_goals first|omega|(refine⟨⟨?_,?_,⟨b,a⟩,?_⟩,?_⟩<;>(simp (disch:=omega) only[AX];omega))|grind
def Ta{x}:Ao (K8 x) λr=>Z r.1<=16777216:=by
 unfold K8;exact x!
def CJ(b:CK):Prop:=Z b.1<=1099511627776/\0<=b.2.1/\b.2.1<=Z b.1
def GC{b}{x:A}(h:CJ b)(c:0<=x/\x<=8):Ao (Cc b x) λr=>CJ r.2/\(x<=2->0<=r.1/\r.1<65536):=by
 unfold Cc;unfold CJ at*
 exact x!
def Vx  {s:Int×List Int×CK}(h:0<=s.1/\s.1+θ s.2.1<=65536/\CJ s.2.2):Ao (Ad (JR) s) λr=>CJ r.2/\θ r.1<=65536:=by
 refine AW (λ(s:Int×List Int×CK)=>0<=s.1/\s.1+θ s.2.1<=65536/\CJ s.2.2) (λ(s:Int×List Int×CK)=>s.1.toNat) h (λs c=>?_);unfold JR;exact x!
def Xf{b}{x:A}(h:CJ b)(a:0<=x/\x<=2):Ao (F3 b x) λr=>CJ r.2:=by
 unfold F3;exact x!
def Yj  {s:Int×List Ak×CK}(h:0<=s.1/\s.1+θ s.2.1<=65536/\CJ s.2.2):Ao (Ad (Mv) s) λr=>CJ r.2/\θ r.1<=65536:=by
 refine AW (λ(s:Int×List Ak×CK)=>0<=s.1/\s.1+θ s.2.1<=65536/\CJ s.2.2) (λ(s:Int×List Ak×CK)=>s.1.toNat) h (λs c=>?_);unfold Mv;exact x!
def TZ{x:Bc}(h:Z x<=1099511627776):Ao (K7 x) λr=>Z r.1<=65536/\(r.2=0->Z3 r.1):=by
 unfold K7;have b:CJ (x,0,X):=⟨h,k!,k!⟩
 exact x!
def Yi{x:Bt}{s:Bc×Int}(h:0<=s.2/\s.2<=θ x/\θ x<=64/\(θ s.1:Int)<=10+24*s.2):Ao (Ad (Ip x) s) λr=>θ r<=2000:=by
 refine AW (λ(s:Bc×Int)=>0<=s.2/\s.2<=θ x/\θ x<=64/\(θ s.1:Int)<=10+24*s.2) (λ(s:Bc×Int)=>((θ x:Int)-s.2).toNat) h (λs b=>?_);unfold Ip;exact x!
def TY{x}:Ao (IJ x) λr=>Z r.1<=2000:=by
 unfold IJ;exact x!
def Yh{x:Bc}{a:Int×Int}{s:Int×List BP}(h:0<=s.1/\s.1<=a.1/\a.1<=65536/\θ x<=1099511627776/\θ s.2<=s.1):Ao (Ad (Io x a) s) λr=>θ r<=65536:=by
 refine AW (λ(s:Int×List BP)=>0<=s.1/\s.1<=a.1/\a.1<=65536/\θ x<=1099511627776/\θ s.2<=s.1) (λ(s:Int×List BP)=>(a.1-s.1).toNat) h (λs d=>?_);unfold Io;exact x!
def TX{x:Bc}(h:Z x<=1099511627776):Ao (Eb x) λr=>(r.2=0->oM r.1)/\Z r.1<=65536:=by
 unfold Eb;exact x!
def Rp{x:CU}{s:Int}(h:0<=s/\s<=θ x.2.2.1/\(θ x.2.2.1:Int)<=16777216):Ao (Ad (OC x) s) λr=>r≠.inl ζ:=by
 refine AW (λ(s:Int)=>0<=s/\s<=θ x.2.2.1/\(θ x.2.2.1:Int)<=16777216) (λ(s:Int)=>((θ x.2.2.1:Int)-s).toNat) h (λs b=>?_);unfold OC;exact x!
def uO(x:CU):Prop:=1<=x.1/\x.1<=64/\Z3 x.2.2.1/\oM x.2.2.2.2/\Z x.2.2.2.2=x.1
def O6{x:CU}(h:Z x.2.2.2.1<=16777216):Ao (G9 x) λr=>r=Y->uO x:=by
 unfold G9 uO
 exact x!
def Yn{x:CU}{s:Bc×Int}(h:0<=s.2/\s.2<=θ x.2.2.2.1/\θ x.2.2.2.1<=16777216/\(θ s.1:Int)<=100000000+24*s.2):Ao (Ad (Ir x) s) λr=>θ r<=1073741824:=by
 refine AW (λ(s:Bc×Int)=>0<=s.2/\s.2<=θ x.2.2.2.1/\θ x.2.2.2.1<=16777216/\(θ s.1:Int)<=100000000+24*s.2) (λ(s:Bc×Int)=>((θ x.2.2.2.1:Int)-s.2).toNat) h (λs b=>?_);unfold Ir;exact x!
def cy{x:CU}(h:Z x.2.2.2.1<=16777216):Ao (Gj x) λr=>Z r.1<=2147483648:=by
 unfold Gj;exact x!
def aI(c:Co):Bc:=bif c.1 then DE (Z c.2:A) 1++c.2 else DE 255 1
def B5(e:AI):Bc:=
 DE e.1 8++(DE e.2.1 1++(DE e.2.2.1 4++(DE e.2.2.2.1 8++(DE e.2.2.2.2.1 8++(DE e.2.2.2.2.2.1 8++(DE e.2.2.2.2.2.2.1.1 4++(DE e.2.2.2.2.2.2.1.2.1 1++
 (aI e.2.2.2.2.2.2.1.2.2.1++(aI e.2.2.2.2.2.2.1.2.2.2++(DE (Z e.2.2.2.2.2.2.2:A) 4++e.2.2.2.2.2.2.2))))))))))
theorem ur{c}(h:Ix c):(aI c).length<=13:=by
 unfold aI;cases c.1 with
 |true=>rw[B!,Ae,A0];have:=h.1;omega
 |false=>grind[A0]
def ACh{s:Bc}{c:Co}(h:Z s<=1099511627776)(a:Z c.2<=8192):GI (s,c)=D (s++aI c):=by grind[GI,aI,Bool.not_false,HQ,Bool.not_true,sapp,DE,ο,n?,A0,t?]
def Ml.cells{e}(h:Ml e):Ix e.2.2.2.2.2.2.1.2.2.1/\Ix e.2.2.2.2.2.2.1.2.2.2/\Z e.2.2.2.2.2.2.2<=8192/\gR 8 e.1/\gR 1 e.2.1/\gR 4 e.2.2.1/\gR 8 e.2.2.2.1/\gR 8 e.2.2.2.2.1/\gR 8 e.2.2.2.2.2.1/\gR 4 e.2.2.2.2.2.2.1.1/\gR 1 e.2.2.2.2.2.2.1.2.1:=by
 have⟨a1,a2,a3,a4,a5,a6,a7,a8,j⟩:=h;have i8:∀n:A,0<=n->n<=1099511627776->gR 8 n:=λn k l=>⟨n!,o!⟩
 have o:∀n:A,0<=n->n<=1073741824->gR 4 n:=λn k l=>⟨λ_=>by rw[show(256:A)^4=4294967296 by decide];omega,o!⟩
 have m:∀n:A,0<=n->n<=255->gR 1 n:=λn k l=>⟨λ_=>by rw[show(256:A)^1=256 by decide];omega,o!⟩
 have z:Ix (X,[]):=⟨g!,.inr rfl⟩
 refine and_assoc.1 (and_assoc.1 ⟨?_,i8 _ o! o!,?_⟩);rcases j with⟨k1,f,d,g,c,a⟩|⟨k1,f,d,g,c,a,i,b⟩|⟨k1,f,d,g,c,a,i,b⟩|⟨k1,f,d,g,c,a,i⟩|j;exact⟨⟨a.2.2.2.2.1,a.2.2.2.2.2⟩,by rw[d];decide⟩;exact⟨⟨b.2.2.2.2.1,b.2.2.2.2.2⟩,by rw[c];decide⟩;rw[c,a];exact⟨⟨z,z⟩,g!⟩;rw[a];exact⟨⟨z,z⟩,i⟩;have⟨k1,f,d,g,c,a,i,b⟩:=j;rw[i,b];exact⟨⟨z,z⟩,g!⟩;have p:1<=e.2.1/\e.2.1<=8/\0<=e.2.2.1/\e.2.2.1<=1073741824/\0<=e.2.2.2.2.2.2.1.1/\e.2.2.2.2.2.2.1.1<64/\0<=e.2.2.2.2.2.2.1.2.1/\e.2.2.2.2.2.2.1.2.1<16:=by rcases j with⟨k1,f,d,g,c,a⟩|⟨k1,f,d,g,c,a,i,b⟩|⟨k1,f,d,g,c,a,i,b⟩|⟨k1,f,d,g,c,a,i⟩|j;have:=a.1;have:=a.2.1;have:=a.2.2.1;have:=a.2.2.2.1;omega;have:=b.1;have:=b.2.1;have:=b.2.2.1;have:=b.2.2.2.1;omega;grind[Qy];grind[Qy];grind[Qy]
 exact⟨m _ o! o!,o _ o! o!,i8 _ o! o!,i8 _ o! o!,i8 _ o! o!,o _ o! o!,m _ o! o!⟩
theorem QQ{e}(h:Ml e):(B5 e).length<=8392:=by have⟨a,b,c,_⟩:=h.cells;grind[ur,B5,n?,A0]
theorem sO{e}(h:Ml e):Fb e=D (B5 e,0):=by have⟨c,d,i,_⟩:=h.cells;have l1:=ur c;have l2:=ur d;have⟨b,f,g⟩:=Cf (x:=e);have a:b=Y:=g.2 h;subst a;unfold Fb;rw[f,AD,Ce,A!];rw[HQ k! g! g!,AD,Cq];rw[HQ (by simp only[Ae,A0];simp only[Int.reduceToNat];omega) g! g!,AD];rw[HQ (by simp only[Ae,A0];simp only[Int.reduceToNat];omega) g! g!,AD];rw[HQ (by simp only[Ae,A0];simp only[Int.reduceToNat];omega) g! g!,AD];rw[HQ (by simp only[Ae,A0];simp only[Int.reduceToNat];omega) g! g!,AD];rw[HQ (by simp only[Ae,A0];simp only[Int.reduceToNat];omega) g! g!,AD];rw[HQ (by simp only[Ae,A0];simp only[Int.reduceToNat];omega) g! g!,AD];rw[HQ (by simp only[Ae,A0];simp only[Int.reduceToNat];omega) g! g!,AD];rw[ACh (by simp only[Ae,A0];simp only[Int.reduceToNat];omega) (by have:=c.1;omega),AD];rw[ACh (by simp only[Ae,A0];simp[Int.reduceToNat];omega) (by have:=d.1;omega),AD];rw[HQ (by simp only[Ae,A0];simp[Int.reduceToNat];omega) g! g!,AD];unfold sapp;rw[C! (by simp only[Ae,A0];simp[Int.reduceToNat];omega),AD];simp[A5];rfl
def CS(x p:Bc)(c:Bc×A×A):Prop:=c.1=x/\(c.2.2=0->∃rest,x=p++rest/\c.2.1=Z p)
def uK{t:Bc}{k:W}(h:k<=Z t)(a:k<=8):gR k (rd (t.take k))/\DE (rd (t.take k)) k=t.take k:=by grind[r?,AB9,yl]
def dN{x p}{c}{k:W}(h:CS x p c)(o:Z x<=1099511627776)(u:1<=k)(m:k<=8):Ao (BU c (k:A)) λr=>CS x (p++DE r.1 k) r.2/\(r.2.2.2=0->gR k r.1)/\(c.2.2≠0->r=(0,c)):=by have⟨s,l,e⟩:=c;have⟨g,i⟩:=h;dsimp only at g i;subst g;unfold BU;refine AK (λd=>AB ⟨⟨rfl,λb=>O! b d⟩,λb=>O! b d,λ_=>rfl⟩) (λd=>?_);dsimp only at d;subst d;have⟨a,hr,n⟩:=i rfl;subst hr n;rw[Ae]at o;rw[lD o! o! o!];by_cases j:(k:A)<=Z a;rw[C! j,AD,C5];have⟨q,v⟩:=uK (t:=a) (k:=k) o! m;rw[show((0:A) !=0)=X by decide,A!];refine AB ⟨⟨rfl,λ_=>⟨a.drop k,?_,?_⟩⟩,λ_=>q,λf=>O! rfl f⟩;grind[t?,List.take_append_drop];grind[AX,n?,A0];rw[D! j,AD];rw[show((5:A) !=0)=Y by decide,B!];exact AB ⟨⟨rfl,λb=>O! (show(5:A)=0 from b) g!⟩,λb=>O! (show(5:A)=0 from b) g!,λf=>O! rfl f⟩
def AGC{x p}{c}{n:A}(h:CS x p c)(k:Z x<=1099511627776)(hn:c.2.2=0->0<=n/\n<4294967296):Ao (Dz c n) λr=>CS x (p++r.1) r.2/\(r.2.2.2=0->(Z r.1:A)=n/\c.2.2=0):=by have⟨s,g,e⟩:=c;have⟨d,f⟩:=h;dsimp only at d f hn;subst d;unfold Dz;by_cases j:e=0;subst j;have⟨a,hr,i⟩:=f rfl;have⟨l,q⟩:=hn rfl;subst hr i;obtain⟨m,rfl⟩:=FY l;rw[Ae]at k;rw[show((0:A) !=0)=X by decide,A!];simp only[U];rw[show wi (((p++a).length:A)-(Z p:A))=Z a by rw[Ae,AX];omega];by_cases o:(m:A)<=Z a;rw[F! o!,A!];rw[(by grind[AX,US,n?,List.drop_left]:US (p++a) (wi (wi ((Z p:A)+(m:A))-(m:A))) (wi ((Z p:A)+(m:A)))=D (a.take m)),AD];refine AB ⟨⟨rfl,λ_=>⟨a.drop m,?_,?_⟩⟩,λ_=>⟨?_,by first|rfl|trivial⟩⟩;grind[t?,List.take_append_drop];grind[AX,n?,r?];grind[r?];rw[G! o!,B!];exact AB ⟨⟨rfl,λb=>O! (show(5:A)=0 from b) g!⟩,λb=>O! (show(5:A)=0 from b) g!⟩;grind[AB]
def AGA{x p}{c}(h:CS x p c)(i:Z x<=1099511627776):Ao (Dd c ()) λr=>CS x (p++aI r.1) r.2/\(r.2.2.2=0->Ix r.1):=by unfold Dd;refine AA (dN (k:=1) h i g! g!) λv n=>?_;have⟨⟨f,j⟩,q,y⟩:=n;refine AK (λd=>AB ⟨⟨f,λb=>O! b d⟩,λb=>O! b d⟩) (λd=>?_);have⟨e,hr,g⟩:=j d;have m:=(q d).1 g!;rw[show(256:A)^1=256 by decide]at m;refine AT (λa=>AB ⟨⟨f,λ_=>⟨e,?_,?_⟩⟩,λ_=>⟨Bh _,.inr rfl⟩⟩) (λa=>?_);dsimp only;rw[a]at hr;exact hr;dsimp only;rw[a]at g;exact g;refine AC (y? ⟨⟨f,λb=>O! (show(4:A)=0 from b) g!⟩,λb=>O! (show(4:A)=0 from b) g!⟩) (λl=>?_);refine AA (AGC (x:=x) (p:=p++DE v.1 1) ⟨f,j⟩ i (λ_=>o!)) λw o=>AB ?_;have⟨⟨s,z⟩,t⟩:=o;refine⟨⟨s,λb=>?_⟩,λb=>?_⟩;grind[aI,DE,t?];dsimp only at b⊢;have⟨u,_⟩:=t b;exact⟨d!,.inl rfl⟩
def Zv{x p a:Bc}{n}{k}(e:x=p++(DE n k++a))(d:Z x<=1099511627776)(b:1<=k)(c:k<=8)(hn:gR k n):BU (x,(Z p:A),0) (k:A)=D (n,x,((p++DE n k).length:A),0):=by grind[Z,n?,A0,BU,lD,s?,List.take_left',sJ,AX]
theorem AGB{x p w a:Bc}(c:x=p++(w++a))(d:Z x<=1099511627776):Dz (x,(Z p:A),0) (Z w:A)=D (w,x,((p++w).length:A),0):=by
 have b:=E! Z c;simp[Ae]at b;unfold Dz;dsimp only;rw[show((0:A) !=0)=X by decide,A!];simp only[U];rw[show τ ((Z w:A)>wi ((Z x:A)-(Z p:A)))=X from F! (by rw[AX];omega),A!];have e:US x (wi (wi ((Z p:A)+(Z w:A))-(Z w:A))) (wi ((Z p:A)+(Z w:A)))=D w:=by rw[AX (x:=(Z p:A)+(Z w:A)),AX];unfold US;rw[C! o!,c,show((Z p:A)+(Z w:A)-(Z w:A)).toNat=Z p by omega,R6,show((Z p:A)+(Z w:A)).toNat-Z p=Z w by omega,Y9]
 grind[AX,n?]
def AF9{x p a:Bc}{c}(e:x=p++(aI c++a))(i:Z x<=1099511627776)(k:Ix c):Dd (x,(Z p:A),0) ()=D (c,x,((p++aI c).length:A),0):=by
 have⟨b,d⟩:=c;have⟨j,f⟩:=k;dsimp only at j f;unfold Dd;cases b with
 |false=>
  have l:d=[]:=by rcases f with h|h;cases h;exact h
  subst l;rw[(rfl:aI (X,[])=DE 255 1)]at e⊢;rw[show(1:A)=((1:W):A)from rfl,Zv e i g! g! ⟨λ_=>g!,g!,g!⟩];rfl
 |true=>have g:aI (Y,d)=DE (Z d:A) 1++d:=rfl;rw[g,A5]at e;rw[g];rw[show(1:A)=((1:W):A)from rfl,Zv e i g! g! ⟨λ_=>by rw[show(256:A)^1=256 by decide];omega,o!⟩,AD];grind[AGB,t?]
def AJi{x:Bc}(a:Z x<=1099511627776):Ao (Fa x) λr=>r.2=0->x=B5 r.1/\Ix r.1.2.2.2.2.2.2.1.2.2.1/\Ix r.1.2.2.2.2.2.2.1.2.2.2/\gR 4 (Z r.1.2.2.2.2.2.2.2:Int)/\Cv r.1=δ Y:=by
 unfold Fa;have J:CS x [] (x,0,0):=⟨rfl,λ_=>⟨x,rfl,rfl⟩⟩
 refine AA (dN (k:=8) J a g! g!) λP z=>AA (dN (k:=1) z.1 a g! g!) λQ A=>AA (dN (k:=4) A.1 a g! g!) λR B=>AA (dN (k:=8) B.1 a g! g!) λS C=>AA (dN (k:=8) C.1 a g! g!) λT D=>AA (dN (k:=8) D.1 a g! g!) λU E=>AA (dN (k:=4) E.1 a g! g!) λV F=>AA (dN (k:=1) F.1 a g! g!) λW G=>EE (AGA G.1 a) λs N p=>EE (AGA p.1 a) λt y q=>AA (dN (k:=4) q.1 a g! g!) λl b=>AA (AGC (n:=l.1) b.1 a (λc=>?_)) λK f=>?_;have:=(b.2.1 c).1 g!;rw[show(256:Int)^4=4294967296 by decide]at this;exact this;refine AK (λi=>AB λc=>O! c i) (λi=>AK (y? n!) (λH=>EE (Cf) λL j _=>AP (y? n!) (λI=>AB λ_=>?_)));subst I;obtain⟨g,d⟩:=f.2 i;have m:t.2.2.2=0:=R5 λe=>by have:=b.2.2 e;rw[this]at d;exact e d
 have v:=q.2 m;have M:s.2.2.2=0:=R5 λe=>by
  have:t=((X,[]),s.2):=by have:=y;unfold Dd BU at this;rw[bne_iff_ne.2 e,B!,AD,bne_iff_ne.2 e,B!]at this;injection this with this;exact this.symm
  rw[this]at m;exact e m
 have u:=p.2 M;obtain⟨h,o,O⟩:=f.1.2 i;have hr:h=[]:=by simp only[len]at H;have w:=E! Z o;rw[Ae]at w;exact EX o!
 subst hr;refine⟨?_,u,v,?_,j⟩;rw[o];unfold B5;dsimp only;rw[g];simp only[A5,Cq,D1];dsimp only;rw[g];exact b.2.1 d
def AB5{e}(h:Ml e):Fa (B5 e)=δ (e,0):=by
 obtain⟨s,t,H,w,y,z,A,B,C,D,E⟩:=h.cells;have I:=QQ h;have g:gR 4 (Z e.2.2.2.2.2.2.2:Int):=⟨λ_=>by rw[show(256:Int)^4=4294967296 by decide];omega,o!⟩
 have a:B5 e=[]++(DE e.1 8++(DE e.2.1 1++(DE e.2.2.1 4++(DE e.2.2.2.1 8++(DE e.2.2.2.2.1 8++(DE e.2.2.2.2.2.1 8++(DE e.2.2.2.2.2.2.1.1 4++(DE e.2.2.2.2.2.2.1.2.1 1++
 (aI e.2.2.2.2.2.2.1.2.2.1++(aI e.2.2.2.2.2.2.1.2.2.2++(DE (Z e.2.2.2.2.2.2.2:Int) 4++(e.2.2.2.2.2.2.2++[])))))))))))):=by rw[D1];rfl
 generalize B5 e=x at*;have i:BU (x,((0:Int)),0) 8=_:=Zv (p:=[]) (k:=8) a o! g! g! w;rw[Cq]at i;rw[Cq]at a;have j:=Zv (k:=1) a o! g! g! y;rw[<-A5]at a;have l:=Zv (k:=4) a o! g! g! z;rw[<-A5]at a;have m:=Zv (k:=8) a o! g! g! A;rw[<-A5]at a;have n:=Zv (k:=8) a o! g! g! B;rw[<-A5]at a;have o:=Zv (k:=8) a o! g! g! C;rw[<-A5]at a;have q:=Zv (k:=4) a o! g! g! D;rw[<-A5]at a;have r:=Zv (k:=1) a o! g! g! E;rw[<-A5]at a;have F:=AF9 a o! s;rw[<-A5]at a;have G:=AF9 a o! t;rw[<-A5]at a;have c:=Zv (k:=4) a o! g! g! g;rw[<-A5]at a;have d:=AGB a o!;rw[D1]at a;rw[<-a]at d;unfold Fa;rw[i,AD];rw[show((1:W):Int)=1 from rfl]at j r;rw[show((4:W):Int)=4 from rfl]at l q c;rw[show((8:W):Int)=8 from rfl]at m n o;rw[j,AD,l,AD,m,AD,n,AD,o,AD,q,AD,r,AD,F,AD,G,AD,c,AD,d,AD];obtain⟨b,u,v⟩:=Cf (x:=e);have f:b=Y:=v.2 h;subst f;dsimp only[U];rw[show((0:Int) !=0)=X by decide,A!,H!,A!];rw[show(e.1,e.2.1,e.2.2.1,e.2.2.2.1,e.2.2.2.2.1,e.2.2.2.2.2.1,(e.2.2.2.2.2.2.1.1,e.2.2.2.2.2.2.1.2.1,e.2.2.2.2.2.2.1.2.2.1,e.2.2.2.2.2.2.1.2.2.2),e.2.2.2.2.2.2.2)=e from rfl,u,AD,Ce,A!]
def Hw(l:E AI):Bc:=(l.map λe=>HD (B5 e)).flatten
theorem QR(l:E AI)(e:AI):Hw (l++[e])=Hw l++HD (B5 e):=by unfold Hw;grind
theorem mD(e:AI)(l:E AI):Hw (e::l)=HD (B5 e)++Hw l:=rfl
def nJ{l:E AI}(h:∀e∈l,Ml e):(Hw l).length<=8400*Z l:=by
 induction l with
 |nil=>exact Am _
 |cons e r b=>have c:=b λx a=>h x (A3.2 (.inr a));have d:=QQ (h e (A3.2 (.inl rfl)));rw[mD,Ae,EA,CY];omega
def ADs{x p a:Bc}{at_:A}{k:W}(c:x=p++a)(e:at_=Z p)(l:Z x≤1099511627776)(j:1≤k)(f:k≤8)(g:k≤Z a):
  ∃n b,Ay (x,at_,(k:A))=D (n,0)/\By (x,at_,(k:A))=D (n,0)/\x=(p++DE n k)++b/\gR k n/\Z b+k=Z a:=by
 have d:=E! Z c;rw[Ae]at d;obtain⟨h,i⟩:=uK (t:=a) g f;refine⟨rd (a.take k),a.drop k,?_,?_,?_,h,?_⟩;rw[c,e,lD o! o! o!,C! o!,C5];rw[c,e,Yo o! o! o!,C! o!,C5];rw[i,A5,Cr];exact c;rw[Dr];omega
def mM{x p rest:Bc}{at_ n:A}{k}(a:x=p++(DE n k++rest))(d:at_=Z p)(f:Z x≤1099511627776)(e:1≤k)(c:k≤8)(hn:gR k n):
  Ay (x,at_,(k:A))=D (n,0)/\By (x,at_,(k:A))=D (n,0):=by
 have b:=E! Z a;simp only[Ae,A0]at b;refine⟨?_,?_⟩;rw[a,d,lD (by rw[Ae,A0];omega) o! o!,C! (by rw[Ae,A0];omega),C5,El (A0 _ _),sJ c hn];rw[a,d,Yo (by rw[Ae,A0];omega) o! o!,C! (by rw[Ae,A0];omega),C5,El (A0 _ _),sJ c hn]
def aO{x:List Av×Int×Bool×Cy}{s:Int×List Av}(h:0<=s.1/\s.1<=θ x.1/\θ x.1<=16777216/\θ s.2<=s.1):Ao (Ad (O1 x) s) λr=>θ r<=θ x.1:=by
 refine AW (λ(s:Int×List Av)=>0<=s.1/\s.1<=θ x.1/\θ x.1<=16777216/\θ s.2<=s.1) (λ(s:Int×List Av)=>((θ x.1:Int)-s.1).toNat) h (λs b=>?_);unfold O1;exact x!
def K5{x:E Av×A×Bool×Cy}(h:Z x.1<=16777216):Ao (GK x) λr=>Z r<=Z x.1:=by
 unfold GK;exact x!
def aL{x:A9×Int}{s:Int}(h:0<=s/\s<=θ x.1.1/\(θ x.1.1:Int)<=16777216/\0<=x.2/\x.2<θ x.1.2):Ao (Ad (Ox x) s) λr=>True:=by
 refine AW (λ(s:Int)=>0<=s/\s<=θ x.1.1/\(θ x.1.1:Int)<=16777216/\0<=x.2/\x.2<θ x.1.2) (λ(s:Int)=>((θ x.1.1:Int)-s).toNat) h (λs a=>?_);unfold Ox;exact x!
def aM{x:A9×A}{s:A}(h:0<=s/\s<=x.2/\(x.2:A)<=16777216/\0<=x.2/\x.2<Z x.1.2):Ao (Ad (Oy x) s) λr=>z:=by
 refine AW (λs=>0<=s/\s<=x.2/\(x.2:A)<=16777216/\0<=x.2/\x.2<Z x.1.2) (λs=>((x.2:A)-s).toNat) h (λs a=>?_);unfold Oy;exact x!
def jE{x:A9×A}(h:Z x.1.1<=4096/\Z x.1.2<=4096)(b:0<=x.2/\x.2<Z x.1.2):Ao (NM x) λr=>z:=by
 unfold NM;exact x!
def aN{x:List Av×Av}{s:Bool×Int×List Av}(h:0<=s.2.1/\s.2.1<=θ x.1/\θ x.1<=4096/\θ s.2.2<=s.2.1+1/\(s.1=η->(θ s.2.2:Int)<=s.2.1)):Ao (Ad (O0 x) s) λr=>θ r.2<=θ x.1+1/\(r.1=η->θ r.2<=θ x.1):=by
 refine AW (λ(s:Bool×Int×List Av)=>0<=s.2.1/\s.2.1<=θ x.1/\θ x.1<=4096/\θ s.2.2<=s.2.1+1/\(s.1=η->(θ s.2.2:Int)<=s.2.1)) (λ(s:Bool×Int×List Av)=>((θ x.1:Int)-s.2.1).toNat) h (λs c=>?_);unfold O0;repeat' with_reducible first|intro a|apply AC|apply AP|apply AK|(apply BA;try dsimp only)|apply Bi|apply B0|apply AB|(apply AA (Vw);intro r hr)|(refine AM ?_ (AE ?_ ?_);rintro r ⟨hr,f⟩)|(refine AM ?_ (Ac ?_);rintro r ⟨hr,d,b⟩)
 all_goals try (have e:=AX (x:=s.2.1+1))
 all_goals (first|omega|grind)
def jF{x:E Av×Av}(h:Z x.1<=4096):Ao (NN x) λr=>Z r<=Z x.1+1:=by
 unfold NN;exact x!
theorem Ye{B:Nat}(i:B<=2000){s:Int×A9}(h:0<=s.1/\s.1<=s.2.2.length/\s.2.1.length+s.2.2.length<=B):Ao (Ad Sf s) λr=>r.1.length+r.2.length<=B:=by
 refine AW (λs=>0<=s.1/\s.1<=s.2.2.length/\s.2.1.length+s.2.2.length<=B) (λs=>s.2.2.length*3000+((s.2.2.length:Int)-s.1).toNat) h (λs d=>?_);have⟨b,e,c⟩:=d;refine AC (λa=>?_) (λa=>AB c);simp[len]at a;refine AA (jE (by dsimp only;omega) ⟨b,a⟩) λv _=>?_;refine AA (P:=λv:Int×A9=>(v=s)\/(v.1= -1/\v.2.1.length<=s.2.1.length+1/\v.2.2.length+1=s.2.2.length)) ?_ λm g=>?_
 ·refine AJ (λ_=>?_) (λ_=>AB (.inl rfl));refine AA (AE b a) λj _=>?_;refine AA (jF (by dsimp only;omega)) λk c=>?_;refine AA (Bs (by omega) b (by omega)) λl f=>?_;grind[AX,AA,Bs,Ac,AB]
 ·grind[AB,AX]
def Jc{B:W}{x:A9}(a:B<=2000)(h:Z x.1+Z x.2<=B):Ao (Fc x) λr=>Z r.1+Z r.2<=B:=by exact AA (Ye a ⟨k!,k!,h⟩) λr hr=>AB hr
theorem GG.of{x:A9}{B:Nat}(a:B<=2000)(h:x.1.length+x.2.length<=B):GG x:=⟨by omega,by omega⟩
def GG.nil:GG (([],[]):A9):=⟨k!,k!⟩
def Ms{x:A9×A}(h:GG x.1):Ao (Hd x) λr=>GG r:=by refine AA (FG h) λv d=>AP (y? h) (λc=>?_);have g:=d c;refine AA (K5 h.1) λa e=>AA (K5 h.2) λb f=>AA (Jc (B:=1024) g! ?_) λr hr=>AB (GG.of g! hr);grind[bO]
def cX{x:A9×A}(h:GG x.1):Ao (Pv x) λr=>GG r:=by refine AA (FG h) λv c=>AP (y? h) (λa=>?_);have e:=c a;refine AA (K5 h.2) λb d=>AA (Jc (B:=1024) g! ?_) λr hr=>AB (GG.of g! hr);grind[bO]
def Vv{x:A9×A×Cy}(h:GG x.1):Ao (NK x) λr=>GG r:=by refine AA (FG h) λv c=>AP (y? h) (λa=>?_);have e:=c a;refine AA (K5 h.1) λb d=>AA (Jc (B:=1024) g! ?_) λr hr=>AB (GG.of g! hr);grind[bO]
def X9{x:A9×Int}{s:Int×Av}(h:0<=s.1/\s.1<=θ x.1.2/\θ x.1.2<=16777216):Ao (Ad (Ln x) s) λr=>True:=by
 refine AW (λ(s:Int×Av)=>0<=s.1/\s.1<=θ x.1.2/\θ x.1.2<=16777216) (λ(s:Int×Av)=>((θ x.1.2:Int)-s.1).toNat) h (λs b=>?_);unfold Ln;exact x!
def Im{x:A9×A}(h:GG x.1):Ao (FH x) λr=>r.2=Y->bO x.1:=by
 unfold FH;exact x!
def Zc{x:A9×Av}{s:Int}(h:0<=s/\s<=θ x.1.2/\(θ x.1.2:Int)<=16777216/\θ x.1.1<=16777216):Ao (Ad (N2 x) s) λr=>∀u,r=.inl u->0<=u/\u<=θ x.1.2:=by
 refine AW (λ(s:Int)=>0<=s/\s<=θ x.1.2/\(θ x.1.2:Int)<=16777216/\θ x.1.1<=16777216) (λ(s:Int)=>((θ x.1.2:Int)-s).toNat) h (λs a=>?_);unfold N2;exact x!
def fe{x:A9×Av}(h:GG x.1):Ao (I5 x) λr=>0<=r/\r<=Z x.1.2:=by
 unfold I5;exact x!
def aK{x:A9×Av}(h:GG x.1):Ao (Ow x) λr=>GG r.1:=by refine AA (FG h) λv o=>AP (y? GG.nil) (λl=>?_);have n:=o l;unfold bO at n;refine AA Oz λ_ _=>AP (y? GG.nil) (λ_=>AA (Im h) λz _=>?_);apply AJ<;>intro m;simp_all[AJ,AB,GG.nil];refine AJ (y? h) (λ_=>AA (IH h.1) λ_ _=>AJ (y? h) (λ_=>AJ (y? GG.nil) (λ_=>AA (fe h) λp e=>AA (Bs o! e.1 e.2) λq j=>AA (Bs e.1 b! i!) λs a=>?_)));have f:=a.2;simp[U]at f;refine AA (Ac w!) λt b=>?_;have g:=b.2.1;simp at g;refine AA (Ac w!) λu c=>?_;have i:=c.2.1;simp at i;refine AA (Ac o!) λw k=>AA (Jc (B:=1025) g! d!) λy d=>AA (IH d!) λ_ _=>AB (GG.of g! d)
def aR{x:List Int×Int}{s:Bool×Int×List Int}(h:0<=s.2.1/\s.2.1<=θ x.1/\θ x.1<=4096/\θ s.2.2<=s.2.1+1/\(s.1=η->(θ s.2.2:Int)<=s.2.1)):Ao (Ad (Ou x) s) λr=>θ r.2<=θ x.1+1/\(r.1=η->θ r.2<=θ x.1):=by
 refine AW (λ(s:Bool×Int×List Int)=>0<=s.2.1/\s.2.1<=θ x.1/\θ x.1<=4096/\θ s.2.2<=s.2.1+1/\(s.1=η->(θ s.2.2:Int)<=s.2.1)) (λ(s:Bool×Int×List Int)=>((θ x.1:Int)-s.2.1).toNat) h (λs b=>?_);unfold Ou;repeat' with_reducible first|intro a|apply AC|apply AP|apply AK|apply AJ|(apply BA;try dsimp only)|apply Bi|apply B0|apply AB|(refine AM ?_ (AE ?_ ?_);rintro r ⟨hr,g⟩)|(refine AM ?_ (Ac ?_);rintro r ⟨hr,f,d⟩)
 all_goals try dsimp[len]at*
 all_goals try (have e:=AX (x:=s.2.1+1))
 all_goals try (have c:=b.2.2.2.2 v!)
 all_goals (try simp[CY,CO,Bool.true_eq_false,false_implies,and_true]at*)
 all_goals first|omega|grind
def Pz{x:E A×A}(h:Z x.1<=4096):Ao (FQ x) λr=>Z r<=Z x.1+1:=by
 unfold FQ;exact x!
def YA{x:A9}{s:List Int×Int}(h:0<=s.2/\s.2<=θ x.2/\θ x.2<=4096/\θ s.1<=s.2):Ao (Ad (Lo x) s) λr=>θ r<=θ x.2:=by
 refine AW (λ(s:List Int×Int)=>0<=s.2/\s.2<=θ x.2/\θ x.2<=4096/\θ s.1<=s.2) (λ(s:List Int×Int)=>((θ x.2:Int)-s.2).toNat) h (λs b=>?_);unfold Lo;exact x!
def aQ{x}(h:GG x):Ao (KH x) λr=>Z r<=4096:=by
 unfold KH;exact x!
theorem cY{x:A9×Int}{b:Av×Bool}{s:List Int×Int}(h:0<=s.2/\s.2<=θ x.1.1/\θ x.1.1<=1024/\θ s.1<=s.2):Ao (Ad (Pw x b) s) λr=>θ r<=θ x.1.1:=by
 refine AW (λ(s:List Int×Int)=>0<=s.2/\s.2<=θ x.1.1/\θ x.1.1<=1024/\θ s.1<=s.2) (λ(s:List Int×Int)=>((θ x.1.1:Int)-s.2).toNat) h (λs c=>?_);unfold Pw;exact x!
theorem cZ{x:A9×Int}{b:Av×Bool}{s:List Int×Int}(h:0<=s.2/\s.2<=θ x.1.2/\θ x.1.2<=1024/\θ s.1<=s.2+1024):Ao (Ad (Px x b) s) λr=>θ r<=4096:=by
 refine AW (λ(s:List Int×Int)=>0<=s.2/\s.2<=θ x.1.2/\θ x.1.2<=1024/\θ s.1<=s.2+1024) (λ(s:List Int×Int)=>((θ x.1.2:Int)-s.2).toNat) h (λs c=>?_);unfold Px;exact x!
def MK{x:A9×A}(h:GG x.1):Ao (IY x) λr=>Z r<=4096:=by unfold IY;refine AA (Im h) λc b=>AP (y? k!) (λa=>?_);grind[bO,AA,cY,cZ,AB]
theorem Q8{x:A9×List Int×Int}{a:List Int}{s:Int}(h:0<=s/\s<=θ a/\(θ a:Int)<=16777216/\1<=θ x.2.1/\θ x.2.1<=4096):Ao (Ad (Mt x a) s) λr=>∀u,r=.inl u->u=x.2.1:=by
 refine AW (λ(s:Int)=>0<=s/\s<=θ a/\(θ a:Int)<=16777216/\1<=θ x.2.1/\θ x.2.1<=4096) (λ(s:Int)=>((θ a:Int)-s).toNat) h (λs c=>?_);unfold Mt;exact x!
def Yf{x:A9×List Int×Int}{b:Int}{s:Bool×Int}(h:0<=s.2/\s.2<=θ x.2.1/\θ x.2.1<=4096):Ao (Ad (Mu x b) s) λr=>True:=by
 refine AW (λ(s:Bool×Int)=>0<=s.2/\s.2<=θ x.2.1/\θ x.2.1<=4096) (λ(s:Bool×Int)=>((θ x.2.1:Int)-s.2).toNat) h (λs c=>?_);unfold Mu;exact x!
def AHC(d:Nat){x:A9×List Int×Int}(h:GG x.1)(o:1<=θ x.2.1)(A_:(θ x.2.1:Int)+d=x.2.2)(p:x.2.2<=4096):Ao (pp Em (d+1) x) λr=>θ r<=4096:=by
 induction d generalizing x with
 |zero=>show Ao (Em _ x) _;unfold Em;have e:=AX (x:=(θ x.2.1:Int)-1);refine AA (AE (by simp[len];rw[e];omega) (by simp[len];rw[e];omega)) λv _=>AA (MK h) λm f=>AT (λ_=>?_) (λc=>O! (by simp[len];omega) c);refine AA (Q8 ⟨k!,k!,o!,o,o!⟩) λr hr=>BE (λu a=>AB (by rw[hr u a];omega)) (λ_ _=>AB k!)
 |succ d t=>show Ao (Em _ x) _;unfold Em;have e:=AX (x:=(θ x.2.1:Int)-1);refine AA (AE (by simp[len];rw[e];omega) (by simp[len];rw[e];omega)) λv _=>AA (MK h) λm f=>AT (λ_=>?_) (λ_=>?_);grind[AA,Q8,BE,AB];refine AA (P:=λr=>∀u,r=.inl u->θ u<=4096) ?_ λr hr=>BE (λu a=>AB (hr u a)) (λ_ _=>AB k!);refine AW (λ(s:Int)=>0<=s/\s<=θ m) (λ(s:Int)=>((θ m:Int)-s).toNat) (s:=(0:Int)) ⟨g!,o!⟩ (λs q=>?_);unfold Sg;have b:=AX (x:=s+1);refine AC (λc=>?_) (λ_=>AB (λu a=>by cases a));simp[len]at c;refine AA (AE q.1 c) λB _=>AA (Yf ⟨k!,k!,o!⟩) λw _=>AJ (λ_=>AB ⟨by rw[b];omega,by rw[b];omega⟩) (λ_=>AA (Ac w!) λy g=>?_);have k:=g.2.1;simp[CO]at k;refine AA (Ac w!) λn i=>?_;have l:=i.2.1;simp[CY,CO]at l;refine AA (t (x:=(x.1,n,x.2.2)) h d! d! p) λz j=>AC (λ_=>AB λu a=>by cases a;exact j) (λ_=>AB ⟨by rw[b];omega,by rw[b];omega⟩)
def cj{x:A9×E A×A}(h:GG x.1)(a:1<=Z x.2.1)(d:(Z x.2.1:A)<=x.2.2)(b:x.2.2<=4096):Ao (Py x) λr=>z:=by have⟨r,hr,_⟩:=AHC (x.2.2-Z x.2.1).toNat h a o! b;have⟨s,c⟩:=iu hr;exact⟨s,c,P!⟩
def ff{x:A9×A}(h:GG x.1):Ao (MJ x) λr=>z:=by unfold MJ;refine AA (P:=λ_=>z) ?_ λr _=>BE (λ_ _=>AB trivial) (λ_ _=>AB trivial);refine AW (λs=>1<=s/\s<=4097) (λs=>(4097-s).toNat) ⟨g!,g!⟩ (λs d=>?_);unfold TU;have a:=AX (x:=s+1);refine AA (aQ h) λe c=>AC (λb=>?_) (y? trivial);simp[U]at b;refine AA (cj h k! (by show(1:A)<=s;omega) (by show s<=4096;omega)) λf _=>AC (y? trivial) (y? ⟨by rw[a];omega,by rw[a];omega⟩)
def TP(l:E Ak):W:=(l.map λt=>Z t.2.2.2.2.1+1).sum
theorem AI1{l:E Ak}{i:W}{o n:Ak}(h:l[i]?=D o):TP (l.set i n)+Z o.2.2.2.2.1=TP l+Z n.2.2.2.2.1:=by
 induction l generalizing i with
 |nil=>simp at h
 |cons t r a=>
  cases i with
  |zero=>simp at h;subst h;simp[TP];omega
  |succ i=>have:=a (i:=i) (by simpa using h);simp[TP,List.set_cons_succ,Bz,Wu]at*;omega
def we{l:E Ak}{id:A}:TP (l.filter λt=>t.1 !=id)<=TP l:=by
 induction l with
 |nil=>simp
 |cons t r a=>simp[LR];split;simp[TP,Bz,Wu]at*;omega;simp[TP,Bz,Wu]at*;omega
def yH{l:E Ak}{id:A}{i:W}{t:Ak}(h:l[i]?=D t)(a:t.1=id):TP (l.filter λt=>t.1 !=id)<TP l:=by
 induction l generalizing i with
 |nil=>simp at h
 |cons u r b=>
  have q:=we (l:=r) (id:=id);cases i with
  |zero=>simp at h;subst h;simp[LR,a,H!,Qf,if_false];simp[TP,Bz,Wu]at*;omega
  |succ i=>have:=b (i:=i) (by simpa using h);simp[LR];split<;>(simp[TP,Bz,Wu]at*;omega)
def Zf{x:List Ak×Int}{s:Int×List Ak}(h:0<=s.1/\s.1<=θ x.1/\θ x.1<=64/\θ s.2=s.1):Ao (Ad (N4 x) s) λr=>θ r<=θ x.1:=by
 refine AW (λ(s:Int×List Ak)=>0<=s.1/\s.1<=θ x.1/\θ x.1<=64/\θ s.2=s.1) (λ(s:Int×List Ak)=>((θ x.1:Int)-s.1).toNat) h (λs c=>?_);unfold N4;exact x!
def O4{x}:Ao (I9 x) λr=>r.2=0->Z r.1=Z x.1+1/\Z r.1<=64:=by
 unfold I9;exact x!
def AEF(l:E Ak)(id:A):E Ak:=l.filter λt=>t.1 !=id
theorem qR(l:E Ak)(id:A):(AEF l id).length<=Z l:=EV _ _
theorem AH1(l:E Ak)(id:A):TP (AEF l id)<=TP l:=we
theorem AH2{l:E Ak}{id:A}{i:W}{t:Ak}(h:l[i]?=D t)(a:t.1=id):TP (AEF l id)<TP l:=yH h a
def nI{a:Type}{l:E a}{n:A}{p:a->Bool}{x:a}(b:0<=n)(c:l[ο n]?=D x):(l.take (n+1).toNat).filter p=(l.take (ο n)).filter p++(if p x=Y then [x]else []):=by
 have e:(n+1).toNat=ο n+1:=o!
 grind[List.take_add_one,Option.toList_some]
def pk{a:Type}{l:E a}{n:A}{p:a->Bool}(b:0<=n):(((l.take (ο n)).filter p).length:A)<=n:=by grind[List.length_filter_le,r?]
def Yl{x:List Ak×Int}{s:Int×List Ak}(h:0<=s.1/\s.1<=θ x.1/\θ x.1<=16777216/\s.2=(x.1.take s.1.toNat).filter (λt=>t.1 !=x.2)):Ao (Ad (Mx x) s) λr=>r=x.1.filter λt=>t.1 !=x.2:=by
 refine AW (λ(s:Int×List Ak)=>0<=s.1/\s.1<=θ x.1/\θ x.1<=16777216/\s.2=(x.1.take s.1.toNat).filter (λt=>t.1 !=x.2)) (λ(s:Int×List Ak)=>((θ x.1:Int)-s.1).toNat) h (λs f=>?_);unfold Mx;have⟨b,i,e,c⟩:=f;have a:=pk (l:=x.1) (p:=λt:Ak=>t.1 !=x.2) b;rw[<-c]at a;repeat' with_reducible first|intro d|apply AC|apply AK|apply AJ|(apply BA;try dsimp only)|apply Bi|apply B0|apply AB|(refine AM ?_ (AE ?_ ?_);rintro r ⟨hr,k⟩)|(refine AM ?_ (Ac ?_);rintro r ⟨hr,j,g⟩)
 all_goals dsimp[len]at*
 all_goals first|omega|(rw[(AX (x:=s.1+1))];refine⟨⟨o!,o!,e,?_⟩,o!⟩;rw[nI b v!];grind)|(rw[c,BG o!])|(simp;omega)
def Je{x:E Ak×A}(h:Z x.1<=16777216):Ao (Gi x) λr=>r=AEF x.1 x.2:=by
 unfold Gi AEF
 exact x!
def N6{x:Ak}(h:Z x.2.2.2.2.1<=16777216):Ao (IM x) λr=>r.1=x.1/\r.2.2.2.2=x.2.2.2.2:=by
 unfold IM;exact x!
def MO{x:E Ak×A×Ak}(h:Z x.1<=16777216)(a:0<=x.2.1/\x.2.1<Z x.1):Ao (Ia x) λr=>r=x.1.set x.2.1.toNat x.2.2:=by unfold Ia;refine AA (Ac (by simpa using h)) λr hr=>?_;have⟨hr,b,_⟩:=hr;rw[Cq]at hr;subst hr;refine AA (AE a.1 a.2) λ_ _=>AA (AE a.1 a.2) λ_ _=>AB rfl
def Si{x:List Ak×AI}{a:Ak}{s:Int×List Int}(h:0<=s.1/\s.1<=θ a.2.2.2.2.1/\θ a.2.2.2.2.1<=4096/\θ s.2<=s.1):Ao (Ad (O5 x a) s) λr=>θ r<=θ a.2.2.2.2.1:=by
 refine AW (λ(s:Int×List Int)=>0<=s.1/\s.1<=θ a.2.2.2.2.1/\θ a.2.2.2.2.1<=4096/\θ s.2<=s.1) (λ(s:Int×List Int)=>((θ a.2.2.2.2.1:Int)-s.1).toNat) h (λs d=>?_);unfold O5;exact x!
def lE(l:E Ak)(id:A):Prop:=∃(j:W)(t:Ak),l[j]?=D t/\t.1=id
theorem lE.set{l:E Ak}{i:W}{n:Ak}{id:A}(h:i<Z l)(hn:n.1=id):lE (l.set i n) id:=⟨i,n,by rw[GY h],hn⟩
def ACX(l:E Ak)(kind tx:A)(m:E Ak):Prop:=Z m<=Z l/\(tx=0->m=l)/\(tx≠0->kind≠1->(kind≠4->TP m<TP l)/\TP m<=TP l)/\(tx≠0->kind=4->lE m tx)
def jI{x}:Ao (GL x) λr=>r.2=0->ACX x.1 x.2.2.1 x.2.2.2.1 r.1:=by
 unfold GL;repeat' with_reducible first|intro a|apply AC|apply AP|apply AT|apply AK|apply AJ|(apply BA;try dsimp only)|apply Bi|apply B0|apply LN|(apply BB;try dsimp only)|(apply Au;try dsimp only)|(apply BE<;>(intro u c;try subst c))|apply AB|(apply AA (Du);intro r hr)|(apply AA (Cf);intro r hr)|(refine AM ?_ (IL ?_);intro r hr)|(refine AM ?_ (Si ?_);intro r hr)|(refine AM ?_ (Je ?_);intro r hr)|(refine AM ?_ (N6 ?_);intro r hr)|(refine AM ?_ (MO ?_ ?_);intro r hr)|(refine AM ?_ (AE ?_ ?_);rintro r ⟨hr,f⟩)|(refine AM ?_ (Ac ?_);rintro r ⟨hr,e,b⟩)
 all_goals dsimp[U]at*
 all_goals first|omega|(intro d;exact O! d g!)|(unfold Z3 VTx at*;(first|omega|grind[ACX,AI1,AH2,AH1,qR,List.length_set,lE.set]))
variable {B:Int->Prop}
def Tb{x}:Ao (IK x) λr=>r.2=0->Z3 x.1/\0<=r.1/\r.1<Z x.1:=by
 unfold IK;exact x!
def jJ{x}:Ao (NQ x) λr=>r.2=0->Z r.1<=64:=by
 unfold NQ;repeat' with_reducible first|intro a|apply AT|apply AK|apply AJ|apply AB|(apply AA (Tb);intro r hr)|(refine AM ?_ (MO ?_ ?_);intro r hr)|(refine AM ?_ (AE ?_ ?_);rintro r ⟨hr,e⟩)|(refine AM ?_ (Ac ?_);rintro r ⟨hr,d,b⟩)
 all_goals try dsimp[U]at*
 all_goals first|omega|(intro c;exact O! c v!)|grind[Z3,VTx,List.length_set]
def jH{x}:Ao (NP x) λr=>r.2=0->Z r.1<=64:=by
 unfold NP;repeat' with_reducible first|intro a|apply AC|apply AK|apply AJ|apply AB|(apply AA (Tb);intro r hr)|(refine AM ?_ (N6 ?_);intro r hr)|(refine AM ?_ (MO ?_ ?_);intro r hr)|(refine AM ?_ (AE ?_ ?_);rintro r ⟨hr,e⟩)|(refine AM ?_ (Ac ?_);rintro r ⟨hr,b,c⟩)|(refine AM ?_ (Bs ?_ ?_ ?_);rintro r ⟨hr,b⟩)
 all_goals try dsimp[U]at*
 all_goals first|omega|(intro d;exact O! d v!)|grind[Z3,VTx,List.length_set,AX]
def kq{x:Bt×A×BP}(h:Z x.1<=16777216)(a:0<=x.2.1/\x.2.1<Z x.1):Ao (OU x) λr=>r=x.1.set x.2.1.toNat x.2.2:=by unfold OU;refine AA (Ac (by simpa using h)) λr hr=>?_;have⟨hr,b,_⟩:=hr;rw[Cq]at hr;subst hr;refine AA (AE a.1 a.2) λ_ _=>AA (AE a.1 a.2) λ_ _=>AB rfl
theorem P1{x:Bt×AI}:Ao (He x) λr=>r.2=0->r.1.length=x.1.length/\(x.2.2.1≠7->r.1=x.1)/\(x.2.2.1=7->0<=x.2.2.2.2.2.2.2.1.1/\ ∃w,x.1[x.2.2.2.2.2.2.2.1.1.toNat]? =some w/\r.1=x.1.set x.2.2.2.2.2.2.2.1.1.toNat ((if x.2.2.2.2.2.2.1>w.1 then x.2.2.2.2.2.2.1 else w.1),w.2)):=by
 unfold He;refine AA GA λv i=>?_;refine AP (λa=>AB (λb=>absurd b (by decide))) (λa=>?_);refine AA Cf λl k=>?_;refine AP (λa=>AB (λb=>absurd b (by decide))) (λf=>?_);refine AK (λa=>AB λ_=>⟨rfl,λ_=>rfl,λe=>absurd e a⟩) (λd=>?_);have i:Ml x.2:=by grind
 have c:0<=x.2.2.2.2.2.2.2.1.1:=by grind[Ml,WM,Pc,Qy]
 refine AC (λa=>AB (λb=>absurd b (by decide))) (λg=>?_);simp[len]at g;refine AA (AE c (by omega)) λw j=>?_;refine AA (kq (by have:=(by grind:oM x.1).2;dsimp only;omega) ⟨c,by dsimp only;omega⟩) λu h=>AB λ_=>?_;subst h;exact⟨by simp,λe=>absurd d e,λ_=>⟨c,w,j.1,rfl⟩⟩
def LA{x:AQ×A}(h:SB x.1):Ao (Ee x) λr=>Bf x.1=D Y->KP x.1.1 x.1.2.2.1.2.1 x.1.2.2.2.1.2.1 x.1.2.2.2.2.2.2.2 x.1.2.2.2.2.2.2.1->0<=x.2->x.2<x.1.1->r=BW x.1.2.2.1.2.1 x.2:=by unfold Ee;refine EE (B3 h) λv u t=>AP (λa=>AB λe=>?_) (λa=>?_);rw[u,a]at e;cases e;refine AC (λa=>AB λ_ _ p=>O! p o!) (λp=>AC (λa=>AB λ_ _ _ q=>O! q o!) (λq=>AA I7 λg s=>AJ (λa=>AB λ_ c d j=>?_) (λk=>?_)));have⟨_,_,_,e,f,n,b⟩:=s.1 a;have:=(c x.2 d j).1 f n (by rw[b];exact e);rw[b]at this;rw[this];exact Kh _ _;refine AA (KM h) λl o=>AJ (λa=>AB λ_ c d j=>(c x.2 d j).2.1 _ (o.1 a).1 (o.1 a).2) (λm=>AA (AE o! (by have:=(t a).2.2.2.2.2.2.2;omega)) λr hr=>AB λ_ c d j=>?_);exact((c x.2 d j).2.2 r hr.1).2 (o.2 m) λf n e=>by have⟨i,w⟩:=Cu n;exact O! ⟨i,f,w,e⟩ (s.2 k (t a).2.2.2.1)
def LX(a b:Aa):Prop:=b.1=a.1/\a.2.2<=b.2.2/\∃t,b.2.1=a.2.1++t
def LX.refl(a:Aa):LX a a:=⟨rfl,AY _,[],k!⟩
def LX.trans{a b c}(h:LX a b)(g:LX b c):LX a c:=by have⟨i,k,t,j⟩:=h;have⟨d,f,u,e⟩:=g;exact⟨d.trans i,dR k f,t++u,by rw[e,j,A5]⟩
def LX.get{a b}(h:LX a b){i:W}{e:AI}(f:a.2.1[i]?=D e):b.2.1[i]?=D e:=by have⟨c,_,t,d⟩:=h;grind[List.getElem?_append_left,Nat.lt_or_ge,u?]
def AK5(k:AQ)(z:AI)(m:AQ):Prop:=
 ∃e,m.2.2.1.2.1=k.2.2.1.2.1++[e]/\e.1=k.2.2.1.1+Z k.2.2.1.2.1/\e.2.1=z.2.1/\e.2.2.2.2.2=z.2.2.2.2.2/\
  (KP k.1 k.2.2.1.2.1 k.2.2.2.1.2.1 k.2.2.2.2.2.2.2 k.2.2.2.2.2.2.1->(e.2.1=1\/e.2.1=2)->0<=e.2.2.2.2.2.2.1.1->e.2.2.2.2.2.2.1.1<k.1->e.2.2.2.2.1=BW k.2.2.1.2.1 e.2.2.2.2.2.2.1.1)/\
  (z.2.1≠7->m.2.2.2.2.2.2.1=k.2.2.2.2.2.2.1)/\
  (z.2.1=7->0<=z.2.2.2.2.2.2.1.1/\∃w,k.2.2.2.2.2.2.1[z.2.2.2.2.2.2.1.1.toNat]?=D w/\m.2.2.2.2.2.2.1=k.2.2.2.2.2.2.1.set z.2.2.2.2.2.2.1.1.toNat ((if z.2.2.2.2.2.1>w.1 then z.2.2.2.2.2.1 else w.1),w.2))
def AA8(k:AQ)(z:AI)(m:AQ):Prop:=
 m.1=k.1/\LX k.2.2.1 m.2.2.1/\Dg m.2.2.1/\m.2.2.2.1=k.2.2.2.1/\m.2.2.2.2.1=k.2.2.2.2.1/\ACX k.2.2.2.2.2.1 z.2.1 z.2.2.1 m.2.2.2.2.2.1/\m.2.2.2.2.2.2.2=k.2.2.2.2.2.2.2/\SB m/\AK5 k z m
def Fx{x:AQ×AI}(h:SB x.1):Ao (EQ x) λr=>r.2.2=0->VK x.1/\AA8 x.1 x.2 r.1/\r.2.1=x.1.2.2.1.1+Z x.1.2.2.1.2.1:=by
 unfold EQ;refine EE (B3 h) λv q E=>AP (λa=>AB n!) (λa=>?_);have n:=E a;rw[a]at q;refine AA (P:=λs=>(∃u,s=.inl u/\u.2.1≠0)\/∃u,s=.inr u/\u.1.2.1=x.2.2.1/\u.1.2.2.1=x.2.2.2.1/\u.1.2.2.2.2.2=x.2.2.2.2.2.2) ?_ λs D_=>?_
 ·repeat' with_reducible first|intro a|apply AC|apply AP|apply AK|apply AJ|(apply BA;try dsimp only)|apply Bi|apply B0|apply LN|(apply BB;try dsimp only)|(apply Au;try dsimp only)|(apply BE<;>(intro u b;try subst b))|apply AB|(refine AM ?_ (Ec ?_);intro r hr)|(refine AM ?_ (AE ?_ ?_);rintro r ⟨hr,N⟩)
  all_goals ((try dsimp[U]at*);(try first|omega|assumption|grind[AX,SB]))
 rcases D_ with⟨u,rfl,b⟩|⟨u,rfl,b⟩;exact BB (AB λc=>O! c b);apply Au;refine AA (CD) λO A_=>AA (P:=λv:AI=>v.2.1=x.2.2.1/\v.2.2.1=x.2.2.2.1/\v.2.2.2.2.2=x.2.2.2.2.2.2/\(KP x.1.1 x.1.2.2.1.2.1 x.1.2.2.2.1.2.1 x.1.2.2.2.2.2.2.2 x.1.2.2.2.2.2.2.1->(v.2.1=1\/v.2.1=2)->0<=v.2.2.2.2.2.2.1.1->v.2.2.2.2.2.2.1.1<x.1.1->v.2.2.2.2.1=BW x.1.2.2.1.2.1 v.2.2.2.2.2.2.1.1)) ?_ λt d=>?_;refine AJ (λa=>?_) (λa=>AB ⟨b.1,b.2.1,b.2.2,λ_ n=>O! (A_.2 n) (by simp[a])⟩);exact AA (LA h) λw F=>AB ⟨b.1,b.2.1,b.2.2,λo _ G H=>F q o G H⟩;refine AA (cV) λi B=>AK (λa=>AB (O! · a)) (λa=>?_);have⟨a1,a2,a3,a4,a5,a6⟩:=B a;dsimp only at a2 a3 a4 a5 a6;refine AA (G7) λp e=>AA (jI) λI l=>AK (λa=>AB (O! · a)) (λf=>AA (P1) λJ m=>AK (λa=>AB (O! · a)) (λg=>AB λ_=>⟨n,?_⟩))
 have L:=a2.1;have M:Z i.1.2.1=Z x.1.2.2.1.2.1+1:=by rw[a3];simp
 have⟨K,y,k,z⟩:=e.1 (e.2 a1 d! d!);dsimp only at y k z;have C:p.1=(i.2.1,t.2):=by
  have:(i.2.1-i.1.1).toNat=Z x.1.2.2.1.2.1:=o!
  rw[this,a3]at k;simpa using k.symm
 have hn:=l f;have j:=(m g).2;rw[C]at hn j;dsimp only at hn j;rw[d.1,d.2.1]at hn;rw[d.1,d.2.2.1]at j;exact⟨⟨rfl,⟨a4,Int.le_of_eq a6.symm,_,a3⟩,a1,rfl,rfl,hn,rfl,⟨h.1,by have:=hn.1;have:=h.2.1;dsimp only at*;omega,h.2.2⟩,(i.2.1,t.2),a3,a5,d.1,d.2.2.1,d.2.2.2,j⟩,a5⟩
theorem AA8.ki{k m:AQ}{z:AI}(h:AA8 k z m)(b:KI B k)(a:z.2.1≠1/\z.2.1≠2/\z.2.1≠6/\z.2.1≠7/\z.2.1≠8):KI B m:=by obtain⟨a1,_,_,a4,_,_,a7,_,e,c,g,d,i,j,f,l⟩:=h;unfold KI;rw[a1,a4,a7,c,f a.2.2.2.1];rw[<-d]at a;exact⟨b.1.app ⟨λh=>by omega,λh=>by omega,λh=>by omega,by omega⟩,b.2.1.app ⟨a.1,a.2.1⟩,b.2.2⟩
def AA8.sk{k m}{z}(h:AA8 k z m)(a:SK B k)(b:z.2.1≠1/\z.2.1≠2/\z.2.1≠6/\z.2.1≠7/\z.2.1≠8):SK B m:=h.2.2.2.2.2.2.2.1.sk (h.ki a.ki b)
end Go.Pm
namespace Go.Pm
open Go Go.Ab
def DI(d:Bn):Prop:=Z d.1<=64/\(∀(i:W)(s:Bc),d.1[i]?=D s->Z s=256)/\d.2.2.1=[]/\d.2.2.2.2=[]
theorem Yd{x:Int}{s:Int×List Bc}(h:0<=s.1/\s.1<=x/\x<=64/\s.2.length=s.1/\ ∀(i:Nat) (t:Bc),s.2[i]? =some t->t=Gp (List.replicate (Int.toNat 256) 0)):Ao (Ad (Mr x) s) λr=>(r.length:Int)=x/\ ∀(i:Nat) (t:Bc),r[i]? =some t->t=Gp (List.replicate (Int.toNat 256) 0):=by
 refine AW (λ(s:Int×List Bc)=>0<=s.1/\s.1<=x/\x<=64/\s.2.length=s.1/\ ∀(i:Nat) (t:Bc),s.2[i]? =some t->t=Gp (List.replicate (Int.toNat 256) 0)) (λ(s:Int×List Bc)=>(x-s.1).toNat) h (λs c=>?_);unfold Mr;have⟨f,g,a,j,b⟩:=c;have k:(Gp (List.replicate (Int.toNat 256) 0)).length=256:=by rw[gh,GH];rfl
 repeat' with_reducible first|refine AC ?_ ?_<;>intro d|refine AJ ?_ ?_<;>intro d|refine AB ?_|(refine AM ?_ (Ac ?_);rintro r ⟨hr,l,e⟩)
 all_goals first|omega|(generalize Gp (List.replicate (Int.toNat 256) 0)=bs at*;simp;omega)|(generalize Gp (List.replicate (Int.toNat 256) 0)=bs at*;rw[(AX (x:=s.1+1) (by omega))];refine⟨⟨by omega,by omega,a,by grind,?_⟩,by omega⟩;grind)|(exact⟨by omega,b⟩)
theorem Nv{x:A}(h:0<=x/\x<=64):Ao (Pu x) λr=>(Z r:A)=x/\∀(i:W)(t:Bc),r[i]?=D t->t=Gp (ς (ο 256) 0):=by exact AA (Yd ⟨AY _,h.1,h.2,rfl,λi t a=>by simp at a⟩) λr hr=>AB hr
def kf{x}:Ao (Fs x) λr=>r.2=0->DI r.1/\Z r.1.1=x/\∀(i:W)(t:Bc),r.1.1[i]?=D t->t=Gp (ς (ο 256) 0):=by refine AC (λb=>AB n!) (λb=>AC (λb=>AB n!) (λc=>AA (Nv o!) λr hr=>AB λ_=>⟨⟨d!,λi t d=>?_,rfl,rfl⟩,hr⟩));rw[hr.2 i t d,gh,GH];rfl
def fZ{x}:Ao (MG x) λr=>z:=by
 unfold MG;exact x!
def ZV{x:Bn}{s:Int}(h:0<=s/\s<=θ x.1/\(θ x.1:Int)<=16777216):Ao (Ad (Np x) s) λr=>r≠.inl ζ:=by
 refine AW (λ(s:Int)=>0<=s/\s<=θ x.1/\(θ x.1:Int)<=16777216) (λ(s:Int)=>((θ x.1:Int)-s).toNat) h (λs b=>?_);unfold Np;exact x!
def ZW{x:Bn}{s:Int}(h:0<=s/\s<=θ x.2.2.1/\(θ x.2.2.1:Int)<=16777216):Ao (Ad (Nq x) s) λr=>r≠.inl ζ:=by
 refine AW (λ(s:Int)=>0<=s/\s<=θ x.2.2.1/\(θ x.2.2.1:Int)<=16777216) (λ(s:Int)=>((θ x.2.2.1:Int)-s).toNat) h (λs b=>?_);unfold Nq;exact x!
def ZX{x:Bn}{s:Int}(h:0<=s/\s<=θ x.2.2.2.2/\(θ x.2.2.2.2:Int)<=16777216):Ao (Ad (Nr x) s) λr=>r≠.inl ζ:=by
 refine AW (λ(s:Int)=>0<=s/\s<=θ x.2.2.2.2/\(θ x.2.2.2.2:Int)<=16777216) (λ(s:Int)=>((θ x.2.2.2.2:Int)-s).toNat) h (λs b=>?_);unfold Nr;exact x!
def fX{x:Bn}(h:Z x.2.2.1<=16777216):Ao (MF x) λr=>r=Y->1<=Z x.1/\Z x.1<=64:=by
 unfold MF;exact x!
def Nw{x:Bn×A}(h:Z x.1.2.2.1<=16777216):Ao (Gd x) λr=>r=0->0<=x.2/\x.2<Z x.1.1/\Z x.1.1<=64:=by
 unfold Gd;exact x!
def X8{x:List Int×Int}{s:Int×List Int}(h:0<=s.1/\s.1<=θ x.1/\θ x.1<=16777216/\θ s.2<=s.1):Ao (Ad (Lm x) s) λr=>θ r<=θ x.1:=by
 refine AW (λ(s:Int×List Int)=>0<=s.1/\s.1<=θ x.1/\θ x.1<=16777216/\θ s.2<=s.1) (λ(s:Int×List Int)=>((θ x.1:Int)-s.1).toNat) h (λs c=>?_);unfold Lm;exact x!
def Se{x:E A×A}(h:Z x.1<=16777216):Ao (FF x) λr=>Z r<=Z x.1:=by
 unfold FF;exact x!
def cR{x:List Int×Int}{s:Int}(h:0<=s/\s<=θ x.1/\(θ x.1:Int)<=16777216):Ao (Ad (K0 x) s) λr=>True:=by
 refine AW (λ(s:Int)=>0<=s/\s<=θ x.1/\(θ x.1:Int)<=16777216) (λ(s:Int)=>((θ x.1:Int)-s).toNat) h (λs b=>?_);unfold K0;exact x!
def kg{x:E A×A}(h:Z x.1<=16777216):Ao (Ct x) λr=>z:=by
 unfold Ct;exact x!
def jB{x:Bn×A}(h:DI x.1):Ao (NJ x) λr=>r.2=0->Z r.1=256/\0<=x.2/\x.1.1[x.2.toNat]?=D r.1:=by
 unfold NJ;exact x!
def DI.set{d}{l:E Bc}{i}{t:Bc}{u:E A}{w:A}{b:Bool}(h:DI d)(c:l=d.1)(n:Z t=256)(e:Z u<=([]:E A).length):DI (FM l i t,w,u,b,[]):=by subst c;have⟨a,f,g,k⟩:=h;refine⟨by simpa[FM]using a,λj s m=>?_,dW.1 (by simpa using e),rfl⟩;grind[FM]
theorem jC{x:Bn×Int×Bc×Int}(h:DI x.1):Ao (Rj x) λr=>r.2=0->DI r.1/\ ∃o,0<=x.2.1/\x.1.1[x.2.1.toNat]? =some o/\r.1.1=FM x.1.1 x.2.1 (x.2.2.1.take x.2.2.2.toNat++o.drop x.2.2.2.toNat):=by
 have⟨C,s,n,t⟩:=h;refine AA (Nw (by dsimp only;rw[n];simp)) λF i=>AK (λg=>AB (λa=>absurd a g)) (λg=>?_);refine AC (λ_=>AB λa=>absurd a (by decide)) (λc0=>AC (λ_=>AB λa=>absurd a (by decide)) (λB=>AK (λ_=>AB λa=>absurd a (by decide)) (λv=>?_)));have⟨b,c,E⟩:=i g;simp only[len]at v;refine AA (Ac (by simp;omega)) λw j=>AA (Ac (by rw[n];simp)) λz k=>AA (Ac (by rw[t];simp)) λA_ m=>?_;have j:w=x.1.1:=by grind
 have k:z=[]:=by grind
 have m:A_=[]:=by grind
 subst j k m;refine AA (Cj (AY _) (by omega) (by omega)) λG e=>AA (AE b c) λH _=>AA (AE b c) λq p=>?_;have D_:=s _ _ p.1;refine AA (Cj (by omega) (by simp only[len];omega) (by simp[len])) λI f=>AA (Cb (by simp only[len]at f;omega)) λJ u=>AA (AE b c) λ_ _=>AA (AE b c) λ_ _=>AA (Se (by simp)) λy d=>AB λ_=>⟨h.set rfl (by simp only[len]at f;omega) d,q,b,p.1,?_⟩
 dsimp only;rw[u.1,e.1,f.1,BG (l:=q.drop _) (by simp[len])];simp
def whole{l:E Bc}{i:W}{s o a b r:Bc}(h:U s=256)(f:∀(i:W)(s:Bc),l[i]?=D s->Z s=256)(hr:r=a++b)(c:a=List.take (ο 256-ο 0) (List.drop (ο 0) s))(d:b=List.take ((U o).toNat-ο 256) (List.drop (ο 256) o))(g:l[i]?=D o):r=s:=by have j:=f _ _ g;have e:List.drop (ο 256) o=[]:=mq (by simp only[Int.reduceToNat];omega);simp only[U]at h;rw[hr,c,d,e,List.take_nil,D1];exact BG w!
theorem fY{x:Bn×Int×Bc}(h:DI x.1):Ao (Qr x) λr=>r.2=0->DI r.1/\0<=x.2.1/\r.1.1=FM x.1.1 x.2.1 x.2.2:=by
 have⟨B,o,i,j⟩:=h;refine AA (Nw (by dsimp only;rw[i];simp)) λC g=>?_;refine AK (λb=>AB (λc=>absurd c b)) (λb=>?_);refine AK (λb=>AB (λc=>absurd c (by decide))) (λd=>?_);refine AT (λb=>AB (λc=>absurd c (by decide))) (λq=>?_);refine AA (Ac (by simp;omega)) λy t=>?_;refine AA (Ac (by rw[i];simp)) λz u=>?_;refine AA (Ac (by rw[j];simp)) λA_ v=>?_;have l:y=x.1.1:=by grind
 have m:z=[]:=by grind
 have n:A_=[]:=by grind
 subst l m n;have l1: ∀s,s.1=0->Ad (Ns x) s=some s.2:=λs e=>by rw[Eh];unfold Ns;rw[j,e];rfl
 rw[l1 _ rfl];refine BA ?_;have l2: ∀a s,a.1=[]->s.2.1=0->Ad (Nt x a) s=some (s.1,(s.2.2.2.2.2.2.1,(s.2.2.2.2.2.1,s.2.2.2.2.2.2.2))):=λa s f e=>by rw[Eh];unfold Nt;rw[f,e];rfl
 have w: ∀a s,a.1=[]->s.1=0->Ad (Nu a) s=some (s.2.2.2.2.2.1,(s.2.2.2.2.1,s.2.2.2.2.2.2)):=λa s f e=>by rw[Eh];unfold Nu;rw[f,e];rfl
 rw[l2 _ _ rfl rfl];repeat' with_reducible first|refine AC ?_ ?_<;>intro b|refine AP ?_ ?_<;>intro b|refine AT ?_ ?_<;>intro b|refine AK ?_ ?_<;>intro b|refine AJ ?_ ?_<;>intro b|(refine BA ?_;try dsimp only)|refine Bi ?_|refine B0 ?_|refine AB ?_|(rw[w _ _ rfl rfl];refine BA ?_;dsimp only)|(refine AM ?_ (Se ?_);intro r hr)|(refine AM ?_ (AE ?_ ?_);rintro r ⟨hr,q⟩)|(refine AM ?_ (Ac ?_);rintro r ⟨hr,k,p⟩)|(refine AM ?_ (Cb ?_);rintro r ⟨hr,k⟩)|(refine AM ?_ (Cj ?_ ?_ ?_);rintro r ⟨hr,k⟩)
 all_goals first|omega|(simp;done)|(intro c;exact absurd c (by decide))|(exact λ_=>⟨h.set rfl (by grind) hr,(g (by assumption)).1,congrArg (FM _ _) (whole d o (by assumption) (by assumption) (by assumption) (by assumption))⟩)|(cases b;done)|grind
def DC(p:Bw):W:=p.2.1.countP λf=>f.2.1
def UC(p:Bw):W:=p.2.1.countP λf=>f.2.2.2
def ABV{a:Type}{l:E a}{i:W}{o n:a}{q:a->Bool}(h:l[i]?=D o):(l.set i n).countP q+(if q o=Y then 1 else 0)=l.countP q+(if q n=Y then 1 else 0):=q!
theorem MM{x:Bw×A×BH}(h:Z x.1.2.1<=16777216)(a:0<=x.2.1/\x.2.1<Z x.1.2.1):Ao (IZ x) λr=>r=(x.1.1,x.1.2.1.set x.2.1.toNat x.2.2,x.1.2.2):=by refine AA (Ac (by simpa using h)) λr hr=>?_;have⟨hr,b,_⟩:=hr;subst hr;refine AA (AE a.1 a.2) λ_ _=>AA (AE a.1 a.2) λ_ _=>AB rfl
def core(f:BH):AV×Bool×A:=(f.1,f.2.1,f.2.2.1)
def CF(l:E BH):E (AV×Bool×A):=l.map core
def AIm{l:E BH}{i:W}{f g:BH}(h:l[i]?=D f)(a:core g=core f):CF (l.set i g)=CF l:=by unfold CF;apply JN;grind
theorem uD{l m}(h:CF m=CF l){i:W}{f:BH}(a:m[i]?=D f):∃g,l[i]?=D g/\core g=core f:=by
 have:(CF m)[i]?=D (core f):=by unfold CF;rw[List.getElem?_map,a];rfl
 rw[h]at this;unfold CF at this;grind
def AIl{l m}(h:CF m=CF l):Z m=Z l:=by have:=E! Z h;simpa[CF]using this
def ACT{p}:DC p=(CF p.2.1).countP λc=>c.2.1:=by unfold DC CF;rw[List.countP_map];rfl
theorem Kv.congr{l m}{n}(h:CF m=CF l)(d:Kv l n):Kv m n:=by refine⟨λi f r b=>?_,λi j f g c s b q=>?_⟩;have⟨g,a,o⟩:=uD h b;have:=d.1 i g r a;grind[core,qZ];have⟨e,a,o⟩:=uD h b;have⟨k,p,t⟩:=uD h q;have:=d.2 i j e k c s a p;grind[core]
def QI.uniq{p}(h:QI p){i j:W}{f g:BH}(a:p.2.1[i]?=D f)(b:p.2.1[j]?=D g)(e:f.1.1=g.1.1):f=g:=by have c:=h.2.2.2.2.2.2;grind
def Yg{c:List (AV×Bool×Int)}{z:Int}{s:Bw}(h:c=CF s.2.1/\z=s.1/\0<=s.2.2/\s.2.2<s.2.1.length/\s.2.1.length<=64):Ao (Ad Sh s) λr=>c=CF r.2.1/\z=r.1/\0<=r.2.2/\r.2.2<r.2.1.length/\r.2.1.length<=64:=by
 refine AW (λs=>c=CF s.2.1/\z=s.1/\0<=s.2.2/\s.2.2<s.2.1.length/\s.2.1.length<=64) UC h (λs n=>?_);have⟨k,l,i,j,m⟩:=n;refine AA (AE i j) λf q=>AJ (λo=>?_) (λo=>AB ⟨k,l,i,j,m⟩);refine AA (AE i j) λd t=>?_;have e:d=f:=q!
 subst e;refine AA (MM d! ⟨i,j⟩) λp u=>?_;subst u;refine AT (λv=>?_) (λv=>AB ?_);grind;rw[(AX (x:=s.2.2+1))];refine⟨⟨?_,l,(Int.tmod_nonneg (len (s.2.1.set s.2.2.toNat (d.1,d.2.1,d.2.2.1,false))) (a:=s.2.2+1) o!),(Int.tmod_lt_of_pos (s.2.2+1) (b:=len (s.2.1.set s.2.2.toNat (d.1,d.2.1,d.2.2.1,false))) w!),by rw[gS];exact m⟩,?_⟩;rw[k];exact(AIm (g:=(d.1,d.2.1,d.2.2.1,false)) q.1 rfl).symm;unfold UC;grind
def co{x}:Ao (P0 x) λr=>(r.2.2=0->QI x/\QI r.1/\CF r.1.2.1=CF x.2.1/\pB r.1 r.2.1)/\(QI x->Z x.2.1≠0->r.2.2=0):=by refine AA EM λv k=>AP (λc=>AB ⟨n!,λh _=>?_⟩) (λc=>?_);grind;have b:=k.1 c;have j:=b;have⟨n,o,q,l,s,t⟩:=b;refine AT (λa=>AB ⟨n!,λ_ h=>O! a (by simpa[U]using h)⟩) (λa=>?_);simp only[U]at a;refine AA (Yg ⟨rfl,rfl,l,o!⟩) λp b=>?_;have⟨d,u,e,g,w⟩:=b;refine AA (AE e g) λf i=>?_;have m:=AIl d;refine AB ⟨λ_=>⟨j,⟨d!,d!,d!,e,.inr g,?_⟩,d.symm,_,f,i.1,rfl⟩,λ_ _=>rfl⟩;grind[Kv.congr]
theorem jG{x:Bw×Int}:Ao (NO x) λr=>QI x.1-> ∀(i:Nat) (f:BH),x.1.2.1[i]? =some f->f.1.1=x.2->f.2.1=false->(∀g∈r.1.2.1,g∈x.1.2.1)/\ ∀g∈x.1.2.1,g.2.1=true->g∈r.1.2.1:=by
 unfold NO;refine AA EM λv A_=>?_;refine AP (λn=>AB λo=>absurd (A_.2 o) (by simp[n])) (λn=>?_);have o:=A_.1 n;have T:=o.2.1;have U:=o.2.2.1;refine AA (Gg (by omega)) λi G=>?_;have⟨R,J,K,L⟩:=G;refine AC (λn=>AB λ_ j f p e _=>absurd ⟨j,f,p,e⟩ (L n)) (λH=>?_);have⟨k,I,t⟩:=K (by omega);refine AA (AE (by omega) J) λw Q=>?_;have B:w=k:=by grind[Option.some.inj]
 subst B;refine AJ (λu=>AB λ_ j f p e l=>?_) (λu=>?_)
 ·have:=o.uniq p I (by rw[e,t]);subst this;rw[u]at l;cases l
 have O:=AX (x:=i+1) (by omega);refine AA (Bs (by omega) (by omega) (by omega)) λa C=>?_;refine AA (Bs (by omega) (by simp[len];omega) (by simp only[len];omega)) λb D_=>?_;have S:=C.2;have M:=D_.2;simp[len]at M;refine AA (Ac (by rw[CO];omega)) λc s=>?_;have N:=s.2.1;rw[CO]at N;refine AA (Ac (by omega)) λd E=>?_;have q: ∀(j:Nat) (f:BH),x.1.2.1[j]? =some f->f.1.1=x.2->f.2.1=false->(∀g∈d,g∈x.1.2.1)/\ ∀g∈x.1.2.1,g.2.1=true->g∈d:=by
  intro j f p e l;refine⟨λg y=>?_,λg y F=>?_⟩
  ·grind[List.mem_of_mem_take,List.mem_of_mem_drop]
  ·have⟨m,z⟩:=Cu y;rw[(by grind[List.take_of_length_le,List.length_drop]:d=x.1.2.1.take i.toNat++x.1.2.1.drop (i.toNat+1)),Al];rcases RY m i.toNat with h|h|h
   ·exact .inl (BQ (i:=m) (by rw[JO h];exact z))
   ·grind[Option.some.inj]
   ·exact .inr (BQ (i:=m-(i.toNat+1)) (by rw[IW];rw[show i.toNat+1+(m-(i.toNat+1))=m by omega];exact z))
 refine AA (P:=λ_=>True) (AC (λ_=>AB trivial) (λ_=>AB trivial)) λV _=>?_;refine AA (P:=λ_=>True) (AC (λ_=>AB trivial) (λ_=>AB trivial)) λW _=>AB λ_=>q
theorem fg{x:Bw×Int×Int}:Ao (Qs x) λr=>r.2=0->QI x.1/\DC r.1<=DC x.1/\(∀(i:Nat) (f:BH),x.1.2.1[i]? =some f->f.1.1=x.2.1->f.2.1=true->f.1.2.1=x.2.2->DC r.1<DC x.1)/\(∀g∈r.1.2.1,∃f∈x.1.2.1,f.1.1=g.1.1/\f.1=g.1)/\ ∀f∈x.1.2.1,f.1.1≠x.2.1->f∈r.1.2.1:=by
 refine AA EM λv C=>?_;refine AP (λb=>AB (λo=>absurd o (by decide))) (λb=>?_);have l:=C.1 b;have J:=l.2.2.1;have I:=l.2.1;refine AA (Gg (by dsimp only;omega)) λi B=>?_;have⟨G,D_,E,H⟩:=B;refine AC (λb=>AB (λo=>absurd o (by decide))) (λb=>?_);have⟨f,c,d⟩:=E (by omega);refine AA (AE (by omega) D_) λg z=>?_;have e:g=f:=by grind
 subst e;refine AC (λb=>AB (λo=>absurd o (by decide))) (λA_=>?_);refine AP (λs=>AB (λ_=>⟨l,Am _,λj k m a h _=>?_,λg z=>⟨g,z,rfl,rfl⟩,λf c _=>c⟩)) (λs=>?_)
 ·have:=l.uniq m c (by rw[a,d]);subst this;rw[s]at h;cases h
 refine AA (P:=λn:BH=>(g.1.2.1=x.2.2->n.2.1=false)/\n.1=g.1) ?_ λn hn=>?_
 ·repeat' with_reducible first|refine AC ?_ ?_<;>intro b|refine AP ?_ ?_<;>intro b|refine AT ?_ ?_<;>intro b|refine AJ ?_ ?_<;>intro b|(refine BA ?_;try dsimp only)|refine Bi ?_|refine B0 ?_|refine AB ?_|(refine AM ?_ (AE ?_ ?_);rintro r ⟨hr,F⟩)
  all_goals grind
 ·refine AA (MM (by dsimp only;omega) ⟨by dsimp only;omega,by dsimp only;omega⟩) λp y=>?_;subst y;refine AB λ_=>?_;have u:=ABV (q:=λf:BH=>f.2.1) (n:=n) c;rw[s]at u;refine⟨l,?_,λj k m a h t=>?_,ADH c hn.2,λk m w=>zE c k m (by rw[d];exact w)⟩
  ·unfold DC;dsimp only;simp at u;split at u<;>omega
  ·have:=l.uniq m c (by rw[a,d]);subst this;rw[hn.1 t]at u;unfold DC;dsimp only;simp at u;omega
def TT{x}:Ao (DH x) λr=>r.2=0->HP x/\r.1=IB x:=by have⟨v,b,h⟩:=Oq (x:=x);by_cases a:v=0;exact⟨_,Y3 (h a),λ_=>⟨h a,rfl⟩⟩;unfold DH;rw[b,AD];exact AK (y? λe=>O! e a) (O! · a)
theorem td:I0 ()=D (lA 256):=by unfold I0;rw[zM g!];rfl
def Yc{x:Bc}{s:A×AV×AV}(h:0<=s.1/\s.1<=16/\Z x=256):Ao (Ad (Gq x) s) λr=>∀u,r=.inl u->u.1=4:=by
 refine AW (λs=>0<=s.1/\s.1<=16/\Z x=256) (λs=>(16-s.1).toNat) h (λs e=>?_);unfold Gq;obtain⟨g,i,j⟩:=e;have b:=AX (x:=s.1*13);have c:=AX (x:=12+s.1*13);have d:=AX (x:=12+s.1*13+1);rw[b,c,d];repeat' with_reducible first|intro a|apply AC|apply AT|apply AJ|apply AB|(refine AM ?_ (Ca ?_ ?_);intro r hr)|(refine AM ?_ (Cj ?_ ?_ ?_);rintro r ⟨hr,f⟩)|(refine AM ?_ (Vm ?_ ?_);rintro r ⟨hr,f⟩)
 all_goals try dsimp only[U]at*
 all_goals first|omega|grind[AX]
def cQ{x:Bc}(h:Z x<=1099511627776):Ao (EZ x) λr=>(r.2=0->HP r.1/\x=IB r.1/\x≠lA 256)/\(r.2=7->x=lA 256):=by
 unfold EZ;rw[td,AD];repeat' with_reducible first|intro b|apply AT|apply AK|apply AJ|(apply BB;try dsimp only)|(apply Au;try dsimp only)|(apply BE<;>(intro u c;try subst c))|apply AB|(refine AM ?_ (DB ?_);intro r hr)|(refine AM ?_ (We ?_);intro r hr)|(refine AM ?_ (Yc ?_);intro r hr)|(apply AA (TT);intro r hr)|(refine AM ?_ (Cj ?_ ?_ ?_);rintro r ⟨hr,d⟩)
 all_goals try dsimp only[U]at*
 all_goals first|trivial|omega|(exact⟨n!,n!⟩)|grind
def ke{x}:Ao (EP x) λr=>r=(x,0,F5.all (X,[])):=by
 unfold EP;exact x!
def Rd(s:Bc)(p:A)(q:AV):Prop:=q.1=p/\((s=lA 256/\q=(p,0,F5.all (X,[])))\/(HP q/\s=IB q/\s≠lA 256))
def ZT{x:Bc×A}(h:Z x.1<=1099511627776):Ao (Ch x) λr=>r.2=0->Rd x.1 x.2 r.1:=by refine AC (y? n!) (λ_=>AC (y? n!) (λ_=>AA (cQ h) λv c=>AT (λd=>?_) (λ_=>AT (λf=>AK (y? n!) (λb=>AB λa=>⟨b,.inr (c.1 a)⟩)) (λhn=>AB λa=>O! a hn))));exact AA ke λw e=>AB λ_=>by rw[e];exact⟨rfl,.inl ⟨c.2 d,rfl⟩⟩
def fh{x:Bt×A×A×Bc}(h:Z x.2.2.2<=1099511627776):Ao (MN x) λr=>r.2=0->Rd x.2.2.2 x.2.1 r.1:=by
 unfold MN;repeat' with_reducible first|intro a|apply AC|apply AP|apply AK|apply AJ|apply AB|(apply AA (GA);intro r hr)|(refine AM ?_ (ZT ?_);intro r hr)|(refine AM ?_ (AE ?_ ?_);rintro r ⟨hr,c⟩)
 all_goals try dsimp only[U]at*
 all_goals first|assumption|omega|(intro b;exact O! b v!)|(intro b;exact O! b g!)|(intro _;exact hr v!)|grind
def Us{x}:Ao (I2 x) λr=>(r.2=0->Pc x.2/\F4 x.1.2.2 x.2.2.1=D x.2.2.2.1)/\(Pc x.2->x.2.1=x.1.1->F4 x.1.2.2 x.2.2.1=D x.2.2.2.1->r=((x.1.1,x.1.2.1,Xw x.1.2.2 x.2.2.1 x.2.2.2.2),0)):=by unfold I2;refine AA Ut λv g=>AP (λe=>AB ⟨n!,λh=>O! (g.2 h) (by simp[e])⟩) (λe=>?_);have b:=g.1 e;refine AK (λe=>AB ⟨n!,λ_ h=>O! h e⟩) (λj=>?_);obtain⟨c,i,_⟩:=Ca (a:=x.1.2.2) b.2.2.1 b.2.2.2.1;rw[i];refine BA (BA (AJ (λd=>AB ⟨n!,λ_ _ h=>?_⟩) (λd=>BA (BA (AB ⟨λ_=>⟨b,?_⟩,λ_ _ _=>rfl⟩)))));rw[BL h]at d;simp at d;obtain⟨k,l⟩:=c;simp at d;rw[d.1,d.2]
def ACS{x}{e}(h:HP x)(d:Ml e)(f:e.2.1=1\/e.2.1=2)(b:e.2.2.2.2.2.2.1.1=x.1)(g:e.2.2.2.2.1=x.2.1)(c:F4 x.2.2 e.2.2.2.2.2.2.1.2.1=D e.2.2.2.2.2.2.1.2.2.1):JB (x,e)=D (upd x e,0):=by
 suffices i:Ao (JB (x,e)) λr=>r=(upd x e,0) by obtain⟨r,hr,rfl⟩:=i;exact hr
 have a:Pc e.2.2.2.2.2.2.1:=by grind[Ml,WM]
 refine AA Cf λv j=>AP (λa=>O! (j.2 d) (by simp[a])) (λ_=>AA CD λw k=>AP (λa=>O! (k.2 f) (by simp[a])) (λ_=>?_));rw[uE h];refine BA (AK (O! rfl ·) (λ_=>AK (O! b ·) (λ_=>AK (O! g ·) (λ_=>AA Us λr hr=>?_))));rw[hr.2 a b c];exact AK (O! rfl ·) (y? rfl)
def fb{x:AI×E AI}(h:Z x.2<=16777215):Ao (MI x) λr=>r=x.1::x.2:=by
 unfold MI;exact x!
def GF(L:E AI):Prop:=∀(i:W)(e:AI),L[i]?=D e->e.1=1+i/\Ml e
def Dg.num{l}(h:Dg l)(a:l.1=1):GF l.2.1:=λi e b=>by have:=h.2.2.2.2.2 i e b;rw[a]at this;exact this
def GF.take{L}(h:GF L)(k:W):GF (L.take k):=λi e a=>h i e q!
def gN{L:E AI}{k:W}(h:k<Z L):L.take (k+1)=L.take k++[L[k]]:=by rw[CC,Ar h];rfl
def GF.at{L}(h:GF L){k:W}(a:k<Z L):L[k].1=1+k/\Ml L[k]:=h k _ (Ar a)
def WA{L}(h:GF L)(p:A):BW L p<=Z L:=by
 have:=pu (p:=p) (b:=Z L+1) L 0 o! λe c=>by have⟨i,a⟩:=Cu c;have:=(h i e a).1;have:=CZ a;omega
 unfold BW;omega
def SN{L}(h:GF L)(p:A)(j:W):∀k:W,j<=k->BW (L.take j) p<=BW (L.take k) p
 |0,hj=>by rw[show j=0 by omega];exact AY _
 |k+1,hj=>by by_cases e:j=k+1;rw[e];exact AY _;have c:=SN h p j k o!;by_cases a:k<Z L;rw[gN a,QE];have b:=WA (h.take k) p;have d:=(h.at a).1;rw[BK]at b;split<;>omega;rw[BG (l:=L) (i:=k+1) o!];rwa[BG (l:=L) (i:=k) o!]at c
def yk{L}(h:GF L){p}{i:W}{e:AI}(a:L[i]?=D e)(c:cI p e=Y){k:W}(d:i<k):e.1<=BW (L.take k) p:=by have b:=CZ a;have:=SN h p (i+1) k d;rw[gN b,QE,(BL ((Ar b).symm.trans a):L[i]=e),C! c]at this;exact this
def xd{L}(h:GF L){p}{j k}(g:BW (L.take j) p=BW (L.take k) p):((L.take k).drop j).filter (cI p)=[]:=by refine List.filter_eq_nil_iff.2 λe f d=>?_;obtain⟨i,a⟩:=Cu f;rw[IW]at a;have b:=CZ a;rw[BK]at b;rw[JO o!]at a;have:=yk h a d (k:=k) o!;have c:=WA (h.take j) p;have:=(h _ _ a).1;rw[BK]at c;omega
def wE(L:E AI){j k:W}(h:j<=k):L.take k=L.take j++(L.take k).drop j:=by
 conv=>lhs;rw[<-Cr j (L.take k)]
 rw[Lb,RZ h]
def jr{L:E AI}{p}{j k:W}(h:j<=k):st (L.take k) p=(((L.take k).drop j).filter (cI p)).foldl upd (st (L.take j) p):=by
 conv=>lhs;rw[wE L h]
 exact ADJ _ _ _
theorem nS{L}(h:GF L){p}{j k}(b:BW (L.take j) p=BW (L.take k) p):st (L.take j) p=st (L.take k) p:=by rcases Nat.le_total j k with a|a;rw[jr a,xd h b];rfl;rw[jr a,xd h b.symm];rfl
def tk{L}(h:GF L){p:A}:∀{k},0<BW (L.take k) p->∃(i:W)(e:AI),i<k/\L[i]?=D e/\cI p e=Y/\(i:A)+1=BW (L.take k) p
 |0,hk=>O! hk (by simp[BW])
 |k+1,hk=>by by_cases b:k<Z L;rw[gN b,QE]at hk⊢;by_cases a:cI p L[k]=Y;rw[C! a];exact⟨k,L[k],o!,Ar b,a,by have:=(h.at b).1;omega⟩;rw[D! a]at hk⊢;obtain⟨i,e,d,r⟩:=tk h hk;exact⟨i,e,o!,r⟩;rw[BG (l:=L) (i:=k+1) o!]at hk⊢;rw[<-BG (l:=L) (i:=k) o!]at hk;obtain⟨i,e,d,f,g,c⟩:=tk h hk;rw[BG (l:=L) (i:=k) o!]at c;exact⟨i,e,o!,f,g,c⟩
def T1{L}(h:GF L)(p:A)(k:W):0<=BW (L.take k) p:=SN h p 0 k (Bh _)
def XH{L}(h:GF L){p}{k}:BW (L.take (BW (L.take k) p).toNat) p=BW (L.take k) p:=by
 have f:=T1 h p k;by_cases d:BW (L.take k) p=0;rw[d];rfl;obtain⟨i,e,g,a,c,hn⟩:=tk h (by omega:0<BW (L.take k) p);have b:(BW (L.take k) p).toNat=i+1:=o!
 have:=yk h a c (k:=i+1) o!;have:=WA (h.take (i+1)) p;have:=(h i e a).1;rw[b];rw[BK]at*;omega
theorem Xq{L}(h:GF L){p:A}(b:0<=p/\p<64)(d:Z L<=1099511627776):∀k:W,HP (st (L.take k) p)
 |0=>⟨b.1,b.2,AY 0,(by decide:(0:A)<=1099511627776),λi=>⟨⟨Bh 12,.inr rfl⟩,λ_=>rfl⟩⟩
 |k+1=>by
  have a:=Xq h b d k;by_cases c:k<Z L;rw[gN c,ACQ];split;rename_i m;have⟨g,j⟩:=h.at c;have e:Pc L[k].2.2.2.2.2.2.1:=by grind[Ml,WM,cI]
  refine⟨a.1,a.2.1,by show 0<=L[k].1;omega,by show L[k].1<=_;omega,λi=>⟨?_,λf=>?_⟩⟩;show Ix (Xw _ _ _ i);unfold Xw;split;exact e.2.2.2.2.2;exact(a.2.2.2.2 i).1;have:L[k].1=0:=f;omega;exact a;rw[BG (l:=L) (i:=k+1) o!];rwa[BG (l:=L) (i:=k) o!]at a
def OKs:AV->E AI->Prop
 |_,[]=>z
 |x,e::r=>(HP x/\Ml e/\(e.2.1=1\/e.2.1=2)/\e.2.2.2.2.2.2.1.1=x.1/\e.2.2.2.2.1=x.2.1/\F4 x.2.2 e.2.2.2.2.2.2.1.2.1=D e.2.2.2.2.2.2.1.2.2.1)/\OKs (upd x e) r
def OKs.snoc:∀{x}{l}{e:AI},OKs x l->OKs (l.foldl upd x) [e]->OKs x (l++[e])
 |_,[],_,_,h=>h
 |_,_::_,_,h,g=>⟨h.1,OKs.snoc h.2 g⟩
def vf{n}{L}(h:GF L)(g:LI n L){p:A}(o:0<=p/\p<64)(m:Z L<=1099511627776)(j:W):∀k:W,j<=k->OKs (st (L.take j) p) (((L.take k).drop j).filter (cI p))
 |0,hj=>by rw[show j=0 by omega];exact trivial
 |k+1,hj=>by
  by_cases e:j=k+1;rw[e,M9 (by rw[BK];omega)];exact trivial;have c:=vf h g o m j k o!;by_cases b:k<Z L;rw[gN b,qq (by rw[BK];omega),F7,LR,ms];split;rename_i q;refine c.snoc ⟨?_,P!⟩;rw[<-jr o!];have r:=g k _ (Ar b);have a:(L[k].2.1=1\/L[k].2.1=2)/\L[k].2.2.2.2.2.2.1.1=p:=by simpa[cI]using q
  have⟨d,f,_⟩:=r.1 a.1;rw[a.2]at d f;exact⟨Xq h o m k,(h.at b).2,a.1,by rw[a.2,S0],by rw[d,Kh],f⟩;rw[D1];exact c;rw[BG (l:=L) (i:=k+1) o!];rwa[BG (l:=L) (i:=k) o!]at c
def nG{L}(h:GF L){p}{m j k:W}(l:m<=j)(n:BW (L.take m) p=BW (L.take j) p):((L.take k).drop m).filter (cI p)=((L.take k).drop j).filter (cI p):=by rw[<-Cr (j-m) ((L.take k).drop m),F7,M8,show m+(j-m)=j by omega];refine(E! (· ++_) (List.filter_eq_nil_iff.2 λe g f=>?_)).trans (Cq _);obtain⟨i,a⟩:=Cu g;have c:=CZ a;rw[BK]at c;rw[JO o!,IW]at a;have b:=CZ a;rw[BK]at b;rw[JO o!]at a;have:=yk h a f (k:=j) o!;have d:=WA (h.take m) p;have:=(h _ _ a).1;rw[BK]at d;omega
def AJd{n}{l}(t:Dg l)(C:l.1=1)(I:LI n l.2.1){p:A}(T:0<=p/\p<64){j k:W}(A_:BW (l.2.1.take j) p<=BW (l.2.1.take k) p):Ao (Rk (l,p,BW (l.2.1.take k) p,BW (l.2.1.take j) p)) λr=>r=(((l.2.1.take k).drop j).filter (cI p),0):=by
 have b:=t.num C;have O:=T1 b p k;have Q:=T1 b p j;have R:=t.2.2.1;refine AA BM λv B=>AP (λa=>O! (B.2 t) (by simp[a])) (λ_=>AC (O! · d!) (λ_=>AC (O! · d!) (λ_=>AC (O! · d!) (λ_=>AC (O! · d!) (λ_=>AA (P:=λr=>r=.inr (((l.2.1.take k).drop j).filter (cI p),BW (l.2.1.take j) p)) ?_ λr hr=>?_)))))
 ·refine CE (λs=>∃m:W,m<=k/\s=(((l.2.1.take k).drop m).filter (cI p),BW (l.2.1.take m) p)/\BW (l.2.1.take j) p<=s.2) (·.2.toNat) ⟨k,Am _,by rw[M9 (by rw[BK];omega)];rfl,A_⟩ ?_;rintro s ⟨m,S,rfl,x⟩;unfold Uu;dsimp only at x⊢;refine AC (λa=>?_) (λa=>k? ?_)
  ·obtain⟨i,e,K,q,o,J⟩:=tk b (by omega:0<BW (l.2.1.take m) p);have z:=CZ q;have c:(e.2.1=1\/e.2.1=2)/\e.2.2.2.2.2.2.1.1=p:=by simpa[cI]using o
   refine AA G7 λg D_=>?_;have F:=D_.2 t d! d!;have⟨_,_,u,_⟩:=D_.1 F;dsimp only at u;rw[C,show(BW (l.2.1.take m) p-1).toNat=i by omega,q]at u;rw[F,<-BL u];refine AK (O! rfl ·) (λ_=>AA CD λw N=>AP (λa=>O! (N.2 c.1) (by simp[a])) (λ_=>AK (O! c.2 ·) (λ_=>?_)));have y:=EV (cI p) ((l.2.1.take k).drop m);rw[Dr,BK]at y;have d:=((I i e q).1 c.1).1;rw[c.2]at d;have E:=XH b (p:=p) (k:=m);rw[show(BW (l.2.1.take m) p).toNat=i+1 by omega]at E;have L:=XH b (p:=p) (k:=j);have M:=SN b p (BW (l.2.1.take j) p).toNat i o!;refine AA (fb d!) λf H=>y! ⟨i,o!,?_,d!⟩ (by dsimp only;rw[d];have:=WA (b.take i) p;rw[BK]at this;omega)
   rw[d,H,<-nG b (m:=i+1) (j:=m) o! E,J4 (l:=l.2.1.take k) (i:=i) (by rw[BK];omega),LR];have G:(l.2.1.take k)[i]'(by rw[BK];omega)=e:=by rw[List.getElem_take];exact BL ((Ar z).symm.trans q)
   rw[G,C! o]
  have e:BW (l.2.1.take m) p=BW (l.2.1.take j) p:=o!
  rw[e];rcases Nat.le_total m j with h|h;rw[nG b h e];rw[nG b h e.symm]
 subst hr;exact Au (AC (O! · d!) (y? rfl))
def AIx{n:Int}{l:Aa}(f:Dg l)(C:l.1=1)(F:LI n l.2.1){p:Int}(t:0<=p/\p<64){j k:Nat}:Ao (Rr (l,st (l.2.1.take j) p,BW (l.2.1.take k) p)) λr=>r=(if BW (l.2.1.take j) p<=BW (l.2.1.take k) p then st (l.2.1.take k) p else st (l.2.1.take j) p,0):=by
 generalize G:(if BW (l.2.1.take j) p<=BW (l.2.1.take k) p then st (l.2.1.take k) p else st (l.2.1.take j) p)=y;have d:=f.num C;have S:=T1 d p k;have T:=f.2.2.1;have q:=Xq d t o!;suffices Q:Ao (Rs (l,st (l.2.1.take j) p,BW (l.2.1.take k) p)) λr=>r.1=y/\r.2.2=0 from AA Q λr hr=>AB (by rw[hr.1,hr.2]);refine AA (P:=λr=>∃b:List AI,r=(b,0)/\θ b<=4096/\OKs (st (l.2.1.take j) p) b/\b.foldl upd (st (l.2.1.take j) p)=y) ?_ λr hr=>?_;refine AA BM λv w=>AP (λa=>O! (w.2 f) (by simp[a])) (λ_=>?_);rw[uE (q j)];refine BA (AK (λa=>O! rfl a) (λ_=>AC (λa=>O! a d!) (λ_=>AC (λa=>AB ?_) (λa=>?_))));rw[Kh]at a;refine⟨[],rfl,k!,P!,?_⟩;rw[<-G];split;exact nS d (by dsimp only at a;omega);rfl;rw[Kh]at a;have c:j<=k:=by rcases Nat.le_total j k with h|h;exact h;have:=SN d p k j h;dsimp only at a;omega
 have e:((st (l.2.1.take j) p).1,BW (l.2.1.take k) p,(st (l.2.1.take j) p).2.1)=(p,BW (l.2.1.take k) p,BW (l.2.1.take j) p):=by rw[S0,Kh]
 dsimp only at e⊢;rw[e];refine AA (AJd f C F t (by dsimp only at a;omega)) λr hr=>AB ⟨_,hr,?_,vf d F t o! j k c,by rw[<-G,C! (by dsimp only at a;omega)];exact(jr c).symm⟩;have o:=EV (cI p) ((l.2.1.take k).drop j);rw[Dr,BK]at o;omega
 ·obtain⟨b,rfl,m,O,u⟩:=hr;refine AK (λa=>O! rfl a) (λ_=>AA (P:=λr=>∃z,r=.inr (y,z)) ?_ λr hr=>?_)
  ·refine CE (λ(s:Int×AV×AV)=>∃A_ B,b=A_++B/\s.1=θ A_/\OKs s.2.1 B/\B.foldl upd s.2.1=y) (λ(s:Int×AV×AV)=>((θ b:Int)-s.1).toNat) ⟨[],b,rfl,rfl,O,u⟩ ?_;rintro⟨i,x,z⟩ ⟨A_,B,rfl,D_,E,g⟩;dsimp only at D_ E g;subst D_;unfold Uz;dsimp only[len];rw[Ae]at m;refine AC (λa=>?_) (λa=>Ao.done ?_)
   ·obtain _|⟨e,B⟩:=B;simp at a;have R:ix (A_++e::B) (θ A_:Int)=δ e:=by unfold ix;rw[C! o!,C5,Cm (Am _),Gw];rfl
    obtain⟨⟨H,I,J,K,L,M⟩,N⟩:=E;rw[R,AD,ACS H I J K L M,AD,AX (x:=(θ A_:Int)+1)];refine AK (λa=>O! rfl a) (λ_=>Ao.next ⟨A_++[e],B,k!,k!,N,g⟩ d!)
   obtain _|⟨e,B⟩:=B;exact⟨z,by rw[<-g];rfl⟩;simp at a;omega
  obtain⟨z,rfl⟩:=hr;exact Au (AB ⟨rfl,rfl⟩)
variable {B:Int->Prop}
def KS(B:A->Prop)(k m:AQ):Prop:=m.1=k.1/\LX k.2.2.1 m.2.2.1/\Dg m.2.2.1/\m.2.2.2.2.1=k.2.2.2.2.1/\m.2.2.2.2.2.1=k.2.2.2.2.2.1/\SK B m
def KS.refl{k}(h:SK B k)(a:Dg k.2.2.1):KS B k k:=⟨rfl,LX.refl _,a,rfl,rfl,h⟩
def KS.trans{a b c}(h:KS B a b)(g:KS B b c):KS B a c:=⟨g.1.trans h.1,h.2.1.trans g.2.1,g.2.2.1,g.2.2.2.1.trans h.2.2.2.1,g.2.2.2.2.1.trans h.2.2.2.2.1,g.2.2.2.2.2⟩
def LX.of{a b:Aa}(h:b.1=a.1)(g:b.2.1=a.2.1)(d:a.2.2<=b.2.2):LX a b:=⟨h,d,[],by rw[g,D1]⟩
def KI.of{k m:AQ}(h:KI B k)(a:m.1=k.1)(b:m.2.2.1.2.1=k.2.2.1.2.1)(c:m.2.2.2.1=k.2.2.2.1)(d:m.2.2.2.2.2.2=k.2.2.2.2.2.2):KI B m:=by unfold KI;rw[a,b,c,d];exact h
def uG{x:Aa×A}(h:Dg x.1)(c:x.2<=x.1.1+Z x.1.2.1-1):Ao (EH x) λr=>r.2=0:=by refine AA BM λv d=>AP (λa=>?_) (λ_=>?_);grind;refine AA Ea λe b=>?_;rw[h.last]at b;exact AC (O! · o!) (y? rfl)
def KK{x:AQ×A}(h:SK B x.1)(c:Dg x.1.2.2.1):Ao (Fy x) λr=>KS B x.1 r/\r.2.2.2.1=x.1.2.2.2.1/\(x.2<=x.1.2.2.1.1+Z x.1.2.2.1.2.1-1->x.2<=r.2.2.1.2.2):=by unfold Fy;refine AA Gf λv d=>?_;have d:=d c;refine AA (KG.and (uG c (by dsimp only;split<;>omega))) λw a=>?_;have⟨i,e,j,k,f⟩:=a.1 a.2;refine Bi (AT (λb=>AB ⟨⟨rfl,LX.of j e k,i,rfl,rfl,SB.sk h.sb (h.ki.of rfl e rfl rfl)⟩,rfl,λg=>?_⟩) (O! a.2 ·));dsimp only at f⊢;split at f<;>omega
theorem aV{x:AQ×Int×Int}(h:SK B x.1)(p: ∃f∈x.1.2.2.2.1.2.1,f.1.1=x.2.1/\f.1.2.1=x.2.2):Ao (KO x) λr=>r.2=0->VK x.1/\KS B x.1 r.1/\DC r.1.2.2.2.1<=DC x.1.2.2.2.1/\ ∀(i:Nat) (f:BH),x.1.2.2.2.1.2.1[i]? =some f->f.1.1=x.2.1->f.2.1=true->f.1.2.1=x.2.2->DC r.1.2.2.2.1<DC x.1.2.2.2.1:=by
 unfold KO;refine AA (B3 h.sb) λv O=>?_;refine AP (λb=>AB (λc=>absurd c (by decide))) (λb=>?_);have A_:=O b;refine AC (λb=>AB (λc=>absurd c (by decide))) (λ_=>?_);refine AC (λb=>AB (λc=>absurd c (by decide))) (λ_=>?_);refine AC (λb=>AB (λc=>absurd c (by decide))) (λ_=>?_);refine AA Gf λ_ _=>?_;refine AC (λb=>AB (λc=>absurd c (by decide))) (λ_=>?_);refine AA Fe λi L=>?_;refine AA (P:=λs=>(∃u,s= .inl u/\u.1≠0)\/ ∃u,s= .inr u/\(DC u.1<=DC x.1.2.2.2.1/\ ∀(i:Nat) (f:BH),x.1.2.2.2.1.2.1[i]? =some f->f.1.1=x.2.1->f.2.1=true->f.1.2.1=x.2.2->DC u.1<DC x.1.2.2.2.1)/\(∀g∈u.1.2.1,∃f∈x.1.2.2.2.1.2.1,f.1.1=g.1.1/\f.1=g.1)/\ ∀f∈x.1.2.2.2.1.2.1,f.1.1≠x.2.1->f∈u.1.2.1) ?_ λs N=>?_
 ·refine AC (λb=>?_) (λb=>AB (.inr ⟨_,rfl,⟨Am _,λj f M q _ _=>absurd (L.2.2.2 A_.2.2.2.1 ⟨j,f,M,q⟩) b⟩,λg K=>⟨g,K,rfl,rfl⟩,λf n _=>n⟩));grind[AA,fg,AK,AB]
 ·rcases N with⟨u,rfl,t⟩|⟨u,rfl,t,m,y⟩
  ·exact BB (AB λc=>absurd c t)
  ·refine Au ?_;refine AA (Fx h.sb) λa J=>?_;refine AK (λb=>AB (λc=>absurd c b)) (λb=>AB λ_=>?_);have⟨_,⟨a1,a2,a3,a4,a5,a6,a7,a8,e,E,Q,F,o,R,S,G⟩,_⟩:=J b;have⟨f,n,H,I⟩:=p;have⟨U,w,C,D_⟩:=G rfl;have T:=h.ki.2.2 f n;have d:=congrArg (λz=>z.2.1) ((h.ki.2.1 x.2.1 (by omega) (by omega)).1 f n H);rw[Kh]at d;refine⟨A_,⟨a1,a2,a3,a5,a6.2.1 rfl,a8.1,a8.2.1,a8.2.2,?_⟩,t⟩;unfold KI;dsimp only at F o C D_⊢;rw[a1,a7,E,D_];have k:=congrArg (λz=>z.1) o;have l:=congrArg (λz=>z.2.1.1) o;dsimp only at k l;refine⟨h.ki.1.app ⟨λh=>by omega,λ_=>?_,λh=>by omega,by omega⟩,(h.ki.2.1.written (by omega) (by omega) (by omega) m y C).app ⟨by omega,by omega⟩,h.ki.2.2.sub m⟩;rw[k,l,<-I];exact d
def jK{x}(h:SK B x):Ao (NR x) λr=>r.2.2.2=0->VK x/\KS B x r.1/\(r.2.2.1=Y->DC r.1.2.2.2.1=DC x.2.2.2.1/\∃(i:W)(f:BH),r.1.2.2.2.1.2.1[i]?=D f/\f.1=r.2.1/\f.2.1=Y/\r.2.1.2.1<=r.1.2.2.1.2.2):=by
 unfold NR;refine AA (B3 h.sb) λv M=>AP (λn=>AB n!) (λn=>?_);have c:=M n;refine AC (λn=>AB (λ_=>⟨c,KS.refl h c.2.2.1,λt=>by cases t⟩)) (λm=>AA co λw D_=>?_);have⟨_,F,O,P⟩:=D_.1 (D_.2 c.2.2.2.1 (by have:=c.2.2.2.1.1;simp[U]at m;omega));have G:∀g∈w.1.2.1,∃f∈x.2.2.2.1.2.1,core g=core f:=λg b=>by grind[List.getElem?_of_mem,uD,List.mem_of_getElem?]
 have H:∀f∈x.2.2.2.1.2.1,∃g∈w.1.2.1,core g=core f:=λf l=>by grind[List.getElem?_of_mem,uD,List.mem_of_getElem?]
 have u:∀{f g},core f=core g->f.1=g.1/\f.2.1=g.2.1:=λe=>⟨E! (·.1) e,E! (·.2.1) e⟩
 have k1:∀g∈w.1.2.1,∃f∈x.2.2.2.1.2.1,f.1.1=g.1.1/\f.1=g.1:=λg b=>by have⟨f,l,e⟩:=G g b;exact⟨f,l,by rw[(u e).1],by rw[(u e).1]⟩
 have N:∀f∈x.2.2.2.1.2.1,f.2.1=Y->∃g∈w.1.2.1,g.1.1=f.1.1/\g.2.1=Y:=λf l y=>by have⟨g,b,e⟩:=H f l;exact⟨g,b,by rw[(u e).1],by rw[(u e).2,y]⟩
 refine AA Fe λi A_=>?_;have E:=A_.2.2.2 F P;refine AA (AE E A_.2.1) λf l=>?_;have a:KI B (x.1,x.2.1,x.2.2.1,w.1,x.2.2.2.2):=⟨h.ki.1,h.ki.2.1.frames k1 N,h.ki.2.2.sub k1⟩
 apply AP<;>intro n;have⟨_,L,o,J⟩:=A_.2.2.1 E;have K:L=f:=by have:=l.1;rw[o]at this;exact BL this
 subst K;refine AA jG λd y=>AB λ_=>⟨c,⟨rfl,LX.refl _,c.2.2.1,rfl,rfl,h.1,h.2.1,h.2.2.1,?_⟩,λt=>by cases t⟩
 have⟨C,I⟩:=y F _ _ o J n;exact⟨h.ki.1,a.2.1.frames (λg b=>⟨g,C g b,rfl,rfl⟩) (λg b s=>⟨g,I g b s,rfl,s⟩),a.2.2.sub λg b=>⟨g,C g b,rfl,rfl⟩⟩;refine AA (KK (SB.sk ⟨h.1,h.2.1,h.2.2.1⟩ a) c.2.2.1) λk j=>AB λ_=>⟨c,j.1,λ_=>⟨?_,i.toNat,f,?_,rfl,n,j.2.2 ?_⟩⟩
 rw[j.2.1,ACT,ACT,O];rw[j.2.1];exact l.1;have q:=BQ l.1;have p:=a.2.2 f q;have:=E! (·.2.1) ((a.2.1 f.1.1 p.1 p.2.1).1 f q rfl);dsimp only at this⊢;rw[this,Kh];have:=nL c.2.2.1 f.1.1;omega
def AIw(P:E AI)(p:A)(s:Bc):Prop:=s=lA 256\/∃j:W,s=IB (st (P.take j) p)
def dead(s:Bc):Prop:=s≠lA 256/\∀q,HP q->s≠IB q
def DP(B:A->Prop)(P:E AI)(d:Bn):Prop:=DI d/\∀(i:W)(s:Bc),d.1[i]?=D s->(B i->AIw P i s)/\(B i\/dead s)
def dl(l:Aa):E AI:=l.2.1.take l.2.2.toNat
def DJ(B:A->Prop)(l:Aa)(d:Bn):Prop:=l.1=1/\DP B (dl l) d
def DP.up{P Q:E AI}{d}{m}(h:DP B P d)(e:P=Q.take m):DP B Q d:=⟨h.1,λi s a=>⟨λb=>by rcases(h.2 i s a).1 b with q|⟨j,q⟩;exact .inl q;rw[e,Lb]at q;exact .inr ⟨_,q⟩,(h.2 i s a).2⟩⟩
def DJ.up{a b}{d}(h:DJ B a d)(g:LX a b):DJ B b d:=by obtain⟨c,f,t,e⟩:=g;refine⟨c.trans h.1,h.2.up (m:=min a.2.2.toNat (Z a.2.1)) ?_⟩;unfold dl;rw[e,Lb,RZ o!,gY o!,Nat.min_comm,<-Lb,BG (l:=a.2.1.take _) (by rw[BK];omega)]
def AGV{L}(h:GF L){p d:A}(f:BW L p<=d):st (L.take (ο d)) p=st L p:=by
 have e:=H8 (l:=L);have a:=XH h (p:=p) (k:=Z L);rw[e]at a;have b:=SN h p (BW L p).toNat (ο d) o!
 have c:BW (L.take (ο d)) p<=BW L p:=by rcases Nat.le_total (ο d) (Z L)with q|q;have:=SN h p _ _ q;rwa[e]at this;rw[BG q];exact AY _
 have:=nS h (p:=p) (j:=ο d) (k:=Z L) (by rw[e];omega);rwa[e]at this
def U1{x:AU×AQ×AV}(h:SK B x.2.1)(A_:Dg x.2.1.2.2.1)(l:DJ B x.2.1.2.2.1 x.1.2)(n:∃f∈x.2.1.2.2.2.1.2.1,f.1=x.2.2)(y:x.2.2.2.1<=x.2.1.2.2.1.2.2):Ao (Mb x) λr=>r.2=0->KS B x.2.1 r.1.1/\DJ B r.1.1.2.2.1 r.1.2/\DC r.1.1.2.2.2.1<=DC x.2.1.2.2.2.1/\((∃(i:W)(f:BH),x.2.1.2.2.2.1.2.1[i]?=D f/\f.1=x.2.2/\f.2.1=Y)->DC r.1.1.2.2.2.1<DC x.2.1.2.2.2.1):=by
 have⟨f,m,b⟩:=n;have a:=h.ki.2.2 f m;have c:=(h.ki.2.1 f.1.1 a.1 a.2.1).1 f m rfl;refine EE TT λv G _=>AA (fY l.2.1) λw L=>AK (λd=>AB (O! · d)) (λd=>AA (aV h ⟨f,m,by rw[b],by rw[b]⟩) λu K=>AK (λd=>AB (O! · d)) (λq=>AB λ_=>?_));have⟨D_,E,M,N⟩:=K q;have⟨O,P,F⟩:=L d;refine⟨E,DJ.up ⟨l.1,O,λi s j=>?_⟩ E.2.1,M,λ⟨i,g,H,t,I⟩=>N i g H (by rw[t]) I (by rw[t])⟩;have C:=A_.num l.1;have k:=Xq C (p:=f.1.1) ⟨a.1,by have:=D_.2.1;have:=D_.1;dsimp only at*;omega⟩ (by have:=A_.2.2.1;omega) (Z x.2.1.2.2.1.2.1);rw[H8,<-c,b]at k;rw[Y3 k]at G;dsimp only at F j;rw[F]at j;by_cases J:i=x.2.2.1.toNat
 subst J;have e:s=IB x.2.2:=by unfold FM at j;grind
 rw[b]at a c;rw[show((x.2.2.1.toNat:W):A)=x.2.2.1 by omega];refine⟨λ_=>.inr ⟨(dl x.2.1.2.2.1).length,?_⟩,.inl a.2.2.2⟩;rw[H8,e];unfold dl;rw[AGV C (by have:=E! (·.2.1) c;rw[Kh]at this;omega),<-c];exact l.2.2 i s (by unfold FM at j;rwa[List.getElem?_set_ne o!]at j)
def SvR(B:A->Prop)(s r:AU):Prop:=KS B s.1 r.1/\DJ B r.1.2.2.1 r.2
def jS{x:AU}(h:SK B x.1)(l:Dg x.1.2.2.1)(k:DJ B x.1.2.2.1 x.2):Ao (NU x) λr=>r.2=0->SvR B x r.1:=by unfold NU;refine AA (P:=λr=>r.1=0->SvR B x r.2) ?_ λr hr=>AB hr;refine AW (SvR B x ·.1) (DC ·.1.1.2.2.2.1) ⟨KS.refl h l,k⟩ (λs c=>?_);unfold U0;refine AA (jK c.1.2.2.2.2.2) λv m=>AK (λa=>AB (O! · a)) (λa=>?_);have⟨A_,b,q⟩:=m a;refine AP (λa=>AB (λ_=>⟨c.1.trans b,c.2.up b.2.1⟩)) (λd=>?_);have⟨z,i,f,g,j,o,p⟩:=q d;refine AA (U1 b.2.2.2.2.2 b.2.2.1 (c.2.up b.2.1) ⟨f,BQ g,j⟩ p) λw n=>AK (λa=>AB (O! · a)) (λa=>AB ?_);have⟨t,u,C,y⟩:=n a;exact⟨⟨(c.1.trans b).trans t,u⟩,by have:=y ⟨i,f,g,j,o⟩;dsimp only at*;omega⟩
end Go.Pm
namespace Go.Pm
open Go Go.Ab
variable {B:Int->Prop}
def Ym{x:AQ×AV}{s:Int×List Ah}(h:0<=s.1/\s.1<=θ x.1.2.2.2.2.2.2.2/\θ x.1.2.2.2.2.2.2.2<=16777216/\s.2=(x.1.2.2.2.2.2.2.2.take s.1.toNat).filter (λd=>d.1 !=x.2.1)):Ao (Ad (My x) s) λr=>r=x.1.2.2.2.2.2.2.2.filter λd=>d.1 !=x.2.1:=by refine AW (λ(s:Int×List Ah)=>0<=s.1/\s.1<=θ x.1.2.2.2.2.2.2.2/\θ x.1.2.2.2.2.2.2.2<=16777216/\s.2=(x.1.2.2.2.2.2.2.2.take s.1.toNat).filter (λd=>d.1 !=x.2.1)) (λ(s:Int×List Ah)=>((θ x.1.2.2.2.2.2.2.2:Int)-s.1).toNat) h (λs j=>?_);have⟨b,q,g,i⟩:=j;unfold My;refine AC (λf=>?_) (λf=>AB ?_);simp[len]at f;have m:=pk (l:=x.1.2.2.2.2.2.2.2) (p:=λd=>d.1 !=x.2.1) b;rw[<-i]at m;refine AA (AE b f) λv o=>?_;have e:=AX (x:=s.1+1);have n:=nI (p:=λd:Ah=>d.1 !=x.2.1) b o.1;refine AA (P:=λa=>a=(x.1.2.2.2.2.2.2.2.take (s.1+1).toNat).filter (λd=>d.1 !=x.2.1)) ?_ λa c=>AB ⟨⟨d!,d!,g,by dsimp only;rw[c,e]⟩,d!⟩;refine AJ (λk=>?_) (λk=>AB ?_);grind[AA,AE,Option.some.inj,Ac,AB];grind;grind[List.take_of_length_le]
theorem cq{x:AQ×AV}(h:SK B x.1)(L:Bf x.1=some true->x.2=st x.1.2.2.1.2.1 x.2.1/\B x.2.1):Ao (LB x) λr=>r.2=0->KS B x.1 r.1/\pB r.1.2.2.2.1 x.2.1:=by
 unfold LB;refine EE (B3 h.sb) λv O hv=>?_;refine AP (λg=>AB (λb=>absurd b (by decide))) (λg=>?_);have K:=hv g;rw[g]at O;refine AC (λg=>AB (λb=>absurd b (by decide))) (λx0=>?_);refine AC (λg=>AB (λb=>absurd b (by decide))) (λx1=>?_);refine AA (LA h.sb) λy1 ag=>?_;refine AC (λg=>AB (λb=>absurd b (by decide))) (λx2=>?_);refine AA (LA h.sb) λy2 al=>?_;refine AC (λg=>AB (λb=>absurd b (by decide))) (λx3=>?_);have⟨R,Q⟩:=L O;refine AA EM λv3 _=>?_;refine AP (λg=>AB (λb=>absurd b (by decide))) (λ_=>?_);refine AA Oq λv4 _=>?_;refine AK (λg=>?_) (λ_=>?_)
 ·grind[AK,AB]
 have p2:=K.2.2.2.1.2.1;have p3:=K.2.2.2.1.2.2.1;refine AA (Gg (by dsimp only;omega)) λi I=>?_;refine AC (λg=>AB (λb=>absurd b (by decide))) (λA_=>?_);have A_:=I.2.2.2 (by omega);refine AT (λg=>AB (λb=>absurd b (by decide))) (λ_=>?_);refine AA (Ac (by simp;omega)) λv8 C=>?_;have⟨C,Z,_⟩:=C;rw[Cq]at C;subst C;refine AA (Ac (by simp;omega)) λc n=>?_;have⟨n,o,_⟩:=n;have q:c[c.length-1]? =some (x.2,(false,(0,true))):=by rw[n];simp
 have hn:(c.length:Int)-1=((c.length-1:Nat):Int):=by simp at o;omega
 have e:=AX (x:=(c.length:Int)-1) (by simp at o;omega);have k: ∀f∈x.1.2.2.2.1.2.1,f.1.1≠x.2.1:=λf H e=>by have⟨i,I⟩:=Cu H;exact A_ ⟨i,f,I,e⟩
 refine AA (KM h.sb) λt w=>?_;refine AA (P:=λv:List BH×AQ×Int×Int×Int×Int×Int×Int=>(∃(i:Nat) (f:BH),v.1[i]? =some f/\f.1.1=x.2.1)/\(v.2.1.1=x.1.1/\v.2.1.2.2.1=x.1.2.2.1/\v.2.1.2.2.2.2.1=x.1.2.2.2.2.1/\v.2.1.2.2.2.2.2.1=x.1.2.2.2.2.2.1/\SB v.2.1/\v.2.1.2.2.2.2.2.2.1=x.1.2.2.2.2.2.2.1)/\KP x.1.1 x.1.2.2.1.2.1 v.1 v.2.1.2.2.2.2.2.2.2 x.1.2.2.2.2.2.2.1/\FD B x.1.1 v.1 v.2.1.2.2.2.2.2.2.2) ?_ λax m=>?_
 ·refine AJ (λs=>?_) (λs=>AB ⟨⟨_,_,q,rfl⟩,⟨rfl,rfl,rfl,rfl,h.sb,rfl⟩,?_,?_⟩);rotate_left 1
  ·rw[n];exact h.ki.2.1.supply R k rfl (.inr ⟨rfl,w.2 s,rfl⟩)
  ·rw[n];exact h.ki.2.2.supply (p:=x.2.1) (by omega) (by omega) Q rfl (λd y=>y) (w.2 s)
  rw[hn]at e;simp only[len,hn,e];have z:c.length-1<c.length:=by simp at o;omega
  refine AA (AE (by omega) (by omega)) λao W=>?_;refine AA (AE (by omega) (by omega)) λj X_=>?_;have V:j.1=x.2:=by grind[Int.toNat_natCast,Option.some.inj]
  have ad:(FM c ((c.length-1:Nat):Int) (j.1,(true,j.2.2))).length=c.length:=by simp[FM]
  refine AA (AE (by omega) (by omega)) λap Y_=>?_;refine AA (AE (by omega) (by omega)) λa F=>?_;have l:a.1=x.2:=by grind[Int.toNat_natCast,FM,List.getElem?_set_self,Option.some.inj]
  refine AA (Ym ⟨by simp,by simp,h.2.2.1,by simp⟩) λar G=>?_;have u:a.2.1=true:=by have:=F.1;simp[C5,FM]at this;rw[GY z]at this;rw[<-BL this]
  have N:FM (FM c ((c.length-1:Nat):Int) (j.1,(true,j.2.2))) ((c.length-1:Nat):Int) (a.1,(a.2.1,(t.1.2.1,a.2.2.2)))=x.1.2.2.2.1.2.1++[(a.1,(a.2.1,(t.1.2.1,a.2.2.2)))]:=by simp[FM,C5,Y8,(by rw[n];simp:c.length-1=x.1.2.2.2.1.2.1.length)];rw[n,T9 _ _ (Am _)];simp
  subst G;refine AB ⟨⟨c.length-1,(a.1,(a.2.1,(t.1.2.1,a.2.2.2))),?_,by rw[l]⟩,⟨rfl,rfl,rfl,rfl,⟨h.1,h.2.1,Cs (EV _ _) h.2.2.1⟩,rfl⟩,?_,?_⟩
  ·simp[FM,C5];rw[GY (by simpa using z)]
  ·rw[N];exact h.ki.2.1.supply R k l (.inl ⟨u,rfl⟩)
  ·rw[N];exact h.ki.2.2.supply (p:=x.2.1) (by omega) (by omega) Q (by rw[l]) (λd y=>(BZ.1 y).1) (λd y=>by simpa using(BZ.1 y).2)
 ·have⟨i,f,H,J⟩:=m.1;have⟨M,D_,S,T,E,U⟩:=m.2.1;refine AB λ_=>⟨⟨M,by dsimp only;rw[D_];exact LX.refl _,by dsimp only;rw[D_];exact K.2.2.1,S,T,E.1,E.2.1,E.2.2,?_⟩,i,f,H,J⟩
  unfold KI;dsimp only;rw[M,D_,U];exact⟨h.ki.1,m.2.2⟩
def AJ3{x:AQ×A}(h:Bf x.1=D X):Ee x=D 0:=by unfold Ee;rw[h];rfl
def Rd.st{P}{p}{s}{q}(h:Rd s p q)(d:AIw P p s)(e:∀j,HP (st (P.take j) p)):∃j:W,q=Go.Pm.st (P.take j) p:=by obtain⟨_,⟨_,h⟩|⟨a,b,c⟩⟩:=h;exact⟨0,h⟩;rcases d with q|⟨j,q⟩;exact O! q c;exact⟨j,AFL a (e j) (b.symm.trans q)⟩
def Hi{x:AU×A}(h:SK B x.1.1)(g:DJ B x.1.1.2.2.1 x.1.2):Ao (Eu x) λr=>r.2=0->SvR B x.1 r.1/\pB r.1.1.2.2.2.1 x.2:=by
 unfold Eu;refine AA (B3 h.sb) λv X_=>AP (λa=>AB n!) (λa=>?_);have s:=X_ a;refine AC (λa=>AB n!) (λp0=>AC (λa=>AB n!) (λp1=>AA Fe λi W=>AC (λa=>AB λ_=>⟨⟨KS.refl h s.2.2.1,g⟩,?_⟩) (λ_=>?_)));have⟨_,f,V,C⟩:=W.2.2.1 a;exact⟨_,f,V,C⟩;refine AA (jS h s.2.2.1 g) λo Q=>AK (λa=>AB (O! · a)) (λw=>?_);have⟨t,m⟩:=Q w;have n:=t.2.2.2.2.2;have F:=t.2.2.1;have k1:=s.1;have k2:=s.2.1;have H:0<=x.2/\x.2<64:=o!
 have M:=F.num m.1;have h4:=F.2.2.1;refine AA (jB m.2.1) λv3 R=>AK (λa=>AB (O! · a)) (λy=>?_);have⟨g1,g2,O⟩:=R y;have⟨b,u,_⟩:=B3 n.sb;refine AA (P:=λr=>∃k:Nat,r=BW (o.1.1.2.2.1.2.1.take k) x.2/\(b=Y->k=θ o.1.1.2.2.1.2.1)) ?_ λv4 ⟨k,D_,E⟩=>?_;cases b with
 |false=>exact⟨_,AJ3 u,0,rfl,λU=>by cases U⟩
 |true=>exact(LA n.sb).mono λr hr=>⟨_,by rw[H8];exact hr u n.ki.2.1 H.1 (by have:=t.1;dsimp only at this⊢;omega),λ_=>rfl⟩
 refine AA (fh d!) λv5 e=>AK (λa=>AB (O! · a)) (λz=>?_);have e:=e z;dsimp only at e;have d:=m.2.2 _ _ O;rw[show((x.2.toNat:Nat):A)=x.2 by omega]at d;have L:B x.2:=d.2.resolve_right λg=>by obtain⟨_,⟨q,_⟩|⟨Y_,Z,_⟩⟩:=e;exact g.1 q;exact g.2 _ Y_ Z
 have I:=Xq M H o!;obtain⟨j,p⟩:=e.st (d.1 L) λj=>by unfold dl;rw[Lb];exact I _
 unfold dl at p;rw[Lb]at p;generalize min j o.1.1.2.2.1.2.2.toNat=j' at p;rw[p,D_];refine AA (AIx F m.1 n.ki.1 H) λv6 S=>?_;subst S;refine AK (O! rfl ·) (λ_=>AA (cq n λK=>?_) λv7 T=>?_);rw[u]at K;have l:=E (BL K);have G:BW (o.1.1.2.2.1.2.1.take j') x.2<=BW (o.1.1.2.2.1.2.1.take k) x.2:=by rcases Nat.le_total j' k with q|q;exact SN M _ _ _ q;rw[BG o!,l,H8];exact AY _
 dsimp only;rw[C! G,l,H8,S0];exact⟨rfl,L⟩;refine AK (λa=>AB (O! · a)) (λA_=>AB λ_=>?_);have⟨N,J⟩:=T A_;refine⟨⟨t.trans N,m.up N.2.1⟩,?_⟩;dsimp only at J;split at J<;>rwa[S0]at J
end Go.Pm
namespace Go.Pm
open Go Go.Ab
variable {B:Int->Prop}
def KL(B:A->Prop)(k m:AQ):Prop:=m.1=k.1/\LX k.2.2.1 m.2.2.1/\SK B m/\Dg m.2.2.1
theorem KL.refl{k}(h:SK B k)(a:Dg k.2.2.1):KL B k k:=⟨rfl,LX.refl _,h,a⟩
def KL.trans{a b c}(h:KL B a b)(g:KL B b c):KL B a c:=⟨g.1.trans h.1,h.2.1.trans g.2.1,g.2.2⟩
def KS.kl{a b}(h:KS B a b):KL B a b:=⟨h.1,h.2.1,h.2.2.2.2.2,h.2.2.1⟩
def AA8.kl{a b}{z}(h:AA8 a z b)(c:SK B a)(d:z.2.1≠1/\z.2.1≠2/\z.2.1≠6/\z.2.1≠7/\z.2.1≠8):KL B a b:=⟨h.1,h.2.1,h.sk c d,h.2.2.1⟩
def SK.locks{k}{l}(h:SK B k)(a:GG l):SK B (k.1,k.2.1,k.2.2.1,k.2.2.2.1,l,k.2.2.2.2.2):=⟨a,h.2⟩
def QI.idx{p}(h:QI p){i j:W}{f g:BH}(a:p.2.1[i]?=D f)(b:p.2.1[j]?=D g)(e:g.1.1=f.1.1):j=i:=by have l1:=CZ a;have l2:=CZ b;rcases RY i j with q|q|q;exact O! e.symm (h.2.2.2.2.2.2 i j f g q o! a b);exact q.symm;exact O! e (h.2.2.2.2.2.2 j i g f q o! b a)
def km{x}:Ao (OS x) λr=>(∀g∈r.2.1,∃f∈x.1.2.1,f.1.1=g.1.1/\f.1=g.1)/\∀f∈x.1.2.1,f.2.1=Y->∃g∈r.2.1,g.1.1=f.1.1/\g.2.1=Y:=by unfold OS;refine AA Fe λv b=>AC (y? ⟨λg k=>⟨g,k,rfl,rfl⟩,λf a h=>⟨f,a,rfl,h⟩⟩) (λm=>?_);have d:=b.2.2.1 o!;have o:=d.1.2.1;have p:=d.1.2.2.1;refine AA (AE o! b.2.1) λl c=>AA (MM d! ⟨d!,b.2.1⟩) λr hr=>AB ?_;subst hr;refine⟨ADH c.1 rfl,λf a j=>?_⟩;by_cases e:f.1.1=l.1.1;have⟨i,n⟩:=Cu a;grind[Option.some.inj,List.mem_of_getElem?,List.getElem?_set_self,CZ];exact⟨f,zE c.1 f a e,rfl,j⟩
def ck{x}:Ao (K6 x) λr=>r.2=0->QI x.1/\∃(i:W)(f g:BH),x.1.2.1[i]?=D f/\f.1.1=x.2.1/\r.1.2.1=x.1.2.1.set i g/\g.1=x.2/\g.2.1=Y:=by unfold K6;refine AA EM λv c=>AP (y? n!) (λb=>?_);have h:=(c.1 b).2.1;have j:=(c.1 b).2.2.1;refine AA Oq λ_ _=>AK (λb=>AB λa=>O! a b) (λ_=>AA (Gg d!) λi d=>AC (y? n!) (λb=>AA (AE o! d.2.1) λk e=>AC (y? n!) (λ_=>AA (P:=λ_=>z) (AP (y? trivial) (y? trivial)) λl _=>?_)));grind[AA,MM,AB,Option.some.inj]
def Ml.cell{e}(h:Ml e):0<=e.2.2.2.2.2.2.1.2.1/\e.2.2.2.2.2.2.1.2.1<16:=by have a:=h.2.2.2.2.2.2.2.2;grind[WM,Pc,Qy]
def KI.same{k}(h:KI B k){f g:BH}(a:f∈k.2.2.2.1.2.1)(b:g∈k.2.2.2.1.2.1)(e:g.1.1=f.1.1):g.1=f.1:=by have hr:=h.2.2 f a;rw[(h.2.1 f.1.1 hr.1 hr.2.1).1 g b e];exact((h.2.1 f.1.1 hr.1 hr.2.1).1 f a rfl).symm
def Wg{x:AQ×AI}(h:SK B x.1)(L:Dg x.1.2.2.1)(b:0<=x.2.2.2.2.2.2.2.1.2.1/\x.2.2.2.2.2.2.2.1.2.1<16)(t:x.2.2.1=1\/x.2.2.1=2)(hp:QI x.1.2.2.2.1)(ad:pB x.1.2.2.2.1 x.2.2.2.2.2.2.2.1.1)(G:∀f∈x.1.2.2.2.1.2.1,f.1.1=x.2.2.2.2.2.2.2.1.1->F4 f.1.2.2 x.2.2.2.2.2.2.2.1.2.1=D x.2.2.2.2.2.2.2.1.2.2.1):Ao (Kq x) λr=>KL B x.1 r.1/\(r.2=0->ACX x.1.2.2.2.2.2.1 x.2.2.1 x.2.2.2.1 r.1.2.2.2.2.2.1):=by
 unfold Kq;refine AA (Fx h.sb) λv hv=>AK (λb=>AB ⟨KL.refl h L,λt=>O! t b⟩) (λN=>?_);have⟨_,l,c⟩:=hv N;refine AA I7 λE S=>AA (Ca b.1 b.2) λ_ _=>AA (Ca b.1 b.2) λ_ _=>AA ck λv4 Z=>AK (λb=>AB ⟨KL.refl h L,λt=>O! t b⟩) (λO=>AB ⟨⟨l.1,l.2.1,?_,l.2.2.1⟩,λ_=>l.2.2.2.2.2.1⟩);have F:=l.2.2.2.2.2.2.2.1;have⟨_,i,f,g,s,a,d,o,J⟩:=Z O;have⟨_,_,_,_,_,_,a7,_,e,T,P,U,C,V,W,e7⟩:=l;have A_:E.2=Y:=by cases q:E.2<;>grind
 have u:E.1.1=x.2.2.2.2.2.2.2.1.1:=(S.1 A_).2.2.2.1;have w:e.2.2.2.2.2.2.1.1=x.2.2.2.2.2.2.2.1.1:=E! (·.2.1.1) C;have hr:=h.ki.2.2 f (BQ s);dsimp only at s a d o c;refine⟨F.1,F.2.1,F.2.2,?_⟩;have y:e.2.1=1\/e.2.1=2:=by rw[U];exact t
 have p:∀n:A,n≠1->n≠2->e.2.1≠n:=λn n1 n2 q=>by rcases y with D_|D_<;>rw[q]at D_;exact n1 D_;exact n2 D_
 unfold KI;dsimp only;rw[l.1,a7,T,W (by rcases t with q|q<;>rw[q]<;>decide),d];have K:g.1.1=f.1.1:=by rw[o,a]
 have m:=BQ s;have I:=(h.ki.2.1 f.1.1 hr.1 hr.2.1).1 f m rfl;have M:E.1=f.1:=by have⟨_,_,_,_,f',H,Q⟩:=S.1 A_;rw[<-Q];exact h.ki.same m H (by rw[Q,a])
 have R:e.2.2.2.2.2.2.1.2.1=x.2.2.2.2.2.2.2.1.2.1:=E! (·.2.1.2.1) C;have Y_:e.2.2.2.2.2.2.1.2.2.1=x.2.2.2.2.2.2.2.1.2.2.1:=E! (·.2.1.2.2.1) C;have X_:e.2.2.2.2.2.2.1.2.2.2=x.2.2.2.2.2.2.2.1.2.2.2:=E! (·.2.1.2.2.2) C;refine⟨h.ki.1.app ⟨λq=>⟨V h.ki.2.1 q (by rw[w,<-u,<-a];exact hr.1) (by rw[w,<-u,<-a];exact hr.2.1),by rw[R,Y_,w,<-u,<-a,<-I];exact G f m (by rw[a,u]),by rw[w,<-u,<-a];exact hr.2.1⟩,λq=>O! q (p 7 g! g!),λq=>O! q (p 6 g! g!),p 8 g! g!⟩,?_,h.ki.2.2.set s K⟩;refine h.ki.2.1.change h.ki.2.2 y s (by rw[a,u,w]) (by rw[o,M,c,<-P];unfold upd;rw[R,X_]) J (λj k hj q=>hp.idx s hj q) ?_;rw[P];exact nL L _
theorem B6{x}:Ao (BI x) λr=>r.1=5:=by grind[BI,AB]
theorem lC{x}:Ao (BI x) λr=>r.1=5/\r.2.2.2.2=x:=by grind[BI,AB]
theorem AFN{l:List Ak}{id:Int}(h:θ l<=16777216)(m:lE l id):Ao (Ed (l,id)) λr=>0<=r/\r<θ l:=by
 unfold Ed;refine AA (P:=λr=>∃u:Int,r=.inl u/\0<=u/\u<θ l) ?_ λr hr=>?_;refine AW (λ(s:Int)=>0<=s/\s<=θ l/\∀(j:Nat)(t:Ak),j<s->l[j]?=δ t->t.1≠id) (λ(s:Int)=>((θ l:Int)-s).toNat) ⟨AY _,o!,λj t b=>O! b o!⟩ (λs k=>?_);obtain⟨g,p,i⟩:=k;unfold KJ;have e:=AX (x:=s+1);apply AC<;>intro d;simp only[len]at d;refine AA (AE g d) λq a=>AT (λ_=>AB ⟨s,rfl,g,d⟩) (λc=>AB ?_);dsimp only at c;rw[e];refine⟨⟨o!,o!,λj t b f=>?_⟩,o!⟩;by_cases n:(j:Int)=s;have:s.toNat=j:=o!
 rw[this]at a;rw[f]at a;have:=BL a.1;rw[this];exact c;exact i j t o! f;obtain⟨j,t,b,f⟩:=m;have:=CZ b;simp only[len]at d;exact O! f (i j t o! b);obtain⟨u,rfl,o⟩:=hr;exact BB (AB o)
def uF{l:E Ak}{id}(h:Z l<=16777216)(a:lE l id):Ao (CV (l,id)) λr=>0<=r/\r<Z l:=by grind[CV,AA,AFN,AB]
def cu{x:AQ×A}(h:SK B x.1)(k:Dg x.1.2.2.1)(j:lE x.1.2.2.2.2.2.1 x.2):Ao (LD x) λr=>KL B x.1 r.1/\(r.2.1=1\/r.2.1=5):=by unfold LD;refine AA (uF h.2.1 j) λo c=>AA (AE c.1 c.2) λp _=>AA (P:=λs=>(∃u,s=.inl u/\KL B x.1 u.1)\/∃u,s=.inr u/\KL B x.1 u.1/\(u.2.1=1\/u.2.1=5)) ?_ λs l=>?_;refine AT (λ_=>?_) (λ_=>?_);refine AA (Je h.2.1) λq d=>AB (.inl ⟨_,rfl,rfl,LX.refl _,⟨h.1,?_,h.2.2⟩,k⟩);have:=qR x.1.2.2.2.2.2.1 x.2;have e:=h.2.1;dsimp only at*;rw[d];omega;refine AA (Fx h.sb) λt f=>AK (λn=>?_) (λm=>?_);grind[AA,B6,AB,KL.refl];have b:=(f m).2.1.kl h u!;refine AA (KK b.2.2.1 b.2.2.2) λv g=>AB (.inl ⟨_,rfl,b.trans g.1.kl⟩);rcases l with⟨u,rfl,a⟩|⟨u,rfl,a⟩;apply BB;refine AA (Ms a.2.2.1.1) λw i=>AB ⟨⟨a.1,a.2.1,a.2.2.1.locks i,a.2.2.2⟩,.inl rfl⟩;exact Au (AB a)
def YC{x:AQ×Int×Cy}{a:Ak}{s:Int}(h:0<=s/\s<=θ a.2.2.2.2.1/\(θ a.2.2.2.2.1:Int)<=16777216):Ao (Ad (Lr x a) s) λr=>True:=by
 refine AW (λ(s:Int)=>0<=s/\s<=θ a.2.2.2.2.1/\(θ a.2.2.2.2.1:Int)<=16777216) (λ(s:Int)=>((θ a.2.2.2.2.1:Int)-s).toNat) h (λs c=>?_);unfold Lr;exact x!
def AI0{l:E Ak}{i:W}{t:Ak}(h:l[i]?=D t):Z t.2.2.2.2.1<TP l:=by
 induction l generalizing i with
 |nil=>simp at h
 |cons a r b=>
  unfold TP;rw[Bz,Wu];cases i with
  |zero=>simp at h;rw[h];omega
  |succ i=>have:=b (i:=i) (by simpa using h);unfold TP at this;omega
def AJ8{l:E Ak}(h:∀(i:W)(t:Ak),l[i]?=D t->Z t.2.2.2.2.1<=4096):TP l<=Z l*4097:=by
 induction l with
 |nil=>simp[TP]
 |cons a r c=>have d:=h 0 a k!;have e:=c (λi t b=>h (i+1) t (by simpa using b));unfold TP at*;grind[List.length_cons]
def Z3.tp{l}(h:Z3 l):TP l<=262208:=by have:=AJ8 (l:=l) (λi t a=>(h.2 i t a).1);have:=h.1;omega
def aW{x:AQ×A×Cy}(h:Z x.1.2.2.2.2.2.1<=16777216)(d:TP x.1.2.2.2.2.2.1<=262208)(c:lE x.1.2.2.2.2.2.1 x.2.1):Ao (KQ x) λr=>z:=by unfold KQ;refine AA (uF h c) λe a=>AA (AE a.1 a.2) λf b=>?_;have:=AI0 b.1;refine AA (YC ⟨AY _,o!⟩) λr _=>?_;grind[BE,AB]
def Uw{x:AQ×Int×Int}(h:SK B x.1)(z:Dg x.1.2.2.1)(A_:Z3 x.1.2.2.2.2.2.1)(p:x.2.1≠0)(y:lE x.1.2.2.2.2.2.1 x.2.1):Ao (JA x) λr=>KL B x.1 r.1/\(r.2.1=x.2.2\/r.2.1=5):=by
 unfold JA;refine AA (cX h.1) λL c=>AA (uF h.2.1 y) λM n=>AA (AE n.1 n.2) λN _=>AT (λ_=>?_) (λ_=>?_);refine AA (Je h.2.1) λO t=>AA (Ms c) λQ u=>AB ⟨⟨rfl,LX.refl _,⟨u,?_,h.2.2⟩,z⟩,.inl rfl⟩;have:=qR x.1.2.2.2.2.2.1 x.2.1;have q:=h.2.1;dsimp only at*;rw[t];omega;refine AA (Fx (h.locks c).sb) λf v=>AK (λi=>?_) (λC=>?_);grind[AA,B6,AB,KL.refl];have j:=(v C).2.1;have o:=j.2.2.2.2.2.1;have K:=(o.2.2.1 p (by show(4:Int)≠1;decide)).2;have D_:=A_.tp;have b:KL B x.1 f.1:=⟨j.1,j.2.1,(j.kl (h.locks c) u!).2.2⟩
 refine AA (P:=λr=>KL B x.1 r) ?_ λr hr=>AB ⟨hr,.inl rfl⟩;refine AW (λ(s:Int×AQ)=>0<=s.1/\s.1<=θ f.1.2.2.2.2.1.1/\KL B x.1 s.2/\s.2.2.2.2.2.2.1=f.1.2.2.2.2.2.1) (λs=>((θ f.1.2.2.2.2.1.1:Int)-s.1).toNat) (s:=((0:Int),f.1)) ⟨AY _,d!,b,rfl⟩ (λs w=>?_);have⟨m,J,a,d⟩:=w;unfold Tc;have I:=b.2.2.1.1.1;refine AC (λi=>?_) (λ_=>AB a);simp[len]at i;have e:=AX (x:=s.1+1);refine AA (AE m i) λR _=>AT (λ_=>?_) (λ_=>AB ⟨⟨d!,d!,a,d⟩,d!⟩);refine AA (AE m i) λS _=>AA (aW (by dsimp only;rw[d];exact b.2.2.1.2.1) (by dsimp only at*;rw[d];omega) (by dsimp only;rw[d];exact(o.2.2.2 p rfl))) λE _=>AA (P:=λk=>KL B x.1 k/\k.2.2.2.2.2.1=f.1.2.2.2.2.2.1) ?_ λH g=>AB ⟨⟨d!,d!,g.1,g.2⟩,d!⟩;refine AP (λ_=>?_) (λ_=>AB ⟨a,d⟩);refine AA (AE m i) λF _=>AA (Vv a.2.2.1.1) λG l=>AB ⟨⟨a.1,a.2.1,a.2.2.1.locks l,a.2.2.2⟩,d⟩
end Go.Pm
namespace Go.Pm
open Go Go.Ab
variable {B:Int->Prop}
def cp{x}:Ao (K9 x) λr=>r=0->x.2.1=4\/x.2.1=5\/x.2.1=6\/x.2.1=7\/(0<=x.2.2.2.1/\x.2.2.2.1<16):=by unfold K9;refine AA (P:=λv=>z) (AJ (y? trivial) (λ_=>AA (P:=λ_=>z) (AJ (y? trivial) (y? trivial)) λ_ _=>AB trivial)) λi _=>AA (P:=λs=>(∃u,s=.inl u/\u=1)\/∃u,s=.inr u/\(x.2.1=4\/x.2.1=5\/x.2.1=6\/x.2.1=7\/(0<=x.2.2.2.1/\x.2.2.2.1<16))) ?_ λs c=>?_;refine AJ (λ_=>?_) (λ_=>?_);refine AC (y? (.inl ⟨_,rfl,rfl⟩)) (λ_=>AC (y? (.inl ⟨_,rfl,rfl⟩)) (λ_=>AC (y? (.inl ⟨_,rfl,rfl⟩)) (λe=>AC (y? (.inl ⟨_,rfl,rfl⟩)) (λf=>AA (P:=λ_=>z) (AJ (y? trivial) (y? trivial)) λj _=>AB (.inr ⟨_,rfl,?_⟩)))));omega;refine AA (P:=λs=>(∃u,s=.inl u/\u=1)\/∃u,s=.inr u/\(x.2.1=4\/x.2.1=5\/x.2.1=6\/x.2.1=7)) ?_ λs c=>?_;refine AT (λh=>?_) (λ_=>?_);refine AC (y? (.inl ⟨_,rfl,rfl⟩)) (λ_=>AC (y? (.inl ⟨_,rfl,rfl⟩)) (y? (.inr ⟨_,rfl,o!⟩)));refine AA (P:=λb=>b=Y->x.2.1=4\/x.2.1=5\/x.2.1=6) ?_ λk g=>?_;grind[AT,AB,AA];simp_all[AJ,AB];grind[BB,AB,Au];rcases c with⟨u,rfl,d⟩|⟨u,rfl,d⟩;grind[BB,AB];apply Au;refine AP (y? n!) (λ_=>AC (y? n!) (y? λ_=>d))
def Vy{x}:Ao (Jt x) λr=>z:=by unfold Jt;refine AT (y? trivial) (λ_=>AA (P:=λ_=>z) (AJ (y? trivial) (y? trivial)) λv _=>AJ (y? trivial) (y? trivial))
def aX{x:AQ×A×C0}(h:SK B x.1):Ao (KR x) λr=>r=0->VK x.1/\lE x.1.2.2.2.2.2.1 x.2.1/\(x.2.2.1=4\/x.2.2.1=5\/x.2.2.1=6\/x.2.2.1=7\/(0<=x.2.2.2.2.1/\x.2.2.2.2.1<16)):=by
 unfold KR;refine AA (B3 h.sb) λv j=>AP (y? n!) (λb=>AA (Ec h.2.1) λk e=>AC (y? n!) (λg=>AA (AE o! e.2.1) λl _=>AK (y? n!) (λ_=>AA cp λm f=>AK (λb=>AB λa=>O! a b) (λc=>AA (Im h.1) λn _=>AA Vy λo _=>?_))));have q:(0:A)=0->VK x.1/\lE x.1.2.2.2.2.2.1 x.2.1/\(x.2.2.1=4\/x.2.2.1=5\/x.2.2.1=6\/x.2.2.1=7\/(0<=x.2.2.2.2.1/\x.2.2.2.2.1<16)):=λ_=>by have⟨t,i,d⟩:=e.2.2 o!;exact⟨j b,⟨_,t,i,d⟩,f c⟩
 refine AJ (λ_=>?_) (y? q);refine AK (λ_=>?_) (y? q);refine AP (y? n!) (λ_=>AP (y? n!) (y? q))
def cr{x:AQ×A×C0}(h:SK B x.1)(k:Dg x.1.2.2.1)(n:QI x.1.2.2.2.1)(a:0<=x.2.2.2.2.1/\x.2.2.2.2.1<16):Ao (LC x) λr=>KL B x.1 r.1/\(r.2.1=1\/r.2.1=3\/r.2.1=5)/\(r.2.1=3->r.2.2.2.1=x.2.2.2.1/\¬pB x.1.2.2.2.1 x.2.2.2.1/\r.1=x.1):=by unfold LC;have t:=KL.refl h k;refine AA I7 λy m=>AP (λa=>AB ⟨t,.inr (.inl rfl),λ_=>⟨rfl,m.2 a n,rfl⟩⟩) (λd=>AT (λ_=>?_) (λ_=>?_));refine AA km λz l=>AA (Ca a.1 a.2) λ_ _=>AA (Ca a.1 a.2) λ_ _=>AB ⟨⟨rfl,LX.refl _,⟨h.1,h.2.1,h.2.2.1,h.ki.1,h.ki.2.1.frames l.1 l.2,h.ki.2.2.sub l.1⟩,k⟩,(.inl rfl),λs=>O! s (by show(1:A)≠3;decide)⟩;refine AA (Ca a.1 a.2) λ_ _=>EE (Ca a.1 a.2) λu o _=>AA (P:=λv:Do=>v.1=x.2.2.2.1/\v.2.1=x.2.2.2.2.1/\v.2.2.1=u) (AJ (y? ⟨rfl,rfl,rfl⟩) (y? ⟨rfl,rfl,rfl⟩)) λA_ b=>?_;have⟨_,_,j,i,f,p,c⟩:=m.1 d;refine AA (Wg h k (by dsimp only;rw[b.2.1];exact a) (.inl rfl) n (by dsimp only;rw[b.1];exact j) λg q e=>?_) λC w=>?_;dsimp only at e⊢;rw[b.2.1,b.2.2,h.ki.same p q (by rw[e,b.1,c,i]),c];exact o;grind[AA,AK,B6,AB]
theorem fo{x:List Int}:Ao (MS x) λr=>True:=by unfold MS;refine AT (λ_=>AB trivial) (λa=>?_);simp only[len]at a;exact AA (AE (AY _) (by omega)) λ_ _=>AB trivial
def ku{x:AQ×A}(h:SK B x.1):Ao (OV x) λr=>z:=by unfold OV;refine AA (MK h.1) λa _=>?_;grind[AA,fo,AB]
def mH{x:AQ×Int×C0}(h:SK B x.1)(i:Dg x.1.2.2.1):Ao (P2 x) λr=>KL B x.1 r.1/\(r.2.1=3->r.2.2.2.1=x.2.2.2.1/\¬pB x.1.2.2.2.1 x.2.2.2.1/\r.1.2.2.2.1=x.1.2.2.2.1)/\(r.2.1=2\/r.2.1=3->r.1.2.2.2.2.2.1=x.1.2.2.2.2.2.1):=by
 unfold P2;have q:=KL.refl h i;refine AA (aX h) λX I=>AK (λ_=>?_) (λd=>?_);exact AA B6 λY V=>AB ⟨q,λd=>by dsimp only at d;omega,λ_=>rfl⟩;obtain⟨u,s,F⟩:=I d;have G:x.2.1≠0:=by obtain⟨j,t,M,W⟩:=s;have:=(u.2.2.2.2.2.1.2 j t M).2.2;omega
 refine AT (λ_=>?_) (λT=>?_);exact AA (cu h i s) λZ w=>AB ⟨w.1,λd=>by have:=w.2;omega,λd=>by have:=w.2;omega⟩;refine AT (λ_=>?_) (λU=>?_);refine AA (Uw h i u.2.2.2.2.2.1 G s) λv3 E=>AB ?_;have y:=E.2;dsimp only at y;exact⟨E.1,λd=>o!,λd=>o!⟩;refine AA (P:=λb=>b=ζ↔x.2.2.1=6\/x.2.2.1=7) ?_ λv4 J=>?_;refine AT (λp=>AB (by simp[p])) (λp=>AB (by simp[p]));refine AJ (λ_=>?_) (λk=>?_);refine AA jJ λv5 z=>AA (P:=λv=>v.2=0->θ v.1<=64) ?_ λv7 K=>?_;exact AJ (λ_=>AA jH λv6 p=>AB p) (y? z);refine AK (λ_=>?_) (λd=>AB ⟨⟨rfl,LX.refl _,⟨h.1,?_,h.2.2⟩,i⟩,λd=>O! d (by show(1:Int)≠3;decide),λd=>O! d (by show¬((1:Int)=2\/(1:Int)=3);decide)⟩);exact AA B6 λS L=>AB ⟨q,λd=>by dsimp only at d;omega,λ_=>rfl⟩;have:=K d;dsimp only;omega;have g:0<=x.2.2.2.2.1/\x.2.2.2.2.1<16:=by
  have:¬(x.2.2.1=6\/x.2.2.1=7):=λh=>by rw[J.2 h]at k;cases k
  omega
 refine AA Vy λv9 _=>AA (aK h.1) λC l=>AK (λ_=>?_) (λ_=>?_);exact AA B6 λS L=>AB ⟨q,λd=>by dsimp only at d;omega,λ_=>rfl⟩;have f:=h.locks l;have H:∀m,KL B (x.1.1,x.1.2.1,x.1.2.2.1,x.1.2.2.2.1,C.1,x.1.2.2.2.2.2) m->KL B x.1 m:=λm A=>⟨A.1,A.2.1,A.2.2⟩
 refine AJ (λ_=>?_) (λ_=>?_);refine AA (cr f i u.2.2.2.1 g) λN e=>AT (λz=>AB ⟨q,λd=>by dsimp only at d;omega,λ_=>rfl⟩) (y? ⟨H _ e.1,λd=>?_,λd=>?_⟩);obtain⟨a,b,c⟩:=e.2.2 d;exact⟨a,b,by rw[c]⟩;have D:=e.2.1;obtain⟨a,b,c⟩:=e.2.2 o!;rw[c];refine AA (ff l) λO _=>AC (λ_=>?_) (λ_=>?_);refine AA (Uw f i u.2.2.2.2.2.1 G s) λQ n=>?_;have o:=n.2;dsimp only at o;exact AT (λz=>AB ⟨q,λd=>by dsimp only at d;omega,λ_=>rfl⟩) (y? ⟨H _ n.1,λd=>o!,λd=>o!⟩);exact AA (ku f) λR _=>AB ⟨⟨rfl,LX.refl _,f,i⟩,λd=>O! d (by show(2:Int)≠3;decide),λ_=>rfl⟩
end Go.Pm
namespace Go.Pm
open Go Go.Ab
variable {B:Int->Prop}
def RTx(l:E Ak)(id:A)(t:Ak):Prop:=∃v,CV (l,id)=D v/\0<=v/\l[v.toNat]?=D t/\t.1=id
def RTx.uniq{l}{id}{t u}(h:RTx l id t)(g:RTx l id u):u=t:=by have⟨v,e,f,i,j⟩:=h;have⟨w,a,b,c,d⟩:=g;grind[Option.some.inj]
def NX(k:AQ)(id:A)(e:AI):Prop:=∃t lsn,RTx k.2.2.2.2.2.1 id t/\t.2.2.2.2.1[Z t.2.2.2.2.1-1]?=D lsn/\k.2.2.1.2.1[(lsn-k.2.2.1.1).toNat]?=D e
def NX.uniq{k m}{id}{e f}(h:NX k id e)(g:NX m id f)(o:m.2.2.2.2.2.1=k.2.2.2.2.2.1)(c:LX k.2.2.1 m.2.2.1):f=e:=by have⟨t,n,i,j,l⟩:=h;have⟨u,w,a,b,d⟩:=g;rw[o]at a;have:=i.uniq a;subst this;rw[j]at b;cases b;have:=c.get l;rw[c.1]at d;grind[Option.some.inj]
def Iq{x:AQ×A}(h:SK B x.1):Ao (FK x) λr=>r.2=0->VK x.1/\RTx x.1.2.2.2.2.2.1 x.2 r.1/\Z r.1.2.2.2.2.1<=4096/\r.1.1≠0:=by
 unfold FK;refine AA (B3 h.sb) λv i=>AP (y? n!) (λf=>?_);have c:=i f;refine EE (Ec h.2.1) λj e d=>AC (y? n!) (λg=>AA (AE o! d.2.1) λk _=>AT (y? n!) (λ_=>AA (AE o! d.2.1) λl b=>AB λ_=>⟨c,⟨j,e,o!,b.1,?_⟩,(c.2.2.2.2.2.1.2 _ _ b.1).1,?_⟩))
 grind[Option.some.inj];have:=(c.2.2.2.2.2.1.2 _ _ b.1).2.2;dsimp only;omega
def jM{x:AQ×A}(h:SK B x.1):Ao (Hg x) λr=>r.2=Y->VK x.1/\NX x.1 x.2 r.1/\Ml r.1:=by
 unfold Hg;refine AA (Iq h) λc f=>AK (y? λa=>by cases a) (λa=>?_);have⟨k,hr,o,_⟩:=f a;refine AT (y? λa=>by cases a) (λj=>?_);simp only[U]at j;rw[(AX (x:=U c.1.2.2.2.2.1-1) b!)];refine AA (AE b! b!) λp _=>AC (y? λa=>by cases a) (λ_=>AA (AE b! b!) λl g=>AA G7 λq i=>AB λa=>?_);have⟨d,m,e,n⟩:=i.1 (by simpa using a);refine⟨k,⟨c.1,l,hr,?_,e⟩,d⟩;have b:=g.1;have:(U c.1.2.2.2.2.1-1).toNat=Z c.1.2.2.2.2.1-1:=i!
 rw[this]at b;exact b
def mI{x:AQ×Ak×Cy×Int}(h:θ x.2.1.2.2.2.2.1<=16777216)(c:0<=x.2.2.2/\x.2.2.2<=θ x.2.1.2.2.2.2.1):Ao (P3 x) λr=>r.2=ζ->Ml r.1/\r.1.2.2.2.2.2.2.1.1=x.2.2.1.1:=by unfold P3;rw[(AX (x:=x.2.2.2-1))];refine AA (P:=λr=>∀u,r=.inl u->u.1=ζ->Ml u.2/\u.2.2.2.2.2.2.2.1.1=x.2.2.1.1) ?_ λr hr=>BE (λu a=>AB (hr u a)) (λ_ _=>AB λb=>by cases b);refine AW (λ(s:Int×AI)=> -1<=s.1/\s.1<θ x.2.1.2.2.2.2.1) (λ(s:Int×AI)=>(s.1+1).toNat) d! (λs d=>?_);unfold Wh;rw[(AX (x:=s.1-1))];refine AC (λe=>?_) (λ_=>AB λu a=>by cases a);grind[AA,AE,G7,AT,AB]
def Td{x:AQ×A×Cy}(h:SK B x.1):Ao (LF x) λr=>r.2=Y->VK x.1/\Ml r.1/\r.1.2.2.2.2.2.2.1.1=x.2.2.1:=by refine AA (Iq h) λf b=>AK (y? λa=>by cases a) (λa=>AK (y? λa=>by cases a) (λ_=>?_));have⟨d,_,e,_⟩:=b a;exact AA (mI d! ⟨by simp[U],by simp[U]⟩) λg c=>AB λa=>⟨d,c a⟩
def aJ{x}:Ao (KF x) λr=>r=(x.1,x.2.1,x.2.2.2,x.2.2.1):=by grind[KF,AB]
def V0{x:AQ×Ak×AI}(h:SK B x.1)(t:Dg x.1.2.2.1)(u:QI x.1.2.2.2.1)(A_:Ml x.2.2)(v:x.2.1.1≠0):Ao (GM x) λr=>KL B x.1 r.1/\(r.2.1=3->r.2.2.2.1=x.2.2.2.2.2.2.2.2.1.1/\¬pB x.1.2.2.2.1 x.2.2.2.2.2.2.2.2.1.1/\r.1=x.1)/\(r.2.1≠3->r.2.1≠5->r.2.2.1≠0/\TP r.1.2.2.2.2.2.1<TP x.1.2.2.2.2.2.1)/\(r.2.1=5->r.2.2.2.2.2≠0):=by unfold GM;have F:=KL.refl h t;refine AA I7 λG i=>AP (λl=>AB ⟨F,λ_=>⟨rfl,i.2 l u,rfl⟩,λa=>O! rfl a,λa=>O! a (by show(3:A)≠5;decide)⟩) (λc=>AA aJ λH w=>?_);subst w;refine AA Us λI j=>AK (λl=>?_) (λo=>?_);grind[AA,lC,AB];refine AA (Wg h t A_.cell (.inr rfl) u (i.1 c).2.2.1 λg D_ e=>by have⟨_,_,_,m,f,C,d⟩:=i.1 c;rw[h.ki.same C D_ (by rw[e,d,m]),d];exact(j.1 o).2) λp q=>AK (λl=>?_) (λa=>?_);grind[AA,lC,AB];have E:=(q.2 a).2.2.1 v (by show(2:A)≠1;decide);have n:=E.1 (by show(2:A)≠4;decide);have b:KL B x.1 p.1:=q.1;refine AA (P:=λk=>KL B x.1 k/\k.2.2.2.2.2.1=p.1.2.2.2.2.2.1) ?_ λM s=>AB ⟨s.1,λa=>O! a (by show(1:A)≠3;decide),λ_ _=>⟨v,by rw[s.2];exact n⟩,λa=>O! a (by show(1:A)≠5;decide)⟩;refine AJ (λ_=>?_) (y? ⟨b,rfl⟩);refine AA (Td b.2.2.1) λJ _=>AA (P:=λk=>KL B x.1 k/\k.2.2.2.2.2.1=p.1.2.2.2.2.2.1) ?_ λL z=>AB z;refine AP (λ_=>?_) (y? ⟨b,rfl⟩);exact AA (Vv b.2.2.1.1) λK y=>AB ⟨⟨b.1,b.2.1,b.2.2.1.locks y,b.2.2.2⟩,rfl⟩
def Vz{x:AQ×A}(h:SK B x.1)(m:Dg x.1.2.2.1):Ao (Ju x) λr=>KL B x.1 r.1/\(r.2.1=3->∃e,NX x.1 x.2 e/\r.2.2.2.1=e.2.2.2.2.2.2.1.1/\¬pB x.1.2.2.2.1 e.2.2.2.2.2.2.1.1)/\(r.2.1≠3->r.2.1≠5->TP r.1.2.2.2.2.2.1<TP x.1.2.2.2.2.2.1)/\(r.2.1=5->r.2.2.2.2.2≠0):=by
 unfold Ju;have D_:=KL.refl h m;refine AA (Iq h) λA_ q=>AK (λi=>?_) (λd=>?_);grind[AA,lC,AB];have⟨y,hr,n,o⟩:=q d;have f:Ao (σ (Hg x) λk=>
  bif (!k.2)then
   σ (BI 14) λC=>
   D (x.1,C)
  else
  σ (GM (x.1,A_.1,k.1)) λp=>
  D p) λr=>KL B x.1 r.1/\(r.2.1=3->∃e,NX x.1 x.2 e/\r.2.2.2.1=e.2.2.2.2.2.2.1.1/\¬pB x.1.2.2.2.1 e.2.2.2.2.2.2.1.1)/\(r.2.1≠3->r.2.1≠5->TP r.1.2.2.2.2.2.1<TP x.1.2.2.2.2.2.1)/\(r.2.1=5->r.2.2.2.2.2≠0):=by
  refine AA (jM h) λk u=>AP (λ_=>?_) (λi=>?_);grind[AA,lC,AB];have⟨_,hn,w⟩:=u i;refine AA (V0 h m y.2.2.2.1 w o) λp g=>AB ⟨g.1,λd=>?_,λa b=>(g.2.2.1 a b).2,g.2.2.2⟩;have⟨a,b,_⟩:=g.2.1 d;exact⟨_,hn,a,b⟩
 refine AT (λ_=>?_) (λ_=>f);refine AT (λ_=>?_) (λ_=>f);refine AA (Fx h.sb) λE s=>AK (λi=>?_) (λd=>?_);grind[AA,lC,AB];have l:=(s d).2.1;have z:=(l.2.2.2.2.2.1.2.2.1 (by have⟨v,_,_,_,j⟩:=hr;rw[<-j];exact o) (by show(5:A)≠1;decide)).1 (by show(5:A)≠4;decide);have c:=l.kl h u!;exact AA (Ms c.2.2.1.1) λF t=>AB ⟨⟨c.1,c.2.1,c.2.2.1.locks t,c.2.2.2⟩,λd=>O! d (by show(1:A)≠3;decide),λ_ _=>z,λd=>O! d (by show(1:A)≠5;decide)⟩
def jL{x:AQ×A×Cy}(h:SK B x.1)(f:Dg x.1.2.2.1):Ao (NS x) λr=>KL B x.1 r.1/\(r.2.1=3->r.2.2.2.1=x.2.2.1/\¬pB x.1.2.2.2.1 x.2.2.1/\r.1=x.1)/\(r.2.1≠3->r.2.1≠5->r.2.2.1≠0->TP r.1.2.2.2.2.2.1<TP x.1.2.2.2.2.2.1):=by unfold NS;have o:=KL.refl h f;refine AA (Iq h) λp i=>AK (λ_=>?_) (λc=>?_);grind[AA,B6,AB];have⟨m,hr,g,n⟩:=i c;refine AK (λ_=>?_) (λ_=>?_);grind[AA,B6,AB];refine AA (Td h) λq j=>AP (y? ⟨o,λc=>O! c (by show(1:A)≠3;decide),λ_ _ c=>O! rfl c⟩) (λk=>?_);have⟨_,l,e⟩:=j k;refine AA (V0 h f m.2.2.2.1 l n) λs d=>AB ⟨d.1,λc=>?_,λa b _=>(d.2.2.1 a b).2⟩;have:=d.2.1 c;dsimp only at this;rw[e]at this;exact this
def Sk{x:AU×A}(h:SK B x.1.1):Ao (EO x) λr=>z:=by unfold EO;refine AA (Ec h.2.1) λc a=>AC (λb=>?_) (y? trivial);grind[AA,AE,AB]
end Go.Pm
namespace Go.Pm
open Go Go.Ab
variable {B:Int->Prop}
def SR(B:A->Prop)(x s:AU):Prop:=KL B x.1 s.1/\DJ B s.1.2.2.1 s.2
def SR.trans{a b c}(h:SR B a b)(g:SR B b c):SR B a c:=⟨h.1.trans g.1,g.2⟩
def SvR.sr{a b}(h:SvR B a b):SR B a b:=⟨h.1.kl,h.2⟩
open Classical in
noncomputable def flag(p:Prop):W:=if p then 1 else 0
theorem ACu(p:Prop):flag p<=1:=by unfold flag;split<;>omega
def ya{p:Prop}(h:p):flag p=1:=by unfold flag;rw[C! h]
def yZ{p:Prop}(h:¬p):flag p=0:=by grind[flag]
def Zo{x:AU×A}(h:SK B x.1.1)(C:Dg x.1.1.2.2.1)(A_:DJ B x.1.1.2.2.1 x.1.2):Ao (En x) λr=>r.2=0->SR B x.1 r.1:=by unfold En;refine AA (B3 h.sb) λv E=>AP (y? n!) (λm=>AA (Ec h.2.1) λH _=>AC (y? n!) (λ_=>AA (P:=λr=>(∀u,r=.inl u->u.1≠0)/\∀u,r=.inr u->SR B x.1 u.1) ?_ λr hr=>BE (λu a=>AB λb=>O! b (hr.1 u a)) (λu a=>AB λ_=>hr.2 u a)));refine AW (SR B x.1 ·.1) (λs=>2*TP s.1.1.2.2.2.2.2.1+flag (∃e,NX s.1.1 x.2 e/\¬pB s.1.1.2.2.2.1 e.2.2.2.2.2.2.1.1)) ⟨KL.refl h C,A_⟩ (λs c=>?_);unfold Q9;have d:=c.1.2.2;refine AA (Sk d.1) λI _=>AJ (λ_=>?_) (y? ⟨λu a=>(by cases a),λu a=>(by cases a;exact c)⟩);refine AA (Vz d.1 d.2) λJ z=>?_;have⟨k1,D_,F,G⟩:=z;apply AT<;>intro i;grind[AB];refine AA (P:=λr=>(∃u,r=.inl u/\u.1≠0)\/∃u,r=.inr u/\SR B s.1 u.1/\2*TP u.1.1.2.2.2.2.2.1+flag (∃e,NX u.1.1 x.2 e/\¬pB u.1.1.2.2.2.1 e.2.2.2.2.2.2.1.1)<2*TP s.1.1.2.2.2.2.2.1+flag (∃e,NX s.1.1 x.2 e/\¬pB s.1.1.2.2.2.1 e.2.2.2.2.2.2.1.1)) ?_ λr hr=>?_;apply AT<;>intro o;have⟨e,k,p,q⟩:=D_ o;refine AA (Hi d.1 c.2) λK i=>AK (λm=>AB (.inl ⟨_,rfl,m⟩)) (λb=>AB (.inr ⟨_,rfl,(i b).1.sr,?_⟩));have⟨l,g⟩:=i b;have n:=l.1.2.2.2.2.1;rw[ya (⟨e,k,q⟩:∃e,NX s.1.1 x.2 e/\¬pB s.1.1.2.2.2.1 e.2.2.2.2.2.2.1.1),yZ,n];dsimp only;omega;rintro⟨f,t,y⟩;have:=k.uniq t n l.1.2.1;subst this;dsimp only at g;rw[p]at g;exact y g;refine AB (.inr ⟨_,rfl,⟨k1,c.2.up k1.2.1⟩,?_⟩);grind[ACu,pB];rcases hr with⟨u,rfl,a⟩|⟨u,rfl,a⟩;refine BB (AB ⟨λw j=>?_,λw j=>(by cases j)⟩);cases j;exact a;exact Au (AB ⟨c.trans a.1,a.2⟩)
def mK{x:AU×A×C0}(h:SK B x.1.1)(K:Dg x.1.1.2.2.1)(J:DJ B x.1.1.2.2.1 x.1.2):Ao (P6 x) λr=>SR B x.1 r.1/\(r.2.1=2->r.1.1.2.2.2.2.2.1=x.1.1.2.2.2.2.2.1):=by
 unfold P6;refine AA (P:=λr=>SR B x.1 r.1/\(r.2.1=2->r.1.1.2.2.2.2.2.1=x.1.1.2.2.2.2.2.1)) ?_ λr hr=>AB hr;refine AW (λs=>SR B x.1 s.1/\s.1.1.2.2.2.2.2.1=x.1.1.2.2.2.2.2.1) (λs=>flag (¬pB s.1.1.2.2.2.1 x.2.2.2.1)) ⟨⟨KL.refl h K,J⟩,rfl⟩ (λs l=>?_);obtain⟨l,o⟩:=l;have y:=l.1.2.2;unfold Wl;refine AA (mH y.1 y.2) λf E=>?_;obtain⟨k1,L,z⟩:=E;have j:SR B x.1 (f.1,s.1.2):=⟨l.1.trans k1,l.2.up k1.2.1⟩
 have g:=k1.2.2;apply AT<;>intro q;obtain⟨a,b,c⟩:=L q;have d:=z (.inr q);refine AA (Hi g.1 j.2) λT F=>AK (λ_=>?_) (λi=>AB ?_);refine AA B6 λU R=>AB ⟨j,λ_=>?_⟩;dsimp only at*;rw[d,o];obtain⟨t,v⟩:=F i;refine⟨⟨j.trans t.sr,?_⟩,?_⟩;have:=t.1.2.2.2.2.1;dsimp only at*;rw[this,d,o];dsimp only at*;rw[ya b,yZ];omega;intro hn;rw[a]at v;exact hn v;have k:∀(Q:Step (AU×(AU×Ba)) (AU×Ba)->Prop),(∀r:AU×Ba,SR B x.1 r.1/\(r.2.1=2->r.1.1.2.2.2.2.2.1=x.1.1.2.2.2.2.2.1)->Q (.done r))->∀c:A,c≠2->f.2.1=c->Ao (σ (EO ((f.1,s.1.2),x.2.1)) λA_=>
  σ ((
    bif A_ then
     σ (En ((f.1,s.1.2),x.2.1)) λn=>
     bif (n.2 !=0)then
      σ (BI n.2) λC=>
      D (.inl ((f.1,s.1.2),C))
     else
     D (.inr (n.1,s.2))
    else
    D (.inr ((f.1,s.1.2),s.2))):(V ((AU×Ba)⊕(AU×(AU×Ba))))) λO=>
  ν (λM=>D (Step.done M))
  (λN=>D (.done (N.1,f.2))) O) Q:=by
  intro Q w c S I;refine AA (Sk g.1) λA_ _=>AA (P:=λr=>(∃u,r=.inl u/\SR B x.1 u.1/\u.2.1=5)\/∃u,r=.inr u/\SR B x.1 u.1) ?_ λr hr=>?_;refine AJ (λ_=>?_) (y? (.inr ⟨_,rfl,j⟩));refine AA (Zo g.1 g.2 j.2) λn G=>AK (λ_=>?_) (λi=>AB (.inr ⟨_,rfl,j.trans (G i)⟩));exact AA B6 λC H=>AB (.inl ⟨_,rfl,j,H⟩);rcases hr with⟨u,rfl,m⟩|⟨u,rfl,m⟩;exact BB (AB (w _ ⟨m.1,λi=>by have:=m.2;omega⟩));exact Au (AB (w _ ⟨m,λi=>by dsimp only at i;omega⟩))
 have e:SR B x.1 (f.1,s.1.2)/\(f.2.1=2->f.1.2.2.2.2.2.1=x.1.1.2.2.2.2.2.1):=⟨j,λi=>by rw[z (.inl i),o]⟩
 refine AT (λD_=>k _ (λr hr=>hr) 4 g! D_) (λ_=>AT (λp=>?_) (y? e));refine AT (λ_=>k _ (λr hr=>hr) 1 g! p) (λ_=>AT (λ_=>k _ (λr hr=>hr) 1 g! p) (y? e))
def fk{x}(h:SK B x)(d:Dg x.2.2.1):Ao (MQ x) λr=>r.2.2=0->KL B x r.1:=by unfold MQ;refine AA (B3 h.sb) λv e=>AP (y? n!) (λb=>AC (y? n!) (λ_=>AA O4 λf c=>AK (λb=>AB λa=>O! a b) (λa=>AB λ_=>⟨rfl,LX.refl _,⟨h.1,?_,h.2.2⟩,d⟩)));have:=(c a).2;dsimp only;omega
def fw{x:AU}(h:SK B x.1)(e:Dg x.1.2.2.1)(d:DJ B x.1.2.2.1 x.2):Ao (MY x) λr=>r.2.2=0->SR B x r.1:=by unfold MY;refine AA (fk h e) λf b=>AK (λc=>AB λa=>O! a c) (λa=>AB λ_=>⟨b a,d.up (b a).2.1⟩)
def fm{x:AQ×A}(h:SK B x.1)(n:Dg x.1.2.2.1):Ao (MR x) λr=>r.2.2=0->KL B x.1 r.1/\QI x.1.2.2.2.1/\pB x.1.2.2.2.1 x.2/\(∃f∈r.1.2.2.2.1.2.1,f.1=r.2.1)/\r.2.1.2.1<=r.1.2.2.1.2.2:=by
 unfold MR;refine AA (B3 h.sb) λv q=>AP (y? n!) (λp=>AA I7 λs o=>AP (y? n!) (λj=>?_));have⟨a,b,c,d,e⟩:=o.1 j;refine AA (KK h n) λt i=>AB λ_=>⟨i.1.kl,a,c,by dsimp only;rw[i.2.1];exact e,i.2.2 ?_⟩
 have⟨f,m,k⟩:=e;have g:=h.ki.2.2 f m;have:=E! (·.2.1) ((h.ki.2.1 f.1.1 g.1 g.2.1).1 f m rfl);have:=nL n f.1.1;rw[Kh,k]at*;dsimp only;omega
def fy{x:AU×A}(h:SK B x.1.1)(j:Dg x.1.1.2.2.1)(i:DJ B x.1.1.2.2.1 x.1.2):Ao (Ma x) λr=>r.2=0->SR B x.1 r.1:=by unfold Ma;refine AA (fm h j) λn l=>AK (λm=>AB λe=>O! e m) (λe=>?_);have⟨a,b,c,d,k⟩:=l e;refine AA Fe λo f=>AA (AE (f.2.2.2 b c) f.2.1) λp _=>AP (y? λ_=>⟨KL.refl h j,i⟩) (λ_=>AA (U1 a.2.2.1 a.2.2.2 (i.up a.2.1) d k) λq g=>AB λe=>⟨a.trans (g e).1.kl,(g e).2.1⟩)
end Go.Pm
namespace Go.Pm
open Go Go.Ab
def VDs(l:E Ah)(p:A):Prop:=∀(i:W)(d:Ah),l[i]?=D d->((i:A)<=d.1/\d.1<p/\1<=d.2.1/\d.2.1<=d.2.2/\d.2.2<=1099511627776)/\∀f,0<i->l[i-1]?=D f->f.1<d.1
def VIs(x:Bt):Prop:=1<=Z x/\Z x<=64/\∀r∈x,(0<=r.1/\r.1<=1099511627776)/\(0<=r.2.1/\r.2.1<=1099511627776)/\0<=r.2.2/\r.2.2<=1099511627776
def VDs.len{l}{p}(h:VDs l p)(b:p<=64):Z l<=64:=by refine R5 λa=>?_;have:=(h (Z l-1) _ (Ar o!)).1;omega
theorem ALZ{l:List Ah}{p:Int}(A_:l.length<=16777216):Ao (FJ (l,p)) λr=>r=true->VDs l p:=by
 refine AA (P:=λr=>r= .inl false\/(r= .inr ()/\VDs l p)) ?_ λr hr=>?_
 ·refine CE (λ(s:Int)=>0<=s/\s<=l.length/\ ∀(i:Nat) (d:Ah),(i:Int)<s->l[i]? =some d->((i:Int)<=d.1/\d.1<p/\1<=d.2.1/\d.2.1<=d.2.2/\d.2.2<=1099511627776)/\ ∀f,0<i->l[i-1]? =some f->f.1<d.1) (λs=>((l.length:Int)-s).toNat) ⟨AY _,by omega,λi d y=>by omega⟩ (λs w=>?_);have⟨t,B,m⟩:=w;unfold G2;dsimp[len];refine AC (λn=>?_) (λn=>Ao.done (.inr ⟨rfl,λi d a=>m i d (by have:=CZ a;omega) a⟩));obtain⟨k,rfl⟩:=FY t;refine AA (AE t n) λv g=>?_;have g:=g.1;rw[C5]at g;refine AC (λ_=>Ao.done (.inl rfl)) (λC=>AC (λ_=>Ao.done (.inl rfl)) (λD_=>AC (λ_=>Ao.done (.inl rfl)) (λE=>AC (λ_=>Ao.done (.inl rfl)) (λF=>AC (λ_=>Ao.done (.inl rfl)) (λG=>?_)))));rw[AX (x:=(k:Int)+1) (by omega)];have b:((k:Int)<=v.1/\ ∀f,0<k->l[k-1]? =some f->f.1<v.1)-> ∀(i:Nat) (d:Ah),(i:Int)<(k:Int)+1->l[i]? =some d->((i:Int)<=d.1/\d.1<p/\1<=d.2.1/\d.2.1<=d.2.2/\d.2.2<=1099511627776)/\ ∀f,0<i->l[i-1]? =some f->f.1<d.1:=λq i d y a=>by
   by_cases h:i=k
   ·subst h;rw[g]at a;cases a;exact⟨⟨q.1,by omega,by omega,by omega,by omega⟩,q.2⟩
   ·exact m i d (by omega) a
  refine AC (λe=>?_) (λe=>Ao.next ⟨by omega,by omega,b ⟨by omega,λf u=>absurd u (by omega)⟩⟩ (by omega));rw[AX (x:=(k:Int)-1) (by omega)];refine AA (AE (by omega) (by omega)) λz c=>?_;have c:=c.1;rw[show((k:Int)-1).toNat=k-1 by omega]at c;refine AC (λ_=>Ao.done (.inl rfl)) (λH=>?_);have j:=(m (k-1) z (by omega) c).1.1;refine Ao.next ⟨by omega,by omega,b ⟨by omega,λf _ o=>?_⟩⟩ (by omega)
  rw[c]at o;cases o;omega
 ·grind[BB,AB,Au]
def AFi{x}:Ao (Gy x) λr=>r=Y->0<=x/\x<=1099511627776:=by refine AC (λh=>AB λa=>⟨o!,N! a⟩) (y? λa=>by cases a)
def AJs{x:Bt}:Ao (Dx x) λr=>r=ζ->VIs x:=by
 refine AC (λ_=>AB λa=>by cases a) (λd=>AC (λ_=>AB λa=>by cases a) (λe=>?_));simp[len]at d e;refine AA (P:=λr=>r=.inl η\/(r=.inr ()/\VIs x)) ?_ λr hr=>?_
 ·refine CE (λ(s:Int)=>0<=s/\s<=θ x/\∀r∈x.take s.toNat,(0<=r.1/\r.1<=1099511627776)/\(0<=r.2.1/\r.2.1<=1099511627776)/\0<=r.2.2/\r.2.2<=1099511627776) (λs=>((θ x:Int)-s).toNat) ⟨AY _,o!,λr hr=>by simp at hr⟩ (λs g=>?_);have⟨i,p,c⟩:=g;unfold Jd;dsimp[len];refine AC (λb=>?_) (λb=>Ao.done (.inr ⟨rfl,o!,o!,by rw[BG o!]at c;exact c⟩));refine AA (AE i b) λv h=>AA AFi λj m=>AP (λ_=>Ao.done (.inl rfl)) (λq=>AA AFi λk n=>AP (λ_=>Ao.done (.inl rfl)) (λt=>AA AFi λl o=>AP (λ_=>Ao.done (.inl rfl)) (λu=>?_)));rw[AX (x:=s+1)];have f:∀r∈x.take (s+1).toNat,(0<=r.1/\r.1<=1099511627776)/\(0<=r.2.1/\r.2.1<=1099511627776)/\0<=r.2.2/\r.2.2<=1099511627776:=λr hr=>by rw[show(s+1).toNat=s.toNat+1 by omega,CC,h.1]at hr;grind
  grind[AT,Ao.next,AK,Ao.done]
 grind[BB,AB,Au]
def VCk(c:CU):Prop:=1<=c.1/\c.1<=64/\1<=c.2.1/\c.2.1<=1073741825/\VDs c.2.2.2.1 c.1/\VIs c.2.2.2.2/\Z c.2.2.2.2=c.1
def ALE{c:CU}(d:Z c.2.2.2.1<=16777216):Ao (G9 c) λr=>r=Y->VCk c:=by refine AC (y? λa=>by cases a) (λf=>AC (y? λa=>by cases a) (λg=>AC (y? λa=>by cases a) (λh=>AC (y? λa=>by cases a) (λi=>AA Du λo b=>AP (y? λa=>by cases a) (λe=>AA (ALZ d) λp j=>AP (y? λa=>by cases a) (λl=>AA AJs λq k=>AP (y? λa=>by cases a) (λm=>AK (y? λa=>by cases a) (λn=>AA (Rp ⟨AY _,o!,by have:=(b e).1;omega⟩) λr hr=>?_))))))));grind[VCk,BE,AB]
def dB(d:Ah):Bc:=DE d.1 1++(DE d.2.1 8++DE d.2.2 8)
def rB(r:BP):Bc:=DE r.1 8++(DE r.2.1 8++DE r.2.2 8)
def xC(l:E Ah):Bc:=(l.map dB).flatten
def tK(l:E BP):Bc:=(l.map rB).flatten
def AJF(d:Ah):(dB d).length=17:=rfl
def AJh(r:BP):(rB r).length=24:=rfl
def AFI(l:E Ah)(d:Ah):xC (l++[d])=xC l++dB d:=by grind[xC,List.flatten_append]
def AGK(l:E BP)(d:BP):tK (l++[d])=tK l++rB d:=by grind[tK,List.flatten_append]
def AAC(l:E Ah)(d:Ah):xC (d::l)=dB d++xC l:=rfl
theorem AAt(l:E BP)(d:BP):tK (d::l)=rB d++tK l:=rfl
theorem nH:∀l:E Ah,(xC l).length=17*Z l
 |[]=>rfl
 |d::l=>by rw[AAC,Ae,AJF,nH l,CY];omega
theorem tq:∀l:E BP,(tK l).length=24*Z l
 |[]=>rfl
 |d::l=>by rw[AAt,Ae,AJh,tq l,CY];omega
def i8r{n:A}(a:0<=n)(b:n<=1099511627776):gR 8 n:=⟨n!,o!⟩
def i1r{n:A}(a:0<=n)(b:n<256):gR 1 n:=⟨λ_=>q!,o!⟩
def i2r{n:A}(a:0<=n)(b:n<65536):gR 2 n:=⟨λ_=>q!,o!⟩
def i4r{n:A}(a:0<=n)(b:n<4294967296):gR 4 n:=⟨λ_=>q!,o!⟩
def AHO{x}(h:VIs x):Ao (IJ x) λr=>r.1=DE (Z x:A) 2++tK x\/r.1=[]:=by
 have⟨c,d,e⟩:=h;refine AA AJs λi b=>AP (y? (.inr rfl)) (λ_=>?_);rw[HQ k! g! g!,AD,Cq];refine AA (P:=λr=>r=DE (Z x:A) 2++tK x) (CE (λs=>∃k:W,k<=Z x/\s=(DE (Z x:A) 2++tK (x.take k),(k:A))) (Z x-·.2.toNat) ⟨0,Bh _,by simp[tK]⟩ ?_) λr hr=>AB (.inl hr);rintro s ⟨k,f,rfl⟩;unfold Ip;dsimp[U];refine AC (λa=>?_) (λa=>k? q!);have g:(DE (Z x:A) 2++tK (x.take k)).length<=2000:=by grind[n?,A0,tq,r?]
 rw[(by unfold ix;rw[C! o!,s?,m? o!]:ix x (k:A)=D x[k]),p?,HQ o! g! g!,p?,p?,HQ (by rw[n?,A0];simp only[Int.reduceToNat];omega) g! g!,p?,p?,HQ (by rw[n?,n?,A0,A0];simp only[Int.reduceToNat];omega) g! g!,p?,AX];refine y! ⟨k+1,o!,?_⟩ o!
 rw[(by simp_all:x.take (k+1)=x.take k++[x[k]]),AGK];simp only[A5];exact Dh rfl o!
def AHJ{x}(h:VIs x):Ao (Eb (DE (Z x:A) 2++tK x)) λr=>r.2=0->r.1=x:=by
 have⟨w,y,m⟩:=h;have B:(DE (Z x:A) 2++tK x).length=2+24*Z x:=by rw[Ae,A0,tq]
 unfold Eb;have d:=(mM (x:=DE (Z x:A) 2++tK x) (p:=[]) (rest:=tK x) (at_:=0) (k:=2) (n:=(Z x:A)) rfl rfl o! g! g! (i2r o! o!)).1;rw[show(((2:W)):A)=2 from rfl]at d;rw[d,AD];have t:wi (U (DE (Z x:A) 2++tK x)-2)=24*(Z x:A):=by grind[AX]
 have u:wi (24*((Z x:A),(0:A)).1)=24*(Z x:A):=AX q!;rw[show((((Z x:A),(0:A)):A×A).2 !=0)=X from rfl,A!,F! o!,A!,F! o!,A!];refine AA (P:=λr=>r=x) ?_ λr hr=>?_
 ·refine CE (λs=>∃k:W,k<=Z x/\s=((k:A),x.take k)) (Z x-·.1.toNat) ⟨0,Bh _,rfl⟩ ?_;rintro s ⟨k,A_,rfl⟩;unfold Io;dsimp only;refine AC (λq=>?_) (λq=>k? (by rw[BG o!]));have b:k<Z x:=o!
  have a:(tK (x.take k)).length=24*k:=by grind[tq,r?]
  have c:DE (Z x:A) 2++tK x=(DE (Z x:A) 2++tK (x.take k))++(DE x[k].1 8++(DE x[k].2.1 8++(DE x[k].2.2 8++tK (x.drop (k+1))))):=by rw[(by grind[AAt,List.drop_eq_getElem_cons,tK,List.flatten_append,List.take_append_drop]:tK x=tK (x.take k)++(rB x[k]++tK (x.drop (k+1))))];unfold rB;simp[A5]
  have⟨i,j,l⟩:=m x[k] (Of b);have e:=(mM (at_:=2+24*(k:A)) (k:=8) c (by rw[Ae,A0,a];omega) o! g! g! (i8r i.1 i.2)).1;rw[<-A5]at c;have f:=(mM (at_:=10+24*(k:A)) (k:=8) c (by simp[Ae,A0,a];omega) o! g! g! (i8r j.1 j.2)).1;rw[<-A5]at c;have g:=(mM (at_:=18+24*(k:A)) (k:=8) c (by simp[Ae,A0,a];omega) o! g! g! (i8r l.1 l.2)).1;rw[show(((8:W)):A)=8 from rfl]at e f g;rw[AX (x:=24*(k:A)),AX (x:=2+24*(k:A)),AX (x:=10+24*(k:A)),AX (x:=18+24*(k:A)),e,AD,f,AD,g,AD,AX (x:=(k:A)+1)];refine AA (Ac (by rw[BK];simp;omega)) λC o=>y! ⟨k+1,b,?_⟩ d!
  rw[o.1,(by simp_all:x.take (k+1)=x.take k++[x[k]])];exact Dh d! rfl
 subst hr;exact AA AJs λD_ z=>AP (y? λv=>O! (show(28:A)=0 from v) g!) (y? λ_=>rfl)
def AHP{c:CU}(l:Z c.2.2.2.1<=16777216):Ao (Gj c) λr=>Z r.1<=8192->r.1=[]\/(VCk c/\∃b g:Bc,r.1=DE c.1 2++(DE c.2.1 4++(DE (Z b:A) 4++(b++(DE (Z c.2.2.2.1:A) 1++(xC c.2.2.2.1++g)))))/\(g=DE (Z c.2.2.2.2:A) 2++tK c.2.2.2.2\/g=[])):=by
 unfold Gj;refine AA (ALE l) λB n=>AP (y? λ_=>.inl rfl) (λe=>?_);have m:=n e;have⟨a1,a2,a3,a4,a5,a6,a7⟩:=id m;have t:=a5.len a2;refine AA Ta λx z=>?_;rw[HQ k! g! g!,AD,Cq,HQ (by rw[A0];decide) g! g!,AD,HQ (by simp only[Ae,A0];decide) g! g!,AD];refine AA (Cb (by simp[Ae,A0,Int.reduceToNat];omega)) λj q=>?_;have w:=q.2;simp[Ae,A0,Int.reduceToNat]at w;dsimp[U];rw[HQ o! g! g!,AD];refine AA (P:=λr=>r=j++(DE (Z c.2.2.2.1:A) 1++xC c.2.2.2.1)) ?_ λh o=>?_
 ·refine CE (λs=>∃k:W,k<=Z c.2.2.2.1/\s=(j++(DE (Z c.2.2.2.1:A) 1++xC (c.2.2.2.1.take k)),(k:A))) (Z c.2.2.2.1-·.2.toNat) ⟨0,Bh _,by simp[xC]⟩ ?_;rintro s ⟨k,A_,rfl⟩;unfold Ir;dsimp[U];refine AC (λe=>?_) (λe=>k? q!);have a:k<Z c.2.2.2.1:=o!
  have u:ix c.2.2.2.1 (k:A)=D c.2.2.2.1[k]:=by unfold ix;rw[C! o!,s?,m? a]
  have l:(j++(DE (Z c.2.2.2.1:A) 1++xC (c.2.2.2.1.take k))).length<=100000000:=by grind[n?,A0,nH,r?]
  rw[u,AD,HQ o! g! g!,AD,AD,HQ (by rw[Ae,A0];simp only[Int.reduceToNat];omega) g! g!,AD,AD,HQ (by rw[Ae,Ae,A0,A0];simp only[Int.reduceToNat];omega) g! g!,AD,AX];refine y! ⟨k+1,a,?_⟩ q!
  have f:c.2.2.2.1.take (k+1)=c.2.2.2.1.take k++[c.2.2.2.1[k]]:=t!
  rw[f,AFI];unfold dB;grind[t?,Prod.ext]
 refine AA (TY.and (AHO a6)) λi d=>?_;have v:Z h<=100000000:=by grind[n?,A0,nH]
 refine AA (Cb o!) λy p=>AB λ_=>.inr ⟨m,x.1,i.1,?_,d.2⟩;grind[t?]
theorem AHK{c:CU}(Q:VCk c){b l s:Bc}(J:s=DE c.1 2++(DE c.2.1 4++(DE (b.length:Int) 4++(b++(DE (c.2.2.2.1.length:Int) 1++(xC c.2.2.2.1++l))))))(X_:s.length≤8192)(v:l=DE (c.2.2.2.2.length:Int) 2++tK c.2.2.2.2∨l=[]):
  Ao (DM s) λr=>r.2=0->r.1.1=c.1/\r.1.2.2.2.1=c.2.2.2.1/\r.1.2.2.2.2=c.2.2.2.2:=by
 obtain⟨a1,a2,a3,a4,a5,a6,a7⟩:=id Q;have O:=a5.len a2;have d:=J;have y:=congrArg List.length J;simp only[Ae,A0,nH]at y;have F:=(mM (x:=s) (p:=[]) (at_:=0) (k:=2) (n:=c.1) (show s=[]++(DE c.1 2++_)from d) rfl (by omega) (by decide) (by decide) (i2r (by omega) (by omega))).1;have G:=(mM (at_:=2) (k:=4) (n:=c.2.1) d (by rw[A0];rfl) (by omega) (by decide) (by decide) (i4r (by omega) (by omega))).1;rw[<-A5]at d;have H:=(mM (at_:=6) (k:=4) (n:=(b.length:Int)) d (by rw[Ae,A0,A0];rfl) (by omega) (by decide) (by decide) (i4r (by omega) (by omega))).1;rw[<-A5,<-A5]at d;have I:=(mM (at_:=10+(b.length:Int)) (k:=1) (n:=(c.2.2.2.1.length:Int)) d (by simp only[Ae,A0];omega) (by omega) (by decide) (by decide) (i1r (by omega) (by omega))).1;rw[<-A5]at d;rw[show(((2:Nat)):Int)=2 from rfl]at F;rw[show(((4:Nat)):Int)=4 from rfl]at G H;rw[show(((1:Nat)):Int)=1 from rfl]at I;have w:((((DE c.1 2++DE c.2.1 4)++DE (b.length:Int) 4)++b)++DE (c.2.2.2.1.length:Int) 1).length=11+b.length:=by simp only[Ae,A0];omega
 generalize V:(((DE c.1 2++DE c.2.1 4)++DE (b.length:Int) 4)++b)++DE (c.2.2.2.1.length:Int) 1=P at d w;unfold DM;rw[F,AD,G,AD,H,AD];dsimp only[len];rw[show((0:Int) !=0)=false by decide,cond_false,AX (x:=(s.length:Int)-10) (by omega),decide_eq_false (by omega),cond_false,AX (x:=10+(b.length:Int)) (by omega)];refine AA (Cj (by decide) (by omega) (by omega)) λv3 L=>?_;rw[I,AD];dsimp only;rw[show((0:Int) !=0)=false by decide,cond_false,AX (x:=(s.length:Int)-(10+(b.length:Int))) (by omega),AX (x:=(s.length:Int)-(10+(b.length:Int))-1) (by omega),AX (x:=17*(c.2.2.2.1.length:Int)) (by omega),decide_eq_false (by omega),cond_false,AX (x:=10+(b.length:Int)+1) (by omega)];refine AA (P:=λr=>r=((P.length:Int)+17*c.2.2.2.1.length,(c.2.2.2.1,(c.1,(c.2.1,([],[])))))) ?_ λR m=>?_
 ·refine CE (λ(q:Int×Int×List Ah×Int×Int×List Ak×Bt)=> ∃k:Nat,k<=c.2.2.2.1.length/\q=((P.length:Int)+17*k,((k:Int),(c.2.2.2.1.take k,(c.1,(c.2.1,([],[]))))))) (λq=>c.2.2.2.1.length-q.2.1.toNat) ⟨0,Bh _,?_⟩ ?_
  ·refine Dh ?_ rfl;dsimp only;omega
  rintro q ⟨k,W,rfl⟩;unfold Mz;dsimp only;refine AC (λN=>?_) (λN=>Ao.done (by rw[BG (by omega),show k=c.2.2.2.1.length by omega]));have e:k<c.2.2.2.1.length:=by omega
  have z:xC c.2.2.2.1=xC (c.2.2.2.1.take k)++(dB c.2.2.2.1[k]++xC (c.2.2.2.1.drop (k+1))):=by rw[<-AAC,<-J4 e];unfold xC;rw[<-List.flatten_append,<-Gt,Cr]
  have f:(xC (c.2.2.2.1.take k)).length=17*k:=by rw[nH,BK];omega
  have i:s=(P++xC (c.2.2.2.1.take k))++(DE c.2.2.2.1[k].1 1++(DE c.2.2.2.1[k].2.1 8++(DE c.2.2.2.1[k].2.2 8++(xC (c.2.2.2.1.drop (k+1))++l)))):=by rw[d,z];unfold dB;simp only[A5]
  obtain⟨Y_,Z,q3,q4,q5⟩:=(a5 k _ (Ar e)).1;have C:=(mM (at_:=(P.length:Int)+17*k) (k:=1) i (by rw[Ae,f];omega) (by omega) (by decide) (by decide) (i1r (by omega) (by omega))).1;rw[<-A5]at i;have D_:=(mM (at_:=(P.length:Int)+17*k+1) (k:=8) i (by simp only[Ae,A0,f];omega) (by omega) (by decide) (by decide) (i8r (by omega) (by omega))).1;rw[<-A5]at i;have E:=(mM (at_:=(P.length:Int)+17*k+9) (k:=8) i (by simp only[Ae,A0,f];omega) (by omega) (by decide) (by decide) (i8r (by omega) (by omega))).1;rw[show(((1:Nat)):Int)=1 from rfl]at C;rw[show(((8:Nat)):Int)=8 from rfl]at D_ E;rw[C,AD,AX (x:=(P.length:Int)+17*k+1) (by omega),D_,AD,AX (x:=(P.length:Int)+17*k+9) (by omega),E,AD,AX (x:=(P.length:Int)+17*k+17) (by omega),AX (x:=(k:Int)+1) (by omega)];refine AA (Ac (by rw[BK];simp;omega)) λv5 M=>Ao.next ⟨k+1,e,?_⟩ (by dsimp only;omega)
  have B:c.2.2.2.1.take (k+1)=c.2.2.2.1.take k++[c.2.2.2.1[k]]:=by rw[CC,Ar e];rfl
  rw[M.1,B];refine Dh ?_ (Dh ?_ rfl)
  ·dsimp only;omega
  ·dsimp only;omega
 ·subst m;refine AA (TZ (by rw[L.1,BK,Dr];omega)) λS _=>?_;refine AK (λg=>AB λh=>absurd h g) (λ_=>?_);dsimp only;have A_:US s ((P.length:Int)+17*(c.2.2.2.1.length:Int)) (s.length:Int)=some l:=by
   unfold US;rw[if_pos (by omega),d,<-A5];have u:(P++xC c.2.2.2.1).length=((P.length:Int)+17*(c.2.2.2.1.length:Int)).toNat:=by rw[Ae,nH];omega
   rw[<-u,R6,BG (by rw[Ae];omega)]
  rw[A_,AD];rcases v with rfl|rfl
  ·refine AA ((TX (by omega)).and (AHJ a6)) λT o=>?_;refine AK (λg=>AB λh=>absurd h g) (λj=>?_);refine AA (O6 (by dsimp only;omega)) λU _=>?_;refine AP (λ_=>AB λh=>absurd (show(24:Int)=0 from h) (by decide)) (λ_=>AB λ_=>⟨rfl,rfl,o.2 j⟩)
  ·have K:Eb []=some ([],5):=by unfold Eb;have:=lD (a:=[]) (t:=[]) (k:=2) (by decide) (by decide) (by decide);rw[D1,if_neg (by decide)]at this;rw[show((([]:Bc).length:Nat):Int)=0 from rfl]at this;rw[this];rfl
   rw[K,AD];exact AB λh=>absurd (show(5:Int)=0 from h) (by decide)
variable {B:Int->Prop}
def Uv{x:Bw}:Ao (I6 x) λr=>θ r<=64/\(∀d∈r,∃f∈x.2.1,f.1.1=d.1/\d.2.2=f.1.2.1)/\(QI x->∀f∈x.2.1,f.2.1=ζ->0<=f.1.1->f.1.1<64->∃d∈r,d.1=f.1.1):=by
 unfold I6;refine AA EM λv B=>AP (λm=>AB ⟨k!,k!,λo=>O! (B.2 o) (by simp[m])⟩) (λm=>?_);have o:=B.1 m;have R:=o.2.1;have S:=o.2.2.1;refine AA (P:=λr=>θ r<=64/\(∀d∈r,∃f∈x.2.1,f.1.1=d.1/\d.2.2=f.1.2.1)/\∀f∈x.2.1,f.2.1=ζ->0<=f.1.1->f.1.1<64->∃d∈r,d.1=f.1.1) ?_ λr hr=>AB ⟨hr.1,hr.2.1,λ_=>hr.2.2⟩;refine CE (λ(s:Int×List Ah)=>0<=s.1/\s.1<=64/\θ s.2<=s.1/\(∀d∈s.2,∃f∈x.2.1,f.1.1=d.1/\d.2.2=f.1.2.1)/\∀f∈x.2.1,f.2.1=ζ->0<=f.1.1->f.1.1<s.1->∃d∈s.2,d.1=f.1.1) (λ(s:Int×List Ah)=>(64-s.1).toNat) ⟨AY _,u!,k!,k!,λf _ _ i k=>O! k d!⟩ (λs I=>?_);have⟨k,O,Q,p,q⟩:=I;unfold TW;rw[(AX (x:=s.1+1))];refine AC (λm=>?_) (λm=>Ao.done ⟨o!,p,λf h c i k=>q f h c i o!⟩);refine AA (Gg d!) λL b=>AC (λa=>?_) (λa=>Ao.next ⟨d!,d!,d!,p,λf h c i k=>?_⟩ d!)
 ·have⟨g,A_,t⟩:=b.2.2.1 a;have D_:∀w,x.2.1[L.toNat]?=δ w->w=g:=λw C=>by rw[A_]at C;exact(BL C).symm
  refine AA (AE a b.2.1) λM y=>?_;have E:=D_ M y.1;subst E;refine AA (P:=λl=>θ l<=θ s.2+1/\(∀d∈l,∃f∈x.2.1,f.1.1=d.1/\d.2.2=f.1.2.1)/\∀f∈x.2.1,f.2.1=ζ->0<=f.1.1->f.1.1<s.1+1->∃d∈l,d.1=f.1.1) ?_ λV H=>Ao.next ⟨d!,d!,d!,H.2⟩ d!
  refine AJ (λn=>?_) (λn=>AB ⟨o!,p,λf h c i k=>?_⟩);refine AA (AE a b.2.1) λT _=>AA (AE a b.2.1) λN z=>?_;have F:=D_ N z.1;subst F;refine AA (Ac w!) λU G=>AB ⟨?_,λd c=>?_,λf h c i k=>?_⟩;grind;grind;rw[G.1];by_cases e:f.1.1<s.1;have⟨d,J,K⟩:=q f h c i e;grind[List.mem_append_left];exact⟨_,La _ (A7.2 rfl),d!⟩;by_cases e:f.1.1<s.1;exact q f h c i e;have⟨j,u⟩:=Cu h;have:=o.uniq u A_ (by dsimp only at t;omega);subst this;rw[n]at c;cases c
 by_cases e:f.1.1<s.1;grind;have⟨j,u⟩:=Cu h;exact O! ⟨j,f,u,by dsimp only at k⊢;omega⟩ (b.2.2.2 o!)
def mJ{x:AQ}(h:SK B x):Ao (P5 x) λr=>r.2=0->θ r.1.2.2.2.1<=16777216/\r.1.1=x.1/\zN x.1 x.2.2.1.2.1 r.1.2.2.2.1 r.1.2.2.2.2:=by
 unfold P5;refine AA (B3 h.sb) λv hv=>AP (λ_=>AB n!) (λo=>?_);have J:=hv o;have ad:=J.2.1;have⟨ag,n,H⟩:=h.ki;refine AA (P:=λr=>θ r.1<=16777216/\r.2=(x.1,x.2.1,x.2.2.2.2.2.1,x.2.2.2.2.2.2.1)/\(∀d∈r.1,d.2.2=BW x.2.2.1.2.1 d.1)/\∀p,0<=p->p<x.1->(∀d∈r.1,d.1≠p)->(∀d∈x.2.2.2.2.2.2.2,d.1≠p)/\∀f∈x.2.2.2.1.2.1,f.1.1=p->f.2.1=η) ?_ λr hr=>AB λ_=>⟨hr.1,by rw[hr.2.1],λp g i=>⟨λd a e=>by rw[hr.2.2.1 d a,e],λw D_=>?_⟩⟩
 rotate_left 1;dsimp only at D_;rw[hr.2.1]at D_;have⟨_,_,c⟩:=n p g i;exact⟨(c w D_).1,λa=>(c w D_).2 (hr.2.2.2 p g i a).1 (hr.2.2.2 p g i a).2⟩;refine CE (λ(s:Int×List Ah×Int×Int×List Ak×Bt)=>0<=s.1/\s.1<=x.1/\θ s.2.1<=65*s.1/\s.2.2=(x.1,x.2.1,x.2.2.2.2.2.1,x.2.2.2.2.2.2.1)/\(∀d∈s.2.1,d.2.2=BW x.2.2.1.2.1 d.1)/\∀p,0<=p->p<s.1->(∀d∈s.2.1,d.1≠p)->(∀d∈x.2.2.2.2.2.2.2,d.1≠p)/\∀f∈x.2.2.2.1.2.1,f.1.1=p->f.2.1=η) (λ(s:Int×List Ah×Int×Int×List Ak×Bt)=>(x.1-s.1).toNat) ⟨AY _,by have:=J.1;dsimp only;omega,k!,rfl,k!,λp g i=>O! i d!⟩ (λs hI=>?_);have⟨h1,h2,h3,S,T,b⟩:=hI;unfold Wi;have e:=AX (x:=s.1+1);rw[e];refine AC (λo=>?_) (λ_=>Ao.done ⟨o!,S,T,λp g i=>b p g o!⟩);refine AA (KM h.sb) λv2 y=>AA (P:=λl=>θ l.1<=θ s.2.1+1/\l.2=s.2.2/\(∀d∈l.1,d.2.2=BW x.2.2.1.2.1 d.1)/\(∀d∈s.2.1,d∈l.1)/\((∀d∈l.1,d.1≠s.1)->∀d∈x.2.2.2.2.2.2.2,d.1≠s.1)) ?_ λX_ F=>?_;refine AJ (λm=>AA (Ac w!) λv6 b=>AB ?_) (λm=>AB ⟨o!,rfl,T,λd a=>a,λ_=>y.2 m⟩);have⟨q1,N⟩:=y.1 m;have K:=b.2.1;simp at K;refine⟨d!,rfl,λd a=>?_,λd a=>by dsimp only;rw[b.1];exact FA _ a,λhn=>O! N (hn _ (by dsimp only;rw[b.1];exact La _ (A7.2 rfl)))⟩;dsimp only at a;rw[b.1,Al]at a;rcases a with a|a;grind;rw[A7]at a;subst a;exact(n _ (by dsimp only at N;omega) (by dsimp only at N;omega)).2.1 _ q1 rfl;have⟨a1,a2,a3,a4,a5⟩:=F;refine AA Uv λE L=>?_;have⟨b1,Z,b3⟩:=L;refine AA (P:=λl=>θ l.1<=θ s.2.1+65/\l.2=s.2.2/\(∀d∈l.1,d.2.2=BW x.2.2.1.2.1 d.1)/\(∀d∈X_.1,d∈l.1)/\∀d∈E,d.1=s.1->d∈l.1) ?_ λal k=>Ao.next ⟨d!,d!,d!,by dsimp only;rw[k.2.1,S],k.2.2.1,λp g i hn=>?_⟩ d!
 rotate_left 1;have⟨_,_,_,O,c5⟩:=k;dsimp only at i hn;by_cases u:p<s.1;exact b p g u λd a=>hn d (O d (a4 d a));have ep:p=s.1:=o!
 subst ep;refine⟨a5 λd a=>hn d (O d a),λf C R=>?_⟩;cases hb:f.2.1 with
 |false=>rfl
 |true=>have⟨d,G,q⟩:=b3 J.2.2.2.1 f C hb o! o!;exact O! (q.trans R) (hn d (c5 d G (q.trans R)))
 refine CE (λ(t:Int×List Ah×Int×Int×List Ak×Bt)=>0<=t.1/\t.1<=θ E/\θ t.2.1<=θ s.2.1+1+t.1/\t.2.2=s.2.2/\(∀d∈t.2.1,d.2.2=BW x.2.2.1.2.1 d.1)/\(∀d∈X_.1,d∈t.2.1)/\∀(j:Nat)(d:Ah),(j:Int)<t.1->E[j]?=δ d->d.1=s.1->d∈t.2.1) (λ(t:Int×List Ah×Int×Int×List Ak×Bt)=>((θ E:Int)-t.1).toNat) ⟨AY _,d!,d!,a2,a3,λd a=>a,λj d I=>O! I d!⟩ (λt hJ=>?_);have⟨j1,j2,j3,V,M,W,j7⟩:=hJ;unfold Wj;have e2:=AX (x:=t.1+1);rw[e2];refine AC (λo=>?_) (λo=>Ao.done ⟨o!,V,M,W,λd a Q=>?_⟩);rotate_left 1;grind[List.getElem?_of_mem,CZ];simp[len]at o;refine AA (AE j1 o) λY_ z=>AA (P:=λl=>θ l.1<=θ t.2.1+1/\l.2=t.2.2/\(∀d∈l.1,d.2.2=BW x.2.2.1.2.1 d.1)/\(∀d∈t.2.1,d∈l.1)/\(Y_.1=s.1->Y_∈l.1)) ?_ λv9 A_=>Ao.next ⟨d!,d!,d!,A_.2.1.trans V,A_.2.2.1,λd a=>A_.2.2.2.1 d (W d a),λj d I a Q=>?_⟩ d!
 rotate_left 1;dsimp only at I;by_cases u:(j:Int)<t.1;grind;have:j=t.1.toNat:=o!
 subst this;rw[z.1]at a;have:=BL a;subst this;exact A_.2.2.2.2 Q;refine AT (λU=>AA (Ac w!) λv6 b=>AB ?_) (λU=>AB ⟨o!,rfl,M,λd a=>a,λe=>O! e U⟩);have K:=b.2.1;simp at K;refine⟨d!,rfl,λd a=>?_,λd a=>by dsimp only;rw[b.1];exact FA _ a,λ_=>by dsimp only;rw[b.1];exact La _ (A7.2 rfl)⟩;dsimp only at a;rw[b.1,Al]at a;rcases a with a|a;exact M d a;rw[A7]at a;subst a;have⟨f,C,f1,f2⟩:=Z d z.2;have hr:=H f C;rw[f2,(n d.1 o! o!).1 f C f1,Kh]
theorem AHL:∃c e,DM []=D (c,e)/\e≠0:=⟨(0,0,[],[],[]),5,h!,g!⟩
def jN{x}(h:SK B x):Ao (Ro x) λr=>r.2.2=0->KL B x r.1:=by
 refine AA (mJ h) λO u=>AK (λb=>AB λa=>O! a b) (λa=>?_);have⟨o,N,C⟩:=u a;refine AA ((cy o).and (AHP o)) λG j=>AC (y? n!) (λf=>?_);simp[U]at f;have d:∀c,DM G.1=D (c,0)->c.1=x.1->zN x.1 x.2.2.1.2.1 c.2.2.2.1 c.2.2.2.2:=by intro c b _;rcases j.2 o! with e|⟨g,F,M,A_,i⟩;grind[AHL,Option.some.inj];have⟨_,D_,E⟩:=(AHK g A_ o! i).get b rfl;rw[D_,E];exact C
 refine AA (Fx h.sb) λP v=>AK (λb=>AB λa=>O! a b) (λa=>?_);have⟨_,⟨a1,a2,a3,a4,a5,a6,a7,a8,e,k,s,t,l,K,m,L⟩,w⟩:=v a;dsimp only at a1 a2 a4 a7 k s t l m w;have y:=a2.1;refine AA (KG.and (uG a3 q!)) λQ n=>AB λ_=>?_;have⟨H,p,I,J,_⟩:=n.1 n.2;refine⟨a1,a2.trans (LX.of I p J),⟨a8.1,a8.2.1,a8.2.2,?_⟩,H⟩;unfold KI;rw[a1,a4,a7,p,k,m g!];refine⟨h.ki.1.app ⟨λq=>o!,λq=>o!,λ_=>?_,o!⟩,h.ki.2.1.app o!,h.ki.2.2⟩;rw[(E! (·.2.2) l)];exact d
def YE{x:AU}(h:SK B x.1)(d:DJ B x.1.2.2.1 x.2):Ao (Lw x) λr=>r.2.2=0->SR B x r.1:=by exact AA (jN h) λe b=>AK (λc=>AB λa=>O! a c) (λa=>AB λ_=>⟨b a,d.up (b a).2.1⟩)
end Go.Pm
namespace Go.Pm
open Go Go.Ab
theorem cw{x:Bc}(h:x.length<=1099511627776):Ao (DM x) λr=>r.2=0->uO r.1/\r.1.2.2.2.1.length<=65536:=by
 unfold DM;refine AA (DB h) λO _=>AA (DB h) λQ _=>AA (DB h) λc w=>AK (λa=>AB λb=>absurd b (by decide)) (λj=>?_);have⟨a1,a2,a3,_⟩:=w j;have a4:=a3 (by grind);dsimp only at a1 a2;rw[(AX (x:=len x-10) (by grind))];refine AC (λa=>AB λb=>absurd b (by decide)) (λa=>?_);simp[len]at a;rw[(AX (x:=10+c.1) (by omega))];refine AA (Cj (by decide) (by omega) (by omega)) λR y=>AA (DB h) λd z=>AK (λa=>AB λb=>absurd b (by decide)) (λk=>?_);have⟨o,p,q,t⟩:=z k;have G:=q (by grind);have H:=t (by grind);dsimp only at o p;rw[(AX (x:=len x-(10+c.1)) (by grind))];rw[(AX (x:=len x-(10+c.1)-1) (by grind))];rw[(AX (x:=17*d.1) (by omega))];refine AC (λa=>AB λb=>absurd b (by decide)) (λi=>?_);simp[len]at i;rw[(AX (x:=10+c.1+1) (by omega))];refine AA (P:=λr=>r.1=10+c.1+1+17*d.1/\r.2.1.length<=65536) ?_ λB e=>?_
 ·refine AW (λ(s:Int×Int×List Ah×Int×Int×List Ak×Bt)=>0<=s.2.1/\s.2.1<=d.1/\s.1=10+c.1+1+17*s.2.1/\s.2.2.1.length<=s.2.1) (λ(s:Int×Int×List Ah×Int×Int×List Ak×Bt)=>(d.1-s.2.1).toNat) ⟨AY _,by grind,by grind,by simp⟩ (λs A_=>?_);have⟨J,K,L,M⟩:=A_;unfold Mz;refine AC (λa=>AA (DB h) λ_ _=>AA (DB h) λ_ _=>AA (DB h) λ_ _=>AA (Ac (by simp;omega)) λS I=>?_) (λa=>AB ⟨by grind,by grind⟩);grind[List.length_cons,List.length_nil,AX,AB]
 have N:=y.2;refine AA (TZ (by omega)) λC u=>AK (λa=>AB λb=>absurd b a) (λm=>AA (Cj (by omega) (by simp[len];omega) (by simp only[len];omega)) λD_ f=>?_);have l:=f.2;simp[len]at l;exact AA (TX (by omega)) λE v=>AK (λa=>AB λb=>absurd b a) (λn=>AA (O6 (by dsimp only;omega)) λF g=>AP (λa=>AB λb=>absurd b (by decide)) (λa=>AB λ_=>⟨g a,e.2⟩))
def Ml.data{e}(h:Ml e):Z e.2.2.2.2.2.2.2<=8192:=by have a:=h.2.2.2.2.2.2.2.2;grind[WM]
def Te{x:Aa}:Ao (P4 x) λr=>r.2.2=ζ->(uO r.1/\θ r.1.2.2.2.1<=65536)/\∃(i:Nat)(e:AI),x.2.1[i]?=δ e/\e.2.1=6/\e.1=r.2.1/\DM e.2.2.2.2.2.2.2=δ (r.1,0):=by
 refine AA BM λv j=>AP (λ_=>AB λc=>by cases c) (λa=>?_);have f:=j.1 a;have g:=f.2.2.1;have e:=AX (x:=len x.2.1-1) q!;refine AA (P:=λr=>∀u,r=.inl u->(uO u.2.2/\θ u.2.2.2.2.2.1<=65536)/\∃(i:Nat)(e:AI),x.2.1[i]?=δ e/\e.2.1=6/\e.1=u.1/\DM e.2.2.2.2.2.2.2=δ (u.2.2,0)) ?_ λr hr=>BE (λu b=>AB λ_=>hr u b) (λ_ _=>AB λc=>by cases c);refine AW (λ(s:Int×CU)=> -1<=s.1/\s.1<θ x.2.1) (λ(s:Int×CU)=>(s.1+1).toNat) ⟨q!,q!⟩ (λs d=>?_);unfold Sj;rw[(AX (x:=s.1-1))];refine AC (λa=>?_) (λ_=>AB λu b=>by cases b);have k:((-1<=s.1-1/\s.1-1<θ x.2.1)/\(s.1-1+1).toNat<(s.1+1).toNat):=o!
 refine AA (AE a d.2) λo l=>AK (λ_=>AB k) (λm=>AA (AE a d.2) λp h=>?_);have n:=(f.2.2.2.2.2 _ _ h.1).2.data;grind[EE,cw,AT,AA,AE,AB]
def DG2(x:E Ah×AI)(l:E Ah):Prop:=∀d∈l,(d.1=x.2.2.2.2.2.2.2.1.1/\d.2.2=x.2.1)\/(d.1≠x.2.2.2.2.2.2.2.1.1/\d∈x.1)
def DG1(x:E Ah×AI)(l:E Ah):Prop:=∀d∈l,∃c∈x.1,c.1=d.1/\c.2.2=d.2.2
def DK(x:E Ah×AI)(i:A)(l:E Ah):Prop:=∀(j:W)(d:Ah),(j:A)<i->x.1[j]?=D d->d.1≠x.2.2.2.2.2.2.2.1.1->d∈l
def DG2.snoc{x}{l m:E Ah}{d:Ah}(h:DG2 x l)(e:m=l++[d])(b:(d.1=x.2.2.2.2.2.2.2.1.1/\d.2.2=x.2.1)\/(d.1≠x.2.2.2.2.2.2.2.1.1/\d∈x.1)):DG2 x m:=by subst e;intro c a;rcases Al.1 a with a|a;exact h c a;grind
def DG1.snoc{x}{l m:E Ah}{d:Ah}(h:DG1 x l)(e:m=l++[d])(b:∃c∈x.1,c.1=d.1/\c.2.2=d.2.2):DG1 x m:=by subst e;intro c a;rcases Al.1 a with a|a;exact h c a;grind
def DK.snoc{x}{l m:E Ah}{d:Ah}{i}(h:DK x i l)(e:m=l++[d]):DK x i m:=λj c b a hn=>by rw[e];exact FA _ (h j c b a hn)
def DK.next{x}{l}{v:Ah}{i k:A}(h:DK x i l)(d:0<=i)(f:k=i+1)(m:x.1[ο i]?=D v)(g:v.1≠x.2.2.2.2.2.2.2.1.1->v∈l):DK x k l:=λj c e b hn=>by by_cases a:(j:A)<i;exact h j c a b hn;grind
def Zm{x:List Ah×AI}{s:Bool×Int×List Ah}(o:x.2.2.1=7)(h:0<=s.2.1/\s.2.1<=θ x.1/\θ x.1<=1000000/\θ s.2.2<=s.2.1+1/\(s.1=η->(θ s.2.2:Int)<=s.2.1)/\DG1 x s.2.2/\DK x s.2.1 s.2.2):Ao (Ad (Fq x) s) λr=>(θ r.2<=θ x.1+1/\(r.1=η->θ r.2<=θ x.1))/\DG1 x r.2/\DK x (θ x.1) r.2:=by
 refine AW (λ(s:Bool×Int×List Ah)=>0<=s.2.1/\s.2.1<=θ x.1/\θ x.1<=1000000/\θ s.2.2<=s.2.1+1/\(s.1=η->(θ s.2.2:Int)<=s.2.1)/\DG1 x s.2.2/\DK x s.2.1 s.2.2) (λ(s:Bool×Int×List Ah)=>((θ x.1:Int)-s.2.1).toNat) h (λs i=>?_);have⟨g,t,v,w,b,c,f⟩:=i;unfold Fq;repeat' with_reducible first|intro a|apply AC|apply AP|apply AT|apply AJ|(apply BA;try dsimp only)|apply Bi|apply B0|apply LN|(apply BB;try dsimp only)|(apply Au;try dsimp only)|(apply BE<;>(intro u l;try subst l))|apply AB|(apply AA (CD);intro r hr)|(refine AM ?_ (AE ?_ ?_);rintro r ⟨hr,q⟩)|(refine AM ?_ (Ac ?_);rintro r ⟨hr,p,k⟩)
 all_goals try dsimp[len]at*
 all_goals try (have e:=AX (x:=s.2.1+1))
 all_goals try (have m:=b v!)
 all_goals (try simp only[CY,CO]at*)
 all_goals first
  |omega
  |exact⟨⟨o!,λh=>by have:=b h;omega⟩,c,λj d n=>f j d o!⟩
  |(exfalso;grind;done)
  |(refine⟨⟨o!,o!,o!,o!,by first|(intro h;have:=b h;omega)|(intro h;cases h),?_,?_⟩,o!⟩
    first|exact c|exact c.snoc v! (by refine⟨_,v!,?_,?_⟩<;>rfl)
    ·first|exact f.next g e v! (λhn=>O! v! hn)|exact(f.snoc v!).next g e v! (by first|(intro hn;exact O! v! hn)|(intro _;subst_vars;simp)))
def Zn{x:List Ah×AI}{s:Bool×Int×List Ah}(p:x.2.2.1=1\/x.2.2.1=2)(h:0<=s.2.1/\s.2.1<=θ x.1/\θ x.1<=1000000/\θ s.2.2<=s.2.1+1/\(s.1=η->(θ s.2.2:Int)<=s.2.1)/\DG2 x s.2.2/\DK x s.2.1 s.2.2/\(s.1=ζ->∃d∈s.2.2,d.1=x.2.2.2.2.2.2.2.1.1)):Ao (Ad (Fq x) s) λr=>(θ r.2<=θ x.1+1/\(r.1=η->θ r.2<=θ x.1))/\DG2 x r.2/\DK x (θ x.1) r.2/\(r.1=ζ->∃d∈r.2,d.1=x.2.2.2.2.2.2.2.1.1):=by
 refine AW (λ(s:Bool×Int×List Ah)=>0<=s.2.1/\s.2.1<=θ x.1/\θ x.1<=1000000/\θ s.2.2<=s.2.1+1/\(s.1=η->(θ s.2.2:Int)<=s.2.1)/\DG2 x s.2.2/\DK x s.2.1 s.2.2/\(s.1=ζ->∃d∈s.2.2,d.1=x.2.2.2.2.2.2.2.1.1)) (λ(s:Bool×Int×List Ah)=>((θ x.1:Int)-s.2.1).toNat) h (λs k=>?_);have⟨i,v,w,y,c,a,f,i8⟩:=k;unfold Fq;repeat' with_reducible first|intro b|apply AC|apply AP|apply AT|apply AJ|(apply BA;try dsimp only)|apply Bi|apply B0|apply LN|(apply BB;try dsimp only)|(apply Au;try dsimp only)|(apply BE<;>(intro u m;try subst m))|apply AB|(apply AA (CD);intro r hr)|(refine AM ?_ (AE ?_ ?_);rintro r ⟨hr,t⟩)|(refine AM ?_ (Ac ?_);rintro r ⟨hr,q,l⟩)
 all_goals try dsimp[len]at*
 all_goals try (have e:=AX (x:=s.2.1+1))
 all_goals try (have n:=c v!)
 all_goals (try simp only[CY,CO]at*)
 all_goals first
  |omega
  |exact⟨⟨o!,λh=>by have:=c h;omega⟩,a,λj d o=>f j d o!,i8⟩
  |(exfalso;grind;done)
  |(refine⟨⟨o!,o!,o!,o!,by first|(intro h;have:=c h;omega)|(intro h;cases h)|trivial,?_,?_,?_⟩,o!⟩
    first|exact a.snoc v! (by exact .inl ⟨v!,rfl⟩)|exact a.snoc v! (by exact .inr ⟨v!,v!⟩)|refine DG2.snoc (DG2.snoc a v! (by exact .inl ⟨rfl,rfl⟩)) v! (by exact .inr ⟨o!,v!⟩)
    ·first|exact(f.snoc v!).next i e v! (by first|(intro hn;exact O! v! hn)|(intro _;subst_vars;simp))|exact((f.snoc v!).snoc v!).next i e v! (by intro _;subst_vars;simp)
    first|(intro h;refine(i8 h).elim λd g=>⟨d,by subst_vars;simp[g.1],g.2⟩)|(intro _;subst_vars;refine⟨_,La _ (A7.2 rfl),?_⟩;assumption)|(intro _;subst_vars;refine⟨_,FA _ (La _ (A7.2 rfl)),?_⟩;rfl))
def Ux{x:E Ah×AI}(h:Z x.1<=1000000):Ao (HA x) λr=>Z r<=Z x.1+1/\(¬(x.2.2.1=1\/x.2.2.1=2)->x.2.2.1≠7->r=x.1)/\(x.2.2.1=7->DG1 x r/\DK x (Z x.1) r)/\(x.2.2.1=1\/x.2.2.1=2->DG2 x r/\DK x (Z x.1) r/\∃d∈r,d.1=x.2.2.2.2.2.2.2.1.1):=by
 refine AA CD λB m=>AP (λb=>?_) (λb=>?_);have i:¬(x.2.2.1=1\/x.2.2.1=2):=λq=>by rw[m.2 q]at b;cases b
 refine AK (λhn=>AB ⟨o!,λ_ _=>rfl,λe=>O! e hn,λq=>O! q i⟩) (λo=>AA (Zm o ⟨AY _,q!,h,k!,k!,by simp[DG1],λj d g=>O! g q!⟩) λv f=>AP (λp=>AA CD λs n=>AA (P:=λl=>l=v.2) (AJ (λa=>O! (n.1 a) i) (y? rfl)) λl c=>AB ?_) (y? ⟨f.1.1,λ_ q=>O! o q,λ_=>f.2,λq=>O! q i⟩));grind;have k:=m.1 b;refine AA (Zn k ⟨AY _,q!,h,k!,k!,by simp[DG2],λj d g=>O! g q!,λq=>by cases q⟩) λv f=>?_;have⟨⟨s,z⟩,t,u,A_⟩:=f;refine AP (λp=>AA CD λw n=>AA (P:=λl=>l=v.2++[(x.2.2.2.2.2.2.2.1.1,x.2.1,x.2.1)]) (AJ (λa=>?_) (λa=>?_)) λl c=>AB ?_) (λy=>AB ⟨s,λq=>O! k q,λq=>O! q o!,λ_=>⟨t,u,A_ y⟩⟩);grind[AA,Ac,AB];grind;have:=z p;refine⟨q!,λq=>O! k q,λq=>O! q o!,λ_=>⟨t.snoc c (.inl ⟨rfl,rfl⟩),u.snoc c,_,by rw[c];exact La _ (A7.2 rfl),rfl⟩⟩
def zN.other{n}{L}{D}{R}{e:AI}(h:zN n L D R)(a:¬(e.2.1=1\/e.2.1=2)):zN n (L++[e]) D R:=by
 intro p b c;have:cI p e=X:=by simp only[not_or]at a;simp[cI,a.1,a.2]
 rw[QE,this,D! g!];exact h p b c
def zN.change{n}{L}{D_ r}{R}{e:AI}(h:zN n L D_ R)(v:e.2.1=1\/e.2.1=2)(o:∀p,BW L p<e.1)(k:DG2 (D_,e) r)(m:DK (D_,e) (Z D_) r)(u:∃d∈r,d.1=e.2.2.2.2.2.2.1.1):zN n (L++[e]) r R:=by intro p s t;have⟨a,b⟩:=h p s t;rw[QE,(by grind[cI]:cI p e=(e.2.2.2.2.2.2.1.1==p))];by_cases i:e.2.2.2.2.2.2.1.1=p;rw[beq_iff_eq.2 i,C! rfl];refine⟨λd f c=>?_,λw g=>⟨by have:=(b w g).1;have:=o p;omega,λhn=>?_⟩⟩;rcases k d f with q|q;grind;grind;grind;rw[beq_eq_false_iff_ne.2 i,D! g!];refine⟨λd f c=>?_,λw g=>⟨(b w g).1,λhn=>(b w g).2 λd f c=>?_⟩⟩;rcases k d f with q|q;grind;exact a d q.2 c;have⟨j,l⟩:=Cu f;exact hn d (m j d (by have:=CZ l;omega) l (λq=>i (q.symm.trans c))) c
def zN.index{n}{L}{D_ r}{R}{e:AI}{w:BP}(h:zN n L D_ R)(A_:e.2.1=7)(B:e.2.2.2.2.2.1=BW L e.2.2.2.2.2.2.1.1)(y:0≤e.2.2.2.2.2.2.1.1)(k:DG1 (D_,e) r)(l:DK (D_,e) (Z D_) r)(C:R[e.2.2.2.2.2.2.1.1.toNat]?=D w):
  zN n (L++[e]) r (R.set e.2.2.2.2.2.2.1.1.toNat ((if e.2.2.2.2.2.1>w.1 then e.2.2.2.2.2.1 else w.1),w.2)):=by
 refine zN.other ?_ o!;intro p s t;have⟨a,b⟩:=h p s t;refine⟨λd g f=>?_,λu i=>?_⟩;have⟨c,z,v,x⟩:=k d g;grind;by_cases o:e.2.2.2.2.2.2.1.1=p;grind;rw[DT o!]at i;refine⟨(b u i).1,λhn=>(b u i).2 λd g f=>?_⟩;have⟨j,m⟩:=Cu g;exact hn d (l j d q! m (λq=>o (q.symm.trans f))) f
def wX{n:A}{L:E AI}{D_ r:E Ah}{R:E BP}{q:Bt×A}{e:AI}(h:zN n L D_ R)(l:EOK n L e)(m:∀p,BW L p<e.1)
  (j:Z r<=Z D_+1/\(¬(e.2.1=1\/e.2.1=2)->e.2.1≠7->r=D_)/\(e.2.1=7->DG1 (D_,e) r/\DK (D_,e) (Z D_) r)/\(e.2.1=1\/e.2.1=2->DG2 (D_,e) r/\DK (D_,e) (Z D_) r/\∃d∈r,d.1=e.2.2.2.2.2.2.1.1))
  (k:q.2=0->Z q.1=Z R/\(e.2.1≠7->q.1=R)/\(e.2.1=7->0<=e.2.2.2.2.2.2.1.1/\∃w,R[e.2.2.2.2.2.2.1.1.toNat]?=D w/\q.1=R.set e.2.2.2.2.2.2.1.1.toNat ((if e.2.2.2.2.2.1>w.1 then e.2.2.2.2.2.1 else w.1),w.2)))
  (t:q.2=0):zN n (L++[e]) r q.1:=by
 have⟨_,g,f,c⟩:=j;have⟨_,u,v⟩:=k t;by_cases b:e.2.1=7;have⟨i,w,s,o⟩:=v b;rw[o];exact h.index b (l.2.1 b) i (f b).1 (f b).2 s;rw[u b];by_cases a:e.2.1=1\/e.2.1=2;exact h.change a m (c a).1 (c a).2.1 (c a).2.2;rw[g a b];exact h.other a
variable {B:Int->Prop}
def HL(l:E Ak):Prop:=Z l<=64/\∀t∈l,Z t.2.2.2.2.1<=4097
def Z3.hl{l}(h:Z3 l):HL l:=⟨h.1,λt b=>by have⟨i,a⟩:=HS.1 b;have:=(h.2 i t a).1;omega⟩
def HL.set{l}{i}{n:Ak}(h:HL l)(hn:Z n.2.2.2.2.1<=4097):HL (l.set i n):=⟨by rw[gS];exact h.1,λt a=>by rcases Wt a with q|q;exact h.2 t q;rw[q];exact hn⟩
def HL.rm{l}{id}(h:HL l):HL (AEF l id):=⟨by have:=qR l id;have:=h.1;omega,λt a=>h.2 t (BZ.1 a).1⟩
def Z3.lens{l}{i:W}{t:Ak}(h:Z3 l)(a:l[i]?=D t):Z t.2.2.2.2.1<=4096:=(h.2 i t a).1
def ACY{x}:Ao (GL x) λr=>r.2=0->HL r.1:=by refine AA Du λz j=>AP (λb=>AB n!) (λb=>?_);have c:=j b;have n:=c.1;refine AA Cf λA_ y=>AP (λb=>AB n!) (λ_=>AT (λb=>AB λ_=>c.hl) (λp=>AA (IL q!) λB g=>AC (λb=>AB n!) (λo=>AA (AE o! g.2.1) λC m=>?_)));have f:=c.lens m.1;refine AK (λb=>AB n!) (λ_=>AA (P:=λs=>(∃u,s=.inl u/\Z u.2.2.2.2.1<=4097)\/∃u,s=.inr u/\(u.2=0->HL u.1)) ?_ λs h=>?_);refine AT (λ_=>?_) (λ_=>?_);grind[AA,Ac,AB];refine AA (P:=λs=>(∃u,s=.inr u/\Z u.2.2.2.2.1<=4097)\/∃u,s=.inl u/\(u.2=0->HL u.1)) (AT (λ_=>AA (Si ⟨AY _,q!,f,k!⟩) λq k=>AT (y? (.inr ⟨_,rfl,n!⟩)) (y? (.inl ⟨_,rfl,q!⟩))) (λ_=>AT (y? (.inl ⟨_,rfl,q!⟩)) (λ_=>AA (Je q!) λt d=>AB (.inr ⟨_,rfl,λ_=>by rw[d];exact c.hl.rm⟩)))) λs h=>?_;grind[Au,AB,BB];rcases h with⟨u,rfl,i⟩|⟨u,rfl,i⟩;refine BB (AA (N6 o!) λv l=>AA (MO q! ⟨q!,g.2.1⟩) λw e=>AB λ_=>?_);rw[e];exact c.hl.set q!;exact Au (AB i)
def AN(n c:A)(L:E AI)(m:W)(a:CI):Prop:=a.1=n/\HL a.2.2.2.1/\Z a.2.2.2.2.2.1<=m/\a.2.2.1=c/\zN n L a.2.2.2.2.2.1 a.2.2.2.2.2.2
theorem jP{x:CI×AI}{n c:Int}{L:List AI}{m:Nat}(h:AN n c L m x.1)(f:m<=1000000)(d:EOK n L x.2)(e: ∀p,BW L p<x.2.1):Ao (Hh x) λr=>r.2=0->AN n c (L++[x.2]) (m+1) r.1:=by
 unfold Hh;have⟨a1,a2,a3,a5,a6⟩:=h;have a4:=a2.1;repeat' with_reducible first|refine AC ?_ ?_<;>intro b|refine AK ?_ ?_<;>intro b|refine AJ ?_ ?_<;>intro b|(refine BA ?_;try dsimp only)|refine Bi ?_|refine B0 ?_|refine LN ?_|(refine BB ?_;try dsimp only)|(refine Au ?_;try dsimp only)|refine AB ?_|(refine AA ACY ?_;intro r hr)|(refine AM ?_ (Ec ?_);intro r hr)|(refine AA (O4) ?_;intro r hr)|(refine AA (P1) ?_;intro r hr)|(refine AA (CD) ?_;intro r hr)|(refine AM ?_ (Ux ?_);intro r hr)
 all_goals try dsimp[len]at*
 all_goals first|omega|(intro a;exact absurd a (by assumption))|(intro a;exact absurd a (by decide))|(intro _;unfold AN;refine⟨by first|assumption|grind,by grind,by first|omega|grind,by first|assumption|grind,?_⟩;exact wX a6 d e (by assumption) (by assumption) (by assumption))|grind
theorem I8{x}:Ao (OT x) λr=>∀w∈r.1,w.1=0:=by refine AC (y? k!) (λ_=>AC (y? k!) (λ_=>?_));grind[AA,AAI,AB]
def ft{x:Aa×A}(n:Dg x.1)(u:x.1.1=1)(m:LI x.2 x.1.2.1):Ao (MW x) λr=>r.2=0->∃k:W,k<=Z x.1.2.1/\AN x.2 k (x.1.2.1.take k) 65536 r.1:=by
 refine AA Te λv j=>AP (λ_=>?_) (λb=>?_);refine AC (λb=>AB n!) (λ_=>AA I8 λy l=>AB λ_=>⟨0,Bh _,rfl,⟨k!,λt o=>by simp at o⟩,k!,rfl,λp _ _=>⟨k!,λw q=>by have:=l w (BQ q);exact⟨by rw[this];exact AY _,λ_=>this⟩⟩⟩)
 have⟨⟨d,f⟩,i,e,a,g,s,h⟩:=j b;refine AK (λb=>AB n!) (λhn=>AB λ_=>⟨i+1,CZ a,rfl,d.2.2.1.hl,f,?_,?_⟩);have:=(n.2.2.2.2.2 i e a).1;grind;rw[CC,a];exact((m i e a).2.2.1 g _ h hn).other o!
def jO{x}:Ao (FV x) λr=>z:=by exact AK (y? trivial) (λ_=>AK (y? trivial) (y? trivial))
def aZ{x:List Av×Av}{s:Int}(h:0<=s/\s<=θ x.1/\(θ x.1:Int)<=16777216):Ao (Ad (O7 x) s) λr=>0<=r/\r<=θ x.1:=by
 refine AW (λ(s:Int)=>0<=s/\s<=θ x.1/\(θ x.1:Int)<=16777216) (λ(s:Int)=>((θ x.1:Int)-s).toNat) h (λs a=>?_);unfold O7;exact x!
def jQ{x:E Av×Av}(h:Z x.1<=1000000):Ao (Rq x) λr=>Z r<=Z x.1+1:=by
 refine AA (aZ ⟨AY _,o!⟩) λp c=>?_;have main:Ao (σ (WB x.1 0 p) λa=>
 σ (WB x.1 p (U x.1)) λb=>
 σ (app [] a) λd=>
 σ (app d ([x.2]:E (A×((A×A)×A)))) λe=>
 σ (app e b) λf=>
 D f) λr=>Z r<=Z x.1+1:=by refine AA (Bs (AY _) c.1 c.2) λa g=>AA (Bs c.1 q! q!) λb i=>?_;grind[AA,Ac,AB]
 refine AC (λj=>?_) (λ_=>main);exact AA (AE c.1 j) λk _=>AJ (y? o!) (λ_=>main)
def Uy{x:Aa×List Ak}(h:HL x.2):Ao (MV x) λr=>θ r.1<=262208:=by unfold MV;have k:=h.1;refine AA (P:=λr=>(∀u,r=.inl u->θ u.1<=262208)/\∀u,r=.inr u->θ u<=262208) ?_ λr hr=>BE (λu a=>AB (hr.1 u a)) (λu a=>AB (hr.2 u a));refine AW (λ(s:List Av×Int)=>0<=s.2/\s.2<=θ x.2/\θ s.1<=4097*s.2) (λ(s:List Av×Int)=>((θ x.2:Int)-s.2).toNat) ⟨AY _,q!,k!⟩ (λs d=>?_);have⟨f,m,n⟩:=d;unfold Tf;rw[(AX (x:=s.2+1))];refine AC (λb=>?_) (λ_=>AB ⟨λu a=>(by cases a),λu a=>q!⟩);simp[len]at b;have⟨t,i,j⟩:=AE (l:=x.2) f b;have v:=h.2 t j.2;refine AA (P:=λr=>(∀u,r=.inl u->θ u.1<=262208)/\∀u,r=.inr u->θ u<=4097*(s.2+1)) ?_ λr hr=>?_;refine AW (λ(q:List Av×Int)=>0<=q.2/\q.2<=θ t.2.2.2.2.1/\θ q.1<=4097*s.2+q.2) (λ(q:List Av×Int)=>((θ t.2.2.2.2.1:Int)-q.2).toNat) ⟨AY _,q!,q!⟩ (λq e=>?_);have⟨g,o,p⟩:=e;unfold Tg;rw[i];apply BA;rw[(AX (x:=q.2+1))];refine AC (λb=>?_) (λ_=>AB ⟨λu a=>(by cases a),λu a=>q!⟩);simp[len]at b;refine BA (AA (AE g b) λw _=>AA G7 λy _=>AK (λ_=>AB ⟨λu a=>q!,λu a=>(by cases a)⟩) (λ_=>AK (λ_=>AB ⟨λu a=>(by cases a;simp),λu a=>(by cases a)⟩) (λ_=>BA (AK (λ_=>AB ⟨λu a=>(by cases a;simp),λu a=>(by cases a)⟩) (λ_=>AA (jQ q!) λz c=>AB ?_)))));dsimp only at c;exact⟨⟨q!,o!,d!⟩,o!⟩;grind[BE,AB]
def aY{x:Aa×Int}(c:Dg x.1)(S:x.1.1=1)(L:LI x.2 x.1.2.1):Ao (FL x) λr=>r.2=0->r.1.1=x.2/\HL r.1.2.2.2.1/\θ r.1.2.2.2.2.1<=262208/\θ r.1.2.2.2.2.2.1<=70000/\zN x.2 x.1.2.1 r.1.2.2.2.2.2.1 r.1.2.2.2.2.2.2:=by
 unfold FL;refine AA BM λv V=>AP (λ_=>AB n!) (λa=>?_);have U:=V.1 a;have M:=U.2.2.1;refine AC (λ_=>AB n!) (λ_=>AC (λ_=>AB n!) (λ_=>AA (ft c S L) λv1 N=>AK (λa=>AB λb=>O! b a) (λH=>?_)));have⟨k,T,Q⟩:=N H;refine AA (P:=λr=>(∀u,r=.inl u->u.1≠0)/\∀u,r=.inr u->AN x.2 k x.1.2.1 70000 u.1) ?_ λr hr=>BE (λu d=>AB λb=>O! b (hr.1 u d)) (λu d=>?_);refine AW (λ(s:Int×CI×CI)=>0<=s.1/\s.1<=θ x.1.2.1/\AN x.2 k (x.1.2.1.take (max k s.1.toNat)) (65536+s.1.toNat) s.2.1) (λ(s:Int×CI×CI)=>((θ x.1.2.1:Int)-s.1).toNat) ⟨AY _,d!,by simpa using Q⟩ (λs D_=>?_);have⟨o,W,f⟩:=D_;unfold Ls;have e:=AX (x:=s.1+1);rw[e];refine AC (λa=>?_) (λ_=>AB ⟨λu d=>(by cases d),λu d=>?_⟩);simp[len]at a;have en:(s.1+1).toNat=s.1.toNat+1:=o!
 refine AA (AE o a) λv3 O=>?_;have n3:=(c.2.2.2.2.2 _ _ O.1).1;refine AC (λF=>AB ⟨⟨d!,d!,?_⟩,d!⟩) (λF=>?_);have⟨q,g,J,y,h⟩:=f;have z:max k (s.1+1).toNat=max k s.1.toNat:=o!
 exact⟨q,g,d!,y,by dsimp only;rw[z];exact h⟩;have y:=f.2.2.2.1;have z:max k s.1.toNat=s.1.toNat:=o!
 rw[z]at f;refine AA (AE o a) λv4 K=>?_;have n:x.1.2.1.take (max k (s.1+1).toNat)=x.1.2.1.take s.1.toNat++[v4]:=by grind[List.take_add_one]
 refine AA (jP f o! (L _ _ K.1) λp=>?_) λv5 h5=>?_;have n4:=(c.2.2.2.2.2 _ _ K.1).1;refine pu _ _ d! λe R=>?_;have⟨j,E⟩:=Cu R;have G:=CZ E;rw[BK]at G;rw[JO o!]at E;have:=(c.2.2.2.2.2 j e E).1;dsimp only;omega;grind[AK,AB];cases d;have⟨q,g,J,y,h⟩:=f;simp[len]at*;rw[BG o!]at h;exact⟨q,g,o!,y,h⟩;have⟨q,g,J,_,h⟩:=hr.2 u d;have X_:=g.1;refine AA (P:=λl=>HL l) ?_ λal m=>?_;refine AW (λ(s:Int×List Ak)=>0<=s.1/\s.1<=θ u.1.2.2.2.1/\θ s.2<=s.1/\∀t∈s.2,θ t.2.2.2.2.1<=4097) (λ(s:Int×List Ak)=>((θ u.1.2.2.2.1:Int)-s.1).toNat) ⟨AY _,d!,k!,λt n=>by simp at n⟩ (λs D_=>?_);have⟨o,W,f,I⟩:=D_;unfold Lu;have e:=AX (x:=s.1+1);rw[e];refine AC (λa=>?_) (λ_=>AB ⟨o!,I⟩);simp[len]at a;refine AA (AE o a) λY_ _=>AA (P:=λl=>θ l<=θ s.2+1/\∀t∈l,θ t.2.2.2.2.1<=4097) ?_ λag i=>AB ⟨⟨d!,d!,by have:=i.1;dsimp only;omega,i.2⟩,d!⟩;refine AC (λ_=>AA (AE o a) λZ A_=>AA (Ac w!) λad B=>AB ⟨?_,λt n=>?_⟩) (λ_=>AB ⟨o!,I⟩);grind;rw[B.1]at n;rcases Al.1 n with w|w;exact I t w;simp at w;rw[w];exact g.2 _ A_.2;exact AA (Uy m) λao C=>AK (λa=>AB λb=>O! b a) (λb=>AB λ_=>⟨q,m,C,J,h⟩)
theorem ML{x}:Ao (Kp x) λr=>r.1.2.1=[]:=by
 unfold Kp;exact x!
def fu{x:Aa×CI×Int}(t:Dg x.1)(h:HL x.2.1.2.2.2.1/\θ x.2.1.2.2.2.2.1<=262208/\θ x.2.1.2.2.2.2.2.1<=70000)(q:LI x.2.1.1 x.1.2.1)(e:zN x.2.1.1 x.1.2.1 x.2.1.2.2.2.2.2.1 x.2.1.2.2.2.2.2.2):Ao (MX x) λr=>r.2=0->r.1.1=x.2.1.1/\SK B r.1/\Dg r.1.2.2.1/\LX x.1 r.1.2.2.1:=by
 unfold MX;have⟨a1,a2,a3⟩:=h;have a4:=a1.1;refine AA ML λj f=>AK (λ_=>AB n!) (λ_=>?_);have k:SK B (x.2.1.1,x.2.1.2.1,x.1,j.1,(x.2.1.2.2.2.2.1,[]),x.2.1.2.2.2.1,x.2.1.2.2.2.2.2.2,x.2.1.2.2.2.2.2.1):=⟨⟨q!,k!⟩,q!,q!,q,λp g i=>⟨q!,(e p g i).1,λw l=>⟨((e p g i).2 w l).1,λhn _=>((e p g i).2 w l).2 hn⟩⟩,by unfold FD;dsimp only;rw[f];simp⟩
 refine AA (B3 k.sb) λy _=>AP (λ_=>AB n!) (λ_=>AA (P:=λr=>(∀u,r=.inl u->u.1≠0)/\∀u,r=.inr u->KL B (x.2.1.1,x.2.1.2.1,x.1,j.1,(x.2.1.2.2.2.2.1,[]),x.2.1.2.2.2.1,x.2.1.2.2.2.2.2.2,x.2.1.2.2.2.2.2.1) u.1) ?_ λr hr=>BE (λu a=>AB λb=>O! b (hr.1 u a)) (λu a=>AB λ_=>?_));refine AW (λ(s:Int×AQ×AQ)=>0<=s.1/\s.1<=θ x.2.1.2.2.2.1/\KL B (x.2.1.1,x.2.1.2.1,x.1,j.1,(x.2.1.2.2.2.2.1,[]),x.2.1.2.2.2.1,x.2.1.2.2.2.2.2.2,x.2.1.2.2.2.2.2.1) s.2.1) (λ(s:Int×AQ×AQ)=>((θ x.2.1.2.2.2.1:Int)-s.1).toNat) ⟨AY _,q!,KL.refl k t⟩ (λs o=>?_);have⟨m,v,d⟩:=o;unfold Th;rw[(AX (x:=s.1+1))];refine AC (λc=>?_) (λ_=>AB ⟨λu a=>(by cases a),λu a=>q!⟩);simp[len]at c;refine AA (AE m c) λz _=>AT (λ_=>AB ⟨⟨q!,o!,d⟩,o!⟩) (λ_=>AA (AE m c) λA_ _=>AA (Fx d.2.2.1.sb) λC n=>AK (λc=>AB ⟨λu a=>(by cases a;exact c),λu a=>(by cases a)⟩) (λb=>AB ⟨⟨o!,o!,d.trans ((n b).2.1.kl d.2.2.1 u!)⟩,o!⟩));have:=hr.2 u a;exact⟨this.1,this.2.2.1,this.2.2.2,this.2.1⟩
end Go.Pm
namespace Go.Pm
open Go Go.Ab
variable {B:Int->Prop}
def jW{x:AU×A×Cy}(h:SK B x.1.1)(v:Dg x.1.1.2.2.1)(t:DJ B x.1.1.2.2.1 x.1.2):Ao (NW x) λr=>SR B x.1 r.1/\(r.2.1≠0->TP r.1.1.2.2.2.2.2.1<TP x.1.1.2.2.2.2.2.1):=by
 unfold NW;refine AA (P:=λr=>SR B x.1 r.2.2/\(r.1≠0->TP r.2.2.1.2.2.2.2.2.1<TP x.1.1.2.2.2.2.2.1)) ?_ λr hr=>AB hr;refine AW (λs=>SR B x.1 s.2.1/\TP s.2.1.1.2.2.2.2.2.1<=TP x.1.1.2.2.2.2.2.1/\(s.1≠0->TP s.2.1.1.2.2.2.2.2.1<TP x.1.1.2.2.2.2.2.1)) (λs=>2*TP s.2.1.1.2.2.2.2.2.1+flag (¬pB s.2.1.1.2.2.2.1 x.2.2.1)) ⟨⟨KL.refl h v,t⟩,Am _,λe=>O! rfl e⟩ (λs d=>?_);obtain⟨d,C,k⟩:=d;have l:=d.1.2.2;unfold U3;refine AA (jL l.1 l.2) λD_ q=>?_;obtain⟨k1,w,y⟩:=q;refine AT (y? ⟨d,k⟩) (λp=>AA (P:=λr=>(∃u,r=.inl u/\u.1=s.1/\u.2.2=s.2.1)\/∃u,r=.inr u/\SR B s.2.1 u.2.1/\(TP u.2.1.1.2.2.2.2.2.1<TP s.2.1.1.2.2.2.2.2.1\/(u.1=s.1/\TP u.2.1.1.2.2.2.2.2.1=TP s.2.1.1.2.2.2.2.2.1/\pB u.2.1.1.2.2.2.1 x.2.2.1/\¬pB s.2.1.1.2.2.2.1 x.2.2.1))) ?_ λr hr=>?_);apply AT<;>intro m;obtain⟨a,b,c⟩:=w m;refine AA (Hi l.1 d.2) λE j=>AK (y? (.inl ⟨_,rfl,rfl,rfl⟩)) (λe=>AB (.inr ⟨_,rfl,(j e).1.sr,.inr ⟨rfl,?_,?_,b⟩⟩));have:=(j e).1.1.2.2.2.2.1;exact E! TP this;have:=(j e).2;rw[a]at this;exact this;refine AT (y? (.inl ⟨_,rfl,rfl,rfl⟩)) (λc0=>AB (.inr ⟨_,rfl,⟨k1,d.2.up k1.2.1⟩,.inl (y m p c0)⟩));rcases hr with⟨u,rfl,g⟩|⟨u,rfl,g⟩;refine BB (AB ?_);dsimp only;rw[g.1,g.2];exact⟨d,k⟩;refine Au (AB ?_);obtain⟨n,i⟩:=g;rcases i with i|⟨i,o,z,A_⟩;have f:=ACu (¬pB u.2.1.1.2.2.2.1 x.2.2.1);exact⟨⟨d.trans n,o!,λ_=>o!⟩,by first|omega|(dsimp only;omega)⟩;refine⟨⟨d.trans n,o!,λe=>by rw[o];exact k (by rw[<-i];exact e)⟩,?_⟩;try dsimp only
 rw[ya A_,yZ (· z),o];omega
def Ti{x:AQ×A}(h:SB x.1):Ao (IN x) λr=>z:=by unfold IN;refine AA (B3 h) λv c=>AA (P:=λ_=>z) ?_ λr _=>BE (λ_ _=>AB trivial) (λ_ _=>AB trivial);refine AJ (λ_=>?_) (y? trivial);refine AA (Ec h.2.1) λd a=>AC (λb=>?_) (y? trivial);refine AA (AE b a.2.1) λ_ _=>AT (λ_=>?_) (y? trivial);exact AA (AE b a.2.1) λ_ _=>AB trivial
def ab{x:AQ}{s:Int×List Int}(h:0<=s.1/\s.1<=θ x.2.2.2.2.2.1/\θ x.2.2.2.2.2.1<=16777216/\θ s.2<=s.1/\SB x):Ao (Ad (O8 x) s) λr=>True:=by
 refine AW (λ(s:Int×List Int)=>0<=s.1/\s.1<=θ x.2.2.2.2.2.1/\θ x.2.2.2.2.2.1<=16777216/\θ s.2<=s.1/\SB x) (λ(s:Int×List Int)=>((θ x.2.2.2.2.2.1:Int)-s.1).toNat) h (λs c=>?_);unfold O8;exact x!
def jR{x}(h:SK B x):Ao (NT x) λr=>z:=by unfold NT;exact AA (ab ⟨AY _,d!,h.2.1,k!,h.sb⟩) λ_ _=>AB trivial
def YD{x:AQ×Int}{c:Av×Bool}{a:List Int}{s:Int×Cy}(h:0<=s.1/\s.1<=θ a/\θ a<=16777216/\SB x.1):Ao (Ad (Lv x c a) s) λr=>True:=by
 refine AW (λ(s:Int×Cy)=>0<=s.1/\s.1<=θ a/\θ a<=16777216/\SB x.1) (λ(s:Int×Cy)=>((θ a:Int)-s.1).toNat) h (λs d=>?_);unfold Lv;exact x!
def aa{x:AQ×A}(h:SK B x.1):Ao (KT x) λr=>z:=by unfold KT;refine AA (Im h.1) λb _=>AP (y? trivial) (λ_=>AA (MK h.1) λc a=>AA (YD ⟨AY _,d!,o!,h.sb⟩) λr _=>BE (λ_ _=>AB trivial) (λ_ _=>AB trivial))
def mL{x:AU×A×C0}(h:SK B x.1.1)(k:Dg x.1.1.2.2.1)(j:DJ B x.1.1.2.2.1 x.1.2):Ao (P7 x) λr=>SR B x.1 r.1:=by unfold P7;refine AA (P:=λr=>SR B x.1 r.1) ?_ λr hr=>AB hr;refine AW (SR B x.1 ·.1) (TP ·.1.1.2.2.2.2.2.1) ⟨KL.refl h k,j⟩ (λs c=>?_);have g:=c.1.2.2;unfold Wm;refine AA (mK g.1 g.2 c.2) λm e=>?_;have b:=c.trans e.1;have a:=b.1.2.2;refine AK (y? b) (λi=>?_);have l:=e.2 i;refine AA (aa a.1) λn _=>AP (y? b) (λ_=>AA (jW a.1 a.2 b.2) λo f=>?_);have d:=b.trans f.1;refine AK (λ_=>?_) (λ_=>?_);exact AA B6 λp _=>AB d;refine AT (y? d) (λc0=>AB ⟨d,?_⟩);have:=f.2 c0;dsimp only at*;rw[l]at this;exact this
theorem jV{x:AU}(h:SK B x.1)(p:Dg x.1.2.2.1)(g:DJ B x.1.2.2.1 x.2):Ao (NV x) λr=>r.2.2=0->SR B x r.1:=by
 unfold NV;refine AA (B3 h.sb) λv J=>?_;refine AP (λ_=>AB λa=>absurd a (by decide)) (λc=>?_);refine AC (λc=>?_) (λ_=>?_)
 ·simp only[len]at c;refine AA (AE (AY _) c) λL _=>?_;exact AA (Hi h g) λM y=>AB λa=>(y a).1.sr
 refine AA (jR h) λH _=>?_;refine AT (λ_=>AB λ_=>⟨KL.refl h p,g⟩) (λk=>?_);simp only[len]at k;refine AA (P:=λr=>r.2.1=0->SR B x r.2.2) ?_ λr hr=>AB hr;obtain⟨id,t,I⟩:=(AE (l:=H) (i:=0) (AY _) (by omega))
 refine AW (λ(s:AU×AU)=>SR B x s.1) (λ(s:AU×AU)=>flag (∃e,NX s.1.1 id e/\ ¬pB s.1.1.2.2.2.1 e.2.2.2.2.2.2.1.1)) ⟨KL.refl h p,g⟩ (λs b=>?_);have j:=b.1.2.2;unfold U2;rw[t];refine BA ?_;refine AA (Vz j.1 j.2) λN A_=>?_;obtain⟨k1,C,K,D_⟩:=A_;refine AT (λz=>AB λa=>absurd a (D_ z)) (λ_=>?_);refine AK (λ_=>AB λ_=>⟨b.1.trans k1,b.2.up k1.2.1⟩) (λq=>?_);obtain⟨e,n,u,w⟩:=C q;refine AA (Hi j.1 b.2) λO o=>?_;refine AK (λc=>AB λa=>absurd a c) (λa=>AB ⟨b.trans (o a).1.sr,?_⟩);obtain⟨m,d⟩:=o a;have G:=m.1.2.2.2.2.1;rw[ya (⟨e,n,w⟩: ∃e,NX s.1.1 id e/\ ¬pB s.1.1.2.2.2.1 e.2.2.2.2.2.2.1.1),yZ]
 ·omega
 ·rintro⟨f,E,F⟩;have:=n.uniq E G m.1.2.1;subst this;dsimp only at d;rw[u]at d;exact F d
end Go.Pm
