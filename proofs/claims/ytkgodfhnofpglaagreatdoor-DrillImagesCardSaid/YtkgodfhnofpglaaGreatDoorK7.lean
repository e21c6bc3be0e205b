/- Texts of wip, joined and shortened by wip/tools/pack.py; nothing is assumed. -/
import Derived.Test.YtkgodfhnofpglaaGreatDoorK6
import Derived.KernelRfl
noncomputable section
set_option linter.all false
set_option maxHeartbeats 400000
open Option renaming some->D
open List renaming length->Z
open Go renaming Ψ->E
open Bool renaming false->X
open Bool renaming true->Y
open Go renaming Ω->V
open Option renaming some->δ,bind->σ
open Bool renaming true->ζ,false->η
open List renaming length->θ,replicate->ς
open Go.IntKind renaming wrap->ι
open BitVec renaming ofInt->κ,toNat->π
open Sum renaming elim->ν
open Int renaming toNat->ο
open Decidable renaming decide->τ
namespace Go.Pm
open Go Go.Ab
def dU(c:BitVec 32):BitVec 32:=if c.getLsbD 0=ζ then(c>>>1)^^^2197175160#32 else c>>>1
def oG:Nat->BitVec 32->BitVec 32
 |0,c=>c
 |n+1,c=>dU (oG n c)
def xX(c:BitVec 32)(b:UInt8):BitVec 32:=oG 8 (c^^^BitVec.ofNat 32 b.toNat)
def AI5(s:BV):BitVec 32:=4294967295#32^^^s.foldl xX 4294967295#32
def VZ(s:BV):Int:=((AI5 s).toNat:Int)
def ACD(a b:BitVec 32):dU (a^^^b)=dU a^^^dU b:=by
 unfold dU;rw[BitVec.getLsbD_xor,BitVec.ushiftRight_xor_distrib];cases a.getLsbD 0<;>cases b.getLsbD 0<;>simp;grind;grind;have:a>>>1^^^2197175160#32^^^(b>>>1^^^2197175160#32)=(a>>>1^^^b>>>1)^^^(2197175160#32^^^2197175160#32):=by ac_rfl
 grind
theorem AA2:∀(n:Nat)(a b:BitVec 32),oG n (a^^^b)=oG n a^^^oG n b
 |0,a,b=>rfl
 |n+1,a,b=>by rw[oG,oG,oG,AA2 n,ACD]
def fU(s:BV):0<=VZ s/\VZ s<4294967296:=by unfold VZ;omega
theorem bvI(c:BitVec 32):κ 32 (c.toNat:Int)=c:=q!
theorem w32(c:BitVec 32):ι .u32 (c.toNat:Int)=(c.toNat:Int):=by rw[vg];omega
theorem fdN(c:BitVec 32)(k:Nat)(a:k<=32):Int.fdiv (c.toNat:Int) (2^(min (ο (k:Int)) 32))=((c>>>k).toNat:Int):=by rw[show min (ο (k:Int)) 32=k by omega,kC _ (by exact_mod_cast Bo (2^k)),BitVec.toNat_ushiftRight,Nat.shiftRight_eq_div_pow];grind
theorem fd1(c:BitVec 32):Int.fdiv (c.toNat:Int) (2^(min (ο 1) 32))=((c>>>1).toNat:Int):=by grind[fdN]
def fd4(c:BitVec 32):Int.fdiv (c.toNat:Int) (2^(min (ο 4) 32))=((c>>>4).toNat:Int):=by grind[fdN]
theorem AFT(c:BitVec 32):((ι .u32 (((π ((κ 32 (c.toNat:Int))&&&(κ 32 1))):Nat):Int))==1)=c.getLsbD 0:=by grind[bvI,w32,BitVec.toNat_and,κ]
def AGT(c:BitVec 32):(bif ((ι .u32 (((π ((κ 32 (c.toNat:Int))&&&(κ 32 1))):Nat):Int))==1)then
     δ (ι .u32 (((π ((κ 32 (Int.fdiv (c.toNat:Int) (2^(min (ο 1) 32))))^^^(κ 32 2197175160))):Nat):Int))
    else
    δ (Int.fdiv (c.toNat:Int) (2^(min (ο 1) 32))):Option Int)=δ ((dU c).toNat:Int):=by grind[AFT,fd1,bvI,w32,dU]
def AHa(c:BitVec 32):Aa Hp ((c.toNat:Int),0)=δ ((oG 8 c).toNat:Int):=by
 have key:An (Aa Hp ((c.toNat:Int),0)) λr=>r=((oG 8 c).toNat:Int):=by refine AU (λ(s:Int×Int)=>0<=s.2/\s.2<=8/\s.1=((oG s.2.toNat c).toNat:Int)) (λs=>(8-s.2).toNat) ⟨AX _,d!,rfl⟩ ?_;rintro⟨g,a⟩ ⟨e,f,b⟩;dsimp only at e f b;subst b;refine AC (λd=>?_) (λd=>AB (by rw[show a.toNat=8 by omega]));rw[AGT,AD,AW];refine AB ⟨⟨o!,o!,?_⟩,o!⟩;rw[show(a+1).toNat=a.toNat+1 by omega];rfl
 obtain⟨r,hr,rfl⟩:=key;exact hr
def ACv(c:BitVec 32)(b:UInt8):ι .u32 (((π ((κ 32 (c.toNat:Int))^^^(κ 32 (ι .u32 (b.toNat:Int))))):Nat):Int)=((c^^^BitVec.ofNat 32 b.toNat).toNat:Int):=by grind[ι,vg,bvI,w32]
def AEE{x:BV}{i:Int}(a:0<=i)(c:i<θ x):∃b:UInt8,six x i=δ (b.toNat:Int)/\x.take (i+1).toNat=x.take i.toNat++[b]:=by obtain⟨k,rfl⟩:=FC a;refine⟨x[k],?_,?_⟩;grind[six];simp_all
def vq{x:BV}(h:θ x<=2199023255552):Em x=δ (VZ x):=by
 have key:An (Aa (Ho x) (4294967295,0)) λr=>r=((x.foldl xX 4294967295#32).toNat:Int):=by refine AU (λ(s:Int×Int)=>0<=s.2/\s.2<=θ x/\s.1=(((x.take s.2.toNat).foldl xX 4294967295#32).toNat:Int)) (λs=>((θ x:Int)-s.2).toNat) ⟨AX _,d!,rfl⟩ ?_;rintro⟨i,j⟩ ⟨c,e,d⟩;dsimp only at c e d;subst d;unfold Ho;simp only[len];refine AC (λa=>?_) (λa=>AB (by rw[BK o!]));have⟨b,f,g⟩:=AEE c a;rw[f,AD,ACv,AHa,AD,AW];refine AB ⟨⟨o!,o!,?_⟩,o!⟩;rw[g,kI];rfl
 obtain⟨r,hr,rfl⟩:=key;unfold Em;rw[hr,AD,bvI];rw[show(κ 32 (if(η=ζ)then(-1)else(if(η=ζ)then((2^(32-1))-1)else((2^32)-1))))=4294967295#32 by decide,w32];rfl
def AJB{d:BitVec 32}(b:d.getLsbD 0=η)(c:d.getLsbD 1=η)(f:d.getLsbD 2=η)(g:d.getLsbD 3=η):oG 4 d=d>>>4:=by
 have st:∀e:BitVec 32,e.getLsbD 0=η->dU e=e>>>1:=λe a=>by unfold dU;rw[D! (by rw[a];decide)]
 show dU (dU (dU (dU d)))=_;grind
def AHE(c:BitVec 32):(c>>>4)^^^oG 4 (c&&&15#32)=oG 4 c:=by
 have d:c=(c&&& ~~~15#32)^^^(c&&&15#32):=by apply uW;intro i a;rw[BitVec.getLsbD_xor,BitVec.getLsbD_and,BitVec.getLsbD_and,BitVec.getLsbD_not];grind
 have e:oG 4 (c&&& ~~~15#32)=c>>>4:=by
  have z:∀i,i<4->(c&&& ~~~15#32).getLsbD i=η:=λi a=>by
   have:i=0\/i=1\/i=2\/i=3:=o!
   grind
  rw[AJB (z 0 g!) (z 1 g!) (z 2 g!) (z 3 g!)];apply uW;intro i a;have b:(15#32).getLsbD (4+i)=η:=by show(15#32).toNat.testBit (4+i)=η;grind
  grind
 grind[AA2]
def AHY(c:BitVec 32):Aa LL ((c.toNat:Int),0)=δ ((oG 4 c).toNat:Int):=by
 have key:An (Aa LL ((c.toNat:Int),0)) λr=>r=((oG 4 c).toNat:Int):=by refine AU (λ(s:Int×Int)=>0<=s.2/\s.2<=4/\s.1=((oG s.2.toNat c).toNat:Int)) (λs=>(4-s.2).toNat) ⟨AX _,d!,rfl⟩ ?_;rintro⟨g,a⟩ ⟨e,f,b⟩;dsimp only at e f b;subst b;refine AC (λd=>?_) (λd=>AB (by rw[show a.toNat=4 by omega]));rw[AGT,AD,AW];refine AB ⟨⟨o!,o!,?_⟩,o!⟩;rw[show(a+1).toNat=a.toNat+1 by omega];rfl
 obtain⟨r,hr,rfl⟩:=key;exact hr
def ACR(t:Fin (15+1)->(Ty.int IntKind.u32).D):Prop:=∀j:Fin 16,t j=((oG 4 (BitVec.ofNat 32 j.val)).toNat:Int)
def AIW:An (Ky ()) ACR:=by refine AA (P:=ACR) ?_ λr hr=>AB hr;refine AU (λ(s:Int×(Fin (15+1)->(Ty.int IntKind.u32).D))=>0<=s.1/\s.1<=16/\∀j:Fin 16,(j.val:Int)<s.1->s.2 j=((oG 4 (BitVec.ofNat 32 j.val)).toNat:Int)) (λs=>(16-s.1).toNat) ⟨AX _,g!,λj b=>N! b d!⟩ ?_;rintro⟨h,i⟩ ⟨c,g,d⟩;refine AC (λa=>?_) (λa=>AB λj=>d j (by have:=j.isLt;omega));obtain⟨k,rfl⟩:=FC c;rw[(by grind[vg,BitVec.toNat_ofNat]:ι .u32 (k:Int)=((BitVec.ofNat 32 k).toNat:Int)),AHY,AD];refine AA (CQ o! o!) λl e=>AA (CQ o! o!) λm f=>AB ?_;grind[AW,WN]
def AEP{t:Fin (15+1)->(Ty.int IntKind.u32).D}(b:ACR t)(c:BitVec 32):Fm t (ι .u32 (((π ((κ 32 (c.toNat:Int))&&&(κ 32 15))):Nat):Int))=δ ((oG 4 (c&&&15#32)).toNat:Int):=by
 rw[bvI,show κ 32 15=15#32 by decide,w32];have a:(c&&&15#32).toNat<16:=by exact Nat.lt_succ_of_le Nat.and_le_right
 unfold Fm;rw[dif_pos o!];refine E! δ ((b ⟨(c&&&15#32).toNat,a⟩).trans ?_);grind
def AIF(c:BitVec 32):ι .u32 (((π ((κ 32 (Int.fdiv (c.toNat:Int) (2^(min (ο 4) 32))))^^^(κ 32 ((oG 4 (c&&&15#32)).toNat:Int)))):Nat):Int)=((oG 4 c).toNat:Int):=by rw[fd4,bvI,bvI,AHE,w32]
def AA1:∀(m n:Nat)(c:BitVec 32),oG m (oG n c)=oG (m+n) c
 |0,n,c=>by rw[oG,DA]
 |m+1,n,c=>by rw[oG,AA1 m n,Nat.succ_add];rfl
def wY{x:BV}(h:θ x<=2199023255552):ON x=δ (VZ x):=by
 unfold ON;have⟨t,f,a⟩:=AIW;rw[f,AD];have key:An (Aa (UK x t) (4294967295,0)) λr=>r=((x.foldl xX 4294967295#32).toNat:Int):=by refine AU (λ(s:Int×Int)=>0<=s.2/\s.2<=θ x/\s.1=(((x.take s.2.toNat).foldl xX 4294967295#32).toNat:Int)) (λs=>((θ x:Int)-s.2).toNat) ⟨AX _,d!,rfl⟩ ?_;rintro⟨k,l⟩ ⟨d,g,e⟩;dsimp only at d g e;subst e;unfold UK;simp only[len];refine AC (λc=>?_) (λc=>AB (by rw[BK o!]));have⟨b,i,j⟩:=AEE d c;rw[i,AD,ACv,AEP a,AD,AD,AIF,AEP a,AD,AD,AIF,AW];refine AB ⟨⟨o!,o!,?_⟩,o!⟩;rw[j,kI,AA1];rfl
 obtain⟨r,hr,rfl⟩:=key;rw[hr,AD,bvI];rw[show(κ 32 (if(η=ζ)then(-1)else(if(η=ζ)then((2^(32-1))-1)else((2^32)-1))))=4294967295#32 by decide,w32];rfl
def iZ(n:Nat):BV:=ς n 0
def V2(c:Ch):BV:=DZ (if c.1=ζ then(θ c.2:Int)else 255) 1++(c.2++iZ (12-θ c.2))
def cl(a:GF 16 Ch)(i:Nat):Ch:=(Fm a i).getD (η,[])
def Ol(a:GF 16 Ch)(k:Nat):BV:=(List.range k).flatMap λi=>V2 (cl a i)
def Kt(x:AT):BV:=DZ x.2.1 8++(DZ x.1 4++(Ol x.2.2 16++iZ 24))
def Hk(x:AT):BV:=Kt x++(DZ (VZ (Kt x)) 4++DZ x.2.1 8)
def lQ{a:GF 16 Ch}{i:Nat}(h:i<16):Fm a (i:Int)=δ (cl a i)/\cl a i=a ⟨i,h⟩:=by
 have e:Fm a (i:Int)=δ (a ⟨i,h⟩):=by unfold Fm;rw[dif_pos o!];rfl
 unfold cl;rw[e];exact⟨rfl,rfl⟩
theorem QU(a:GF 16 Ch)(k:Nat):Ol a (k+1)=Ol a k++V2 (cl a k):=by unfold Ol;rw[List.range_succ,an,It,oW,Dl]
def bv{c:Ch}(h:θ c.2<=12):(V2 c).length=13:=by unfold V2 iZ;rw[Af,Af,A3,Fz];omega
def HB.cl{x:AT}(h:HB x)(i:Nat):IQ (cl x.2.2 i):=by rcases Ar i 16 with a|a;rw[(lQ a).2];exact(h.2.2.2.2 _).1;unfold Go.Pm.cl Fm;rw[dif_neg o!];exact⟨g!,.inr rfl⟩
theorem Iv{x:AT}(h:HB x):∀k:Nat,(Ol x.2.2 k).length=13*k
 |0=>rfl
 |k+1=>by rw[QU,Af,Iv h k,bv (h.cl k).1];omega
def Gs{x:AT}(h:HB x):(Kt x).length=244:=by unfold Kt iZ;simp only[Af,A3,Iv h,Fz]
theorem bw{x:AT}(h:HB x):(Hk x).length=256:=by unfold Hk;simp only[Af,A3,Gs h]
def UB{x:AT}:(Hk x).take 8=DZ x.2.1 8:=by unfold Hk Kt;rw[A5,Fg (A3 _ _)]
def nM{x:AT}(h:HB x):(Hk x).drop 248=DZ x.2.1 8:=by unfold Hk;rw[<-A5,oT (by rw[Af,Gs h,A3])]
def lM(n:Nat):Ga (ς n 0)=iZ n:=by unfold Ga iZ;rw[List.map_replicate];rfl
def w7{x:Int}(h:0<=x/\x<=16777216):Gu x=δ (iZ x.toNat):=by unfold Gu Go.Ab.mk;rw[C! ⟨h.1,AX _,h.2⟩,AD,lM]
def mg{s:BV}{n k:Int}(h:θ s<=1099511627776)(a:1<=k/\k<=8):An (Ah (s,n,k)) λr=>r=s++DZ n k.toNat:=⟨_,HZ h a.1 a.2,rfl⟩
def rI{x:AT}(h:HB x):Do x=δ 0:=by have⟨a,g,c⟩:=L6 (x:=x);have⟨b,i,d⟩:=N2 (x:=x);have e:a=ζ:=c.2 ⟨h.1,h.2.1,h.2.2.1,h.2.2.2.1⟩;have f:b=ζ:=d.2 h.2.2.2.2;unfold Do;rw[g,e,AD,i,f];rfl
theorem Vt{x:AT}(h:HB x):C4 x=δ (Hk x,0):=by
 suffices g:An (C4 x) λr=>r=(Hk x,0) by obtain⟨r,hr,rfl⟩:=g;exact hr
 unfold C4;rw[rI h,AD];refine AK (λb=>N! rfl b) λ_=>AA (mg g! g!) λL p=>AA (mg (by rw[p];simp[A3]) g!) λG z=>?_;have w:G=DZ x.2.1 8++DZ x.1 4:=by rw[z,p];rfl
 refine AA (P:=λr=>r=DZ x.2.1 8++(DZ x.1 4++Ol x.2.2 16)) ?_ λf d=>?_
 ·refine Cb (λ(s:BV×Int)=>0<=s.2/\s.2<=16/\s.1=DZ x.2.1 8++(DZ x.1 4++Ol x.2.2 s.2.toNat)) (λ(s:BV×Int)=>(16-s.2).toNat) ⟨AX _,u!,by rw[w];simp[Ol]⟩ ?_;rintro⟨s,i⟩ ⟨u,C,g⟩;dsimp only at u C g;subst g;unfold RQ;dsimp only;refine AC (λb=>?_) (λb=>An.done (by rw[show i.toNat=16 by omega]));have⟨t,K⟩:=lQ (a:=x.2.2) (i:=i.toNat) o!;rw[Ir u]at t;have b:=(h.cl i.toNat).1;simp only[t,AD,AW (x:=i+1)];have J:(DZ x.2.1 8++(DZ x.1 4++Ol x.2.2 i.toNat)).length<=300:=by simp only[Af,A3,Iv h];omega
  refine AA (P:=λv=>v=if(cl x.2.2 i.toNat).1=ζ then((cl x.2.2 i.toNat).2.length:Int)else 255) ?_ λM A_=>?_;exact AJ (λb=>AB (C! b).symm) (λb=>AB (D! (by rw[b];decide)).symm);refine AA (mg o! g!) λN q=>?_;have y:wi (12-len (cl x.2.2 i.toNat).2)=((12-(cl x.2.2 i.toNat).2.length:Nat):Int):=by rw[AW i!];simp only[len];omega
  rw[y,w7 o!,AD,Cz];refine AA (Co (by simp only[iZ,Fz];omega)) λn c=>?_;have D_:θ n<=24:=by rw[c.2];simp only[iZ,Fz];omega
  refine AA (Co (by rw[q,Af,A3];simp only[Int.reduceToNat];omega)) λF k=>An.next ⟨d!,d!,?_⟩ d!
  dsimp only;rw[k.1,c.1,q,A_,show(i+1).toNat=i.toNat+1 by omega,QU];simp only[V2,A5,Int.reduceToNat]
 have E:θ f=220:=by rw[d];simp only[Af,A3,Iv h]
 rw[show wi (244-len f)=24 by rw[AW i!];simp only[len];omega,w7 g!,AD];refine AA (Co (by simp only[iZ,Fz,Int.reduceToNat];omega)) λo l=>?_;have j:o=Kt x:=by rw[l.1,d];simp only[Kt,A5,Int.reduceToNat]
 rw[j,vq (by rw[Gs h];decide),AD];have B:=fU (Kt x);rw[AW];refine AA (mg (by rw[Gs h];decide) g!) λH e=>AA (mg (by rw[e,Af,Gs h,A3];decide) g!) λI m=>AB ?_;rw[m,e];simp only[Hk,A5,Int.reduceToNat]
def ABZ{c d:Ch}(e:IQ c)(f:IQ d)(h:V2 c=V2 d):c=d:=by obtain⟨g,l⟩:=c;obtain⟨i,m⟩:=d;obtain⟨j,b⟩:=ML h (by rw[A3,A3]);have l1:=e.1;have l2:=f.1;dsimp only at l1 l2;have a:=ZU (k:=1) g! ⟨λ_=>by dsimp only;split<;>omega,by dsimp only;split<;>omega,by dsimp only;split<;>omega⟩ ⟨λ_=>by dsimp only;split<;>omega,by dsimp only;split<;>omega,by dsimp only;split<;>omega⟩ j;dsimp only at a b;cases g<;>cases i;have:=e.2;have:=f.2;simp_all;exfalso;simp at a;omega;exfalso;simp at a;omega;simp at a;exact DX rfl (ML b o!).1
def sA{x y:AT}(a:HB x)(b:HB y):∀k:Nat,Ol x.2.2 k=Ol y.2.2 k->∀i,i<k->cl x.2.2 i=cl y.2.2 i
 |0,_=>λi c=>N! c o!
 |k+1,h=>by rw[QU,QU]at h;obtain⟨d,e⟩:=ML h (by rw[Iv a,Iv b]);intro i c;by_cases f:i=k;subst f;exact ABZ (a.cl i) (b.cl i) e;exact sA a b k d i o!
theorem ADB{x y:AT}(a:HB x)(b:HB y)(h:Hk x=Hk y):x=y:=by obtain⟨h,_⟩:=ML h (by rw[Gs a,Gs b]);obtain⟨c,h⟩:=ML h (by rw[A3,A3]);obtain⟨d,h⟩:=ML h (by rw[A3,A3]);obtain⟨e,_⟩:=ML h (by rw[Iv a,Iv b]);have f:=a.1;have g:=a.2.1;have j:=a.2.2.1;have k:=a.2.2.2.1;have l:=b.1;have m:=b.2.1;have n:=b.2.2.1;have o:=b.2.2.2.1;refine DX (ZU (by decide) ⟨λ_=>by omega,by omega,by omega⟩ ⟨λ_=>by omega,by omega,by omega⟩ d) (DX (ZU (by decide) ⟨λ_=>by omega,by omega,by omega⟩ ⟨λ_=>by omega,by omega,by omega⟩ c) (funext λi=>?_));have:=sA a b 16 e i.val i.isLt;rw[(lQ i.isLt).2,(lQ i.isLt).2]at this;exact this
def tS{s:BV}{n k:Int}(h:θ s<=1099511627776)(a:1<=k/\k<=8):OM (s,n,k)=δ (s++DZ n k.toNat):=by grind[OM]
theorem zo{n:Int}(h:0<=n/\n<=8000):Kp ([0],n)=δ (iZ n.toNat):=by unfold Kp;dsimp only;rw[G! h.1,G! h.2];rfl
theorem AAA{n:Int}{k:Nat}(hn:0<=n)(h:n<256^k)(a:n<9223372036854775808):rd (DZ n k)=n:=by unfold rd;grind[qy,Int.emod_eq_of_lt,AW]
def AFa{b:BV}{c:Ch}(h:θ b<=1000)(i:θ c.2<=12):KA b c=δ (b++V2 c):=by
 suffices e:An (KA b c) λr=>r=b++V2 c by obtain⟨r,hr,rfl⟩:=e;exact hr
 unfold KA;refine AA (P:=λv=>v=if c.1=ζ then(θ c.2:Int)else 255) ?_ λj g=>?_;simp_all[AJ,AB];rw[tS o! g!,AD];refine AA (Co (by rw[Af,A3];simp[Int.reduceToNat];omega)) λk d=>?_;rw[AW (by simp[len];omega),zo (by simp[len];omega),AD];rw[(by simp only[len];omega:(12-len c.2).toNat=12-θ c.2)];refine AA (Co (by rw[d.2,Af,A3];simp[iZ,Fz,Int.reduceToNat];omega)) λf a=>AB ?_;grind[V2,List.append_assoc,Int.reduceToNat]
def yV{x:Int}(h:0<=x/\x<64):Hm x=δ ζ:=by grind[Hm]
def AB0{x:AT}(h:HB x):Vs x=δ ζ:=by unfold Vs;rw[yV ⟨h.1,h.2.1⟩,AD,G! (show x.2.1>=0 from h.2.2.1),G! h.2.2.2.1];rfl
def ADs{x:AT}(h:HB x):UP x=δ ζ:=by
 suffices e:An (UP x) λr=>r=ζ by obtain⟨r,hr,rfl⟩:=e;exact hr
 unfold UP;refine AA (P:=λr=>r=.inr ()) ?_ λr hr=>by rw[hr];exact Av (AB rfl)
 refine Cb (λ(s:Int)=>0<=s/\s<=16) (λs=>(16-s).toNat) ⟨AX _,g!⟩ (λs d=>?_);have⟨g,k⟩:=d;unfold gi;refine AC (λa=>?_) (λ_=>An.done rfl);have i:An (δ (Step.next (wi (s+1))):Option (Step Int (Bool⊕Unit))) (Ls (λ(s:Int)=>0<=s/\s<=16) (λs=>(16-s).toNat) (16-s).toNat λr=>r=.inr ()):=by grind[AW,An.next]
 refine AA (CQ g a) λv f=>?_;have b:=h.2.2.2.2 ⟨s.toNat,o!⟩;rw[<-f]at b;refine AC (λa=>N! a (by have:=b.1.1;simp[len];omega)) (λ_=>AO (λc=>?_) (λj=>?_));refine AK (λhn=>N! (b.1.2.resolve_left (by rw[c];decide)) hn) (λ_=>AJ (λa=>by rw[c]at a;cases a) (λ_=>i));simp_all[AJ,AQ]
def ka{x:AT}(h:HB x):M0 x=δ (Hk x,0):=by
 suffices c:An (M0 x) λr=>r=(Hk x,0) by obtain⟨r,hr,rfl⟩:=c;exact hr
 unfold M0;rw[AB0 h,AD,ADs h,AD,Ca,A!,A!,tS g! g!,AD,tS (by rw[CY,A3];decide) g!,AD];refine AA (P:=λr=>r=DZ x.2.1 8++(DZ x.1 4++Ol x.2.2 16)) ?_ λb g=>?_
 ·refine Cb (λ(s:Int×No)=>0<=s.1/\s.1<=16/\s.2=DZ x.2.1 8++(DZ x.1 4++Ol x.2.2 s.1.toNat)) (λ(s:Int×No)=>(16-s.1).toNat) ⟨AX _,u!,by simp[Ol]⟩ ?_;rintro⟨i,s⟩ ⟨f,m,c⟩;dsimp only at f m c;subst c;unfold cU;dsimp only;refine AC (λk=>?_) (λk=>An.done (by rw[show i.toNat=16 by omega]));have⟨e,o⟩:=lQ (a:=x.2.2) (i:=i.toNat) o!;rw[Ir f]at e;rw[e,AD,AFa (by simp[Af,A3,Iv h];omega) (h.cl i.toNat).1,AD,AW (x:=i+1)];refine An.next ⟨d!,d!,?_⟩ d!
  dsimp only;rw[show(i+1).toNat=i.toNat+1 by omega,QU];simp[A5]
 have n:θ b=220:=by grind[List.length_append,A3,Iv]
 rw[show wi (244-len b)=24 by rw[AW (by simp[len];omega)];simp[len];omega,zo g!,AD];refine AA (Co (by simp[iZ,Fz,Int.reduceToNat];omega)) λd j=>?_;rw[(by grind[Kt,List.append_assoc,Int.reduceToNat]:d=Kt x),wY (by rw[Gs h];decide),AD];have l:=fU (Kt x);rw[AW,tS (by rw[Gs h];decide) g!,AD,tS (by rw[Af,Gs h,A3];decide) g!,AD];grind[AB,Hk,List.append_assoc,Int.reduceToNat]
def sB(a:GF 16 Ch)(i:Nat):∀k:Nat,i<=k->∃r,Ol a k=Ol a i++r
 |0,h=>⟨[],by rw[show i=0 by omega];rfl⟩
 |k+1,h=>by by_cases e:i=k+1;exact⟨[],by rw[e,Dl]⟩;obtain⟨r,hr⟩:=sB a i k o!;exact⟨r++V2 (cl a k),by rw[QU,hr,A5]⟩
def un{x:AT}(h:HB x){i:Nat}(a:i<16):∃A_ r,Hk x=A_++(V2 (cl x.2.2 i)++r)/\θ A_=12+13*i:=by have⟨r,hr⟩:=sB x.2.2 (i+1) 16 o!;refine⟨DZ x.2.1 8++(DZ x.1 4++Ol x.2.2 i),r++(iZ 24++(DZ (VZ (Kt x)) 4++DZ x.2.1 8)),?_,by simp[Af,A3,Iv h];omega⟩;grind[Hk,Kt,QU,List.append_assoc]
def AAa{x a:GF 16 Ch}{i:Int}{c:Ch}(h:∀j:Fin 16,a j=if(j.val:Int)<i then x j else(η,[]))(e:0<=i/\i<16)(d:∀b,x ⟨i.toNat,b⟩=c):∀j:Fin 16,WN a i c j=if(j.val:Int)<i+1 then x j else(η,[]):=by grind[WN,Fin.ext]
def xQ{x a:GF 16 Ch}{i:Int}(h:∀j:Fin 16,a j=if(j.val:Int)<i then x j else(η,[]))(d:0<=i/\i<16)(c:∀b,x ⟨i.toNat,b⟩=(η,[])):∀j:Fin 16,a j=if(j.val:Int)<i+1 then x j else(η,[]):=by grind[Fin.ext]
def wj{a t:BV}{n k:Int}(h:(θ a:Int)+θ t<=2199023255552)(b:1<=k)(d:k<=8)(e:k<=θ t)(g:t.take k.toNat=DZ n k.toNat)(hn:0<=n)(f:n<256^k.toNat)(c:n<9223372036854775808):G2 (a++t,(θ a:Int),k)=δ n:=by grind[G2,XK,AAA]
def AFg{x:AT}(h:HB x):V3 (Hk x)=δ (x,ζ):=by
 suffices C:An (V3 (Hk x)) λr=>r=(x,ζ) by obtain⟨r,hr,rfl⟩:=C;exact hr
 have l:=bw h;have R:=h.1;have U:=h.2.1;have S:=h.2.2.1;have V:=h.2.2.2.1;have O:G2 (Hk x,8,4)=δ x.1:=by have:=wj (a:=DZ x.2.1 8) (t:=DZ x.1 4++(Ol x.2.2 16++(iZ 24++(DZ (VZ (Kt x)) 4++DZ x.2.1 8)))) (n:=x.1) (k:=4) (by simp only[Af,A3,Iv h,iZ,Fz];omega) g! g! (by simp[Af,A3];omega) (by exact Fg (A3 _ _)) R (by simp[Int.reduceToNat];omega) o!;rw[A3]at this;rw[<-this];simp only[Hk,Kt,A5];rfl
 have Q:G2 (Hk x,0,8)=δ x.2.1:=by have:=wj (a:=[]) (t:=Hk x) (n:=x.2.1) (k:=8) (by rw[l];decide) g! g! (by rw[l];decide) UB S (by simp[Int.reduceToNat];omega) o!;exact this
 unfold V3;rw[O,AD,Q,AD];refine AA (P:=λr=>∃z,r=.inr (x,z)) ?_ λr hr=>by obtain⟨z,rfl⟩:=hr;exact Av (AB rfl)
 refine Cb (λ(s:Int×AT×AT)=>0<=s.1/\s.1<=16/\s.2.1.1=x.1/\s.2.1.2.1=x.2.1/\∀j:Fin 16,s.2.1.2.2 j=if(j.val:Int)<s.1 then x.2.2 j else(η,[])) (λ(s:Int×AT×AT)=>(16-s.1).toNat) ⟨AX _,u!,rfl,rfl,λj=>by rw[D! d!];rfl⟩ ?_;rintro⟨i,⟨p,n,a⟩,z⟩ ⟨o,N,G,hn,f⟩;dsimp only at o N G hn f;subst G hn;unfold ja;dsimp only;refine AC (λg=>?_) (λg=>An.done ⟨z,?_⟩)
 ·rw[AW (x:=i*13),AW (x:=12+i*13),AW (x:=12+i*13+1),AW (x:=i+1)];have⟨T,m⟩:=lQ (a:=x.2.2) (i:=i.toNat) o!;obtain⟨A_,r,B,K⟩:=un h (i:=i.toNat) o!;have b:=h.cl i.toNat
  generalize L:cl x.2.2 i.toNat=c at*;have F:θ A_+(13+θ r)=256:=by have:=l;rw[B,Af,Af,bv b.1]at this;exact this
  have e:G2 (Hk x,12+i*13,1)=δ (if c.1=ζ then(θ c.2:Int)else 255):=by have y:=b.1;have:=wj (a:=A_) (t:=V2 c++r) (n:=if c.1=ζ then(θ c.2:Int)else 255) (k:=1) (by rw[Af,bv b.1];omega) g! g! (by rw[Af,bv b.1];omega) (by unfold V2;rw[List.append_assoc];exact List.take_left' (A3 _ _)) (by split<;>omega) (by simp[Int.reduceToNat];split<;>omega) (by split<;>omega);rw[<-B]at this;rw[<-this,K];congr 3;omega
  rw[e,AD];have H:∀q:GF 16 Ch,(∀j:Fin 16,q j=if(j.val:Int)<i+1 then x.2.2 j else(η,[]))->An (δ (Step.next (i+1,(x.1,x.2.1,q),z)):Option (Step (Int×AT×AT) ((Bool×AT)⊕(AT×AT)))) (Ls (λ(s:Int×AT×AT)=>0<=s.1/\s.1<=16/\s.2.1.1=x.1/\s.2.1.2.1=x.2.1/\∀j:Fin 16,s.2.1.2.2 j=if(j.val:Int)<s.1 then x.2.2 j else(η,[])) (λ(s:Int×AT×AT)=>(16-s.1).toNat) (16-i).toNat λr=>∃z,r=.inr (x,z)):=λq w=>An.next ⟨d!,d!,rfl,rfl,w⟩ d!
  by_cases d:c.1=ζ;rw[C! d];have y:=b.1;rw[beq_eq_false_iff_ne.2 o!,A!,F! o!,A!,AW];obtain⟨s,C,D_⟩:=C3 (s:=Hk x) (lo:=12+i*13+1) (hi:=12+i*13+1+(θ c.2:Int)) o! o! (by rw[l];omega);have E:s=c.2:=by
   rw[D_.1,B];have I:(12+i*13+1).toNat=θ A_+1:=o!
   have J:(12+i*13+1+(θ c.2:Int)).toNat-(12+i*13+1).toNat=θ c.2:=o!
   rw[J,I,<-MM,Qw];unfold V2;rw[C! d,A5,oT (A3 _ _),A5,Xg]
  rw[C,E,AD];have u:∃v,Fm a i=δ v:=by obtain⟨v,m,_⟩:=CQ (a:=a) o g;exact⟨v,m⟩
  have⟨v,u⟩:=u;rw[u,AD,AD,AD,Sum.elim_inl];exact H _ (AAa f ⟨o,g⟩ λM=>m.symm.trans (DX d rfl));rw[D! d,beq_iff_eq.2 rfl,B!,AD,Sum.elim_inl];exact H _ (xQ f ⟨o,g⟩ λM=>m.symm.trans (DX (by simpa using d) (b.2.resolve_left d)))
 refine E! Sum.inr (DX (DX rfl (DX rfl (funext λj=>?_))) rfl);exact(f j).trans (C! o!)
theorem AAr{x:AT}(h:HB x)(hn:x.2.1≠0):Hk x≠iZ 256:=λe=>hn (by have:=congrArg (List.take 8) e;rw[UB]at this;have a:=h.2.2.1;have b:=h.2.2.2.1;exact ZU (k:=8) (by decide) ⟨λ_=>by omega,by omega,by omega⟩ ⟨λ_=>by omega,by omega,by omega⟩ (this.trans (by decide)))
theorem yP:Wz ()=δ (iZ 256):=by grind[Wz,zo]
theorem ABv{x:AT}(h:HB x)(hn:x.2.1≠0):Pd (Hk x)=δ (x,0):=by
 have b:=bw h;unfold Pd;have⟨r,d,i⟩:=C3 (s:=Hk x) (lo:=0) (hi:=8) g! g! (by rw[b];decide);have⟨p,e,j⟩:=C3 (s:=Hk x) (lo:=248) (hi:=256) g! g! (by rw[b];decide);have⟨q,f,l⟩:=C3 (s:=Hk x) (lo:=0) (hi:=244) g! g! (by rw[b];decide);have m:p=DZ x.2.1 8:=by rw[j.1];show List.take 8 (List.drop 248 (Hk x))=_;rw[nM h,BK (by rw[A3];exact Ai _)]
 have o:q=Kt x:=l.1.trans (by show List.take 244 (Hk x)=_;unfold Hk;exact Fg (Gs h));have c:=fU (Kt x);have g:G2 (Hk x,244,4)=δ (VZ (Kt x)):=by have:=wj (a:=Kt x) (t:=DZ (VZ (Kt x)) 4++DZ x.2.1 8) (n:=VZ (Kt x)) (k:=4) (by simp only[Af,A3,Gs h];decide) g! g! (by simp only[Af,A3];decide) (Fg (A3 _ _)) o! (by simp[Int.reduceToNat];omega) o!;rw[Gs h]at this;exact this
 rw[(by simp[len];omega:len (Hk x)=256),H!,A!,yP,AD,beq_eq_false_iff_ne.2 (AAr h hn),A!,d,AD,e,AD,i.1.trans UB,m,H!,A!,f,AD,o,g,AD,wY (by rw[Gs h];decide),AD,AW,H!,A!,AFg h,AD,ka h,AD,H!,H!];rfl
def mK(x:AT):BV:=if x.2.1=0 then iZ 256 else Hk x
theorem ADm{x:AT}(h:HB x)(a:x.2.1=0->x=(x.1,0,GF.all (η,[]))):GD (mK x,x.1)=δ (x,0):=by unfold GD mK;rw[yV ⟨h.1,h.2.1⟩,AD,Ca,A!];by_cases hn:x.2.1=0;rw[C! hn];rw[(by grind[Pd,iZ,List.length_replicate,yP]:Pd (iZ 256)=δ ((0,0,GF.all (η,[])),7)),AD];exact E! (λq=>δ (q,(0:Int))) (a hn).symm;grind[ABv]
def JJ(p:BV):BV:=DZ (θ p:Int) 4++(p++DZ (VZ (DZ (θ p:Int) 4++p)) 4)
theorem Fv(p:BV):(JJ p).length=θ p+8:=by grind[JJ,List.length_append,A3]
theorem ai{p:BV}(h:θ p<=8392):DH p=δ (JJ p):=by
 unfold DH;simp only[len];rw[F! o!,A!,HZ k! g! g!,AD,CY];have b:(DZ (θ p:Int) 4++p).length=θ p+4:=by grind[List.length_append,A3]
 rw[(by grind[sapp,A3]:sapp (DZ (θ p:Int) (ο 4)) p=δ (DZ (θ p:Int) 4++p)),AD,vq o!,AD];have a:=fU (DZ (θ p:Int) 4++p);rw[AW,HZ o! g! g!,AD,A5];rfl
def UF(al:Nat)(t:BV):BV×Int×Int:=
 if θ t<4 then([],0,5)else
 if rd (t.take 4)>8392 then([],0,2)else
 if(θ t:Int)<rd (t.take 4)+8 then([],0,5)else
 if rd ((t.drop (4+(rd (t.take 4)).toNat)).take 4)≠VZ (t.take (4+(rd (t.take 4)).toNat))then([],0,3)else
 ((t.drop 4).take (rd (t.take 4)).toNat,(al:Int)+8+rd (t.take 4),0)
def rd4{t:BV}(h:4<=θ t):0<=rd (t.take 4)/\rd (t.take 4)<4294967296:=by
 have a:(t.take 4).length=4:=by rw[BJ];omega
 have:=(zz (l:=t.take 4) o!).1 o!;rw[a]at this;exact this
theorem VL{a t:BV}(h:(θ a:Int)+θ t<=2199023255552):CV (a++t,(θ a:Int))=δ (UF (θ a) t):=by
 have b:len (a++t)=(θ a:Int)+θ t:=by grind[List.length_append]
 have o:((a++t).length:Int)=(θ a:Int)+θ t:=b;unfold CV UF;dsimp only;rw[F! o!,A!,F! o!,A!,ig h g! g!];by_cases g:θ t<4;rw[D! o!,C! g];rfl;rw[C! o!,D! g,AD,show ο 4=4 from rfl];have⟨p,w⟩:=rd4 (t:=t) o!;generalize hn:rd (t.take 4)=n at*;obtain⟨m,rfl⟩:=FC p;rw[show((0:Int) !=0)=η by decide,A!];by_cases d:(m:Int)>8392;rw[G! d,B!,C! d];rw[F! d,A!,D! d,b,AW,AW];by_cases i:(θ t:Int)<(m:Int)+8;rw[G! o!,B!,C! i];rw[F! o!,A!,D! i,Cz];have f:wi (wi ((θ a:Int)+4)+(m:Int))=((a++t.take (4+m)).length:Int):=by rw[AW (x:=(θ a:Int)+4),AW,Af,BJ];omega
 have j:a++t=(a++t.take (4+m))++t.drop (4+m):=by rw[A5,De]
 have s:((t.drop (4+m)).length:Int)=θ t-(4+m):=by rw[EY];omega
 have c:((a++t.take (4+m)).length:Int)=θ a+4+m:=by rw[Af,BJ];omega
 have l:Au (a++t,wi (wi ((θ a:Int)+4)+(m:Int)),4)=δ (rd ((t.drop (4+m)).take 4),0):=by
  rw[f];conv=>lhs;rw[j]
  rw[ig o! g! g!,C! o!];rfl
 have q:Ui (a++t) (θ a:Int) (wi (wi ((θ a:Int)+4)+(m:Int)))=δ (t.take (4+m)):=by unfold Ui;rw[f,C! o!,c,Cz,Qw,show((θ a:Int)+4+m).toNat-θ a=4+m by omega]
 have r:Ui (a++t) (wi ((θ a:Int)+4)) (wi (wi ((θ a:Int)+4)+(m:Int)))=δ ((t.drop 4).take m):=by unfold Ui;rw[f,AW (x:=(θ a:Int)+4),C! o!,c,show((θ a:Int)+4).toNat=θ a+4 by omega,XQ,Qx o!,CY,Su,show((θ a:Int)+4+m).toNat-(θ a+4)=m by omega]
 rw[l,AD,q,AD,vq (by rw[BJ];omega),AD,r];have⟨u,v⟩:=rd4 (t:=t.drop (4+m)) o!;have k:ι .u32 (rd ((t.drop (4+m)).take 4))=rd ((t.drop (4+m)).take 4):=by rw[vg];omega
 rw[k];by_cases e:rd ((t.drop (4+m)).take 4)=VZ (t.take (4+m));rw[D! (by simp[e]),e,H!,A!,AD,AW (x:=(θ a:Int)+8),AW];rw[C! e,bne_iff_ne.2 e,B!]
theorem ADl{x:BV}{i:Int}(a:0<=i)(h:i>θ x):Bl (x,i,4)=δ (0,5):=by grind[Bl]
theorem WB{a t:BV}(h:(θ a:Int)+θ t<=2199023255552):Db (a++t,(θ a:Int))=δ (UF (θ a) t):=by
 have f:len (a++t)=(θ a:Int)+θ t:=by grind[List.length_append]
 have p:((a++t).length:Int)=(θ a:Int)+θ t:=f;unfold Db UF;dsimp only;rw[F! o!,A!,F! o!,A!,XK h g! g!];by_cases i:θ t<4;rw[D! o!,C! i];rfl;rw[C! o!,D! i,AD,show ο 4=4 from rfl];have⟨q,w⟩:=rd4 (t:=t) o!;generalize hn:rd (t.take 4)=n at*;obtain⟨m,rfl⟩:=FC q;rw[show((0:Int) !=0)=η by decide,A!];by_cases d:(m:Int)>8392;rw[G! d,B!,C! d];rw[F! d,A!,D! d];have k:wi (wi ((θ a:Int)+4)+(m:Int))=(θ a:Int)+4+m:=by grind[AW]
 by_cases j:(θ t:Int)<(m:Int)+8;rw[C! j];have:Bl (a++t,wi (wi ((θ a:Int)+4)+(m:Int)),4)=δ (0,5):=by
  rw[k];by_cases v:(θ a:Int)+4+m>(a++t).length;grind[ADl];have c:(θ a:Int)+4+m=((a++t.take (4+m)).length:Int):=by grind[List.length_append,List.length_take]
  have g:a++t=(a++t.take (4+m))++t.drop (4+m):=by rw[A5,De]
  grind[List.length_drop,XK]
 rw[this];rfl;rw[D! j,Cz];have c:wi (wi ((θ a:Int)+4)+(m:Int))=((a++t.take (4+m)).length:Int):=by grind[List.length_append,List.length_take]
 have g:a++t=(a++t.take (4+m))++t.drop (4+m):=by rw[A5,De]
 have u:((t.drop (4+m)).length:Int)=θ t-(4+m):=by rw[EY];omega
 have b:((a++t.take (4+m)).length:Int)=θ a+4+m:=by rw[Af,BJ];omega
 have l:Bl (a++t,wi (wi ((θ a:Int)+4)+(m:Int)),4)=δ (rd ((t.drop (4+m)).take 4),0):=by
  rw[c];conv=>lhs;rw[g]
  rw[XK o! g! g!,C! o!];rfl
 have r:Ui (a++t) (θ a:Int) (wi (wi ((θ a:Int)+4)+(m:Int)))=δ (t.take (4+m)):=by unfold Ui;rw[c,C! o!,b,Cz,Qw,show((θ a:Int)+4+m).toNat-θ a=4+m by omega]
 have s:Ui (a++t) (wi ((θ a:Int)+4)) (wi (wi ((θ a:Int)+4)+(m:Int)))=δ ((t.drop 4).take m):=by unfold Ui;rw[c,AW (x:=(θ a:Int)+4),C! o!,b,show((θ a:Int)+4).toNat=θ a+4 by omega,XQ,Qx o!,CY,Su,show((θ a:Int)+4+m).toNat-(θ a+4)=m by omega]
 rw[l,AD,show(((rd ((t.drop (4+m)).take 4),(0:Int)):Int×Int).2 !=0)=η from rfl,A!,r,AD,wY (by rw[BJ];omega),AD,s];have o:=fU (t.take (4+m));rw[AW (x:=VZ (t.take (4+m)))];by_cases e:rd ((t.drop (4+m)).take 4)=VZ (t.take (4+m));rw[D! (by simp[e]),e,H!,A!,AD,k,AW];refine E! δ (DX rfl (DX ?_ rfl));dsimp only;omega;rw[C! e,bne_iff_ne.2 e,B!]
def xL{a:Nat}{t:BV}(h:(UF a t).2.2=0):(UF a t).1.length<=8392/\(∃c,t=JJ (UF a t).1++c)/\(UF a t).2.1=(a:Int)+8+(UF a t).1.length:=by
 unfold UF at h⊢;by_cases j:θ t<4;rw[C! j]at h;exact N! h g!;rw[D! j]at h⊢;obtain⟨q,r⟩:=rd4 (t:=t) o!;by_cases k:rd (t.take 4)>8392;rw[C! k]at h;exact N! h g!;rw[D! k]at h⊢;by_cases o:(θ t:Int)<rd (t.take 4)+8;rw[C! o]at h;exact N! h g!;rw[D! o]at h⊢;by_cases b:rd ((t.drop (4+(rd (t.take 4)).toNat)).take 4)≠VZ (t.take (4+(rd (t.take 4)).toNat));rw[C! b]at h;exact N! h g!;rw[D! b]at h⊢;have b:=Decidable.not_not.1 b;dsimp only;have e:(t.take 4).length=4:=by rw[BJ];omega
 have g:DZ (rd (t.take 4)) 4=t.take 4:=by have:=wS (l:=t.take 4) o!;rwa [e]at this
 generalize hn:rd (t.take 4)=n at*;obtain⟨m,rfl⟩:=FC q;rw[Cz]at b⊢;have i:((t.drop 4).take m).length=m:=by rw[BJ,EY];omega
 refine⟨o!,?_,o!⟩;have p:t.take (4+m)=DZ (m:Int) 4++(t.drop 4).take m:=by rw[List.take_add,g]
 have f:((t.drop (4+m)).take 4).length=4:=by rw[BJ,EY];omega
 have d:DZ (VZ (t.take (4+m))) 4=(t.drop (4+m)).take 4:=by rw[<-b];have:=wS (l:=(t.drop (4+m)).take 4) o!;rwa [f]at this
 refine⟨t.drop (4+m+4),?_⟩;unfold JJ;rw[i,<-p,d,<-A5,<-p];conv=>lhs;rw[<-De (4+m) t,<-De 4 (t.drop (4+m)),MM]
 rw[A5]
theorem lg{c:Nat}{p a:BV}(h:θ p<=8392):UF c (JJ p++a)=(p,(c:Int)+8+θ p,0):=by
 have d:dc 4 (θ p:Int):=⟨λ_=>⟨o!,by rw[show(256:Int)^4=4294967296 by decide];omega⟩,o!⟩
 have e:=fU (DZ (θ p:Int) 4++p);have b:dc 4 (VZ (DZ (θ p:Int) 4++p)):=⟨λ_=>⟨o!,by rw[show(256:Int)^4=4294967296 by decide];omega⟩,o!⟩
 unfold UF;rw[(by grind[JJ,List.append_assoc,List.take_left',A3]:(JJ p++a).take 4=DZ (θ p:Int) 4),pW g! d,Cz,(by grind[JJ,List.append_assoc,List.take_left',List.length_append,A3]:(JJ p++a).take (4+θ p)=DZ (θ p:Int) 4++p),(by grind[JJ,List.append_assoc,List.drop_left',List.length_append,A3]:(JJ p++a).drop (4+θ p)=DZ (VZ (DZ (θ p:Int) 4++p)) 4++a),(by grind[JJ,List.append_assoc,List.drop_left',A3]:(JJ p++a).drop 4=p++(DZ (VZ (DZ (θ p:Int) 4++p)) 4++a)),(by rw[Af,(Fv p)]:(JJ p++a).length=θ p+8+θ a),D! o!,D! o!,D! o!,Fg (A3 _ _),pW g! b,D! k!,Fg rfl]
def Wc{x:BV×List Int}{s:BV×Int}(h:0<=s.2/\s.2<=θ x.2/\θ x.2<=16777216/\θ x.1<=1073741824/\(θ s.1:Int)<=θ x.1+8*s.2):An (Aa (K6 x) s) λr=>(θ r:Int)<=θ x.1+8*θ x.2:=by
 refine AU (λ(s:BV×Int)=>0<=s.2/\s.2<=θ x.2/\θ x.2<=16777216/\θ x.1<=1073741824/\(θ s.1:Int)<=θ x.1+8*s.2) (λ(s:BV×Int)=>((θ x.2:Int)-s.2).toNat) h (λs b=>?_);unfold K6;exact x!
def Y2{x:BV×List Int}(h:θ x.2<=16777216/\θ x.1<=1073741824):An (HM x) λr=>(θ r:Int)<=θ x.1+8*θ x.2:=by
 unfold HM;exact x!
def XF{x:List Aj}{s:BV×Int}(h:0<=s.2/\s.2<=θ x/\Yc x/\(θ s.1:Int)<=10+40000*s.2):An (Aa (MC x) s) λr=>(θ r:Int)<=10+40000*θ x:=by
 refine AU (λ(s:BV×Int)=>0<=s.2/\s.2<=θ x/\Yc x/\(θ s.1:Int)<=10+40000*s.2) (λ(s:BV×Int)=>((θ x:Int)-s.2).toNat) h (λs c=>?_);unfold MC;have⟨e,f,⟨b,a⟩,g⟩:=c;repeat' with_reducible first|intro d|apply AC|apply AJ|apply AB|(refine AL ?_ (DN ?_);intro r hr)|(refine AL ?_ (Y2 ?_);intro r hr)|(refine AL ?_ (AI ?_ ?_);rintro r ⟨hr,i⟩)
 all_goals try (have j:=a _ _ v!)
 all_goals try unfold VTx at*
 all_goals dsimp[len]at*
 all_goals first|omega|(refine⟨⟨?_,?_,⟨b,a⟩,?_⟩,?_⟩<;>(simp (disch:=omega) only[AW];omega))|grind
def SG{x:List Aj}:An (KX x) λr=>θ r.1<=16777216:=by
 unfold KX;exact x!
def CJ(b:Bx):Prop:=θ b.1<=1099511627776/\0<=b.2.1/\b.2.1<=θ b.1
def Fw{b:Bx}{x:Int}(h:CJ b)(c:0<=x/\x<=8):An (CR b x) λr=>CJ r.2/\(x<=2->0<=r.1/\r.1<65536):=by
 unfold CR;unfold CJ at*
 exact x!
def UT  {s:Int×List Int×Bx}(h:0<=s.1/\s.1+θ s.2.1<=65536/\CJ s.2.2):An (Aa (Iy) s) λr=>CJ r.2/\θ r.1<=65536:=by
 refine AU (λ(s:Int×List Int×Bx)=>0<=s.1/\s.1+θ s.2.1<=65536/\CJ s.2.2) (λ(s:Int×List Int×Bx)=>s.1.toNat) h (λs c=>?_);unfold Iy;exact x!
def V5{b:Bx}{x:Int}(h:CJ b)(a:0<=x/\x<=2):An (Fl b x) λr=>CJ r.2:=by
 unfold Fl;exact x!
def XE  {s:Int×List Aj×Bx}(h:0<=s.1/\s.1+θ s.2.1<=65536/\CJ s.2.2):An (Aa (MB) s) λr=>CJ r.2/\θ r.1<=65536:=by
 refine AU (λ(s:Int×List Aj×Bx)=>0<=s.1/\s.1+θ s.2.1<=65536/\CJ s.2.2) (λ(s:Int×List Aj×Bx)=>s.1.toNat) h (λs c=>?_);unfold MB;exact x!
def SE{x:BV}(h:θ x<=1099511627776):An (KW x) λr=>θ r.1<=65536/\(r.2=0->Yc r.1):=by
 unfold KW;have b:CJ (x,0,η):=⟨h,k!,k!⟩
 exact x!
def XD{x:Be}{s:BV×Int}(h:0<=s.2/\s.2<=θ x/\θ x<=64/\(θ s.1:Int)<=10+24*s.2):An (Aa (IK x) s) λr=>θ r<=2000:=by
 refine AU (λ(s:BV×Int)=>0<=s.2/\s.2<=θ x/\θ x<=64/\(θ s.1:Int)<=10+24*s.2) (λ(s:BV×Int)=>((θ x:Int)-s.2).toNat) h (λs b=>?_);unfold IK;exact x!
def SD{x:Be}:An (Hs x) λr=>θ r.1<=2000:=by
 unfold Hs;exact x!
def XC{x:BV}{a:Int×Int}{s:Int×List BW}(h:0<=s.1/\s.1<=a.1/\a.1<=65536/\θ x<=1099511627776/\θ s.2<=s.1):An (Aa (IJ x a) s) λr=>θ r<=65536:=by
 refine AU (λ(s:Int×List BW)=>0<=s.1/\s.1<=a.1/\a.1<=65536/\θ x<=1099511627776/\θ s.2<=s.1) (λ(s:Int×List BW)=>(a.1-s.1).toNat) h (λs d=>?_);unfold IJ;exact x!
def SC{x:BV}(h:θ x<=1099511627776):An (EO x) λr=>(r.2=0->lh r.1)/\θ r.1<=65536:=by
 unfold EO;exact x!
def Qg{x:CL}{s:Int}(h:0<=s/\s<=θ x.2.2.1/\(θ x.2.2.1:Int)<=16777216):An (Aa (NQ x) s) λr=>r≠.inl ζ:=by
 refine AU (λ(s:Int)=>0<=s/\s<=θ x.2.2.1/\(θ x.2.2.1:Int)<=16777216) (λ(s:Int)=>((θ x.2.2.1:Int)-s).toNat) h (λs b=>?_);unfold NQ;exact x!
def rQ(x:CL):Prop:=1<=x.1/\x.1<=64/\Yc x.2.2.1/\lh x.2.2.2.2/\θ x.2.2.2.2=x.1
def OD{x:CL}(h:θ x.2.2.2.1<=16777216):An (Gy x) λr=>r=ζ->rQ x:=by
 unfold Gy rQ
 exact x!
def XI{x:CL}{s:BV×Int}(h:0<=s.2/\s.2<=θ x.2.2.2.1/\θ x.2.2.2.1<=16777216/\(θ s.1:Int)<=100000000+24*s.2):An (Aa (IM x) s) λr=>θ r<=1073741824:=by
 refine AU (λ(s:BV×Int)=>0<=s.2/\s.2<=θ x.2.2.2.1/\θ x.2.2.2.1<=16777216/\(θ s.1:Int)<=100000000+24*s.2) (λ(s:BV×Int)=>((θ x.2.2.2.1:Int)-s.2).toNat) h (λs b=>?_);unfold IM;exact x!
def aU{x:CL}(h:θ x.2.2.2.1<=16777216):An (GV x) λr=>θ r.1<=2147483648:=by
 unfold GV;exact x!
def Yq(c:Ch):BV:=bif c.1 then DZ (θ c.2:Int) 1++c.2 else DZ 255 1
def Bq(e:AE):BV:=
 DZ e.1 8++(DZ e.2.1 1++(DZ e.2.2.1 4++(DZ e.2.2.2.1 8++(DZ e.2.2.2.2.1 8++(DZ e.2.2.2.2.2.1 8++(DZ e.2.2.2.2.2.2.1.1 4++(DZ e.2.2.2.2.2.2.1.2.1 1++
 (Yq e.2.2.2.2.2.2.1.2.2.1++(Yq e.2.2.2.2.2.2.1.2.2.2++(DZ (θ e.2.2.2.2.2.2.2:Int) 4++e.2.2.2.2.2.2.2))))))))))
theorem sL{c:Ch}(h:IQ c):(Yq c).length<=13:=by
 unfold Yq;cases c.1 with
 |true=>rw[B!,Af,A3];have:=h.1;omega
 |false=>grind[A3]
def AAf{s:BV}{c:Ch}(h:θ s<=1099511627776)(a:θ c.2<=8192):F3 (s,c)=δ (s++Yq c):=by grind[F3,Yq,Bool.not_false,HZ,Bool.not_true,sapp,DZ,ο,List.length_append,A3,List.append_assoc]
def L3.cells{e:AE}(h:L3 e):IQ e.2.2.2.2.2.2.1.2.2.1/\IQ e.2.2.2.2.2.2.1.2.2.2/\θ e.2.2.2.2.2.2.2<=8192/\dc 8 e.1/\dc 1 e.2.1/\dc 4 e.2.2.1/\dc 8 e.2.2.2.1/\dc 8 e.2.2.2.2.1/\dc 8 e.2.2.2.2.2.1/\dc 4 e.2.2.2.2.2.2.1.1/\dc 1 e.2.2.2.2.2.2.1.2.1:=by
 have⟨a1,a2,a3,a4,a5,a6,a7,a8,j⟩:=h;have k:∀n:Int,0<=n->n<=1099511627776->dc 8 n:=λn l m=>⟨n!,o!⟩
 have p:∀n:Int,0<=n->n<=1073741824->dc 4 n:=λn l m=>⟨λ_=>by rw[show(256:Int)^4=4294967296 by decide];omega,o!⟩
 have o:∀n:Int,0<=n->n<=255->dc 1 n:=λn l m=>⟨λ_=>by rw[show(256:Int)^1=256 by decide];omega,o!⟩
 have z:IQ (η,[]):=⟨g!,.inr rfl⟩
 refine and_assoc.1 (and_assoc.1 ⟨?_,k _ o! o!,?_⟩);rcases j with⟨k1,f,d,g,c,a⟩|⟨k1,f,d,g,c,a,i,b⟩|⟨k1,f,d,g,c,a,i,b⟩|⟨k1,f,d,g,c,a,i⟩|j;exact⟨⟨a.2.2.2.2.1,a.2.2.2.2.2⟩,by rw[d];decide⟩;exact⟨⟨b.2.2.2.2.1,b.2.2.2.2.2⟩,by rw[c];decide⟩;rw[c,a];exact⟨⟨z,z⟩,g!⟩;rw[a];exact⟨⟨z,z⟩,i⟩;have⟨k1,f,d,g,c,a,i,b⟩:=j;rw[i,b];exact⟨⟨z,z⟩,g!⟩;have q:1<=e.2.1/\e.2.1<=8/\0<=e.2.2.1/\e.2.2.1<=1073741824/\0<=e.2.2.2.2.2.2.1.1/\e.2.2.2.2.2.2.1.1<64/\0<=e.2.2.2.2.2.2.1.2.1/\e.2.2.2.2.2.2.1.2.1<16:=by rcases j with⟨k1,f,d,g,c,a⟩|⟨k1,f,d,g,c,a,i,b⟩|⟨k1,f,d,g,c,a,i,b⟩|⟨k1,f,d,g,c,a,i⟩|j;have:=a.1;have:=a.2.1;have:=a.2.2.1;have:=a.2.2.2.1;omega;have:=b.1;have:=b.2.1;have:=b.2.2.1;have:=b.2.2.2.1;omega;grind[Px];grind[Px];grind[Px]
 exact⟨o _ o! o!,p _ o! o!,k _ o! o!,k _ o! o!,k _ o! o!,p _ o! o!,o _ o! o!⟩
theorem R3{e:AE}(h:L3 e):(Bq e).length<=8392:=by have⟨a,b,c,_⟩:=h.cells;grind[sL,Bq,List.length_append,A3]
theorem pe{e:AE}(h:L3 e):FG e=δ (Bq e,0):=by have⟨c,d,i,_⟩:=h.cells;have l1:=sL c;have l2:=sL d;have⟨b,f,g⟩:=CG (x:=e);have a:b=ζ:=g.2 h;subst a;unfold FG;rw[f,AD,Ca,A!];rw[HZ k! g! g!,AD,CY];rw[HZ (by simp only[Af,A3];simp only[Int.reduceToNat];omega) g! g!,AD];rw[HZ (by simp only[Af,A3];simp only[Int.reduceToNat];omega) g! g!,AD];rw[HZ (by simp only[Af,A3];simp only[Int.reduceToNat];omega) g! g!,AD];rw[HZ (by simp only[Af,A3];simp only[Int.reduceToNat];omega) g! g!,AD];rw[HZ (by simp only[Af,A3];simp only[Int.reduceToNat];omega) g! g!,AD];rw[HZ (by simp only[Af,A3];simp only[Int.reduceToNat];omega) g! g!,AD];rw[HZ (by simp only[Af,A3];simp only[Int.reduceToNat];omega) g! g!,AD];rw[AAf (by simp only[Af,A3];simp only[Int.reduceToNat];omega) (by have:=c.1;omega),AD];rw[AAf (by simp only[Af,A3];simp[Int.reduceToNat];omega) (by have:=d.1;omega),AD];rw[HZ (by simp only[Af,A3];simp[Int.reduceToNat];omega) g! g!,AD];unfold sapp;rw[C! (by simp only[Af,A3];simp[Int.reduceToNat];omega),AD];simp[A5];rfl
def CS(x p:BV)(c:BV×Int×Int):Prop:=c.1=x/\(c.2.2=0->∃rest,x=p++rest/\c.2.1=θ p)
def rL{t:BV}{k:Nat}(h:k<=θ t)(a:k<=8):dc k (rd (t.take k))/\DZ (rd (t.take k)) k=t.take k:=by grind[List.length_take,zz,wS]
def ae{x p:BV}{c:BV×Int×Int}{k:Nat}(h:CS x p c)(o:θ x<=1099511627776)(u:1<=k)(m:k<=8):An (BO c (k:Int)) λr=>CS x (p++DZ r.1 k) r.2/\(r.2.2.2=0->dc k r.1)/\(c.2.2≠0->r=(0,c)):=by have⟨s,l,e⟩:=c;have⟨g,i⟩:=h;dsimp only at g i;subst g;unfold BO;refine AK (λd=>AB ⟨⟨rfl,λb=>N! b d⟩,λb=>N! b d,λ_=>rfl⟩) (λd=>?_);dsimp only at d;subst d;have⟨a,hr,n⟩:=i rfl;subst hr n;rw[Af]at o;rw[ig o! o! o!];by_cases j:(k:Int)<=θ a;rw[C! j,AD,Cz];have⟨q,v⟩:=rL (t:=a) (k:=k) o! m;rw[show((0:Int) !=0)=η by decide,A!];refine AB ⟨⟨rfl,λ_=>⟨a.drop k,?_,?_⟩⟩,λ_=>q,λf=>N! rfl f⟩;grind[List.append_assoc,List.take_append_drop];grind[AW,List.length_append,A3];rw[D! j,AD];rw[show((5:Int) !=0)=ζ by decide,B!];exact AB ⟨⟨rfl,λb=>N! (show(5:Int)=0 from b) g!⟩,λb=>N! (show(5:Int)=0 from b) g!,λf=>N! rfl f⟩
def AD2{x p:BV}{c:BV×Int×Int}{n:Int}(h:CS x p c)(k:θ x<=1099511627776)(hn:c.2.2=0->0<=n/\n<4294967296):An (Ds c n) λr=>CS x (p++r.1) r.2/\(r.2.2.2=0->(θ r.1:Int)=n/\c.2.2=0):=by have⟨s,g,e⟩:=c;have⟨d,f⟩:=h;dsimp only at d f hn;subst d;unfold Ds;by_cases j:e=0;subst j;have⟨a,hr,i⟩:=f rfl;have⟨l,q⟩:=hn rfl;subst hr i;obtain⟨m,rfl⟩:=FC l;rw[Af]at k;rw[show((0:Int) !=0)=η by decide,A!];simp only[len];rw[show wi (((p++a).length:Int)-(θ p:Int))=θ a by rw[Af,AW];omega];by_cases o:(m:Int)<=θ a;rw[F! o!,A!];rw[(by grind[AW,Ui,List.length_append,List.drop_left]:Ui (p++a) (wi (wi ((θ p:Int)+(m:Int))-(m:Int))) (wi ((θ p:Int)+(m:Int)))=δ (a.take m)),AD];refine AB ⟨⟨rfl,λ_=>⟨a.drop m,?_,?_⟩⟩,λ_=>⟨?_,by first|rfl|trivial⟩⟩;grind[List.append_assoc,List.take_append_drop];grind[AW,List.length_append,List.length_take];grind[List.length_take];rw[G! o!,B!];exact AB ⟨⟨rfl,λb=>N! (show(5:Int)=0 from b) g!⟩,λb=>N! (show(5:Int)=0 from b) g!⟩;grind[AB]
def ADz{x p:BV}{c:BV×Int×Int}(h:CS x p c)(i:θ x<=1099511627776):An (DT c ()) λr=>CS x (p++Yq r.1) r.2/\(r.2.2.2=0->IQ r.1):=by unfold DT;refine AA (ae (k:=1) h i g! g!) λv n=>?_;have⟨⟨f,j⟩,q,y⟩:=n;refine AK (λd=>AB ⟨⟨f,λb=>N! b d⟩,λb=>N! b d⟩) (λd=>?_);have⟨e,hr,g⟩:=j d;have m:=(q d).1 g!;rw[show(256:Int)^1=256 by decide]at m;refine AQ (λa=>AB ⟨⟨f,λ_=>⟨e,?_,?_⟩⟩,λ_=>⟨Bo _,.inr rfl⟩⟩) (λa=>?_);dsimp only;rw[a]at hr;exact hr;dsimp only;rw[a]at g;exact g;refine AC (λ_=>AB ⟨⟨f,λb=>N! (show(4:Int)=0 from b) g!⟩,λb=>N! (show(4:Int)=0 from b) g!⟩) (λl=>?_);refine AA (AD2 (x:=x) (p:=p++DZ v.1 1) ⟨f,j⟩ i (λ_=>o!)) λw o=>AB ?_;have⟨⟨s,z⟩,t⟩:=o;refine⟨⟨s,λb=>?_⟩,λb=>?_⟩;grind[Yq,DZ,List.append_assoc];dsimp only at b⊢;have⟨u,_⟩:=t b;exact⟨d!,.inl rfl⟩
def YU{x p a:BV}{n:Int}{k:Nat}(e:x=p++(DZ n k++a))(d:θ x<=1099511627776)(b:1<=k)(c:k<=8)(hn:dc k n):BO (x,(θ p:Int),0) (k:Int)=δ (n,x,((p++DZ n k).length:Int),0):=by grind[θ,List.length_append,A3,BO,ig,Int.toNat_natCast,List.take_left',pW,AW]
theorem AD1{x p w a:BV}(c:x=p++(w++a))(d:θ x<=1099511627776):Ds (x,(θ p:Int),0) (θ w:Int)=δ (w,x,((p++w).length:Int),0):=by
 have b:=E! θ c;simp[Af]at b;unfold Ds;dsimp only;rw[show((0:Int) !=0)=η by decide,A!];simp only[len];rw[show τ ((θ w:Int)>wi ((θ x:Int)-(θ p:Int)))=η from F! (by rw[AW];omega),A!];have e:Ui x (wi (wi ((θ p:Int)+(θ w:Int))-(θ w:Int))) (wi ((θ p:Int)+(θ w:Int)))=δ w:=by rw[AW (x:=(θ p:Int)+(θ w:Int)),AW];unfold Ui;rw[C! o!,c,show((θ p:Int)+(θ w:Int)-(θ w:Int)).toNat=θ p by omega,Qw,show((θ p:Int)+(θ w:Int)).toNat-θ p=θ w by omega,Xg]
 grind[AW,List.length_append]
def ADy{x p a:BV}{c:Ch}(e:x=p++(Yq c++a))(i:θ x<=1099511627776)(k:IQ c):DT (x,(θ p:Int),0) ()=δ (c,x,((p++Yq c).length:Int),0):=by
 have⟨b,d⟩:=c;have⟨j,f⟩:=k;dsimp only at j f;unfold DT;cases b with
 |false=>
  have l:d=[]:=by rcases f with h|h;cases h;exact h
  subst l;rw[(rfl:Yq (η,[])=DZ 255 1)]at e⊢;rw[show(1:Int)=((1:Nat):Int)from rfl,YU e i g! g! ⟨λ_=>g!,g!,g!⟩];rfl
 |true=>have g:Yq (ζ,d)=DZ (θ d:Int) 1++d:=rfl;rw[g,A5]at e;rw[g];rw[show(1:Int)=((1:Nat):Int)from rfl,YU e i g! g! ⟨λ_=>by rw[show(256:Int)^1=256 by decide];omega,o!⟩,AD];grind[AD1,List.append_assoc]
def AHV{x:BV}(a:θ x<=1099511627776):An (FF x) λr=>r.2=0->x=Bq r.1/\IQ r.1.2.2.2.2.2.2.1.2.2.1/\IQ r.1.2.2.2.2.2.2.1.2.2.2/\dc 4 (θ r.1.2.2.2.2.2.2.2:Int)/\Cj r.1=δ ζ:=by
 unfold FF;have J:CS x [] (x,0,0):=⟨rfl,λ_=>⟨x,rfl,rfl⟩⟩
 refine AA (ae (k:=8) J a g! g!) λP z=>AA (ae (k:=1) z.1 a g! g!) λQ A=>AA (ae (k:=4) A.1 a g! g!) λR B=>AA (ae (k:=8) B.1 a g! g!) λS C=>AA (ae (k:=8) C.1 a g! g!) λT D=>AA (ae (k:=8) D.1 a g! g!) λU E=>AA (ae (k:=4) E.1 a g! g!) λV F=>AA (ae (k:=1) F.1 a g! g!) λW G=>D6 (ADz G.1 a) λs N p=>D6 (ADz p.1 a) λt y q=>AA (ae (k:=4) q.1 a g! g!) λl b=>AA (AD2 (n:=l.1) b.1 a (λc=>?_)) λK f=>?_;have:=(b.2.1 c).1 g!;rw[show(256:Int)^4=4294967296 by decide]at this;exact this;refine AK (λi=>AB λc=>N! c i) (λi=>AK (λ_=>AB n!) (λH=>D6 (CG) λL j _=>AO (λ_=>AB n!) (λI=>AB λ_=>?_)));subst I;obtain⟨g,d⟩:=f.2 i;have m:t.2.2.2=0:=TD λe=>by have:=b.2.2 e;rw[this]at d;exact e d
 have v:=q.2 m;have M:s.2.2.2=0:=TD λe=>by
  have:t=((η,[]),s.2):=by have:=y;unfold DT BO at this;rw[bne_iff_ne.2 e,B!,AD,bne_iff_ne.2 e,B!]at this;injection this with this;exact this.symm
  rw[this]at m;exact e m
 have u:=p.2 M;obtain⟨h,o,O⟩:=f.1.2 i;have hr:h=[]:=by simp only[len]at H;have w:=E! θ o;rw[Af]at w;exact EJ o!
 subst hr;refine⟨?_,u,v,?_,j⟩;rw[o];unfold Bq;dsimp only;rw[g];simp only[A5,CY,Dl];dsimp only;rw[g];exact b.2.1 d
def AD0{e:AE}(h:L3 e):FF (Bq e)=δ (e,0):=by
 obtain⟨s,t,H,w,y,z,A,B,C,D,E⟩:=h.cells;have I:=R3 h;have g:dc 4 (θ e.2.2.2.2.2.2.2:Int):=⟨λ_=>by rw[show(256:Int)^4=4294967296 by decide];omega,o!⟩
 have a:Bq e=[]++(DZ e.1 8++(DZ e.2.1 1++(DZ e.2.2.1 4++(DZ e.2.2.2.1 8++(DZ e.2.2.2.2.1 8++(DZ e.2.2.2.2.2.1 8++(DZ e.2.2.2.2.2.2.1.1 4++(DZ e.2.2.2.2.2.2.1.2.1 1++
 (Yq e.2.2.2.2.2.2.1.2.2.1++(Yq e.2.2.2.2.2.2.1.2.2.2++(DZ (θ e.2.2.2.2.2.2.2:Int) 4++(e.2.2.2.2.2.2.2++[])))))))))))):=by rw[Dl];rfl
 generalize Bq e=x at*;have i:BO (x,((0:Int)),0) 8=_:=YU (p:=[]) (k:=8) a o! g! g! w;rw[CY]at i;rw[CY]at a;have j:=YU (k:=1) a o! g! g! y;rw[<-A5]at a;have l:=YU (k:=4) a o! g! g! z;rw[<-A5]at a;have m:=YU (k:=8) a o! g! g! A;rw[<-A5]at a;have n:=YU (k:=8) a o! g! g! B;rw[<-A5]at a;have o:=YU (k:=8) a o! g! g! C;rw[<-A5]at a;have q:=YU (k:=4) a o! g! g! D;rw[<-A5]at a;have r:=YU (k:=1) a o! g! g! E;rw[<-A5]at a;have F:=ADy a o! s;rw[<-A5]at a;have G:=ADy a o! t;rw[<-A5]at a;have c:=YU (k:=4) a o! g! g! g;rw[<-A5]at a;have d:=AD1 a o!;rw[Dl]at a;rw[<-a]at d;unfold FF;rw[i,AD];rw[show((1:Nat):Int)=1 from rfl]at j r;rw[show((4:Nat):Int)=4 from rfl]at l q c;rw[show((8:Nat):Int)=8 from rfl]at m n o;rw[j,AD,l,AD,m,AD,n,AD,o,AD,q,AD,r,AD,F,AD,G,AD,c,AD,d,AD];obtain⟨b,u,v⟩:=CG (x:=e);have f:b=ζ:=v.2 h;subst f;dsimp only[len];rw[show((0:Int) !=0)=η by decide,A!,H!,A!];rw[show(e.1,e.2.1,e.2.2.1,e.2.2.2.1,e.2.2.2.2.1,e.2.2.2.2.2.1,(e.2.2.2.2.2.2.1.1,e.2.2.2.2.2.2.1.2.1,e.2.2.2.2.2.2.1.2.2.1,e.2.2.2.2.2.2.1.2.2.2),e.2.2.2.2.2.2.2)=e from rfl,u,AD,Ca,A!]
def Kj(l:List AE):BV:=(l.map λe=>JJ (Bq e)).flatten
theorem R4(l:List AE)(e:AE):Kj (l++[e])=Kj l++JJ (Bq e):=by unfold Kj;grind
theorem nT(e:AE)(l:List AE):Kj (e::l)=JJ (Bq e)++Kj l:=rfl
def qu{l:List AE}(h:∀e∈l,L3 e):(Kj l).length<=8400*θ l:=by
 induction l with
 |nil=>exact Ai _
 |cons e r b=>have c:=b λx a=>h x (A1.2 (.inr a));have d:=R3 (h e (A1.2 (.inl rfl)));rw[nT,Af,Fv,Cg];omega
def ABl{x p a:BV}{at_:Int}{k:Nat}(c:x=p++a)(e:at_=θ p)(l:θ x≤1099511627776)(j:1≤k)(f:k≤8)(g:k≤θ a):
  ∃n b,Au (x,at_,(k:Int))=δ (n,0)/\Bl (x,at_,(k:Int))=δ (n,0)/\x=(p++DZ n k)++b/\dc k n/\θ b+k=θ a:=by
 have d:=E! θ c;rw[Af]at d;obtain⟨h,i⟩:=rL (t:=a) g f;refine⟨rd (a.take k),a.drop k,?_,?_,?_,h,?_⟩;rw[c,e,ig o! o! o!,C! o!,Cz];rw[c,e,XK o! o! o!,C! o!,Cz];rw[i,A5,De];exact c;rw[EY];omega
def jj{x p rest:BV}{at_ n:Int}{k:Nat}(a:x=p++(DZ n k++rest))(d:at_=θ p)(f:θ x≤1099511627776)(e:1≤k)(c:k≤8)(hn:dc k n):
  Au (x,at_,(k:Int))=δ (n,0)/\Bl (x,at_,(k:Int))=δ (n,0):=by
 have b:=E! θ a;simp only[Af,A3]at b;refine⟨?_,?_⟩;rw[a,d,ig (by rw[Af,A3];omega) o! o!,C! (by rw[Af,A3];omega),Cz,Fg (A3 _ _),pW c hn];rw[a,d,XK (by rw[Af,A3];omega) o! o!,C! (by rw[Af,A3];omega),Cz,Fg (A3 _ _),pW c hn]
def Yw{x:List Aq×Int×Bool×Cl}{s:Int×List Aq}(h:0<=s.1/\s.1<=θ x.1/\θ x.1<=16777216/\θ s.2<=s.1):An (Aa (N9 x) s) λr=>θ r<=θ x.1:=by
 refine AU (λ(s:Int×List Aq)=>0<=s.1/\s.1<=θ x.1/\θ x.1<=16777216/\θ s.2<=s.1) (λ(s:Int×List Aq)=>((θ x.1:Int)-s.1).toNat) h (λs b=>?_);unfold N9;exact x!
def KU{x:List Aq×Int×Bool×Cl}(h:θ x.1<=16777216):An (F5 x) λr=>θ r<=θ x.1:=by
 unfold F5;exact x!
def Yt{x:A4×Int}{s:Int}(h:0<=s/\s<=θ x.1.1/\(θ x.1.1:Int)<=16777216/\0<=x.2/\x.2<θ x.1.2):An (Aa (N5 x) s) λr=>True:=by
 refine AU (λ(s:Int)=>0<=s/\s<=θ x.1.1/\(θ x.1.1:Int)<=16777216/\0<=x.2/\x.2<θ x.1.2) (λ(s:Int)=>((θ x.1.1:Int)-s).toNat) h (λs a=>?_);unfold N5;exact x!
def Yu{x:A4×Int}{s:Int}(h:0<=s/\s<=x.2/\(x.2:Int)<=16777216/\0<=x.2/\x.2<θ x.1.2):An (Aa (N6 x) s) λr=>True:=by
 refine AU (λ(s:Int)=>0<=s/\s<=x.2/\(x.2:Int)<=16777216/\0<=x.2/\x.2<θ x.1.2) (λ(s:Int)=>((x.2:Int)-s).toNat) h (λs a=>?_);unfold N6;exact x!
def ff{x:A4×Int}(h:θ x.1.1<=4096/\θ x.1.2<=4096)(b:0<=x.2/\x.2<θ x.1.2):An (MY x) λr=>True:=by
 unfold MY;exact x!
def Yv{x:List Aq×Aq}{s:Bool×Int×List Aq}(h:0<=s.2.1/\s.2.1<=θ x.1/\θ x.1<=4096/\θ s.2.2<=s.2.1+1/\(s.1=η->(θ s.2.2:Int)<=s.2.1)):An (Aa (N8 x) s) λr=>θ r.2<=θ x.1+1/\(r.1=η->θ r.2<=θ x.1):=by
 refine AU (λ(s:Bool×Int×List Aq)=>0<=s.2.1/\s.2.1<=θ x.1/\θ x.1<=4096/\θ s.2.2<=s.2.1+1/\(s.1=η->(θ s.2.2:Int)<=s.2.1)) (λ(s:Bool×Int×List Aq)=>((θ x.1:Int)-s.2.1).toNat) h (λs c=>?_);unfold N8;repeat' with_reducible first|intro a|apply AC|apply AO|apply AK|(apply A6;try dsimp only)|apply BZ|apply Br|apply AB|(apply AA (UR);intro r hr)|(refine AL ?_ (AI ?_ ?_);rintro r ⟨hr,f⟩)|(refine AL ?_ (Ac ?_);rintro r ⟨hr,d,b⟩)
 all_goals try (have e:=AW (x:=s.2.1+1))
 all_goals (first|omega|grind)
def fg{x:List Aq×Aq}(h:θ x.1<=4096):An (MZ x) λr=>θ r<=θ x.1+1:=by
 unfold MZ;exact x!
def W9{B:Nat}(i:B<=2000){s:Int×A4}(h:0<=s.1/\s.1<=s.2.2.length/\s.2.1.length+s.2.2.length<=B):An (Aa RS s) λr=>r.1.length+r.2.length<=B:=by refine AU (λs=>0<=s.1/\s.1<=s.2.2.length/\s.2.1.length+s.2.2.length<=B) (λs=>s.2.2.length*3000+((s.2.2.length:Int)-s.1).toNat) h (λs d=>?_);have⟨b,e,c⟩:=d;refine AC (λa=>?_) (λa=>AB c);simp[len]at a;refine AA (ff d! ⟨b,a⟩) λv _=>AA (P:=λv:Int×A4=>(v=s)\/(v.1= -1/\v.2.1.length<=s.2.1.length+1/\v.2.2.length+1=s.2.2.length)) ?_ λm g=>?_;refine AJ (λ_=>?_) (λ_=>AB (.inl rfl));refine AA (AI b a) λj _=>AA (fg d!) λk c=>AA (CA o! b) λl f=>?_;grind[AW,AA,CA,Ac,AB];grind[AB,AW]
def I8{B:Nat}{x:A4}(a:B<=2000)(h:θ x.1+θ x.2<=B):An (FH x) λr=>θ r.1+θ r.2<=B:=by exact AA (W9 a ⟨k!,k!,h⟩) λr hr=>AB hr
theorem Fy.of{x:A4}{B:Nat}(a:B<=2000)(h:x.1.length+x.2.length<=B):Fy x:=⟨by omega,by omega⟩
def Fy.nil:Fy (([],[]):A4):=⟨k!,k!⟩
def L8{x:A4×Int}(h:Fy x.1):An (HJ x) λr=>Fy r:=by refine AA (Ex h) λv d=>AO (λ_=>AB h) (λc=>?_);have g:=d c;refine AA (KU h.1) λa e=>AA (KU h.2) λb f=>AA (I8 (B:=1024) g! ?_) λr hr=>AB (Fy.of g! hr);grind[Zb]
def aJ{x:A4×Int}(h:Fy x.1):An (Ou x) λr=>Fy r:=by refine AA (Ex h) λv c=>AO (λ_=>AB h) (λa=>?_);have e:=c a;refine AA (KU h.2) λb d=>AA (I8 (B:=1024) g! ?_) λr hr=>AB (Fy.of g! hr);grind[Zb]
def UQ{x:A4×Int×Cl}(h:Fy x.1):An (MX x) λr=>Fy r:=by refine AA (Ex h) λv c=>AO (λ_=>AB h) (λa=>?_);have e:=c a;refine AA (KU h.1) λb d=>AA (I8 (B:=1024) g! ?_) λr hr=>AB (Fy.of g! hr);grind[Zb]
def Wa{x:A4×Int}{s:Int×Aq}(h:0<=s.1/\s.1<=θ x.1.2/\θ x.1.2<=16777216):An (Aa (K4 x) s) λr=>True:=by
 refine AU (λ(s:Int×Aq)=>0<=s.1/\s.1<=θ x.1.2/\θ x.1.2<=16777216) (λ(s:Int×Aq)=>((θ x.1.2:Int)-s.1).toNat) h (λs b=>?_);unfold K4;exact x!
def II{x:A4×Int}(h:Fy x.1):An (Ey x) λr=>r.2=ζ->Zb x.1:=by
 unfold Ey;exact x!
def YA{x:A4×Aq}{s:Int}(h:0<=s/\s<=θ x.1.2/\(θ x.1.2:Int)<=16777216/\θ x.1.1<=16777216):An (Aa (NF x) s) λr=>∀u,r=.inl u->0<=u/\u<=θ x.1.2:=by
 refine AU (λ(s:Int)=>0<=s/\s<=θ x.1.2/\(θ x.1.2:Int)<=16777216/\θ x.1.1<=16777216) (λ(s:Int)=>((θ x.1.2:Int)-s).toNat) h (λs a=>?_);unfold NF;exact x!
def cp{x:A4×Aq}(h:Fy x.1):An (IZ x) λr=>0<=r/\r<=θ x.1.2:=by
 unfold IZ;exact x!
def Ys{x:A4×Aq}(h:Fy x.1):An (N4 x) λr=>Fy r.1:=by refine AA (Ex h) λv o=>AO (λ_=>AB Fy.nil) (λl=>?_);have n:=o l;unfold Zb at n;refine AA N7 λ_ _=>AO (λ_=>AB Fy.nil) (λ_=>AA (II h) λz _=>?_);apply AJ<;>intro m;simp_all[AJ,AB,Fy.nil];refine AJ (λ_=>AB h) (λ_=>AA (Hq h.1) λ_ _=>AJ (λ_=>AB h) (λ_=>AJ (λ_=>AB Fy.nil) (λ_=>AA (cp h) λp e=>AA (CA o! e.1 e.2) λq j=>AA (CA e.1 (by simp[len];omega) i!) λs a=>?_)));have f:=a.2;simp[len]at f;refine AA (Ac w!) λt b=>?_;have g:=b.2.1;simp at g;refine AA (Ac w!) λu c=>?_;have i:=c.2.1;simp at i;refine AA (Ac o!) λw k=>AA (I8 (B:=1025) g! d!) λy d=>AA (Hq d!) λ_ _=>AB (Fy.of g! d)
def Yz{x:List Int×Int}{s:Bool×Int×List Int}(h:0<=s.2.1/\s.2.1<=θ x.1/\θ x.1<=4096/\θ s.2.2<=s.2.1+1/\(s.1=η->(θ s.2.2:Int)<=s.2.1)):An (Aa (N3 x) s) λr=>θ r.2<=θ x.1+1/\(r.1=η->θ r.2<=θ x.1):=by
 refine AU (λ(s:Bool×Int×List Int)=>0<=s.2.1/\s.2.1<=θ x.1/\θ x.1<=4096/\θ s.2.2<=s.2.1+1/\(s.1=η->(θ s.2.2:Int)<=s.2.1)) (λ(s:Bool×Int×List Int)=>((θ x.1:Int)-s.2.1).toNat) h (λs b=>?_);unfold N3;repeat' with_reducible first|intro a|apply AC|apply AO|apply AK|apply AJ|(apply A6;try dsimp only)|apply BZ|apply Br|apply AB|(refine AL ?_ (AI ?_ ?_);rintro r ⟨hr,g⟩)|(refine AL ?_ (Ac ?_);rintro r ⟨hr,f,d⟩)
 all_goals try dsimp[len]at*
 all_goals try (have e:=AW (x:=s.2.1+1))
 all_goals try (have c:=b.2.2.2.2 v!)
 all_goals (try simp[Cg,CU,Bool.true_eq_false,false_implies,and_true]at*)
 all_goals first|omega|grind
def Oy{x:List Int×Int}(h:θ x.1<=4096):An (E6 x) λr=>θ r<=θ x.1+1:=by
 unfold E6;exact x!
def Wb{x:A4}{s:List Int×Int}(h:0<=s.2/\s.2<=θ x.2/\θ x.2<=4096/\θ s.1<=s.2):An (Aa (K5 x) s) λr=>θ r<=θ x.2:=by
 refine AU (λ(s:List Int×Int)=>0<=s.2/\s.2<=θ x.2/\θ x.2<=4096/\θ s.1<=s.2) (λ(s:List Int×Int)=>((θ x.2:Int)-s.2).toNat) h (λs b=>?_);unfold K5;exact x!
def Yy{x:A4}(h:Fy x):An (Jl x) λr=>θ r<=4096:=by
 unfold Jl;exact x!
theorem aK{x:A4×Int}{b:Aq×Bool}{s:List Int×Int}(h:0<=s.2/\s.2<=θ x.1.1/\θ x.1.1<=1024/\θ s.1<=s.2):An (Aa (Ov x b) s) λr=>θ r<=θ x.1.1:=by
 refine AU (λ(s:List Int×Int)=>0<=s.2/\s.2<=θ x.1.1/\θ x.1.1<=1024/\θ s.1<=s.2) (λ(s:List Int×Int)=>((θ x.1.1:Int)-s.2).toNat) h (λs c=>?_);unfold Ov;exact x!
theorem aL{x:A4×Int}{b:Aq×Bool}{s:List Int×Int}(h:0<=s.2/\s.2<=θ x.1.2/\θ x.1.2<=1024/\θ s.1<=s.2+1024):An (Aa (Ow x b) s) λr=>θ r<=4096:=by
 refine AU (λ(s:List Int×Int)=>0<=s.2/\s.2<=θ x.1.2/\θ x.1.2<=1024/\θ s.1<=s.2+1024) (λ(s:List Int×Int)=>((θ x.1.2:Int)-s.2).toNat) h (λs c=>?_);unfold Ow;exact x!
def LU{x:A4×Int}(h:Fy x.1):An (H6 x) λr=>θ r<=4096:=by unfold H6;refine AA (II h) λc b=>AO (λ_=>AB k!) (λa=>?_);grind[Zb,AA,aK,aL,AB]
theorem P6{x:A4×List Int×Int}{a:List Int}{s:Int}(h:0<=s/\s<=θ a/\(θ a:Int)<=16777216/\1<=θ x.2.1/\θ x.2.1<=4096):An (Aa (L9 x a) s) λr=>∀u,r=.inl u->u=x.2.1:=by
 refine AU (λ(s:Int)=>0<=s/\s<=θ a/\(θ a:Int)<=16777216/\1<=θ x.2.1/\θ x.2.1<=4096) (λ(s:Int)=>((θ a:Int)-s).toNat) h (λs c=>?_);unfold L9;exact x!
def XA{x:A4×List Int×Int}{b:Int}{s:Bool×Int}(h:0<=s.2/\s.2<=θ x.2.1/\θ x.2.1<=4096):An (Aa (MA x b) s) λr=>True:=by
 refine AU (λ(s:Bool×Int)=>0<=s.2/\s.2<=θ x.2.1/\θ x.2.1<=4096) (λ(s:Bool×Int)=>((θ x.2.1:Int)-s.2).toNat) h (λs c=>?_);unfold MA;exact x!
def AE1(d:Nat){x:A4×List Int×Int}(h:Fy x.1)(o:1<=θ x.2.1)(A_:(θ x.2.1:Int)+d=x.2.2)(p:x.2.2<=4096):An (nP EV (d+1) x) λr=>θ r<=4096:=by
 induction d generalizing x with
 |zero=>show An (EV _ x) _;unfold EV;have e:=AW (x:=(θ x.2.1:Int)-1);refine AA (AI (by simp[len];rw[e];omega) (by simp[len];rw[e];omega)) λv _=>AA (LU h) λm f=>AQ (λ_=>?_) (λc=>N! (by simp[len];omega) c);refine AA (P6 ⟨k!,k!,o!,o,o!⟩) λr hr=>A9 (λu a=>AB (by rw[hr u a];omega)) (λ_ _=>AB k!)
 |succ d t=>show An (EV _ x) _;unfold EV;have e:=AW (x:=(θ x.2.1:Int)-1);refine AA (AI (by simp[len];rw[e];omega) (by simp[len];rw[e];omega)) λv _=>AA (LU h) λm f=>AQ (λ_=>?_) (λ_=>?_);grind[AA,P6,A9,AB];refine AA (P:=λr=>∀u,r=.inl u->θ u<=4096) ?_ λr hr=>A9 (λu a=>AB (hr u a)) (λ_ _=>AB k!);refine AU (λ(s:Int)=>0<=s/\s<=θ m) (λ(s:Int)=>((θ m:Int)-s).toNat) (s:=(0:Int)) ⟨g!,o!⟩ (λs q=>?_);unfold RT;have b:=AW (x:=s+1);refine AC (λc=>?_) (λ_=>AB (λu a=>by cases a));simp[len]at c;refine AA (AI q.1 c) λB _=>AA (XA ⟨k!,k!,o!⟩) λw _=>AJ (λ_=>AB ⟨by rw[b];omega,by rw[b];omega⟩) (λ_=>AA (Ac w!) λy g=>?_);have k:=g.2.1;simp[CU]at k;refine AA (Ac w!) λn i=>?_;have l:=i.2.1;simp[Cg,CU]at l;refine AA (t (x:=(x.1,n,x.2.2)) h d! d! p) λz j=>AC (λ_=>AB λu a=>by cases a;exact j) (λ_=>AB ⟨by rw[b];omega,by rw[b];omega⟩)
def aM{x:A4×List Int×Int}(h:Fy x.1)(a:1<=θ x.2.1)(d:(θ x.2.1:Int)<=x.2.2)(b:x.2.2<=4096):An (Ox x) λr=>True:=by have⟨r,hr,_⟩:=AE1 (x.2.2-θ x.2.1).toNat h a o! b;have⟨s,c⟩:=fX hr;exact⟨s,c,O!⟩
def cq{x:A4×Int}(h:Fy x.1):An (LR x) λr=>True:=by unfold LR;refine AA (P:=λ_=>True) ?_ λr _=>A9 (λ_ _=>AB trivial) (λ_ _=>AB trivial);refine AU (λs=>1<=s/\s<=4097) (λs=>(4097-s).toNat) ⟨g!,g!⟩ (λs d=>?_);unfold R8;have a:=AW (x:=s+1);refine AA (Yy h) λe c=>AC (λb=>?_) (λ_=>AB trivial);simp[len]at b;refine AA (aM h k! (by show(1:Int)<=s;omega) (by show s<=4096;omega)) λf _=>AC (λ_=>AB trivial) (λ_=>AB ⟨by rw[a];omega,by rw[a];omega⟩)
def TP(l:List Aj):Nat:=(l.map λt=>θ t.2.2.2.2.1+1).sum
theorem AGl{l:List Aj}{i:Nat}{o n:Aj}(h:l[i]?=δ o):TP (l.set i n)+θ o.2.2.2.2.1=TP l+θ n.2.2.2.2.1:=by
 induction l generalizing i with
 |nil=>simp at h
 |cons t r a=>
  cases i with
  |zero=>simp at h;subst h;simp[TP];omega
  |succ i=>have:=a (i:=i) (by simpa using h);simp[TP,List.set_cons_succ,Bn,VO]at*;omega
def uT{l:List Aj}{id:Int}:TP (l.filter λt=>t.1 !=id)<=TP l:=by
 induction l with
 |nil=>simp
 |cons t r a=>simp[PZ];split;simp[TP,Bn,VO]at*;omega;simp[TP,Bn,VO]at*;omega
def vr{l:List Aj}{id:Int}{i:Nat}{t:Aj}(h:l[i]?=δ t)(a:t.1=id):TP (l.filter λt=>t.1 !=id)<TP l:=by
 induction l generalizing i with
 |nil=>simp at h
 |cons u r b=>
  have q:=uT (l:=r) (id:=id);cases i with
  |zero=>simp at h;subst h;simp[PZ,a,H!,PY,if_false];simp[TP,Bn,VO]at*;omega
  |succ i=>have:=b (i:=i) (by simpa using h);simp[PZ];split<;>(simp[TP,Bn,VO]at*;omega)
def YD{x:List Aj×Int}{s:Int×List Aj}(h:0<=s.1/\s.1<=θ x.1/\θ x.1<=64/\θ s.2=s.1):An (Aa (NH x) s) λr=>θ r<=θ x.1:=by
 refine AU (λ(s:Int×List Aj)=>0<=s.1/\s.1<=θ x.1/\θ x.1<=64/\θ s.2=s.1) (λ(s:Int×List Aj)=>((θ x.1:Int)-s.1).toNat) h (λs c=>?_);unfold NH;exact x!
def Tb{x:List Aj×Int}:An (Ib x) λr=>r.2=0->θ r.1=θ x.1+1/\θ r.1<=64:=by
 unfold Ib;exact x!
def AB6(l:List Aj)(id:Int):List Aj:=l.filter λt=>t.1 !=id
theorem oB(l:List Aj)(id:Int):(AB6 l id).length<=θ l:=FT _ _
theorem AFq(l:List Aj)(id:Int):TP (AB6 l id)<=TP l:=uT
theorem AFr{l:List Aj}{id:Int}{i:Nat}{t:Aj}(h:l[i]?=δ t)(a:t.1=id):TP (AB6 l id)<TP l:=vr h a
def kU{a:Type}{l:List a}{n:Int}{p:a->Bool}{x:a}(b:0<=n)(c:l[n.toNat]?=δ x):(l.take (n+1).toNat).filter p=(l.take n.toNat).filter p++(if p x=ζ then [x]else []):=by
 have e:(n+1).toNat=n.toNat+1:=o!
 grind[List.take_add_one,Option.toList_some]
def nN{a:Type}{l:List a}{n:Int}{p:a->Bool}(b:0<=n):(((l.take n.toNat).filter p).length:Int)<=n:=by grind[List.length_filter_le,List.length_take]
def XG{x:List Aj×Int}{s:Int×List Aj}(h:0<=s.1/\s.1<=θ x.1/\θ x.1<=16777216/\s.2=(x.1.take s.1.toNat).filter (λt=>t.1 !=x.2)):An (Aa (MD x) s) λr=>r=x.1.filter λt=>t.1 !=x.2:=by
 refine AU (λ(s:Int×List Aj)=>0<=s.1/\s.1<=θ x.1/\θ x.1<=16777216/\s.2=(x.1.take s.1.toNat).filter (λt=>t.1 !=x.2)) (λ(s:Int×List Aj)=>((θ x.1:Int)-s.1).toNat) h (λs f=>?_);unfold MD;have⟨b,i,e,c⟩:=f;have a:=nN (l:=x.1) (p:=λt:Aj=>t.1 !=x.2) b;rw[<-c]at a;repeat' with_reducible first|intro d|apply AC|apply AK|apply AJ|(apply A6;try dsimp only)|apply BZ|apply Br|apply AB|(refine AL ?_ (AI ?_ ?_);rintro r ⟨hr,k⟩)|(refine AL ?_ (Ac ?_);rintro r ⟨hr,j,g⟩)
 all_goals dsimp[len]at*
 all_goals first|omega|(rw[(AW (x:=s.1+1))];refine⟨⟨o!,o!,e,?_⟩,o!⟩;rw[kU b v!];grind)|(rw[c,BK o!])|(simp;omega)
def JA{x:List Aj×Int}(h:θ x.1<=16777216):An (GU x) λr=>r=AB6 x.1 x.2:=by
 unfold GU AB6
 exact x!
def NJ{x:Aj}(h:θ x.2.2.2.2.1<=16777216):An (Hw x) λr=>r.1=x.1/\r.2.2.2.2=x.2.2.2.2:=by
 unfold Hw;exact x!
def LZ{x:List Aj×Int×Aj}(h:θ x.1<=16777216)(a:0<=x.2.1/\x.2.1<θ x.1):An (H8 x) λr=>r=x.1.set x.2.1.toNat x.2.2:=by unfold H8;refine AA (Ac (by simpa using h)) λr hr=>?_;have⟨hr,b,_⟩:=hr;rw[CY]at hr;subst hr;refine AA (AI a.1 a.2) λ_ _=>AA (AI a.1 a.2) λ_ _=>AB rfl
def RV{x:List Aj×AE}{a:Aj}{s:Int×List Int}(h:0<=s.1/\s.1<=θ a.2.2.2.2.1/\θ a.2.2.2.2.1<=4096/\θ s.2<=s.1):An (Aa (OC x a) s) λr=>θ r<=θ a.2.2.2.2.1:=by
 refine AU (λ(s:Int×List Int)=>0<=s.1/\s.1<=θ a.2.2.2.2.1/\θ a.2.2.2.2.1<=4096/\θ s.2<=s.1) (λ(s:Int×List Int)=>((θ a.2.2.2.2.1:Int)-s.1).toNat) h (λs d=>?_);unfold OC;exact x!
def ii(l:List Aj)(id:Int):Prop:=∃(j:Nat)(t:Aj),l[j]?=δ t/\t.1=id
theorem ii.set{l:List Aj}{i:Nat}{n:Aj}{id:Int}(h:i<θ l)(hn:n.1=id):ii (l.set i n) id:=⟨i,n,by rw[GJ h],hn⟩
def AAW(l:List Aj)(kind tx:Int)(m:List Aj):Prop:=θ m<=θ l/\(tx=0->m=l)/\(tx≠0->kind≠1->(kind≠4->TP m<TP l)/\TP m<=TP l)/\(tx≠0->kind=4->ii m tx)
def fj{x:List Aj×AE}:An (F6 x) λr=>r.2=0->AAW x.1 x.2.2.1 x.2.2.2.1 r.1:=by
 unfold F6;repeat' with_reducible first|intro a|apply AC|apply AO|apply AQ|apply AK|apply AJ|(apply A6;try dsimp only)|apply BZ|apply Br|apply Mz|(apply BG;try dsimp only)|(apply Av;try dsimp only)|(apply A9<;>(intro u c;try subst c))|apply AB|(apply AA (Dn);intro r hr)|(apply AA (CG);intro r hr)|(refine AL ?_ (Hu ?_);intro r hr)|(refine AL ?_ (RV ?_);intro r hr)|(refine AL ?_ (JA ?_);intro r hr)|(refine AL ?_ (NJ ?_);intro r hr)|(refine AL ?_ (LZ ?_ ?_);intro r hr)|(refine AL ?_ (AI ?_ ?_);rintro r ⟨hr,f⟩)|(refine AL ?_ (Ac ?_);rintro r ⟨hr,e,b⟩)
 all_goals dsimp[len]at*
 all_goals first|omega|(intro d;exact N! d g!)|(unfold Yc VTx at*;(first|omega|grind[AAW,AGl,AFr,AFq,oB,List.length_set,ii.set]))
variable {B:Int->Prop}
def SH{x:List Aj×Int}:An (Ht x) λr=>r.2=0->Yc x.1/\0<=r.1/\r.1<θ x.1:=by
 unfold Ht;exact x!
def fk{x:List Aj×Int}:An (Mc x) λr=>r.2=0->θ r.1<=64:=by
 unfold Mc;repeat' with_reducible first|intro a|apply AQ|apply AK|apply AJ|apply AB|(apply AA (SH);intro r hr)|(refine AL ?_ (LZ ?_ ?_);intro r hr)|(refine AL ?_ (AI ?_ ?_);rintro r ⟨hr,e⟩)|(refine AL ?_ (Ac ?_);rintro r ⟨hr,d,b⟩)
 all_goals try dsimp[len]at*
 all_goals first|omega|(intro c;exact N! c v!)|grind[Yc,VTx,List.length_set]
def fi{x:List Aj×Int×Int}:An (Mb x) λr=>r.2=0->θ r.1<=64:=by
 unfold Mb;repeat' with_reducible first|intro a|apply AC|apply AK|apply AJ|apply AB|(apply AA (SH);intro r hr)|(refine AL ?_ (NJ ?_);intro r hr)|(refine AL ?_ (LZ ?_ ?_);intro r hr)|(refine AL ?_ (AI ?_ ?_);rintro r ⟨hr,e⟩)|(refine AL ?_ (Ac ?_);rintro r ⟨hr,b,c⟩)|(refine AL ?_ (CA ?_ ?_ ?_);rintro r ⟨hr,b⟩)
 all_goals try dsimp[len]at*
 all_goals first|omega|(intro d;exact N! d v!)|grind[Yc,VTx,List.length_set,AW]
def iS{x:Be×Int×BW}(h:θ x.1<=16777216)(a:0<=x.2.1/\x.2.1<θ x.1):An (Nh x) λr=>r=x.1.set x.2.1.toNat x.2.2:=by unfold Nh;refine AA (Ac (by simpa using h)) λr hr=>?_;have⟨hr,b,_⟩:=hr;rw[CY]at hr;subst hr;refine AA (AI a.1 a.2) λ_ _=>AA (AI a.1 a.2) λ_ _=>AB rfl
def US{x:Be×AE}:An (HK x) λr=>r.2=0->θ r.1=θ x.1/\(x.2.2.1≠7->r.1=x.1)/\(x.2.2.1=7->0<=x.2.2.2.2.2.2.2.1.1/\∃w,x.1[x.2.2.2.2.2.2.2.1.1.toNat]?=δ w/\r.1=x.1.set x.2.2.2.2.2.2.2.1.1.toNat ((if x.2.2.2.2.2.2.1>w.1 then x.2.2.2.2.2.2.1 else w.1),w.2)):=by
 unfold HK;refine AA Ft λv i=>AO (λa=>AB n!) (λa=>AA CG λl k=>AO (λa=>AB n!) (λf=>AK (λa=>AB λ_=>⟨rfl,λ_=>rfl,λe=>N! e a⟩) (λd=>?_)));have i:L3 x.2:=q!
 have c:0<=x.2.2.2.2.2.2.2.1.1:=by grind[L3,Ur,OY,Px]
 refine AC (λa=>AB n!) (λg=>?_);simp[len]at g;refine AA (AI c) λw j=>AA (iS (by have:=(by grind:lh x.1).2;dsimp only;omega) ⟨c,d!⟩) λu h=>AB λ_=>?_;subst h;exact⟨k!,λe=>N! d e,λ_=>⟨c,w,j.1,rfl⟩⟩
def KZ{x:AP×Int}(h:SB x.1):An (EQ x) λr=>Ba x.1=δ ζ->KP x.1.1 x.1.2.2.1.2.1 x.1.2.2.2.1.2.1 x.1.2.2.2.2.2.2.2 x.1.2.2.2.2.2.2.1->0<=x.2->x.2<x.1.1->r=BQ x.1.2.2.1.2.1 x.2:=by unfold EQ;refine D6 (B3 h) λv u t=>AO (λa=>AB λe=>?_) (λa=>?_);rw[u,a]at e;cases e;refine AC (λa=>AB λ_ _ p=>N! p o!) (λp=>AC (λa=>AB λ_ _ _ q=>N! q o!) (λq=>AA Ia λg s=>AJ (λa=>AB λ_ c d j=>?_) (λk=>?_)));have⟨_,_,_,e,f,n,b⟩:=s.1 a;have:=(c x.2 d j).1 f n (by rw[b];exact e);rw[b]at this;rw[this];exact J5 _ _;refine AA (Jo h) λl o=>AJ (λa=>AB λ_ c d j=>(c x.2 d j).2.1 _ (o.1 a).1 (o.1 a).2) (λm=>AA (AI o! (by have:=(t a).2.2.2.2.2.2.2;omega)) λr hr=>AB λ_ c d j=>?_);exact((c x.2 d j).2.2 r hr.1).2 (o.2 m) λf n e=>by have⟨i,w⟩:=Ci n;exact N! ⟨i,f,w,e⟩ (s.2 k (t a).2.2.2.1)
def LX(a b:AZ):Prop:=b.1=a.1/\a.2.2<=b.2.2/\∃t,b.2.1=a.2.1++t
def LX.refl(a:AZ):LX a a:=⟨rfl,AX _,[],k!⟩
def LX.trans{a b c:AZ}(h:LX a b)(g:LX b c):LX a c:=by have⟨i,k,t,j⟩:=h;have⟨d,f,u,e⟩:=g;exact⟨d.trans i,kD k f,t++u,by rw[e,j,A5]⟩
def LX.get{a b:AZ}(h:LX a b){i:Nat}{e:AE}(f:a.2.1[i]?=δ e):b.2.1[i]?=δ e:=by have⟨c,_,t,d⟩:=h;grind[List.getElem?_append_left,Nat.lt_or_ge,List.getElem?_eq_none]
def AIt(k:AP)(z:AE)(m:AP):Prop:=
 ∃e,m.2.2.1.2.1=k.2.2.1.2.1++[e]/\e.1=k.2.2.1.1+θ k.2.2.1.2.1/\e.2.1=z.2.1/\e.2.2.2.2.2=z.2.2.2.2.2/\
  (KP k.1 k.2.2.1.2.1 k.2.2.2.1.2.1 k.2.2.2.2.2.2.2 k.2.2.2.2.2.2.1->(e.2.1=1\/e.2.1=2)->0<=e.2.2.2.2.2.2.1.1->e.2.2.2.2.2.2.1.1<k.1->e.2.2.2.2.1=BQ k.2.2.1.2.1 e.2.2.2.2.2.2.1.1)/\
  (z.2.1≠7->m.2.2.2.2.2.2.1=k.2.2.2.2.2.2.1)/\
  (z.2.1=7->0<=z.2.2.2.2.2.2.1.1/\∃w,k.2.2.2.2.2.2.1[z.2.2.2.2.2.2.1.1.toNat]?=δ w/\m.2.2.2.2.2.2.1=k.2.2.2.2.2.2.1.set z.2.2.2.2.2.2.1.1.toNat ((if z.2.2.2.2.2.1>w.1 then z.2.2.2.2.2.1 else w.1),w.2))
def yv(k:AP)(z:AE)(m:AP):Prop:=
 m.1=k.1/\LX k.2.2.1 m.2.2.1/\Dd m.2.2.1/\m.2.2.2.1=k.2.2.2.1/\m.2.2.2.2.1=k.2.2.2.2.1/\AAW k.2.2.2.2.2.1 z.2.1 z.2.2.1 m.2.2.2.2.2.1/\m.2.2.2.2.2.2.2=k.2.2.2.2.2.2.2/\SB m/\AIt k z m
def Fi{x:AP×AE}(h:SB x.1):An (ED x) λr=>r.2.2=0->VK x.1/\yv x.1 x.2 r.1/\r.2.1=x.1.2.2.1.1+θ x.1.2.2.1.2.1:=by
 unfold ED;refine D6 (B3 h) λv q E=>AO (λa=>AB n!) (λa=>?_);have n:=E a;rw[a]at q;refine AA (P:=λs=>(∃u,s=.inl u/\u.2.1≠0)\/∃u,s=.inr u/\u.1.2.1=x.2.2.1/\u.1.2.2.1=x.2.2.2.1/\u.1.2.2.2.2.2=x.2.2.2.2.2.2) ?_ λs D_=>?_
 ·repeat' with_reducible first|intro a|apply AC|apply AO|apply AK|apply AJ|(apply A6;try dsimp only)|apply BZ|apply Br|apply Mz|(apply BG;try dsimp only)|(apply Av;try dsimp only)|(apply A9<;>(intro u b;try subst b))|apply AB|(refine AL ?_ (FK ?_);intro r hr)|(refine AL ?_ (AI ?_ ?_);rintro r ⟨hr,N⟩)
  all_goals ((try dsimp[len]at*);(try first|omega|assumption|grind[AW,SB]))
 rcases D_ with⟨u,rfl,b⟩|⟨u,rfl,b⟩;exact BG (AB λc=>N! c b);apply Av;refine AA (Bs) λO A_=>AA (P:=λv:AE=>v.2.1=x.2.2.1/\v.2.2.1=x.2.2.2.1/\v.2.2.2.2.2=x.2.2.2.2.2.2/\(KP x.1.1 x.1.2.2.1.2.1 x.1.2.2.2.1.2.1 x.1.2.2.2.2.2.2.2 x.1.2.2.2.2.2.2.1->(v.2.1=1\/v.2.1=2)->0<=v.2.2.2.2.2.2.1.1->v.2.2.2.2.2.2.1.1<x.1.1->v.2.2.2.2.1=BQ x.1.2.2.1.2.1 v.2.2.2.2.2.2.1.1)) ?_ λt d=>?_;refine AJ (λa=>?_) (λa=>AB ⟨b.1,b.2.1,b.2.2,λ_ n=>N! (A_.2 n) (by simp[a])⟩);exact AA (KZ h) λw F=>AB ⟨b.1,b.2.1,b.2.2,λo _ G H=>F q o G H⟩;refine AA (aI) λi B=>AK (λa=>AB (λc=>N! c a)) (λa=>?_);have⟨a1,a2,a3,a4,a5,a6⟩:=B a;dsimp only at a2 a3 a4 a5 a6;refine AA (Gw) λp e=>AA (fj) λI l=>AK (λa=>AB (λc=>N! c a)) (λf=>AA (US) λJ m=>AK (λa=>AB (λc=>N! c a)) (λg=>AB λ_=>⟨n,?_⟩))
 have L:=a2.1;have M:θ i.1.2.1=θ x.1.2.2.1.2.1+1:=by rw[a3];simp
 have⟨K,y,k,z⟩:=e.1 (e.2 a1 d! d!);dsimp only at y k z;have C:p.1=(i.2.1,t.2):=by
  have:(i.2.1-i.1.1).toNat=θ x.1.2.2.1.2.1:=o!
  rw[this,a3]at k;simpa using k.symm
 have hn:=l f;have j:=(m g).2;rw[C]at hn j;dsimp only at hn j;rw[d.1,d.2.1]at hn;rw[d.1,d.2.2.1]at j;exact⟨⟨rfl,⟨a4,Int.le_of_eq a6.symm,_,a3⟩,a1,rfl,rfl,hn,rfl,⟨h.1,by have:=hn.1;have:=h.2.1;dsimp only at*;omega,h.2.2⟩,(i.2.1,t.2),a3,a5,d.1,d.2.2.1,d.2.2.2,j⟩,a5⟩
theorem yv.ki{k m:AP}{z:AE}(h:yv k z m)(b:KI B k)(a:z.2.1≠1/\z.2.1≠2/\z.2.1≠6/\z.2.1≠7/\z.2.1≠8):KI B m:=by obtain⟨a1,_,_,a4,_,_,a7,_,e,c,g,d,i,j,f,l⟩:=h;unfold KI;rw[a1,a4,a7,c,f a.2.2.2.1];rw[<-d]at a;exact⟨b.1.app ⟨λh=>by omega,λh=>by omega,λh=>by omega,by omega⟩,b.2.1.app ⟨a.1,a.2.1⟩,b.2.2⟩
def yv.sk{k m:AP}{z:AE}(h:yv k z m)(a:SK B k)(b:z.2.1≠1/\z.2.1≠2/\z.2.1≠6/\z.2.1≠7/\z.2.1≠8):SK B m:=h.2.2.2.2.2.2.2.1.sk (h.ki a.ki b)
end Go.Pm
namespace Go.Pm
open Go Go.Ab
def DI(d:Bb):Prop:=θ d.1<=64/\(∀(i:Nat)(s:BV),d.1[i]?=δ s->θ s=256)/\d.2.2.1=[]/\d.2.2.2.2=[]
def W8{x:Int}{s:Int×List BV}(h:0<=s.1/\s.1<=x/\x<=64/\s.2.length=s.1/\ ∀(i:Nat) (t:BV),s.2[i]? =some t->t=Ga (List.replicate (Int.toNat 256) 0)):An (Aa (L7 x) s) λr=>(r.length:Int)=x/\ ∀(i:Nat) (t:BV),r[i]? =some t->t=Ga (List.replicate (Int.toNat 256) 0):=by
 refine AU (λ(s:Int×List BV)=>0<=s.1/\s.1<=x/\x<=64/\s.2.length=s.1/\ ∀(i:Nat) (t:BV),s.2[i]? =some t->t=Ga (List.replicate (Int.toNat 256) 0)) (λ(s:Int×List BV)=>(x-s.1).toNat) h (λs c=>?_);unfold L7;have⟨f,g,a,j,b⟩:=c;have k:(Ga (List.replicate (Int.toNat 256) 0)).length=256:=by rw[dx,Fz];rfl
 repeat' with_reducible first|apply AC<;>intro d|apply AJ<;>intro d|apply AB|(refine AL ?_ (Ac ?_);rintro r ⟨hr,l,e⟩)
 all_goals first|omega|(generalize Ga (List.replicate (Int.toNat 256) 0)=bs at*;simp;omega)|(generalize Ga (List.replicate (Int.toNat 256) 0)=bs at*;rw[(AW (x:=s.1+1))];refine⟨⟨by omega,by omega,a,by grind,?_⟩,by omega⟩;grind)|(exact⟨by omega,b⟩)
theorem M8{x:Int}(h:0<=x/\x<=64):An (Oq x) λr=>(θ r:Int)=x/\∀(i:Nat)(t:BV),r[i]?=δ t->t=Ga (ς (ο 256) 0):=by exact AA (W8 ⟨AX _,h.1,h.2,rfl,λi t a=>by simp at a⟩) λr hr=>AB hr
def iN{x:Int}:An (Fb x) λr=>r.2=0->DI r.1/\θ r.1.1=x/\∀(i:Nat)(t:BV),r.1.1[i]?=δ t->t=Ga (ς (ο 256) 0):=by refine AC (λb=>AB n!) (λb=>AC (λb=>AB n!) (λc=>AA (M8 o!) λr hr=>AB λ_=>⟨⟨d!,λi t d=>?_,rfl,rfl⟩,hr⟩));rw[hr.2 i t d,dx,Fz];rfl
def cj{x:Bb×Cs}:An (LO x) λr=>True:=by
 unfold LO;exact x!
def X3{x:Bb}{s:Int}(h:0<=s/\s<=θ x.1/\(θ x.1:Int)<=16777216):An (Aa (M2 x) s) λr=>r≠.inl ζ:=by
 refine AU (λ(s:Int)=>0<=s/\s<=θ x.1/\(θ x.1:Int)<=16777216) (λ(s:Int)=>((θ x.1:Int)-s).toNat) h (λs b=>?_);unfold M2;exact x!
def X4{x:Bb}{s:Int}(h:0<=s/\s<=θ x.2.2.1/\(θ x.2.2.1:Int)<=16777216):An (Aa (M3 x) s) λr=>r≠.inl ζ:=by
 refine AU (λ(s:Int)=>0<=s/\s<=θ x.2.2.1/\(θ x.2.2.1:Int)<=16777216) (λ(s:Int)=>((θ x.2.2.1:Int)-s).toNat) h (λs b=>?_);unfold M3;exact x!
def X5{x:Bb}{s:Int}(h:0<=s/\s<=θ x.2.2.2.2/\(θ x.2.2.2.2:Int)<=16777216):An (Aa (M4 x) s) λr=>r≠.inl ζ:=by
 refine AU (λ(s:Int)=>0<=s/\s<=θ x.2.2.2.2/\(θ x.2.2.2.2:Int)<=16777216) (λ(s:Int)=>((θ x.2.2.2.2:Int)-s).toNat) h (λs b=>?_);unfold M4;exact x!
def cY{x:Bb}(h:θ x.2.2.1<=16777216):An (LN x) λr=>r=ζ->1<=θ x.1/\θ x.1<=64:=by
 unfold LN;exact x!
def M9{x:Bb×Int}(h:θ x.1.2.2.1<=16777216):An (GP x) λr=>r=0->0<=x.2/\x.2<θ x.1.1/\θ x.1.1<=64:=by
 unfold GP;exact x!
def WZ{x:List Int×Int}{s:Int×List Int}(h:0<=s.1/\s.1<=θ x.1/\θ x.1<=16777216/\θ s.2<=s.1):An (Aa (K3 x) s) λr=>θ r<=θ x.1:=by
 refine AU (λ(s:Int×List Int)=>0<=s.1/\s.1<=θ x.1/\θ x.1<=16777216/\θ s.2<=s.1) (λ(s:Int×List Int)=>((θ x.1:Int)-s.1).toNat) h (λs c=>?_);unfold K3;exact x!
def RR{x:List Int×Int}(h:θ x.1<=16777216):An (Ew x) λr=>θ r<=θ x.1:=by
 unfold Ew;exact x!
def aF{x:List Int×Int}{s:Int}(h:0<=s/\s<=θ x.1/\(θ x.1:Int)<=16777216):An (Aa (Ot x) s) λr=>True:=by
 refine AU (λ(s:Int)=>0<=s/\s<=θ x.1/\(θ x.1:Int)<=16777216) (λ(s:Int)=>((θ x.1:Int)-s).toNat) h (λs b=>?_);unfold Ot;exact x!
def iO{x:List Int×Int}(h:θ x.1<=16777216):An (En x) λr=>True:=by
 unfold En;exact x!
def fa{x:Bb×Int}(h:DI x.1):An (MV x) λr=>r.2=0->θ r.1=256/\0<=x.2/\x.1.1[x.2.toNat]?=δ r.1:=by
 unfold MV;exact x!
def DI.set{d:Bb}{l:List BV}{i:Int}{t:BV}{u:List Int}{w:Int}{b:Bool}(h:DI d)(c:l=d.1)(n:θ t=256)(e:θ u<=([]:List Int).length):DI (E2 l i t,w,u,b,[]):=by subst c;have⟨a,f,g,k⟩:=h;refine⟨by simpa[E2]using a,λj s m=>?_,av.1 (by simpa using e),rfl⟩;grind[E2]
def fb{x:Bb×Int×BV×Int}(h:DI x.1):An (QZ x) λr=>r.2=0->DI r.1/\∃o,0<=x.2.1/\x.1.1[x.2.1.toNat]?=δ o/\r.1.1=E2 x.1.1 x.2.1 (x.2.2.1.take x.2.2.2.toNat++o.drop x.2.2.2.toNat):=by
 have⟨C,s,n,t⟩:=h;refine AA (M9 (by dsimp only;rw[n];simp)) λF i=>AK (λg=>AB (λa=>N! a g)) (λg=>AC (λ_=>AB n!) (λc0=>AC (λ_=>AB n!) (λB=>AK (λ_=>AB n!) (λv=>?_))));have⟨b,c,E⟩:=i g;simp only[len]at v;refine AA (Ac w!) λw j=>AA (Ac (by rw[n];simp)) λz k=>AA (Ac (by rw[t];simp)) λA_ m=>?_;have j:w=x.1.1:=q!
 have k:z=[]:=q!
 have m:A_=[]:=q!
 subst j k m;refine AA (C3 (AX _)) λG e=>AA (AI b c) λH _=>AA (AI b c) λq p=>?_;have D_:=s _ _ p.1;refine AA (C3 o! i! (by simp[len])) λI f=>AA (Co (by simp only[len]at f;omega)) λJ u=>AA (AI b c) λ_ _=>AA (AI b c) λ_ _=>AA (RR k!) λy d=>AB λ_=>⟨h.set rfl (by simp only[len]at f;omega) d,q,b,p.1,?_⟩
 dsimp only;rw[u.1,e.1,f.1,BK (l:=q.drop _) (by simp[len])];simp
def whole{l:List BV}{i:Nat}{s o a b r:BV}(h:len s=256)(f:∀(i:Nat)(s:BV),l[i]?=δ s->θ s=256)(hr:r=a++b)(c:a=List.take (ο 256-ο 0) (List.drop (ο 0) s))(d:b=List.take ((len o).toNat-ο 256) (List.drop (ο 256) o))(g:l[i]?=δ o):r=s:=by have j:=f _ _ g;have e:List.drop (ο 256) o=[]:=kG (by simp only[Int.reduceToNat];omega);simp only[len]at h;rw[hr,c,d,e,List.take_nil,Dl];exact BK w!
def cZ{x:Bb×Int×BV}(h:DI x.1):An (Pn x) λr=>r.2=0->DI r.1/\0<=x.2.1/\r.1.1=E2 x.1.1 x.2.1 x.2.2:=by
 have⟨B,o,i,j⟩:=h;refine AA (M9 (by dsimp only;rw[i];simp)) λC g=>?_;refine AK (λb=>AB (λc=>absurd c b)) (λb=>?_);refine AK (λb=>AB (λc=>absurd c (by decide))) (λd=>?_);refine AQ (λb=>AB (λc=>absurd c (by decide))) (λq=>?_);refine AA (Ac (by simp;omega)) λy t=>?_;refine AA (Ac (by rw[i];simp)) λz u=>?_;refine AA (Ac (by rw[j];simp)) λA_ v=>?_;have l:y=x.1.1:=by grind
 have m:z=[]:=by grind
 have n:A_=[]:=by grind
 subst l m n;have l1: ∀s,s.1=0->Aa (M5 x) s=some s.2:=λs e=>by rw[ES];unfold M5;rw[j,e];rfl
 rw[l1 _ rfl];apply A6;have l2: ∀a s,a.1=[]->s.2.1=0->Aa (M6 x a) s=some (s.1,(s.2.2.2.2.2.2.1,(s.2.2.2.2.2.1,s.2.2.2.2.2.2.2))):=λa s f e=>by rw[ES];unfold M6;rw[f,e];rfl
 have w: ∀a s,a.1=[]->s.1=0->Aa (M7 a) s=some (s.2.2.2.2.2.1,(s.2.2.2.2.1,s.2.2.2.2.2.2)):=λa s f e=>by rw[ES];unfold M7;rw[f,e];rfl
 rw[l2 _ _ rfl rfl];repeat' with_reducible first|apply AC<;>intro b|apply AO<;>intro b|apply AQ<;>intro b|apply AK<;>intro b|apply AJ<;>intro b|(apply A6;try dsimp only)|apply BZ|apply Br|apply AB|(rw[w _ _ rfl rfl];apply A6;dsimp only)|(refine AL ?_ (RR ?_);intro r hr)|(refine AL ?_ (AI ?_ ?_);rintro r ⟨hr,q⟩)|(refine AL ?_ (Ac ?_);rintro r ⟨hr,k,p⟩)|(refine AL ?_ (Co ?_);rintro r ⟨hr,k⟩)|(refine AL ?_ (C3 ?_ ?_ ?_);rintro r ⟨hr,k⟩)
 all_goals first|omega|(simp;done)|(intro c;exact absurd c (by decide))|(exact λ_=>⟨h.set rfl (by grind) hr,(g (by assumption)).1,congrArg (E2 _ _) (whole d o (by assumption) (by assumption) (by assumption) (by assumption))⟩)|(cases b;done)|grind
def DC(p:Bj):Nat:=p.2.1.countP λf=>f.2.1
def UC(p:Bj):Nat:=p.2.1.countP λf=>f.2.2.2
def zO{a:Type}{l:List a}{i:Nat}{o n:a}{q:a->Bool}(h:l[i]?=δ o):(l.set i n).countP q+(if q o=ζ then 1 else 0)=l.countP q+(if q n=ζ then 1 else 0):=q!
theorem LW{x:Bj×Int×BA}(h:θ x.1.2.1<=16777216)(a:0<=x.2.1/\x.2.1<θ x.1.2.1):An (H7 x) λr=>r=(x.1.1,x.1.2.1.set x.2.1.toNat x.2.2,x.1.2.2):=by refine AA (Ac (by simpa using h)) λr hr=>?_;have⟨hr,b,_⟩:=hr;subst hr;refine AA (AI a.1 a.2) λ_ _=>AA (AI a.1 a.2) λ_ _=>AB rfl
def core(f:BA):AT×Bool×Int:=(f.1,f.2.1,f.2.2.1)
def CF(l:List BA):List (AT×Bool×Int):=l.map core
def AGY{l:List BA}{i:Nat}{f g:BA}(h:l[i]?=δ f)(a:core g=core f):CF (l.set i g)=CF l:=by unfold CF;apply Is;grind
theorem rH{l m:List BA}(h:CF m=CF l){i:Nat}{f:BA}(a:m[i]?=δ f):∃g,l[i]?=δ g/\core g=core f:=by
 have:(CF m)[i]?=δ (core f):=by unfold CF;rw[List.getElem?_map,a];rfl
 rw[h]at this;unfold CF at this;grind
def AGX{l m:List BA}(h:CF m=CF l):θ m=θ l:=by have:=E! θ h;simpa[CF]using this
def AAS{p:Bj}:DC p=(CF p.2.1).countP λc=>c.2.1:=by unfold DC CF;rw[List.countP_map];rfl
theorem KJ.congr{l m:List BA}{n:Int}(h:CF m=CF l)(d:KJ l n):KJ m n:=by refine⟨λi f r b=>?_,λi j f g c s b q=>?_⟩;have⟨g,a,o⟩:=rH h b;have:=d.1 i g r a;grind[core,oH];have⟨e,a,o⟩:=rH h b;have⟨k,p,t⟩:=rH h q;have:=d.2 i j e k c s a p;grind[core]
def PE.uniq{p:Bj}(h:PE p){i j:Nat}{f g:BA}(a:p.2.1[i]?=δ f)(b:p.2.1[j]?=δ g)(e:f.1.1=g.1.1):f=g:=by have c:=h.2.2.2.2.2.2;grind
def XB{c:List (AT×Bool×Int)}{z:Int}{s:Bj}(h:c=CF s.2.1/\z=s.1/\0<=s.2.2/\s.2.2<s.2.1.length/\s.2.1.length<=64):An (Aa RU s) λr=>c=CF r.2.1/\z=r.1/\0<=r.2.2/\r.2.2<r.2.1.length/\r.2.1.length<=64:=by
 refine AU (λs=>c=CF s.2.1/\z=s.1/\0<=s.2.2/\s.2.2<s.2.1.length/\s.2.1.length<=64) UC h (λs n=>?_);have⟨k,l,i,j,m⟩:=n;refine AA (AI i j) λf q=>AJ (λo=>?_) (λo=>AB ⟨k,l,i,j,m⟩);refine AA (AI i j) λd t=>?_;have e:d=f:=q!
 subst e;refine AA (LW d! ⟨i,j⟩) λp u=>?_;subst u;refine AQ (λv=>?_) (λv=>AB ?_);grind;rw[(AW (x:=s.2.2+1))];refine⟨⟨?_,l,(Int.tmod_nonneg (len (s.2.1.set s.2.2.toNat (d.1,d.2.1,d.2.2.1,false))) (a:=s.2.2+1) o!),(Int.tmod_lt_of_pos (s.2.2+1) (b:=len (s.2.1.set s.2.2.toNat (d.1,d.2.1,d.2.2.1,false))) w!),by rw[dh];exact m⟩,?_⟩;rw[k];exact(AGY (g:=(d.1,d.2.1,d.2.2.1,false)) q.1 rfl).symm;unfold UC;grind
def aO{x:Bj}:An (Oz x) λr=>(r.2.2=0->PE x/\PE r.1/\CF r.1.2.1=CF x.2.1/\mc r.1 r.2.1)/\(PE x->θ x.2.1≠0->r.2.2=0):=by refine AA EB λv k=>AO (λc=>AB ⟨n!,λh _=>?_⟩) (λc=>?_);grind;have b:=k.1 c;have j:=b;have⟨n,o,q,l,s,t⟩:=b;refine AQ (λa=>AB ⟨n!,λ_ h=>N! a (by simpa[len]using h)⟩) (λa=>?_);simp only[len]at a;refine AA (XB ⟨rfl,rfl,l,o!⟩) λp b=>?_;have⟨d,u,e,g,w⟩:=b;refine AA (AI e g) λf i=>?_;have m:=AGX d;refine AB ⟨λ_=>⟨j,⟨d!,d!,d!,e,.inr g,?_⟩,d.symm,_,f,i.1,rfl⟩,λ_ _=>rfl⟩;grind[KJ.congr]
def fh{x:Bj×Int}:An (Ma x) λr=>PE x.1->∀(i:Nat)(f:BA),x.1.2.1[i]?=δ f->f.1.1=x.2->f.2.1=η->(∀g∈r.1.2.1,g∈x.1.2.1)/\∀g∈x.1.2.1,g.2.1=ζ->g∈r.1.2.1:=by
 unfold Ma;refine AA EB λv A_=>AO (λn=>AB λo=>N! (A_.2 o) (by simp[n])) (λn=>?_);have o:=A_.1 n;have S:=o.2.1;have T:=o.2.2.1;refine AA (GS o!) λi G=>?_;have⟨Q,I,J,K⟩:=G;refine AC (λn=>AB λ_ j f p e _=>N! ⟨j,f,p,e⟩ (K n)) (λhi0=>?_);have⟨k,H,t⟩:=J o!;refine AA (AI o! I) λw O=>?_;have B:w=k:=by grind[Option.some.inj]
 subst B;refine AJ (λu=>AB λ_ j f p e l=>?_) (λu=>?_);have:=o.uniq p H (by rw[e,t]);subst this;rw[u]at l;cases l;have N:=AW (x:=i+1);refine AA (CA) λa C=>AA (CA o! (by simp[len];omega) i!) λb D_=>?_;have R:=C.2;have L:=D_.2;simp[len]at L;refine AA (Ac (by rw[CU];omega)) λc s=>?_;have M:=s.2.1;rw[CU]at M;refine AA (Ac o!) λd E=>?_;have q:∀(j:Nat)(f:BA),x.1.2.1[j]?=δ f->f.1.1=x.2->f.2.1=η->(∀g∈d,g∈x.1.2.1)/\∀g∈x.1.2.1,g.2.1=ζ->g∈d:=by intro j f p e l;refine⟨λg y=>?_,λg y F=>?_⟩;grind[List.mem_of_mem_take,List.mem_of_mem_drop];have⟨m,z⟩:=Ci y;rw[(by grind[List.take_of_length_le,List.length_drop]:d=x.1.2.1.take i.toNat++x.1.2.1.drop (i.toNat+1)),Ao];rcases Ob m i.toNat with h|h|h;exact .inl (BM (i:=m) (by rw[JY h];exact z));grind[Option.some.inj];exact .inr (BM (i:=m-(i.toNat+1)) (by rw[Iu];rw[show i.toNat+1+(m-(i.toNat+1))=m by omega];exact z))
 refine AA (P:=λ_=>True) (AC (λ_=>AB trivial) (λ_=>AB trivial)) λU _=>AA (P:=λ_=>True) (AC (λ_=>AB trivial) (λ_=>AB trivial)) λV _=>AB λ_=>q
theorem cr{x:Bj×Int×Int}:An (Po x) λr=>r.2=0->PE x.1/\DC r.1<=DC x.1/\(∀(i:Nat) (f:BA),x.1.2.1[i]? =some f->f.1.1=x.2.1->f.2.1=true->f.1.2.1=x.2.2->DC r.1<DC x.1)/\(∀g∈r.1.2.1,∃f∈x.1.2.1,f.1.1=g.1.1/\f.1=g.1)/\ ∀f∈x.1.2.1,f.1.1≠x.2.1->f∈r.1.2.1:=by
 refine AA EB λv C=>?_;refine AO (λb=>AB (λo=>absurd o (by decide))) (λb=>?_);have l:=C.1 b;have J:=l.2.2.1;have I:=l.2.1;refine AA (GS (by dsimp only;omega)) λi B=>?_;have⟨G,D_,E,H⟩:=B;refine AC (λb=>AB (λo=>absurd o (by decide))) (λb=>?_);have⟨f,c,d⟩:=E (by omega);refine AA (AI (by omega) D_) λg z=>?_;have e:g=f:=by grind
 subst e;refine AC (λb=>AB (λo=>absurd o (by decide))) (λA_=>?_);refine AO (λs=>AB (λ_=>⟨l,Ai _,λj k m a h _=>?_,λg z=>⟨g,z,rfl,rfl⟩,λf c _=>c⟩)) (λs=>?_)
 ·have:=l.uniq m c (by rw[a,d]);subst this;rw[s]at h;cases h
 refine AA (P:=λn:BA=>(g.1.2.1=x.2.2->n.2.1=false)/\n.1=g.1) ?_ λn hn=>?_
 ·repeat' with_reducible first|refine AC ?_ ?_<;>intro b|refine AO ?_ ?_<;>intro b|refine AQ ?_ ?_<;>intro b|refine AJ ?_ ?_<;>intro b|(refine A6 ?_;try dsimp only)|refine BZ ?_|refine Br ?_|refine AB ?_|(refine AL ?_ (AI ?_ ?_);rintro r ⟨hr,F⟩)
  all_goals grind
 ·refine AA (LW (by dsimp only;omega) ⟨by dsimp only;omega,by dsimp only;omega⟩) λp y=>?_;subst y;refine AB λ_=>?_;have u:=zO (q:=λf:BA=>f.2.1) (n:=n) c;rw[s]at u;refine⟨l,?_,λj k m a h t=>?_,ABD c hn.2,λk m w=>wq c k m (by rw[d];exact w)⟩
  ·unfold DC;dsimp only;simp at u;split at u<;>omega
  ·have:=l.uniq m c (by rw[a,d]);subst this;rw[hn.1 t]at u;unfold DC;dsimp only;simp at u;omega
def R6{x:AT}:An (C4 x) λr=>r.2=0->HB x/\r.1=Hk x:=by have⟨v,b,h⟩:=N1 (x:=x);by_cases a:v=0;exact⟨_,Vt (h a),λ_=>⟨h a,rfl⟩⟩;unfold C4;rw[b,AD];exact AK (λ_=>AB λe=>N! e a) (λe=>N! e a)
theorem qp:IU ()=δ (iZ 256):=by unfold IU;rw[w7 g!];rfl
def W7{x:BV}{s:Int×AT×AT}(h:0<=s.1/\s.1<=16/\θ x=256):An (Aa (Gb x) s) λr=>∀u,r=.inl u->u.1=4:=by
 refine AU (λ(s:Int×AT×AT)=>0<=s.1/\s.1<=16/\θ x=256) (λ(s:Int×AT×AT)=>(16-s.1).toNat) h (λs e=>?_);unfold Gb;obtain⟨g,i,j⟩:=e;have b:=AW (x:=s.1*13);have c:=AW (x:=12+s.1*13);have d:=AW (x:=12+s.1*13+1);rw[b,c,d];repeat' with_reducible first|intro a|apply AC|apply AQ|apply AJ|apply AB|(refine AL ?_ (CQ ?_ ?_);intro r hr)|(refine AL ?_ (C3 ?_ ?_ ?_);rintro r ⟨hr,f⟩)|(refine AL ?_ (UH ?_ ?_);rintro r ⟨hr,f⟩)
 all_goals try dsimp only[len]at*
 all_goals first|omega|grind[AW]
def aE{x:BV}(h:θ x<=1099511627776):An (EL x) λr=>(r.2=0->HB r.1/\x=Hk r.1/\x≠iZ 256)/\(r.2=7->x=iZ 256):=by
 unfold EL;rw[qp,AD];repeat' with_reducible first|intro b|apply AQ|apply AK|apply AJ|(apply BG;try dsimp only)|(apply Av;try dsimp only)|(apply A9<;>(intro u c;try subst c))|apply AB|(refine AL ?_ (DM ?_);intro r hr)|(refine AL ?_ (U7 ?_);intro r hr)|(refine AL ?_ (W7 ?_);intro r hr)|(apply AA (R6);intro r hr)|(refine AL ?_ (C3 ?_ ?_ ?_);rintro r ⟨hr,d⟩)
 all_goals try dsimp only[len]at*
 all_goals first|trivial|omega|(exact⟨n!,n!⟩)|grind
def iM{x:Int}:An (Fa x) λr=>r=(x,0,GF.all (η,[])):=by
 unfold Fa;exact x!
def Rd(s:BV)(p:Int)(q:AT):Prop:=q.1=p/\((s=iZ 256/\q=(p,0,GF.all (η,[])))\/(HB q/\s=Hk q/\s≠iZ 256))
def X1{x:BV×Int}(h:θ x.1<=1099511627776):An (Cp x) λr=>r.2=0->Rd x.1 x.2 r.1:=by refine AC (λ_=>AB n!) (λ_=>AC (λ_=>AB n!) (λ_=>AA (aE h) λv c=>AQ (λd=>?_) (λ_=>AQ (λf=>AK (λ_=>AB n!) (λb=>AB λa=>⟨b,.inr (c.1 a)⟩)) (λhn=>AB λa=>N! a hn))));exact AA iM λw e=>AB λ_=>by rw[e];exact⟨rfl,.inl ⟨c.2 d,rfl⟩⟩
def cw{x:Be×Int×Int×BV}(h:θ x.2.2.2<=1099511627776):An (LY x) λr=>r.2=0->Rd x.2.2.2 x.2.1 r.1:=by
 unfold LY;repeat' with_reducible first|intro a|apply AC|apply AO|apply AK|apply AJ|apply AB|(apply AA (Ft);intro r hr)|(refine AL ?_ (X1 ?_);intro r hr)|(refine AL ?_ (AI ?_ ?_);rintro r ⟨hr,c⟩)
 all_goals try dsimp only[len]at*
 all_goals first|assumption|omega|(intro b;exact N! b v!)|(intro b;exact N! b g!)|(intro _;exact hr v!)|grind
def TX{x:AT×Dh}:An (IW x) λr=>(r.2=0->OY x.2/\Fm x.1.2.2 x.2.2.1=δ x.2.2.2.1)/\(OY x.2->x.2.1=x.1.1->Fm x.1.2.2 x.2.2.1=δ x.2.2.2.1->r=((x.1.1,x.1.2.1,WN x.1.2.2 x.2.2.1 x.2.2.2.2),0)):=by unfold IW;refine AA TY λv g=>AO (λe=>AB ⟨n!,λh=>N! (g.2 h) (by simp[e])⟩) (λe=>?_);have b:=g.1 e;refine AK (λe=>AB ⟨n!,λ_ h=>N! h e⟩) (λj=>?_);obtain⟨c,i,_⟩:=CQ (a:=x.1.2.2) b.2.2.1 b.2.2.2.1;rw[i];refine A6 (A6 (AJ (λd=>AB ⟨n!,λ_ _ h=>?_⟩) (λd=>A6 (A6 (AB ⟨λ_=>⟨b,?_⟩,λ_ _ _=>rfl⟩)))));rw[BH h]at d;simp at d;obtain⟨k,l⟩:=c;simp at d;rw[d.1,d.2]
def AAR{x:AT}{e:AE}(h:HB x)(d:L3 e)(f:e.2.1=1\/e.2.1=2)(b:e.2.2.2.2.2.2.1.1=x.1)(g:e.2.2.2.2.1=x.2.1)(c:Fm x.2.2 e.2.2.2.2.2.2.1.2.1=δ e.2.2.2.2.2.2.1.2.2.1):Ie (x,e)=δ (upd x e,0):=by
 suffices i:An (Ie (x,e)) λr=>r=(upd x e,0) by obtain⟨r,hr,rfl⟩:=i;exact hr
 have a:OY e.2.2.2.2.2.2.1:=by grind[L3,Ur]
 refine AA CG λv j=>AO (λa=>N! (j.2 d) (by simp[a])) (λ_=>AA Bs λw k=>AO (λa=>N! (k.2 f) (by simp[a])) (λ_=>?_));rw[rI h];refine A6 (AK (λa=>N! rfl a) (λ_=>AK (λa=>N! b a) (λ_=>AK (λa=>N! g a) (λ_=>AA TX λr hr=>?_))));rw[hr.2 a b c];exact AK (λa=>N! rfl a) (λ_=>AB rfl)
def co{x:AE×List AE}(h:θ x.2<=16777215):An (LQ x) λr=>r=x.1::x.2:=by
 unfold LQ;exact x!
def He(L:List AE):Prop:=∀(i:Nat)(e:AE),L[i]?=δ e->e.1=1+i/\L3 e
def Dd.num{l:AZ}(h:Dd l)(a:l.1=1):He l.2.1:=λi e b=>by have:=h.2.2.2.2.2 i e b;rw[a]at this;exact this
def He.take{L:List AE}(h:He L)(k:Nat):He (L.take k):=λi e a=>h i e q!
def dX{L:List AE}{k:Nat}(h:k<θ L):L.take (k+1)=L.take k++[L[k]]:=by rw[CI,As h];rfl
def He.at{L:List AE}(h:He L){k:Nat}(a:k<θ L):L[k].1=1+k/\L3 L[k]:=h k _ (As a)
def XJ{L:List AE}(h:He L)(p:Int):BQ L p<=θ L:=by
 have:=nS (p:=p) (b:=θ L+1) L 0 o! λe c=>by have⟨i,a⟩:=Ci c;have:=(h i e a).1;have:=Cd a;omega
 unfold BQ;omega
def RE{L:List AE}(h:He L)(p:Int)(j:Nat):∀k:Nat,j<=k->BQ (L.take j) p<=BQ (L.take k) p
 |0,hj=>by rw[show j=0 by omega];exact AX _
 |k+1,hj=>by by_cases e:j=k+1;rw[e];exact AX _;have c:=RE h p j k o!;by_cases a:k<θ L;rw[dX a,PB];have b:=XJ (h.take k) p;have d:=(h.at a).1;rw[BJ]at b;split<;>omega;rw[BK (l:=L) (i:=k+1) o!];rwa [BK (l:=L) (i:=k) o!]at c
def qx{L:List AE}(h:He L){p:Int}{i:Nat}{e:AE}(a:L[i]?=δ e)(c:Yp p e=ζ){k:Nat}(d:i<k):e.1<=BQ (L.take k) p:=by have b:=Cd a;have:=RE h p (i+1) k d;rw[dX b,PB,(BH ((As b).symm.trans a):L[i]=e),C! c]at this;exact this
def vL{L:List AE}(h:He L){p:Int}{j k:Nat}(g:BQ (L.take j) p=BQ (L.take k) p):((L.take k).drop j).filter (Yp p)=[]:=by refine List.filter_eq_nil_iff.2 λe f d=>?_;obtain⟨i,a⟩:=Ci f;rw[Iu]at a;have b:=Cd a;rw[BJ]at b;rw[JY o!]at a;have:=qx h a d (k:=k) o!;have c:=XJ (h.take j) p;have:=(h _ _ a).1;rw[BJ]at c;omega
def tn(L:List AE){j k:Nat}(h:j<=k):L.take k=L.take j++(L.take k).drop j:=by
 conv=>lhs;rw[<-De j (L.take k)]
 rw[Ks,QR h]
def gV{L:List AE}{p:Int}{j k:Nat}(h:j<=k):st (L.take k) p=(((L.take k).drop j).filter (Yp p)).foldl upd (st (L.take j) p):=by
 conv=>lhs;rw[tn L h]
 exact ABF _ _ _
theorem kh{L:List AE}(h:He L){p:Int}{j k:Nat}(b:BQ (L.take j) p=BQ (L.take k) p):st (L.take j) p=st (L.take k) p:=by rcases Nat.le_total j k with a|a;rw[gV a,vL h b];rfl;rw[gV a,vL h b.symm];rfl
def nq{L:List AE}(h:He L){p:Int}:∀{k:Nat},0<BQ (L.take k) p->∃(i:Nat)(e:AE),i<k/\L[i]?=δ e/\Yp p e=ζ/\(i:Int)+1=BQ (L.take k) p
 |0,hk=>N! hk (by simp[BQ])
 |k+1,hk=>by by_cases b:k<θ L;rw[dX b,PB]at hk⊢;by_cases a:Yp p L[k]=ζ;rw[C! a];exact⟨k,L[k],o!,As b,a,by have:=(h.at b).1;omega⟩;rw[D! a]at hk⊢;obtain⟨i,e,d,r⟩:=nq h hk;exact⟨i,e,o!,r⟩;rw[BK (l:=L) (i:=k+1) o!]at hk⊢;rw[<-BK (l:=L) (i:=k) o!]at hk;obtain⟨i,e,d,f,g,c⟩:=nq h hk;rw[BK (l:=L) (i:=k) o!]at c;exact⟨i,e,o!,f,g,c⟩
def Sj{L:List AE}(h:He L)(p:Int)(k:Nat):0<=BQ (L.take k) p:=RE h p 0 k (Bo _)
def Vi{L:List AE}(h:He L){p:Int}{k:Nat}:BQ (L.take (BQ (L.take k) p).toNat) p=BQ (L.take k) p:=by
 have f:=Sj h p k;by_cases d:BQ (L.take k) p=0;rw[d];rfl;obtain⟨i,e,g,a,c,hn⟩:=nq h (by omega:0<BQ (L.take k) p);have b:(BQ (L.take k) p).toNat=i+1:=o!
 have:=qx h a c (k:=i+1) o!;have:=XJ (h.take (i+1)) p;have:=(h i e a).1;rw[b];rw[BJ]at*;omega
theorem WG{L:List AE}(h:He L){p:Int}(b:0<=p/\p<64)(d:θ L<=1099511627776):∀k:Nat,HB (st (L.take k) p)
 |0=>⟨b.1,b.2,AX 0,(by decide:(0:Int)<=1099511627776),λi=>⟨⟨Bo 12,.inr rfl⟩,λ_=>rfl⟩⟩
 |k+1=>by
  have a:=WG h b d k;by_cases c:k<θ L;rw[dX c,AAP];split;rename_i m;have⟨g,j⟩:=h.at c;have e:OY L[k].2.2.2.2.2.2.1:=by grind[L3,Ur,Yp]
  refine⟨a.1,a.2.1,by show 0<=L[k].1;omega,by show L[k].1<=_;omega,λi=>⟨?_,λf=>?_⟩⟩;show IQ (WN _ _ _ i);unfold WN;split;exact e.2.2.2.2.2;exact(a.2.2.2.2 i).1;have:L[k].1=0:=f;omega;exact a;rw[BK (l:=L) (i:=k+1) o!];rwa [BK (l:=L) (i:=k) o!]at a
def OKs:AT->List AE->Prop
 |_,[]=>True
 |x,e::r=>(HB x/\L3 e/\(e.2.1=1\/e.2.1=2)/\e.2.2.2.2.2.2.1.1=x.1/\e.2.2.2.2.1=x.2.1/\Fm x.2.2 e.2.2.2.2.2.2.1.2.1=δ e.2.2.2.2.2.2.1.2.2.1)/\OKs (upd x e) r
def OKs.snoc:∀{x:AT}{l:List AE}{e:AE},OKs x l->OKs (l.foldl upd x) [e]->OKs x (l++[e])
 |_,[],_,_,h=>h
 |_,_::_,_,h,g=>⟨h.1,OKs.snoc h.2 g⟩
def tP{n:Int}{L:List AE}(h:He L)(g:LI n L){p:Int}(o:0<=p/\p<64)(m:θ L<=1099511627776)(j:Nat):∀k:Nat,j<=k->OKs (st (L.take j) p) (((L.take k).drop j).filter (Yp p))
 |0,hj=>by rw[show j=0 by omega];exact trivial
 |k+1,hj=>by
  by_cases e:j=k+1;rw[e,Qx (by rw[BJ];omega)];exact trivial;have c:=tP h g o m j k o!;by_cases b:k<θ L;rw[dX b,oS (by rw[BJ];omega),Gr,PZ,kH];split;rename_i q;refine c.snoc ⟨?_,O!⟩;rw[<-gV o!];have r:=g k _ (As b);have a:(L[k].2.1=1\/L[k].2.1=2)/\L[k].2.2.2.2.2.2.1.1=p:=by simpa[Yp]using q
  have⟨d,f,_⟩:=r.1 a.1;rw[a.2]at d f;exact⟨WG h o m k,(h.at b).2,a.1,by rw[a.2,Sb],by rw[d,J5],f⟩;rw[Dl];exact c;rw[BK (l:=L) (i:=k+1) o!];rwa [BK (l:=L) (i:=k) o!]at c
def kS{L:List AE}(h:He L){p:Int}{m j k:Nat}(l:m<=j)(n:BQ (L.take m) p=BQ (L.take j) p):((L.take k).drop m).filter (Yp p)=((L.take k).drop j).filter (Yp p):=by rw[<-De (j-m) ((L.take k).drop m),Gr,MM,show m+(j-m)=j by omega];refine(E! (· ++_) (List.filter_eq_nil_iff.2 λe g f=>?_)).trans (CY _);obtain⟨i,a⟩:=Ci g;have c:=Cd a;rw[BJ]at c;rw[JY o!,Iu]at a;have b:=Cd a;rw[BJ]at b;rw[JY o!]at a;have:=qx h a f (k:=j) o!;have d:=XJ (h.take m) p;have:=(h _ _ a).1;rw[BJ]at d;omega
def AHQ{n:Int}{l:AZ}(t:Dd l)(C:l.1=1)(I:LI n l.2.1){p:Int}(T:0<=p/\p<64){j k:Nat}(A_:BQ (l.2.1.take j) p<=BQ (l.2.1.take k) p):An (Qa (l,p,BQ (l.2.1.take k) p,BQ (l.2.1.take j) p)) λr=>r=(((l.2.1.take k).drop j).filter (Yp p),0):=by
 have b:=t.num C;have O:=Sj b p k;have Q:=Sj b p j;have R:=t.2.2.1;refine AA BP λv B=>AO (λa=>N! (B.2 t) (by simp[a])) (λ_=>AC (λa=>N! a d!) (λ_=>AC (λa=>N! a d!) (λ_=>AC (λa=>N! a d!) (λ_=>AC (λa=>N! a d!) (λ_=>AA (P:=λr=>r=.inr (((l.2.1.take k).drop j).filter (Yp p),BQ (l.2.1.take j) p)) ?_ λr hr=>?_)))))
 ·refine Cb (λ(s:List AE×Int)=>∃m:Nat,m<=k/\s=(((l.2.1.take k).drop m).filter (Yp p),BQ (l.2.1.take m) p)/\BQ (l.2.1.take j) p<=s.2) (λs=>s.2.toNat) ⟨k,Ai _,by rw[Qx (by rw[BJ];omega)];rfl,A_⟩ ?_;rintro s ⟨m,S,rfl,x⟩;unfold Ta;dsimp only at x⊢;refine AC (λa=>?_) (λa=>An.done ?_)
  ·obtain⟨i,e,K,q,o,J⟩:=nq b (by omega:0<BQ (l.2.1.take m) p);have z:=Cd q;have c:(e.2.1=1\/e.2.1=2)/\e.2.2.2.2.2.2.1.1=p:=by simpa[Yp]using o
   refine AA Gw λg D_=>?_;have F:=D_.2 t d! d!;have⟨_,_,u,_⟩:=D_.1 F;dsimp only at u;rw[C,show(BQ (l.2.1.take m) p-1).toNat=i by omega,q]at u;rw[F,<-BH u];refine AK (λa=>N! rfl a) (λ_=>AA Bs λw N=>AO (λa=>N! (N.2 c.1) (by simp[a])) (λ_=>AK (λa=>N! c.2 a) (λ_=>?_)));have y:=FT (Yp p) ((l.2.1.take k).drop m);rw[EY,BJ]at y;have d:=((I i e q).1 c.1).1;rw[c.2]at d;have E:=Vi b (p:=p) (k:=m);rw[show(BQ (l.2.1.take m) p).toNat=i+1 by omega]at E;have L:=Vi b (p:=p) (k:=j);have M:=RE b p (BQ (l.2.1.take j) p).toNat i o!;refine AA (co d!) λf H=>An.next ⟨i,o!,?_,d!⟩ (by dsimp only;rw[d];have:=XJ (b.take i) p;rw[BJ]at this;omega)
   rw[d,H,<-kS b (m:=i+1) (j:=m) o! E,Qv (l:=l.2.1.take k) (i:=i) (by rw[BJ];omega),PZ];have G:(l.2.1.take k)[i]'(by rw[BJ];omega)=e:=by rw[List.getElem_take];exact BH ((As z).symm.trans q)
   rw[G,C! o]
  have e:BQ (l.2.1.take m) p=BQ (l.2.1.take j) p:=o!
  rw[e];rcases Nat.le_total m j with h|h;rw[kS b h e];rw[kS b h e.symm]
 subst hr;exact Av (AC (λa=>N! a d!) (λ_=>AB rfl))
def AGg{n:Int}{l:AZ}(f:Dd l)(C:l.1=1)(F:LI n l.2.1){p:Int}(t:0<=p/\p<64){j k:Nat}:An (Qk (l,st (l.2.1.take j) p,BQ (l.2.1.take k) p)) λr=>r=(if BQ (l.2.1.take j) p<=BQ (l.2.1.take k) p then st (l.2.1.take k) p else st (l.2.1.take j) p,0):=by
 generalize G:(if BQ (l.2.1.take j) p<=BQ (l.2.1.take k) p then st (l.2.1.take k) p else st (l.2.1.take j) p)=y;have d:=f.num C;have S:=Sj d p k;have T:=f.2.2.1;have q:=WG d t o!;suffices Q:An (Ql (l,st (l.2.1.take j) p,BQ (l.2.1.take k) p)) λr=>r.1=y/\r.2.2=0 from AA Q λr hr=>AB (by rw[hr.1,hr.2]);refine AA (P:=λr=>∃b:List AE,r=(b,0)/\θ b<=4096/\OKs (st (l.2.1.take j) p) b/\b.foldl upd (st (l.2.1.take j) p)=y) ?_ λr hr=>?_;refine AA BP λv w=>AO (λa=>N! (w.2 f) (by simp[a])) (λ_=>?_);rw[rI (q j)];refine A6 (AK (λa=>N! rfl a) (λ_=>AC (λa=>N! a d!) (λ_=>AC (λa=>AB ?_) (λa=>?_))));rw[J5]at a;refine⟨[],rfl,k!,O!,?_⟩;rw[<-G];split;exact kh d (by dsimp only at a;omega);rfl;rw[J5]at a;have c:j<=k:=by rcases Nat.le_total j k with h|h;exact h;have:=RE d p k j h;dsimp only at a;omega
 have e:((st (l.2.1.take j) p).1,BQ (l.2.1.take k) p,(st (l.2.1.take j) p).2.1)=(p,BQ (l.2.1.take k) p,BQ (l.2.1.take j) p):=by rw[Sb,J5]
 dsimp only at e⊢;rw[e];refine AA (AHQ f C F t (by dsimp only at a;omega)) λr hr=>AB ⟨_,hr,?_,tP d F t o! j k c,by rw[<-G,C! (by dsimp only at a;omega)];exact(gV c).symm⟩;have o:=FT (Yp p) ((l.2.1.take k).drop j);rw[EY,BJ]at o;omega
 ·obtain⟨b,rfl,m,O,u⟩:=hr;refine AK (λa=>N! rfl a) (λ_=>AA (P:=λr=>∃z,r=.inr (y,z)) ?_ λr hr=>?_)
  ·refine Cb (λ(s:Int×AT×AT)=>∃A_ B,b=A_++B/\s.1=θ A_/\OKs s.2.1 B/\B.foldl upd s.2.1=y) (λ(s:Int×AT×AT)=>((θ b:Int)-s.1).toNat) ⟨[],b,rfl,rfl,O,u⟩ ?_;rintro⟨i,x,z⟩ ⟨A_,B,rfl,D_,E,g⟩;dsimp only at D_ E g;subst D_;unfold Td;dsimp only[len];rw[Af]at m;refine AC (λa=>?_) (λa=>An.done ?_)
   ·obtain _|⟨e,B⟩:=B;simp at a;have R:ix (A_++e::B) (θ A_:Int)=δ e:=by unfold ix;rw[C! o!,Cz,Ce (Ai _),Gi];rfl
    obtain⟨⟨H,I,J,K,L,M⟩,N⟩:=E;rw[R,AD,AAR H I J K L M,AD,AW (x:=(θ A_:Int)+1)];refine AK (λa=>N! rfl a) (λ_=>An.next ⟨A_++[e],B,k!,k!,N,g⟩ d!)
   obtain _|⟨e,B⟩:=B;exact⟨z,by rw[<-g];rfl⟩;simp at a;omega
  obtain⟨z,rfl⟩:=hr;exact Av (AB ⟨rfl,rfl⟩)
variable {B:Int->Prop}
def KS(B:Int->Prop)(k m:AP):Prop:=m.1=k.1/\LX k.2.2.1 m.2.2.1/\Dd m.2.2.1/\m.2.2.2.2.1=k.2.2.2.2.1/\m.2.2.2.2.2.1=k.2.2.2.2.2.1/\SK B m
def KS.refl{k:AP}(h:SK B k)(a:Dd k.2.2.1):KS B k k:=⟨rfl,LX.refl _,a,rfl,rfl,h⟩
def KS.trans{a b c:AP}(h:KS B a b)(g:KS B b c):KS B a c:=⟨g.1.trans h.1,h.2.1.trans g.2.1,g.2.2.1,g.2.2.2.1.trans h.2.2.2.1,g.2.2.2.2.1.trans h.2.2.2.2.1,g.2.2.2.2.2⟩
def LX.of{a b:AZ}(h:b.1=a.1)(g:b.2.1=a.2.1)(d:a.2.2<=b.2.2):LX a b:=⟨h,d,[],by rw[g,Dl]⟩
def KI.of{k m:AP}(h:KI B k)(a:m.1=k.1)(b:m.2.2.1.2.1=k.2.2.1.2.1)(c:m.2.2.2.1=k.2.2.2.1)(d:m.2.2.2.2.2.2=k.2.2.2.2.2.2):KI B m:=by unfold KI;rw[a,b,c,d];exact h
def rK{x:AZ×Int}(h:Dd x.1)(c:x.2<=x.1.1+θ x.1.2.1-1):An (D7 x) λr=>r.2=0:=by refine AA BP λv d=>AO (λa=>?_) (λ_=>?_);grind;refine AA EM λe b=>?_;rw[h.last]at b;exact AC (λa=>N! a o!) (λ_=>AB rfl)
def Jn{x:AP×Int}(h:SK B x.1)(c:Dd x.1.2.2.1):An (Fj x) λr=>KS B x.1 r/\r.2.2.2.1=x.1.2.2.2.1/\(x.2<=x.1.2.2.1.1+θ x.1.2.2.1.2.1-1->x.2<=r.2.2.1.2.2):=by unfold Fj;refine AA GR λv d=>?_;have d:=d c;refine AA (Jk.and (rK c (by dsimp only;split<;>omega))) λw a=>?_;have⟨i,e,j,k,f⟩:=a.1 a.2;refine BZ (AQ (λb=>AB ⟨⟨rfl,LX.of j e k,i,rfl,rfl,SB.sk h.sb (h.ki.of rfl e rfl rfl)⟩,rfl,λg=>?_⟩) (λb=>N! a.2 b));dsimp only at f⊢;split at f<;>omega
theorem Y3{x:AP×Int×Int}(h:SK B x.1)(p: ∃f∈x.1.2.2.2.1.2.1,f.1.1=x.2.1/\f.1.2.1=x.2.2):An (Jp x) λr=>r.2=0->VK x.1/\KS B x.1 r.1/\DC r.1.2.2.2.1<=DC x.1.2.2.2.1/\ ∀(i:Nat) (f:BA),x.1.2.2.2.1.2.1[i]? =some f->f.1.1=x.2.1->f.2.1=true->f.1.2.1=x.2.2->DC r.1.2.2.2.1<DC x.1.2.2.2.1:=by
 unfold Jp;refine AA (B3 h.sb) λv O=>?_;refine AO (λb=>AB (λc=>absurd c (by decide))) (λb=>?_);have A_:=O b;refine AC (λb=>AB (λc=>absurd c (by decide))) (λ_=>?_);refine AC (λb=>AB (λc=>absurd c (by decide))) (λ_=>?_);refine AC (λb=>AB (λc=>absurd c (by decide))) (λ_=>?_);refine AA GR λ_ _=>?_;refine AC (λb=>AB (λc=>absurd c (by decide))) (λ_=>?_);refine AA FJ λi L=>?_;refine AA (P:=λs=>(∃u,s= .inl u/\u.1≠0)\/ ∃u,s= .inr u/\(DC u.1<=DC x.1.2.2.2.1/\ ∀(i:Nat) (f:BA),x.1.2.2.2.1.2.1[i]? =some f->f.1.1=x.2.1->f.2.1=true->f.1.2.1=x.2.2->DC u.1<DC x.1.2.2.2.1)/\(∀g∈u.1.2.1,∃f∈x.1.2.2.2.1.2.1,f.1.1=g.1.1/\f.1=g.1)/\ ∀f∈x.1.2.2.2.1.2.1,f.1.1≠x.2.1->f∈u.1.2.1) ?_ λs N=>?_
 ·refine AC (λb=>?_) (λb=>AB (.inr ⟨_,rfl,⟨Ai _,λj f M q _ _=>absurd (L.2.2.2 A_.2.2.2.1 ⟨j,f,M,q⟩) b⟩,λg K=>⟨g,K,rfl,rfl⟩,λf n _=>n⟩));grind[AA,cr,AK,AB]
 ·rcases N with⟨u,rfl,t⟩|⟨u,rfl,t,m,y⟩
  ·exact BG (AB λc=>absurd c t)
  ·refine Av ?_;refine AA (Fi h.sb) λa J=>?_;refine AK (λb=>AB (λc=>absurd c b)) (λb=>AB λ_=>?_);have⟨_,⟨a1,a2,a3,a4,a5,a6,a7,a8,e,E,Q,F,o,R,S,G⟩,_⟩:=J b;have⟨f,n,H,I⟩:=p;have⟨U,w,C,D_⟩:=G rfl;have T:=h.ki.2.2 f n;have d:=congrArg (λz=>z.2.1) ((h.ki.2.1 x.2.1 (by omega) (by omega)).1 f n H);rw[J5]at d;refine⟨A_,⟨a1,a2,a3,a5,a6.2.1 rfl,a8.1,a8.2.1,a8.2.2,?_⟩,t⟩;unfold KI;dsimp only at F o C D_⊢;rw[a1,a7,E,D_];have k:=congrArg (λz=>z.1) o;have l:=congrArg (λz=>z.2.1.1) o;dsimp only at k l;refine⟨h.ki.1.app ⟨λh=>by omega,λ_=>?_,λh=>by omega,by omega⟩,(h.ki.2.1.written (by omega) (by omega) (by omega) m y C).app ⟨by omega,by omega⟩,h.ki.2.2.sub m⟩;rw[k,l,<-I];exact d
def fm{x:AP}(h:SK B x):An (Md x) λr=>r.2.2.2=0->VK x/\KS B x r.1/\(r.2.2.1=ζ->DC r.1.2.2.2.1=DC x.2.2.2.1/\∃(i:Nat)(f:BA),r.1.2.2.2.1.2.1[i]?=δ f/\f.1=r.2.1/\f.2.1=ζ/\r.2.1.2.1<=r.1.2.2.1.2.2):=by
 unfold Md;refine AA (B3 h.sb) λv M=>AO (λn=>AB n!) (λn=>?_);have c:=M n;refine AC (λn=>AB (λ_=>⟨c,KS.refl h c.2.2.1,λt=>by cases t⟩)) (λm=>AA aO λw D_=>?_);have⟨_,F,O,P⟩:=D_.1 (D_.2 c.2.2.2.1 (by have:=c.2.2.2.1.1;simp[len]at m;omega));have G:∀g∈w.1.2.1,∃f∈x.2.2.2.1.2.1,core g=core f:=λg b=>by grind[List.getElem?_of_mem,rH,List.mem_of_getElem?]
 have H:∀f∈x.2.2.2.1.2.1,∃g∈w.1.2.1,core g=core f:=λf l=>by grind[List.getElem?_of_mem,rH,List.mem_of_getElem?]
 have u:∀{f g:BA},core f=core g->f.1=g.1/\f.2.1=g.2.1:=λe=>⟨E! (λz=>z.1) e,E! (λz=>z.2.1) e⟩
 have k1:∀g∈w.1.2.1,∃f∈x.2.2.2.1.2.1,f.1.1=g.1.1/\f.1=g.1:=λg b=>by have⟨f,l,e⟩:=G g b;exact⟨f,l,by rw[(u e).1],by rw[(u e).1]⟩
 have N:∀f∈x.2.2.2.1.2.1,f.2.1=ζ->∃g∈w.1.2.1,g.1.1=f.1.1/\g.2.1=ζ:=λf l y=>by have⟨g,b,e⟩:=H f l;exact⟨g,b,by rw[(u e).1],by rw[(u e).2,y]⟩
 refine AA FJ λi A_=>?_;have E:=A_.2.2.2 F P;refine AA (AI E A_.2.1) λf l=>?_;have a:KI B (x.1,x.2.1,x.2.2.1,w.1,x.2.2.2.2):=⟨h.ki.1,h.ki.2.1.frames k1 N,h.ki.2.2.sub k1⟩
 apply AO<;>intro n;have⟨_,L,o,J⟩:=A_.2.2.1 E;have K:L=f:=by have:=l.1;rw[o]at this;exact BH this
 subst K;refine AA fh λd y=>AB λ_=>⟨c,⟨rfl,LX.refl _,c.2.2.1,rfl,rfl,h.1,h.2.1,h.2.2.1,?_⟩,λt=>by cases t⟩
 have⟨C,I⟩:=y F _ _ o J n;exact⟨h.ki.1,a.2.1.frames (λg b=>⟨g,C g b,rfl,rfl⟩) (λg b s=>⟨g,I g b s,rfl,s⟩),a.2.2.sub λg b=>⟨g,C g b,rfl,rfl⟩⟩;refine AA (Jn (SB.sk ⟨h.1,h.2.1,h.2.2.1⟩ a) c.2.2.1) λk j=>AB λ_=>⟨c,j.1,λ_=>⟨?_,i.toNat,f,?_,rfl,n,j.2.2 ?_⟩⟩
 rw[j.2.1,AAS,AAS,O];rw[j.2.1];exact l.1;have q:=BM l.1;have p:=a.2.2 f q;have:=E! (λz=>z.2.1) ((a.2.1 f.1.1 p.1 p.2.1).1 f q rfl);dsimp only at this⊢;rw[this,J5];have:=kW c.2.2.1 f.1.1;omega
def AGf(P:List AE)(p:Int)(s:BV):Prop:=s=iZ 256\/∃j:Nat,s=Hk (st (P.take j) p)
def dead(s:BV):Prop:=s≠iZ 256/\∀q,HB q->s≠Hk q
def DP(B:Int->Prop)(P:List AE)(d:Bb):Prop:=DI d/\∀(i:Nat)(s:BV),d.1[i]?=δ s->(B i->AGf P i s)/\(B i\/dead s)
def dl(l:AZ):List AE:=l.2.1.take l.2.2.toNat
def DJ(B:Int->Prop)(l:AZ)(d:Bb):Prop:=l.1=1/\DP B (dl l) d
def DP.up{P Q:List AE}{d:Bb}{m:Nat}(h:DP B P d)(e:P=Q.take m):DP B Q d:=⟨h.1,λi s a=>⟨λb=>by rcases(h.2 i s a).1 b with q|⟨j,q⟩;exact .inl q;rw[e,Ks]at q;exact .inr ⟨_,q⟩,(h.2 i s a).2⟩⟩
def DJ.up{a b:AZ}{d:Bb}(h:DJ B a d)(g:LX a b):DJ B b d:=by obtain⟨c,f,t,e⟩:=g;refine⟨c.trans h.1,h.2.up (m:=min a.2.2.toNat (θ a.2.1)) ?_⟩;unfold dl;rw[e,Ks,QR o!,dp o!,Nat.min_comm,<-Ks,BK (l:=a.2.1.take _) (by rw[BJ];omega)]
def AEJ{L:List AE}(h:He L){p d:Int}(f:BQ L p<=d):st (L.take d.toNat) p=st L p:=by
 have e:=Hi (l:=L);have a:=Vi h (p:=p) (k:=θ L);rw[e]at a;have b:=RE h p (BQ L p).toNat d.toNat o!
 have c:BQ (L.take d.toNat) p<=BQ L p:=by rcases Nat.le_total d.toNat (θ L) with q|q;have:=RE h p _ _ q;rwa [e]at this;rw[BK q];exact AX _
 have:=kh h (p:=p) (j:=d.toNat) (k:=θ L) (by rw[e];omega);rwa [e]at this
def Tf{x:AS×AP×AT}(h:SK B x.2.1)(A_:Dd x.2.1.2.2.1)(l:DJ B x.2.1.2.2.1 x.1.2)(n:∃f∈x.2.1.2.2.2.1.2.1,f.1=x.2.2)(y:x.2.2.2.1<=x.2.1.2.2.1.2.2):An (Lk x) λr=>r.2=0->KS B x.2.1 r.1.1/\DJ B r.1.1.2.2.1 r.1.2/\DC r.1.1.2.2.2.1<=DC x.2.1.2.2.2.1/\((∃(i:Nat)(f:BA),x.2.1.2.2.2.1.2.1[i]?=δ f/\f.1=x.2.2/\f.2.1=ζ)->DC r.1.1.2.2.2.1<DC x.2.1.2.2.2.1):=by
 have⟨f,m,b⟩:=n;have a:=h.ki.2.2 f m;have c:=(h.ki.2.1 f.1.1 a.1 a.2.1).1 f m rfl;refine D6 R6 λv G _=>AA (cZ l.2.1) λw L=>AK (λd=>AB (λo=>N! o d)) (λd=>AA (Y3 h ⟨f,m,by rw[b],by rw[b]⟩) λu K=>AK (λd=>AB (λo=>N! o d)) (λq=>AB λ_=>?_));have⟨D_,E,M,N⟩:=K q;have⟨O,P,F⟩:=L d;refine⟨E,DJ.up ⟨l.1,O,λi s j=>?_⟩ E.2.1,M,λ⟨i,g,H,t,I⟩=>N i g H (by rw[t]) I (by rw[t])⟩;have C:=A_.num l.1;have k:=WG C (p:=f.1.1) ⟨a.1,by have:=D_.2.1;have:=D_.1;dsimp only at*;omega⟩ (by have:=A_.2.2.1;omega) (θ x.2.1.2.2.1.2.1);rw[Hi,<-c,b]at k;rw[Vt k]at G;dsimp only at F j;rw[F]at j;by_cases J:i=x.2.2.1.toNat
 subst J;have e:s=Hk x.2.2:=by unfold E2 at j;grind
 rw[b]at a c;rw[show((x.2.2.1.toNat:Nat):Int)=x.2.2.1 by omega];refine⟨λ_=>.inr ⟨(dl x.2.1.2.2.1).length,?_⟩,.inl a.2.2.2⟩;rw[Hi,e];unfold dl;rw[AEJ C (by have:=E! (λz=>z.2.1) c;rw[J5]at this;omega),<-c];exact l.2.2 i s (by unfold E2 at j;rwa [List.getElem?_set_ne o!]at j)
def SvR(B:Int->Prop)(s r:AS):Prop:=KS B s.1 r.1/\DJ B r.1.2.2.1 r.2
def gA{x:AS}(h:SK B x.1)(l:Dd x.1.2.2.1)(k:DJ B x.1.2.2.1 x.2):An (Mh x) λr=>r.2=0->SvR B x r.1:=by unfold Mh;refine AA (P:=λr=>r.1=0->SvR B x r.2) ?_ λr hr=>AB hr;refine AU (λs=>SvR B x s.1) (λs=>DC s.1.1.2.2.2.1) ⟨KS.refl h l,k⟩ (λs c=>?_);unfold Te;refine AA (fm c.1.2.2.2.2.2) λv m=>AK (λa=>AB (λe=>N! e a)) (λa=>?_);have⟨A_,b,q⟩:=m a;refine AO (λa=>AB (λ_=>⟨c.1.trans b,c.2.up b.2.1⟩)) (λd=>?_);have⟨z,i,f,g,j,o,p⟩:=q d;refine AA (Tf b.2.2.2.2.2 b.2.2.1 (c.2.up b.2.1) ⟨f,BM g,j⟩ p) λw n=>AK (λa=>AB (λe=>N! e a)) (λa=>AB ?_);have⟨t,u,C,y⟩:=n a;exact⟨⟨(c.1.trans b).trans t,u⟩,by have:=y ⟨i,f,g,j,o⟩;dsimp only at*;omega⟩
end Go.Pm
namespace Go.Pm
open Go Go.Ab
variable {B:Int->Prop}
def XH{x:AP×AT}{s:Int×List Ae}(h:0<=s.1/\s.1<=θ x.1.2.2.2.2.2.2.2/\θ x.1.2.2.2.2.2.2.2<=16777216/\s.2=(x.1.2.2.2.2.2.2.2.take s.1.toNat).filter (λd=>d.1 !=x.2.1)):An (Aa (ME x) s) λr=>r=x.1.2.2.2.2.2.2.2.filter λd=>d.1 !=x.2.1:=by refine AU (λ(s:Int×List Ae)=>0<=s.1/\s.1<=θ x.1.2.2.2.2.2.2.2/\θ x.1.2.2.2.2.2.2.2<=16777216/\s.2=(x.1.2.2.2.2.2.2.2.take s.1.toNat).filter (λd=>d.1 !=x.2.1)) (λ(s:Int×List Ae)=>((θ x.1.2.2.2.2.2.2.2:Int)-s.1).toNat) h (λs j=>?_);have⟨b,q,g,i⟩:=j;unfold ME;refine AC (λf=>?_) (λf=>AB ?_);simp[len]at f;have m:=nN (l:=x.1.2.2.2.2.2.2.2) (p:=λd=>d.1 !=x.2.1) b;rw[<-i]at m;refine AA (AI b f) λv o=>?_;have e:=AW (x:=s.1+1);have n:=kU (p:=λd:Ae=>d.1 !=x.2.1) b o.1;refine AA (P:=λa=>a=(x.1.2.2.2.2.2.2.2.take (s.1+1).toNat).filter (λd=>d.1 !=x.2.1)) ?_ λa c=>AB ⟨⟨d!,d!,g,by dsimp only;rw[c,e]⟩,d!⟩;refine AJ (λk=>?_) (λk=>AB ?_);grind[AA,AI,Option.some.inj,Ac,AB];grind;grind[List.take_of_length_le]
def aQ{x:AP×AT}(h:SK B x.1)(L:Ba x.1=δ ζ->x.2=st x.1.2.2.1.2.1 x.2.1/\B x.2.1):An (Ka x) λr=>r.2=0->KS B x.1 r.1/\mc r.1.2.2.2.1 x.2.1:=by
 unfold Ka;refine D6 (B3 h.sb) λv O hv=>AO (λg=>AB n!) (λg=>?_);have K:=hv g;rw[g]at O;refine AC (λg=>AB n!) (λx0=>AC (λg=>AB n!) (λx1=>AA (KZ h.sb) λy1 af=>AC (λg=>AB n!) (λx2=>AA (KZ h.sb) λy2 ag=>AC (λg=>AB n!) (λx3=>?_))));have⟨R,Q⟩:=L O;refine AA EB λv3 _=>AO (λg=>AB n!) (λ_=>AA N1 λv4 _=>AK (λg=>?_) (λ_=>?_));grind[AK,AB];have p2:=K.2.2.2.1.2.1;have p3:=K.2.2.2.1.2.2.1;refine AA (GS d!) λi I=>AC (λg=>AB n!) (λA_=>?_);have A_:=I.2.2.2 o!;refine AQ (λg=>AB n!) (λ_=>AA (Ac w!) λv8 C=>?_);have⟨C,Z,_⟩:=C;rw[CY]at C;subst C;refine AA (Ac w!) λc n=>?_;have⟨n,o,_⟩:=n;have q:c[θ c-1]?=δ (x.2,η,0,ζ):=by rw[n];simp
 have hn:(θ c:Int)-1=((θ c-1:Nat):Int):=by simp at o;omega
 have e:=AW (x:=(θ c:Int)-1) (by simp at o;omega);have k:∀f∈x.1.2.2.2.1.2.1,f.1.1≠x.2.1:=λf H e=>by have⟨i,I⟩:=Ci H;exact A_ ⟨i,f,I,e⟩
 refine AA (Jo h.sb) λt w=>AA (P:=λv:List BA×AP×Int×Int×Int×Int×Int×Int=>(∃(i:Nat)(f:BA),v.1[i]?=δ f/\f.1.1=x.2.1)/\(v.2.1.1=x.1.1/\v.2.1.2.2.1=x.1.2.2.1/\v.2.1.2.2.2.2.1=x.1.2.2.2.2.1/\v.2.1.2.2.2.2.2.1=x.1.2.2.2.2.2.1/\SB v.2.1/\v.2.1.2.2.2.2.2.2.1=x.1.2.2.2.2.2.2.1)/\KP x.1.1 x.1.2.2.1.2.1 v.1 v.2.1.2.2.2.2.2.2.2 x.1.2.2.2.2.2.2.1/\FD B x.1.1 v.1 v.2.1.2.2.2.2.2.2.2) ?_ λar m=>?_
 ·refine AJ (λs=>?_) (λs=>AB ⟨⟨_,_,q,rfl⟩,⟨rfl,rfl,rfl,rfl,h.sb,rfl⟩,?_,?_⟩);rotate_left 1;rw[n];exact h.ki.2.1.supply R k rfl (.inr ⟨rfl,w.2 s,rfl⟩);rw[n];exact h.ki.2.2.supply (p:=x.2.1) o! o! Q rfl (λd y=>y) (w.2 s);rw[hn]at e;simp only[len,hn,e];have z:θ c-1<θ c:=by simp at o;omega
  refine AA (AI) λal W=>AA (AI) λj X_=>?_;have V:j.1=x.2:=by grind[Int.toNat_natCast,Option.some.inj]
  have ad:(E2 c ((θ c-1:Nat):Int) (j.1,ζ,j.2.2)).length=θ c:=by simp[E2]
  refine AA (AI) λao Y_=>AA (AI) λa F=>?_;have l:a.1=x.2:=by grind[Int.toNat_natCast,E2,List.getElem?_set_self,Option.some.inj]
  refine AA (XH ⟨k!,k!,h.2.2.1,k!⟩) λap G=>?_;have u:a.2.1=ζ:=by have:=F.1;simp[Cz,E2]at this;rw[GJ z]at this;rw[<-BH this]
  have N:E2 (E2 c ((θ c-1:Nat):Int) (j.1,ζ,j.2.2)) ((θ c-1:Nat):Int) (a.1,a.2.1,t.1.2.1,a.2.2.2)=x.1.2.2.2.1.2.1++[(a.1,a.2.1,t.1.2.1,a.2.2.2)]:=by simp[E2,Cz,Xf,(by rw[n];simp:θ c-1=θ x.1.2.2.2.1.2.1)];rw[n,Ss _ _ (Ai _)];simp
  subst G;refine AB ⟨⟨θ c-1,(a.1,a.2.1,t.1.2.1,a.2.2.2),?_,by rw[l]⟩,⟨rfl,rfl,rfl,rfl,⟨h.1,h.2.1,C9 (FT _ _) h.2.2.1⟩,rfl⟩,?_,?_⟩;simp[E2,Cz];rw[GJ (by simpa using z)];rw[N];exact h.ki.2.1.supply R k l (.inl ⟨u,rfl⟩);rw[N];exact h.ki.2.2.supply (p:=x.2.1) o! o! Q (by rw[l]) (λd y=>(BU.1 y).1) (λd y=>by simpa using(BU.1 y).2)
 have⟨i,f,H,J⟩:=m.1;have⟨M,D_,S,T,E,U⟩:=m.2.1;refine AB λ_=>⟨⟨M,by dsimp only;rw[D_];exact LX.refl _,by dsimp only;rw[D_];exact K.2.2.1,S,T,E.1,E.2.1,E.2.2,?_⟩,i,f,H,J⟩
 unfold KI;dsimp only;rw[M,D_,U];exact⟨h.ki.1,m.2.2⟩
def AHp{x:AP×Int}(h:Ba x.1=δ η):EQ x=δ 0:=by unfold EQ;rw[h];rfl
def Rd.st{P:List AE}{p:Int}{s:BV}{q:AT}(h:Rd s p q)(d:AGf P p s)(e:∀j,HB (st (P.take j) p)):∃j:Nat,q=Go.Pm.st (P.take j) p:=by obtain⟨_,⟨_,h⟩|⟨a,b,c⟩⟩:=h;exact⟨0,h⟩;rcases d with q|⟨j,q⟩;exact N! q c;exact⟨j,ADB a (e j) (b.symm.trans q)⟩
def HO{x:AS×Int}(h:SK B x.1.1)(g:DJ B x.1.1.2.2.1 x.1.2):An (Ef x) λr=>r.2=0->SvR B x.1 r.1/\mc r.1.1.2.2.2.1 x.2:=by
 unfold Ef;refine AA (B3 h.sb) λv X_=>AO (λa=>AB n!) (λa=>?_);have s:=X_ a;refine AC (λa=>AB n!) (λp0=>AC (λa=>AB n!) (λp1=>AA FJ λi W=>AC (λa=>AB λ_=>⟨⟨KS.refl h s.2.2.1,g⟩,?_⟩) (λ_=>?_)));have⟨_,f,V,C⟩:=W.2.2.1 a;exact⟨_,f,V,C⟩;refine AA (gA h s.2.2.1 g) λo Q=>AK (λa=>AB (λc=>N! c a)) (λw=>?_);have⟨t,m⟩:=Q w;have n:=t.2.2.2.2.2;have F:=t.2.2.1;have k1:=s.1;have k2:=s.2.1;have H:0<=x.2/\x.2<64:=o!
 have M:=F.num m.1;have h4:=F.2.2.1;refine AA (fa m.2.1) λv3 R=>AK (λa=>AB (λc=>N! c a)) (λy=>?_);have⟨g1,g2,O⟩:=R y;have⟨b,u,_⟩:=B3 n.sb;refine AA (P:=λr=>∃k:Nat,r=BQ (o.1.1.2.2.1.2.1.take k) x.2/\(b=ζ->k=θ o.1.1.2.2.1.2.1)) ?_ λv4 ⟨k,D_,E⟩=>?_;cases b with
 |false=>exact⟨_,AHp u,0,rfl,λU=>by cases U⟩
 |true=>exact(KZ n.sb).mono λr hr=>⟨_,by rw[Hi];exact hr u n.ki.2.1 H.1 (by have:=t.1;dsimp only at this⊢;omega),λ_=>rfl⟩
 refine AA (cw d!) λv5 e=>AK (λa=>AB (λc=>N! c a)) (λz=>?_);have e:=e z;dsimp only at e;have d:=m.2.2 _ _ O;rw[show((x.2.toNat:Nat):Int)=x.2 by omega]at d;have L:B x.2:=d.2.resolve_right λg=>by obtain⟨_,⟨q,_⟩|⟨Y_,Z,_⟩⟩:=e;exact g.1 q;exact g.2 _ Y_ Z
 have I:=WG M H o!;obtain⟨j,p⟩:=e.st (d.1 L) λj=>by unfold dl;rw[Ks];exact I _
 unfold dl at p;rw[Ks]at p;generalize min j o.1.1.2.2.1.2.2.toNat=j' at p;rw[p,D_];refine AA (AGg F m.1 n.ki.1 H) λv6 S=>?_;subst S;refine AK (λa=>N! rfl a) (λ_=>AA (aQ n λK=>?_) λv7 T=>?_);rw[u]at K;have l:=E (BH K);have G:BQ (o.1.1.2.2.1.2.1.take j') x.2<=BQ (o.1.1.2.2.1.2.1.take k) x.2:=by rcases Nat.le_total j' k with q|q;exact RE M _ _ _ q;rw[BK o!,l,Hi];exact AX _
 dsimp only;rw[C! G,l,Hi,Sb];exact⟨rfl,L⟩;refine AK (λa=>AB (λc=>N! c a)) (λA_=>AB λ_=>?_);have⟨N,J⟩:=T A_;refine⟨⟨t.trans N,m.up N.2.1⟩,?_⟩;dsimp only at J;split at J<;>rwa [Sb]at J
end Go.Pm
namespace Go.Pm
open Go Go.Ab
variable {B:Int->Prop}
def KL(B:Int->Prop)(k m:AP):Prop:=m.1=k.1/\LX k.2.2.1 m.2.2.1/\SK B m/\Dd m.2.2.1
theorem KL.refl{k:AP}(h:SK B k)(a:Dd k.2.2.1):KL B k k:=⟨rfl,LX.refl _,h,a⟩
def KL.trans{a b c:AP}(h:KL B a b)(g:KL B b c):KL B a c:=⟨g.1.trans h.1,h.2.1.trans g.2.1,g.2.2⟩
def KS.kl{a b:AP}(h:KS B a b):KL B a b:=⟨h.1,h.2.1,h.2.2.2.2.2,h.2.2.1⟩
def yv.kl{a b:AP}{z:AE}(h:yv a z b)(c:SK B a)(d:z.2.1≠1/\z.2.1≠2/\z.2.1≠6/\z.2.1≠7/\z.2.1≠8):KL B a b:=⟨h.1,h.2.1,h.sk c d,h.2.2.1⟩
def SK.locks{k:AP}{l:A4}(h:SK B k)(a:Fy l):SK B (k.1,k.2.1,k.2.2.1,k.2.2.2.1,l,k.2.2.2.2.2):=⟨a,h.2⟩
def PE.idx{p:Bj}(h:PE p){i j:Nat}{f g:BA}(a:p.2.1[i]?=δ f)(b:p.2.1[j]?=δ g)(e:g.1.1=f.1.1):j=i:=by have l1:=Cd a;have l2:=Cd b;rcases Ob i j with q|q|q;exact N! e.symm (h.2.2.2.2.2.2 i j f g q o! a b);exact q.symm;exact N! e (h.2.2.2.2.2.2 j i g f q o! b a)
def iQ{x:Bj×Int}:An (Nf x) λr=>(∀g∈r.2.1,∃f∈x.1.2.1,f.1.1=g.1.1/\f.1=g.1)/\∀f∈x.1.2.1,f.2.1=ζ->∃g∈r.2.1,g.1.1=f.1.1/\g.2.1=ζ:=by unfold Nf;refine AA FJ λv b=>AC (λ_=>AB ⟨λg k=>⟨g,k,rfl,rfl⟩,λf a h=>⟨f,a,rfl,h⟩⟩) (λm=>?_);have d:=b.2.2.1 o!;have o:=d.1.2.1;have p:=d.1.2.2.1;refine AA (AI o! b.2.1) λl c=>AA (LW d! ⟨d!,b.2.1⟩) λr hr=>AB ?_;subst hr;refine⟨ABD c.1 rfl,λf a j=>?_⟩;by_cases e:f.1.1=l.1.1;have⟨i,n⟩:=Ci a;grind[Option.some.inj,List.mem_of_getElem?,List.getElem?_set_self,Cd];exact⟨f,wq c.1 f a e,rfl,j⟩
def aN{x:Bj×AT}:An (KV x) λr=>r.2=0->PE x.1/\∃(i:Nat)(f g:BA),x.1.2.1[i]?=δ f/\f.1.1=x.2.1/\r.1.2.1=x.1.2.1.set i g/\g.1=x.2/\g.2.1=ζ:=by unfold KV;refine AA EB λv c=>AO (λ_=>AB n!) (λb=>?_);have h:=(c.1 b).2.1;have j:=(c.1 b).2.2.1;refine AA N1 λ_ _=>AK (λb=>AB λa=>N! a b) (λ_=>AA (GS d!) λi d=>AC (λ_=>AB n!) (λb=>AA (AI o! d.2.1) λk e=>AC (λ_=>AB n!) (λ_=>AA (P:=λ_=>True) (AO (λ_=>AB trivial) (λ_=>AB trivial)) λl _=>?_)));grind[AA,LW,AB,Option.some.inj]
def L3.cell{e:AE}(h:L3 e):0<=e.2.2.2.2.2.2.1.2.1/\e.2.2.2.2.2.2.1.2.1<16:=by have a:=h.2.2.2.2.2.2.2.2;grind[Ur,OY,Px]
def KI.same{k:AP}(h:KI B k){f g:BA}(a:f∈k.2.2.2.1.2.1)(b:g∈k.2.2.2.1.2.1)(e:g.1.1=f.1.1):g.1=f.1:=by have hr:=h.2.2 f a;rw[(h.2.1 f.1.1 hr.1 hr.2.1).1 g b e];exact((h.2.1 f.1.1 hr.1 hr.2.1).1 f a rfl).symm
def U8{x:AP×AE}(h:SK B x.1)(L:Dd x.1.2.2.1)(b:0<=x.2.2.2.2.2.2.2.1.2.1/\x.2.2.2.2.2.2.2.1.2.1<16)(t:x.2.2.1=1\/x.2.2.1=2)(hp:PE x.1.2.2.2.1)(ad:mc x.1.2.2.2.1 x.2.2.2.2.2.2.2.1.1)(G:∀f∈x.1.2.2.2.1.2.1,f.1.1=x.2.2.2.2.2.2.2.1.1->Fm f.1.2.2 x.2.2.2.2.2.2.2.1.2.1=δ x.2.2.2.2.2.2.2.1.2.2.1):An (KE x) λr=>KL B x.1 r.1/\(r.2=0->AAW x.1.2.2.2.2.2.1 x.2.2.1 x.2.2.2.1 r.1.2.2.2.2.2.1):=by
 unfold KE;refine AA (Fi h.sb) λv hv=>AK (λb=>AB ⟨KL.refl h L,λt=>N! t b⟩) (λN=>?_);have⟨_,l,c⟩:=hv N;refine AA Ia λE S=>AA (CQ b.1 b.2) λ_ _=>AA (CQ b.1 b.2) λ_ _=>AA aN λv4 Z=>AK (λb=>AB ⟨KL.refl h L,λt=>N! t b⟩) (λO=>AB ⟨⟨l.1,l.2.1,?_,l.2.2.1⟩,λ_=>l.2.2.2.2.2.1⟩);have F:=l.2.2.2.2.2.2.2.1;have⟨_,i,f,g,s,a,d,o,J⟩:=Z O;have⟨_,_,_,_,_,_,a7,_,e,T,P,U,C,V,W,e7⟩:=l;have A_:E.2=ζ:=by cases q:E.2<;>grind
 have u:E.1.1=x.2.2.2.2.2.2.2.1.1:=(S.1 A_).2.2.2.1;have w:e.2.2.2.2.2.2.1.1=x.2.2.2.2.2.2.2.1.1:=E! (λz=>z.2.1.1) C;have hr:=h.ki.2.2 f (BM s);dsimp only at s a d o c;refine⟨F.1,F.2.1,F.2.2,?_⟩;have y:e.2.1=1\/e.2.1=2:=by rw[U];exact t
 have p:∀n:Int,n≠1->n≠2->e.2.1≠n:=λn n1 n2 q=>by rcases y with D_|D_<;>rw[q]at D_;exact n1 D_;exact n2 D_
 unfold KI;dsimp only;rw[l.1,a7,T,W (by rcases t with q|q<;>rw[q]<;>decide),d];have K:g.1.1=f.1.1:=by rw[o,a]
 have m:=BM s;have I:=(h.ki.2.1 f.1.1 hr.1 hr.2.1).1 f m rfl;have M:E.1=f.1:=by have⟨_,_,_,_,f',H,Q⟩:=S.1 A_;rw[<-Q];exact h.ki.same m H (by rw[Q,a])
 have R:e.2.2.2.2.2.2.1.2.1=x.2.2.2.2.2.2.2.1.2.1:=E! (λz=>z.2.1.2.1) C;have Y_:e.2.2.2.2.2.2.1.2.2.1=x.2.2.2.2.2.2.2.1.2.2.1:=E! (λz=>z.2.1.2.2.1) C;have X_:e.2.2.2.2.2.2.1.2.2.2=x.2.2.2.2.2.2.2.1.2.2.2:=E! (λz=>z.2.1.2.2.2) C;refine⟨h.ki.1.app ⟨λq=>⟨V h.ki.2.1 q (by rw[w,<-u,<-a];exact hr.1) (by rw[w,<-u,<-a];exact hr.2.1),by rw[R,Y_,w,<-u,<-a,<-I];exact G f m (by rw[a,u]),by rw[w,<-u,<-a];exact hr.2.1⟩,λq=>N! q (p 7 g! g!),λq=>N! q (p 6 g! g!),p 8 g! g!⟩,?_,h.ki.2.2.set s K⟩;refine h.ki.2.1.change h.ki.2.2 y s (by rw[a,u,w]) (by rw[o,M,c,<-P];unfold upd;rw[R,X_]) J (λj k hj q=>hp.idx s hj q) ?_;rw[P];exact kW L _
theorem Bp{x:Int}:An (BB x) λr=>r.1=5:=by grind[BB,AB]
theorem ic{x:Int}:An (BB x) λr=>r.1=5/\r.2.2.2.2=x:=by grind[BB,AB]
theorem ADD{l:List Aj}{id:Int}(h:θ l<=16777216)(m:ii l id):An (EP (l,id)) λr=>0<=r/\r<θ l:=by
 unfold EP;refine AA (P:=λr=>∃u:Int,r=.inl u/\0<=u/\u<θ l) ?_ λr hr=>?_;refine AU (λ(s:Int)=>0<=s/\s<=θ l/\∀(j:Nat)(t:Aj),j<s->l[j]?=δ t->t.1≠id) (λ(s:Int)=>((θ l:Int)-s).toNat) ⟨AX _,o!,λj t b=>N! b o!⟩ (λs k=>?_);obtain⟨g,p,i⟩:=k;unfold Jm;have e:=AW (x:=s+1);apply AC<;>intro d;simp only[len]at d;refine AA (AI g d) λq a=>AQ (λ_=>AB ⟨s,rfl,g,d⟩) (λc=>AB ?_);dsimp only at c;rw[e];refine⟨⟨o!,o!,λj t b f=>?_⟩,o!⟩;by_cases n:(j:Int)=s;have:s.toNat=j:=o!
 rw[this]at a;rw[f]at a;have:=BH a.1;rw[this];exact c;exact i j t o! f;obtain⟨j,t,b,f⟩:=m;have:=Cd b;simp only[len]at d;exact N! f (i j t o! b);obtain⟨u,rfl,o⟩:=hr;exact BG (AB o)
def rJ{l:List Aj}{id:Int}(h:θ l<=16777216)(a:ii l id):An (CM (l,id)) λr=>0<=r/\r<θ l:=by grind[CM,AA,ADD,AB]
def aS{x:AP×Int}(h:SK B x.1)(k:Dd x.1.2.2.1)(j:ii x.1.2.2.2.2.2.1 x.2):An (Kc x) λr=>KL B x.1 r.1/\(r.2.1=1\/r.2.1=5):=by unfold Kc;refine AA (rJ h.2.1 j) λo c=>AA (AI c.1 c.2) λp _=>AA (P:=λs=>(∃u,s=.inl u/\KL B x.1 u.1)\/∃u,s=.inr u/\KL B x.1 u.1/\(u.2.1=1\/u.2.1=5)) ?_ λs l=>?_;refine AQ (λ_=>?_) (λ_=>?_);refine AA (JA h.2.1) λq d=>AB (.inl ⟨_,rfl,rfl,LX.refl _,⟨h.1,?_,h.2.2⟩,k⟩);have:=oB x.1.2.2.2.2.2.1 x.2;have e:=h.2.1;dsimp only at*;rw[d];omega;refine AA (Fi h.sb) λt f=>AK (λn=>?_) (λm=>?_);grind[AA,Bp,AB,KL.refl];have b:=(f m).2.1.kl h u!;refine AA (Jn b.2.2.1 b.2.2.2) λv g=>AB (.inl ⟨_,rfl,b.trans g.1.kl⟩);rcases l with⟨u,rfl,a⟩|⟨u,rfl,a⟩;apply BG;refine AA (L8 a.2.2.1.1) λw i=>AB ⟨⟨a.1,a.2.1,a.2.2.1.locks i,a.2.2.2⟩,.inl rfl⟩;exact Av (AB a)
def Wd{x:AP×Int×Cl}{a:Aj}{s:Int}(h:0<=s/\s<=θ a.2.2.2.2.1/\(θ a.2.2.2.2.1:Int)<=16777216):An (Aa (K7 x a) s) λr=>True:=by
 refine AU (λ(s:Int)=>0<=s/\s<=θ a.2.2.2.2.1/\(θ a.2.2.2.2.1:Int)<=16777216) (λ(s:Int)=>((θ a.2.2.2.2.1:Int)-s).toNat) h (λs c=>?_);unfold K7;exact x!
def AGk{l:List Aj}{i:Nat}{t:Aj}(h:l[i]?=δ t):θ t.2.2.2.2.1<TP l:=by
 induction l generalizing i with
 |nil=>simp at h
 |cons a r b=>
  unfold TP;rw[Bn,VO];cases i with
  |zero=>simp at h;rw[h];omega
  |succ i=>have:=b (i:=i) (by simpa using h);unfold TP at this;omega
def AHv{l:List Aj}(h:∀(i:Nat)(t:Aj),l[i]?=δ t->θ t.2.2.2.2.1<=4096):TP l<=θ l*4097:=by
 induction l with
 |nil=>simp[TP]
 |cons a r c=>have d:=h 0 a k!;have e:=c (λi t b=>h (i+1) t (by simpa using b));unfold TP at*;grind[List.length_cons]
def Yc.tp{l:List Aj}(h:Yc l):TP l<=262208:=by have:=AHv (l:=l) (λi t a=>(h.2 i t a).1);have:=h.1;omega
def Y4{x:AP×Int×Cl}(h:θ x.1.2.2.2.2.2.1<=16777216)(d:TP x.1.2.2.2.2.2.1<=262208)(c:ii x.1.2.2.2.2.2.1 x.2.1):An (Jq x) λr=>True:=by unfold Jq;refine AA (rJ h c) λe a=>AA (AI a.1 a.2) λf b=>?_;have:=AGk b.1;refine AA (Wd ⟨AX _,o!⟩) λr _=>?_;grind[A9,AB]
def Tc{x:AP×Int×Int}(h:SK B x.1)(z:Dd x.1.2.2.1)(A_:Yc x.1.2.2.2.2.2.1)(p:x.2.1≠0)(y:ii x.1.2.2.2.2.2.1 x.2.1):An (Ic x) λr=>KL B x.1 r.1/\(r.2.1=x.2.2\/r.2.1=5):=by
 unfold Ic;refine AA (aJ h.1) λL c=>AA (rJ h.2.1 y) λM n=>AA (AI n.1 n.2) λN _=>AQ (λ_=>?_) (λ_=>?_);refine AA (JA h.2.1) λO t=>AA (L8 c) λQ u=>AB ⟨⟨rfl,LX.refl _,⟨u,?_,h.2.2⟩,z⟩,.inl rfl⟩;have:=oB x.1.2.2.2.2.2.1 x.2.1;have q:=h.2.1;dsimp only at*;rw[t];omega;refine AA (Fi (h.locks c).sb) λf v=>AK (λi=>?_) (λC=>?_);grind[AA,Bp,AB,KL.refl];have j:=(v C).2.1;have o:=j.2.2.2.2.2.1;have K:=(o.2.2.1 p (by show(4:Int)≠1;decide)).2;have D_:=A_.tp;have b:KL B x.1 f.1:=⟨j.1,j.2.1,(j.kl (h.locks c) u!).2.2⟩
 refine AA (P:=λr=>KL B x.1 r) ?_ λr hr=>AB ⟨hr,.inl rfl⟩;refine AU (λ(s:Int×AP)=>0<=s.1/\s.1<=θ f.1.2.2.2.2.1.1/\KL B x.1 s.2/\s.2.2.2.2.2.2.1=f.1.2.2.2.2.2.1) (λs=>((θ f.1.2.2.2.2.1.1:Int)-s.1).toNat) (s:=((0:Int),f.1)) ⟨AX _,d!,b,rfl⟩ (λs w=>?_);have⟨m,J,a,d⟩:=w;unfold SI;have I:=b.2.2.1.1.1;refine AC (λi=>?_) (λ_=>AB a);simp[len]at i;have e:=AW (x:=s.1+1);refine AA (AI m i) λR _=>AQ (λ_=>?_) (λ_=>AB ⟨⟨d!,d!,a,d⟩,d!⟩);refine AA (AI m i) λS _=>AA (Y4 (by dsimp only;rw[d];exact b.2.2.1.2.1) (by dsimp only at*;rw[d];omega) (by dsimp only;rw[d];exact(o.2.2.2 p rfl))) λE _=>AA (P:=λk=>KL B x.1 k/\k.2.2.2.2.2.1=f.1.2.2.2.2.2.1) ?_ λH g=>AB ⟨⟨d!,d!,g.1,g.2⟩,d!⟩;refine AO (λ_=>?_) (λ_=>AB ⟨a,d⟩);refine AA (AI m i) λF _=>AA (UQ a.2.2.1.1) λG l=>AB ⟨⟨a.1,a.2.1,a.2.2.1.locks l,a.2.2.2⟩,d⟩
end Go.Pm
namespace Go.Pm
open Go Go.Ab
variable {B:Int->Prop}
def aP{x:AP×Cq}:An (KY x) λr=>r=0->x.2.1=4\/x.2.1=5\/x.2.1=6\/x.2.1=7\/(0<=x.2.2.2.1/\x.2.2.2.1<16):=by unfold KY;refine AA (P:=λv=>True) (AJ (λ_=>AB trivial) (λ_=>AA (P:=λ_=>True) (AJ (λ_=>AB trivial) (λ_=>AB trivial)) λ_ _=>AB trivial)) λi _=>AA (P:=λs=>(∃u,s=.inl u/\u=1)\/∃u,s=.inr u/\(x.2.1=4\/x.2.1=5\/x.2.1=6\/x.2.1=7\/(0<=x.2.2.2.1/\x.2.2.2.1<16))) ?_ λs c=>?_;refine AJ (λ_=>?_) (λ_=>?_);refine AC (λ_=>AB (.inl ⟨_,rfl,rfl⟩)) (λ_=>AC (λ_=>AB (.inl ⟨_,rfl,rfl⟩)) (λ_=>AC (λ_=>AB (.inl ⟨_,rfl,rfl⟩)) (λe=>AC (λ_=>AB (.inl ⟨_,rfl,rfl⟩)) (λf=>AA (P:=λ_=>True) (AJ (λ_=>AB trivial) (λ_=>AB trivial)) λj _=>AB (.inr ⟨_,rfl,?_⟩)))));omega;refine AA (P:=λs=>(∃u,s=.inl u/\u=1)\/∃u,s=.inr u/\(x.2.1=4\/x.2.1=5\/x.2.1=6\/x.2.1=7)) ?_ λs c=>?_;refine AQ (λh=>?_) (λ_=>?_);refine AC (λ_=>AB (.inl ⟨_,rfl,rfl⟩)) (λ_=>AC (λ_=>AB (.inl ⟨_,rfl,rfl⟩)) (λ_=>AB (.inr ⟨_,rfl,o!⟩)));refine AA (P:=λb=>b=ζ->x.2.1=4\/x.2.1=5\/x.2.1=6) ?_ λk g=>?_;grind[AQ,AB,AA];simp_all[AJ,AB];grind[BG,AB,Av];rcases c with⟨u,rfl,d⟩|⟨u,rfl,d⟩;grind[BG,AB];apply Av;refine AO (λ_=>AB n!) (λ_=>AC (λ_=>AB n!) (λ_=>AB λ_=>d))
def UU{x:Int×Cq}:An (JP x) λr=>True:=by unfold JP;refine AQ (λ_=>AB trivial) (λ_=>AA (P:=λ_=>True) (AJ (λ_=>AB trivial) (λ_=>AB trivial)) λv _=>AJ (λ_=>AB trivial) (λ_=>AB trivial))
def Y5{x:AP×Int×Cq}(h:SK B x.1):An (Jr x) λr=>r=0->VK x.1/\ii x.1.2.2.2.2.2.1 x.2.1/\(x.2.2.1=4\/x.2.2.1=5\/x.2.2.1=6\/x.2.2.1=7\/(0<=x.2.2.2.2.1/\x.2.2.2.2.1<16)):=by
 unfold Jr;refine AA (B3 h.sb) λv j=>AO (λ_=>AB n!) (λb=>AA (FK h.2.1) λk e=>AC (λ_=>AB n!) (λg=>AA (AI o! e.2.1) λl _=>AK (λ_=>AB n!) (λ_=>AA aP λm f=>AK (λb=>AB λa=>N! a b) (λc=>AA (II h.1) λn _=>AA UU λo _=>?_))));have q:(0:Int)=0->VK x.1/\ii x.1.2.2.2.2.2.1 x.2.1/\(x.2.2.1=4\/x.2.2.1=5\/x.2.2.1=6\/x.2.2.1=7\/(0<=x.2.2.2.2.1/\x.2.2.2.2.1<16)):=λ_=>by have⟨t,i,d⟩:=e.2.2 o!;exact⟨j b,⟨_,t,i,d⟩,f c⟩
 refine AJ (λ_=>?_) (λ_=>AB q);refine AK (λ_=>?_) (λ_=>AB q);refine AO (λ_=>AB n!) (λ_=>AO (λ_=>AB n!) (λ_=>AB q))
def aR{x:AP×Int×Cq}(h:SK B x.1)(k:Dd x.1.2.2.1)(n:PE x.1.2.2.2.1)(a:0<=x.2.2.2.2.1/\x.2.2.2.2.1<16):An (Kb x) λr=>KL B x.1 r.1/\(r.2.1=1\/r.2.1=3\/r.2.1=5)/\(r.2.1=3->r.2.2.2.1=x.2.2.2.1/\¬mc x.1.2.2.2.1 x.2.2.2.1/\r.1=x.1):=by unfold Kb;have t:=KL.refl h k;refine AA Ia λy m=>AO (λa=>AB ⟨t,.inr (.inl rfl),λ_=>⟨rfl,m.2 a n,rfl⟩⟩) (λd=>AQ (λ_=>?_) (λ_=>?_));refine AA iQ λz l=>AA (CQ a.1 a.2) λ_ _=>AA (CQ a.1 a.2) λ_ _=>AB ⟨⟨rfl,LX.refl _,⟨h.1,h.2.1,h.2.2.1,h.ki.1,h.ki.2.1.frames l.1 l.2,h.ki.2.2.sub l.1⟩,k⟩,(.inl rfl),λs=>N! s (by show(1:Int)≠3;decide)⟩;refine AA (CQ a.1 a.2) λ_ _=>D6 (CQ a.1 a.2) λu o _=>AA (P:=λv:Dh=>v.1=x.2.2.2.1/\v.2.1=x.2.2.2.2.1/\v.2.2.1=u) (AJ (λ_=>AB ⟨rfl,rfl,rfl⟩) (λ_=>AB ⟨rfl,rfl,rfl⟩)) λA_ b=>?_;have⟨_,_,j,i,f,p,c⟩:=m.1 d;refine AA (U8 h k (by dsimp only;rw[b.2.1];exact a) (.inl rfl) n (by dsimp only;rw[b.1];exact j) λg q e=>?_) λC w=>?_;dsimp only at e⊢;rw[b.2.1,b.2.2,h.ki.same p q (by rw[e,b.1,c,i]),c];exact o;grind[AA,AK,Bp,AB]
theorem dA{x:List Int}:An (Ld x) λr=>True:=by unfold Ld;refine AQ (λ_=>AB trivial) (λa=>?_);simp only[len]at a;exact AA (AI (AX _)) λ_ _=>AB trivial
def iT{x:AP×Int}(h:SK B x.1):An (Ni x) λr=>True:=by unfold Ni;refine AA (LU h.1) λa _=>?_;grind[AA,dA,AB]
def jc{x:AP×Int×Cq}(h:SK B x.1)(i:Dd x.1.2.2.1):An (O0 x) λr=>KL B x.1 r.1/\(r.2.1=3->r.2.2.2.1=x.2.2.2.1/\¬mc x.1.2.2.2.1 x.2.2.2.1/\r.1.2.2.2.1=x.1.2.2.2.1)/\(r.2.1=2\/r.2.1=3->r.1.2.2.2.2.2.1=x.1.2.2.2.2.2.1):=by
 unfold O0;have q:=KL.refl h i;refine AA (Y5 h) λX I=>AK (λ_=>?_) (λd=>?_);exact AA Bp λY V=>AB ⟨q,λd=>by dsimp only at d;omega,λ_=>rfl⟩;obtain⟨u,s,F⟩:=I d;have G:x.2.1≠0:=by obtain⟨j,t,M,W⟩:=s;have:=(u.2.2.2.2.2.1.2 j t M).2.2;omega
 refine AQ (λ_=>?_) (λT=>?_);exact AA (aS h i s) λZ w=>AB ⟨w.1,λd=>by have:=w.2;omega,λd=>by have:=w.2;omega⟩;refine AQ (λ_=>?_) (λU=>?_);refine AA (Tc h i u.2.2.2.2.2.1 G s) λv3 E=>AB ?_;have y:=E.2;dsimp only at y;exact⟨E.1,λd=>o!,λd=>o!⟩;refine AA (P:=λb=>b=ζ↔x.2.2.1=6\/x.2.2.1=7) ?_ λv4 J=>?_;refine AQ (λp=>AB (by simp[p])) (λp=>AB (by simp[p]));refine AJ (λ_=>?_) (λk=>?_);refine AA fk λv5 z=>AA (P:=λv=>v.2=0->θ v.1<=64) ?_ λv7 K=>?_;exact AJ (λ_=>AA fi λv6 p=>AB p) (λ_=>AB z);refine AK (λ_=>?_) (λd=>AB ⟨⟨rfl,LX.refl _,⟨h.1,?_,h.2.2⟩,i⟩,λd=>N! d (by show(1:Int)≠3;decide),λd=>N! d (by show¬((1:Int)=2\/(1:Int)=3);decide)⟩);exact AA Bp λS L=>AB ⟨q,λd=>by dsimp only at d;omega,λ_=>rfl⟩;have:=K d;dsimp only;omega;have g:0<=x.2.2.2.2.1/\x.2.2.2.2.1<16:=by
  have:¬(x.2.2.1=6\/x.2.2.1=7):=λh=>by rw[J.2 h]at k;cases k
  omega
 refine AA UU λv9 _=>AA (Ys h.1) λC l=>AK (λ_=>?_) (λ_=>?_);exact AA Bp λS L=>AB ⟨q,λd=>by dsimp only at d;omega,λ_=>rfl⟩;have f:=h.locks l;have H:∀m,KL B (x.1.1,x.1.2.1,x.1.2.2.1,x.1.2.2.2.1,C.1,x.1.2.2.2.2.2) m->KL B x.1 m:=λm A=>⟨A.1,A.2.1,A.2.2⟩
 refine AJ (λ_=>?_) (λ_=>?_);refine AA (aR f i u.2.2.2.1 g) λN e=>AQ (λz=>AB ⟨q,λd=>by dsimp only at d;omega,λ_=>rfl⟩) (λ_=>AB ⟨H _ e.1,λd=>?_,λd=>?_⟩);obtain⟨a,b,c⟩:=e.2.2 d;exact⟨a,b,by rw[c]⟩;have D:=e.2.1;obtain⟨a,b,c⟩:=e.2.2 o!;rw[c];refine AA (cq l) λO _=>AC (λ_=>?_) (λ_=>?_);refine AA (Tc f i u.2.2.2.2.2.1 G s) λQ n=>?_;have o:=n.2;dsimp only at o;exact AQ (λz=>AB ⟨q,λd=>by dsimp only at d;omega,λ_=>rfl⟩) (λ_=>AB ⟨H _ n.1,λd=>o!,λd=>o!⟩);exact AA (iT f) λR _=>AB ⟨⟨rfl,LX.refl _,f,i⟩,λd=>N! d (by show(2:Int)≠3;decide),λ_=>rfl⟩
end Go.Pm
namespace Go.Pm
open Go Go.Ab
variable {B:Int->Prop}
def RTx(l:List Aj)(id:Int)(t:Aj):Prop:=∃v,CM (l,id)=δ v/\0<=v/\l[v.toNat]?=δ t/\t.1=id
def RTx.uniq{l:List Aj}{id:Int}{t u:Aj}(h:RTx l id t)(g:RTx l id u):u=t:=by have⟨v,e,f,i,j⟩:=h;have⟨w,a,b,c,d⟩:=g;grind[Option.some.inj]
def NX(k:AP)(id:Int)(e:AE):Prop:=∃t lsn,RTx k.2.2.2.2.2.1 id t/\t.2.2.2.2.1[θ t.2.2.2.2.1-1]?=δ lsn/\k.2.2.1.2.1[(lsn-k.2.2.1.1).toNat]?=δ e
def NX.uniq{k m:AP}{id:Int}{e f:AE}(h:NX k id e)(g:NX m id f)(o:m.2.2.2.2.2.1=k.2.2.2.2.2.1)(c:LX k.2.2.1 m.2.2.1):f=e:=by have⟨t,n,i,j,l⟩:=h;have⟨u,w,a,b,d⟩:=g;rw[o]at a;have:=i.uniq a;subst this;rw[j]at b;cases b;have:=c.get l;rw[c.1]at d;grind[Option.some.inj]
def IL{x:AP×Int}(h:SK B x.1):An (E0 x) λr=>r.2=0->VK x.1/\RTx x.1.2.2.2.2.2.1 x.2 r.1/\θ r.1.2.2.2.2.1<=4096/\r.1.1≠0:=by
 unfold E0;refine AA (B3 h.sb) λv i=>AO (λ_=>AB n!) (λf=>?_);have c:=i f;refine D6 (FK h.2.1) λj e d=>AC (λ_=>AB n!) (λg=>AA (AI o! d.2.1) λk _=>AQ (λ_=>AB n!) (λ_=>AA (AI o! d.2.1) λl b=>AB λ_=>⟨c,⟨j,e,o!,b.1,?_⟩,(c.2.2.2.2.2.1.2 _ _ b.1).1,?_⟩))
 grind[Option.some.inj];have:=(c.2.2.2.2.2.1.2 _ _ b.1).2.2;dsimp only;omega
def fq{x:AP×Int}(h:SK B x.1):An (HN x) λr=>r.2=ζ->VK x.1/\NX x.1 x.2 r.1/\L3 r.1:=by
 unfold HN;refine AA (IL h) λc f=>AK (λ_=>AB λa=>by cases a) (λa=>?_);have⟨k,hr,o,_⟩:=f a;refine AQ (λ_=>AB λa=>by cases a) (λj=>?_);simp only[len]at j;rw[(AW (x:=len c.1.2.2.2.2.1-1) (by simp[len];omega))];refine AA (AI (by simp[len];omega) (by simp[len];omega)) λp _=>AC (λ_=>AB λa=>by cases a) (λ_=>AA (AI (by simp[len];omega) (by simp[len];omega)) λl g=>AA Gw λq i=>AB λa=>?_);have⟨d,m,e,n⟩:=i.1 (by simpa using a);refine⟨k,⟨c.1,l,hr,?_,e⟩,d⟩;have b:=g.1;have:(len c.1.2.2.2.2.1-1).toNat=θ c.1.2.2.2.2.1-1:=i!
 rw[this]at b;exact b
def jd{x:AP×Aj×Cl×Int}(h:θ x.2.1.2.2.2.2.1<=16777216)(c:0<=x.2.2.2/\x.2.2.2<=θ x.2.1.2.2.2.2.1):An (O1 x) λr=>r.2=ζ->L3 r.1/\r.1.2.2.2.2.2.2.1.1=x.2.2.1.1:=by unfold O1;rw[(AW (x:=x.2.2.2-1))];refine AA (P:=λr=>∀u,r=.inl u->u.1=ζ->L3 u.2/\u.2.2.2.2.2.2.2.1.1=x.2.2.1.1) ?_ λr hr=>A9 (λu a=>AB (hr u a)) (λ_ _=>AB λb=>by cases b);refine AU (λ(s:Int×AE)=> -1<=s.1/\s.1<θ x.2.1.2.2.2.2.1) (λ(s:Int×AE)=>(s.1+1).toNat) d! (λs d=>?_);unfold U9;rw[(AW (x:=s.1-1))];refine AC (λe=>?_) (λ_=>AB λu a=>by cases a);grind[AA,AI,Gw,AQ,AB]
def SJ{x:AP×Int×Cl}(h:SK B x.1):An (Ke x) λr=>r.2=ζ->VK x.1/\L3 r.1/\r.1.2.2.2.2.2.2.1.1=x.2.2.1:=by refine AA (IL h) λf b=>AK (λ_=>AB λa=>by cases a) (λa=>AK (λ_=>AB λa=>by cases a) (λ_=>?_));have⟨d,_,e,_⟩:=b a;exact AA (jd d! ⟨by simp[len],by simp[len]⟩) λg c=>AB λa=>⟨d,c a⟩
def Yr{x:Dh}:An (Jj x) λr=>r=(x.1,x.2.1,x.2.2.2,x.2.2.1):=by grind[Jj,AB]
def UW{x:AP×Aj×AE}(h:SK B x.1)(t:Dd x.1.2.2.1)(u:PE x.1.2.2.2.1)(A_:L3 x.2.2)(v:x.2.1.1≠0):An (F7 x) λr=>KL B x.1 r.1/\(r.2.1=3->r.2.2.2.1=x.2.2.2.2.2.2.2.2.1.1/\¬mc x.1.2.2.2.1 x.2.2.2.2.2.2.2.2.1.1/\r.1=x.1)/\(r.2.1≠3->r.2.1≠5->r.2.2.1≠0/\TP r.1.2.2.2.2.2.1<TP x.1.2.2.2.2.2.1)/\(r.2.1=5->r.2.2.2.2.2≠0):=by unfold F7;have F:=KL.refl h t;refine AA Ia λG i=>AO (λl=>AB ⟨F,λ_=>⟨rfl,i.2 l u,rfl⟩,λa=>N! rfl a,λa=>N! a (by show(3:Int)≠5;decide)⟩) (λc=>AA Yr λH w=>?_);subst w;refine AA TX λI j=>AK (λl=>?_) (λo=>?_);grind[AA,ic,AB];refine AA (U8 h t A_.cell (.inr rfl) u (i.1 c).2.2.1 λg D_ e=>by have⟨_,_,_,m,f,C,d⟩:=i.1 c;rw[h.ki.same C D_ (by rw[e,d,m]),d];exact(j.1 o).2) λp q=>AK (λl=>?_) (λa=>?_);grind[AA,ic,AB];have E:=(q.2 a).2.2.1 v (by show(2:Int)≠1;decide);have n:=E.1 (by show(2:Int)≠4;decide);have b:KL B x.1 p.1:=q.1;refine AA (P:=λk=>KL B x.1 k/\k.2.2.2.2.2.1=p.1.2.2.2.2.2.1) ?_ λM s=>AB ⟨s.1,λa=>N! a (by show(1:Int)≠3;decide),λ_ _=>⟨v,by rw[s.2];exact n⟩,λa=>N! a (by show(1:Int)≠5;decide)⟩;refine AJ (λ_=>?_) (λ_=>AB ⟨b,rfl⟩);refine AA (SJ b.2.2.1) λJ _=>AA (P:=λk=>KL B x.1 k/\k.2.2.2.2.2.1=p.1.2.2.2.2.2.1) ?_ λL z=>AB z;refine AO (λ_=>?_) (λ_=>AB ⟨b,rfl⟩);exact AA (UQ b.2.2.1.1) λK y=>AB ⟨⟨b.1,b.2.1,b.2.2.1.locks y,b.2.2.2⟩,rfl⟩
def UV{x:AP×Int}(h:SK B x.1)(m:Dd x.1.2.2.1):An (JQ x) λr=>KL B x.1 r.1/\(r.2.1=3->∃e,NX x.1 x.2 e/\r.2.2.2.1=e.2.2.2.2.2.2.1.1/\¬mc x.1.2.2.2.1 e.2.2.2.2.2.2.1.1)/\(r.2.1≠3->r.2.1≠5->TP r.1.2.2.2.2.2.1<TP x.1.2.2.2.2.2.1)/\(r.2.1=5->r.2.2.2.2.2≠0):=by
 unfold JQ;have D_:=KL.refl h m;refine AA (IL h) λA_ q=>AK (λi=>?_) (λd=>?_);grind[AA,ic,AB];have⟨y,hr,n,o⟩:=q d;have f:An (σ (HN x) λk=>
  bif (!k.2)then
   σ (BB 14) λC=>
   δ (x.1,C)
  else
  σ (F7 (x.1,A_.1,k.1)) λp=>
  δ p) λr=>KL B x.1 r.1/\(r.2.1=3->∃e,NX x.1 x.2 e/\r.2.2.2.1=e.2.2.2.2.2.2.1.1/\¬mc x.1.2.2.2.1 e.2.2.2.2.2.2.1.1)/\(r.2.1≠3->r.2.1≠5->TP r.1.2.2.2.2.2.1<TP x.1.2.2.2.2.2.1)/\(r.2.1=5->r.2.2.2.2.2≠0):=by
  refine AA (fq h) λk u=>AO (λ_=>?_) (λi=>?_);grind[AA,ic,AB];have⟨_,hn,w⟩:=u i;refine AA (UW h m y.2.2.2.1 w o) λp g=>AB ⟨g.1,λd=>?_,λa b=>(g.2.2.1 a b).2,g.2.2.2⟩;have⟨a,b,_⟩:=g.2.1 d;exact⟨_,hn,a,b⟩
 refine AQ (λ_=>?_) (λ_=>f);refine AQ (λ_=>?_) (λ_=>f);refine AA (Fi h.sb) λE s=>AK (λi=>?_) (λd=>?_);grind[AA,ic,AB];have l:=(s d).2.1;have z:=(l.2.2.2.2.2.1.2.2.1 (by have⟨v,_,_,_,j⟩:=hr;rw[<-j];exact o) (by show(5:Int)≠1;decide)).1 (by show(5:Int)≠4;decide);have c:=l.kl h u!;exact AA (L8 c.2.2.1.1) λF t=>AB ⟨⟨c.1,c.2.1,c.2.2.1.locks t,c.2.2.2⟩,λd=>N! d (by show(1:Int)≠3;decide),λ_ _=>z,λd=>N! d (by show(1:Int)≠5;decide)⟩
def fo{x:AP×Int×Cl}(h:SK B x.1)(f:Dd x.1.2.2.1):An (Me x) λr=>KL B x.1 r.1/\(r.2.1=3->r.2.2.2.1=x.2.2.1/\¬mc x.1.2.2.2.1 x.2.2.1/\r.1=x.1)/\(r.2.1≠3->r.2.1≠5->r.2.2.1≠0->TP r.1.2.2.2.2.2.1<TP x.1.2.2.2.2.2.1):=by unfold Me;have o:=KL.refl h f;refine AA (IL h) λp i=>AK (λ_=>?_) (λc=>?_);grind[AA,Bp,AB];have⟨m,hr,g,n⟩:=i c;refine AK (λ_=>?_) (λ_=>?_);grind[AA,Bp,AB];refine AA (SJ h) λq j=>AO (λ_=>AB ⟨o,λc=>N! c (by show(1:Int)≠3;decide),λ_ _ c=>N! rfl c⟩) (λk=>?_);have⟨_,l,e⟩:=j k;refine AA (UW h f m.2.2.2.1 l n) λs d=>AB ⟨d.1,λc=>?_,λa b _=>(d.2.2.1 a b).2⟩;have:=d.2.1 c;dsimp only at this;rw[e]at this;exact this
def RX{x:AS×Int}(h:SK B x.1.1):An (EC x) λr=>True:=by unfold EC;refine AA (FK h.2.1) λc a=>AC (λb=>?_) (λ_=>AB trivial);grind[AA,AI,AB]
end Go.Pm
namespace Go.Pm
open Go Go.Ab
variable {B:Int->Prop}
def SR(B:Int->Prop)(x s:AS):Prop:=KL B x.1 s.1/\DJ B s.1.2.2.1 s.2
def SR.trans{a b c:AS}(h:SR B a b)(g:SR B b c):SR B a c:=⟨h.1.trans g.1,g.2⟩
def SvR.sr{a b:AS}(h:SvR B a b):SR B a b:=⟨h.1.kl,h.2⟩
open Classical in
noncomputable def flag(p:Prop):Nat:=if p then 1 else 0
theorem AAu(p:Prop):flag p<=1:=by unfold flag;split<;>omega
def wL{p:Prop}(h:p):flag p=1:=by unfold flag;rw[C! h]
def wK{p:Prop}(h:¬p):flag p=0:=by grind[flag]
def YM{x:AS×Int}(h:SK B x.1.1)(C:Dd x.1.1.2.2.1)(A_:DJ B x.1.1.2.2.1 x.1.2):An (EW x) λr=>r.2=0->SR B x.1 r.1:=by unfold EW;refine AA (B3 h.sb) λv E=>AO (λ_=>AB n!) (λm=>AA (FK h.2.1) λH _=>AC (λ_=>AB n!) (λ_=>AA (P:=λr=>(∀u,r=.inl u->u.1≠0)/\∀u,r=.inr u->SR B x.1 u.1) ?_ λr hr=>A9 (λu a=>AB λb=>N! b (hr.1 u a)) (λu a=>AB λ_=>hr.2 u a)));refine AU (λ(s:AS×AS)=>SR B x.1 s.1) (λ(s:AS×AS)=>2*TP s.1.1.2.2.2.2.2.1+flag (∃e,NX s.1.1 x.2 e/\¬mc s.1.1.2.2.2.1 e.2.2.2.2.2.2.1.1)) ⟨KL.refl h C,A_⟩ (λs c=>?_);unfold P7;have d:=c.1.2.2;refine AA (RX d.1) λI _=>AJ (λ_=>?_) (λ_=>AB ⟨λu a=>(by cases a),λu a=>(by cases a;exact c)⟩);refine AA (UV d.1 d.2) λJ z=>?_;have⟨k1,D_,F,G⟩:=z;apply AQ<;>intro i;grind[AB];refine AA (P:=λr=>(∃u,r=.inl u/\u.1≠0)\/∃u,r=.inr u/\SR B s.1 u.1/\2*TP u.1.1.2.2.2.2.2.1+flag (∃e,NX u.1.1 x.2 e/\¬mc u.1.1.2.2.2.1 e.2.2.2.2.2.2.1.1)<2*TP s.1.1.2.2.2.2.2.1+flag (∃e,NX s.1.1 x.2 e/\¬mc s.1.1.2.2.2.1 e.2.2.2.2.2.2.1.1)) ?_ λr hr=>?_;apply AQ<;>intro o;have⟨e,k,p,q⟩:=D_ o;refine AA (HO d.1 c.2) λK i=>AK (λm=>AB (.inl ⟨_,rfl,m⟩)) (λb=>AB (.inr ⟨_,rfl,(i b).1.sr,?_⟩));have⟨l,g⟩:=i b;have n:=l.1.2.2.2.2.1;rw[wL (⟨e,k,q⟩:∃e,NX s.1.1 x.2 e/\¬mc s.1.1.2.2.2.1 e.2.2.2.2.2.2.1.1),wK,n];dsimp only;omega;rintro⟨f,t,y⟩;have:=k.uniq t n l.1.2.1;subst this;dsimp only at g;rw[p]at g;exact y g;refine AB (.inr ⟨_,rfl,⟨k1,c.2.up k1.2.1⟩,?_⟩);grind[AAu,mc];rcases hr with⟨u,rfl,a⟩|⟨u,rfl,a⟩;refine BG (AB ⟨λw j=>?_,λw j=>(by cases j)⟩);cases j;exact a;exact Av (AB ⟨c.trans a.1,a.2⟩)
def jg{x:AS×Int×Cq}(h:SK B x.1.1)(K:Dd x.1.1.2.2.1)(J:DJ B x.1.1.2.2.1 x.1.2):An (O4 x) λr=>SR B x.1 r.1/\(r.2.1=2->r.1.1.2.2.2.2.2.1=x.1.1.2.2.2.2.2.1):=by
 unfold O4;refine AA (P:=λr=>SR B x.1 r.1/\(r.2.1=2->r.1.1.2.2.2.2.2.1=x.1.1.2.2.2.2.2.1)) ?_ λr hr=>AB hr;refine AU (λ(s:AS×AS×BS)=>SR B x.1 s.1/\s.1.1.2.2.2.2.2.1=x.1.1.2.2.2.2.2.1) (λ(s:AS×AS×BS)=>flag (¬mc s.1.1.2.2.2.1 x.2.2.2.1)) ⟨⟨KL.refl h K,J⟩,rfl⟩ (λs l=>?_);obtain⟨l,o⟩:=l;have y:=l.1.2.2;unfold VF;refine AA (jc y.1 y.2) λf E=>?_;obtain⟨k1,L,z⟩:=E;have j:SR B x.1 (f.1,s.1.2):=⟨l.1.trans k1,l.2.up k1.2.1⟩
 have g:=k1.2.2;apply AQ<;>intro q;obtain⟨a,b,c⟩:=L q;have d:=z (.inr q);refine AA (HO g.1 j.2) λT F=>AK (λ_=>?_) (λi=>AB ?_);refine AA Bp λU R=>AB ⟨j,λ_=>?_⟩;dsimp only at*;rw[d,o];obtain⟨t,v⟩:=F i;refine⟨⟨j.trans t.sr,?_⟩,?_⟩;have:=t.1.2.2.2.2.1;dsimp only at*;rw[this,d,o];dsimp only at*;rw[wL b,wK];omega;intro hn;rw[a]at v;exact hn v;have k:∀(Q:Step (AS×(AS×BS)) (AS×BS)->Prop),(∀r:AS×BS,SR B x.1 r.1/\(r.2.1=2->r.1.1.2.2.2.2.2.1=x.1.1.2.2.2.2.2.1)->Q (.done r))->∀c:Int,c≠2->f.2.1=c->An (σ (EC ((f.1,s.1.2),x.2.1)) λA_=>
  σ ((
    bif A_ then
     σ (EW ((f.1,s.1.2),x.2.1)) λn=>
     bif (n.2 !=0)then
      σ (BB n.2) λC=>
      δ (.inl ((f.1,s.1.2),C))
     else
     δ (.inr (n.1,s.2))
    else
    δ (.inr ((f.1,s.1.2),s.2))):(Option ((AS×BS)⊕(AS×(AS×BS))))) λO=>
  ν (λM=>δ (Step.done M))
  (λN=>δ (.done (N.1,f.2))) O) Q:=by
  intro Q w c S I;refine AA (RX g.1) λA_ _=>AA (P:=λr=>(∃u,r=.inl u/\SR B x.1 u.1/\u.2.1=5)\/∃u,r=.inr u/\SR B x.1 u.1) ?_ λr hr=>?_;refine AJ (λ_=>?_) (λ_=>AB (.inr ⟨_,rfl,j⟩));refine AA (YM g.1 g.2 j.2) λn G=>AK (λ_=>?_) (λi=>AB (.inr ⟨_,rfl,j.trans (G i)⟩));exact AA Bp λC H=>AB (.inl ⟨_,rfl,j,H⟩);rcases hr with⟨u,rfl,m⟩|⟨u,rfl,m⟩;exact BG (AB (w _ ⟨m.1,λi=>by have:=m.2;omega⟩));exact Av (AB (w _ ⟨m,λi=>by dsimp only at i;omega⟩))
 have e:SR B x.1 (f.1,s.1.2)/\(f.2.1=2->f.1.2.2.2.2.2.1=x.1.1.2.2.2.2.2.1):=⟨j,λi=>by rw[z (.inl i),o]⟩
 refine AQ (λD_=>k _ (λr hr=>hr) 4 g! D_) (λ_=>AQ (λp=>?_) (λ_=>AB e));refine AQ (λ_=>k _ (λr hr=>hr) 1 g! p) (λ_=>AQ (λ_=>k _ (λr hr=>hr) 1 g! p) (λ_=>AB e))
def cz{x:AP}(h:SK B x)(d:Dd x.2.2.1):An (Lb x) λr=>r.2.2=0->KL B x r.1:=by unfold Lb;refine AA (B3 h.sb) λv e=>AO (λ_=>AB n!) (λb=>AC (λ_=>AB n!) (λ_=>AA Tb λf c=>AK (λb=>AB λa=>N! a b) (λa=>AB λ_=>⟨rfl,LX.refl _,⟨h.1,?_,h.2.2⟩,d⟩)));have:=(c a).2;dsimp only;omega
def dH{x:AS}(h:SK B x.1)(e:Dd x.1.2.2.1)(d:DJ B x.1.2.2.1 x.2):An (Lh x) λr=>r.2.2=0->SR B x r.1:=by unfold Lh;refine AA (cz h e) λf b=>AK (λc=>AB λa=>N! a c) (λa=>AB λ_=>⟨b a,d.up (b a).2.1⟩)
def c7{x:AP×Int}(h:SK B x.1)(n:Dd x.1.2.2.1):An (Lc x) λr=>r.2.2=0->KL B x.1 r.1/\PE x.1.2.2.2.1/\mc x.1.2.2.2.1 x.2/\(∃f∈r.1.2.2.2.1.2.1,f.1=r.2.1)/\r.2.1.2.1<=r.1.2.2.1.2.2:=by
 unfold Lc;refine AA (B3 h.sb) λv q=>AO (λ_=>AB n!) (λp=>AA Ia λs o=>AO (λ_=>AB n!) (λj=>?_));have⟨a,b,c,d,e⟩:=o.1 j;refine AA (Jn h n) λt i=>AB λ_=>⟨i.1.kl,a,c,by dsimp only;rw[i.2.1];exact e,i.2.2 ?_⟩
 have⟨f,m,k⟩:=e;have g:=h.ki.2.2 f m;have:=E! (λz=>z.2.1) ((h.ki.2.1 f.1.1 g.1 g.2.1).1 f m rfl);have:=kW n f.1.1;rw[J5,k]at*;dsimp only;omega
def dJ{x:AS×Int}(h:SK B x.1.1)(j:Dd x.1.1.2.2.1)(i:DJ B x.1.1.2.2.1 x.1.2):An (Lj x) λr=>r.2=0->SR B x.1 r.1:=by unfold Lj;refine AA (c7 h j) λn l=>AK (λm=>AB λe=>N! e m) (λe=>?_);have⟨a,b,c,d,k⟩:=l e;refine AA FJ λo f=>AA (AI (f.2.2.2 b c) f.2.1) λp _=>AO (λ_=>AB λ_=>⟨KL.refl h j,i⟩) (λ_=>AA (Tf a.2.2.1 a.2.2.2 (i.up a.2.1) d k) λq g=>AB λe=>⟨a.trans (g e).1.kl,(g e).2.1⟩)
end Go.Pm
namespace Go.Pm
open Go Go.Ab
def VDs(l:List Ae)(p:Int):Prop:=∀(i:Nat)(d:Ae),l[i]?=δ d->((i:Int)<=d.1/\d.1<p/\1<=d.2.1/\d.2.1<=d.2.2/\d.2.2<=1099511627776)/\∀f,0<i->l[i-1]?=δ f->f.1<d.1
def VIs(x:Be):Prop:=1<=θ x/\θ x<=64/\∀r∈x,(0<=r.1/\r.1<=1099511627776)/\(0<=r.2.1/\r.2.1<=1099511627776)/\0<=r.2.2/\r.2.2<=1099511627776
def VDs.len{l:List Ae}{p:Int}(h:VDs l p)(b:p<=64):θ l<=64:=by refine TD λa=>?_;have:=(h (θ l-1) _ (As o!)).1;omega
def AJO{l:List Ae}{p:Int}(A_:θ l<=16777216):An (Ez (l,p)) λr=>r=ζ->VDs l p:=by
 refine AA (P:=λr=>r=.inl η\/(r=.inr ()/\VDs l p)) ?_ λr hr=>?_
 ·refine Cb (λ(s:Int)=>0<=s/\s<=θ l/\∀(i:Nat)(d:Ae),(i:Int)<s->l[i]?=δ d->((i:Int)<=d.1/\d.1<p/\1<=d.2.1/\d.2.1<=d.2.2/\d.2.2<=1099511627776)/\∀f,0<i->l[i-1]?=δ f->f.1<d.1) (λs=>((θ l:Int)-s).toNat) ⟨AX _,o!,λi d y=>o!⟩ (λs w=>?_);have⟨t,B,m⟩:=w;unfold Gp;dsimp[len];refine AC (λn=>?_) (λn=>An.done (.inr ⟨rfl,λi d a=>m i d (by have:=Cd a;omega) a⟩));obtain⟨k,rfl⟩:=FC t;refine AA (AI t n) λv g=>?_;have g:=g.1;rw[Cz]at g;refine AC (λ_=>An.done (.inl rfl)) (λC=>AC (λ_=>An.done (.inl rfl)) (λD_=>AC (λ_=>An.done (.inl rfl)) (λE=>AC (λ_=>An.done (.inl rfl)) (λF=>AC (λ_=>An.done (.inl rfl)) (λG=>?_)))));rw[AW (x:=(k:Int)+1)];have b:((k:Int)<=v.1/\∀f,0<k->l[k-1]?=δ f->f.1<v.1)->∀(i:Nat)(d:Ae),(i:Int)<(k:Int)+1->l[i]?=δ d->((i:Int)<=d.1/\d.1<p/\1<=d.2.1/\d.2.1<=d.2.2/\d.2.2<=1099511627776)/\∀f,0<i->l[i-1]?=δ f->f.1<d.1:=λq i d y a=>by by_cases h:i=k;subst h;rw[g]at a;cases a;exact⟨⟨q.1,o!⟩,q.2⟩;exact m i d o! a
  refine AC (λe=>?_) (λe=>An.next ⟨o!,o!,b ⟨o!,λf u=>N! u o!⟩⟩ o!);rw[AW (x:=(k:Int)-1)];refine AA (AI) λz c=>?_;have c:=c.1;rw[show((k:Int)-1).toNat=k-1 by omega]at c;refine AC (λ_=>An.done (.inl rfl)) (λH=>?_);have j:=(m (k-1) z o! c).1.1;refine An.next ⟨o!,o!,b ⟨o!,λf _ o=>?_⟩⟩ o!
  rw[c]at o;cases o;omega
 grind[BG,AB,Av]
def ADZ{x:Int}:An (Gj x) λr=>r=ζ->0<=x/\x<=1099511627776:=by refine AC (λh=>AB λa=>⟨o!,M! a⟩) (λ_=>AB λa=>by cases a)
def AHd{x:Be}:An (Dq x) λr=>r=ζ->VIs x:=by
 refine AC (λ_=>AB λa=>by cases a) (λd=>AC (λ_=>AB λa=>by cases a) (λe=>?_));simp[len]at d e;refine AA (P:=λr=>r=.inl η\/(r=.inr ()/\VIs x)) ?_ λr hr=>?_
 ·refine Cb (λ(s:Int)=>0<=s/\s<=θ x/\∀r∈x.take s.toNat,(0<=r.1/\r.1<=1099511627776)/\(0<=r.2.1/\r.2.1<=1099511627776)/\0<=r.2.2/\r.2.2<=1099511627776) (λs=>((θ x:Int)-s).toNat) ⟨AX _,o!,λr hr=>by simp at hr⟩ (λs g=>?_);have⟨i,p,c⟩:=g;unfold I9;dsimp[len];refine AC (λb=>?_) (λb=>An.done (.inr ⟨rfl,o!,o!,by rw[BK o!]at c;exact c⟩));refine AA (AI i b) λv h=>AA ADZ λj m=>AO (λ_=>An.done (.inl rfl)) (λq=>AA ADZ λk n=>AO (λ_=>An.done (.inl rfl)) (λt=>AA ADZ λl o=>AO (λ_=>An.done (.inl rfl)) (λu=>?_)));rw[AW (x:=s+1)];have f:∀r∈x.take (s+1).toNat,(0<=r.1/\r.1<=1099511627776)/\(0<=r.2.1/\r.2.1<=1099511627776)/\0<=r.2.2/\r.2.2<=1099511627776:=λr hr=>by rw[show(s+1).toNat=s.toNat+1 by omega,CI,h.1]at hr;grind
  grind[AQ,An.next,AK,An.done]
 grind[BG,AB,Av]
def VCk(c:CL):Prop:=1<=c.1/\c.1<=64/\1<=c.2.1/\c.2.1<=1073741825/\VDs c.2.2.2.1 c.1/\VIs c.2.2.2.2/\θ c.2.2.2.2=c.1
def AI3{c:CL}(d:θ c.2.2.2.1<=16777216):An (Gy c) λr=>r=ζ->VCk c:=by refine AC (λ_=>AB λa=>by cases a) (λf=>AC (λ_=>AB λa=>by cases a) (λg=>AC (λ_=>AB λa=>by cases a) (λh=>AC (λ_=>AB λa=>by cases a) (λi=>AA Dn λo b=>AO (λ_=>AB λa=>by cases a) (λe=>AA (AJO d) λp j=>AO (λ_=>AB λa=>by cases a) (λl=>AA AHd λq k=>AO (λ_=>AB λa=>by cases a) (λm=>AK (λ_=>AB λa=>by cases a) (λn=>AA (Qg ⟨AX _,o!,by have:=(b e).1;omega⟩) λr hr=>?_))))))));grind[VCk,A9,AB]
def dB(d:Ae):BV:=DZ d.1 1++(DZ d.2.1 8++DZ d.2.2 8)
def rB(r:BW):BV:=DZ r.1 8++(DZ r.2.1 8++DZ r.2.2 8)
def ul(l:List Ae):BV:=(l.map dB).flatten
def qW(l:List BW):BV:=(l.map rB).flatten
def AG1(d:Ae):(dB d).length=17:=rfl
def AHU(r:BW):(rB r).length=24:=rfl
def AC8(l:List Ae)(d:Ae):ul (l++[d])=ul l++dB d:=by grind[ul,List.flatten_append]
def AEA(l:List BW)(d:BW):qW (l++[d])=qW l++rB d:=by grind[qW,List.flatten_append]
def xh(l:List Ae)(d:Ae):ul (d::l)=dB d++ul l:=rfl
theorem yb(l:List BW)(d:BW):qW (d::l)=rB d++qW l:=rfl
theorem kT:∀l:List Ae,(ul l).length=17*θ l
 |[]=>rfl
 |d::l=>by rw[xh,Af,AG1,kT l,Cg];omega
theorem rA:∀l:List BW,(qW l).length=24*θ l
 |[]=>rfl
 |d::l=>by rw[yb,Af,AHU,rA l,Cg];omega
def i8r{n:Int}(a:0<=n)(b:n<=1099511627776):dc 8 n:=⟨n!,o!⟩
def i1r{n:Int}(a:0<=n)(b:n<256):dc 1 n:=⟨λ_=>q!,o!⟩
def i2r{n:Int}(a:0<=n)(b:n<65536):dc 2 n:=⟨λ_=>q!,o!⟩
def i4r{n:Int}(a:0<=n)(b:n<4294967296):dc 4 n:=⟨λ_=>q!,o!⟩
def AFD{x:Be}(h:VIs x):An (Hs x) λr=>r.1=DZ (θ x:Int) 2++qW x\/r.1=[]:=by
 have⟨c,d,e⟩:=h;refine AA AHd λi b=>AO (λ_=>AB (.inr rfl)) (λ_=>?_);rw[HZ k! g! g!,AD,CY];refine AA (P:=λr=>r=DZ (θ x:Int) 2++qW x) (Cb (λ(s:BV×Int)=>∃k:Nat,k<=θ x/\s=(DZ (θ x:Int) 2++qW (x.take k),(k:Int))) (λs=>θ x-s.2.toNat) ⟨0,Bo _,by simp[qW]⟩ ?_) λr hr=>AB (.inl hr);rintro s ⟨k,f,rfl⟩;unfold IK;dsimp[len];refine AC (λa=>?_) (λa=>An.done q!);have g:(DZ (θ x:Int) 2++qW (x.take k)).length<=2000:=by grind[List.length_append,A3,rA,List.length_take]
 rw[(by unfold ix;rw[C! o!,Int.toNat_natCast,List.getElem?_eq_getElem o!]:ix x (k:Int)=δ x[k]),Option.bind_some,HZ o! g! g!,Option.bind_some,Option.bind_some,HZ (by rw[List.length_append,A3];simp only[Int.reduceToNat];omega) g! g!,Option.bind_some,Option.bind_some,HZ (by rw[List.length_append,List.length_append,A3,A3];simp only[Int.reduceToNat];omega) g! g!,Option.bind_some,AW];refine An.next ⟨k+1,o!,?_⟩ o!
 rw[(by simp_all:x.take (k+1)=x.take k++[x[k]]),AEA];simp only[A5];exact DX rfl o!
def AE8{x:Be}(h:VIs x):An (EO (DZ (θ x:Int) 2++qW x)) λr=>r.2=0->r.1=x:=by
 have⟨w,y,m⟩:=h;have B:(DZ (θ x:Int) 2++qW x).length=2+24*θ x:=by rw[Af,A3,rA]
 unfold EO;have d:=(jj (x:=DZ (θ x:Int) 2++qW x) (p:=[]) (rest:=qW x) (at_:=0) (k:=2) (n:=(θ x:Int)) rfl rfl o! g! g! (i2r o! o!)).1;rw[show(((2:Nat)):Int)=2 from rfl]at d;rw[d,AD];have t:wi (len (DZ (θ x:Int) 2++qW x)-2)=24*(θ x:Int):=by grind[AW]
 have u:wi (24*((θ x:Int),(0:Int)).1)=24*(θ x:Int):=AW q!;rw[show((((θ x:Int),(0:Int)):Int×Int).2 !=0)=η from rfl,A!,F! o!,A!,F! o!,A!];refine AA (P:=λr=>r=x) ?_ λr hr=>?_
 ·refine Cb (λ(s:Int×List BW)=>∃k:Nat,k<=θ x/\s=((k:Int),x.take k)) (λs=>θ x-s.1.toNat) ⟨0,Bo _,rfl⟩ ?_;rintro s ⟨k,A_,rfl⟩;unfold IJ;dsimp only;refine AC (λq=>?_) (λq=>An.done (by rw[BK o!]));have b:k<θ x:=o!
  have a:(qW (x.take k)).length=24*k:=by grind[rA,List.length_take]
  have c:DZ (θ x:Int) 2++qW x=(DZ (θ x:Int) 2++qW (x.take k))++(DZ x[k].1 8++(DZ x[k].2.1 8++(DZ x[k].2.2 8++qW (x.drop (k+1))))):=by rw[(by grind[yb,List.drop_eq_getElem_cons,qW,List.flatten_append,List.take_append_drop]:qW x=qW (x.take k)++(rB x[k]++qW (x.drop (k+1))))];unfold rB;simp[A5]
  have⟨i,j,l⟩:=m x[k] (Pa b);have e:=(jj (at_:=2+24*(k:Int)) (k:=8) c (by rw[Af,A3,a];omega) o! g! g! (i8r i.1 i.2)).1;rw[<-A5]at c;have f:=(jj (at_:=10+24*(k:Int)) (k:=8) c (by simp[Af,A3,a];omega) o! g! g! (i8r j.1 j.2)).1;rw[<-A5]at c;have g:=(jj (at_:=18+24*(k:Int)) (k:=8) c (by simp[Af,A3,a];omega) o! g! g! (i8r l.1 l.2)).1;rw[show(((8:Nat)):Int)=8 from rfl]at e f g;rw[AW (x:=24*(k:Int)),AW (x:=2+24*(k:Int)),AW (x:=10+24*(k:Int)),AW (x:=18+24*(k:Int)),e,AD,f,AD,g,AD,AW (x:=(k:Int)+1)];refine AA (Ac (by rw[BJ];simp;omega)) λC o=>An.next ⟨k+1,b,?_⟩ d!
  rw[o.1,(by simp_all:x.take (k+1)=x.take k++[x[k]])];exact DX d! rfl
 subst hr;exact AA AHd λD_ z=>AO (λ_=>AB λv=>N! (show(28:Int)=0 from v) g!) (λ_=>AB λ_=>rfl)
def AFE{c:CL}(l:θ c.2.2.2.1<=16777216):An (GV c) λr=>θ r.1<=8192->r.1=[]\/(VCk c/\∃b g:BV,r.1=DZ c.1 2++(DZ c.2.1 4++(DZ (θ b:Int) 4++(b++(DZ (θ c.2.2.2.1:Int) 1++(ul c.2.2.2.1++g)))))/\(g=DZ (θ c.2.2.2.2:Int) 2++qW c.2.2.2.2\/g=[])):=by
 unfold GV;refine AA (AI3 l) λB n=>AO (λ_=>AB λ_=>.inl rfl) (λe=>?_);have m:=n e;have⟨a1,a2,a3,a4,a5,a6,a7⟩:=id m;have t:=a5.len a2;refine AA SG λx z=>?_;rw[HZ k! g! g!,AD,CY,HZ (by rw[A3];decide) g! g!,AD,HZ (by simp only[Af,A3];decide) g! g!,AD];refine AA (Co (by simp[Af,A3,Int.reduceToNat];omega)) λj q=>?_;have w:=q.2;simp[Af,A3,Int.reduceToNat]at w;dsimp[len];rw[HZ o! g! g!,AD];refine AA (P:=λr=>r=j++(DZ (θ c.2.2.2.1:Int) 1++ul c.2.2.2.1)) ?_ λh o=>?_
 ·refine Cb (λ(s:BV×Int)=>∃k:Nat,k<=θ c.2.2.2.1/\s=(j++(DZ (θ c.2.2.2.1:Int) 1++ul (c.2.2.2.1.take k)),(k:Int))) (λs=>θ c.2.2.2.1-s.2.toNat) ⟨0,Bo _,by simp[ul]⟩ ?_;rintro s ⟨k,A_,rfl⟩;unfold IM;dsimp[len];refine AC (λe=>?_) (λe=>An.done q!);have a:k<θ c.2.2.2.1:=o!
  have u:ix c.2.2.2.1 (k:Int)=δ c.2.2.2.1[k]:=by unfold ix;rw[C! o!,Int.toNat_natCast,List.getElem?_eq_getElem a]
  have l:(j++(DZ (θ c.2.2.2.1:Int) 1++ul (c.2.2.2.1.take k))).length<=100000000:=by grind[List.length_append,A3,kT,List.length_take]
  rw[u,AD,HZ o! g! g!,AD,AD,HZ (by rw[Af,A3];simp only[Int.reduceToNat];omega) g! g!,AD,AD,HZ (by rw[Af,Af,A3,A3];simp only[Int.reduceToNat];omega) g! g!,AD,AW];refine An.next ⟨k+1,a,?_⟩ q!
  have f:c.2.2.2.1.take (k+1)=c.2.2.2.1.take k++[c.2.2.2.1[k]]:=t!
  rw[f,AC8];unfold dB;grind[List.append_assoc,Prod.ext]
 refine AA (SD.and (AFD a6)) λi d=>?_;have v:θ h<=100000000:=by grind[List.length_append,A3,kT]
 refine AA (Co o!) λy p=>AB λ_=>.inr ⟨m,x.1,i.1,?_,d.2⟩;grind[List.append_assoc]
def AE9{c:CL}(Q:VCk c){b l s:BV}(J:s=DZ c.1 2++(DZ c.2.1 4++(DZ (θ b:Int) 4++(b++(DZ (θ c.2.2.2.1:Int) 1++(ul c.2.2.2.1++l))))))(X_:θ s≤8192)(v:l=DZ (θ c.2.2.2.2:Int) 2++qW c.2.2.2.2∨l=[]):
  An (C5 s) λr=>r.2=0->r.1.1=c.1/\r.1.2.2.2.1=c.2.2.2.1/\r.1.2.2.2.2=c.2.2.2.2:=by
 obtain⟨a1,a2,a3,a4,a5,a6,a7⟩:=id Q;have O:=a5.len a2;have d:=J;have y:=E! θ J;simp only[Af,A3,kT]at y;have F:=(jj (x:=s) (p:=[]) (at_:=0) (k:=2) (n:=c.1) (show s=[]++(DZ c.1 2++_)from d) rfl o! g! g! (i2r o! o!)).1;have G:=(jj (at_:=2) (k:=4) (n:=c.2.1) d (by rw[A3];rfl) o! g! g! (i4r o! o!)).1;rw[<-A5]at d;have H:=(jj (at_:=6) (k:=4) (n:=(θ b:Int)) d (by rw[Af,A3,A3];rfl) o! g! g! (i4r o! o!)).1;rw[<-A5,<-A5]at d;have I:=(jj (at_:=10+(θ b:Int)) (k:=1) (n:=(θ c.2.2.2.1:Int)) d (by simp only[Af,A3];omega) o! g! g! (i1r o! o!)).1;rw[<-A5]at d;rw[show(((2:Nat)):Int)=2 from rfl]at F;rw[show(((4:Nat)):Int)=4 from rfl]at G H;rw[show(((1:Nat)):Int)=1 from rfl]at I;have w:((((DZ c.1 2++DZ c.2.1 4)++DZ (θ b:Int) 4)++b)++DZ (θ c.2.2.2.1:Int) 1).length=11+θ b:=by simp only[Af,A3];omega
 generalize V:(((DZ c.1 2++DZ c.2.1 4)++DZ (θ b:Int) 4)++b)++DZ (θ c.2.2.2.1:Int) 1=P at d w;unfold C5;rw[F,AD,G,AD,H,AD];dsimp only[len];rw[show((0:Int) !=0)=η by decide,A!,AW (x:=(θ s:Int)-10),F! o!,A!,AW (x:=10+(θ b:Int))];refine AA (C3 g!) λv3 L=>?_;rw[I,AD];dsimp only;rw[show((0:Int) !=0)=η by decide,A!,AW (x:=(θ s:Int)-(10+(θ b:Int))),AW (x:=(θ s:Int)-(10+(θ b:Int))-1),AW (x:=17*(θ c.2.2.2.1:Int)),F! o!,A!,AW (x:=10+(θ b:Int)+1)];refine AA (P:=λr=>r=((θ P:Int)+17*θ c.2.2.2.1,c.2.2.2.1,c.1,c.2.1,[],[])) ?_ λR m=>?_
 ·refine Cb (λ(q:Int×Int×List Ae×Int×Int×List Aj×Be)=>∃k:Nat,k<=θ c.2.2.2.1/\q=((θ P:Int)+17*k,(k:Int),c.2.2.2.1.take k,c.1,c.2.1,[],[])) (λq=>θ c.2.2.2.1-q.2.1.toNat) ⟨0,Bo _,?_⟩ ?_;refine DX ?_ rfl;dsimp only;omega;rintro q ⟨k,W,rfl⟩;unfold MF;dsimp only;refine AC (λN=>?_) (λN=>An.done (by rw[BK o!,show k=θ c.2.2.2.1 by omega]));have e:k<θ c.2.2.2.1:=o!
  have z:ul c.2.2.2.1=ul (c.2.2.2.1.take k)++(dB c.2.2.2.1[k]++ul (c.2.2.2.1.drop (k+1))):=by rw[<-xh,<-Qv e];unfold ul;rw[<-List.flatten_append,<-Mr,De]
  have f:(ul (c.2.2.2.1.take k)).length=17*k:=by rw[kT,BJ];omega
  have i:s=(P++ul (c.2.2.2.1.take k))++(DZ c.2.2.2.1[k].1 1++(DZ c.2.2.2.1[k].2.1 8++(DZ c.2.2.2.1[k].2.2 8++(ul (c.2.2.2.1.drop (k+1))++l)))):=by rw[d,z];unfold dB;simp only[A5]
  obtain⟨Y_,Z,q3,q4,q5⟩:=(a5 k _ (As e)).1;have C:=(jj (at_:=(θ P:Int)+17*k) (k:=1) i (by rw[Af,f];omega) o! g! g! (i1r o! o!)).1;rw[<-A5]at i;have D_:=(jj (at_:=(θ P:Int)+17*k+1) (k:=8) i (by simp only[Af,A3,f];omega) o! g! g! (i8r o! o!)).1;rw[<-A5]at i;have E:=(jj (at_:=(θ P:Int)+17*k+9) (k:=8) i (by simp only[Af,A3,f];omega) o! g! g! (i8r o! o!)).1;rw[show(((1:Nat)):Int)=1 from rfl]at C;rw[show(((8:Nat)):Int)=8 from rfl]at D_ E;rw[C,AD,AW (x:=(θ P:Int)+17*k+1),D_,AD,AW (x:=(θ P:Int)+17*k+9),E,AD,AW (x:=(θ P:Int)+17*k+17),AW (x:=(k:Int)+1)];refine AA (Ac (by rw[BJ];simp;omega)) λv5 M=>An.next ⟨k+1,e,?_⟩ d!
  have B:c.2.2.2.1.take (k+1)=c.2.2.2.1.take k++[c.2.2.2.1[k]]:=by rw[CI,As e];rfl
  rw[M.1,B];refine DX ?_ (DX ?_ rfl);dsimp only;omega;dsimp only;omega
 subst m;refine AA (SE (by rw[L.1,BJ,EY];omega)) λS _=>AK (λg=>AB λh=>N! h g) (λ_=>?_);dsimp only;have A_:Ui s ((θ P:Int)+17*(θ c.2.2.2.1:Int)) (θ s:Int)=δ l:=by
  unfold Ui;rw[C! o!,d,<-A5];have u:(P++ul c.2.2.2.1).length=((θ P:Int)+17*(θ c.2.2.2.1:Int)).toNat:=by rw[Af,kT];omega
  rw[<-u,Qw,BK (by rw[Af];omega)]
 rw[A_,AD];rcases v with rfl|rfl;refine AA ((SC o!).and (AE8 a6)) λT o=>AK (λg=>AB λh=>N! h g) (λj=>AA (OD d!) λU _=>AO (λ_=>AB λh=>N! (show(24:Int)=0 from h) g!) (λ_=>AB λ_=>⟨rfl,rfl,o.2 j⟩));have K:EO []=δ ([],5):=by unfold EO;have:=ig (a:=[]) (t:=[]) (k:=2) g! g! g!;rw[Dl,D! g!]at this;rw[show((([]:BV).length:Nat):Int)=0 from rfl]at this;rw[this];rfl
 rw[K,AD];exact AB λh=>N! (show(5:Int)=0 from h) g!
variable {B:Int->Prop}
def cu{x:Bj}:An (LV x) λr=>θ r<=64/\(∀d∈r,∃f∈x.2.1,f.1.1=d.1/\d.2.2=f.1.2.1)/\(PE x->∀f∈x.2.1,f.2.1=ζ->0<=f.1.1->f.1.1<64->∃d∈r,d.1=f.1.1):=by
 unfold LV;refine AA EB λv B=>AO (λm=>AB ⟨k!,k!,λo=>N! (B.2 o) (by simp[m])⟩) (λm=>?_);have o:=B.1 m;have R:=o.2.1;have S:=o.2.2.1;refine AA (P:=λr=>θ r<=64/\(∀d∈r,∃f∈x.2.1,f.1.1=d.1/\d.2.2=f.1.2.1)/\∀f∈x.2.1,f.2.1=ζ->0<=f.1.1->f.1.1<64->∃d∈r,d.1=f.1.1) ?_ λr hr=>AB ⟨hr.1,hr.2.1,λ_=>hr.2.2⟩;refine Cb (λ(s:Int×List Ae)=>0<=s.1/\s.1<=64/\θ s.2<=s.1/\(∀d∈s.2,∃f∈x.2.1,f.1.1=d.1/\d.2.2=f.1.2.1)/\∀f∈x.2.1,f.2.1=ζ->0<=f.1.1->f.1.1<s.1->∃d∈s.2,d.1=f.1.1) (λ(s:Int×List Ae)=>(64-s.1).toNat) ⟨AX _,u!,k!,k!,λf _ _ i k=>N! k d!⟩ (λs I=>?_);have⟨k,O,Q,p,q⟩:=I;unfold R9;rw[(AW (x:=s.1+1))];refine AC (λm=>?_) (λm=>An.done ⟨o!,p,λf h c i k=>q f h c i o!⟩);refine AA (GS d!) λL b=>AC (λa=>?_) (λa=>An.next ⟨d!,d!,d!,p,λf h c i k=>?_⟩ d!)
 ·have⟨g,A_,t⟩:=b.2.2.1 a;have D_:∀w,x.2.1[L.toNat]?=δ w->w=g:=λw C=>by rw[A_]at C;exact(BH C).symm
  refine AA (AI a b.2.1) λM y=>?_;have E:=D_ M y.1;subst E;refine AA (P:=λl=>θ l<=θ s.2+1/\(∀d∈l,∃f∈x.2.1,f.1.1=d.1/\d.2.2=f.1.2.1)/\∀f∈x.2.1,f.2.1=ζ->0<=f.1.1->f.1.1<s.1+1->∃d∈l,d.1=f.1.1) ?_ λV H=>An.next ⟨d!,d!,d!,H.2⟩ d!
  refine AJ (λn=>?_) (λn=>AB ⟨o!,p,λf h c i k=>?_⟩);refine AA (AI a b.2.1) λT _=>AA (AI a b.2.1) λN z=>?_;have F:=D_ N z.1;subst F;refine AA (Ac w!) λU G=>AB ⟨?_,λd c=>?_,λf h c i k=>?_⟩;grind;grind;rw[G.1];by_cases e:f.1.1<s.1;have⟨d,J,K⟩:=q f h c i e;grind[List.mem_append_left];exact⟨_,Mt _ (A7.2 rfl),d!⟩;by_cases e:f.1.1<s.1;exact q f h c i e;have⟨j,u⟩:=Ci h;have:=o.uniq u A_ (by dsimp only at t;omega);subst this;rw[n]at c;cases c
 by_cases e:f.1.1<s.1;grind;have⟨j,u⟩:=Ci h;exact N! ⟨j,f,u,by dsimp only at k⊢;omega⟩ (b.2.2.2 o!)
def je{x:AP}(h:SK B x):An (O3 x) λr=>r.2=0->θ r.1.2.2.2.1<=16777216/\r.1.1=x.1/\w8 x.1 x.2.2.1.2.1 r.1.2.2.2.1 r.1.2.2.2.2:=by
 unfold O3;refine AA (B3 h.sb) λv hv=>AO (λ_=>AB n!) (λo=>?_);have J:=hv o;have ad:=J.2.1;have⟨af,n,H⟩:=h.ki;refine AA (P:=λr=>θ r.1<=16777216/\r.2=(x.1,x.2.1,x.2.2.2.2.2.1,x.2.2.2.2.2.2.1)/\(∀d∈r.1,d.2.2=BQ x.2.2.1.2.1 d.1)/\∀p,0<=p->p<x.1->(∀d∈r.1,d.1≠p)->(∀d∈x.2.2.2.2.2.2.2,d.1≠p)/\∀f∈x.2.2.2.1.2.1,f.1.1=p->f.2.1=η) ?_ λr hr=>AB λ_=>⟨hr.1,by rw[hr.2.1],λp g i=>⟨λd a e=>by rw[hr.2.2.1 d a,e],λw D_=>?_⟩⟩
 rotate_left 1;dsimp only at D_;rw[hr.2.1]at D_;have⟨_,_,c⟩:=n p g i;exact⟨(c w D_).1,λa=>(c w D_).2 (hr.2.2.2 p g i a).1 (hr.2.2.2 p g i a).2⟩;refine Cb (λ(s:Int×List Ae×Int×Int×List Aj×Be)=>0<=s.1/\s.1<=x.1/\θ s.2.1<=65*s.1/\s.2.2=(x.1,x.2.1,x.2.2.2.2.2.1,x.2.2.2.2.2.2.1)/\(∀d∈s.2.1,d.2.2=BQ x.2.2.1.2.1 d.1)/\∀p,0<=p->p<s.1->(∀d∈s.2.1,d.1≠p)->(∀d∈x.2.2.2.2.2.2.2,d.1≠p)/\∀f∈x.2.2.2.1.2.1,f.1.1=p->f.2.1=η) (λ(s:Int×List Ae×Int×Int×List Aj×Be)=>(x.1-s.1).toNat) ⟨AX _,by have:=J.1;dsimp only;omega,k!,rfl,k!,λp g i=>N! i d!⟩ (λs hI=>?_);have⟨h1,h2,h3,S,T,b⟩:=hI;unfold VC;have e:=AW (x:=s.1+1);rw[e];refine AC (λo=>?_) (λ_=>An.done ⟨o!,S,T,λp g i=>b p g o!⟩);refine AA (Jo h.sb) λv2 y=>AA (P:=λl=>θ l.1<=θ s.2.1+1/\l.2=s.2.2/\(∀d∈l.1,d.2.2=BQ x.2.2.1.2.1 d.1)/\(∀d∈s.2.1,d∈l.1)/\((∀d∈l.1,d.1≠s.1)->∀d∈x.2.2.2.2.2.2.2,d.1≠s.1)) ?_ λX_ F=>?_;refine AJ (λm=>AA (Ac w!) λv6 b=>AB ?_) (λm=>AB ⟨o!,rfl,T,λd a=>a,λ_=>y.2 m⟩);have⟨q1,N⟩:=y.1 m;have K:=b.2.1;simp at K;refine⟨d!,rfl,λd a=>?_,λd a=>by dsimp only;rw[b.1];exact Ff _ a,λhn=>N! N (hn _ (by dsimp only;rw[b.1];exact Mt _ (A7.2 rfl)))⟩;dsimp only at a;rw[b.1,Ao]at a;rcases a with a|a;grind;rw[A7]at a;subst a;exact(n _ (by dsimp only at N;omega) (by dsimp only at N;omega)).2.1 _ q1 rfl;have⟨a1,a2,a3,a4,a5⟩:=F;refine AA cu λE L=>?_;have⟨b1,Z,b3⟩:=L;refine AA (P:=λl=>θ l.1<=θ s.2.1+65/\l.2=s.2.2/\(∀d∈l.1,d.2.2=BQ x.2.2.1.2.1 d.1)/\(∀d∈X_.1,d∈l.1)/\∀d∈E,d.1=s.1->d∈l.1) ?_ λag k=>An.next ⟨d!,d!,d!,by dsimp only;rw[k.2.1,S],k.2.2.1,λp g i hn=>?_⟩ d!
 rotate_left 1;have⟨_,_,_,O,c5⟩:=k;dsimp only at i hn;by_cases u:p<s.1;exact b p g u λd a=>hn d (O d (a4 d a));have ep:p=s.1:=o!
 subst ep;refine⟨a5 λd a=>hn d (O d a),λf C R=>?_⟩;cases hb:f.2.1 with
 |false=>rfl
 |true=>have⟨d,G,q⟩:=b3 J.2.2.2.1 f C hb o! o!;exact N! (q.trans R) (hn d (c5 d G (q.trans R)))
 refine Cb (λ(t:Int×List Ae×Int×Int×List Aj×Be)=>0<=t.1/\t.1<=θ E/\θ t.2.1<=θ s.2.1+1+t.1/\t.2.2=s.2.2/\(∀d∈t.2.1,d.2.2=BQ x.2.2.1.2.1 d.1)/\(∀d∈X_.1,d∈t.2.1)/\∀(j:Nat)(d:Ae),(j:Int)<t.1->E[j]?=δ d->d.1=s.1->d∈t.2.1) (λ(t:Int×List Ae×Int×Int×List Aj×Be)=>((θ E:Int)-t.1).toNat) ⟨AX _,d!,d!,a2,a3,λd a=>a,λj d I=>N! I d!⟩ (λt hJ=>?_);have⟨j1,j2,j3,V,M,W,j7⟩:=hJ;unfold VD;have e2:=AW (x:=t.1+1);rw[e2];refine AC (λo=>?_) (λo=>An.done ⟨o!,V,M,W,λd a Q=>?_⟩);rotate_left 1;grind[List.getElem?_of_mem,Cd];simp[len]at o;refine AA (AI j1 o) λY_ z=>AA (P:=λl=>θ l.1<=θ t.2.1+1/\l.2=t.2.2/\(∀d∈l.1,d.2.2=BQ x.2.2.1.2.1 d.1)/\(∀d∈t.2.1,d∈l.1)/\(Y_.1=s.1->Y_∈l.1)) ?_ λv9 A_=>An.next ⟨d!,d!,d!,A_.2.1.trans V,A_.2.2.1,λd a=>A_.2.2.2.1 d (W d a),λj d I a Q=>?_⟩ d!
 rotate_left 1;dsimp only at I;by_cases u:(j:Int)<t.1;grind;have:j=t.1.toNat:=o!
 subst this;rw[z.1]at a;have:=BH a;subst this;exact A_.2.2.2.2 Q;refine AQ (λU=>AA (Ac w!) λv6 b=>AB ?_) (λU=>AB ⟨o!,rfl,M,λd a=>a,λe=>N! e U⟩);have K:=b.2.1;simp at K;refine⟨d!,rfl,λd a=>?_,λd a=>by dsimp only;rw[b.1];exact Ff _ a,λ_=>by dsimp only;rw[b.1];exact Mt _ (A7.2 rfl)⟩;dsimp only at a;rw[b.1,Ao]at a;rcases a with a|a;exact M d a;rw[A7]at a;subst a;have⟨f,C,f1,f2⟩:=Z d z.2;have hr:=H f C;rw[f2,(n d.1 o! o!).1 f C f1,J5]
theorem AFA:∃c e,C5 []=δ (c,e)/\e≠0:=⟨(0,0,[],[],[]),5,by kernel_rfl,g!⟩
def ft{x:AP}(h:SK B x):An (Qf x) λr=>r.2.2=0->KL B x r.1:=by
 refine AA (je h) λO u=>AK (λb=>AB λa=>N! a b) (λa=>?_);have⟨o,N,C⟩:=u a;refine AA ((aU o).and (AFE o)) λG j=>AC (λ_=>AB n!) (λf=>?_);simp[len]at f;have d:∀c,C5 G.1=δ (c,0)->c.1=x.1->w8 x.1 x.2.2.1.2.1 c.2.2.2.1 c.2.2.2.2:=by intro c b _;rcases j.2 o! with e|⟨g,F,M,A_,i⟩;grind[AFA,Option.some.inj];have⟨_,D_,E⟩:=(AE9 g A_ o! i).get b rfl;rw[D_,E];exact C
 refine AA (Fi h.sb) λP v=>AK (λb=>AB λa=>N! a b) (λa=>?_);have⟨_,⟨a1,a2,a3,a4,a5,a6,a7,a8,e,k,s,t,l,K,m,L⟩,w⟩:=v a;dsimp only at a1 a2 a4 a7 k s t l m w;have y:=a2.1;refine AA (Jk.and (rK a3 q!)) λQ n=>AB λ_=>?_;have⟨H,p,I,J,_⟩:=n.1 n.2;refine⟨a1,a2.trans (LX.of I p J),⟨a8.1,a8.2.1,a8.2.2,?_⟩,H⟩;unfold KI;rw[a1,a4,a7,p,k,m g!];refine⟨h.ki.1.app ⟨λq=>o!,λq=>o!,λ_=>?_,o!⟩,h.ki.2.1.app o!,h.ki.2.2⟩;rw[(E! (λz=>z.2.2) l)];exact d
def Wf{x:AS}(h:SK B x.1)(d:DJ B x.1.2.2.1 x.2):An (K9 x) λr=>r.2.2=0->SR B x r.1:=by exact AA (ft h) λe b=>AK (λc=>AB λa=>N! a c) (λa=>AB λ_=>⟨b a,d.up (b a).2.1⟩)
end Go.Pm
namespace Go.Pm
open Go Go.Ab
theorem aT{x:BV}(h:θ x<=1099511627776):An (C5 x) λr=>r.2=0->rQ r.1/\θ r.1.2.2.2.1<=65536:=by unfold C5;refine AA (DM h) λO _=>AA (DM h) λQ _=>AA (DM h) λc w=>AK (λa=>AB n!) (λj=>?_);have⟨a1,a2,a3,_⟩:=w j;have a4:=a3 q!;dsimp only at a1 a2;rw[(AW (x:=len x-10) q!)];refine AC (λa=>AB n!) (λa=>?_);simp[len]at a;rw[(AW (x:=10+c.1))];refine AA (C3 g!) λR y=>AA (DM h) λd z=>AK (λa=>AB n!) (λk=>?_);have⟨o,p,q,t⟩:=z k;have G:=q q!;have H:=t q!;dsimp only at o p;rw[(AW (x:=len x-(10+c.1)) q!)];rw[(AW (x:=len x-(10+c.1)-1) q!)];rw[(AW (x:=17*d.1))];refine AC (λa=>AB n!) (λi=>?_);simp[len]at i;rw[(AW (x:=10+c.1+1))];refine AA (P:=λr=>r.1=10+c.1+1+17*d.1/\θ r.2.1<=65536) ?_ λB e=>?_;refine AU (λ(s:Int×Int×List Ae×Int×Int×List Aj×Be)=>0<=s.2.1/\s.2.1<=d.1/\s.1=10+c.1+1+17*s.2.1/\θ s.2.2.1<=s.2.1) (λ(s:Int×Int×List Ae×Int×Int×List Aj×Be)=>(d.1-s.2.1).toNat) ⟨AX _,q!,q!,k!⟩ (λs A_=>?_);have⟨J,K,L,M⟩:=A_;unfold MF;refine AC (λa=>AA (DM h) λ_ _=>AA (DM h) λ_ _=>AA (DM h) λ_ _=>AA (Ac w!) λS I=>?_) (λa=>AB ⟨q!,q!⟩);grind[List.length_cons,List.length_nil,AW,AB];have N:=y.2;refine AA (SE o!) λC u=>AK (λa=>AB λb=>N! b a) (λm=>AA (C3 o! (by simp[len];omega) i!) λD_ f=>?_);have l:=f.2;simp[len]at l;exact AA (SC o!) λE v=>AK (λa=>AB λb=>N! b a) (λn=>AA (OD d!) λF g=>AO (λa=>AB n!) (λa=>AB λ_=>⟨g a,e.2⟩))
def L3.data{e:AE}(h:L3 e):θ e.2.2.2.2.2.2.2<=8192:=by have a:=h.2.2.2.2.2.2.2.2;grind[Ur]
def aV{x:AZ}:An (O2 x) λr=>r.2.2=ζ->(rQ r.1/\θ r.1.2.2.2.1<=65536)/\∃(i:Nat)(e:AE),x.2.1[i]?=δ e/\e.2.1=6/\e.1=r.2.1/\C5 e.2.2.2.2.2.2.2=δ (r.1,0):=by
 refine AA BP λv j=>AO (λ_=>AB λc=>by cases c) (λa=>?_);have f:=j.1 a;have g:=f.2.2.1;have e:=AW (x:=len x.2.1-1) q!;refine AA (P:=λr=>∀u,r=.inl u->(rQ u.2.2/\θ u.2.2.2.2.2.1<=65536)/\∃(i:Nat)(e:AE),x.2.1[i]?=δ e/\e.2.1=6/\e.1=u.1/\C5 e.2.2.2.2.2.2.2=δ (u.2.2,0)) ?_ λr hr=>A9 (λu b=>AB λ_=>hr u b) (λ_ _=>AB λc=>by cases c);refine AU (λ(s:Int×CL)=> -1<=s.1/\s.1<θ x.2.1) (λ(s:Int×CL)=>(s.1+1).toNat) ⟨q!,q!⟩ (λs d=>?_);unfold RW;rw[(AW (x:=s.1-1))];refine AC (λa=>?_) (λ_=>AB λu b=>by cases b);have k:((-1<=s.1-1/\s.1-1<θ x.2.1)/\(s.1-1+1).toNat<(s.1+1).toNat):=o!
 refine AA (AI a d.2) λo l=>AK (λ_=>AB k) (λm=>AA (AI a d.2) λp h=>?_);have n:=(f.2.2.2.2.2 _ _ h.1).2.data;grind[D6,aT,AQ,AA,AI,AB]
def DG2(x:List Ae×AE)(l:List Ae):Prop:=∀d∈l,(d.1=x.2.2.2.2.2.2.2.1.1/\d.2.2=x.2.1)\/(d.1≠x.2.2.2.2.2.2.2.1.1/\d∈x.1)
def DG1(x:List Ae×AE)(l:List Ae):Prop:=∀d∈l,∃c∈x.1,c.1=d.1/\c.2.2=d.2.2
def DK(x:List Ae×AE)(i:Int)(l:List Ae):Prop:=∀(j:Nat)(d:Ae),(j:Int)<i->x.1[j]?=δ d->d.1≠x.2.2.2.2.2.2.2.1.1->d∈l
def DG2.snoc{x:List Ae×AE}{l m:List Ae}{d:Ae}(h:DG2 x l)(e:m=l++[d])(b:(d.1=x.2.2.2.2.2.2.2.1.1/\d.2.2=x.2.1)\/(d.1≠x.2.2.2.2.2.2.2.1.1/\d∈x.1)):DG2 x m:=by subst e;intro c a;rcases Ao.1 a with a|a;exact h c a;grind
def DG1.snoc{x:List Ae×AE}{l m:List Ae}{d:Ae}(h:DG1 x l)(e:m=l++[d])(b:∃c∈x.1,c.1=d.1/\c.2.2=d.2.2):DG1 x m:=by subst e;intro c a;rcases Ao.1 a with a|a;exact h c a;grind
def DK.snoc{x:List Ae×AE}{l m:List Ae}{d:Ae}{i:Int}(h:DK x i l)(e:m=l++[d]):DK x i m:=λj c b a hn=>by rw[e];exact Ff _ (h j c b a hn)
def DK.next{x:List Ae×AE}{l:List Ae}{v:Ae}{i k:Int}(h:DK x i l)(d:0<=i)(f:k=i+1)(m:x.1[i.toNat]?=δ v)(g:v.1≠x.2.2.2.2.2.2.2.1.1->v∈l):DK x k l:=λj c e b hn=>by by_cases a:(j:Int)<i;exact h j c a b hn;grind
def YK{x:List Ae×AE}{s:Bool×Int×List Ae}(o:x.2.2.1=7)(h:0<=s.2.1/\s.2.1<=θ x.1/\θ x.1<=1000000/\θ s.2.2<=s.2.1+1/\(s.1=η->(θ s.2.2:Int)<=s.2.1)/\DG1 x s.2.2/\DK x s.2.1 s.2.2):An (Aa (FZ x) s) λr=>(θ r.2<=θ x.1+1/\(r.1=η->θ r.2<=θ x.1))/\DG1 x r.2/\DK x (θ x.1) r.2:=by
 refine AU (λ(s:Bool×Int×List Ae)=>0<=s.2.1/\s.2.1<=θ x.1/\θ x.1<=1000000/\θ s.2.2<=s.2.1+1/\(s.1=η->(θ s.2.2:Int)<=s.2.1)/\DG1 x s.2.2/\DK x s.2.1 s.2.2) (λ(s:Bool×Int×List Ae)=>((θ x.1:Int)-s.2.1).toNat) h (λs i=>?_);have⟨g,t,v,w,b,c,f⟩:=i;unfold FZ;repeat' with_reducible first|intro a|apply AC|apply AO|apply AQ|apply AJ|(apply A6;try dsimp only)|apply BZ|apply Br|apply Mz|(apply BG;try dsimp only)|(apply Av;try dsimp only)|(apply A9<;>(intro u l;try subst l))|apply AB|(apply AA (Bs);intro r hr)|(refine AL ?_ (AI ?_ ?_);rintro r ⟨hr,q⟩)|(refine AL ?_ (Ac ?_);rintro r ⟨hr,p,k⟩)
 all_goals try dsimp[len]at*
 all_goals try (have e:=AW (x:=s.2.1+1))
 all_goals try (have m:=b v!)
 all_goals (try simp only[Cg,CU]at*)
 all_goals first
  |omega
  |exact⟨⟨o!,λh=>by have:=b h;omega⟩,c,λj d n=>f j d o!⟩
  |(exfalso;grind;done)
  |(refine⟨⟨o!,o!,o!,o!,by first|(intro h;have:=b h;omega)|(intro h;cases h),?_,?_⟩,o!⟩
    first|exact c|exact c.snoc v! (by refine⟨_,v!,?_,?_⟩<;>rfl)
    ·first|exact f.next g e v! (λhn=>N! v! hn)|exact(f.snoc v!).next g e v! (by first|(intro hn;exact N! v! hn)|(intro _;subst_vars;simp)))
def YL{x:List Ae×AE}{s:Bool×Int×List Ae}(q:x.2.2.1=1\/x.2.2.1=2)(h:0<=s.2.1/\s.2.1<=θ x.1/\θ x.1<=1000000/\θ s.2.2<=s.2.1+1/\(s.1=η->(θ s.2.2:Int)<=s.2.1)/\DG2 x s.2.2/\DK x s.2.1 s.2.2/\(s.1=ζ->∃d∈s.2.2,d.1=x.2.2.2.2.2.2.2.1.1)):An (Aa (FZ x) s) λr=>(θ r.2<=θ x.1+1/\(r.1=η->θ r.2<=θ x.1))/\DG2 x r.2/\DK x (θ x.1) r.2/\(r.1=ζ->∃d∈r.2,d.1=x.2.2.2.2.2.2.2.1.1):=by
 refine AU (λ(s:Bool×Int×List Ae)=>0<=s.2.1/\s.2.1<=θ x.1/\θ x.1<=1000000/\θ s.2.2<=s.2.1+1/\(s.1=η->(θ s.2.2:Int)<=s.2.1)/\DG2 x s.2.2/\DK x s.2.1 s.2.2/\(s.1=ζ->∃d∈s.2.2,d.1=x.2.2.2.2.2.2.2.1.1)) (λ(s:Bool×Int×List Ae)=>((θ x.1:Int)-s.2.1).toNat) h (λs l=>?_);have⟨i,w,y,z,c,a,f,k⟩:=l;unfold FZ;repeat' with_reducible first|intro b|apply AC|apply AO|apply AQ|apply AJ|(apply A6;try dsimp only)|apply BZ|apply Br|apply Mz|(apply BG;try dsimp only)|(apply Av;try dsimp only)|(apply A9<;>(intro u n;try subst n))|apply AB|(apply AA (Bs);intro r hr)|(refine AL ?_ (AI ?_ ?_);rintro r ⟨hr,v⟩)|(refine AL ?_ (Ac ?_);rintro r ⟨hr,t,m⟩)
 all_goals try dsimp[len]at*
 all_goals try (have e:=AW (x:=s.2.1+1))
 all_goals try (have o:=c v!)
 all_goals (try simp only[Cg,CU]at*)
 all_goals first
  |omega
  |exact⟨⟨o!,λh=>by have:=c h;omega⟩,a,λj d p=>f j d o!,k⟩
  |(exfalso;grind;done)
  |(refine⟨⟨o!,o!,o!,o!,by first|(intro h;have:=c h;omega)|(intro h;cases h)|trivial,?_,?_,?_⟩,o!⟩
    first|exact a.snoc v! (by exact .inl ⟨v!,rfl⟩)|exact a.snoc v! (by exact .inr ⟨v!,v!⟩)|refine DG2.snoc (DG2.snoc a v! (by exact .inl ⟨rfl,rfl⟩)) v! (by exact .inr ⟨o!,v!⟩)
    ·first|exact(f.snoc v!).next i e v! (by first|(intro hn;exact N! v! hn)|(intro _;subst_vars;simp))|exact((f.snoc v!).snoc v!).next i e v! (by intro _;subst_vars;simp)
    first|(intro h;refine(k h).elim λd g=>⟨d,by subst_vars;simp[g.1],g.2⟩)|(intro _;subst_vars;refine⟨_,Mt _ (A7.2 rfl),?_⟩;assumption)|(intro _;subst_vars;refine⟨_,Ff _ (Mt _ (A7.2 rfl)),?_⟩;rfl))
def dD{x:List Ae×AE}(h:θ x.1<=1000000):An (Gz x) λr=>θ r<=θ x.1+1/\(¬(x.2.2.1=1\/x.2.2.1=2)->x.2.2.1≠7->r=x.1)/\(x.2.2.1=7->DG1 x r/\DK x (θ x.1) r)/\(x.2.2.1=1\/x.2.2.1=2->DG2 x r/\DK x (θ x.1) r/\∃d∈r,d.1=x.2.2.2.2.2.2.2.1.1):=by
 refine AA Bs λB m=>AO (λb=>?_) (λb=>?_);have i:¬(x.2.2.1=1\/x.2.2.1=2):=λq=>by rw[m.2 q]at b;cases b
 refine AK (λhn=>AB ⟨o!,λ_ _=>rfl,λe=>N! e hn,λq=>N! q i⟩) (λo=>AA (YK o ⟨AX _,q!,h,k!,k!,by simp[DG1],λj d g=>N! g q!⟩) λv f=>AO (λp=>AA Bs λs n=>AA (P:=λl=>l=v.2) (AJ (λa=>N! (n.1 a) i) (λ_=>AB rfl)) λl c=>AB ?_) (λ_=>AB ⟨f.1.1,λ_ q=>N! o q,λ_=>f.2,λq=>N! q i⟩));grind;have k:=m.1 b;refine AA (YL k ⟨AX _,q!,h,k!,k!,by simp[DG2],λj d g=>N! g q!,λq=>by cases q⟩) λv f=>?_;have⟨⟨s,z⟩,t,u,A_⟩:=f;refine AO (λp=>AA Bs λw n=>AA (P:=λl=>l=v.2++[(x.2.2.2.2.2.2.2.1.1,x.2.1,x.2.1)]) (AJ (λa=>?_) (λa=>?_)) λl c=>AB ?_) (λy=>AB ⟨s,λq=>N! k q,λq=>N! q o!,λ_=>⟨t,u,A_ y⟩⟩);grind[AA,Ac,AB];grind;have:=z p;refine⟨q!,λq=>N! k q,λq=>N! q o!,λ_=>⟨t.snoc c (.inl ⟨rfl,rfl⟩),u.snoc c,_,by rw[c];exact Mt _ (A7.2 rfl),rfl⟩⟩
def w8.other{n:Int}{L:List AE}{D:List Ae}{R:List BW}{e:AE}(h:w8 n L D R)(a:¬(e.2.1=1\/e.2.1=2)):w8 n (L++[e]) D R:=by
 intro p b c;have:Yp p e=η:=by simp only[not_or]at a;simp[Yp,a.1,a.2]
 rw[PB,this,D! g!];exact h p b c
def w8.change{n:Int}{L:List AE}{D_ r:List Ae}{R:List BW}{e:AE}(h:w8 n L D_ R)(v:e.2.1=1\/e.2.1=2)(o:∀p,BQ L p<e.1)(k:DG2 (D_,e) r)(m:DK (D_,e) (θ D_) r)(u:∃d∈r,d.1=e.2.2.2.2.2.2.1.1):w8 n (L++[e]) r R:=by intro p s t;have⟨a,b⟩:=h p s t;rw[PB,(by grind[Yp]:Yp p e=(e.2.2.2.2.2.2.1.1==p))];by_cases i:e.2.2.2.2.2.2.1.1=p;rw[beq_iff_eq.2 i,C! rfl];refine⟨λd f c=>?_,λw g=>⟨by have:=(b w g).1;have:=o p;omega,λhn=>?_⟩⟩;rcases k d f with q|q;grind;grind;grind;rw[beq_eq_false_iff_ne.2 i,D! g!];refine⟨λd f c=>?_,λw g=>⟨(b w g).1,λhn=>(b w g).2 λd f c=>?_⟩⟩;rcases k d f with q|q;grind;exact a d q.2 c;have⟨j,l⟩:=Ci f;exact hn d (m j d (by have:=Cd l;omega) l (λq=>i (q.symm.trans c))) c
def w8.index{n:Int}{L:List AE}{D_ r:List Ae}{R:List BW}{e:AE}{w:BW}(h:w8 n L D_ R)(A_:e.2.1=7)(B:e.2.2.2.2.2.1=BQ L e.2.2.2.2.2.2.1.1)(y:0≤e.2.2.2.2.2.2.1.1)(k:DG1 (D_,e) r)(l:DK (D_,e) (θ D_) r)(C:R[e.2.2.2.2.2.2.1.1.toNat]?=δ w):
  w8 n (L++[e]) r (R.set e.2.2.2.2.2.2.1.1.toNat ((if e.2.2.2.2.2.1>w.1 then e.2.2.2.2.2.1 else w.1),w.2)):=by
 refine w8.other ?_ o!;intro p s t;have⟨a,b⟩:=h p s t;refine⟨λd g f=>?_,λu i=>?_⟩;have⟨c,z,v,x⟩:=k d g;grind;by_cases o:e.2.2.2.2.2.2.1.1=p;grind;rw[DD o!]at i;refine⟨(b u i).1,λhn=>(b u i).2 λd g f=>?_⟩;have⟨j,m⟩:=Ci g;exact hn d (l j d q! m (λq=>o (q.symm.trans f))) f
def uN{n:Int}{L:List AE}{D_ r:List Ae}{R:List BW}{q:Be×Int}{e:AE}(h:w8 n L D_ R)(l:EOK n L e)(m:∀p,BQ L p<e.1)
  (j:θ r<=θ D_+1/\(¬(e.2.1=1\/e.2.1=2)->e.2.1≠7->r=D_)/\(e.2.1=7->DG1 (D_,e) r/\DK (D_,e) (θ D_) r)/\(e.2.1=1\/e.2.1=2->DG2 (D_,e) r/\DK (D_,e) (θ D_) r/\∃d∈r,d.1=e.2.2.2.2.2.2.1.1))
  (k:q.2=0->θ q.1=θ R/\(e.2.1≠7->q.1=R)/\(e.2.1=7->0<=e.2.2.2.2.2.2.1.1/\∃w,R[e.2.2.2.2.2.2.1.1.toNat]?=δ w/\q.1=R.set e.2.2.2.2.2.2.1.1.toNat ((if e.2.2.2.2.2.1>w.1 then e.2.2.2.2.2.1 else w.1),w.2)))
  (t:q.2=0):w8 n (L++[e]) r q.1:=by
 have⟨_,g,f,c⟩:=j;have⟨_,u,v⟩:=k t;by_cases b:e.2.1=7;have⟨i,w,s,o⟩:=v b;rw[o];exact h.index b (l.2.1 b) i (f b).1 (f b).2 s;rw[u b];by_cases a:e.2.1=1\/e.2.1=2;exact h.change a m (c a).1 (c a).2.1 (c a).2.2;rw[g a b];exact h.other a
variable {B:Int->Prop}
def HL(l:List Aj):Prop:=θ l<=64/\∀t∈l,θ t.2.2.2.2.1<=4097
def Yc.hl{l:List Aj}(h:Yc l):HL l:=⟨h.1,λt b=>by have⟨i,a⟩:=HC.1 b;have:=(h.2 i t a).1;omega⟩
def HL.set{l:List Aj}{i:Nat}{n:Aj}(h:HL l)(hn:θ n.2.2.2.2.1<=4097):HL (l.set i n):=⟨by rw[dh];exact h.1,λt a=>by rcases VN a with q|q;exact h.2 t q;rw[q];exact hn⟩
def HL.rm{l:List Aj}{id:Int}(h:HL l):HL (AB6 l id):=⟨by have:=oB l id;have:=h.1;omega,λt a=>h.2 t (BU.1 a).1⟩
def Yc.lens{l:List Aj}{i:Nat}{t:Aj}(h:Yc l)(a:l[i]?=δ t):θ t.2.2.2.2.1<=4096:=(h.2 i t a).1
def AEj{x:List Aj×AE}:An (F6 x) λr=>r.2=0->HL r.1:=by refine AA Dn λz j=>AO (λb=>AB n!) (λb=>?_);have c:=j b;have n:=c.1;refine AA CG λA_ y=>AO (λb=>AB n!) (λ_=>AQ (λb=>AB λ_=>c.hl) (λp=>AA (Hu q!) λB g=>AC (λb=>AB n!) (λo=>AA (AI o! g.2.1) λC m=>?_)));have f:=c.lens m.1;refine AK (λb=>AB n!) (λ_=>AA (P:=λs=>(∃u,s=.inl u/\θ u.2.2.2.2.1<=4097)\/∃u,s=.inr u/\(u.2=0->HL u.1)) ?_ λs h=>?_);refine AQ (λ_=>?_) (λ_=>?_);grind[AA,Ac,AB];refine AA (P:=λs=>(∃u,s=.inr u/\θ u.2.2.2.2.1<=4097)\/∃u,s=.inl u/\(u.2=0->HL u.1)) (AQ (λ_=>AA (RV ⟨AX _,q!,f,k!⟩) λq k=>AQ (λ_=>AB (.inr ⟨_,rfl,n!⟩)) (λ_=>AB (.inl ⟨_,rfl,q!⟩))) (λ_=>AQ (λ_=>AB (.inl ⟨_,rfl,q!⟩)) (λ_=>AA (JA q!) λt d=>AB (.inr ⟨_,rfl,λ_=>by rw[d];exact c.hl.rm⟩)))) λs h=>?_;grind[Av,AB,BG];rcases h with⟨u,rfl,i⟩|⟨u,rfl,i⟩;refine BG (AA (NJ o!) λv l=>AA (LZ q! ⟨q!,g.2.1⟩) λw e=>AB λ_=>?_);rw[e];exact c.hl.set q!;exact Av (AB i)
def AN(n c:Int)(L:List AE)(m:Nat)(a:CW):Prop:=a.1=n/\HL a.2.2.2.1/\θ a.2.2.2.2.2.1<=m/\a.2.2.1=c/\w8 n L a.2.2.2.2.2.1 a.2.2.2.2.2.2
def fw{x:CW×AE}{n c:Int}{L:List AE}{m:Nat}(h:AN n c L m x.1)(f:m<=1000000)(d:EOK n L x.2)(e: ∀p,BQ L p<x.2.1):An (Mf x) λr=>r.2=0->AN n c (L++[x.2]) (m+1) r.1:=by
 unfold Mf;have⟨a1,a2,a3,a5,a6⟩:=h;have a4:=a2.1;repeat' with_reducible first|apply AC<;>intro b|apply AK<;>intro b|apply AJ<;>intro b|(apply A6;try dsimp only)|apply BZ|apply Br|apply Mz|(apply BG;try dsimp only)|(apply Av;try dsimp only)|apply AB|(apply AA AEj;intro r hr)|(refine AL ?_ (FK ?_);intro r hr)|(apply AA (Tb);intro r hr)|(apply AA (US);intro r hr)|(apply AA (Bs);intro r hr)|(refine AL ?_ (dD ?_);intro r hr)
 all_goals try dsimp[len]at*
 all_goals first|omega|(intro a;exact absurd a (by assumption))|(intro a;exact absurd a (by decide))|(intro _;unfold AN;refine⟨by first|assumption|grind,by grind,by first|omega|grind,by first|assumption|grind,?_⟩;exact uN a6 d e (by assumption) (by assumption) (by assumption))|grind
theorem Pq{x:Int}:An (Ng x) λr=>∀w∈r.1,w.1=0:=by refine AC (λ_=>AB k!) (λ_=>AC (λ_=>AB k!) (λ_=>?_));grind[AA,xo,AB]
def dF{x:AZ×Int}(n:Dd x.1)(u:x.1.1=1)(m:LI x.2 x.1.2.1):An (Pr x) λr=>r.2=0->∃k:Nat,k<=θ x.1.2.1/\AN x.2 k (x.1.2.1.take k) 65536 r.1:=by
 refine AA aV λv j=>AO (λ_=>?_) (λb=>?_);refine AC (λb=>AB n!) (λ_=>AA Pq λy l=>AB λ_=>⟨0,Bo _,rfl,⟨k!,λt o=>by simp at o⟩,k!,rfl,λp _ _=>⟨k!,λw q=>by have:=l w (BM q);exact⟨by rw[this];exact AX _,λ_=>this⟩⟩⟩)
 have⟨⟨d,f⟩,i,e,a,g,s,h⟩:=j b;refine AK (λb=>AB n!) (λhn=>AB λ_=>⟨i+1,Cd a,rfl,d.2.2.1.hl,f,?_,?_⟩);have:=(n.2.2.2.2.2 i e a).1;grind;rw[CI,a];exact((m i e a).2.2.1 g _ h hn).other o!
def fu{x:Aq×Aq}:An (E8 x) λr=>True:=by exact AK (λ_=>AB trivial) (λ_=>AK (λ_=>AB trivial) (λ_=>AB trivial))
def Y7{x:List Aq×Aq}{s:Int}(h:0<=s/\s<=θ x.1/\(θ x.1:Int)<=16777216):An (Aa (OE x) s) λr=>0<=r/\r<=θ x.1:=by
 refine AU (λ(s:Int)=>0<=s/\s<=θ x.1/\(θ x.1:Int)<=16777216) (λ(s:Int)=>((θ x.1:Int)-s).toNat) h (λs a=>?_);unfold OE;exact x!
def fx{x:List Aq×Aq}(h:θ x.1<=1000000):An (Qj x) λr=>θ r<=θ x.1+1:=by
 refine AA (Y7 ⟨AX _,o!⟩) λp c=>?_;have main:An (σ (WJ x.1 0 p) λa=>
 σ (WJ x.1 p (len x.1)) λb=>
 σ (app [] a) λd=>
 σ (app d ([x.2]:List (Int×((Int×Int)×Int)))) λe=>
 σ (app e b) λf=>
 δ f) λr=>θ r<=θ x.1+1:=by refine AA (CA (AX _) c.1 c.2) λa g=>AA (CA c.1 q! q!) λb i=>?_;grind[AA,Ac,AB]
 refine AC (λj=>?_) (λ_=>main);exact AA (AI c.1 j) λk _=>AJ (λ_=>AB o!) (λ_=>main)
def dE{x:AZ×List Aj}(h:HL x.2):An (Lf x) λr=>θ r.1<=262208:=by unfold Lf;have k:=h.1;refine AA (P:=λr=>(∀u,r=.inl u->θ u.1<=262208)/\∀u,r=.inr u->θ u<=262208) ?_ λr hr=>A9 (λu a=>AB (hr.1 u a)) (λu a=>AB (hr.2 u a));refine AU (λ(s:List Aq×Int)=>0<=s.2/\s.2<=θ x.2/\θ s.1<=4097*s.2) (λ(s:List Aq×Int)=>((θ x.2:Int)-s.2).toNat) ⟨AX _,q!,k!⟩ (λs d=>?_);have⟨f,m,n⟩:=d;unfold SL;rw[(AW (x:=s.2+1))];refine AC (λb=>?_) (λ_=>AB ⟨λu a=>(by cases a),λu a=>q!⟩);simp[len]at b;have⟨t,i,j⟩:=AI (l:=x.2) f b;have v:=h.2 t j.2;refine AA (P:=λr=>(∀u,r=.inl u->θ u.1<=262208)/\∀u,r=.inr u->θ u<=4097*(s.2+1)) ?_ λr hr=>?_;refine AU (λ(q:List Aq×Int)=>0<=q.2/\q.2<=θ t.2.2.2.2.1/\θ q.1<=4097*s.2+q.2) (λ(q:List Aq×Int)=>((θ t.2.2.2.2.1:Int)-q.2).toNat) ⟨AX _,q!,q!⟩ (λq e=>?_);have⟨g,o,p⟩:=e;unfold SM;rw[i];apply A6;rw[(AW (x:=q.2+1))];refine AC (λb=>?_) (λ_=>AB ⟨λu a=>(by cases a),λu a=>q!⟩);simp[len]at b;refine A6 (AA (AI g b) λw _=>AA Gw λy _=>AK (λ_=>AB ⟨λu a=>q!,λu a=>(by cases a)⟩) (λ_=>AK (λ_=>AB ⟨λu a=>(by cases a;simp),λu a=>(by cases a)⟩) (λ_=>A6 (AK (λ_=>AB ⟨λu a=>(by cases a;simp),λu a=>(by cases a)⟩) (λ_=>AA (fx q!) λz c=>AB ?_)))));dsimp only at c;exact⟨⟨q!,o!,d!⟩,o!⟩;grind[A9,AB]
def Y6{x:AZ×Int}(c:Dd x.1)(S:x.1.1=1)(L:LI x.2 x.1.2.1):An (Js x) λr=>r.2=0->r.1.1=x.2/\HL r.1.2.2.2.1/\θ r.1.2.2.2.2.1<=262208/\θ r.1.2.2.2.2.2.1<=70000/\w8 x.2 x.1.2.1 r.1.2.2.2.2.2.1 r.1.2.2.2.2.2.2:=by
 unfold Js;refine AA BP λv V=>AO (λ_=>AB n!) (λa=>?_);have U:=V.1 a;have M:=U.2.2.1;refine AC (λ_=>AB n!) (λ_=>AC (λ_=>AB n!) (λ_=>AA (dF c S L) λv1 N=>AK (λa=>AB λb=>N! b a) (λH=>?_)));have⟨k,T,Q⟩:=N H;refine AA (P:=λr=>(∀u,r=.inl u->u.1≠0)/\∀u,r=.inr u->AN x.2 k x.1.2.1 70000 u.1) ?_ λr hr=>A9 (λu d=>AB λb=>N! b (hr.1 u d)) (λu d=>?_);refine AU (λ(s:Int×CW×CW)=>0<=s.1/\s.1<=θ x.1.2.1/\AN x.2 k (x.1.2.1.take (max k s.1.toNat)) (65536+s.1.toNat) s.2.1) (λ(s:Int×CW×CW)=>((θ x.1.2.1:Int)-s.1).toNat) ⟨AX _,d!,by simpa using Q⟩ (λs D_=>?_);have⟨o,W,f⟩:=D_;unfold Qh;have e:=AW (x:=s.1+1);rw[e];refine AC (λa=>?_) (λ_=>AB ⟨λu d=>(by cases d),λu d=>?_⟩);simp[len]at a;have en:(s.1+1).toNat=s.1.toNat+1:=o!
 refine AA (AI o a) λv3 O=>?_;have n3:=(c.2.2.2.2.2 _ _ O.1).1;refine AC (λF=>AB ⟨⟨d!,d!,?_⟩,d!⟩) (λF=>?_);have⟨q,g,J,y,h⟩:=f;have z:max k (s.1+1).toNat=max k s.1.toNat:=o!
 exact⟨q,g,d!,y,by dsimp only;rw[z];exact h⟩;have y:=f.2.2.2.1;have z:max k s.1.toNat=s.1.toNat:=o!
 rw[z]at f;refine AA (AI o a) λv4 K=>?_;have n:x.1.2.1.take (max k (s.1+1).toNat)=x.1.2.1.take s.1.toNat++[v4]:=by grind[List.take_add_one]
 refine AA (fw f o! (L _ _ K.1) λp=>?_) λv5 h5=>?_;have n4:=(c.2.2.2.2.2 _ _ K.1).1;refine nS _ _ d! λe R=>?_;have⟨j,E⟩:=Ci R;have G:=Cd E;rw[BJ]at G;rw[JY o!]at E;have:=(c.2.2.2.2.2 j e E).1;dsimp only;omega;grind[AK,AB];cases d;have⟨q,g,J,y,h⟩:=f;simp[len]at*;rw[BK o!]at h;exact⟨q,g,o!,y,h⟩;have⟨q,g,J,_,h⟩:=hr.2 u d;have X_:=g.1;refine AA (P:=λl=>HL l) ?_ λag m=>?_;refine AU (λ(s:Int×List Aj)=>0<=s.1/\s.1<=θ u.1.2.2.2.1/\θ s.2<=s.1/\∀t∈s.2,θ t.2.2.2.2.1<=4097) (λ(s:Int×List Aj)=>((θ u.1.2.2.2.1:Int)-s.1).toNat) ⟨AX _,d!,k!,λt n=>by simp at n⟩ (λs D_=>?_);have⟨o,W,f,I⟩:=D_;unfold Qi;have e:=AW (x:=s.1+1);rw[e];refine AC (λa=>?_) (λ_=>AB ⟨o!,I⟩);simp[len]at a;refine AA (AI o a) λY_ _=>AA (P:=λl=>θ l<=θ s.2+1/\∀t∈l,θ t.2.2.2.2.1<=4097) ?_ λaf i=>AB ⟨⟨d!,d!,by have:=i.1;dsimp only;omega,i.2⟩,d!⟩;refine AC (λ_=>AA (AI o a) λZ A_=>AA (Ac w!) λad B=>AB ⟨?_,λt n=>?_⟩) (λ_=>AB ⟨o!,I⟩);grind;rw[B.1]at n;rcases Ao.1 n with w|w;exact I t w;simp at w;rw[w];exact g.2 _ A_.2;exact AA (dE m) λal C=>AK (λa=>AB λb=>N! b a) (λb=>AB λ_=>⟨q,m,C,J,h⟩)
theorem Pp{x:Int}:An (KD x) λr=>r.1.2.1=[]:=by
 unfold KD;exact x!
def dG{x:AZ×CW×Int}(t:Dd x.1)(h:HL x.2.1.2.2.2.1/\θ x.2.1.2.2.2.2.1<=262208/\θ x.2.1.2.2.2.2.2.1<=70000)(q:LI x.2.1.1 x.1.2.1)(e:w8 x.2.1.1 x.1.2.1 x.2.1.2.2.2.2.2.1 x.2.1.2.2.2.2.2.2):An (Lg x) λr=>r.2=0->r.1.1=x.2.1.1/\SK B r.1/\Dd r.1.2.2.1/\LX x.1 r.1.2.2.1:=by
 unfold Lg;have⟨a1,a2,a3⟩:=h;have a4:=a1.1;refine AA Pp λj f=>AK (λ_=>AB n!) (λ_=>?_);have k:SK B (x.2.1.1,x.2.1.2.1,x.1,j.1,(x.2.1.2.2.2.2.1,[]),x.2.1.2.2.2.1,x.2.1.2.2.2.2.2.2,x.2.1.2.2.2.2.2.1):=⟨⟨q!,k!⟩,q!,q!,q,λp g i=>⟨q!,(e p g i).1,λw l=>⟨((e p g i).2 w l).1,λhn _=>((e p g i).2 w l).2 hn⟩⟩,by unfold FD;dsimp only;rw[f];simp⟩
 refine AA (B3 k.sb) λy _=>AO (λ_=>AB n!) (λ_=>AA (P:=λr=>(∀u,r=.inl u->u.1≠0)/\∀u,r=.inr u->KL B (x.2.1.1,x.2.1.2.1,x.1,j.1,(x.2.1.2.2.2.2.1,[]),x.2.1.2.2.2.1,x.2.1.2.2.2.2.2.2,x.2.1.2.2.2.2.2.1) u.1) ?_ λr hr=>A9 (λu a=>AB λb=>N! b (hr.1 u a)) (λu a=>AB λ_=>?_));refine AU (λ(s:Int×AP×AP)=>0<=s.1/\s.1<=θ x.2.1.2.2.2.1/\KL B (x.2.1.1,x.2.1.2.1,x.1,j.1,(x.2.1.2.2.2.2.1,[]),x.2.1.2.2.2.1,x.2.1.2.2.2.2.2.2,x.2.1.2.2.2.2.2.1) s.2.1) (λ(s:Int×AP×AP)=>((θ x.2.1.2.2.2.1:Int)-s.1).toNat) ⟨AX _,q!,KL.refl k t⟩ (λs o=>?_);have⟨m,v,d⟩:=o;unfold SN;rw[(AW (x:=s.1+1))];refine AC (λc=>?_) (λ_=>AB ⟨λu a=>(by cases a),λu a=>q!⟩);simp[len]at c;refine AA (AI m c) λz _=>AQ (λ_=>AB ⟨⟨q!,o!,d⟩,o!⟩) (λ_=>AA (AI m c) λA_ _=>AA (Fi d.2.2.1.sb) λC n=>AK (λc=>AB ⟨λu a=>(by cases a;exact c),λu a=>(by cases a)⟩) (λb=>AB ⟨⟨o!,o!,d.trans ((n b).2.1.kl d.2.2.1 u!)⟩,o!⟩));have:=hr.2 u a;exact⟨this.1,this.2.2.1,this.2.2.2,this.2.1⟩
end Go.Pm
namespace Go.Pm
open Go Go.Ab
variable {B:Int->Prop}
def gE{x:AS×Int×Cl}(h:SK B x.1.1)(v:Dd x.1.1.2.2.1)(t:DJ B x.1.1.2.2.1 x.1.2):An (Mj x) λr=>SR B x.1 r.1/\(r.2.1≠0->TP r.1.1.2.2.2.2.2.1<TP x.1.1.2.2.2.2.2.1):=by
 unfold Mj;refine AA (P:=λr=>SR B x.1 r.2.2/\(r.1≠0->TP r.2.2.1.2.2.2.2.2.1<TP x.1.1.2.2.2.2.2.1)) ?_ λr hr=>AB hr;refine AU (λ(s:Int×AS×AS)=>SR B x.1 s.2.1/\TP s.2.1.1.2.2.2.2.2.1<=TP x.1.1.2.2.2.2.2.1/\(s.1≠0->TP s.2.1.1.2.2.2.2.2.1<TP x.1.1.2.2.2.2.2.1)) (λ(s:Int×AS×AS)=>2*TP s.2.1.1.2.2.2.2.2.1+flag (¬mc s.2.1.1.2.2.2.1 x.2.2.1)) ⟨⟨KL.refl h v,t⟩,Ai _,λe=>N! rfl e⟩ (λs d=>?_);obtain⟨d,C,k⟩:=d;have l:=d.1.2.2;unfold Th;refine AA (fo l.1 l.2) λD_ q=>?_;obtain⟨k1,w,y⟩:=q;refine AQ (λ_=>AB ⟨d,k⟩) (λp=>AA (P:=λr=>(∃u,r=.inl u/\u.1=s.1/\u.2.2=s.2.1)\/∃u,r=.inr u/\SR B s.2.1 u.2.1/\(TP u.2.1.1.2.2.2.2.2.1<TP s.2.1.1.2.2.2.2.2.1\/(u.1=s.1/\TP u.2.1.1.2.2.2.2.2.1=TP s.2.1.1.2.2.2.2.2.1/\mc u.2.1.1.2.2.2.1 x.2.2.1/\¬mc s.2.1.1.2.2.2.1 x.2.2.1))) ?_ λr hr=>?_);apply AQ<;>intro m;obtain⟨a,b,c⟩:=w m;refine AA (HO l.1 d.2) λE j=>AK (λ_=>AB (.inl ⟨_,rfl,rfl,rfl⟩)) (λe=>AB (.inr ⟨_,rfl,(j e).1.sr,.inr ⟨rfl,?_,?_,b⟩⟩));have:=(j e).1.1.2.2.2.2.1;exact E! TP this;have:=(j e).2;rw[a]at this;exact this;refine AQ (λ_=>AB (.inl ⟨_,rfl,rfl,rfl⟩)) (λc0=>AB (.inr ⟨_,rfl,⟨k1,d.2.up k1.2.1⟩,.inl (y m p c0)⟩));rcases hr with⟨u,rfl,g⟩|⟨u,rfl,g⟩;refine BG (AB ?_);dsimp only;rw[g.1,g.2];exact⟨d,k⟩;refine Av (AB ?_);obtain⟨n,i⟩:=g;rcases i with i|⟨i,o,z,A_⟩;have f:=AAu (¬mc u.2.1.1.2.2.2.1 x.2.2.1);exact⟨⟨d.trans n,o!,λ_=>o!⟩,by first|omega|(dsimp only;omega)⟩;refine⟨⟨d.trans n,o!,λe=>by rw[o];exact k (by rw[<-i];exact e)⟩,?_⟩;try dsimp only
 rw[wL A_,wK (λh=>h z),o];omega
def SO{x:AP×Int}(h:SB x.1):An (Hy x) λr=>True:=by unfold Hy;refine AA (B3 h) λv c=>AA (P:=λ_=>True) ?_ λr _=>A9 (λ_ _=>AB trivial) (λ_ _=>AB trivial);refine AJ (λ_=>?_) (λ_=>AB trivial);refine AA (FK h.2.1) λd a=>AC (λb=>?_) (λ_=>AB trivial);refine AA (AI b a.2.1) λ_ _=>AQ (λ_=>?_) (λ_=>AB trivial);exact AA (AI b a.2.1) λ_ _=>AB trivial
def Y9{x:AP}{s:Int×List Int}(h:0<=s.1/\s.1<=θ x.2.2.2.2.2.1/\θ x.2.2.2.2.2.1<=16777216/\θ s.2<=s.1/\SB x):An (Aa (OF x) s) λr=>True:=by
 refine AU (λ(s:Int×List Int)=>0<=s.1/\s.1<=θ x.2.2.2.2.2.1/\θ x.2.2.2.2.2.1<=16777216/\θ s.2<=s.1/\SB x) (λ(s:Int×List Int)=>((θ x.2.2.2.2.2.1:Int)-s.1).toNat) h (λs c=>?_);unfold OF;exact x!
def fy{x:AP}(h:SK B x):An (Mg x) λr=>True:=by unfold Mg;exact AA (Y9 ⟨AX _,d!,h.2.1,k!,h.sb⟩) λ_ _=>AB trivial
def We{x:AP×Int}{c:Aq×Bool}{a:List Int}{s:Int×Cl}(h:0<=s.1/\s.1<=θ a/\θ a<=16777216/\SB x.1):An (Aa (K8 x c a) s) λr=>True:=by
 refine AU (λ(s:Int×Cl)=>0<=s.1/\s.1<=θ a/\θ a<=16777216/\SB x.1) (λ(s:Int×Cl)=>((θ a:Int)-s.1).toNat) h (λs d=>?_);unfold K8;exact x!
def Y8{x:AP×Int}(h:SK B x.1):An (Jt x) λr=>True:=by unfold Jt;refine AA (II h.1) λb _=>AO (λ_=>AB trivial) (λ_=>AA (LU h.1) λc a=>AA (We ⟨AX _,d!,o!,h.sb⟩) λr _=>A9 (λ_ _=>AB trivial) (λ_ _=>AB trivial))
def jh{x:AS×Int×Cq}(h:SK B x.1.1)(k:Dd x.1.1.2.2.1)(j:DJ B x.1.1.2.2.1 x.1.2):An (O5 x) λr=>SR B x.1 r.1:=by unfold O5;refine AA (P:=λr=>SR B x.1 r.1) ?_ λr hr=>AB hr;refine AU (λ(s:AS×AS×BS)=>SR B x.1 s.1) (λ(s:AS×AS×BS)=>TP s.1.1.2.2.2.2.2.1) ⟨KL.refl h k,j⟩ (λs c=>?_);have g:=c.1.2.2;unfold VG;refine AA (jg g.1 g.2 c.2) λm e=>?_;have b:=c.trans e.1;have a:=b.1.2.2;refine AK (λ_=>AB b) (λi=>?_);have l:=e.2 i;refine AA (Y8 a.1) λn _=>AO (λ_=>AB b) (λ_=>AA (gE a.1 a.2 b.2) λo f=>?_);have d:=b.trans f.1;refine AK (λ_=>?_) (λ_=>?_);exact AA Bp λp _=>AB d;refine AQ (λ_=>AB d) (λc0=>AB ⟨d,?_⟩);have:=f.2 c0;dsimp only at*;rw[l]at this;exact this
def gD{x:AS}(h:SK B x.1)(p:Dd x.1.2.2.1)(g:DJ B x.1.2.2.1 x.2):An (Mi x) λr=>r.2.2=0->SR B x r.1:=by
 unfold Mi;refine AA (B3 h.sb) λv J=>AO (λ_=>AB n!) (λc=>AC (λc=>?_) (λ_=>?_));simp only[len]at c;refine AA (AI (AX _) c) λL _=>AA (HO h g) λM y=>AB λa=>(y a).1.sr;refine AA (fy h) λH _=>AQ (λ_=>AB λ_=>⟨KL.refl h p,g⟩) (λk=>?_);simp only[len]at k;refine AA (P:=λr=>r.2.1=0->SR B x r.2.2) ?_ λr hr=>AB hr;obtain⟨id,t,I⟩:=(AI (l:=H) (i:=0) (AX _))
 refine AU (λ(s:AS×AS)=>SR B x s.1) (λ(s:AS×AS)=>flag (∃e,NX s.1.1 id e/\¬mc s.1.1.2.2.2.1 e.2.2.2.2.2.2.1.1)) ⟨KL.refl h p,g⟩ (λs b=>?_);have j:=b.1.2.2;unfold Tg;rw[t];apply A6;refine AA (UV j.1 j.2) λN A_=>?_;obtain⟨k1,C,K,D_⟩:=A_;refine AQ (λz=>AB λa=>N! a (D_ z)) (λ_=>AK (λ_=>AB λ_=>⟨b.1.trans k1,b.2.up k1.2.1⟩) (λq=>?_));obtain⟨e,n,u,w⟩:=C q;refine AA (HO j.1 b.2) λO o=>AK (λc=>AB λa=>N! a c) (λa=>AB ⟨b.trans (o a).1.sr,?_⟩);obtain⟨m,d⟩:=o a;have G:=m.1.2.2.2.2.1;rw[wL (⟨e,n,w⟩:∃e,NX s.1.1 id e/\¬mc s.1.1.2.2.2.1 e.2.2.2.2.2.2.1.1),wK];omega;rintro⟨f,E,F⟩;have:=n.uniq E G m.1.2.1;subst this;dsimp only at d;rw[u]at d;exact F d
end Go.Pm
