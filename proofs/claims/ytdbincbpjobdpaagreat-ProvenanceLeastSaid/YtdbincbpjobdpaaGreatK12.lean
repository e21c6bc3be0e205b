/- Texts of wip, joined and shortened by wip/tools/pack.py; nothing is assumed. -/
import Derived.Test.YtdbincbpjobdpaaGreatK11
import Derived.Sort.AssemblyPlain
import Derived.KernelRfl
noncomputable section
set_option linter.all false
open Option renaming some->δ,none->ε,bind->σ
open Bool renaming true->ζ,false->η
open List renaming length->θ,replicate->ς
open Go.IntKind renaming wrap->ι
open BitVec renaming ofInt->κ,toNat->π
open Sum renaming elim->ν
open Nat renaming beq->ξ
open Int renaming toNat->ο
open Decidable renaming decide->τ
namespace Go.Pm
open Go Go.Ab
set_option maxHeartbeats 1000000
def AAZ{a v i:Int}(f:0≤i)(c:i<8)(e:0≤a)(b:a<2^(8*i.toNat))(g:0≤v)(d:v<256):
  0<=ι .u64 (((π ((κ 64 a)|||(κ 64 (ι .u64 ((ι .u64 v)*(2^(min (ο (wi (8*i))) 64))))))):Nat):Int)/\
  ι .u64 (((π ((κ 64 a)|||(κ 64 (ι .u64 ((ι .u64 v)*(2^(min (ο (wi (8*i))) 64))))))):Nat):Int)<2^(8*(wi (i+1)).toNat):=by
 have h:=yY f c e b g d;rw[(by rw[(AZ),We];omega:ι .u64 (wi (8*i))=wi (8*i))]at h;exact h
def AGR{n:Int}(h:n<=1):(2:Int)^(8*n.toNat)<=256:=by
 have:n.toNat=0\/n.toNat=1:=o!
 rcases this with h|h<;>rw[h]<;>decide
def JK{x:BX×Int×Int}(h:θ x.1<=2199023255552):As (By x) λr=>(r.2=0->0<=x.2.1/\x.2.1+x.2.2<=θ x.1/\(x.2.2<=4->0<=r.1/\r.1<4294967296)/\(x.2.2<=1->r.1<256))/\(r.2≠0->r.1=0):=by
 unfold By;refine AC (λ_=>AB ⟨n!,λ_=>rfl⟩) (λo=>AC (λ_=>AB ⟨n!,λ_=>rfl⟩) (λp=>AC (λ_=>AB ⟨n!,λ_=>rfl⟩) (λq=>AC (λ_=>AB ⟨n!,λ_=>rfl⟩) (λf=>?_))));simp[len]at f⊢;rw[(AZ (x:=(θ x.1:Int)-x.2.1))];refine AC (λ_=>AB ⟨n!,λ_=>rfl⟩) (λt=>AA (P:=λr=>0<=r/\r<2^(8*x.2.2.toNat)) ?_ λA y=>AB ⟨λ_=>⟨o!,o!,λg=>?_,λc=>?_⟩,λb=>N! rfl b⟩);refine AW (λ(s:Int×Int)=>0<=s.2/\s.2<=x.2.2/\0<=s.1/\s.1<2^(8*s.2.toNat)) (λ(s:Int×Int)=>(x.2.2-s.2).toNat) ⟨Af _,d!,Af _,u!⟩ (λs j=>?_);have⟨m,z,d,e⟩:=j;unfold Ue;refine AC (λk=>?_) (λk=>AB ⟨d,?_⟩);rw[(AZ (x:=x.2.1+s.2))];refine AA (RE o! o!) λn c=>AC (λl=>?_) (λ_=>AB ?_);grind[AZ];have⟨u,w⟩:=AAZ (a:=s.1) (v:=n) (i:=s.2) m o! d e c.1 c.2;grind[AZ];have:s.2=x.2.2:=o!
 rw[<-this];exact e;have:=ABe g;grind[AZ];have:=AGR c;grind[AZ]
def qV(a:BitVec 32):0<=ι .u32 (((π (a&&&κ 32 15):Nat)):Int)/\ι .u32 (((π (a&&&κ 32 15):Nat)):Int)<16:=by grind[wU,BitVec.toNat_and,κ,Nat.and_le_right]
def kE{x:Unit}:As (Ky x) λr=>True:=by unfold Ky;refine AA (P:=λ_=>True) ?_ λv _=>AB trivial;refine AW (λ(s:Int×(Fin (15+1)->(Ty.int IntKind.u32).D))=>0<=s.1/\s.1<=16) (λ(s:Int×(Fin (15+1)->(Ty.int IntKind.u32).D))=>(16-s.1).toNat) ⟨Af _,g!⟩ (λs a=>?_);have⟨c,d⟩:=a;unfold VS;refine AC (λb=>?_) (λ_=>AB trivial);refine AA (P:=λ_=>True) ?_ λg _=>?_;refine AW (λ(s:Int×Int)=>0<=s.2/\s.2<=4) (λ(s:Int×Int)=>(4-s.2).toNat) ⟨Af _,d!⟩ (λs a=>?_);have⟨e,f⟩:=a;unfold LO;rw[(AZ (x:=s.2+1))];refine AC (λb=>?_) (λ_=>AB trivial);refine AA (P:=λ_=>True) (AK (λ_=>AB trivial) (λ_=>AB trivial)) λv _=>AB ⟨d!,d!⟩;rw[(AZ (x:=s.1+1))];refine AA (DX c b) λh _=>AA (DX c b) λi _=>AB ⟨d!,d!⟩
theorem u7{x:BX}(h:θ x<=2199023255552):As (OT x) λr=>True:=by unfold OT;refine AA kE λe _=>AA (P:=λ_=>True) ?_ λv _=>AB trivial;refine AW (λ(s:Int×Int)=>0<=s.2/\s.2<=θ x) (λ(s:Int×Int)=>((θ x:Int)-s.2).toNat) ⟨Af _,d!⟩ (λs b=>?_);have⟨c,d⟩:=b;unfold Uf;rw[(AZ (x:=s.2+1))];refine AC (λa=>?_) (λ_=>AB trivial);simp[len]at a;refine AA (RE c a) λf _=>AA (DX (qV _).1 (qV _).2) λg _=>AA (DX (qV _).1 (qV _).2) λi _=>AA (DX (qV _).1 (qV _).2) λj _=>AA (DX (qV _).1 (qV _).2) λk _=>AB ⟨d!,d!⟩
theorem Zi{x:BX×Int}(h:θ x.1<=2199023255552):As (Dm x) λr=>r.2.2=0->θ r.1<=8392/\x.2+8+θ r.1=r.2.1/\0<=x.2/\r.2.1<=θ x.1:=by unfold Dm;refine AC (λ_=>AB n!) (λg=>AC (λ_=>AB n!) (λe=>?_));simp[len]at e;refine AA (JK h) λd f=>AL (λb=>AB λa=>N! a b) (λc=>?_);have⟨a1,a2,a3,_⟩:=f.1 c;have a5:=a3 d!;dsimp only at a2;refine AC (λ_=>AB n!) (λi=>?_);rw[(AZ (x:=x.2+4)),AZ (x:=x.2+4+d.1),(AZ (x:=x.2+4+d.1+4))];refine AA (JK h) λk j=>?_;grind[AL,AB,AA,CY,u7]
def jM{x:BX×BX}:As (E9 x) λr=>True:=by unfold E9 Eb;refine AA (P:=λ_=>True) ?_ λv _=>AB trivial;refine AC (λa=>?_) (λ_=>AB trivial);simp[len]at a;exact AA (CY (Af _) i! (by simp[len];omega)) λv _=>AB trivial
def RB(b:Fl):Prop:=θ b.1<=2199023255552/\0<=b.2.1/\b.2.1<=θ b.1
def DY{b:Fl}{x:Int}(h:RB b)(j:1<=x/\x<=8):As (B6 b x) λr=>RB r.2/\(x<=4->0<=r.1/\r.1<4294967296):=by have⟨a1,a2,a3⟩:=id h;unfold B6;refine AL (λ_=>AB ⟨h,λ_=>d!⟩) (λ_=>AA (JK (by exact a1)) λf a=>?_);dsimp only at a;refine AA (P:=λr=>RB r) ?_ λk d=>AB ⟨d,λe=>?_⟩;refine AP (λc=>AB ?_) (λ_=>AB ⟨a1,a2,a3⟩);have⟨g,i,_⟩:=a.1 c;rw[AZ];exact⟨a1,d!⟩;by_cases c:f.2=0<;>grind
theorem VU{b:Fl}{x:Int}(h:RB b)(n:0<=x/\x<4294967296):As (E6 b x) λr=>RB r.2:=by have⟨a1,a2,a3⟩:=id h;unfold E6;refine AP (λd=>?_) (λl=>?_);rw[(AZ (x:=len b.1-b.2.1) (by simp[len];omega))];refine AA (P:=λr=>RB r/\(r.2.2=0->r.2.1+x<=θ r.1)) ?_ λe j=>?_;refine AC (λ_=>AB ⟨⟨a1,a2,a3⟩,λd=>N! d u!⟩) (λk=>AB ⟨h,λ_=>?_⟩);simp[len]at k;omega;have⟨⟨c,f,g⟩,i⟩:=j;refine AL (λ_=>AB ⟨c,f,g⟩) (λa=>?_);have m:=i a;rw[(AZ (x:=e.2.1+x)),(AZ (x:=e.2.1+x-x))];exact AA (CY) λo _=>AB ⟨c,d!⟩;grind[AL,AB]
def VT{b:Fl}{x:Unit}(h:RB b):As (E5 b x) λr=>RB r.2:=by unfold E5;refine AA (DY h g!) λc a=>AL (λ_=>AB a.1) (λ_=>AP (λ_=>AB a.1) (λ_=>?_));have q:=a.2 g!;refine AC (λ_=>AB a.1) (λ_=>?_);grind[AA,VU,AB]
theorem pq{x:BX}(h:θ x<=2199023255552):As (JX x) λr=>True:=by unfold JX;refine AA (DY (b:=(x,0,0)) ⟨h,Af _,d!⟩ g!) λs c=>AA (DY c.1 g!) λt d=>AA (DY d.1 g!) λu f=>AA (DY f.1 g!) λv g=>AA (DY g.1 g!) λw i=>AA (DY i.1 g!) λy j=>AA (DY j.1 g!) λz k=>AA (DY k.1 g!) λA l=>AA (VT l.1) λB m=>AA (VT m) λC n=>AA (DY n g!) λo a=>AA (VU a.1 (a.2 g!)) λp e=>AL (λ_=>AB trivial) (λ_=>AL (λ_=>AB trivial) (λ_=>AA KA λq _=>AO (λ_=>AB trivial) (λ_=>AB trivial)))
theorem Rw{x:Int×Int}:As (EG x) λr=>True:=by unfold EG Fo;refine BF (BF ?_);refine AK (λ_=>AK (λ_=>AB trivial) (λ_=>AB trivial)) (λ_=>AK (λ_=>AB trivial) (λ_=>AC (λ_=>AB trivial) (λ_=>AC (λ_=>AB trivial) (λ_=>AB trivial))))
theorem tf{x:List Int}(h:θ x<=16777216):As (KT x) λr=>True:=by unfold KT;refine AA (P:=λ_=>True) ?_ λv _=>BG (λ_ _=>AB trivial) (λ_ _=>AB trivial);refine AW (λ(s:Int)=>0<=s/\s<=θ x) (λ(s:Int)=>((θ x:Int)-s).toNat) ⟨Af _,o!⟩ (λs a=>?_);have⟨c,d⟩:=a;unfold J9;rw[(AZ (x:=s+1))];refine AC (λb=>?_) (λ_=>AB trivial);grind[AA,AJ,AL,AB]
def oU{x:AQ}:As (MN x) λr=>r=ζ->1<=x.1/\x.1<=x.2.1/\x.2.1<=1099511627776/\0<=x.2.2.1/\x.2.2.1<=x.2.2.2.1/\x.2.2.2.1<64/\0<=x.2.2.2.2.1/\x.2.2.2.2.1<=8:=by
 unfold MN;exact x!
def oQ{x:AE}:As (BB x) λr=>True:=by grind[BB,AP,AB]
def rX{x:AQ×AE}:As (Pl x) λr=>True:=by unfold Pl;refine AA oQ λv _=>AK (λ_=>?_) (λ_=>AB trivial);refine AC (λ_=>?_) (λ_=>AB trivial);refine AC (λ_=>?_) (λ_=>AB trivial);exact AC (λ_=>AB trivial) (λ_=>AB trivial)
def pr{x:AE×AE}:As (OQ x) λr=>True:=by unfold OQ;grind[AA,Rw,tf,AB]
def tj{x:AQ}:As (Ux x) λr=>r=ζ->Zw x:=by
 unfold Ux;refine AA oU λj d=>AO (λ_=>AB λb=>by cases b) (λa=>?_);have hn:=d a;refine AC (λ_=>AB λb=>by cases b) (λf=>?_);simp[len]at f;have q:Zw x:=⟨hn.1,hn.2.1,hn.2.2.1,hn.2.2.2.1,hn.2.2.2.2.1,hn.2.2.2.2.2.1,hn.2.2.2.2.2.2.1,hn.2.2.2.2.2.2.2,o!⟩
 refine AA (P:=λ_=>True) ?_ λv _=>BG (λ_ _=>AB λ_=>q) (λ_ _=>AB λ_=>q);refine AW (λ(s:Int)=>0<=s/\s<=θ x.2.2.2.2.2) (λ(s:Int)=>((θ x.2.2.2.2.2:Int)-s).toNat) ⟨Af _,o!⟩ (λs e=>?_);have⟨h,i⟩:=e;unfold Sz;rw[(AZ (x:=s+1)),(AZ (x:=s-1))];refine AC (λa=>?_) (λ_=>AB trivial);simp[len]at a;have c:((0<=s+1/\s+1<=θ x.2.2.2.2.2)/\((θ x.2.2.2.2.2:Int)-(s+1)).toNat<((θ x.2.2.2.2.2:Int)-s).toNat):=⟨o!,o!⟩
 refine AA (AJ h a) λk _=>AA KA λl _=>AO (λ_=>AB trivial) (λ_=>AA rX λm _=>AO (λ_=>AB trivial) (λ_=>AP (λ_=>AC (λ_=>AB trivial) (λ_=>AB c)) (λg=>AA (AJ) λn _=>AC (λ_=>AC (λ_=>AB trivial) (λ_=>AB c)) (λ_=>AA (AJ) λo _=>AA pr λp _=>AC (λ_=>AB trivial) (λ_=>AL (λ_=>AB trivial) (λ_=>AB c))))))
def rW{x:BX}(h:θ x<=2199023255552):As (Kj x) λr=>r.2=0->Zw r.1:=by
 unfold Kj;refine AA (Zi (by exact h)) λp k=>AL (λf=>AB λa=>N! a f) (λg=>?_);have⟨a1,a2,a3,a4⟩:=k g;dsimp only at a1 a2 a3 a4;refine AL (λ_=>AB n!) (λl=>AA jM λy _=>AO (λ_=>AB n!) (λ_=>?_));have b:θ p.1<=2199023255552:=o!
 refine AA (JK b) λz _=>AA (JK b) λA _=>AA (JK b) λB _=>AA (JK b) λC _=>AA (JK b) λD _=>AA (JK b) λi _=>AO (λ_=>AB n!) (λm=>?_);have n:i.1<=4096:=by simpa using m
 refine AA (P:=λr=>∀u,r=.inl u->u.1≠0) ?_ λr hr=>BG (λu c=>AB λa=>N! a (hr u c)) (λu c=>?_);refine AW (λ(s:Int×(Int×(List AE×(Int×(Int×(Int×(Int×(Int×AQ))))))))=>0<=s.2.1/\(s.2.1<=i.1\/s.2.1=0)/\θ s.2.2.1<=s.2.1) (λ(s:Int×(Int×(List AE×(Int×(Int×(Int×(Int×(Int×AQ))))))))=>(i.1-s.2.1).toNat) ⟨Af _,.inr rfl,k!⟩ (λs o=>?_);have⟨t,v,w⟩:=o;unfold Ko;refine AC (λj=>?_) (λ_=>AB λu c=>by cases c);have e:=AZ (x:=s.2.1+1);grind[AA,Zi,AL,AB,pq,Ad,List.length_cons,List.length_nil];refine AC (λ_=>AB n!) (λ_=>AA tj λq d=>AO (λ_=>AB n!) (λj=>AB λ_=>d j))
abbrev EN:=AE
def zw(x y:Int):EG (x,y)=δ (if x<y then-1 else if x>y then 1 else 0):=by unfold EG Fo;simp only[H!,AD,A!];by_cases a:x<y;simp[a];by_cases b:x>y;simp[a,b];simp[a,b]
theorem nV{x:Int}(h:0<=x/\x<=1099511627776:=by omega):wi x=x:=AZ
theorem wip{i:Nat}(h:i<=16777216:=by omega):wi ((i:Int)+1)=((i+1:Nat):Int):=by grind[nV]
def wim{i:Nat}(h:i<=16777216:=by omega):wi ((i:Int)-1)=(i:Int)-1:=by grind[AZ]
def bl8(n:Nat):Nat:=if n=0 then 0 else if n<2 then 1 else if n<4 then 2 else if n<8 then 3 else if n<16 then 4 else if n<32 then 5 else if n<64 then 6 else if n<128 then 7 else 8
def pN{n:Nat}(h:n<256):bl8 n<=8/\(1<=n->2^bl8 n<=2*n):=by grind[bl8]
def T8:BX:=(List.range 256).map λn=>UInt8.ofNat (bl8 n)
def AJ6{n:Nat}(h:n<256):six T8 (n:Int)=δ ((bl8 n:Nat):Int):=by have a:=(pN h).1;unfold six T8;simp[h];omega
noncomputable def Lz(x:Int):Option Int:=
 σ ((
   bif (τ (x>=4294967296))then
    δ ((Int.fdiv x (2^(min (ο 32) 64))),32)
   else
   δ (x,0)):(Option (Int×Int))) λv0=>
 σ ((
   bif (τ (v0.1>=65536))then
    δ ((Int.fdiv v0.1 (2^(min (ο 16) 64))),wi (v0.2+16))
   else
   δ v0):(Option (Int×Int))) λv1=>
 σ ((
   bif (τ (v1.1>=256))then
    δ ((Int.fdiv v1.1 (2^(min (ο 8) 64))),wi (v1.2+8))
   else
   δ v1):(Option (Int×Int))) λv2=>
 σ (six T8 (ι .u8 v2.1)) λv3=>
 δ (wi (v2.2+(wi v3)))
def AIq:QA=Lz:=by kernel_rfl
def AJv(n:Nat):Int.fdiv (n:Int) (2^(min (ο 16) 64))=((n/65536:Nat):Int):=by grind[ο,Int.fdiv_eq_ediv_of_nonneg]
def fd8(n:Nat):Int.fdiv (n:Int) (2^(min (ο 8) 64))=((n/256:Nat):Int):=by grind[ο,Int.fdiv_eq_ediv_of_nonneg]
def wZ{y s:Nat}(h:y<256)(c:s<=64):(Option.bind (six T8 (IntKind.wrap .u8 (y:Int))) λa=>some (wi ((s:Int)+(wi a))))=some ((s+bl8 y:Nat):Int):=by have b:=(pN h).1;rw[AGy,show(y:Int)%256=(y:Int) by omega,AJ6 h,AD,nV (x:=((bl8 y:Nat):Int)),nV];exact congrArg some o!
def AA3{x:Nat}(h:x<=16777216):∃r:Nat,QA (x:Int)=δ (r:Int)/\r<=32/\(1<=x->2^r<=2*x):=by
 rw[AIq];unfold Lz;have c:τ ((x:Int)>=4294967296)=η:=w!
 rw[c,A!,AD];by_cases f:x>=65536;have:τ (((x:Int),(0:Int)).1>=65536)=ζ:=w!
 have e:wi (((x:Int),(0:Int)).2+16)=((16:Nat):Int):=by show wi (0+16)=_;decide
 rw[this,B!,AD,e,AJv];by_cases g:x/65536>=256;have:τ (((((x/65536:Nat):Int),((16:Nat):Int)):Int×Int).1>=256)=ζ:=w!
 have e:wi (((((x/65536:Nat):Int),((16:Nat):Int)):Int×Int).2+8)=((24:Nat):Int):=by show wi (((16:Nat):Int)+8)=_;decide
 rw[this,B!,AD,e,fd8];have a:x/65536/256<256:=o!
 have b:=pN a;refine⟨_,wZ a o!,o!,λ_=>?_⟩;grind[Nat.pow_add];have:τ (((((x/65536:Nat):Int),((16:Nat):Int)):Int×Int).1>=256)=η:=w!
 rw[this,A!,AD];have a:x/65536<256:=o!
 have b:=pN a;refine⟨_,wZ a o!,o!,λ_=>?_⟩;grind[Nat.pow_add];have:τ (((x:Int),(0:Int)).1>=65536)=η:=w!
 rw[this,A!,AD];by_cases g:x>=256;have:τ (((x:Int),(0:Int)).1>=256)=ζ:=w!
 have e:wi (((x:Int),(0:Int)).2+8)=((8:Nat):Int):=by show wi (0+8)=_;decide
 rw[this,B!,AD,e,fd8];have a:x/256<256:=o!
 have b:=pN a;refine⟨_,wZ a o!,o!,λ_=>?_⟩;grind[Nat.pow_add];have:τ (((x:Int),(0:Int)).1>=256)=η:=w!
 rw[this,A!,AD];have a:x<256:=o!
 have b:=pN a;refine⟨_,wZ (s:=0) a o!,o!,λd=>?_⟩;have:=b.2 d;rw[DT];omega
def CP(B:Nat):Prop:=True
def CPa(B:Nat):CP B:=O!
def PT{α:Type}(T:Prop)(o:Option α)(Q:α->Prop):Prop:=(T->∃r,o=δ r)/\∀r,o=δ r->Q r
section
variable {α β γ:Type}{T:Prop}
def PT.some{r:α}{Q:α->Prop}(h:Q r):PT T (.some r) Q:=⟨λ_=>⟨r,rfl⟩,λs e=>q!⟩
def kA{o:Option α}{Q:α->Prop}(h:As o Q):PT T o Q:=by obtain⟨r,rfl,h⟩:=h;exact PT.some h
def PT.bind{o:Option α}{k:α->Option β}{P:α->Prop}{Q:β->Prop}(h:PT T o P)(a:∀r,P r->PT T (k r) Q):PT T (σ o k) Q:=by
 cases o with
 |none=>exact⟨λt=>(by have⟨r,h⟩:=h.1 t;cases h),λr e=>(by cases e)⟩
 |some r=>exact a r (h.2 r rfl)
def PT.cond{c:Bool}{a b:Option α}{Q:α->Prop}(d:c=ζ->PT T a Q)(e:c=η->PT T b Q):PT T (bif c then a else b) Q:=q!
def PT.dec{p:Prop}{_:Decidable p}{a b:Option α}{Q:α->Prop}(c:p->PT T a Q)(d:¬p->PT T b Q):PT T (bif decide p then a else b) Q:=q!
def aS{n m:Nat}{a b:Option α}{Q:α->Prop}(e:n=m)(h:PT T a Q):PT T (bif ξ n m then a else b) Q:=t!
end
def oP{x:AI×Int}(h:θ x.1.1<=16)(a:0<=x.2/\x.2<θ x.1.1):As (J8 x) λr=>True:=by unfold J8;have e:=AZ (x:=x.2+1);rw[e];refine AC (λb=>?_) (λ_=>?_);simp only[len]at b;refine AA (AJ a.1 a.2) λc _=>AA (AJ o! b) λd _=>AB trivial;exact AA (AJ a.1 a.2) λf _=>AB trivial
def mG{x:AI×AQ}(h:θ x.1.1<=16):As (MU x) λr=>True:=by
 unfold MU;refine AA (P:=λ_=>True) ?_ λv _=>BG (λ_ _=>AB trivial) (λ_ _=>AB trivial);refine AW (λ(s:Int)=>0<=s/\s<=θ x.1.1) (λ(s:Int)=>((θ x.1.1:Int)-s).toNat) ⟨Af _,o!⟩ (λs c=>?_);unfold Qf;have e:=AZ (x:=s+1);rw[e];refine AC (λa=>?_) (λ_=>AB trivial);simp only[len]at a;have b:((0<=s+1/\s+1<=θ x.1.1)/\((θ x.1.1:Int)-(s+1)).toNat<((θ x.1.1:Int)-s).toNat):=⟨o!,o!⟩
 refine AA (oP h ⟨c.1,a⟩) λd _=>AP (λ_=>?_) (λ_=>AB b);exact AP (λ_=>AB trivial) (λ_=>AB b)
def mF{x:AI×Aq}(h:θ x.1.1<=16)(c:θ x.2.2.2<=2199023255552):As (Gu x) λr=>r.2=ζ->Zw r.1:=by unfold Gu;refine AL (λ_=>AB n!) (λ_=>AA (rW c) λd b=>AP (λa=>?_) (λ_=>AB λa=>by cases a));exact AA (mG h) λe _=>AB λ_=>b a
def AAO{a b:Int}(f:0<=a:=by omega)(g:0<=b:=by omega)(h:a+b<=1099511627776:=by omega):wi (Int.fdiv (IntKind.wrap .u64 (wi (a+b))) (2^(min (Int.toNat 1) 64)))=(a+b)/2:=by
 have c:wi (a+b)=a+b:=AZ;have d:IntKind.wrap .u64 (a+b)=a+b:=by rw[We];omega
 have e:(2:Int)^(min (Int.toNat 1) 64)=2:=by decide
 rw[c,d,e,kq _ (by decide)];exact AZ
def Vy{x:Int×Int}:As (Ny x) λr=>r=ζ↔x.1<x.2:=by unfold Ny Fo;apply BF;refine AK (λa=>?_) (λ_=>AB k!);simp at a
def MT{α:Type}(b:Bool)(o:Option α)(Q:α->Prop):Prop:=(b=ζ->∃r,o=δ r)/\∀r,o=δ r->Q r
section
variable {α β:Type}{b:Bool}
def MT.some{r:α}{Q:α->Prop}(h:Q r):MT b (.some r) Q:=⟨λ_=>⟨r,rfl⟩,λs e=>by injection e with e;rw[<-e];exact h⟩
def kC{o:Option α}{Q:α->Prop}(h:As o Q):MT b o Q:=⟨λ_=>by have⟨r,e,_⟩:=h;exact⟨r,e⟩,λr e=>h.get e⟩
def MT.bind{o:Option α}{k:α->Option β}{P:α->Prop}{Q:β->Prop}(h:MT b o P)(d:∀r,P r->MT b (k r) Q):MT b (σ o k) Q:=by refine⟨λc=>?_,λr e=>?_⟩;have⟨r,e⟩:=h.1 c;have⟨s,a⟩:=(d r (h.2 r e)).1 c;exact⟨s,by rw[e];exact a⟩;have⟨s,f,a⟩:=Dj.1 e;exact(d s (h.2 s f)).2 r a
def MT.cond{c:Bool}{x y:Option α}{Q:α->Prop}(a:c=ζ->MT b x Q)(d:c=η->MT b y Q):MT b (bif c then x else y) Q:=by cases c<;>grind
def MT.dec{p:Prop}{_:Decidable p}{x y:Option α}{Q:α->Prop}(a:p->MT b x Q)(c:¬p->MT b y Q):MT b (bif decide p then x else y) Q:=by simp_all[MT.cond]
end
def og{a:Type}{l:List a}{i:Int}{x:a}:(Eo l i x).length=θ l:=by simp[Eo]
abbrev NL:=List Az
def DS(a:AI):Prop:=∀f∈a.2.2.1,θ f.2.2<=2199023255552
def SpL(l:List FC):Prop:=θ l<=16777216/\∀s∈l,1<=s.1
theorem dn{n:Int}{v:EN}:∀{m:List (Int×EN)},(m.map (·.1)).Nodup->∀q,q∈P0 n v m↔q=(n,v)\/(q∈m/\q.1≠n)
 |[],_,q=>by simp[P0]
 |p::r,h,q=>by
  rw[Bf,GI]at h;unfold P0;by_cases b:p.1=n;grind[List.mem_cons_of_mem,List.mem_map_of_mem];have:(p.1==n)=η:=by simp[b]
  rw[this,A!];constructor;intro a;rcases Aw.1 a with a|a;grind;rcases(dn h.2 q).1 a with a|⟨a,hn⟩;exact .inl a;grind[List.mem_cons_of_mem];rintro(a|⟨a,hn⟩);exact Ce _ ((dn h.2 q).2 (.inl a));rcases Aw.1 a with a|a;grind;exact Ce _ ((dn h.2 q).2 (.inr ⟨a,hn⟩))
def wB{n:Int}{v:EN}:∀{m:List (Int×EN)},(m.map (·.1)).Nodup->((P0 n v m).map (·.1)).Nodup
 |[],_=>by simp[P0]
 |p::r,h=>by
  have b:=h;rw[Bf,GI]at h;unfold P0;by_cases a:p.1=n;grind[List.nodup_cons];have:(p.1==n)=η:=by simp[a]
  rw[this,A!,Bf,GI];refine⟨λc=>?_,wB h.2⟩;grind[dn,List.mem_map_of_mem]
def vz{n:Int}{e:EN}:∀{m:List (Int×EN)},LD n m=δ e->(n,e)∈m
 |[],h=>by cases h
 |p::r,h=>by
  unfold LD at h;by_cases a:p.1=n;grind;have:(p.1==n)=η:=by simp[a]
  rw[this,A!]at h;exact Ce _ (vz h)
def vy{n:Int}:∀{m:List (Int×EN)},LD n m=ε->∀q∈m,q.1≠n
 |[],_,q,a=>by cases a
 |p::r,h,q,a=>by
  unfold LD at h;by_cases b:p.1=n;have:(p.1==n)=ζ:=by simp[b]
  rw[this,B!]at h;cases h;have:(p.1==n)=η:=by simp[b]
  rw[this,A!]at h;rcases Aw.1 a with a|a;rw[a];exact b;exact vy h q a
def QQ(m:List (Int×EN))(P:EN->Prop):Prop:=(m.map (·.1)).Nodup/\(∀q∈m,q.1=q.2.1)/\∀e,(e.1,e)∈m↔P e
def QQ.nil:QQ [] λ_=>False:=⟨QW,k!,k!⟩
def QQ.put{m:List (Int×EN)}{P:EN->Prop}{v:EN}(h:QQ m P):QQ (P0 v.1 v m) λe=>e=v\/(P e/\e.1≠v.1):=by refine⟨wB h.1,λq a=>?_,λe=>?_⟩;rcases(dn h.1 q).1 a with a|⟨a,_⟩;rw[a];exact h.2.1 q a;rw[dn h.1];constructor;rintro(a|⟨a,hn⟩);injection a with _ a;exact .inl a;exact .inr ⟨(h.2.2 e).1 a,hn⟩;rintro(rfl|⟨a,hn⟩);exact .inl rfl;exact .inr ⟨(h.2.2 e).2 a,hn⟩
def QQ.congr{m:List (Int×EN)}{P Q:EN->Prop}(h:QQ m P)(a:∀e,P e↔Q e):QQ m Q:=⟨h.1,h.2.1,λe=>(h.2.2 e).trans (a e)⟩
def QQ.get{m:List (Int×EN)}{P:EN->Prop}(h:QQ m P){e:EN}(g:P e):LD e.1 m=δ e:=by
 have d:=(h.2.2 e).2 g;cases c:LD e.1 m with
 |none=>exact N! rfl (vy c _ d)
 |some f=>
  have i:∀{l:List (Int×EN)},(l.map (·.1)).Nodup->∀{n:Int}{a b:EN},(n,a)∈l->(n,b)∈l->a=b:=by intro l;induction l<;>grind
  rw[i h.1 d (vz c)]
def im(e:EN):Bool:=(e.2.1==1)||(e.2.1==2)
def my(e:EN):BB e=δ (im e):=by grind[BB,im]
def LK(p i j:Int)(e:EN):Bool:=im e&&((e.2.2.2.2.2.2.1.1==p)&&(τ (e.1>i)&&τ (e.1<=j)))
def Pz(s:Int×Int)(n:Int):Bool:=τ (n>=s.1)&&τ (n<=s.2)
def has_eq(s:Int×Int)(n:Int):I9 (s,n)=δ (Pz s n):=by grind[I9,Pz]
def AJF{e:EN}{l:List (Int×Int)}(j:θ l<=16777216):As (Ai (Wp e l) 0) λr=>(∀u,r=.inl u->0<=u/\(l.any λs=>Pz s e.1)=ζ)/\(∀u,r=.inr u->(l.any λs=>Pz s e.1)=η):=by refine AW (λ(s:Int)=>0<=s/\s<=θ l/\∀x∈l.take s.toNat,Pz x e.1=η) (λ(s:Int)=>((θ l:Int)-s).toNat) ⟨Af _,o!,k!⟩ (λs d=>?_);have⟨g,m,h⟩:=d;unfold Wp;refine AC (λa=>?_) (λa=>AB ⟨λu b=>(by cases b),λu _=>?_⟩);simp[len]at a;rw[(AZ (x:=s+1))];refine AA (AJ g a) λn c=>?_;rw[has_eq,AD];refine AK (λk=>AB ⟨λu b=>?_,λu b=>(by cases b)⟩) (λi=>AB ⟨⟨o!,o!,λx f=>?_⟩,o!⟩);grind[List.any_eq_true];rw[show(s+1).toNat=s.toNat+1 by omega,Co,c.1]at f;grind[Option.toList_some,List.mem_singleton];simp[len]at a;rw[BP o!]at h;rw[Bool.eq_false_iff];grind[List.any_eq_true]
def AJE{a:AI}{l:Aa}{p i j:Int}{d:List (Int×Int)}(R:Do l)(hv:1≤θ d)(S:θ d≤16777216):
  As (Ai (Wo (a,l,p,i,j) d) (0,0,[])) λr=>r.1=((l.2.1.filter λe=>LK p i j e&&(d.tail.any λs=>Pz s e.1)).length:Int)/\QQ r.2 λe=>e∈l.2.1/\LK p i j e=ζ:=by
 obtain⟨l1,l2,l3,l4,l5,K⟩:=R;refine AW (λ(s:Int×(Int×List (Int×EN)))=>0<=s.1/\s.1<=θ l.2.1/\s.2.1=(((l.2.1.take s.1.toNat).filter λe=>LK p i j e&&(d.tail.any λs=>Pz s e.1)).length:Int)/\QQ s.2.2 λe=>e∈l.2.1.take s.1.toNat/\LK p i j e=ζ) (λs=>((θ l.2.1:Int)-s.1).toNat)
  ⟨Af _,d!,k!,QQ.nil.congr λe=>k!⟩ (λs O=>?_)
 obtain⟨T,i2,A,B⟩:=O;unfold Wo;dsimp only;refine AC (λy=>?_) (λy=>AB ?_);simp only[len]at y;have L:=AZ (x:=s.1+1);rw[L];refine AA (AJ T y) λq I=>?_;rw[my,AD];have g:l.2.1.take (s.1+1).toNat=l.2.1.take s.1.toNat++[q]:=by rw[show(s.1+1).toNat=s.1.toNat+1 by omega,Co,I.1];rfl
 have f:LK p i j q=η->(0<=s.1+1/\s.1+1<=θ l.2.1/\s.2.1=(((l.2.1.take (s.1+1).toNat).filter λe=>LK p i j e&&(d.tail.any λs=>Pz s e.1)).length:Int)/\QQ s.2.2 λe=>e∈l.2.1.take (s.1+1).toNat/\LK p i j e=ζ)/\((θ l.2.1:Int)-(s.1+1)).toNat<((θ l.2.1:Int)-s.1).toNat:=λw=>by
  refine⟨⟨o!,o!,?_,?_⟩,o!⟩;rw[g,HY,A];simp[w];rw[g];refine B.congr λe=>⟨λh=>⟨Ak.2 (.inl h.1),h.2⟩,λh=>⟨?_,h.2⟩⟩
  rcases Ak.1 h.1 with m|m;exact m;rw[BA.1 m,w]at h;cases h.2
 refine AK (λC=>?_) (λC=>AB (f (by simp[LK,C])));refine AK (λD=>?_) (λD=>AB (f (by simp[LK,D])));refine AK (λE=>?_) (λE=>AB (f (by unfold LK;rw[E];simp)));refine AK (λF=>?_) (λF=>AB (f (by unfold LK;rw[F];simp)));have w:LK p i j q=ζ:=by unfold LK;rw[C,D,E,F];rfl
 refine AA (Bn (lo:=1) (hi:=(θ d:Int))) λV N=>?_;have H:V=d.tail:=by
  rw[N.1,BP (by rw[C5];omega)];cases d with
  |nil=>rfl
  |cons a r=>rfl
 subst H;refine AA (AJF (by rw[List.length_tail];omega)) λU o=>?_;have M:=K s.1.toNat q I.1;have n:QQ (P0 q.1 q s.2.2) λe=>e∈l.2.1.take (s.1+1).toNat/\LK p i j e=ζ:=by
  rw[g];refine B.put.congr λe=>⟨?_,λh=>?_⟩
  rintro(rfl|⟨h,_⟩);exact⟨Ak.2 (.inr (BA.2 rfl)),w⟩;exact⟨Ak.2 (.inl h.1),h.2⟩;rcases Ak.1 h.1 with m|m;refine .inr ⟨⟨m,h.2⟩,λZ=>?_⟩;obtain⟨k,Q,v⟩:=Vl.1 m;rw[BR]at Q;rw[List.getElem_take]at v;have:=(K k e (by rw[<-v];exact Ar o!)).1;omega;exact .inl (BA.1 m)
 have t:∀b:Bool,(d.tail.any λs=>Pz s q.1)=b->((((l.2.1.take (s.1+1).toNat).filter λe=>LK p i j e&&(d.tail.any λs=>Pz s e.1)).length:Nat):Int)=s.2.1+(if b=ζ then 1 else 0):=λb P=>by rw[g,HY,AY,A];cases b<;>simp[w,P]
 have J:(((l.2.1.take s.1.toNat).filter λe=>LK p i j e&&(d.tail.any λs=>Pz s e.1)).length:Int)<=4096:=by have W:=FF (λe=>LK p i j e&&(d.tail.any λs=>Pz s e.1)) (l.2.1.take s.1.toNat);have X:=eE s.1.toNat l.2.1;have Y:=List.length_take_le' s.1.toNat l.2.1;omega
 have G:=AZ (x:=s.2.1+1);rw[G];refine BG (λu z=>?_) (λu z=>AB ⟨⟨d!,d!,?_,n⟩,d!⟩);refine AC (λ_=>AB ⟨⟨d!,d!,?_,n⟩,d!⟩) (λc=>N! (o.1 u z).1 c);rw[t ζ (o.1 u z).2];rfl;rw[t η (o.2 u z)];simp;simp only[len]at y;rw[BP o!]at A B;exact⟨A,B⟩
def ltC(f e:EN):Prop:=f.2.2.2.2.2.2.1.1<e.2.2.2.2.2.2.1.1\/(f.2.2.2.2.2.2.1.1=e.2.2.2.2.2.2.1.1/\f.1<e.1)
theorem AAN(e:EN):¬ltC e e:=by unfold ltC;omega
def ACb{a b c:EN}(h:ltC a b)(g:ltC b c):ltC a c:=by unfold ltC at*;omega
def AG6(f e:EN):∃c:Int,D0 (f,e)=δ c/\(c<0↔ltC f e)/\(c=0↔f.2.2.2.2.2.2.1.1=e.2.2.2.2.2.2.1.1/\f.1=e.1):=by
 have:As (D0 (f,e)) λc=>(c<0↔ltC f e)/\(c=0↔f.2.2.2.2.2.2.1.1=e.2.2.2.2.2.2.1.1/\f.1=e.1):=by
  unfold D0;unfold ltC;dsimp only;repeat' with_reducible first|intro a|apply AC|apply AP|apply AK|apply AB
  all_goals omega
 exact this
def xo(x:AQ)(i:Nat):Prop:=∀e,x.2.2.2.2.2[i]?=δ e->
 (L5 e/\im e=ζ/\x.1<=e.1/\e.1<=x.2.1/\x.2.2.1<=e.2.2.2.2.2.2.1.1/\e.2.2.2.2.2.2.1.1<=x.2.2.2.1)/\(i=0->e.2.2.2.2.1<x.1)/\
 ∀f,0<i->x.2.2.2.2.2[i-1]?=δ f->ltC f e/\(f.2.2.2.2.2.2.1.1=e.2.2.2.2.2.2.1.1->e.2.2.2.2.1=f.1)/\(f.2.2.2.2.2.2.1.1≠e.2.2.2.2.2.2.1.1->e.2.2.2.2.1<x.1)
def VR(x:AQ):Prop:=Zw x/\∀i,xo x i
def VR.ent{x:AQ}(h:VR x){e:EN}(a:e∈x.2.2.2.2.2):L5 e/\im e=ζ/\x.1<=e.1/\e.1<=x.2.1/\x.2.2.1<=e.2.2.2.2.2.2.1.1/\e.2.2.2.2.2.2.1.1<=x.2.2.2.1:=by obtain⟨i,b,rfl⟩:=Vl.1 a;exact(h.2 i _ (Ar b)).1
def zi{x:AQ}(Q:θ x.2.2.2.2.2<=4096):As (Ai (HC x) 0) λr=>(r=.inl η/\¬ ∀i,xo x i)\/(r=.inr ()/\∀i,xo x i):=by
 refine Cp (λ(s:Int)=>0<=s/\s<=θ x.2.2.2.2.2/\∀i:Nat,(i:Int)<s->xo x i) (λ(s:Int)=>((θ x.2.2.2.2.2:Int)-s).toNat) ⟨Af _,o!,λi z=>o!⟩ (λs J=>?_);obtain⟨G,R,H⟩:=J;unfold HC;simp only[len];refine AC (λE=>?_) (λE=>As.done (.inr ⟨rfl,λi=>?_⟩))
 case refine_2=>by_cases z:(i:Int)<s;exact H i z;intro e m;rw[Cn o!]at m;cases m
 obtain⟨k,rfl⟩:=EE G;refine AA (AJ G E) λv d=>?_;have d:=d.1;rw[Cz]at d;have a:(xo x k->False)->As (δ (Step.done (.inl η)):Option (Step Int (Bool⊕Unit))) (Nn (λ(s:Int)=>0<=s/\s<=θ x.2.2.2.2.2/\∀i:Nat,(i:Int)<s->xo x i) (λ(s:Int)=>((θ x.2.2.2.2.2:Int)-s).toNat) ((θ x.2.2.2.2.2:Int)-(k:Int)).toNat λr=>(r=.inl η/\¬ ∀i,xo x i)\/(r=.inr ()/\∀i,xo x i)):=λh=>As.done (.inl ⟨rfl,λu=>h (u k)⟩);have j:xo x k->As (δ (Step.next (wi ((k:Int)+1))):Option (Step Int (Bool⊕Unit))) (Nn (λ(s:Int)=>0<=s/\s<=θ x.2.2.2.2.2/\∀i:Nat,(i:Int)<s->xo x i) (λ(s:Int)=>((θ x.2.2.2.2.2:Int)-s).toNat) ((θ x.2.2.2.2.2:Int)-(k:Int)).toNat λr=>(r=.inl η/\¬ ∀i,xo x i)\/(r=.inr ()/\∀i,xo x i)):=λh=>by
  rw[AZ];refine As.next ⟨o!,o!,λi z=>?_⟩ o!
  by_cases A:i=k;rw[A];exact h;exact H i o!
 refine AA CV λN C=>AO (λl=>a λok=>?_) (λl=>?_);have:=C.2 (ok v d).1.1;rw[l]at this;cases this;have q1:=C.1 l;refine AA CK λO D=>?_;have q:im v=ζ↔v.2.1=1\/v.2.1=2:=by unfold im;simp
 refine AO (λl=>a λok=>?_) (λl=>?_);have:=D.2 (q.1 (ok v d).1.2.1);rw[l]at this;cases this;have q2:=q.2 (D.1 l);refine AC (λt=>a λok=>?_) (λq3=>?_);have:=(ok v d).1.2.2;omega;refine AC (λt=>a λok=>?_) (λq4=>?_);have:=(ok v d).1.2.2;omega;refine AC (λt=>a λok=>?_) (λq5=>?_);have:=(ok v d).1.2.2;omega;refine AC (λt=>a λok=>?_) (λq6=>?_);have:=(ok v d).1.2.2;omega;have q0:L5 v/\im v=ζ/\x.1<=v.1/\v.1<=x.2.1/\x.2.2.1<=v.2.2.2.2.2.2.1.1/\v.2.2.2.2.2.2.1.1<=x.2.2.2.1:=⟨q1,q2,o!⟩
 apply AC<;>intro L;have M:wi ((k:Int)-1)=((k-1:Nat):Int):=by rw[AZ];omega
 have F:k-1<θ x.2.2.2.2.2:=o!
 have w:ix x.2.2.2.2.2 (wi ((k:Int)-1))=δ (x.2.2.2.2.2[k-1]):=by rw[M];unfold ix;rw[C! o!,Cz,Ar F]
 have n:x.2.2.2.2.2[k-1]?=δ (x.2.2.2.2.2[k-1]):=Ar F;generalize x.2.2.2.2.2[k-1]=f at w n;obtain⟨c,y,p,K⟩:=AG6 f v;rw[w,AD,y,AD];refine AC (λt=>a λok=>?_) (λt=>?_);have:=p.2 ((ok v d).2.2 f o! n).1;omega;have q7:=p.1 o!;rw[G! o!,B!,AD];refine AA (P:=λr:Bool⊕Unit=>(r=.inl η/\¬xo x k)\/(r=.inr ()/\xo x k)) ?_ λr hr=>?_;apply AP<;>intro m;rw[AD];refine AL (λhn=>AB (.inl ⟨rfl,λok=>hn (((ok v d).2.2 f o! n).2.1 m)⟩)) (λhn=>AB (.inr ⟨rfl,λe g=>?_⟩));rw[d]at g;injection g with g;subst g;refine⟨q0,λo=>N! o o!,λI _ b=>?_⟩;rw[n]at b;injection b with b;subst b;exact⟨q7,λ_=>hn,λu=>N! m u⟩;refine AC (λhn=>AB (.inl ⟨rfl,λok=>?_⟩)) (λhn=>AB (.inr ⟨rfl,λe g=>?_⟩));have:=((ok v d).2.2 f o! n).2.2 m;omega;rw[d]at g;injection g with g;subst g;refine⟨q0,λo=>N! o o!,λI _ b=>?_⟩;rw[n]at b;injection b with b;subst b;exact⟨q7,λu=>N! u m,λ_=>o!⟩;rcases hr with⟨rfl,hr⟩|⟨rfl,hr⟩;exact BK (a hr);exact A4 (j hr);rw[F! L,A!];have B:k=0:=o!
 apply Bh;apply AC<;>intro hn;rw[AD];refine BK (a λok=>?_);have:=(ok v d).2.1 B;omega;rw[AD];refine A4 (j λe g=>?_);rw[d]at g;injection g with g;subst g;exact⟨q0,λ_=>o!,λf o=>N! o o!⟩
def Xj{x:AQ}:As (EL x) λr=>r=ζ↔VR x:=by unfold EL;refine AA If λf c=>AO (λb=>AB ⟨λa=>(by cases a),λa=>?_⟩) (λb=>?_);obtain⟨⟨a1,a2,a3,a4,a5,a6,a7,a8,a9⟩,_⟩:=a;have:=c.2 ⟨a1,a2,a3,a4,a5,a6,a7,a8⟩;rw[b]at this;cases this;have hn:=c.1 b;dsimp only at hn;refine AC (λd=>AB ⟨λa=>(by cases a),λa=>?_⟩) (λe=>?_);have:=a.1.2.2.2.2.2.2.2.2;simp only[len]at d;omega;simp only[len]at e;refine AA (zi o!) λr hr=>?_;rcases hr with⟨rfl,hr⟩|⟨rfl,hr⟩;exact BK (AB ⟨λa=>(by cases a),λa=>N! a.2 hr⟩);exact A4 (AB ⟨λ_=>⟨⟨hn.1,hn.2.1,hn.2.2.1,hn.2.2.2.1,hn.2.2.2.2.1,hn.2.2.2.2.2.1,hn.2.2.2.2.2.2.1,hn.2.2.2.2.2.2.2,o!⟩,hr⟩,λ_=>rfl⟩)
abbrev NE:=Az
def lN(x y:NE):Bool:=τ (x.1.2.2.1<y.1.2.2.1\/(x.1.2.2.1=y.1.2.2.1/\(x.1.1<y.1.1\/(x.1.1=y.1.1/\x.2<y.2))))
def uh:Sort.SWO lN where
 irrefl x:=by simp[lN]
 trans x y z h1 h2:=by simp[lN,K!]at*;omega
 ntrans x y z h1 h2:=by simp[lN,decide_eq_false_iff_not]at*;omega
def oi{l:List Int}{k:Nat}{v:Int}(h:l[k]?=δ v)(b:k<1000)(c:θ l<1000):Ai (J9 l) (k:Int)=if v=0 then Ai (J9 l) ((k+1:Nat):Int)else δ (.inl v):=by
 rw[HG];have a:=(EP.1 h).1;have d:τ ((k:Int)<len l)=ζ:=w!
 have e:ix l (k:Int)=δ v:=by unfold ix;rw[C! o!];simpa using h
 grind[wip,J9]
def AJK(a b c:Int):KT [a,b,c]=δ (if a≠0 then a else if b≠0 then b else c):=by unfold KT;rw[show(0:Int)=((0:Nat):Int)from rfl,oi (k:=0) (v:=a) rfl o! k!];by_cases d:a=0;rw[C! d,oi (k:=1) (v:=b) rfl o! k!];by_cases e:b=0;rw[C! e,oi (k:=2) (v:=c) rfl o! k!];grind[HG,J9];rw[D! e];simp[d,e];rw[D! d];simp[d]
def AGe(x y:NE):∃v,H5 (x,y)=δ v/\τ (v<0)=lN x y:=by
 unfold H5;dsimp only;simp only[zw,AD,AJK];refine⟨_,rfl,?_⟩;unfold lN;apply decide_eq_decide.2;repeat' split
 all_goals omega
section
variable {α:Type} [Inhabited α]
theorem ixG{d:Array α}{i:Int}{k:Nat}(a:i=k)(b:k<d.size:=by omega):ix d.toList i=some d[k]! :=by subst a;unfold ix;rw[if_pos (by omega)];simp[b]
omit [Inhabited α] in
theorem AIP{d:Array α}{i:Int}{k:Nat}(a:i=k)(x:α):Eo d.toList i x=(d.setIfInBounds k x).toList:=by subst a;unfold Eo;simp
def AGr{d:Array α}{i j:Int}{a b:Nat}(c:i=a)(e:j=b):Eo (Eo d.toList i d[b]!) j d[a]! =(Sort.swp d a b).toList:=by rw[AIP c,AIP e];rfl
def AGB{d:Array α}{i j:Int}{a b:Nat}{x:α}(e:i=a)(f:j=b)(c:b<d.size:=by omega):ix (Eo d.toList i x) j=some (d.setIfInBounds a x)[b]! :=by grind[AIP,ixG]
theorem kR(lt:α->α->Bool)(k:Nat):∀(j:Nat)(d:Array α),(Sort.insInner lt k j d).size=d.size
 |0,_=>rfl
 |j+1,d=>by unfold Sort.insInner;split;rw[kR lt k j,Sort.size_swp];rfl
end
theorem ABX{a b:Int}{k:Nat}(g:a=k): ∀(j:Nat) (d:Array NE),j<d.size->d.size<=16777216->Ai (Dh (a,b)) ((j:Int),d.toList)=some (Sort.insInner lN k j d).toList
 |0,d,hj,hd=>by
  rw[HG];have:decide (((0:Nat):Int)>a)=false:=w!
  simp only[Dh,this,cond_false];rfl
 |j+1,d,hj,hd=>by
  rw[HG];have⟨v,e,f⟩:=AGe d[j+1]! d[j]!;simp only[Dh,(by grind[nV]:wi (((j+1:Nat):Int)-1)=(j:Int)),(ixG rfl hj),(ixG rfl:ix d.toList (j:Int)=some d[j]!),(AGB rfl rfl:ix (Eo d.toList ((j+1:Nat):Int) d[j]!) (j:Int)=some (d.setIfInBounds (j+1) d[j]!)[j]!),AD,e,f,AGr (d:=d) (a:=j+1) (b:=j) rfl rfl];unfold Sort.insInner;by_cases c:j+1>k;have:decide (((j+1:Nat):Int)>a)=true:=w!
  rw[this];cases h:lN d[j+1]! d[j]! with
  |true=>simp[cond_true,c,decide_true,Xk,if_true];exact ABX g j _ (by rw[Sort.size_swp];omega) (by rw[Sort.size_swp];omega)
  |false=>simp[c]
  have:decide (((j+1:Nat):Int)>a)=false:=w!
  rw[this];simp[c]
def AD4{a b:Int}{k m:Nat}(g:a=k)(h:b=m):∀(n i:Nat)(d:Array NE),m-i<=n->m<=d.size->d.size<=16777216->Ai (Dg (a,b)) ((i:Int),d.toList)=δ (Sort.insOuter lN k m i d).toList:=by
 intro n;induction n with
 |zero=>grind[HG,Sort.insOuter,Dg]
 |succ n j=>intro i d c e f;rw[HG,Sort.insOuter];grind[nV,kR,Dg,ABX]
def ABW{d:Array NE}{a b:Int}{k m:Nat}(c:a=k)(e:b=m)(g:m<=d.size)(h:k<=m)(f:d.size<=16777216):C4 d.toList (a,b)=δ (Sort.insertionSort lN d k m).toList:=by unfold C4;dsimp only;rw[(by grind[nV]:wi (a+1)=((k+1:Nat):Int)),AD4 c e (m-(k+1)) (k+1) d o! g f];rfl
def swR(a b n:Nat)(d:Array NE)(k:Nat):NE:=if a<=k/\k<a+n then d[b+(k-a)]! else if b<=k/\k<b+n then d[a+(k-b)]! else d[k]!
def xi{d:Array NE}{a b n:Nat}(f:a+n≤b)(l:b+n≤d.size)(m:d.size≤16777216):
  As (Cr d.toList ((a:Int),((b:Int),(n:Int)))) λr=> ∃e:Array NE,r=e.toList/\e.size=d.size/\ ∀k,k<d.size->e[k]! =swR a b n d k:=by
 unfold Cr;refine AA (P:=λr=> ∃e:Array NE,r=e.toList/\e.size=d.size/\ ∀k,k<d.size->e[k]! =swR a b n d k) ?_ λr h=>AB h;refine AW (λ(s:Int×List NE)=> ∃(t:Nat) (e:Array NE),s.1=t/\s.2=e.toList/\t<=n/\e.size=d.size/\ ∀k,k<d.size->e[k]! =swR a b t d k) (λs=>n-s.1.toNat) ⟨0,d,rfl,rfl,Bc _,rfl,λk _=>by unfold swR;rw[if_neg o!,if_neg o!]⟩ ?_;rintro⟨q,u⟩ ⟨t,e,q1,q2,q3,q4,q5⟩;dsimp only at q1 q2;subst q1 q2;unfold Hr;dsimp only;refine AC (λg=>?_) (λg=>AB ⟨e,rfl,q4,?_⟩);have o:t<n:=o!
 simp only[(by grind[nV]:wi ((b:Int)+(t:Int))=((b+t:Nat):Int)),(by grind[nV]:wi ((a:Int)+(t:Int))=((a+t:Nat):Int)),(ixG rfl:ix e.toList ((b+t:Nat):Int)=some e[b+t]!),(ixG rfl:ix e.toList ((a+t:Nat):Int)=some e[a+t]!),(AGB rfl rfl:ix (Eo e.toList ((a+t:Nat):Int) e[b+t]!) ((b+t:Nat):Int)=some (e.setIfInBounds (a+t) e[b+t]!)[b+t]!),AD,wip (i:=t),AGr (d:=e) (a:=a+t) (b:=b+t) rfl rfl];refine AB ⟨⟨t+1,_,rfl,rfl,o!,by rw[Sort.size_swp,q4],λk j=>?_⟩,?_⟩;rw[Sort.swp_get e o! o!];rw[(q5 (a+t) o!),(q5 (b+t) o!),(q5 k j)];unfold swR;by_cases k1:k=a+t;subst k1;rw[if_neg o!,if_pos rfl,if_neg o!,if_neg o!,if_pos o!];exact congrArg (λz=>d[z]!) o!;by_cases c:k=b+t;subst c;rw[if_pos rfl,if_neg o!,if_neg o!,if_neg o!,if_pos o!];exact congrArg (λz=>d[z]!) o!;rw[if_neg c,if_neg k1];by_cases p:a<=k/\k<a+t<;>grind;show n-((t+1:Nat):Int).toNat<n-((t:Nat):Int).toNat
 omega;have:t=n:=o!
 rw[<-this];exact q5
def eD(x:AQ):BX:=[80,77,82,78]++(C8 x.1 8++(C8 x.2.1 8++(C8 x.2.2.1 4++(C8 x.2.2.2.1 4++(C8 x.2.2.2.2.1 1++C8 (θ x.2.2.2.2.2:Int) 4)))))
def My(x:AQ):BX:=Hd (eD x)++KR x.2.2.2.2.2
theorem Zm(x:AQ):(eD x).length=33:=rfl
def Zw.inr{x:AQ}(h:Zw x):bR 8 x.1/\bR 8 x.2.1/\bR 4 x.2.2.1/\bR 4 x.2.2.2.1/\bR 1 x.2.2.2.2.1/\bR 4 (θ x.2.2.2.2.2:Int):=by have⟨a1,a2,a3,a4,a5,a6,a7,a8,a9⟩:=h;grind[bR]
def VR.len{x:AQ}(h:VR x):(My x).length<=34406441:=by have b:=rk (l:=x.2.2.2.2.2) λe a=>(h.ent a).1;have c:=h.1.2.2.2.2.2.2.2.2;grind[My,List.length_append,Ep,Zm]
def AFN{x:AQ}(h:Zw x):Hk x=δ (eD x):=by unfold Hk;rw[Hq k! g! g!,AD];rw[Hq (by simp only[AY,A0];simp) g! g!,AD];rw[Hq (by simp only[AY,A0];simp) g! g!,AD];rw[Hq (by simp only[AY,A0];simp) g! g!,AD];rw[Hq (by simp only[AY,A0];simp) g! g!,AD];rw[Hq (by simp only[AY,A0];simp) g! g!,AD];rfl
def qT{x:AQ}(h:VR x):Ge x=δ (My x,0):=by
 have q:=h.1.2.2.2.2.2.2.2.2;have⟨b,g,d⟩:=Xj (x:=x);have c:=d.2 h;subst c;unfold Ge;rw[g,AD,CM,A!,AFN h.1,AD,bQ (by rw[Zm];decide),AD];have key:As (Ai (MJ x) (Hd (eD x),0)) λr=>r=My x:=by
  refine Cp (λ(s:BX×Int)=>∃k:Nat,s.2=k/\k<=θ x.2.2.2.2.2/\s.1=Hd (eD x)++KR (x.2.2.2.2.2.take k)) (λs=>θ x.2.2.2.2.2-s.2.toNat) ⟨0,rfl,Bc _,by simp[KR]⟩ ?_;rintro⟨y,z⟩ ⟨k,o,u,p⟩;subst o p;unfold MJ;simp only[len];refine AC (λf=>?_) (λf=>As.done (by rw[BP o!];rfl));refine AA (AJ o! f) λv d=>?_;have a:=(h.ent d.2).1;have m:=SI a;have j:=rk (l:=x.2.2.2.2.2.take k) λe i=>(h.ent (GH i)).1;have n:(x.2.2.2.2.2.take k).length<=4096:=q!
  rw[qS a,AD,bQ m,AD];refine AA (CE (by rw[AY,Ep,Ep,Zm];omega)) λw t=>?_;rw[AZ];refine As.next ⟨k+1,q!,o!,?_⟩ q!
  grind[Int.toNat_natCast,List.take_add_one,Option.toList_some,SL,List.append_assoc]
 obtain⟨r,hr,rfl⟩:=key;rw[hr];rfl
def WR(x:AQ):Prop:=Zw x/\∀e∈x.2.2.2.2.2,Gt e.2.2.2.2.2.2.1.2.2.1/\Gt e.2.2.2.2.2.2.1.2.2.2/\e.2.2.2.2.2.2.2=[]
def ADd{e:EN}(h:L5 e)(b:im e=ζ):e.2.2.2.2.2.2.2=[]:=by
 have a:e.2.1=1\/e.2.1=2:=by grind[im]
 have⟨_,_,_,_,_,_,_,_,c⟩:=h;grind[VE]
def VR.wr{x:AQ}(h:VR x):WR x:=⟨h.1,λe b=>by have a:=h.ent b;exact⟨a.1.cells.1,a.1.cells.2.1,ADd a.1 a.2.1⟩⟩
def ACe{e:EN}(h:GQ e=δ ζ)(f:im e=ζ):e.2.2.2.2.2.2.2=[]:=by
 have d:e.2.1=1\/e.2.1=2:=by unfold im at f;simpa using f
 have key:∀r,GQ e=δ r->r=ζ->e.2.2.2.2.2.2.2=[]:=by
  have main:MT η (GQ e) λr=>r=ζ->e.2.2.2.2.2.2.2=[]:=by
   have o:∀{Q:Bool->Prop},(∀r,r=η->Q r)->MT η (δ η) Q:=λm=>MT.some (m _ rfl);have a:MT η (δ η) λr=>r=ζ->e.2.2.2.2.2.2.2=[]:=MT.some λb=>by cases b
   unfold GQ;refine MT.dec (λ_=>a) λ_=>MT.dec (λ_=>a) λ_=>MT.dec (λ_=>a) λ_=>MT.dec (λ_=>a) λ_=>MT.bind (kC Kn) λp _=>MT.cond (λ_=>a) λ_=>MT.bind (kC Kn) λq _=>MT.cond (λ_=>a) λ_=>MT.bind (kC Kn) λs _=>MT.cond (λ_=>a) λ_=>MT.dec (λg=>N! g o!) λ_=>MT.dec (λi=>?_) λi=>?_;refine MT.dec (λ_=>a) λ_=>MT.bind (P:=λ_=>True) (MT.dec (λ_=>MT.some trivial) λ_=>MT.some trivial) λn _=>MT.cond (λ_=>a) λ_=>MT.bind (P:=λr=>r=η->e.2.2.2.2.2.2.2=[]) ?_ λt k=>?_;refine MT.cond (λl=>MT.some λb=>?_) λ_=>MT.some λb=>?_;rw[l]at b;cases b;simpa using b;refine MT.cond (λ_=>a) λb=>?_;exact⟨λc=>(by cases c),λr _ _=>k b⟩;refine MT.dec (λj=>?_) λj=>N! d o!;refine MT.dec (λ_=>a) λ_=>MT.bind (P:=λ_=>True) (MT.dec (λ_=>MT.some trivial) λ_=>MT.some trivial) λn _=>MT.cond (λ_=>a) λ_=>MT.cond (λ_=>a) λb=>?_;exact⟨λc=>(by cases c),λr _ _=>by simpa using b⟩
  exact main.2
 exact key ζ h rfl
def AAW{e:EN}:BB e=δ (im e):=by unfold BB im;grind
def y9{x:AQ}:As (MN x) λr=>r=ζ↔1<=x.1/\x.1<=x.2.1/\x.2.1<=1099511627776/\0<=x.2.2.1/\x.2.2.1<=x.2.2.2.1/\x.2.2.2.1<64/\0<=x.2.2.2.2.1/\x.2.2.2.2.1<=8:=by
 unfold MN;exact x!
def ACg{x:AQ}{e:EN}:As (Pl (x,e)) λr=>r=ζ↔im e=ζ/\x.2.2.1<=e.2.2.2.2.2.2.1.1/\e.2.2.2.2.2.2.1.1<=x.2.2.2.1/\x.1<=e.1/\e.1<=x.2.1:=by
 unfold Pl;rw[AAW,AD];refine AK (λa=>?_) (λa=>AB ⟨λb=>(by cases b),λb=>q!⟩);exact x!
def AID(a b:Int):KT [a,b]=δ (if a≠0 then a else b):=by unfold KT;rw[show(0:Int)=((0:Nat):Int)from rfl,oi (k:=0) (v:=a) rfl o! k!];by_cases c:a=0;rw[C! c,oi (k:=1) (v:=b) rfl o! k!];grind[HG,J9];grind
def AAX(f e:EN):∃c:Int,OQ (f,e)=δ c/\(c<0↔ltC f e):=by unfold OQ;rw[zw,zw,AD,AD,AID,AD];unfold ltC;grind
def ACf{x:AQ}(I:θ x.2.2.2.2.2<=4096):As (Ai (Sz x) 0) λr=>(r=.inl η/\¬ ∀i,xo x i)\/(r=.inr ()/\∀e∈x.2.2.2.2.2,im e=ζ/\e.2.2.2.2.2.2.2=[]):=by
 refine Cp (λ(s:Int)=>0<=s/\s<=θ x.2.2.2.2.2/\∀e∈x.2.2.2.2.2.take s.toNat,im e=ζ/\e.2.2.2.2.2.2.2=[]) (λ(s:Int)=>((θ x.2.2.2.2.2:Int)-s).toNat) ⟨Af _,o!,λe p=>by simp at p⟩ (λs C=>?_);have⟨w,J,y⟩:=C;unfold Sz;simp only[len];refine AC (λu=>?_) (λu=>As.done (.inr ⟨rfl,by rw[BP o!]at y;exact y⟩));obtain⟨k,rfl⟩:=EE w;refine AA (AJ w u) λv d=>?_;have d:=d.1;rw[Cz]at d;have a:(xo x k->False)->As (δ (Step.done (.inl η)):Option (Step Int (Bool⊕Unit))) (Nn (λ(s:Int)=>0<=s/\s<=θ x.2.2.2.2.2/\∀e∈x.2.2.2.2.2.take s.toNat,im e=ζ/\e.2.2.2.2.2.2.2=[]) (λ(s:Int)=>((θ x.2.2.2.2.2:Int)-s).toNat) ((θ x.2.2.2.2.2:Int)-(k:Int)).toNat λr=>(r=.inl η/\¬ ∀i,xo x i)\/(r=.inr ()/\∀e∈x.2.2.2.2.2,im e=ζ/\e.2.2.2.2.2.2.2=[])):=λh=>As.done (.inl ⟨rfl,λD=>h (D k)⟩);refine D6 KA λG z B=>AO (λj=>a λok=>?_) (λj=>?_);have:=B (ok v d).1.1;rw[j]at this;cases this;refine AA ACg λH t=>AO (λj=>a λok=>?_) (λm=>?_);have q:=(ok v d).1;have:=t.2 ⟨q.2.1,q.2.2.2.2.1,q.2.2.2.2.2,q.2.2.1,q.2.2.2.1⟩;rw[j]at this;cases this;have q3:=ACe (by rw[z,j]) ((t.1 m).1);have b:As (δ (Step.next (wi ((k:Int)+1))):Option (Step Int (Bool⊕Unit))) (Nn (λ(s:Int)=>0<=s/\s<=θ x.2.2.2.2.2/\∀e∈x.2.2.2.2.2.take s.toNat,im e=ζ/\e.2.2.2.2.2.2.2=[]) (λ(s:Int)=>((θ x.2.2.2.2.2:Int)-s).toNat) ((θ x.2.2.2.2.2:Int)-(k:Int)).toNat λr=>(r=.inl η/\¬ ∀i,xo x i)\/(r=.inr ()/\∀e∈x.2.2.2.2.2,im e=ζ/\e.2.2.2.2.2.2.2=[])):=by
  rw[AZ];refine As.next ⟨o!,o!,λe p=>?_⟩ o!
  rw[show((k:Int)+1).toNat=k+1 by omega,Co,d]at p;grind[Option.toList_some,List.mem_singleton]
 have F:∀f,0<k->x.2.2.2.2.2[k-1]?=δ f->ix x.2.2.2.2.2 (wi ((k:Int)-1))=δ f:=λf A g=>by rw[show wi ((k:Int)-1)=((k-1:Nat):Int) by rw[AZ];omega];unfold ix;grind[Int.toNat_natCast]
 apply AP<;>intro A;refine AC (λo=>a λok=>?_) (λ_=>b);have:=(ok v d).2.1 o!;omega;have g:x.2.2.2.2.2[k-1]?=δ (x.2.2.2.2.2[k-1]):=Ar o!;generalize x.2.2.2.2.2[k-1]=f at g;rw[F f o! g,AD];apply AC<;>intro E;refine AC (λo=>a λok=>?_) (λ_=>b);have:=((ok v d).2.2 f o! g).2.2 o!;omega;have⟨c,n,l⟩:=AAX f v;rw[AD,n,AD];refine AC (λo=>a λok=>?_) (λo=>?_);have:=l.2 ((ok v d).2.2 f o! g).1;omega;refine AL (λhn=>a λok=>hn ?_) (λ_=>b);have:=l.1 o!;unfold ltC at this;exact((ok v d).2.2 f o! g).2.1 o!
def zA{x:AQ}:As (Ux x) λr=>(VR x->r=ζ)/\(r=ζ->Zw x/\∀e∈x.2.2.2.2.2,im e=ζ/\e.2.2.2.2.2.2.2=[]):=by refine AA y9 λg c=>AO (λb=>AB ⟨λa=>?_,λa=>(by cases a)⟩) (λb=>?_);have⟨⟨a1,a2,a3,a4,a5,a6,a7,a8,a9⟩,_⟩:=a;grind;have hn:=c.1 b;refine AC (λf=>AB ⟨λa=>?_,λa=>(by cases a)⟩) (λd=>?_);have:=a.1.2.2.2.2.2.2.2.2;grind;simp[len]at d;refine AA (ACf o!) λr hr=>?_;rcases hr with⟨rfl,hr⟩|⟨rfl,hr⟩;exact BK (AB ⟨λa=>N! a.2 hr,λa=>(by cases a)⟩);exact A4 (AB ⟨λ_=>rfl,λ_=>⟨⟨hn.1,hn.2.1,hn.2.2.1,hn.2.2.2.1,hn.2.2.2.2.1,hn.2.2.2.2.2.1,hn.2.2.2.2.2.2.1,hn.2.2.2.2.2.2.2,o!⟩,hr⟩⟩)
def zE{p:BX}(h:θ p=33):E9 (p,([80,77,82,78]:List UInt8))=δ (p.take 4==[80,77,82,78]):=by grind[E9,Eb,R0,σ]
abbrev ZR:=Int×(Int×(Int×(Int×(Int×AQ))))
def vk{p:BX}(x:θ p=33)(t:p.take 4=[80,77,82,78]):∃b c d e f a:Int,(Ay (p,4,8)=δ (b,0)∧Ay (p,12,8)=δ (c,0)∧Ay (p,20,4)=δ (d,0)∧Ay (p,24,4)=δ (e,0)∧Ay (p,28,1)=δ (f,0)∧Ay (p,29,4)=δ (a,0))∧
  (By (p,4,8)=δ (b,0)/\By (p,12,8)=δ (c,0)/\By (p,20,4)=δ (d,0)/\By (p,24,4)=δ (e,0)/\By (p,28,1)=δ (f,0)/\By (p,29,4)=δ (a,0))/\
  p=[80,77,82,78]++(C8 b 8++(C8 c 8++(C8 d 4++(C8 e 4++(C8 f 1++C8 a 4)))))/\0<=a:=by
 have D:(p.drop 4).length=29:=by rw[C5];omega
 have⟨b,J,a2,g,n,y,l2⟩:=ACR (k:=8) (at_:=4) (by rw[<-t,Dr]:p=[80,77,82,78]++p.drop 4) g! o! g! g! o!;have⟨c,K,a3,h,o,z,E⟩:=ACR (k:=8) (at_:=12) n (by simp only[AY,A0];decide) o! g! g! o!;have⟨d,L,a4,i,q,A,F⟩:=ACR (k:=4) (at_:=20) o (by simp only[AY,A0];decide) o! g! g! o!;have⟨e,M,a5,j,r,B,G⟩:=ACR (k:=4) (at_:=24) q (by simp only[AY,A0];decide) o! g! g! o!;have⟨f,N,a6,l,s,C,H⟩:=ACR (k:=1) (at_:=28) r (by simp only[AY,A0];decide) o! g! g! o!;have⟨a,v,a7,m,w,u,I⟩:=ACR (k:=4) (at_:=29) s (by simp only[AY,A0];decide) o! g! g! o!;have:v=[]:=EZ o!;subst this;refine⟨b,c,d,e,f,a,⟨a2,a3,a4,a5,a6,a7⟩,⟨g,h,i,j,l,m⟩,?_,(u.1 g!).1⟩;grind[List.append_assoc]
def yb{x:AQ}(h:Zw x):(Ay (eD x,4,8)=δ (x.1,0)∧Ay (eD x,12,8)=δ (x.2.1,0)∧Ay (eD x,20,4)=δ (x.2.2.1,0)∧Ay (eD x,24,4)=δ (x.2.2.2.1,0)∧Ay (eD x,28,1)=δ (x.2.2.2.2.1,0)∧Ay (eD x,29,4)=δ ((θ x.2.2.2.2.2:Int),0))∧
  (By (eD x,4,8)=δ (x.1,0)/\By (eD x,12,8)=δ (x.2.1,0)/\By (eD x,20,4)=δ (x.2.2.1,0)/\By (eD x,24,4)=δ (x.2.2.2.1,0)/\By (eD x,28,1)=δ (x.2.2.2.2.1,0)/\By (eD x,29,4)=δ ((θ x.2.2.2.2.2:Int),0)):=by
 have⟨i,j,l,m,n,o⟩:=h.inr;have q:=Zm x;have a:eD x=[80,77,82,78]++(C8 x.1 8++(C8 x.2.1 8++(C8 x.2.2.1 4++(C8 x.2.2.2.1 4++(C8 x.2.2.2.2.1 1++(C8 (θ x.2.2.2.2.2:Int) 4++[])))))):=by rw[DN];rfl
 generalize eD x=p at*;have b:=kM (k:=8) (at_:=4) a g! o! g! g! i;rw[<-A5]at a;have c:=kM (k:=8) (at_:=12) a (by simp only[AY,A0];decide) o! g! g! j;rw[<-A5]at a;have d:=kM (k:=4) (at_:=20) a (by simp only[AY,A0];decide) o! g! g! l;rw[<-A5]at a;have e:=kM (k:=4) (at_:=24) a (by simp only[AY,A0];decide) o! g! g! m;rw[<-A5]at a;have f:=kM (k:=1) (at_:=28) a (by simp only[AY,A0];decide) o! g! g! n;rw[<-A5]at a;have g:=kM (k:=4) (at_:=29) a (by simp only[AY,A0];decide) o! g! g! o;exact⟨⟨b.1,c.1,d.1,e.1,f.1,g.1⟩,b.2,c.2,d.2,e.2,f.2,g.2⟩
def AJQ{x p:BX}{n:Int}{z:ZR}{j:BX}(D:θ x≤1099511627776)(l:x=Hd p++j)(hn:0≤n)(o:n≤4096):As (Ai (Gj x n) (((Hd p).length:Int),0,[],z)) λr=>(∃u,r=.inl u∧u.1≠0)∨
  ∃a b,r=.inr (((Hd p++KR a).length:Int),a,z)/\(θ a:Int)=n/\x=(Hd p++KR a)++b/\∀e∈a,Gt e.2.2.2.2.2.2.1.2.2.1/\Gt e.2.2.2.2.2.2.1.2.2.2:=by
 refine Cp (λ(s:Int×(Int×(List EN×ZR)))=>∃a b,s=(((Hd p++KR a).length:Int),(θ a:Int),a,z)/\(θ a:Int)<=n/\x=(Hd p++KR a)++b/\∀e∈a,Gt e.2.2.2.2.2.2.1.2.2.1/\Gt e.2.2.2.2.2.2.1.2.2.2) (λs=>(n-s.2.1).toNat)
  ⟨[],j,by simp[KR],by simpa using hn,by simpa[KR]using l,λe c=>by cases c⟩ ?_
 rintro s ⟨a,b,rfl,E,h,i⟩;unfold Gj;dsimp only;refine AC (λm=>?_) (λm=>As.done (.inr ⟨a,b,rfl,o!,h,i⟩));have g:=E! θ h;rw[AY]at g;rw[(by grind[Vk]:CQ (x,((Hd p++KR a).length:Int))=δ (UF (Hd p++KR a).length b)),AD];refine AL (λc=>As.done (.inl ⟨_,rfl,c⟩)) (λc=>?_);have⟨H,⟨d,t⟩,I⟩:=xw c;refine AA (AIT o!) λv q=>AL (λc=>As.done (.inl ⟨_,rfl,c⟩)) (λf=>?_);have⟨y,A,B,J,K⟩:=q f;refine AA (Ad w!) λw C=>?_;have k:Hd p++KR (a++[v.1])=(Hd p++KR a)++Hd (Bz v.1):=by rw[SL,A5]
 rw[AZ];refine As.next ⟨a++[v.1],d,?_,by rw[AY,Ba,Bb];omega,?_,λe c=>?_⟩ d!
 have F:((Hd p++KR (a++[v.1])).length:Int)=((Hd p++KR a).length:Int)+8+((UF (Hd p++KR a).length b).1.length:Int):=by grind[List.length_append,Hd,KR,Ep]
 have G:((a++[v.1]).length:Int)=(θ a:Int)+1:=by grind[List.length_append,List.length_cons,List.length_nil]
 grind[Prod.ext];rw[k,<-y,A5,<-t];exact h;rcases Ak.1 c with c|c;exact i e c;rw[BA.1 c];exact⟨A,B⟩
def AIU{x:BX}(w:θ x<=1099511627776):As (Fi x) λr=>r.2=0->x=My r.1/\VR r.1:=by unfold Fi;have q:CQ (x,0)=δ (UF 0 x):=Vk (a:=[]) (t:=x) w!;rw[q,AD];refine AL (λh=>AB λb=>N! b h) (λh=>?_);have⟨Q,⟨P,z⟩,A⟩:=xw h;generalize UF 0 x=v0 at*;refine AL (λ_=>AB λb=>N! (show(4:Int)=0 from b) g!) (λg=>?_);simp[len]at g;rw[(by grind[R0]:R0 v0.1 0 4=δ (v0.1.take 4)),AD];refine AL (λ_=>AB λb=>N! (show(4:Int)=0 from b) g!) (λm=>?_);have⟨K,L,M,N,O,y,⟨a2,a3,a4,a5,a6,a7⟩,⟨C,D,E,F,G,H⟩,J,j⟩:=vk (by omega:θ v0.1=33) (by simpa using m);unfold DG;rw[a2,a3,a4,a5,a6,a7];simp only[AD];refine AC (λ_=>AB λb=>N! (show(4:Int)=0 from b) g!) (λo=>?_);rw[(by rw[A,Ep];omega:v0.2.1=((Hd v0.1).length:Int))];refine AA (AJQ (n:=y) w z j (by first|omega|(dsimp only;omega))) λr hr=>?_;rcases hr with⟨u,rfl,s⟩|⟨I,e,rfl,i,k,p⟩;grind[BK,AB];apply A4;dsimp only at i⊢;have l:=E! θ k;rw[AY]at l;refine AL (λ_=>AB λb=>N! (show(4:Int)=0 from b) g!) (λd=>?_);have c:e=[]:=EZ (by simp only[len]at d;omega);subst c;refine AA (Xj) λB f=>AO (λ_=>AB λb=>N! (show(40:Int)=0 from b) g!) (λv=>AB λ_=>⟨?_,f.1 v⟩);grind[My,eD]
def xZ{x:AQ}(h:VR x):Fi (My x)=δ (x,0):=by
 have D:=h.1.2.2.2.2.2.2.2.2;have j:=h.len;have o:=Zm x;have⟨⟨a2,a3,a4,a5,a6,a7⟩,v,y,z,A,B,C⟩:=yb h.1;unfold Fi;have p:CQ (My x,0)=δ (eD x,((Hd (eD x)).length:Int),0):=by refine(Vk (a:=[]) (t:=My x) w!).trans (E! δ ?_);grind[My,mX,Ep,Prod.ext,List.length_nil]
 have l:(eD x).take 4=[80,77,82,78]:=rfl;rw[p,AD];dsimp only[len];rw[show((0:Int) !=0)=η by decide,A!,o,show(((33:Nat):Int) !=33)=η by decide,A!];rw[(by grind[R0]:R0 (eD x) 0 4=δ ((eD x).take 4)),AD,l,H!,A!];unfold DG;rw[a2,a3,a4,a5,a6,a7];simp only[AD];rw[F! o!,A!];have key:As (Ai (Gj (My x) (θ x.2.2.2.2.2:Int)) (((Hd (eD x)).length:Int),0,[],x.1,x.2.1,x.2.2.1,x.2.2.2.1,x.2.2.2.2.1,0,0,0,0,0,[])) λr=>r=.inr (((My x).length:Int),x.2.2.2.2.2,x.1,x.2.1,x.2.2.1,x.2.2.2.1,x.2.2.2.2.1,0,0,0,0,0,[]):=by
  refine Cp (λ(s:Int×(Int×(List EN×ZR)))=>∃k:Nat,k<=θ x.2.2.2.2.2/\s=(((Hd (eD x)++KR (x.2.2.2.2.2.take k)).length:Int),(k:Int),x.2.2.2.2.2.take k,x.1,x.2.1,x.2.2.1,x.2.2.2.1,x.2.2.2.2.1,0,0,0,0,0,[])) (λs=>θ x.2.2.2.2.2-s.2.1.toNat)
   ⟨0,Bc _,by simp[KR]⟩ ?_
  rintro s ⟨k,F,rfl⟩;unfold Gj;dsimp only;refine AC (λn=>?_) (λn=>As.done ?_)
  ·have i:k<θ x.2.2.2.2.2:=o!
   have c:=(h.ent (Jl i)).1;have e:KR x.2.2.2.2.2=KR (x.2.2.2.2.2.take k)++(Hd (Bz x.2.2.2.2.2[k])++KR (x.2.2.2.2.2.drop (k+1))):=by grind[oL,List.drop_eq_getElem_cons,KR,List.flatten_append,List.take_append_drop]
   have d:My x=(Hd (eD x)++KR (x.2.2.2.2.2.take k))++(Hd (Bz x.2.2.2.2.2[k])++KR (x.2.2.2.2.2.drop (k+1))):=by grind[My,List.append_assoc]
   have g:=E! θ d;rw[AY]at g;have f:CQ (My x,((Hd (eD x)++KR (x.2.2.2.2.2.take k)).length:Int))=δ (Bz x.2.2.2.2.2[k],((Hd (eD x)++KR (x.2.2.2.2.2.take k)).length:Int)+8+((Bz x.2.2.2.2.2[k]).length:Int),0):=by
    conv=>lhs;arg 1;rw[d]
    rw[Vk o!,mX (SI c)]
   rw[f,AD];dsimp only;rw[show((0:Int) !=0)=η by decide,A!,AEh c,AD];dsimp only;rw[show((0:Int) !=0)=η by decide,A!];refine AA (Ad (by rw[BR];simp;omega)) λw u=>?_;rw[AZ];refine As.next ⟨k+1,o!,?_⟩ d!
   rw[u.1,Co,Ar i,mi,SL,<-A5,AY (bs:=Hd (Bz x.2.2.2.2.2[k])),Ep];grind[Prod.ext]
  rw[BP o!];rfl
 obtain⟨r,hr,rfl⟩:=key;rw[hr,AD,mj];dsimp only;rw[show(((My x).length:Int) !=len (My x))=η from H! _,A!];obtain⟨b,E,q⟩:=(Xj)
 have m:b=ζ:=q.2 h;grind[Bool.not_true]
def AJL{x p:BX}{n:(Int×Int)}{z:ZR}{j:BX}(D:θ x≤1099511627776)(l:x=Hd p++j)(hn:0≤n.1)(o:n.1≤4096):As (Ai (Ko x n) (((Hd p).length:Int),0,[],z)) λr=>(∃u,r=.inl u∧u.1≠0)∨
  ∃a b,r=.inr (((Hd p++KR a).length:Int),a,z)/\(θ a:Int)=n.1/\x=(Hd p++KR a)++b/\∀e∈a,Gt e.2.2.2.2.2.2.1.2.2.1/\Gt e.2.2.2.2.2.2.1.2.2.2:=by
 refine Cp (λ(s:Int×(Int×(List EN×ZR)))=>∃a b,s=(((Hd p++KR a).length:Int),(θ a:Int),a,z)/\(θ a:Int)<=n.1/\x=(Hd p++KR a)++b/\∀e∈a,Gt e.2.2.2.2.2.2.1.2.2.1/\Gt e.2.2.2.2.2.2.1.2.2.2) (λs=>(n.1-s.2.1).toNat)
  ⟨[],j,by simp[KR],by simpa using hn,by simpa[KR]using l,λe c=>by cases c⟩ ?_
 rintro s ⟨a,b,rfl,E,h,i⟩;unfold Ko;dsimp only;refine AC (λm=>?_) (λm=>As.done (.inr ⟨a,b,rfl,o!,h,i⟩));have g:=E! θ h;rw[AY]at g;rw[(by grind[WZ]:Dm (x,((Hd p++KR a).length:Int))=δ (UF (Hd p++KR a).length b)),AD];refine AL (λc=>As.done (.inl ⟨_,rfl,c⟩)) (λc=>?_);have⟨H,⟨d,t⟩,I⟩:=xw c;refine AA (AIH o!) λv q=>AL (λc=>As.done (.inl ⟨_,rfl,c⟩)) (λf=>?_);have⟨y,A,B,J,K⟩:=q f;refine AA (Ad w!) λw C=>?_;have k:Hd p++KR (a++[v.1])=(Hd p++KR a)++Hd (Bz v.1):=by rw[SL,A5]
 rw[AZ];refine As.next ⟨a++[v.1],d,?_,by rw[AY,Ba,Bb];omega,?_,λe c=>?_⟩ d!
 have F:((Hd p++KR (a++[v.1])).length:Int)=((Hd p++KR a).length:Int)+8+((UF (Hd p++KR a).length b).1.length:Int):=by grind[List.length_append,Hd,KR,Ep]
 have G:((a++[v.1]).length:Int)=(θ a:Int)+1:=by grind[List.length_append,List.length_cons,List.length_nil]
 grind[Prod.ext];rw[k,<-y,A5,<-t];exact h;rcases Ak.1 c with c|c;exact i e c;rw[BA.1 c];exact⟨A,B⟩
def AIJ{x:BX}(H:θ x<=1099511627776):As (Kj x) λr=>r.2=0->x=My r.1/\WR r.1:=by
 unfold Kj;have E:Dm (x,0)=δ (UF 0 x):=WZ (a:=[]) (t:=x) w!;rw[E,AD];refine AL (λc=>AB λb=>N! b c) (λc=>?_);have⟨U,⟨T,J⟩,K⟩:=xw c;generalize UF 0 x=v0 at*;refine AL (λ_=>AB λb=>N! (show(4:Int)=0 from b) g!) (λk=>?_);simp[len]at k;have q:θ v0.1=33:=o!
 rw[zE q,AD];refine AO (λ_=>AB λb=>N! (show(4:Int)=0 from b) g!) (λD=>?_);have⟨O,P,Q,R,S,I,⟨a2,a3,a4,a5,a6,a7⟩,⟨s,v,w,y,z,A⟩,N,m⟩:=vk q (by simpa using D);rw[show wi (4+8)=12 from rfl,show wi (12+8)=20 from rfl,show wi (20+4)=24 from rfl,show wi (24+4)=28 from rfl,show wi (28+1)=29 from rfl];rw[s,v,w,y,z,A];simp only[AD];refine AO (λ_=>AB λb=>N! (show(4:Int)=0 from b) g!) (λf=>?_);have f:=M! f;rw[(by rw[K,Ep];omega:v0.2.1=((Hd v0.1).length:Int))];refine AA (AJL (n:=(I,0)) H J m (by first|omega|(dsimp only;omega))) λr hr=>?_;rcases hr with⟨u,rfl,F⟩|⟨M,i,rfl,l,o,g⟩;grind[BK,AB];apply A4;dsimp only at l⊢;have p:=E! θ o;rw[AY]at p;refine AC (λ_=>AB λb=>N! (show(4:Int)=0 from b) g!) (λh=>?_);have d:i=[]:=EZ (by simp only[len]at h;omega);subst d;refine AA (zA) λL j=>AO (λ_=>AB λb=>N! (show(40:Int)=0 from b) g!) (λG=>AB λ_=>⟨?_,?_⟩);grind[My,eD];have⟨B,C⟩:=j.2 G;exact⟨B,λe c=>⟨(g e c).1,(g e c).2,(C e c).2⟩⟩
def AII{x:AQ}(h:VR x):Kj (My x)=δ (x,0):=by
 have E:=h.1.2.2.2.2.2.2.2.2;have j:=h.len;have l:=Zm x;have⟨⟨a2,a3,a4,a5,a6,a7⟩,m,n,o,p,q,u⟩:=yb h.1;unfold Kj;have B:Dm (My x,0)=δ (eD x,((Hd (eD x)).length:Int),0):=by refine(WZ (a:=[]) (t:=My x) w!).trans (E! δ ?_);grind[My,mX,Ep,Prod.ext,List.length_nil]
 have v:(eD x).take 4=[80,77,82,78]:=rfl;rw[B,AD];dsimp only[len];rw[show((0:Int) !=0)=η by decide,A!,l,show(((33:Nat):Int) !=33)=η by decide,A!];rw[zE l,AD,v,L!,CM,A!];rw[show wi (4+8)=12 from rfl,show wi (12+8)=20 from rfl,show wi (20+4)=24 from rfl,show wi (24+4)=28 from rfl,show wi (28+1)=29 from rfl];rw[m,n,o,p,q,u];simp only[AD];rw[G! o!,CM,A!];have key:As (Ai (Ko (My x) ((θ x.2.2.2.2.2:Int),0)) (((Hd (eD x)).length:Int),0,[],x.1,x.2.1,x.2.2.1,x.2.2.2.1,x.2.2.2.2.1,0,0,0,0,0,[])) λr=>r=.inr (((My x).length:Int),x.2.2.2.2.2,x.1,x.2.1,x.2.2.1,x.2.2.2.1,x.2.2.2.2.1,0,0,0,0,0,[]):=by
  refine Cp (λ(s:Int×(Int×(List EN×ZR)))=>∃k:Nat,k<=θ x.2.2.2.2.2/\s=(((Hd (eD x)++KR (x.2.2.2.2.2.take k)).length:Int),(k:Int),x.2.2.2.2.2.take k,x.1,x.2.1,x.2.2.1,x.2.2.2.1,x.2.2.2.2.1,0,0,0,0,0,[])) (λs=>θ x.2.2.2.2.2-s.2.1.toNat)
   ⟨0,Bc _,by simp[KR]⟩ ?_
  rintro s ⟨k,F,rfl⟩;unfold Ko;dsimp only;refine AC (λz=>?_) (λz=>As.done ?_)
  ·have i:k<θ x.2.2.2.2.2:=o!
   have c:=(h.ent (Jl i)).1;have A:=SI c;have d:KR x.2.2.2.2.2=KR (x.2.2.2.2.2.take k)++(Hd (Bz x.2.2.2.2.2[k])++KR (x.2.2.2.2.2.drop (k+1))):=by grind[oL,List.drop_eq_getElem_cons,KR,List.flatten_append,List.take_append_drop]
   have g:My x=(Hd (eD x)++KR (x.2.2.2.2.2.take k))++(Hd (Bz x.2.2.2.2.2[k])++KR (x.2.2.2.2.2.drop (k+1))):=by grind[My,List.append_assoc]
   have f:=E! θ g;rw[AY]at f;rw[(by grind[WZ,mX]:Dm (My x,((Hd (eD x)++KR (x.2.2.2.2.2.take k)).length:Int))=δ (Bz x.2.2.2.2.2[k],((Hd (eD x)++KR (x.2.2.2.2.2.take k)).length:Int)+8+((Bz x.2.2.2.2.2[k]).length:Int),0)),AD];dsimp only;rw[show((0:Int) !=0)=η by decide,A!,AIG c,AD];dsimp only;rw[show((0:Int) !=0)=η by decide,A!];refine AA (Ad (by rw[BR];simp;omega)) λw D=>?_;rw[AZ];refine As.next ⟨k+1,o!,?_⟩ d!
   rw[D.1,Co,Ar i,mi,SL,<-A5,AY (bs:=Hd (Bz x.2.2.2.2.2[k])),Ep];grind[Prod.ext]
  rw[BP o!];rfl
 obtain⟨r,hr,rfl⟩:=key;rw[hr,AD,mj];dsimp only;rw[F! (by first|omega|(simp[len];omega)),A!];obtain⟨b,y,C⟩:=(zA)
 have e:b=ζ:=C.1 h;subst e;rw[y,AD,CM,A!]
def frames(P:List BX):BX:=(P.map Hd).flatten
def Sml(P:List BX):Prop:=∀p∈P,33<=θ p/\θ p<=255
def Tn(p:BX)(P:List BX):frames (p::P)=Hd p++frames P:=rfl
def SJ{p:BX}(h:θ p<=255):Hd p=UInt8.ofNat (θ p)::0::0::0::(p++C8 (PW (C8 (θ p:Int) 4++p)) 4):=by
 have e:C8 (θ p:Int) 4=[UInt8.ofNat (θ p),0,0,0]:=by simp only[C8];rw[show((θ p:Int)%256).toNat=θ p by omega,show((θ p:Int)/256%256).toNat=0 by omega,show((θ p:Int)/256/256%256).toNat=0 by omega,show((θ p:Int)/256/256/256%256).toNat=0 by omega];rfl
 unfold Hd;grind
theorem qH{m n:Nat}(a:m<=255)(hn:n<=255)(h:UInt8.ofNat m=UInt8.ofNat n):m=n:=by grind[UInt8.toNat,UInt8.toNat_ofNat']
def yz{n:Nat}(h:33<=n)(hn:n<=255)(e:UInt8.ofNat n=0):False:=by have:=E! UInt8.toNat e;rw[eR]at this;grind
def xI:∀(P Q:List BX),Sml P->Sml Q->∀(u v:BX)(b:UInt8),frames P=u++v->frames Q=u++b::v->False
 |P,[],hP,hQ,u,v,b,h1,d=>by have:=E! θ d;simp[frames]at this
 |[],q::Q,hP,hQ,u,v,b,h1,d=>by have B:=E! θ h1;have y:=E! θ d;rw[Tn,AY,Ep]at y;simp only[frames,HQ,List.flatten_nil,Bb,AY,Ba]at B y;have:=hQ q (Aw.2 (.inl rfl));omega
 |p::P,q::Q,hP,hQ,u,v,b,h1,d=>by
  obtain⟨I,n⟩:=hP p (Aw.2 (.inl rfl));obtain⟨q1,q2⟩:=hQ q (Aw.2 (.inl rfl));have f:Sml P:=λx w=>hP x (Aw.2 (.inr w));have g:Sml Q:=λx w=>hQ x (Aw.2 (.inr w));rw[Tn]at h1 d;cases u with
  |nil=>rw[B4]at h1 d;rw[<-h1,SJ n,SJ q2,EO,EO]at d;injection d with _ d;injection d with d _;exact yz I n d.symm
  |cons a u=>
   have i:=h1;have j:=d;rw[SJ n,EO,EO]at i;rw[SJ q2,EO,EO]at j;injection i with C _;injection j with D _;have o:θ p=θ q:=qH n q2 (C.trans D.symm);have h:(Hd p).length=(Hd q).length:=by rw[Ep,Ep,o]
   rcases pG.1 h1 with⟨t,l,m⟩|⟨t,l,m⟩;rw[l,A5]at d;obtain⟨G,e⟩:=EY d h.symm;exact xI P Q f g t v b m e
   
   cases z:t.reverse with
   |nil=>
    have s:t=[]:=by simpa using z
    subst s;rw[DN]at l;rw[B4]at m;rw[<-l,m]at d;obtain⟨G,e⟩:=EY d h.symm;exact xI P Q f g [] (frames P) b (by rw[B4]) (by rw[B4];exact e)
   |cons c r=>
    have k:t=r.reverse++[c]:=by have:=E! List.reverse z;rwa [List.reverse_reverse,List.reverse_cons]at this
    have E:Hd q++frames Q=((a::u)++b::r.reverse)++(c::frames P):=by rw[d,m,k];simp only[A5,EO,B4]
    have F:(Hd q).length=((a::u)++b::r.reverse).length:=by have:=E! θ l;rw[k]at this;simp only[AY,Ba,Bb]at this⊢;omega
    obtain⟨_,e⟩:=EY E F;cases Q with
    |nil=>exact N! (E! θ e) (by simp[frames])
    |cons J Q=>
     obtain⟨M,K⟩:=g J (Aw.2 (.inl rfl));rw[Tn,SJ K,EO,EO]at e;injection e with _ e;cases P with
     |nil=>exact N! (E! θ e) (by simp[frames])
     |cons H P=>obtain⟨L,A⟩:=f H (Aw.2 (.inl rfl));rw[Tn,SJ A,EO]at e;injection e with e _;exact yz L A e.symm
def AF5{p q u w:BX}{a b:UInt8}(m:θ p=θ q)(g:Hd p=u++a::w)(d:Hd q=u++b::w):a=b:=by
 have r:Hd p=(C8 (θ p:Int) 4++p)++C8 (PW (C8 (θ p:Int) 4++p)) 4:=by unfold Hd;rw[List.append_assoc]
 have v:Hd q=(C8 (θ p:Int) 4++q)++C8 (PW (C8 (θ p:Int) 4++q)) 4:=by unfold Hd;rw[List.append_assoc,m]
 rw[r]at g;rw[v]at d;have h:(C8 (θ p:Int) 4++p).length=(C8 (θ p:Int) 4++q).length:=by rw[AY,AY,m]
 generalize C8 (θ p:Int) 4++p=A at*;generalize C8 (θ p:Int) 4++q=B at*;have l:∀s,bR 4 (PW s):=λs=>by have:=Zf s;exact⟨λ_=>by rw[show(256:Int)^4=4294967296 by decide];omega,o!⟩
 have C:=A0 4 (PW A);have D:=A0 4 (PW B);rcases pG.1 g with⟨t,f,j⟩|⟨t,f,j⟩
 
 have:B=A:=by rw[f,A5]at d;exact(EY d h.symm).1
 subst this;have:=g.symm.trans d;have:=(EY this rfl).2;injection this;cases t with
 |nil=>
  rw[DN]at f;rw[f]at h;have i:=(EY d o!)
  have:B=A:=by rw[i.1,f]
  rw[this]at d;rw[d]at g;have:=(EY g rfl).2;injection this with e _;exact e.symm
 |cons c t=>
  rw[EO]at j;injection j with n o;subst n o;have z:B++C8 (PW B) 4=(u++b::t)++C8 (PW A) 4:=by rw[d,A5,EO]
  obtain⟨x,y⟩:=EY z (by rw[<-h,f,AY,AY,Ba,Ba]);have k:=Xf g! (l B) (l A) y;rw[x,f]at k;exact(AFr k).symm
def AAT:∀(P Q:List BX),Sml P→Sml Q→(∀(i:Nat)(p q s t:BX),P[i]?=δ p→Q[i]?=δ q→p++s=q++t→θ p=θ q)→
  ∀(u v:BX)(a b:UInt8),frames P=u++a::v->frames Q=u++b::v->a=b
 |[],Q,hP,hQ,hf,u,v,a,b,f,e=>by have:=E! θ f;simp[frames]at this
 |P,[],hP,hQ,hf,u,v,a,b,f,e=>by have:=E! θ e;simp[frames]at this
 |p::P,q::Q,hP,hQ,hf,u,v,a,b,f,e=>by
  obtain⟨G,E⟩:=hP p (Aw.2 (.inl rfl));obtain⟨q1,q2⟩:=hQ q (Aw.2 (.inl rfl));have k:Sml P:=λx C=>hP x (Aw.2 (.inr C));have l:Sml Q:=λx C=>hQ x (Aw.2 (.inr C));have m:∀(i:Nat)(p q s t:BX),P[i]?=δ p->Q[i]?=δ q->p++s=q++t->θ p=θ q:=λi p q s t A B=>hf (i+1) p q s t (by simpa using A) (by simpa using B);rw[Tn]at f e;cases u with
  |nil=>rw[B4]at f e;rw[SJ E,EO]at f;rw[SJ q2,EO]at e;injection f with y f;injection e with z e;rw[<-f]at e;simp only[EO,A5]at e;injection e with _ e;injection e with _ e;injection e with _ e;have:=hf 0 p q _ _ rfl rfl e.symm;rw[<-y,<-z,this]
  |cons c u=>
   have n:=f;have o:=e;rw[SJ E,EO,EO]at n;rw[SJ q2,EO,EO]at o;injection n with A _;injection o with B _;have r:θ p=θ q:=qH E q2 (A.trans B.symm);have g:(Hd p).length=(Hd q).length:=by rw[Ep,Ep,r]
   rcases pG.1 f with⟨t,h,j⟩|⟨t,h,j⟩;rw[h,A5]at e;obtain⟨D,w⟩:=EY e g.symm;exact AAT P Q k l m t v a b j w;cases t with
   |nil=>rw[DN]at h;rw[B4]at j;rw[<-h]at e;obtain⟨D,w⟩:=EY e g.symm;exact AAT P Q k l m [] v a b (by rw[B4];exact j.symm) (by rw[B4];exact w)
   |cons d t=>
    rw[EO]at j;injection j with y z;subst y z;have F:Hd q++frames Q=((c::u)++b::t)++frames P:=by rw[e];simp only[A5,EO]
    obtain⟨D,w⟩:=EY F (by rw[<-g,h];simp only[AY,Ba]);exact AF5 r h D
def vV{c d:Cg}(e:Gt c)(f:Gt d){s t:BX}(h:UY c++s=UY d++t):(UY c).length=(UY d).length:=by
 have g:∀{c:Cg},Gt c->∃(n:Nat)(r:BX),UY c=UInt8.ofNat n::r/\n<=255/\(UY c).length=if n=255 then 1 else n+1:=λ{c} e=>by
  have⟨b,w⟩:=c;have a:=e.1;dsimp only at a;unfold UY;cases b with
  |false=>exact⟨255,[],rfl,An _,rfl⟩
  |true=>refine⟨θ w,w,?_,o!,?_⟩;grind[C8];grind[List.length_append,A0]
 grind[qH]
def ACM{e f:EN}(d:Gt e.2.2.2.2.2.2.1.2.2.1/\Gt e.2.2.2.2.2.2.1.2.2.2/\e.2.2.2.2.2.2.2=[])(g:Gt f.2.2.2.2.2.2.1.2.2.1/\Gt f.2.2.2.2.2.2.1.2.2.2/\f.2.2.2.2.2.2.2=[]){s t:BX}(h:Bz e++s=Bz f++t):(Bz e).length=(Bz f).length:=by have⟨a1,a2,a3⟩:=d;have⟨a,b,c⟩:=g;unfold Bz at*;rw[a3,c]at*;simp at h;have st:∀{n m:Int}{k:Nat}{x y:BX},C8 n k++x=C8 m k++y->x=y:=λi=>(EY i (by rw[A0,A0])).2;have h:=st (st (st (st (st (st (st (st h)))))));have l1:=vV a1 a h;simp[AY,A0,l1,(vV a2 b ((EY h l1).2))]
def AEX(x:AQ):List BX:=eD x::x.2.2.2.2.2.map Bz
def qi(x:AQ):My x=frames (AEX x):=by unfold My AEX;rw[Tn];unfold KR frames;rw[Og];rfl
def WR.sml{x:AQ}(h:WR x):Sml (AEX x):=λp a=>by rcases Aw.1 a with rfl|a;rw[Zm];decide;obtain⟨e,f,rfl⟩:=Bs.1 a;have⟨b,c,d⟩:=h.2 e f;have l1:=jx b;have l2:=jx c;unfold Bz;rw[d];simp[AY,A0,Bb];omega
inductive AG4(s t:BX):Prop where
 |more (u v:BX) (b:UInt8) (h1:s=u++v) (h2:t=u++b::v)
 |less (u v:BX) (b:UInt8) (h1:s=u++b::v) (h2:t=u++v)
 |other (u v:BX) (a b:UInt8) (h:a≠b) (h1:s=u++a::v) (h2:t=u++b::v)
def AEN{x y:AQ}(g:WR x)(j:WR y)(h:AG4 (My x) (My y)):False:=by
 rw[qi,qi]at h;rcases h with⟨u,v,b,c,d⟩|⟨u,v,b,c,d⟩|⟨u,v,a,b,h,c,d⟩;exact xI _ _ g.sml j.sml u v b c d;exact xI _ _ j.sml g.sml u v b d c;refine h (AAT _ _ g.sml j.sml (λi p q s t k l o=>?_) u v a b c d);cases i with
 |zero=>grind[AEX,List.getElem?_cons_zero,Option.some.injEq,Zm]
 |succ i=>simp only[AEX,k9,CL,S9]at k l;obtain⟨e,m,rfl⟩:=k;obtain⟨f,n,rfl⟩:=l;exact ACM (g.2 e (BN m)) (j.2 f (BN n)) o
def AE4{a b n k:Nat}{d:Array NE}(h:a<=k:=by omega)(c:k<a+n:=by omega):swR a b n d k=d[b+(k-a)]! :=if_pos ⟨h,c⟩
def AE5{a b n k:Nat}{d:Array NE}(e:a+n<=b)(h:b<=k:=by omega)(c:k<b+n:=by omega):swR a b n d k=d[a+(k-b)]! :=by unfold swR;rw[if_neg (by omega),if_pos ⟨h,c⟩]
def rL{a b n k:Nat}{d:Array NE}(h:k<a\/a+n<=k:=by omega)(c:k<b\/b+n<=k:=by omega):swR a b n d k=d[k]! :=by unfold swR;rw[if_neg (by omega),if_neg (by omega)]
def xa(s m e:Nat)(d:Array NE)(k:Nat):NE:=if s<=k/\k<s+(e-m)then d[m+(k-s)]! else if s+(e-m)<=k/\k<e then d[s+(k-(s+(e-m)))]! else d[k]!
def kZ{s m e k:Nat}{d:Array NE}(h:s<=k:=by omega)(a:k<s+(e-m):=by omega):xa s m e d k=d[m+(k-s)]! :=if_pos ⟨h,a⟩
def ot{s m e k:Nat}{d:Array NE}(h:s+(e-m)<=k:=by omega)(a:k<e:=by omega):xa s m e d k=d[s+(k-(s+(e-m)))]! :=by unfold xa;rw[if_neg (by omega),if_pos ⟨h,a⟩]
theorem U1{s m e k:Nat}{d:Array NE}(a:s<=m:=by omega)(b:m<=e:=by omega)(h:k<s\/e<=k:=by omega):xa s m e d k=d[k]! :=by unfold xa;rw[if_neg (by omega),if_neg (by omega)]
def qX{d:Array NE}{x y:Nat}(h:x=y):d[x]! =d[y]! :=by rw[h]
def AEn{m i j k:Nat}{d e:Array NE}(o:i<=m)(p:1<=j)(l:j<i)(n:m+j<=d.size)(a: ∀k,k<d.size->e[k]! =swR (m-i) m j d k)(b:k<d.size):xa (m-(i-j)) m (m+j) e k=xa (m-i) m (m+j) d k:=by rcases Ax k (m-i)with c|c;rw[U1,U1,a k b,rL];rcases Ax k (m-i+j)with f|f;rw[U1,kZ,a k b,AE4];rcases Ax k (m-(i-j)+j)with g|g;rw[kZ,ot,a _ (by omega),AE5 (by omega)];exact qX (by omega);rcases Ax k (m+j)with h|h;rw[ot,ot,a _ (by omega),rL];exact qX (by omega);rw[U1,U1,a k b,rL]
def AEo{m i j k:Nat}{d e:Array NE}(p:i<=m)(n:1<=i)(l:i<j)(o:m+j<=d.size)(a: ∀k,k<d.size->e[k]! =swR (m-i) (m+j-i) i d k)(b:k<d.size):xa (m-i) m (m+(j-i)) e k=xa (m-i) m (m+j) d k:=by rcases Ax k (m-i)with c|c;rw[U1,U1,a k b,rL];rcases Ax k (m-i+(j-i))with f|f;rw[kZ,kZ,a _ (by omega),rL];rcases Ax k (m+(j-i))with g|g;rw[ot,kZ,a _ (by omega),AE4];exact qX (by omega);rcases Ax k (m+j)with h|h;rw[U1,ot,a _ (by omega),AE5 (by omega)];exact qX (by omega);rw[U1,U1,a k b,rL]
def ACr{d:Array NE}{a m b:Nat}(C:a<m)(D:m<b)(E:b≤d.size)(G:d.size≤16777216):
  As (Es d.toList ((a:Int),((m:Int),(b:Int)))) λr=> ∃e:Array NE,r=e.toList/\e.size=d.size/\ ∀k,k<d.size->e[k]! =xa a m b d k:=by
 unfold Es;have q:wi ((m:Int)-(a:Int))=((m-a:Nat):Int):=by rw[nV];omega
 have t:wi ((b:Int)-(m:Int))=((b-m:Nat):Int):=by rw[nV];omega
 dsimp only;rw[q,t];refine AA (P:=λ(r:Int×List NE)=> ∃(i:Nat) (e:Array NE),r.1=i/\r.2=e.toList/\1<=i/\i<=m-a/\m+i<=b/\e.size=d.size/\ ∀k,k<d.size->xa (m-i) m (m+i) e k=xa a m b d k) ?_ ?_;refine AW (λ(s:Int×(Int×List NE))=> ∃(i j:Nat) (e:Array NE),s.1=i/\s.2.1=j/\s.2.2=e.toList/\1<=i/\1<=j/\i<=m-a/\m+j<=b/\e.size=d.size/\ ∀k,k<d.size->xa (m-i) m (m+j) e k=xa a m b d k) (λs=>(s.1+s.2.1).toNat)
  ⟨m-a,b-m,d,rfl,rfl,rfl,o!,o!,An _,o!,rfl,λk _=>by rw[show m-(m-a)=a by omega,show m+(b-m)=b by omega]⟩ ?_
 rintro⟨H,I,J⟩ ⟨i,j,e,q1,q2,q3,q4,q5,q6,q7,q8,q9⟩;dsimp only at q1 q2 q3;subst q1 q2 q3;unfold Iv;dsimp only;have o:wi ((m:Int)-(i:Int))=((m-i:Nat):Int):=by rw[nV];omega
 rw[o];refine AL (λB=>?_) (λA=>AB ⟨i,e,rfl,rfl,q4,q6,o!,q8,λk g=>?_⟩);apply AC<;>intro F;apply AA (xi (d:=e) (a:=m-i) (b:=m) (n:=j) o! o! o!);rintro v ⟨f,rfl,h,l⟩;have c:Nat.beq (List.length f.toList) (List.length e.toList)=true:=by rw[Dx,Dx,h];exact Hy _
 have p:wi ((i:Int)-(j:Int))=((i-j:Nat):Int):=by rw[nV];omega
 rw[c,cond_true,p];refine AB ⟨⟨i-j,j,f,rfl,rfl,rfl,o!,q5,o!,q7,o!,λk g=>?_⟩,?_⟩;rw[AEn o! q5 o! o! l o!,q9 k g];show(((i-j:Nat):Int)+(j:Int)).toNat<((i:Int)+(j:Int)).toNat
 omega;have u:wi (wi ((m:Int)+(j:Int))-(i:Int))=((m+j-i:Nat):Int):=by rw[nV (x:=(m:Int)+(j:Int)),nV];omega
 rw[u];apply AA (xi (d:=e) (a:=m-i) (b:=m+j-i) (n:=i) o! o! o!);rintro v ⟨f,rfl,h,l⟩;have c:Nat.beq (List.length f.toList) (List.length e.toList)=true:=by rw[Dx,Dx,h];exact Hy _
 have p:wi ((j:Int)-(i:Int))=((j-i:Nat):Int):=by rw[nV];omega
 rw[c,cond_true,p];refine AB ⟨⟨i,j-i,f,rfl,rfl,rfl,q4,o!,q6,o!,o!,λk g=>?_⟩,?_⟩;rw[AEo o! q4 o! o! l o!,q9 k g];show((i:Int)+((j-i:Nat):Int)).toNat<((i:Int)+(j:Int)).toNat
 omega;have:j=i:=o!
 subst this;exact q9 k g;rintro⟨K,L⟩ ⟨i,e,q1,q2,q3,q4,q5,q6,q7⟩;dsimp only at q1 q2;subst q1 q2;dsimp only;have o:wi ((m:Int)-(i:Int))=((m-i:Nat):Int):=by rw[nV];omega
 rw[o];apply AA (xi (d:=e) (a:=m-i) (b:=m) (n:=i) o! o! o!);rintro v ⟨f,rfl,h,l⟩;have c:Nat.beq (List.length f.toList) (List.length e.toList)=true:=by rw[Dx,Dx,h];exact Hy _
 rw[c,cond_true];refine AB ⟨f,rfl,o!,λk g=>?_⟩;rw[<-q7 k g,l k o!];rcases Ax k (m-i)with w|w;rw[rL,U1];rcases Ax k m with y|y;rw[AE4,kZ];rcases Ax k (m+i)with z|z;rw[AE5 o!,ot];exact qX o!;rw[rL,U1]
theorem yx{i j:Nat}(h:i+j<=1099511627776):wi (Int.fdiv (IntKind.wrap .u64 (wi ((i:Int)+(j:Int)))) (2^(min (Int.toNat 1) 64)))=(((i+j)/2:Nat):Int):=by rw[AAO (by omega) (by omega) (by omega)];omega
def bs{body:Int×Int→Option (Step (Int×Int) Int)}{P:Nat→Bool}{b a:Nat}(m:∀i:Nat,body ((i:Int),(i:Int))=δ (.done (i:Int)))
  (s:∀i j:Nat,b<=i->i<j->j<=a->body ((i:Int),(j:Int))=δ (.next (if P ((i+j)/2)=ζ then((((i+j)/2+1:Nat):Int),(j:Int))else((i:Int),(((i+j)/2:Nat):Int))))) (l:b<=a):
  ∃r:Nat,Ai body ((b:Int),(a:Int))=δ (r:Int)/\b<=r/\r<=a/\(b<r->P (r-1)=ζ)/\(r<a->P r=η):=by
 suffices h:∀n i j:Nat,j-i<=n->b<=i->i<=j->j<=a->(b<i->P (i-1)=ζ)->(j<a->P j=η)->∃r:Nat,Ai body ((i:Int),(j:Int))=δ (r:Int)/\b<=r/\r<=a/\(b<r->P (r-1)=ζ)/\(r<a->P r=η)from
  h _ b a (An _) (An _) l (An _) (λh=>N! h o!) (λh=>N! h o!)
 intro n;induction n with
 |zero=>
  intro i j p c q d e f;have:i=j:=o!
  subst this;rw[HG,m];exact⟨i,rfl,c,d,e,f⟩
 |succ n o=>intro i j p c q d e f;rw[HG];by_cases k:i=j;subst k;rw[m];exact⟨i,rfl,c,d,e,f⟩;rw[s i j c o! d];by_cases g:P ((i+j)/2)=ζ;rw[C! g];exact o _ j o! o! o! d (λ_=>by rw[mc];exact g) f;rw[D! g];exact o i _ o! c o! o! e (λ_=>by simpa using g)
def AJT{d:Array NE}{a m b:Nat}(o:a<d.size)(g:m≤b)(p:b≤d.size)(q:d.size≤16777216)(c:Int×Int):
  ∃r:Nat,Ai (DM d.toList ((a:Int),c)) ((m:Int),(b:Int))=some (r:Int)/\m<=r/\r<=b/\(m<r->lN d[r-1]! d[a]! =true)/\(r<b->lN d[r]! d[a]! =false):=by
 refine bs (P:=λk=>lN d[k]! d[a]!) (λi=>?_) (λi j h l n=>?_) g;unfold DM;have:decide ((i:Int)<(i:Int))=false:=by simp
 dsimp only;rw[this,cond_false];unfold DM;have:decide ((i:Int)<(j:Int))=true:=by simp;omega
 dsimp only;rw[this,cond_true,yx (by omega)];obtain⟨v,e,f⟩:=AGe d[(i+j)/2]! d[a]!;rw[ixG (k:=(i+j)/2) rfl,ixG (k:=a) rfl];simp only[AD,e,f,wip (i:=(i+j)/2)];cases lN d[(i+j)/2]! d[a]! <;>rfl
def AJU{d:Array NE}{a r b:Nat}(h:a<r)(hr:r≤b)(w:b≤d.size)(x:d.size≤16777216):
  As (Ai (D9 (r:Int)) ((a:Int),d.toList)) λq=>∃e:Array NE,q=e.toList/\Sort.PermIn a b d e/\(∀t,a<=t->t<r-1->e[t]! =d[t+1]!)/\e[r-1]! =d[a]! /\∀t,r<=t->e[t]! =d[t]! :=by
 refine AW (λ(s:Int×List NE)=>∃(k:Nat)(e:Array NE),s.1=k/\s.2=e.toList/\a<=k/\k<r/\Sort.PermIn a b d e/\(∀t,a<=t->t<k->e[t]! =d[t+1]!)/\e[k]! =d[a]! /\∀t,k<t->e[t]! =d[t]!) (λs=>r-s.1.toNat) ⟨a,d,rfl,rfl,An _,h,Sort.permIn_refl _ _ _,λt _ _=>o!,rfl,λt _=>rfl⟩ ?_;rintro⟨z,A⟩ ⟨k,e,q1,q2,q3,q4,q5,q6,q7,q8⟩;dsimp only at q1 q2;subst q1 q2;have y:=q5.1;unfold D9;dsimp only;have l:wi ((r:Int)-1)=((r-1:Nat):Int):=by rw[wim];omega
 rw[l];refine AC (λn=>?_) (λn=>AB ⟨e,rfl,q5,λt g m=>q6 t g o!,?_,λt o=>q8 t o!⟩);have p:ix e.toList ((k+1:Nat):Int)=some e[k+1]! :=ixG rfl;have u:ix e.toList (k:Int)=some e[k]! :=ixG rfl;have v:ix (Eo e.toList (k:Int) e[k+1]!) ((k+1:Nat):Int)=some (e.setIfInBounds k e[k+1]!)[k+1]! :=AGB rfl rfl;simp only[wip (i:=k),p,u,v,AD,AGr (d:=e) (a:=k) (b:=k+1) rfl rfl];have c:=Sort.swp_get e (i:=k) (j:=k+1) o! o!;refine AB ⟨⟨k+1,_,rfl,rfl,o!,o!,Sort.permIn_trans _ _ _ _ _ q5 (Sort.swp_permIn e a b k (k+1) q3 o! o! o! o!),λt g m=>?_,?_,λt o=>?_⟩,?_⟩;rw[c,if_neg o!];by_cases f:t=k;subst f;rw[if_pos rfl];exact q8 _ o!;rw[if_neg f];exact q6 t g o!;rw[c,if_pos rfl];exact q7;rw[c,if_neg o!,if_neg o!];exact q8 t o!;show r-((k+1:Nat):Int).toNat<r-((k:Nat):Int).toNat
 omega;have:k=r-1:=o!
 rw[<-this];exact q7
def AEw{d:Array NE}{a b:Nat}(o:a+1≤b)(z:b≤d.size)(A:d.size≤16777216)(k:Sort.SortedIn lN (a+1) b d)(c:Int×Int):
  As (σ (Ai (DM d.toList ((a:Int),c)) (((a+1:Nat):Int),(b:Int))) λv=>σ (Ai (D9 v) ((a:Int),d.toList)) λw=>δ w) λq=>∃e:Array NE,q=e.toList/\Sort.PermIn a b d e/\Sort.SortedIn lN a b e:=by
 obtain⟨r,g,H,I,J,K⟩:=AJT (d:=d) (a:=a) (m:=a+1) (b:=b) o! o z A c;rw[g,AD];apply AA (AJU (d:=d) (a:=a) (r:=r) (b:=b) o! I z A);rintro q ⟨e,rfl,G,n,B,C⟩;refine AB ⟨e,rfl,G,λx y p s u=>?_⟩;have W:=uh;have F:∀t,a+1<=t->t<r->lN d[a]! d[t]! =η:=λt h l=>by
  have f:=J o!;cases D:lN d[a]! d[t]! with
  |false=>rfl
  |true=>have i:=W.trans _ _ _ f D;rcases Ax t (r-1)with j|j;exact N! i (by rw[k t (r-1) h j o!];decide);rw[show t=r-1 by omega,W.irrefl]at i;cases i
 have E:∀t,r<=t->t<b->lN d[t]! d[a]! =η:=λt h l=>by have f:=K o!;rcases Ax r t with j|j;exact W.ntrans _ _ _ (k r t H j l) f;rw[show t=r by omega];exact f
 rcases Ax y (r-1)with h|h;rw[n x p o!,n y o! h];exact k (x+1) (y+1) o! o! o!;rcases Ax (r-1) y with l|l;rw[C y o!];rcases Ax x (r-1)with f|f;rw[n x p f];exact k (x+1) y o! o! u;rcases Ax (r-1) x with i|i;rw[C x o!];exact k x y o! s u;rw[show x=r-1 by omega,B];exact E y o! u;rw[show y=r-1 by omega,B,n x p o!];exact F (x+1) o! o!
def AJV{d:Array NE}{a m:Nat}(l:a≤m)(w:m<d.size)(u:d.size≤16777216)(b:Int):
  ∃r:Nat,Ai (CU d.toList ((a:Int),((m:Int),b))) ((a:Int),(m:Int))=some (r:Int)/\a<=r/\r<=m/\(a<r->lN d[m]! d[r-1]! =false)/\(r<m->lN d[m]! d[r]! =true):=by
 have c: ∀i:Nat,CU d.toList ((a:Int),((m:Int),b)) ((i:Int),(i:Int))=some (.done (i:Int)):=λi=>by
  unfold CU;have:decide ((i:Int)<(i:Int))=false:=k!
  dsimp only;rw[this,cond_false]
 have e: ∀i j:Nat,a<=i->i<j->j<=m->CU d.toList ((a:Int),((m:Int),b)) ((i:Int),(j:Int))=some (.next (if(!lN d[m]! d[(i+j)/2]!)=true then((((i+j)/2+1:Nat):Int),(j:Int))else((i:Int),(((i+j)/2:Nat):Int)))):=λi j q s t=>by
  unfold CU;have:decide ((i:Int)<(j:Int))=true:=w!
  dsimp only;rw[this,cond_true,yx o!];obtain⟨v,f,g⟩:=AGe d[m]! d[(i+j)/2]!;rw[ixG (k:=(i+j)/2) rfl,ixG (k:=m) rfl];simp only[AD,f,g,wip (i:=(i+j)/2)];cases lN d[m]! d[(i+j)/2]! <;>rfl
 obtain⟨r,f,g,n,o,p⟩:=bs (P:=λk=>!lN d[m]! d[k]!) c e l;exact⟨r,f,g,n,λh=>by simpa using o h,λh=>by simpa using p h⟩
def AJW{d:Array NE}{a r m:Nat}(n:a≤r)(hr:r≤m)(y:m<d.size)(x:d.size≤16777216):
  As (Ai (EA (r:Int)) ((m:Int),d.toList)) λq=>∃e:Array NE,q=e.toList/\Sort.PermIn a (m+1) d e/\(∀t,r<t->t<=m->e[t]! =d[t-1]!)/\e[r]! =d[m]! /\∀t,t<r->e[t]! =d[t]! :=by
 refine AW (λ(s:Int×List NE)=>∃(k:Nat)(e:Array NE),s.1=k/\s.2=e.toList/\r<=k/\k<=m/\Sort.PermIn a (m+1) d e/\(∀t,k<t->t<=m->e[t]! =d[t-1]!)/\e[k]! =d[m]! /\∀t,t<k->e[t]! =d[t]!) (λs=>s.1.toNat) ⟨m,d,rfl,rfl,hr,An _,Sort.permIn_refl _ _ _,λt _ _=>o!,rfl,λt _=>rfl⟩ ?_;rintro⟨A,B⟩ ⟨k,e,q1,q2,q3,q4,q5,q6,q7,q8⟩;dsimp only at q1 q2;subst q1 q2;have z:=q5.1;unfold EA;dsimp only;refine AC (λo=>?_) (λo=>AB ⟨e,rfl,q5,λt l g=>q6 t o! g,?_,λt p=>q8 t o!⟩);have h:wi ((k:Int)-1)=((k-1:Nat):Int):=by rw[wim];omega
 have u:ix e.toList ((k-1:Nat):Int)=δ e[k-1]! :=ixG rfl;have v:ix e.toList (k:Int)=δ e[k]! :=ixG rfl;have w:ix (Eo e.toList (k:Int) e[k-1]!) ((k-1:Nat):Int)=δ (e.setIfInBounds k e[k-1]!)[k-1]! :=AGB rfl rfl;simp only[h,u,v,w,AD,AGr (d:=e) (a:=k) (b:=k-1) rfl rfl];have c:=Sort.swp_get e (i:=k) (j:=k-1) o! o!;refine AB ⟨⟨k-1,_,rfl,rfl,o!,o!,Sort.permIn_trans _ _ _ _ _ q5 (Sort.swp_permIn e a (m+1) k (k-1) o! o! o! o! o!),λt l g=>?_,?_,λt p=>?_⟩,?_⟩;rw[c,D! o!];by_cases f:t=k;subst f;rw[C! rfl];exact q8 _ o!;rw[D! f];exact q6 t o! g;rw[c,C! rfl];exact q7;rw[c,D! o!,D! o!];exact q8 t o!;show((k-1:Nat):Int).toNat<((k:Nat):Int).toNat
 omega;have:k=r:=o!
 rw[<-this];exact q7
def AGl{d:Array NE}{a m:Nat}(n:a≤m)(u:m<d.size)(s:d.size≤16777216)(k:Sort.SortedIn lN a m d)(b:Int):
  As (σ (Ai (CU d.toList ((a:Int),(m:Int),b)) ((a:Int),(m:Int))) λv=>σ (Ai (EA v) ((m:Int),d.toList)) λw=>δ w) λq=>∃e:Array NE,q=e.toList/\Sort.PermIn a (m+1) d e/\Sort.SortedIn lN a (m+1) e:=by
 obtain⟨r,g,B,G,H,I⟩:=AJV (d:=d) (a:=a) (m:=m) n u s b;rw[g,AD];apply AA (AJW (d:=d) (a:=a) (r:=r) (m:=m) B G u s);rintro q ⟨e,rfl,F,z,A,l⟩;refine AB ⟨e,rfl,F,λx y o p J=>?_⟩;have W:=uh;have E:∀t,a<=t->t<r->lN d[m]! d[t]! =η:=λt h i=>by have c:=H o!;rcases Ax t (r-1)with j|j;exact W.ntrans _ _ _ c (k t (r-1) h j o!);rw[show t=r-1 by omega];exact c
 have D:∀t,r<=t->t<m->lN d[t]! d[m]! =η:=λt h i=>by
  have c:=I o!;cases C:lN d[t]! d[m]! with
  |false=>rfl
  |true=>have f:=W.trans _ _ _ C c;rcases Ax r t with j|j;exact N! f (by rw[k r t B j i];decide);rw[show t=r by omega,W.irrefl]at f;cases f
 rcases Ax y r with h|h;rw[l x o!,l y h];exact k x y o p o!;rcases Ax r y with i|i;rw[z y i o!];rcases Ax x r with c|c;rw[l x c];exact k x (y-1) o o! o!;rcases Ax r x with f|f;rw[z x f o!];exact k (x-1) (y-1) o! o! o!;rw[show x=r by omega,A];exact D (y-1) o! o!;rw[show y=r by omega,A,l x o!];exact E x o o!
def AJX{d:Array NE}{a m b lo hi:Nat}(l:lo≤hi)(s:a≤lo)(t:hi≤m)(u:(a+b)/2+m-lo≤b)(y:hi≤(a+b)/2+m)(w:m≤b)(z:b≤d.size)(A:d.size≤16777216):
  ∃r:Nat,Ai (Cl d.toList ((a:Int),((m:Int),(b:Int)))) ((lo:Int),(hi:Int))=some (r:Int)/\lo<=r/\r<=hi/\(lo<r->lN d[(a+b)/2+m-1-(r-1)]! d[r-1]! =false)/\(r<hi->lN d[(a+b)/2+m-1-r]! d[r]! =true):=by
 have c: ∀i:Nat,Cl d.toList ((a:Int),((m:Int),(b:Int))) ((i:Int),(i:Int))=some (.done (i:Int)):=λi=>by
  unfold Cl;have:decide ((i:Int)<(i:Int))=false:=k!
  dsimp only;rw[this,cond_false]
 have e: ∀i j:Nat,lo<=i->i<j->j<=hi->Cl d.toList ((a:Int),((m:Int),(b:Int))) ((i:Int),(j:Int))=some (.next (if(!lN d[(a+b)/2+m-1-(i+j)/2]! d[(i+j)/2]!)=true then((((i+j)/2+1:Nat):Int),(j:Int))else((i:Int),(((i+j)/2:Nat):Int)))):=λi j s t u=>by
  unfold Cl;have:decide ((i:Int)<(j:Int))=true:=w!
  dsimp only;rw[this,cond_true,yx (i:=i) (j:=j) o!,yx (i:=a) (j:=b) o!];have n:wi (wi (wi ((((a+b)/2:Nat):Int)+(m:Int))-1)-(((i+j)/2:Nat):Int))=(((a+b)/2+m-1-(i+j)/2:Nat):Int):=by rw[nV (x:=(((a+b)/2:Nat):Int)+(m:Int)),nV (x:=(((a+b)/2:Nat):Int)+(m:Int)-1),nV];omega
  obtain⟨v,f,g⟩:=AGe d[(a+b)/2+m-1-(i+j)/2]! d[(i+j)/2]!;rw[n,ixG (k:=(i+j)/2) rfl,ixG (k:=(a+b)/2+m-1-(i+j)/2) rfl];simp only[AD,f,g,wip (i:=(i+j)/2)];cases lN d[(a+b)/2+m-1-(i+j)/2]! d[(i+j)/2]! <;>rfl
 obtain⟨r,f,g,o,p,q⟩:=bs (P:=λk=>!lN d[(a+b)/2+m-1-k]! d[k]!) c e l;exact⟨r,f,g,o,λh=>by simpa using p h,λh=>by simpa using q h⟩
def AGd{s m e:Nat}{d f:Array NE}(o:s<=m)(p:m<=e)(b:e<=d.size)(c:f.size=d.size)(h:∀k,k<d.size->f[k]! =xa s m e d k):Sort.PermIn s e d f:=by
 refine⟨c,λi a=>?_,?_⟩;grind[Nat.lt_or_ge,U1];have key:∀(g:Nat->NE)(s n:Nat),(List.range' s n).map g=(List.range n).map λi=>g (s+i):=λg s n=>by rw[List.range'_eq_map_range,Og];rfl
 rw[Sort.extract_toList f s e o!,Sort.extract_toList d s e b];have j:List.range' s (e-s)=List.range' s (e-m)++List.range' (s+(e-m)) (m-s):=q!
 have l:List.range' s (e-s)=List.range' s (m-s)++List.range' (s+(m-s)) (e-m):=q!
 have l1:(List.range' s (e-m)).map (λi=>f[i]!)=(List.range' (s+(m-s)) (e-m)).map λi=>d[i]! :=by rw[key,key];refine Mt λi a=>?_;have:=Hw.1 a;rw[h _ o!,kZ];simp_all
 have l2:(List.range' (s+(e-m)) (m-s)).map (λi=>f[i]!)=(List.range' s (m-s)).map λi=>d[i]! :=by rw[key,key];refine Mt λi a=>?_;have:=Hw.1 a;rw[h _ o!,ot];simp_all
 grind
def xu(a b:Nat)(d e:Array NE):Prop:=Sort.PermIn a b d e/\Sort.SortedIn lN a b e
def ou{a m b:Nat}{d:Array NE}(h:m<=a\/b<=m)(c:Sort.SortedIn lN a m d)(e:Sort.SortedIn lN m b d)(f:a<=m)(g:m<=b):Sort.SortedIn lN a b d:=by
 rcases h with h|h;have:m=a:=o!
 rw[<-this];exact e;have:m=b:=o!
 rw[<-this];exact c
def AJ7{C:List NE×(Int×(Int×Int))→Option (List NE)}{N a m b:Nat}{d:Array NE}(a4:a<m)(a5:m<b)(hb:b≤d.size)(hd:d.size≤16777216)(s:Sort.SortedIn lN a m d)(A:Sort.SortedIn lN m b d)
  (O: ∀(S:Array NE) (V m' R:Nat),V<m'->m'<R->R<=S.size->S.size<=16777216->Sort.SortedIn lN V m' S->Sort.SortedIn lN m' R S->PT (R-V<=N) (C (S.toList,((V:Int),((m':Int),(R:Int))))) λr=> ∃e:Array NE,r=e.toList/\xu V R S e):
  PT (b-a<=N+1) (CG C d.toList ((a:Int),((m:Int),(b:Int)))) λr=> ∃e:Array NE,r=e.toList/\xu a b d e:=by
 have W:=uh;unfold CG;have e0:wi ((m:Int)-(a:Int))=((m-a:Nat):Int):=by grind[nV]
 have e1:wi ((b:Int)-(m:Int))=((b-m:Nat):Int):=by grind[nV]
 dsimp only;rw[e0,e1,yx (i:=a) (j:=b) o!];apply PT.cond<;>intro Q;have Q:m=a+1:=by have:=eq_of_beq Q;omega
 subst Q;exact kA (AEw o! hb hd A _);apply PT.cond<;>intro n;have n:b=m+1:=by have:=eq_of_beq n;omega
 subst n;exact kA (AGl o! hb hd s _);have n1:m-a≠1:=λh=>by rw[h]at Q;exact absurd Q g!
 have n2:b-m≠1:=λh=>by rw[h]at n;exact absurd n g!
 have Y:a<(a+b)/2/\(a+b)/2<b:=o!
 generalize hM:(a+b)/2=M at Y⊢;have e2:wi ((M:Int)+(m:Int))=((M+m:Nat):Int):=by rw[nV];omega
 rw[e2];refine PT.bind (P:=λv=> ∃L J:Nat,v=((L:Int),(J:Int))/\L<=J/\a<=L/\J<=m/\J<=M/\M+m-L<=b/\(L=a\/M+m-L=b)/\(J=m\/J=M)) ?_ ?_;refine PT.dec (λhc=>PT.some ⟨M+m-b,M,?_,o!⟩) (λhc=>PT.some ⟨a,m,rfl,o!⟩);rw[nV];exact congrArg (λz=>(z,(M:Int))) o!;rintro v ⟨L,J,rfl,f1,f2,f3,f4,f5,f6,f7⟩;have⟨r,g,r1,r2,r3,r4⟩:=AJX (d:=d) (a:=a) (m:=m) (b:=b) (lo:=L) (hi:=J) f1 f2 f3 o! o! o! hb hd;rw[hM]at r3 r4;rw[g,AD];have e3:wi (((M+m:Nat):Int)-(r:Int))=((M+m-r:Nat):Int):=by rw[nV];omega
 simp only[e3];obtain⟨E,hE⟩: ∃E,E=M+m-r:=⟨_,rfl⟩
 rw[<-hE];have c1:a<r->E<b->lN d[E]! d[r-1]! =false:=λQ n=>by have:=r3 o!;rw[show M+m-1-(r-1)=E by omega]at this;exact this
 have c2:r<m->m<E->lN d[E-1]! d[r]! =true:=λQ n=>by have:=r4 o!;rw[show M+m-1-r=E-1 by omega]at this;exact this
 have s3: ∀c l:Array NE,Sort.PermIn a b d c->(∀k,k<d.size->c[k]! =xa r m E d k)->xu a M c l->PT (b-a<=N+1) (bif decide ((M:Int)<(E:Int))then Option.bind (bif decide ((E:Int)<(b:Int))then Option.bind (C (l.toList,((M:Int),((E:Int),(b:Int))))) λv=>bif Nat.beq (List.length v) (List.length l.toList)then some v else none else some l.toList) λv=>some v else some l.toList) λq=> ∃e:Array NE,q=e.toList/\xu a b d e:=by
  intro c l U f n;have z1:c.size=d.size:=U.1;have z2:l.size=c.size:=n.1.1;have ar: ∀k,k<r->c[k]! =d[k]! :=λk hk=>by rw[f k o!,U1]
  have ax: ∀k,r<=k->k<M->c[k]! =d[m+(k-r)]! :=λk h h'=>by rw[f k o!,kZ]
  have H: ∀k,M<=k->k<E->c[k]! =d[r+(k-M)]! :=λk h h'=>by rw[f k o!,ot];exact qX o!
  have I: ∀k,E<=k->k<b->c[k]! =d[k]! :=λk h h'=>by rw[f k o!,U1]
  have a0: ∀x y,a<=x->x<M->M<=y->y<b->lN c[y]! c[x]! =false:=by
   intro x y F a3 G K;rcases Ax x r with q1|q1;rw[ar x q1];rcases Ax y E with q2|q2;rw[H y G q2];exact s x _ F o! o!;rw[I y q2 K];have k1:lN d[y]! d[E]! =false:=by rcases Ax E y with q3|q3;exact A E y o! q3 K;rw[show y=E by omega];exact W.irrefl _
   have k2:lN d[r-1]! d[x]! =false:=by rcases Ax x (r-1)with q3|q3;exact s x (r-1) F q3 o!;rw[show r-1=x by omega];exact W.irrefl _
   exact W.ntrans _ _ _ (W.ntrans _ _ _ k1 (c1 o! o!)) k2;rw[ax x q1 a3];rcases Ax y E with q2|q2;rw[H y G q2];have hc:=c2 o! o!;have k1:lN d[E-1]! d[m+(x-r)]! =false:=by rcases Ax (m+(x-r)) (E-1)with q3|q3;exact A _ (E-1) o! q3 o!;rw[show m+(x-r)=E-1 by omega];exact W.irrefl _
   refine W.ntrans _ d[E-1]! _ ?_ k1;cases hk:lN d[r+(y-M)]! d[E-1]! with
   |false=>rfl
   |true=>have k2:=W.trans _ _ _ hk hc;rcases Ax r (r+(y-M))with q3|q3;exact absurd k2 (by rw[s r _ o! q3 o!];decide);rw[show r+(y-M)=r by omega,W.irrefl]at k2;cases k2
   rw[I y q2 K];exact A _ y o! o! K
  have X: ∀d3:Array NE,xu M b l d3->xu a b d d3:=λd3 T=>by refine⟨Sort.permIn_trans _ _ _ _ _ U (Sort.permIn_trans _ _ _ _ _ (Sort.permIn_mono _ _ a M a b o! o! o! n.1) (Sort.permIn_mono _ _ M b a b o! o! o! T.1)),λx y F B G=>?_⟩;rcases Ax y M with q1|q1;rw[T.1.2.1 x o!,T.1.2.1 y o!];exact n.2 x y F B q1;rcases Ax x M with q2|q2;rw[T.1.2.1 x o!];refine Sort.permIn_all l d3 M b (λz=>lN z l[x]! =false) o! T.1 (λw hw a2=>?_) y q1 G;rw[n.1.2.1 w o!];exact Sort.permIn_all c l a M (λz=>lN c[w]! z=false) o! n.1 (λu hu a1=>a0 u w hu a1 hw a2) x F q2;exact T.2 x y q2 B G
  have ao:Sort.SortedIn lN M E l:=λx y F B G=>by rw[n.1.2.1 x o!,n.1.2.1 y o!,H x F o!,H y o! G];exact s _ _ o! o! o!
  have ap:Sort.SortedIn lN E b l:=λx y F B G=>by rw[n.1.2.1 x o!,n.1.2.1 y o!,I x F o!,I y o! G];exact A _ _ o! o! o!
  have o:E<=M\/b<=E->xu a b d l:=λh=>X l ⟨Sort.permIn_refl _ _ _,ou h ao ap o! o!⟩;refine PT.dec (λq1=>PT.bind (P:=λq=> ∃e:Array NE,q=e.toList/\xu a b d e) (PT.dec (λq2=>?_) (λq2=>PT.some ⟨l,rfl,o o!⟩)) λr h=>PT.some h) (λq1=>PT.some ⟨l,rfl,o o!⟩);have hr:=O l M E b o! o! o! o! ao ap;refine PT.bind (P:=λq=> ∃e:Array NE,q=e.toList/\xu M b l e) ⟨λt=>hr.1 o!,hr.2⟩ ?_;rintro q ⟨e,rfl,D⟩;exact aS (by rw[Dx,Dx,D.1.1]) (PT.some ⟨e,rfl,X e D⟩)
 have s2: ∀c:Array NE,Sort.PermIn a b d c->(∀k,k<d.size->c[k]! =xa r m E d k)->PT (b-a<=N+1) (bif decide ((a:Int)<(r:Int))then Option.bind (bif decide ((r:Int)<(M:Int))then Option.bind (C (c.toList,((a:Int),((r:Int),(M:Int))))) λv=>bif Nat.beq (List.length v) (List.length c.toList)then some v else none else some c.toList) λv=>(bif decide ((M:Int)<(E:Int))then Option.bind (bif decide ((E:Int)<(b:Int))then Option.bind (C (v,((M:Int),((E:Int),(b:Int))))) λw=>bif Nat.beq (List.length w) (List.length v)then some w else none else some v) λw=>some w else some v)else(bif decide ((M:Int)<(E:Int))then Option.bind (bif decide ((E:Int)<(b:Int))then Option.bind (C (c.toList,((M:Int),((E:Int),(b:Int))))) λw=>bif Nat.beq (List.length w) (List.length c.toList)then some w else none else some c.toList) λw=>some w else some c.toList)) λq=> ∃e:Array NE,q=e.toList/\xu a b d e:=by
  intro c U f;have z1:c.size=d.size:=U.1;have ad:Sort.SortedIn lN a r c:=λx y F B G=>by rw[f x o!,f y o!,U1,U1];exact s _ _ o! o! o!
  have al:Sort.SortedIn lN r M c:=λx y F B G=>by rw[f x o!,f y o!,kZ,kZ];exact A _ _ o! o! o!
  have o:r<=a\/M<=r->xu a M c c:=λh=>⟨Sort.permIn_refl _ _ _,ou h ad al o! o!⟩
  refine PT.dec (λq1=>PT.bind (P:=λq=> ∃e:Array NE,q=e.toList/\xu a M c e) ?_ ?_) (λq1=>s3 c c U f (o o!));refine PT.dec (λq2=>?_) (λq2=>PT.some ⟨c,rfl,o o!⟩);have hr:=O c a r M o! o! o! o! ad al;refine PT.bind (P:=λq=> ∃e:Array NE,q=e.toList/\xu a M c e) ⟨λt=>hr.1 o!,hr.2⟩ ?_;rintro q ⟨e,rfl,D⟩;exact aS (by rw[Dx,Dx,D.1.1]) (PT.some ⟨e,rfl,D⟩);rintro q ⟨e,rfl,D⟩;exact s3 c e U f D
 have Z:r=m\/E=m-> ∀k,k<d.size->d[k]! =xa r m E d k:=λh k hk=>by rcases Ax k r with q1|q1;rw[U1];rcases Ax k (r+(E-m))with q2|q2;rw[kZ q1 q2];exact qX o!;rcases Ax k E with q3|q3;rw[ot q2 q3];exact qX o!;rw[U1]
 refine PT.dec (λq1=>PT.bind (P:=λq=> ∃e:Array NE,q=e.toList/\Sort.PermIn a b d e/\ ∀k,k<d.size->e[k]! =xa r m E d k) ?_ ?_) (λq1=>s2 d (Sort.permIn_refl _ _ _) (Z o!));refine PT.dec (λq2=>PT.bind (kA (ACr (d:=d) (a:=r) (m:=m) (b:=E) o! o! o! hd)) ?_) (λq2=>PT.some ⟨d,rfl,Sort.permIn_refl _ _ _,Z o!⟩);rintro q ⟨e,rfl,z,D⟩;exact aS (by rw[Dx,Dx,z]) (PT.some ⟨e,rfl,Sort.permIn_mono _ _ r E a b o! o! hb (AGd o! o! o! z D),D⟩);rintro q ⟨e,rfl,p,D⟩;exact s2 e p D
def AIX(n:Nat)(p:List NE×(Int×(Int×Int))):oH (λg (p:List NE×(Int×(Int×Int)))=>CG g p.1 p.2) (n+1) p=CG (oH (λg (p:List NE×(Int×(Int×Int)))=>CG g p.1 p.2) n) p.1 p.2:=rfl
def AAt:∀(N:Nat)(d:Array NE)(a m b:Nat),a<m→m<b→b≤d.size→d.size≤16777216→Sort.SortedIn lN a m d→Sort.SortedIn lN m b d→
  PT (b-a<=N) (oH (λg (p:List NE×(Int×(Int×Int)))=>CG g p.1 p.2) N (d.toList,(a:Int),(m:Int),(b:Int))) λr=>∃e:Array NE,r=e.toList/\xu a b d e
 |0,d,a,m,b,h1,h2,h3,h4,h5,h6=>⟨λt=>N! t o!,λr e=>by cases e⟩
 |N+1,d,a,m,b,h1,h2,h3,h4,h5,h6=>by rw[AIX];exact AJ7 h1 h2 h3 h4 h5 h6 (AAt N)
def AHI{d:Array NE}{a m b:Nat}(c:a<m)(f:m<b)(g:b≤d.size)(h:d.size≤16777216)(i:Sort.SortedIn lN a m d)(j:Sort.SortedIn lN m b d):
  As (EV d.toList ((a:Int),(m:Int),(b:Int))) λr=>∃e:Array NE,r=e.toList/\xu a b d e:=by
 have⟨r,hr⟩:=(AAt (b-a) d a m b c f g h i j).1 (An _);have⟨s,k⟩:=fy hr;have⟨N,l⟩:=c7 k;exact⟨s,k,(AAt N d a m b c f g h i j).2 s l⟩
def Mul(s a:Nat):Prop:=∃k,a=k*s
def Mul.zero{s:Nat}:Mul s 0:=⟨0,k!⟩
def Mul.add{s a:Nat}(h:Mul s a):Mul s (a+s):=by obtain⟨k,rfl⟩:=h;exact⟨k+1,q!⟩
def Mul.half{s a:Nat}(h:Mul (2*s) a):Mul s a:=by obtain⟨k,rfl⟩:=h;exact⟨k*2,q!⟩
def Mul.lt{s a b:Nat}(c:Mul s a)(d:Mul s b)(h:a<b):a+s<=b:=by obtain⟨k,rfl⟩:=c;obtain⟨j,rfl⟩:=d;have:k<j:=Nat.lt_of_mul_lt_mul_right h;have:=Mu s (Nat.succ_le_of_lt this);grind
theorem Zr{a b c:Nat}{d:Array NE}(h:Sort.SortedIn lN a b d)(i:c<=b):Sort.SortedIn lN a c d:=λx y e f g=>h x y e f o!
def Wc{a b x y:Nat}{d e:Array NE}(h:Sort.SortedIn lN a b d)(c:Sort.PermIn x y d e)(l:b<=x\/y<=a):Sort.SortedIn lN a b e:=λi j f g k=>by rw[c.2.1 i o!,c.2.1 j o!];exact h i j f g k
def Blk(s n:Nat)(d:Array NE):Prop:=∀a b,Mul s a->b<=a+s->b<=n->Sort.SortedIn lN a b d
def ACw{d0:Array NE}{n:Nat}(hn:n=d0.size)(hd:n<=1048576):As (Et d0.toList (n:Int)) λr=>∃e:Array NE,r=e.toList/\xu 0 n d0 e:=by
 unfold Et;refine AA (P:=λ(r:Int×List NE)=>∃(a:Nat)(d:Array NE),r.1=a/\r.2=d.toList/\a<=n/\n<a+20/\Mul 20 a/\Sort.PermIn 0 n d0 d/\∀c,Mul 20 c->c<a->Sort.SortedIn lN c (c+20) d) ?_ ?_;refine AW (λ(s:Int×(Int×List NE))=>∃(a:Nat)(d:Array NE),s.1=a/\s.2.1=((a+20:Nat):Int)/\s.2.2=d.toList/\a<=n/\Mul 20 a/\Sort.PermIn 0 n d0 d/\∀c,Mul 20 c->c<a->Sort.SortedIn lN c (c+20) d) (λs=>n-s.1.toNat) ⟨0,d0,rfl,rfl,rfl,Bc _,Mul.zero,Sort.permIn_refl _ _ _,λc _ h=>N! h o!⟩ ?_;rintro⟨Y,Z,s3⟩ ⟨a,d,q1,q2,q3,q4,q5,q6,q7⟩;dsimp only at q1 q2 q3;subst q1 q2 q3;have hz:d.size=n:=by rw[q6.1,hn]
 unfold Iw;dsimp only;refine AC (λO=>?_) (λO=>AB ⟨a,d,rfl,rfl,q4,o!,q5,q6,q7⟩);have A:=Sort.insertionSort_holds uh d a (a+20) o! o!;rw[ABW (d:=d) (k:=a) (m:=a+20) rfl rfl o! o! o!,AD];have j:ξ (θ (Sort.insertionSort lN d a (a+20)).toList) (θ d.toList)=ζ:=by rw[Dx,Dx,A.1.1];exact Hy _
 have e1:wi (((a+20:Nat):Int)+20)=((a+20+20:Nat):Int):=by grind[nV]
 rw[j,B!,e1];refine AB ⟨⟨a+20,_,rfl,rfl,rfl,o!,q5.add,Sort.permIn_trans _ _ _ _ _ q6 (Sort.permIn_mono _ _ a (a+20) 0 n o! o! o! A.1),λc g w=>?_⟩,?_⟩;rcases Ax c a with l|l;exact Wc (q7 c g l) A.1 (.inl (g.lt q5 l));have:c=a:=by rcases Ax a c with i|i;have:=q5.lt g i;omega;omega
 rw[this];exact A.2;show n-((a+20:Nat):Int).toNat<n-((a:Nat):Int).toNat
 omega;rintro⟨r1,r2⟩ ⟨a,d,q1,q2,q3,q4,q5,q6,q7⟩;dsimp only at q1 q2;subst q1 q2;have hz:d.size=n:=by rw[q6.1,hn]
 dsimp only;have A:=Sort.insertionSort_holds uh d a n q3 o!;rw[ABW (d:=d) (k:=a) (m:=n) rfl rfl o! o! o!,AD];have j:ξ (θ (Sort.insertionSort lN d a n).toList) (θ d.toList)=ζ:=by rw[Dx,Dx,A.1.1];exact Hy _
 rw[j,B!];have C:Sort.PermIn 0 n d0 (Sort.insertionSort lN d a n):=Sort.permIn_trans _ _ _ _ _ q6 (Sort.permIn_mono _ _ a n 0 n o! o! o! A.1);have u:Blk 20 n (Sort.insertionSort lN d a n):=λc o g w l=>by rcases Ax c a with i|i;exact Zr (Wc (q7 c g i) A.1 (.inl (g.lt q5 i))) w;rcases Ax a c with E|E;have:=q5.lt g E;exact λx y H I J=>N! J o!;grind[Zr]
 revert C u;generalize Sort.insertionSort lN d a n=d1;intro C u;refine AA (P:=λr=>∃e:Array NE,r=e.toList/\xu 0 n d0 e) (AW (λ(s:Int×List NE)=>∃(t:Nat)(e:Array NE),s.1=t/\s.2=e.toList/\1<=t/\t<=2097172/\Sort.PermIn 0 n d0 e/\Blk t n e) (λs=>n-s.1.toNat) ⟨20,d1,rfl,rfl,o!,o!,C,u⟩ ?_) λr h=>AB h;rintro⟨Y,Z⟩ ⟨t,e,H,I,J,g4,V,W⟩;dsimp only at H I;subst H I;unfold Ix;dsimp only;refine AC (λO=>?_) (λO=>AB ⟨e,rfl,V,W 0 n Mul.zero o! (An _)⟩);have U:wi (2*(t:Int))=((2*t:Nat):Int):=by rw[nV];omega
 have e3:wi ((t:Int)*2)=((2*t:Nat):Int):=by rw[nV];omega
 rw[U,e3];refine AA (P:=λ(r:Int×List NE)=>∃(a:Nat)(f:Array NE),r.1=a/\r.2=f.toList/\a<=n/\n<a+2*t/\Mul (2*t) a/\Sort.PermIn 0 n d0 f/\(∀c,Mul (2*t) c->c<a->Sort.SortedIn lN c (c+2*t) f)/\∀c o,Mul t c->a<=c->o<=c+t->o<=n->Sort.SortedIn lN c o f) ?_ ?_;refine AW (λ(s:Int×(Int×List NE))=>∃(a:Nat)(f:Array NE),s.1=a/\s.2.1=((a+2*t:Nat):Int)/\s.2.2=f.toList/\a<=n/\Mul (2*t) a/\Sort.PermIn 0 n d0 f/\(∀c,Mul (2*t) c->c<a->Sort.SortedIn lN c (c+2*t) f)/\∀c o,Mul t c->a<=c->o<=c+t->o<=n->Sort.SortedIn lN c o f) (λs=>n-s.1.toNat)
  ⟨0,e,rfl,k!,rfl,Bc _,Mul.zero,V,λc _ h=>N! h o!,λc o g _ w l=>W c o g w l⟩ ?_
 rintro⟨Y,Z,s3⟩ ⟨a,f,k1,G,T,X,p,D,K,B⟩;dsimp only at k1 G T;subst k1 G T;have S:f.size=n:=by rw[D.1,hn]
 unfold Iy;dsimp only;refine AC (λQ=>?_) (λQ=>AB ⟨a,f,rfl,rfl,X,o!,p,D,K,B⟩);have N:wi ((a:Int)+(t:Int))=((a+t:Nat):Int):=by rw[nV];omega
 have e5:wi (((a+2*t:Nat):Int)+((2*t:Nat):Int))=((a+2*t+2*t:Nat):Int):=by rw[nV];omega
 rw[N,U,e5];apply AA (AHI (d:=f) (a:=a) (m:=a+t) (b:=a+2*t) o! o! o! o! (B a (a+t) p.half (An _) (An _) o!) (B (a+t) (a+2*t) p.half.add o! o! o!));rintro r ⟨q,rfl,v,F⟩;have j:ξ (θ q.toList) (θ f.toList)=ζ:=by rw[Dx,Dx,v.1];exact Hy _
 rw[j,B!];refine AB ⟨⟨a+2*t,q,rfl,rfl,rfl,o!,p.add,Sort.permIn_trans _ _ _ _ _ D (Sort.permIn_mono _ _ a (a+2*t) 0 n o! o! o! v),λc g w=>?_,λc o g w l i=>Wc (B c o g o! l i) v (.inr w)⟩,?_⟩;rcases Ax c a with l|l;exact Wc (K c g l) v (.inl (g.lt p l));have:c=a:=by rcases Ax a c with i|i;have:=p.lt g i;omega;omega
 rw[this];exact F;show n-((a+2*t:Nat):Int).toNat<n-((a:Nat):Int).toNat
 omega;rintro⟨v1,v2⟩ ⟨a,f,k1,G,T,X,p,D,K,B⟩;dsimp only at k1 G;subst k1 G;have S:f.size=n:=by rw[D.1,hn]
 dsimp only;have N:wi ((a:Int)+(t:Int))=((a+t:Nat):Int):=by rw[nV];omega
 rw[N];have z:∀q:Array NE,Sort.PermIn a n f q->Sort.SortedIn lN a n q->(∃(L:Nat)(M:Array NE),((2*t:Nat):Int)=L/\q.toList=M.toList/\1<=L/\L<=2097172/\Sort.PermIn 0 n d0 M/\Blk L n M)/\n-((2*t:Nat):Int).toNat<n-((t:Nat):Int).toNat:=λq v F=>by refine⟨⟨2*t,q,rfl,rfl,o!,o!,Sort.permIn_trans _ _ _ _ _ D (Sort.permIn_mono _ _ a n 0 n o! o! o! v),λc o g w l=>?_⟩,o!⟩;rcases Ax c a with i|i;exact Zr (Wc (K c g i) v (.inl (g.lt p i))) w;rcases Ax a c with E|E;have:=p.lt g E;exact λx y H I J=>N! J o!;rw[show c=a by omega];exact Zr F l
 refine AC (λR=>AA (AHI (d:=f) (a:=a) (m:=a+t) (b:=n) o! o! o! o! (B a (a+t) p.half (An _) (An _) o!) (B (a+t) n p.half.add o! o! (An _))) ?_) (λR=>AB (z f (Sort.permIn_refl _ _ _) (B a n p.half (An _) o! (An _))));rintro r ⟨q,rfl,v,F⟩;have j:ξ (θ q.toList) (θ f.toList)=ζ:=by rw[Dx,Dx,v.1];exact Hy _
 rw[j,B!];exact AB (z q v F)
def AGp{l:List NE}(h:θ l<=1048576):As (C0 l ()) λr=>r.Perm l/\r.Pairwise λx y=>lN y x=η:=by
 unfold C0;apply AA (ACw (d0:=l.toArray) (n:=θ l) k! h);rintro r ⟨R,rfl,d,f⟩;have e:R.size=θ l:=by rw[d.1];simp
 have g:ξ (θ R.toList) (θ l)=ζ:=by simp[e]
 rw[g,B!];refine AB ⟨?_,?_⟩;have:=d.2.2;rw[show R.extract 0 (θ l)=R by rw[<-e];exact na,show l.toArray.extract 0 (θ l)=l.toArray by rw[show θ l=l.toArray.size by simp];exact na]at this;exact this;rw[Gm];intro i j k m b;have a:i<R.size:=by simpa using k
 have c:j<R.size:=by simpa using m
 have:=f i j (Bc _) b o!;rw[getElem!_pos R j c,getElem!_pos R i a]at this;simpa using this
def AFM(l:List NE):Prop:=∀x∈l,∀y∈l,x≠y->x.1.2.2.1=y.1.2.2.1->x.1.2.1<y.1.1\/y.1.2.1<x.1.1
def AGh{N a:List NE}(W:N.length=a.length)(G:a.length≤256)(I:∀e∈a,1≤e.1.1∧e.1.1≤e.1.2.1∧e.1.2.1≤1099511627776∧0≤e.1.2.2.1)(P:a.Pairwise λx y=>lN y x=false)(hn:a.Nodup)(O:AFM a):
  As (Ai (TI N a) (0,(-1),0,[],[])) λr=>r=(a.map (·.1),a.map (·.2)):=by
 refine AW (λ(s:Int×(Int×(Int×(List AQ×List Int))))=>∃k:Nat,s.1=k/\k<=a.length/\s.2.2.2=((a.take k).map (·.1),(a.take k).map (·.2))/\((k=0/\s.2.1= -1)\/∃e,0<k/\a[k-1]?=some e/\s.2.1=e.1.2.2.1/\s.2.2.1=e.1.2.1)) (λs=>a.length-s.1.toNat) ⟨0,rfl,Bc _,rfl,.inl ⟨rfl,rfl⟩⟩ ?_;rintro⟨Y,R,Z,s4⟩ ⟨k,q1,q2,q3,q4⟩;dsimp only at q1 q3 q4;subst q1 q3;unfold TI;dsimp only;refine AC (λw=>?_) (λw=>AB ?_)
 ·simp only[len]at w;refine AA (AJ) λv8 _=>AA (AJ) λv h=>?_;have z:a[k]?=some v:=by simpa using h.1
  obtain⟨S,T,U,V⟩:=I v h.2;have C:a.take (k+1)=a.take k++[v]:=by rw[Co,z];rfl
  have X:(a.take k).length<=256:=by rw[BR];omega
  have j:∀D:Int,D=v.1.2.2.1→As (Option.bind (app ((a.take k).map (·.1)) [v.1]) λf=>Option.bind (app ((a.take k).map (·.2)) [v.2]) λg=>some (Step.next (wi ((k:Int)+1),D,v.1.2.1,f,g))) λ(st:Step (Int×(Int×(Int×(List AQ×List Int)))) (List AQ×List Int))=>match st with
    |.next i=>(∃d:Nat,i.1=d/\d<=a.length/\i.2.2.2=((a.take d).map (·.1),(a.take d).map (·.2))/\((d=0/\i.2.1= -1)\/∃e,0<d/\a[d-1]?=some e/\i.2.1=e.1.2.2.1/\i.2.2.1=e.1.2.1))/\a.length-i.1.toNat<a.length-((k:Nat):Int).toNat
    |.done r=>r=(a.map (·.1),a.map (·.2)):=λD A=>by
   refine AA (Ad w!) λf t=>AA (Ad w!) λg u=>AB ⟨⟨k+1,?_,o!,?_,.inr ⟨v,o!,by rw[mc];exact z,A,rfl⟩⟩,?_⟩;show wi ((k:Int)+1)=_;rw[wip];show(f,g)=_;rw[t.1,u.1,C,J7,J7];rfl;show a.length-(wi ((k:Int)+1)).toNat<a.length-((k:Nat):Int).toNat
   rw[wip];omega
  have b:∀n:Int,n<v.1.1->Nw (v.1,n)=some v.1:=λn hn=>by unfold Nw;have:decide (v.1.1>n)=true:=decide_eq_true hn;dsimp only;rw[this,cond_true]
  refine AL (λm=>?_) (λc=>?_);refine AC (λq=>absurd q o!) (λ_=>?_);rw[b 0 o!,AD];obtain⟨st,E,F⟩:=j v.1.2.2.1 rfl;exact⟨st,E,by cases st<;>exact F⟩;rcases q4 with⟨_,q4⟩|⟨e,q5,q6,q7,q8⟩;exact absurd (c.trans q4) o!;have B:e.1.2.1<v.1.1:=by
   have H:=BN q6;obtain⟨J,K⟩:=EP.1 q6;obtain⟨L,M⟩:=EP.1 z;have m:e≠v:=λp=>by have:=(Gm.1 (I4.1 hn)) (k-1) k J L o!;rw[K,M]at this;exact this p
   have o:=(Gm.1 P) (k-1) k J L o!;rw[K,M]at o;have Q:=I e H;have l:e.1.2.2.1=v.1.2.2.1:=by rw[<-q7];exact c.symm
   rcases O e H v h.2 m l with p|p;exact p;simp only[lN,decide_eq_false_iff_not]at o;omega
  rw[q8];refine AC (λq=>absurd q o!) (λ_=>?_);rw[b _ B,AD];obtain⟨st,E,F⟩:=j R c.symm;exact⟨st,E,by cases st<;>exact F⟩
 simp only[len]at w;rw[BP o!]
noncomputable def intR(a:AI)(f:Aq):Option NE:=
 match Gu (a,f)with
 |some (r,ζ)=>δ (r,f.2.1)
 |_=>ε
noncomputable def DZ(a:AI):List NE:=a.2.2.1.filterMap (intR a)
def AGg{x:AI}(h:VB x)(t:DS x):As (Ai (TH x) (0,[])) λr=>r=DZ x/\θ r<=256/\∀e∈r,Zw e.1:=by
 obtain⟨⟨v,w,y,n,z,A,B⟩,a1,a2,a3,a4,a5,a6⟩:=id h;refine AW (λ(s:Int×NL)=>0<=s.1/\s.1<=θ x.2.2.1/\θ s.2<=s.1/\(∀e∈s.2,Zw e.1)/\s.2=(x.2.2.1.take s.1.toNat).filterMap (intR x)) (λ(s:Int×NL)=>((θ x.2.2.1:Int)-s.1).toNat) ⟨Af _,d!,k!,λe a=>by simp at a,k!⟩ (λs q=>?_);obtain⟨u,C,D,j,k⟩:=q;unfold TH;refine AC (λf=>?_) (λf=>AB ⟨?_,o!,j⟩);simp only[len]at f;have e:=AZ (x:=s.1+1);rw[e];refine AA (AJ u f) λg m=>?_;have c:x.2.2.1.take (s.1+1).toNat=x.2.2.1.take s.1.toNat++[g]:=by rw[show(s.1+1).toNat=s.1.toNat+1 by omega,Co,m.1];rfl
 refine D6 (mF n (t _ m.2)) λl d p=>AK (λb=>?_) (λb=>AB ⟨⟨d!,d!,d!,j,?_⟩,d!⟩);have hr:intR x g=δ (l.1,g.2.1):=by unfold intR;rw[d];obtain⟨r,o⟩:=l;dsimp only at b;subst b;rfl
 refine AA (Ad w!) λE i=>AB ⟨⟨d!,d!,?_,λe a=>?_,?_⟩,d!⟩;have:=i.2.1;simp only[Ba,Bb]at this;dsimp only;omega;dsimp only at a;rw[i.1]at a;rcases Ak.1 a with a|a;exact j e a;rw[BA.1 a];exact p b;dsimp only;rw[c,vJ,i.1,k];simp[hr];have hr:intR x g=ε:=by unfold intR;rw[d];obtain⟨r,o⟩:=l;dsimp only at b;subst b;rfl
 dsimp only;rw[c,vJ,k];simp[hr];simp only[len]at f;rw[k,BP o!];rfl
def sU{x:AI}(h:VB x)(m:DS x)(hn:(DZ x).Nodup)(b:AFM (DZ x)):As (HH x) λr=>∃v:List NE,v.Perm (DZ x)/\(v.Pairwise λp q=>lN q p=η)/\r=(v.map (·.1),v.map (·.2))/\θ v<=256/\∀e∈v,Zw e.1:=by
 unfold HH;refine AA (Fb h) λt j=>?_;rw[j,CM,A!];refine AA (AGg h m) λu k=>?_;obtain⟨rfl,g,s⟩:=k;refine AA (AGp o!) λf a=>?_;have i:=a.1.length_eq;have l:ξ (θ f) (θ (DZ x))=ζ:=by rw[i];exact Hy _
 rw[l,B!];have c:∀e∈f,Zw e.1:=λe d=>s e (a.1.mem_iff.1 d);refine AA (AGh i.symm o! (λe d=>?_) a.2 (a.1.nodup_iff.2 hn) (λp n q o=>b p (a.1.mem_iff.1 n) q (a.1.mem_iff.1 o))) λr hr=>AB ⟨f,a.1,a.2,hr,o!,c⟩;have:=c e d;exact⟨this.1,this.2.1,this.2.2.1,this.2.2.2.1⟩
def yL(l:List (Int×Int))(n:Int):Prop:=∃s∈l,s.1<=n/\n<=s.2
def ADw{l:List (Int×Int)}{u b:Int}(p:θ l<=16777216):As (Ai (TJ (l,u)) (0,b)) λr=>(∀q,r=.inl q->0<=q.1/\q.1<θ l/\q.2=b/\∀e,l[q.1.toNat]?=δ e->e.1<=b/\b<=e.2)/\(∀q,r=.inr q->q=b/\¬yL l b):=by refine AW (λ(s:Int×Int)=>0<=s.1/\s.1<=θ l/\s.2=b/\∀e∈l.take s.1.toNat,¬(e.1<=b/\b<=e.2)) (λ(s:Int×Int)=>((θ l:Int)-s.1).toNat) ⟨Af _,d!,rfl,k!⟩ (λt n=>?_);obtain⟨k,v,m,g⟩:=n;unfold TJ;refine AC (λd=>?_) (λd=>AB ⟨λu c=>(by cases c),λu c=>?_⟩);simp only[len]at d;have e:=AZ (x:=t.1+1);rw[e];refine AA (AJ k d) λw h=>?_;unfold Uh;rw[has_eq,AD,AD,m];refine AK (λf=>AB ⟨λu c=>?_,λu c=>(by cases c)⟩) (λi=>AB ⟨⟨d!,d!,rfl,λe a=>?_⟩,d!⟩);cases c;refine⟨k,d,rfl,λe a=>?_⟩;dsimp only at a;rw[h.1]at a;injection a with a;subst a;unfold Pz at f;simp only[BW,K!]at f;exact f;dsimp only at a;rw[show(t.1+1).toNat=t.1.toNat+1 by omega,Co,h.1]at a;rcases Ak.1 a with a|a;exact g e a;rw[mi,BA]at a;subst a;intro j;unfold Pz at i;simp only[Bool.and_eq_false_iff,decide_eq_false_iff_not]at i;omega;cases c;simp only[len]at d;rw[BP o!]at g;exact⟨m,by rw[show yL l b↔∃s∈l,s.1<=b/\b<=s.2 from Iff.rfl];rintro⟨s,o,j⟩;exact g s o j⟩
def AAA{l:List (Int×Int)}{u:Int}(h:SpL l)(w:0<=u)(A:u<=1099511627776):As (MM (l,u)) λr=>0<=r/\r<=u/\(∀n,r<n->n<=u->yL l n)/\(r=0\/¬yL l r):=by obtain⟨a1,a2⟩:=h;unfold MM;refine AA (P:=λr=>0<=r/\r<=u/\(∀n,r<n->n<=u->yL l n)/\(r=0\/¬yL l r)) ?_ λr hr=>AB hr;refine AW (λ(s:Int)=>0<=s/\s<=u/\∀n,s<n->n<=u->yL l n) (λ(s:Int)=>s.toNat) ⟨w,Af _,λn k m=>by dsimp only at k;omega⟩ (λs v=>?_);obtain⟨p,t,g⟩:=v;unfold YI;refine AA (ADw (b:=s) a1) λr hr=>BG (λq f=>?_) (λq f=>?_);obtain⟨i,j,y,z⟩:=hr.1 q f;refine AC (λd=>N! d o!) (λ_=>AC (λd=>AB ?_) (λB=>?_));rw[y]at d⊢;exact⟨p,t,g,.inl o!⟩;refine AA (AJ i j) λa c=>?_;have q1:=z a c.1;have q2:=a2 a c.2;have e:=AZ (x:=a.1-1);rw[e];refine AB ⟨⟨o!,o!,λn k m=>?_⟩,o!⟩;rcases ku s n with o|o;exact g n o m;exact⟨a,c.2,o!⟩;obtain⟨i,j⟩:=hr.2 q f;rw[i];exact AB ⟨p,t,g,.inr j⟩
def vZ{x:AI}(h:VB x):x.2.2.1.Pairwise λf g=>f.2.1<g.2.1:=by
 have c:=h.2.2.2.2.2.2.2;rw[Gm];have step:∀n i:Nat,∀(a:i<θ x.2.2.1)(b:i+1+n<θ x.2.2.1),(x.2.2.1[i]).2.1<(x.2.2.1[i+1+n]).2.1:=by
  intro n;induction n with
  |zero=>intro i a b;exact c i _ _ o! (Ar a) (Ar b)
  |succ n m=>intro i a b;have d:=m i a o!;have k:=c (i+1+n) _ _ o! (Ar o!) (Ar b);exact Int.lt_trans d k
 intro i j a b l;have:=step (j-(i+1)) i a o!;have e:i+1+(j-(i+1))=j:=o!
 simp only[e]at this;exact this
theorem lW{x:AI}(h:VB x):((DZ x).map (·.2)).Pairwise (· < ·):=by
 unfold DZ;rw[S5,List.pairwise_filterMap];refine(vZ h).imp λ{f g} b y a z c=>?_;have one:∀(f:Aq)(y:NE),intR x f=δ y->y.2=f.2.1:=λf y a=>by unfold intR at a;split at a;injection a with a;rw[<-a];cases a
 rw[one f y a,one g z c];exact b
def Kl{x:AI}(h:VB x):(DZ x).Nodup:=by have:=lW h;rw[S5]at this;exact I4.2 (this.imp λh e=>by rw[e]at h;omega)
def AJI{a:AI}{l:Aa}{p i j:Int}{Q:List (Int×Int)}{d:Int×Int}{r:AQ}{W:List (Int×EN)}{u:Int}{P:EN→Prop}(hr:θ r.2.2.2.2.2≤4096)(Y:Q[0]?=δ d)(hm:QQ W P)(hn:0≤u∧u≤1099511627776)
  (S:∀v∈r.2.2.2.2.2,LK p i j v=ζ->(Pz d v.1=ζ->P v)/\∀e,(P e\/(e∈r.2.2.2.2.2/\LK p i j e=ζ))->e.1=v.1->e=v):
  As (Ai (Wr (a,l,p,i,j) Q r) (0,W,u,[],0)) λq=>∃m n,q=.inl (m,n,[],0)/\QQ m (λe=>P e\/(e∈r.2.2.2.2.2/\LK p i j e=ζ))/\n=u+((r.2.2.2.2.2.filter λe=>LK p i j e&&Pz d e.1).length:Int):=by
 generalize hL:r.2.2.2.2.2=L at hr S⊢;refine AW (λ(s:Int×(List (Int×EN)×(Int×(List EN×Int))))=>0<=s.1/\s.1<=θ L/\s.2.2.2=([],0)/\s.2.2.1=u+(((L.take s.1.toNat).filter λe=>LK p i j e&&Pz d e.1).length:Int)/\QQ s.2.1 λe=>P e\/(e∈L.take s.1.toNat/\LK p i j e=ζ)) (λs=>((θ L:Int)-s.1).toNat)
  ⟨Af _,d!,rfl,k!,hm.congr λe=>k!⟩ (λs Z=>?_)
 obtain⟨c,E,F,s4⟩:=s;obtain⟨U,i2,V,C,z⟩:=Z;dsimp only at U i2 V C z;subst V;unfold Wr;dsimp only;rw[hL];refine AC (λf=>?_) (λf=>AB ?_);simp only[len]at f;have X:=AZ (x:=c+1);rw[X];refine AA (AJ U f) λv R=>?_;rw[my,AD];have o:L.take (c+1).toNat=L.take c.toNat++[v]:=by rw[show(c+1).toNat=c.toNat+1 by omega,Co,R.1];rfl
 have k:LK p i j v=η->(0<=c+1/\c+1<=θ L/\(([],0):List EN×Int)=([],0)/\F=u+(((L.take (c+1).toNat).filter λe=>LK p i j e&&Pz d e.1).length:Int)/\QQ E λe=>P e\/(e∈L.take (c+1).toNat/\LK p i j e=ζ))/\((θ L:Int)-(c+1)).toNat<((θ L:Int)-c).toNat:=λy=>by
  refine⟨⟨o!,o!,rfl,?_,?_⟩,o!⟩;rw[o,HY,C];simp[y];rw[o];refine z.congr λe=>⟨?_,?_⟩
  rintro(h|h);exact .inl h;exact .inr ⟨Ak.2 (.inl h.1),h.2⟩;rintro(h|⟨h,w⟩);exact .inl h;rcases Ak.1 h with h|h;exact .inr ⟨h,w⟩;rw[BA.1 h,y]at w;cases w
 refine AK (λG=>?_) (λG=>AB (k (by simp[LK,G])));refine AK (λH=>?_) (λH=>AB (k (by simp[LK,H])));refine AK (λI=>?_) (λI=>AB (k (by unfold LK;rw[I];simp)));refine AO (λJ=>AB (k (by unfold LK;rw[J];simp))) (λJ=>?_);have y:LK p i j v=ζ:=by unfold LK;rw[G,H,I,J];rfl
 have O:ix Q 0=δ d:=by unfold ix;rw[C! (Af _)];exact Y
 rw[O,AD,has_eq,AD];obtain⟨M,A⟩:=S v R.2 y;have t:QQ (P0 v.1 v E) λe=>P e\/(e∈L.take (c+1).toNat/\LK p i j e=ζ):=by
  rw[o];refine z.put.congr λe=>⟨?_,λh=>?_⟩
  rintro(rfl|⟨h|h,_⟩);exact .inr ⟨Ak.2 (.inr (BA.2 rfl)),y⟩;exact .inl h;exact .inr ⟨Ak.2 (.inl h.1),h.2⟩;by_cases g:e=v;exact .inl g;rcases h with h|⟨h,w⟩;exact .inr ⟨.inl h,λN=>g (A e (.inl h) N)⟩;rcases Ak.1 h with h|h;exact .inr ⟨.inr ⟨h,w⟩,λN=>g (A e (.inr ⟨GH h,w⟩) N)⟩;exact N! (BA.1 h) g
 have T:(((L.take c.toNat).filter λe=>LK p i j e&&Pz d e.1).length:Int)<=4096:=by have h1:=FF (λe=>LK p i j e&&Pz d e.1) (L.take c.toNat);have h3:=List.length_take_le' c.toNat L;omega
 have K:=AZ (x:=F+1);rw[K];have B:∀b:Bool,Pz d v.1=b->u+((((L.take (c+1).toNat).filter λe=>LK p i j e&&Pz d e.1).length:Nat):Int)=F+(if b=ζ then 1 else 0):=λb hb=>by rw[o,HY,AY,C];cases b<;>simp[y,hb]<;>omega
 refine AK (λD=>?_) (λD=>AB ⟨⟨d!,d!,rfl,?_,t⟩,d!⟩);have hg:LD v.1 E=δ v:=z.get (.inl (M D));rw[hg];simp only[Option.isSome_some,CM,A!,mg,L!,Xk];refine AB ⟨⟨d!,d!,rfl,?_,t⟩,d!⟩;rw[B ζ D];rfl;rw[B η D];simp;simp only[len]at f;rw[BP o!]at C z;exact⟨E,F,rfl,z,C⟩
def KC(low:Int)(rs:List AQ):List EN:=(rs.filter λr=>r.2.2.1==low).flatMap λr=>r.2.2.2.2.2
def AJH{a:AI}{l:Aa}{p i j:Int}{X:List (Int×Int)}{sp:Int×Int}{b:Int×(Int×Bool)}{c:List AQ}{E:List Int}{W:List (Int×EN)}{P:EN→Prop}(Z:X[0]?=δ sp)(hm:QQ W P)
  (U:θ c=θ E) (T:θ c<=256) (hr:∀r∈c,θ r.2.2.2.2.2<=4096)
  (hc:∀v∈KC b.1 c,LK p i j v=ζ->(Pz sp v.1=ζ->P v)/\∀e,(P e\/(e∈KC b.1 c/\LK p i j e=ζ))->e.1=v.1->e=v):
  As (Ai (Wq (a,l,p,i,j) X b (c,E)) (0,W,0,[],0)) λq=>∃m n,q=.inl (m,n,[],0)/\QQ m (λe=>P e\/(e∈KC b.1 c/\LK p i j e=ζ))/\n=(((KC b.1 c).filter λe=>LK p i j e&&Pz sp e.1).length:Int):=by
 have B:∀k:Nat,(KC b.1 (c.take k)).length<=k*4096:=by
  intro k;induction k with
  |zero=>simp[KC]
  |succ k ih=>rw[Co];grind[KC,List.length_append,Nat.succ_mul,Nat.add_le_add]
 refine AW (λ(s:Int×(List (Int×EN)×(Int×(List EN×Int))))=>0<=s.1/\s.1<=θ c/\s.2.2.2=([],0)/\s.2.2.1=(((KC b.1 (c.take s.1.toNat)).filter λe=>LK p i j e&&Pz sp e.1).length:Int)/\QQ s.2.1 λe=>P e\/(e∈KC b.1 (c.take s.1.toNat)/\LK p i j e=ζ)) (λs=>((θ c:Int)-s.1).toNat)
  ⟨Af _,d!,rfl,by simp[KC],hm.congr λe=>by simp[KC]⟩ (λs hI=>?_)
 have⟨d,s2,S,s4⟩:=s;have⟨R,i2,V,C,D⟩:=hI;dsimp only at R i2 V C D;subst V;unfold Wq;dsimp only;refine AC (λo=>?_) (λo=>AB ?_);simp[len]at o;have Y:=AZ (x:=d+1);rw[Y];refine AA (AJ R o) λv G=>?_;have t:c.take (d+1).toNat=c.take d.toNat++[v]:=by rw[show(d+1).toNat=d.toNat+1 by omega,Co,G.1];rfl
 refine AK (λF=>?_) (λF=>AB ⟨⟨d!,d!,rfl,?_,?_⟩,d!⟩);refine AA (AJ R) λad _=>?_;have u:∀e∈v.2.2.2.2.2,e∈KC b.1 c:=λe g=>Gl.2 ⟨v,BU.2 ⟨G.2,F⟩,g⟩;have z:∀e∈KC b.1 (c.take d.toNat),e∈KC b.1 c:=λe g=>by have⟨r,L,M⟩:=Gl.1 g;have⟨N,O⟩:=BU.1 L;exact Gl.2 ⟨r,BU.2 ⟨GH N,O⟩,M⟩
 have K:0<=S/\S<=1099511627776:=by
  have h1:=FF (λe=>LK p i j e&&Pz sp e.1) (KC b.1 (c.take d.toNat));have h2:=B d.toNat
  omega
 have f:KC b.1 (c.take d.toNat++[v])=KC b.1 (c.take d.toNat)++v.2.2.2.2.2:=by grind[KC]
 refine AA (AJI (hr v G.2) Z D K λw hw Q=>?_) ?_;have⟨q1,q2⟩:=hc w (u w hw) Q;refine⟨λh=>.inl (q1 h),λe g H=>q2 e ?_ H⟩;rcases g with(g|⟨g,y⟩)|⟨g,y⟩;exact .inl g;exact .inr ⟨z e g,y⟩;exact .inr ⟨u e g,y⟩;rintro q ⟨m,n,rfl,I,J⟩;refine BK (AB ⟨⟨d!,d!,rfl,?_,?_⟩,d!⟩);dsimp only;rw[t,f,J,C,HY,AY];omega;dsimp only;rw[t,f];refine I.congr λe=>?_;rw[Ak];constructor;rintro((h|⟨h,A⟩)|⟨h,A⟩);exact .inl h;exact .inr ⟨.inl h,A⟩;exact .inr ⟨.inr h,A⟩;rintro(h|⟨h|h,A⟩);exact .inl (.inl h);exact .inl (.inr ⟨h,A⟩);exact .inr ⟨h,A⟩;have f:KC b.1 (c.take d.toNat++[v])=KC b.1 (c.take d.toNat):=by unfold KC;rw[HY,bZ];simp[F]
 dsimp only;rw[t,f];exact C;have f:KC b.1 (c.take d.toNat++[v])=KC b.1 (c.take d.toNat):=by unfold KC;rw[HY,bZ];simp[F]
 dsimp only;rw[t,f];exact D;simp[len]at o;rw[BP o!]at C D;exact⟨s2,S,rfl,D,C⟩
def Xe{l:List EN}:(l.map (·.1)).Nodup->∀{a b:EN},a∈l->b∈l->a.1=b.1->a=b:=by
 induction l with
 |nil=>intro _ a b d;cases d
 |cons p r f=>intro e a b d c h;rw[Bf,GI]at e;rcases Aw.1 d with d|d;rcases Aw.1 c with c|c;rw[d,c];exact N! (by rw[<-d,h];exact Vm c) e.1;rcases Aw.1 c with c|c;exact N! (by rw[<-c,<-h];exact Vm d) e.1;exact f e.2 d c h
def AGO{B:Nat}(j:CP B){l:List EN}(h:θ l<=B)(k:θ l<=16777216)(hn:(l.map (·.1)).Nodup):As (uW C7 l) λr=>r.Perm l/\r.Pairwise λa b=>a.1<b.1:=by
 have n:=List.pairwise_mergeSort (le:=λa b:EN=>decide (a.1<=b.1)) (λa b c o p=>by simp only[K!]at*;omega) (λa b=>by simp only[TU,K!];omega) l;have i:(l.mergeSort λa b:EN=>decide (a.1<=b.1)).Perm l:=List.mergeSort_perm _ _;have g:(l.mergeSort λa b:EN=>decide (a.1<=b.1)).Pairwise λa b=>a.1<=b.1:=n.imp λh=>M! h;have key:∀m,l.Perm m->C7 m ()=δ (l.mergeSort λa b:EN=>decide (a.1<=b.1)):=λm f=>by have d:(m.map (·.1)).Nodup:=(f.map (·.1)).nodup_iff.1 hn;unfold C7 ABm;rw[C! ⟨d,by rw[<-f.length_eq];exact k⟩,<-AAu (key:=λe:EN=>e.1) d (i.trans f) g]
 refine⟨_,?_,i,?_⟩;unfold uW;rw[C!];exact key l (kv l);intro m f;rw[key m f,key l (kv l)];have d:=(i.map (·.1)).nodup_iff.2 hn;rw[I4,S5]at d;exact(g.and d).imp λh=>o!
def wD:∀(n:Nat)(i:Int)(l:List Int),l.Nodup->(∀x∈l,i<x/\x<=i+n)->θ l<=n
 |0,i,l,_,h=>by
  cases l with
  |nil=>exact An _
  |cons a r=>have:=h a (Aw.2 (.inl rfl));omega
 |n+1,i,l,hl,h=>by
  have d:=wD n i (l.erase (i+(n+1:Nat))) (hl.erase _) λx c=>by have b:=(hl.mem_erase_iff).1 c;have:=h x b.2;have:=b.1;omega
  have e:θ l<=(l.erase (i+(n+1:Nat))).length+1:=by rw[List.length_erase];split<;>omega
  omega
def Xu(i:Int)(s:List EN):Prop:=∀(k:Nat)(e:EN),s[k]?=δ e->(k=0->e.2.2.2.2.1<=i)/\∀f,0<k->s[k-1]?=δ f->e.2.2.2.2.1=f.1
def AJG{a:AI}{l:Aa}{p i j:Int}{s:List EN}(O:θ s≤16777216):
  As (Ai (PX (a,l,p,i,j) s) (0,[],0)) λr=>(r=.inl ([],0)/\Xu i s)\/(r=.inr ([],13)/\¬Xu i s):=by
 refine AW (λ(t:Int×(List EN×Int))=>0<=t.1/\t.1<=θ s/\t.2=([],0)/\∀(k:Nat)(e:EN),k<t.1->s[k]?=δ e->(k=0->e.2.2.2.2.1<=i)/\∀f,0<k->s[k-1]?=δ f->e.2.2.2.2.1=f.1) (λt=>((θ s:Int)-t.1).toNat)
  ⟨Af _,d!,rfl,λk e F=>(by dsimp only at F;omega)⟩ (λt K=>?_)
 obtain⟨b,P⟩:=t;obtain⟨C,L,G,D⟩:=K;dsimp only at C L G D;subst G;unfold PX;dsimp only;refine AC (λn=>?_) (λn=>AB (.inl ⟨rfl,λk e d=>D k e ?_ d⟩));simp only[len]at n;have I:=AZ (x:=b+1);rw[I];refine AA (AJ C n) λM _=>AA (AJ C n) λv h=>?_;have o:((b=0->v.2.2.2.2.1<=i)/\∀f,0<b->s[b.toNat-1]?=δ f->v.2.2.2.2.1=f.1)->(0<=b+1/\b+1<=θ s/\(([],0):List EN×Int)=([],0)/\∀(k:Nat)(e:EN),k<b+1->s[k]?=δ e->(k=0->e.2.2.2.2.1<=i)/\∀f,0<k->s[k-1]?=δ f->e.2.2.2.2.1=f.1)/\((θ s:Int)-(b+1)).toNat<((θ s:Int)-b).toNat:=λE=>by
  refine⟨⟨o!,o!,rfl,λk e F d=>?_⟩,o!⟩;by_cases B:(k:Int)<b;exact D k e B d;have H:k=b.toNat:=o!
  subst H;rw[h.1]at d;injection d with d;subst d;exact⟨λy=>E.1 o!,λf y g=>E.2 f o! g⟩
 apply AP<;>intro y;refine AC (λu=>AB (.inr ⟨rfl,λA=>?_⟩)) (λu=>?_);have:=(A b.toNat v h.1).1 o!;omega;refine AC (λm=>N! m o!) (λ_=>AB (o ⟨λ_=>o!,λf g=>N! g o!⟩));refine AC (λu=>?_) (λu=>N! u o!);have w:=AZ (x:=b-1);rw[w];refine AA (AJ) λN _=>AA (AJ) λq z=>?_;have c:s[b.toNat-1]?=δ q:=by rw[show b.toNat-1=(b-1).toNat by omega];exact z.1
 refine AL (λm=>AB (.inr ⟨rfl,λA=>m ((A b.toNat v h.1).2 q o! c)⟩)) (λm=>AB (o ⟨λJ=>N! J y,λf _ g=>?_⟩));rw[c]at g;injection g with g;rw[<-g];exact m;simp only[len]at n;have:=(EP.1 d).1;omega
def AJJ{a:AI}{l:Aa}{p i j:Int}{s:List EN}(b:θ s≤16777216):
  As (Ai (PX (a,l,p,i,j) s) (0,[],0)) λr=>(r=.inl ([],0)/\Xu i s)\/(r=.inr ([],13)/\¬Xu i s):=AJG b
def U2(l:Aa)(low:Int)(rs:List AQ):List (Int×Int):=(l.1,l.1+θ l.2.1-1)::(rs.filter λr=>r.2.2.1==low).map λr=>(r.1,r.2.1)
def zP{a:AI}{l:Aa}{p:Int}{e:Int×(Int×Bool)}{b:List AQ}{d:List Int}(A:Do l)(k:Fm (a,p)=δ e)(B:e.2.2=ζ)(m:HH a=δ (b,d))(s:θ b=θ d)(o:θ b≤256):
  PZ (a,l,p)=δ (U2 l e.1 b):=by
 obtain⟨F,w,y⟩:=RI A;unfold PZ;dsimp only;rw[w,AD,k,AD,B,CM,A!,m,AD,y];have main:As (Ai (TK e (b,d)) (0,([(l.1,l.1+θ l.2.1-1)]:List (Int×Int)))) λr=>r=U2 l e.1 b:=by
  refine AW (λ(t:Int×List (Int×Int))=>0<=t.1/\t.1<=θ b/\θ t.2<=t.1.toNat+1/\t.2=U2 l e.1 (b.take t.1.toNat)) (λt=>((θ b:Int)-t.1).toNat) ⟨Af _,d!,k!,rfl⟩ (λt z=>?_);obtain⟨g,E⟩:=t;obtain⟨n,C,D,j⟩:=z;dsimp only at n C D j;unfold TK;dsimp only;refine AC (λi=>?_) (λi=>AB ?_);simp only[len]at i;have u:=AZ (x:=g+1);rw[u];refine AA (AJ n i) λv h=>?_;have f:b.take (g+1).toNat=b.take g.toNat++[v]:=by rw[show(g+1).toNat=g.toNat+1 by omega,Co,h.1];rfl
  refine AK (λc=>?_) (λc=>AB ⟨⟨d!,d!,d!,?_⟩,d!⟩);refine AA (AJ n) λG _=>AA (Ad (by simp only[Ba,Bb];omega)) λH q=>AB ⟨⟨d!,d!,?_,?_⟩,d!⟩;have:=q.2.1;simp only[Ba,Bb]at this;dsimp only;omega;dsimp only;rw[q.1,j,f];unfold U2;rw[HY,J7,vL (by exact c)];rfl;dsimp only;rw[j,f];unfold U2;rw[HY,vK (by rw[c];decide)];simp;simp only[len]at i;rw[j,BP o!]
 obtain⟨r,q1,q2⟩:=main;rw[q1,AD,q2]
def oh{l:List EN}:(l.map (·.1)).Nodup->l.Nodup:=by
 induction l with
 |nil=>intro _;exact QW
 |cons p r b=>intro a;rw[Bf,GI]at a;exact GI.2 ⟨λh=>a.1 (Vm h),b a.2⟩
def Do.nodup{l:Aa}(h:Do l):(l.2.1.map (·.1)).Nodup:=by obtain⟨l1,l2,i,j,k,a⟩:=h;rw[I4,S5,Gm];intro x y b d c g;have e:=(a x _ (Ar b)).1;have f:=(a y _ (Ar d)).1;omega
def Do.has{l:Aa}(h:Do l){e:EN}(a:e∈l.2.1):Pz (l.1,l.1+θ l.2.1-1) e.1=ζ:=by obtain⟨k,b,a⟩:=Vl.1 a;have c:=(h.2.2.2.2.2 k e (by rw[<-a];exact Ar b)).1;unfold Pz;simp only[BW,K!];omega
structure AG0(l:Aa)(low p i j:Int)(rs:List AQ):Prop where
 fromLog:∀f∈KC low rs,LK p i j f=ζ->Pz (l.1,l.1+θ l.2.1-1) f.1=ζ->f∈l.2.1
 inRuns:∀e∈l.2.1,LK p i j e=ζ->((rs.filter λr=>r.2.2.1==low).any λr=>Pz (r.1,r.2.1) e.1)=ζ->e∈KC low rs
 own:∀r∈rs,∀f∈r.2.2.2.2.2,Pz (r.1,r.2.1) f.1=ζ
 once:((KC low rs).map (·.1)).Nodup
def AJn{B:Nat}{a:AI}{l:Aa}{p i j fl:Int}{c:Int×(Int×Bool)}{b:List AQ}{P:List Int}(U:CP B)(hB:B≤16777216)(ao:j-i≤B)(hi:0≤i)(hj:i≤j)
  (h:VB a) (D:Do l) (hp:0<=p/\p<a.2.1) (L:Fm (a,p)=δ c) (ht:c.2.2=ζ) (N:HH a=δ (b,P)) (w:θ b=θ P) (t:θ b<=256)
  (hr:∀r∈b,θ r.2.2.2.2.2<=4096) (V:MM (U2 l c.1 b,j)=δ fl) (z:AG0 l c.1 p i j b):
  As (HI (a,l,p,i,j)) λr=>(fl>i/\r=([],42))\/(fl<=i/\∃s:List EN,(s.Pairwise λx y=>x.1<y.1)/\(∀e,e∈s↔(e∈l.2.1\/e∈KC c.1 b)/\LK p i j e=ζ)/\((Xu i s/\r=(s,0))\/(¬Xu i s/\r=([],13)))):=by
 have K:=D.nodup;unfold HI;dsimp only;refine AA (Zj (x:=(a,l,p,i)) h D ⟨hp.1,hp.2,hi⟩) λv0 h0=>AL (λk=>N! h0 k) (λ_=>AC (λk=>N! k o!) (λ_=>?_));rw[zP D L ht N w t,AD,V,AD];refine AC (λhf=>AB (.inl ⟨hf,rfl⟩)) (λhf=>AA (AJE D (by simp[U2]) (by have:=FF (λr:AQ=>r.2.2.1==c.1) b;simp only[U2,Ba,BT];omega)) λal H=>?_);rw[L,AD,ht,CM,A!,N,AD];have hP:∀v∈KC c.1 b,LK p i j v=ζ->(Pz (l.1,l.1+θ l.2.1-1) v.1=ζ->(v∈l.2.1/\LK p i j v=ζ))/\∀e,((e∈l.2.1/\LK p i j e=ζ)\/(e∈KC c.1 b/\LK p i j e=ζ))->e.1=v.1->e=v:=λv Z E=>by refine⟨λk=>⟨z.fromLog v Z E k,E⟩,λe u A=>?_⟩;rcases u with⟨u,_⟩|⟨u,_⟩;have ad:=z.fromLog v Z E (by rw[<-A];exact D.has u);exact Xe K u ad A;exact Xe z.once u Z A
 apply AA (AJH (sp:=(l.1,l.1+θ l.2.1-1)) rfl H.2 w t hr hP);rintro q ⟨m,n,rfl,o,hn⟩;apply BK;dsimp only;have f:al.1=n:=by
  rw[H.1,hn];refine E! Int.ofNat (List.Perm.length_eq ?_)
  refine(ma ((oh K).filter _) ((oh z.once).filter _)).2 λe=>?_;rw[BU,BU];simp only[BW];have I:((U2 l c.1 b).tail.any λs=>Pz s e.1)=((b.filter λr=>r.2.2.1==c.1).any λr=>Pz (r.1,r.2.1) e.1):=by unfold U2;rw[List.tail_cons,List.any_map];rfl
  rw[I];constructor;rintro⟨F,G,R⟩;exact⟨z.inRuns e F G R,G,D.has F⟩;rintro⟨F,G,R⟩;obtain⟨r,M,X⟩:=Gl.1 F;exact⟨z.fromLog e F G R,G,pF.2 ⟨r,M,z.own r (BU.1 M).1 e X⟩⟩
 refine AL (λk=>N! f k) (λ_=>?_);have J:∀q∈m,LK p i j q.2=ζ:=λq d=>by
  have:(q.2.1,q.2)∈m:=by rw[<-o.2.1 q d];exact d
  rcases(o.2.2 q.2).1 this with g|g;exact g.2;exact g.2
 have W:θ m<=B:=by
  have:=wD (j-i).toNat i (m.map (·.1)) o.1 λx hx=>by obtain⟨q,d,rfl⟩:=Bs.1 hx;have E:=J q d;have hk:=o.2.1 q d;unfold LK at E;simp only[BW,K!]at E;omega
  rw[BT]at this;omega
 refine AC (λ_=>?_) (λk=>N! k (by show¬ ¬((θ m:Int)<=16777216);omega));have C:((m.map (·.2)).map (·.1))=m.map (·.1):=by rw[Og];exact Mt λq d=>(o.2.1 q d).symm
 refine AA (AGO U (l:=m.map (·.2)) (by rw[BT];exact W) (by rw[BT];omega) (by rw[C];exact o.1)) λs Q=>?_;have Y:θ s=θ m:=by rw[Q.1.length_eq,BT]
 have T:ξ (θ s) (θ m)=ζ:=by rw[Y];exact Hy _
 rw[T,B!];have O:∀e,e∈s↔(e∈l.2.1\/e∈KC c.1 b)/\LK p i j e=ζ:=λe=>by
  rw[Q.1.mem_iff];constructor;intro u;obtain⟨q,d,rfl⟩:=Bs.1 u;have:(q.2.1,q.2)∈m:=by rw[<-o.2.1 q d];exact d
  rcases(o.2.2 q.2).1 this with g|g;exact⟨.inl g.1,g.2⟩;exact⟨.inr g.1,g.2⟩;rintro⟨g,g'⟩;exact Bs.2 ⟨(e.1,e),(o.2.2 e).2 (g.imp (λg=>⟨g,g'⟩) (λg=>⟨g,g'⟩)),rfl⟩
 refine AA (AJJ o!) λr hr=>?_;rcases hr with⟨rfl,S⟩|⟨rfl,S⟩;exact BK (AB (.inr ⟨o!,s,Q.2,O,.inl ⟨S,rfl⟩⟩));exact A4 (AB (.inr ⟨o!,s,Q.2,O,.inr ⟨S,rfl⟩⟩))
def rK{s t:List EN}(c:s.Pairwise λx y=>x.1<y.1)(d:t.Pairwise λx y=>x.1<y.1)(h:∀e,e∈s↔e∈t):s=t:=by have nd:∀{u:List EN},(u.Pairwise λx y=>x.1<y.1)->u.Nodup:=λg=>I4.2 (g.imp λh e=>by rw[e]at h;omega);have f:=(ma (nd c) (nd d)).2 h;exact pC (le:=λa b=>a.1<b.1) (λa b _ _ i j=>o!) c d f
structure bS(L:List EN)(r:AQ):Prop where
 mem:∀e,e∈r.2.2.2.2.2↔e∈L/\im e=ζ/\r.2.2.1<=e.2.2.2.2.2.2.1.1/\e.2.2.2.2.2.2.1.1<=r.2.2.2.1/\r.1<=e.1/\e.1<=r.2.1
 nd:(r.2.2.2.2.2.map (·.1)).Nodup
def ADQ{L:List EN}{l:Aa}{k:List AQ}{b p i j:Int}(a:∀e,e∈l.2.1↔e∈L∧l.1≤e.1∧e.1≤l.1+θ l.2.1-1)(hr:∀r∈k,bS L r)
  (t:∀r∈k,r.2.2.1=b->b<=p/\p<=r.2.2.2.1) (h:(k.filter λr=>r.2.2.1==b).Pairwise λr s=>r.2.1<s.1\/s.2.1<r.1):AG0 l b p i j k where
 fromLog f hf hw hh:=by obtain⟨r,c,g⟩:=Gl.1 hf;have d:=((hr r (BU.1 c).1).mem f).1 g;unfold Pz at hh;simp only[BW,K!]at hh;exact(a f).2 ⟨d.1,o!⟩
 inRuns e o hw ha:=by obtain⟨r,c,g⟩:=pF.1 ha;have d:=BU.1 c;have q:r.2.2.1=b:=eq_of_beq d.2;have A:=t r d.1 q;unfold LK at hw;unfold Pz at g;simp only[BW,K!,J!]at hw g;exact Gl.2 ⟨r,c,((hr r d.1).mem e).2 ⟨((a e).1 o).1,hw.1,o!⟩⟩
 own r hrr f hf:=by have d:=((hr r hrr).mem f).1 hf;unfold Pz;simp only[BW,K!];omega
 once:=by unfold KC;rw[List.map_flatMap,I4,List.pairwise_flatMap];refine⟨λr c=>I4.1 (hr r (BU.1 c).1).nd,?_⟩;refine pB ?_ h;intro r s c g d x u y v o;obtain⟨e,m,rfl⟩:=Bs.1 u;obtain⟨f,n,rfl⟩:=Bs.1 v;have w:=((hr r (BU.1 c).1).mem e).1 m;have z:=((hr s (BU.1 g).1).mem f).1 n;omega
def yS{L:List EN}{d:List AQ}{a p i j:Int}(hr:∀r∈d,bS L r)(n:∀r∈d,r.2.2.1=a→a≤p∧p≤r.2.2.2.1){e:EN}(l:LK p i j e=ζ):
  e∈KC a d↔e∈L/\∃r∈d,r.2.2.1=a/\r.1<=e.1/\e.1<=r.2.1:=by
 unfold LK at l;simp only[BW,K!,J!]at l;constructor;intro h;obtain⟨r,f,b⟩:=Gl.1 h;obtain⟨c,k⟩:=BU.1 f;have g:=((hr r c).mem e).1 b;exact⟨g.1,r,c,eq_of_beq k,g.2.2.2.2.1,g.2.2.2.2.2⟩;rintro⟨f,r,b,c,k,m⟩;have g:=n r b c;exact Gl.2 ⟨r,BU.2 ⟨b,by simp[c]⟩,((hr r b).mem e).2 ⟨f,l.1,o!,o!,k,m⟩⟩
def rT(a:AI)(l:Aa)(low n:Int):Prop:=(l.1<=n/\n<=l.1+θ l.2.1-1)\/∃e∈DZ a,e.1.2.2.1=low/\e.1.1<=n/\n<=e.1.2.1
def AHR{B:Nat}{a:AI}{l:Aa}{L:List EN}{p i j:Int}{c:Int×(Int×Bool)}(N:CP B)(hB:B≤16777216)(O:j-i≤B)(X:0≤i)(Y:i≤j)(hJ:j≤1099511627776)
  (h:VB a) (hd:DS a) (I:Do l) (R:0<=p/\p<a.2.1) (F:Fm (a,p)=δ c) (Z:c.2.2=ζ) (J:L.Pairwise λx y=>x.1<y.1) (b:∀e,e∈l.2.1↔e∈L/\l.1<=e.1/\e.1<=l.1+θ l.2.1-1)
  (hR:∀e∈DZ a,bS L e.1) (w:AFM (DZ a)) (S:∀e∈DZ a,e.1.2.2.1=c.1->c.1<=p/\p<=e.1.2.2.2.1):
  ∃fl,(0<=fl/\fl<=j/\(∀n,fl<n->n<=j->rT a l c.1 n)/\(fl=0\/¬rT a l c.1 fl))/\P9 (a,l,p,i,j)=δ (τ (fl<=i))/\As (HI (a,l,p,i,j)) λr=>(fl>i/\r=([],42))\/(fl<=i/\((Xu i (L.filter (LK p i j))/\r=(L.filter (LK p i j),0))\/(¬Xu i (L.filter (LK p i j))/\r=([],13)))):=by
 obtain⟨q,G,v,D,w2,rfl,w4,w5⟩:=sU h hd (Kl h) w;have m:∀r∈v.map (·.1),∃e∈DZ a,e.1=r:=λr hr=>by obtain⟨e,d,rfl⟩:=Bs.1 hr;exact⟨e,D.mem_iff.1 d,rfl⟩
 have C:∀r∈v.map (·.1),bS L r:=λr hr=>by obtain⟨e,d,rfl⟩:=m r hr;exact hR e d
 have A:∀r∈v.map (·.1),r.2.2.1=c.1->c.1<=p/\p<=r.2.2.2.1:=λr hr=>by obtain⟨e,d,rfl⟩:=m r hr;exact S e d
 have T:((v.map (·.1)).filter λr=>r.2.2.1==c.1).Pairwise λr s=>r.2.1<s.1\/s.2.1<r.1:=by rw[List.filter_map,S5];have Q:v.Pairwise λx y=>x≠y:=I4.1 (D.nodup_iff.2 (Kl h));refine pB ?_ (Q.filter _);intro x y hx hy P;obtain⟨x1,x2⟩:=BU.1 hx;obtain⟨U,V⟩:=BU.1 hy;exact w x (D.mem_iff.1 x1) y (D.mem_iff.1 U) P ((eq_of_beq x2).trans (eq_of_beq V).symm)
 have ad:(U2 l c.1 (v.map (·.1))).length<=257:=by have:=FF (λr:AQ=>r.2.2.1==c.1) (v.map (·.1));rw[BT]at this;simp only[U2,Ba,BT];omega
 have K:SpL (U2 l c.1 (v.map (·.1))):=by refine⟨o!,λs f=>?_⟩;rcases Aw.1 f with f|f;rw[f];exact I.1;obtain⟨r,hr,rfl⟩:=Bs.1 f;obtain⟨e,d,rfl⟩:=Bs.1 (BU.1 hr).1;exact(w5 e d).1
 have k:∀n,yL (U2 l c.1 (v.map (·.1))) n↔rT a l c.1 n:=λn=>by constructor;rintro⟨s,f,o,t⟩;rcases Aw.1 f with f|f;rw[f]at o t;exact .inl ⟨o,t⟩;obtain⟨r,hr,rfl⟩:=Bs.1 f;obtain⟨g1,H⟩:=BU.1 hr;obtain⟨e,d,rfl⟩:=m r g1;exact .inr ⟨e,d,eq_of_beq H,o,t⟩;rintro(⟨o,t⟩|⟨e,d,h0,o,t⟩);exact⟨_,Aw.2 (.inl rfl),o,t⟩;exact⟨(e.1.1,e.1.2.1),Aw.2 (.inr (Bs.2 ⟨e.1,BU.2 ⟨Vm (D.mem_iff.2 d),by simp[h0]⟩,rfl⟩)),o,t⟩
 obtain⟨fl,E,f1,f2,W,f4⟩:=AAA K (u:=j) o! hJ;refine⟨fl,⟨f1,f2,λn o t=>(k n).1 (W n o t),f4.imp id λhh M=>hh ((k fl).2 M)⟩,?_,?_⟩;obtain⟨v0,ev,hv⟩:=Zj (x:=(a,l,p,i)) h I ⟨R.1,R.2,X⟩;unfold P9;dsimp only;rw[ev,AD,beq_iff_eq.2 hv,B!,G! Y,B!,zP I F Z G (by rw[BT,BT]) (by rw[BT];exact w4),AD,E,AD];refine(AJn N hB O X Y h I R F Z G (by rw[BT,BT]) (by rw[BT];exact w4) (λr hr=>?_) E (ADQ b C A T)).mono λr hr=>?_;obtain⟨e,d,rfl⟩:=Bs.1 hr;exact(w5 e d).2.2.2.2.2.2.2.2;rcases hr with hr|⟨hr,s,s1,s2,s3⟩;exact .inl hr;refine .inr ⟨hr,?_⟩;have f:s=L.filter (LK p i j):=rK s1 (J.filter _) λe=>by rw[s2,BU];constructor;rintro⟨g|g,z⟩;exact⟨((b e).1 g).1,z⟩;exact⟨((yS C A z).1 g).1,z⟩;rintro⟨g,z⟩;refine⟨?_,z⟩;have H:=z;unfold LK at H;simp only[BW,K!]at H;rcases(k e.1).1 (W e.1 o! o!)with M|⟨y,U,V,y3,y4⟩;exact .inl ((b e).2 ⟨g,M⟩);exact .inr ((yS C A z).2 ⟨g,y.1,Vm (D.mem_iff.2 U),V,y3,y4⟩)
 rw[<-f];exact s3
def BD.lt{n:Int}{l:List Int}(h:BD n l):∀(d i:Nat)(x y:Int),l[i]?=δ x->l[i+1+d]?=δ y->x<y
 |0,i,x,y,hx,hy=>by have:=C1 hy;exact h.2.2.2.2.2.1 i x y o! hx hy
 |d+1,i,x,y,hx,hy=>by have e:=C1 hy;have a:l[i+1+d]?=δ (l[i+1+d]' o!):=Ar o!;have b:=BD.lt h d i x _ hx a;have c:=h.2.2.2.2.2.1 (i+1+d) _ y o! a q!;omega
def BD.le{n:Int}{l:List Int}(h:BD n l){i j:Nat}{x y:Int}(a:i<=j)(b:l[i]?=δ x)(c:l[j]?=δ y):x<=y:=by
 by_cases e:i=j;grind;obtain⟨d,rfl⟩:∃d,j=i+1+d:=⟨j-(i+1),o!⟩
 have:=h.lt d i x y b c;omega
def BD.mem{n:Int}{l:List Int}(h:BD n l){i:Nat}{x:Int}(a:l[i]?=δ x):0<=x/\x<n:=by have f:=C1 a;have b:l[θ l-1]?=δ (l[θ l-1]' o!):=Ar o!;have c:=h.le (Bc i) h.2.2.2.2.1 a;have d:=h.le (by omega:i<=θ l-1) a b;have e:=h.2.2.2.2.2.2 _ b;omega
def BD.inj{n:Int}{l:List Int}(h:BD n l){i j:Nat}{x:Int}(b:l[i]?=δ x)(c:l[j]?=δ x):i=j:=by
 rcases QX i j with a|a|a;obtain⟨d,rfl⟩:∃d,j=i+1+d:=⟨j-(i+1),o!⟩
 have:=h.lt d i x x b c;omega;exact a;obtain⟨d,rfl⟩:∃d,i=j+1+d:=⟨i-(j+1),o!⟩
 have:=h.lt d j x x c b;omega
def pu(a:AI)(i:Nat):Int:=match a.1[i+1]? with
 |some h=>h-1
 |none=>a.2.1-1
def Kq(a:AI)(lo hi:Int):Prop:=∃i:Nat,a.1[i]?=δ lo/\hi=pu a i
def AD1{a:AI}(h:BD a.2.1 a.1){i:Nat}(c:i<θ a.1):(∀w,a.1[i+1]?=δ w->wi (w-1)=pu a i)/\(θ a.1<=i+1->wi (a.2.1-1)=pu a i):=by refine⟨λw b=>?_,λd=>?_⟩;have:=h.mem b;have:=h.2.1;grind[pu,AZ];have:=h.1;have:=h.2.1;grind[pu,List.getElem?_eq_none,AZ]
def nZ{a:AI}(h:BD a.2.1 a.1){i:Nat}{b:Int}(c:a.1[i]?=δ b):Ey (a,(i:Int))=δ (b,pu a i):=by
 have f:=C1 c;have d:=h.2.2.2.1;have⟨j,k⟩:=AD1 h f;unfold Ey;rw[AZ (x:=(i:Int)+1),(by unfold ix;rw[C! o!,Int.toNat_natCast,c]:ix a.1 (i:Int)=δ b)];by_cases e:i+1<θ a.1;have g:ix a.1 ((i:Int)+1)=δ a.1[i+1]:=by unfold ix;rw[C! o!,show((i:Int)+1).toNat=i+1 by omega,(List.getElem?_eq_getElem e)]
 grind;grind
def yA{a:AI}(h:BD a.2.1 a.1){i:Nat}{b:Int}(c:a.1[i]?=δ b):J8 (a,(i:Int))=δ (b,pu a i):=by
 have f:=C1 c;have d:=h.2.2.2.1;have⟨j,k⟩:=AD1 h f;unfold J8;rw[AZ (x:=(i:Int)+1),(by unfold ix;rw[C! o!,Int.toNat_natCast,c]:ix a.1 (i:Int)=δ b)];by_cases e:i+1<θ a.1;have g:ix a.1 ((i:Int)+1)=δ a.1[i+1]:=by unfold ix;rw[C! o!,show((i:Int)+1).toNat=i+1 by omega,(List.getElem?_eq_getElem e)]
 grind;grind
def rF{a:AI}{r:AQ}(h:BD a.2.1 a.1):As (FY (a,r)) λk=>0<=k↔Kq a r.2.2.1 r.2.2.2.1:=by
 have g:=h.2.2.2.1;refine AA (P:=λq=>(∃k:Int,q=.inl k/\0<=k/\Kq a r.2.2.1 r.2.2.2.1)\/(q=.inr ()/\¬Kq a r.2.2.1 r.2.2.2.1)) ?_ λq p=>?_
 ·refine Cp (λ(s:Int)=>0<=s/\s<=θ a.1/\∀i:Nat,(i:Int)<s->¬(a.1[i]?=δ r.2.2.1/\r.2.2.2.1=pu a i)) (λs=>((θ a.1:Int)-s).toNat) ⟨Af _,o!,λi m=>o!⟩ (λs j=>?_);have⟨e,t,u⟩:=j;unfold HN;dsimp[len];refine AC (λl=>?_) (λl=>As.done (.inr ⟨rfl,?_⟩))
  ·obtain⟨k,rfl⟩:=EE e;rw[nZ h (Ar o!),AD,AZ];have f:¬(a.1[k]?=δ r.2.2.1/\r.2.2.2.1=pu a k)->As (δ (Step.next ((k:Int)+1)):Option (Step Int (Int⊕Unit))) (Nn (λ(s:Int)=>0<=s/\s<=θ a.1/\∀i:Nat,(i:Int)<s->¬(a.1[i]?=δ r.2.2.1/\r.2.2.2.1=pu a i)) (λs=>((θ a.1:Int)-s).toNat) ((θ a.1:Int)-(k:Int)).toNat λq=>(∃k:Int,q=.inl k/\0<=k/\Kq a r.2.2.1 r.2.2.2.1)\/(q=.inr ()/\¬Kq a r.2.2.1 r.2.2.2.1)):=λhn=>by
    refine As.next ⟨o!,o!,λi m=>?_⟩ o!
    grind
   refine AP (λb=>?_) (λb=>f λd=>b ?_)
   ·refine AP (λc=>As.done (.inl ⟨_,rfl,e,k,?_,?_⟩)) (λc=>f λd=>c d.2.symm);grind;grind
   grind
  rintro⟨i,n,o⟩;grind
 grind[BK,AB,A4]
def AEO{a:AI}{r:AQ}(h:BD a.2.1 a.1):As (MU (a,r)) λk=>0<=k↔Kq a r.2.2.1 r.2.2.2.1:=by
 have g:=h.2.2.2.1;refine AA (P:=λq=>(∃k:Int,q=.inl k/\0<=k/\Kq a r.2.2.1 r.2.2.2.1)\/(q=.inr ()/\¬Kq a r.2.2.1 r.2.2.2.1)) ?_ λq p=>?_
 ·refine Cp (λ(s:Int)=>0<=s/\s<=θ a.1/\∀i:Nat,(i:Int)<s->¬(a.1[i]?=δ r.2.2.1/\r.2.2.2.1=pu a i)) (λs=>((θ a.1:Int)-s).toNat) ⟨Af _,o!,λi m=>o!⟩ (λs j=>?_);have⟨e,t,u⟩:=j;unfold Qf;dsimp[len];refine AC (λl=>?_) (λl=>As.done (.inr ⟨rfl,?_⟩))
  ·obtain⟨k,rfl⟩:=EE e;rw[yA h (Ar o!),AD,AZ];have f:¬(a.1[k]?=δ r.2.2.1/\r.2.2.2.1=pu a k)->As (δ (Step.next ((k:Int)+1)):Option (Step Int (Int⊕Unit))) (Nn (λ(s:Int)=>0<=s/\s<=θ a.1/\∀i:Nat,(i:Int)<s->¬(a.1[i]?=δ r.2.2.1/\r.2.2.2.1=pu a i)) (λs=>((θ a.1:Int)-s).toNat) ((θ a.1:Int)-(k:Int)).toNat λq=>(∃k:Int,q=.inl k/\0<=k/\Kq a r.2.2.1 r.2.2.2.1)\/(q=.inr ()/\¬Kq a r.2.2.1 r.2.2.2.1)):=λhn=>by
    refine As.next ⟨o!,o!,λi m=>?_⟩ o!
    grind
   refine AP (λb=>?_) (λb=>f λd=>b ?_)
   ·refine AP (λc=>As.done (.inl ⟨_,rfl,e,k,?_,?_⟩)) (λc=>f λd=>c d.2.symm);grind;grind
   grind
  rintro⟨i,n,o⟩;grind
 grind[BK,AB,A4]
def Good(a:AI)(f:Aq)(r:AQ):Prop:=f.1=1/\f.2.2=My r/\VR r/\Kq a r.2.2.1 r.2.2.2.1
def Bad(f:Aq):Prop:=θ f.2.2<=1099511627776/\∀r,WR r->f.2.2≠My r
def Good.intact{a:AI}{f:Aq}{r:AQ}(h:Good a f r)(e:BD a.2.1 a.1):Gu (a,f)=δ (r,ζ):=by have⟨b,c,d,g⟩:=h;have⟨k,k1,i⟩:=AEO (r:=r) e;unfold Gu;rw[b,c,H!,A!,AII d,AD,show(((r,(0:Int)):AQ×Int).2==0)=ζ from rfl,B!];grind
def Good.intR{a:AI}{f:Aq}{r:AQ}(h:Good a f r)(b:BD a.2.1 a.1):intR a f=δ (r,f.2.1):=by unfold Go.Pm.intR;rw[h.intact b]
def Good.ref{a:AI}{f:Aq}{r:AQ}(h:Good a f r)(g:BD a.2.1 a.1):∃k,DH (a,f)=δ (r,k)/\0<=k:=by have⟨b,c,d,e⟩:=h;have⟨k,k1,i⟩:=rF (r:=r) g;refine⟨k,?_,i.2 e⟩;unfold DH;rw[b,c,H!,A!,xZ d,AD,show(((r,(0:Int)):AQ×Int).2 !=0)=η from rfl,A!];grind
def Bad.intR{a:AI}{f:Aq}(h:Bad f)(d:BD a.2.1 a.1):intR a f=ε:=by
 have key:As (Gu (a,f)) λr=>r.2=η:=by exact AL (λ_=>AB rfl) (λ_=>AA (AIJ h.1) λv b=>AP (λc=>N! (b c).1 (h.2 _ (b c).2)) (λ_=>AB rfl))
 have⟨⟨r,o⟩,k1,e⟩:=key;grind[Go.Pm.intR]
def Bad.ref{a:AI}{f:Aq}(h:Bad f):∃r,DH (a,f)=δ (r,-1):=by
 have key:As (DH (a,f)) λr=>r.2= -1:=by exact AL (λ_=>AB rfl) (λ_=>AA (AIU h.1) λv b=>AL (λ_=>AB rfl) (λc=>N! (b c).1 (h.2 _ (b c).2.wr)))
 have⟨⟨r,o⟩,k1,d⟩:=key;grind
def tP{x y:AQ}(b:VR x)(c:VR y)(h:My x=My y):x=y:=by have a:=xZ b;rw[h,xZ c]at a;injection a with a;exact(Prod.ext_iff.1 a).1.symm
structure AR(L:List EN)(a:AI):Prop where
 vb:VB a
 files:∀f∈a.2.2.1,Bad f\/∃r,Good a f r/\bS L r/\r.2.1<a.2.2.2.1
 dis:AFM (DZ a)
def AG(a:AI):Prop:=∀f∈a.2.2.1,∃r,Good a f r
def RC(a:AI)(c:Nat):Prop:=∀lo,((DZ a).filter λe=>e.1.2.2.1==lo).length<=c
def iC{b:Type}:∀(l m:List b),l.Nodup->(∀x∈l,x∈m)->θ l<=θ m
 |[],m,_,_=>Bc _
 |a::l,m,hn,hs=>by
  obtain⟨s,t,rfl⟩:=List.append_of_mem (hs a (Aw.2 (.inl rfl)));rw[GI]at hn;have:=iC l (s++t) hn.2 λx c=>q!
  grind
def AR.mem{L:List EN}{a:AI}(h:AR L a){e:NE}(g:e∈DZ a):∃f∈a.2.2.1,Good a f e.1/\e.2=f.2.1/\bS L e.1/\e.1.2.1<a.2.2.2.1:=by have⟨f,i,b⟩:=Oi.1 g;rcases h.files f i with d|⟨r,c,j,k⟩;rw[d.intR h.vb.1]at b;cases b;rw[c.intR h.vb.1]at b;grind
def Po{a:AI}(b:BD a.2.1 a.1){f:Aq}{r:AQ}(c:f∈a.2.2.1)(h:Good a f r):(r,f.2.1)∈DZ a:=by exact Oi.2 ⟨f,c,h.intR b⟩
def Good.size{a:AI}{f:Aq}{r:AQ}(h:Good a f r):θ f.2.2<=34406441:=by rw[h.2.1];exact h.2.2.1.len
def AR.sa{L:List EN}{a:AI}(h:AR L a):SA a:=by have⟨⟨g,i,j,b,k,l,m⟩,a1,a2,a3,a4,a5,a6⟩:=h.vb;refine⟨b,o!,λf e=>?_⟩;rcases h.files f e with d|⟨r,c,_⟩;exact d.1;have:=c.size;omega
def AR.ds{L:List EN}{a:AI}(h:AR L a):DS a:=λf b=>by have:=h.sa.2.2 f b;omega
def Kq.uniq{a:AI}(e:BD a.2.1 a.1){d b c:Int}(p:Kq a d b)(q:Kq a d c):b=c:=by obtain⟨i,f,g⟩:=p;obtain⟨j,h,k⟩:=q;have:=e.inj f h;subst this;rw[g,k]
def zf{l:List EN}{e:EN}(h:θ l<=16777000):As (DF (l,e)) λr=>θ r.1<=θ l+1/\((∀y,y∈r.1↔y∈l\/y=e)\/(r.1=l/\∃z∈l,z.1=e.1)):=by
 unfold DF;refine AA (QD (x:=(l,e)) ⟨Af _,o!,d!⟩) λp g=>?_;dsimp only at g⊢;have main:As (σ (W7 l 0 p) λi=>
  σ (W7 l p (len l)) λj=>
  σ (app [] i) λk=>
  σ (app k ([e]:List (Int×(Int×(Int×(Int×(Int×(Int×((Int×(Int×((Bool×BX)×(Bool×BX))))×BX))))))))) λv=>
  σ (app v j) λw=>
  δ (w,ζ)) λr=>θ r.1<=θ l+1/\((∀y,y∈r.1↔y∈l\/y=e)\/(r.1=l/\∃z∈l,z.1=e.1)):=by
  refine AA (Bn (Af _) g.1 g.2) λt a=>AA (Bn g.1 (by simp[len];omega) i!) λu n=>?_;have B:=a.2;have o:=n.2;simp[len]at o;refine AA (Ad w!) λi b=>?_;have q:=b.2.1;simp[Bb]at q;refine AA (Ad w!) λj d=>?_;have s:=d.2.1;simp[Bb,Ba]at s;refine AA (Ad o!) λk f=>AB ?_;have C:=f.2.1;refine⟨d!,.inl λy=>?_⟩;have m:t=l.take p.toNat:=by rw[a.1];simp
  dsimp only;rw[f.1,d.1,b.1,m,(by grind[List.take_of_length_le,List.length_drop]:u=l.drop p.toNat),B4];conv=>rhs;rw[<-Dr p.toNat l]
  grind[List.mem_singleton]
 refine AC (λA=>?_) (λ_=>main);simp[len]at A;refine AA (AJ g.1 A) λD H=>?_;have⟨c,E,F,G⟩:=AG6 D e;grind[AP,AA,AJ,AB]
def Uq(L:List EN):Prop:=∀x∈L,∀y∈L,x.1=y.1->x=y
theorem nW{L l:List EN}{e:EN}(c:Uq L)(f:∀x∈l,x∈L)(d:e∈L)(h:θ l<=16777000):As (DF (l,e)) λr=>θ r.1<=θ l+1/\∀y,y∈r.1↔y∈l\/y=e:=by
 refine(zf h).mono λr hr=>⟨hr.1,?_⟩
 rcases hr.2 with hr|⟨b,z,a,i⟩;exact hr;have:=c z (f z a) e d i;subst this;intro y;rw[b];exact⟨.inl,λg=>g.elim id λh=>h▸a⟩
def VR.sorted{r:AQ}(h:VR r):r.2.2.2.2.2.Pairwise ltC:=by
 rw[Gm];have step:∀d i:Nat,∀(a:i<θ r.2.2.2.2.2)(b:i+1+d<θ r.2.2.2.2.2),ltC r.2.2.2.2.2[i] r.2.2.2.2.2[i+1+d]:=by
  intro d;induction d with
  |zero=>intro i a b;exact((h.2 (i+1) _ (Ar b)).2.2 _ o! (Ar a)).1
  |succ d e=>intro i a b;exact ACb (e i a o!) (((h.2 (i+1+(d+1)) _ (Ar b)).2.2 _ o! (Ar (by omega:i+1+d<_))).1)
 intro i j a b c;have:=step (j-(i+1)) i a o!;simp[(by omega:i+1+(j-(i+1))=j)]at this;exact this
def VR.nd{L:List EN}{r:AQ}(b:Uq L)(h:VR r)(a:∀e∈r.2.2.2.2.2,e∈L):(r.2.2.2.2.2.map (·.1)).Nodup:=by rw[I4,S5];refine h.sorted.imp_of_mem λ{x y} f g d c=>?_;have:=b x (a x f) y (a y g) c;grind[AAN]
def VR.runOf{L:List EN}{r:AQ}(b:Uq L)(h:VR r)(a:∀e,e∈r.2.2.2.2.2↔e∈L/\im e=ζ/\r.2.2.1<=e.2.2.2.2.2.2.1.1/\e.2.2.2.2.2.2.1.1<=r.2.2.2.1/\r.1<=e.1/\e.1<=r.2.1):bS L r:=⟨a,h.nd b λe c=>((a e).1 c).1⟩
def ABF{v:EN}:im v=ζ↔v.2.1=1\/v.2.1=2:=by grind[im]
def AFP{L d:List EN}{F T g f i:Int}(C:Uq L)(B:∀e∈d,e∈L)(H:θ d≤16777000):
  As (Ai (J4 (d,F,T,g,f,i)) (η,0,F,T,g,f,i,[])) λr=>∃a:List EN,r.2=(F,T,g,f,i,a)/\θ a<=θ d/\∀y,y∈a↔y∈d/\im y=ζ/\g<=y.2.2.2.2.2.2.1.1/\y.2.2.2.2.2.2.1.1<=f/\F<=y.1/\y.1<=T:=by
 refine Cp (λ(s:Bool×(Int×AQ))=>∃(k:Nat)(a:List EN),s.2=((k:Int),F,T,g,f,i,a)/\k<=θ d/\θ a<=k/\∀y,y∈a↔y∈d.take k/\im y=ζ/\g<=y.2.2.2.2.2.2.1.1/\y.2.2.2.2.2.2.1.1<=f/\F<=y.1/\y.1<=T) (λs=>θ d-s.2.1.toNat)
  ⟨0,[],rfl,Bc _,An _,λy=>k!⟩ ?_
 rintro⟨M,K⟩ ⟨k,a,rfl,I,J,n⟩;unfold J4;dsimp only;simp only[len];refine AC (λw=>?_) (λw=>As.done ⟨a,rfl,o!,by rw[BP o!]at n;exact n⟩);refine AA (AJ o! w) λv l=>?_;have A:=l.1;rw[Cz]at A;have q:d.take (k+1)=d.take k++[v]:=by rw[Co,A];rfl
 rw[AZ]
 have c:∀m:Bool,¬(im v=ζ∧g≤v.2.2.2.2.2.2.1.1∧v.2.2.2.2.2.2.1.1≤f∧F≤v.1∧v.1≤T)→
   As (δ (Step.next (m,(k:Int)+1,F,T,g,f,i,a)):Option (Step (Bool×(Int×AQ)) (Bool×AQ))) (Nn (λ(s:Bool×(Int×AQ))=>∃(k:Nat)(a:List EN),s.2=((k:Int),F,T,g,f,i,a)/\k<=θ d/\θ a<=k/\∀y,y∈a↔y∈d.take k/\im y=ζ/\g<=y.2.2.2.2.2.2.1.1/\y.2.2.2.2.2.2.1.1<=f/\F<=y.1/\y.1<=T) (λs=>θ d-s.2.1.toNat) (θ d-((k:Nat):Int).toNat)
    λr=>∃a:List EN,r.2=(F,T,g,f,i,a)/\θ a<=θ d/\∀y,y∈a↔y∈d/\im y=ζ/\g<=y.2.2.2.2.2.2.1.1/\y.2.2.2.2.2.2.1.1<=f/\F<=y.1/\y.1<=T):=λm hn=>by
  refine As.next ⟨k+1,a,rfl,o!,o!,λy=>?_⟩ d!
  grind[List.mem_singleton]
 refine AA CK λb u=>AO (λz=>c _ λj=>?_) (λD=>?_);rw[u.2 (ABF.1 j.1)]at z;cases z;refine AC (λ_=>c _ λj=>o!) (λq2=>AC (λ_=>c _ λj=>o!) (λq3=>AC (λ_=>c _ λj=>o!) (λq4=>AC (λ_=>c _ λj=>o!) (λq5=>AA (Rj ⟨Af _,d!⟩) λG _=>AA (nW C (λx E=>B x (GH ((n x).1 E).1)) (B v l.2) o!) λt o=>As.next ⟨k+1,t.1,rfl,o!,o!,λy=>?_⟩ d!))))
 rw[o.2,n,q,Ak,BA];constructor;rintro(⟨h,p⟩|h);exact⟨.inl h,p⟩;subst h;exact⟨.inr rfl,ABF.2 (u.1 D),o!⟩;rintro⟨h|h,p⟩;exact .inl ⟨h,p⟩;exact .inr h
def AHT{L c:List EN}{F T h g j:Int}(n:Uq L)(q:∀e∈c,e∈L)(p:θ c<=16777000):As (Jc (c,F,T,h,g,j)) λr=>r.2=0->VR r.1/\∃b:List EN,r.1=(F,T,h,g,j,b)/\∀y,y∈b↔y∈c/\im y=ζ/\h<=y.2.2.2.2.2.2.1.1/\y.2.2.2.2.2.2.1.1<=g/\F<=y.1/\y.1<=T:=by unfold Jc;refine AA If λw _=>AO (λ_=>AB λa=>N! (show(1:Int)=0 from a) g!) (λ_=>?_);refine AA (Ri ⟨Af _,d!⟩) λx m=>BG (λu i=>AB λa=>N! a (m u i)) (λu i=>AA (AFP n q p) λs d=>?_);have⟨b,k,v,l⟩:=d;refine AK (λ_=>AB λa=>N! (show(41:Int)=0 from a) g!) (λ_=>?_);refine AC (λ_=>AB λa=>N! (show(21:Int)=0 from a) g!) (λ_=>?_);refine AA Xj λt f=>AO (λ_=>AB λa=>N! (show(13:Int)=0 from a) g!) (λo=>AB λ_=>⟨f.1 o,b,k,l⟩)
end Go.Pm
