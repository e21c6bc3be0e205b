/- Parts of the proof; nothing is assumed. -/
import Derived.Test.YtdbincbpjobdpaaGreatK7
import Derived.Sort.AssemblyPlain
import Derived.KernelRfl
noncomputable section
set_option linter.all false
set_option maxHeartbeats 1000000
open Option renaming some->Z
open List renaming length->W
open Go renaming Ψ->S
open Bool renaming false->X
open Bool renaming true->E
open Option renaming none->D
open Go renaming Ω->V
open Option renaming some->δ,none->ε,bind->σ
open Bool renaming true->ζ,false->η
open List renaming length->θ
open Go.IntKind renaming wrap->ι
open BitVec renaming ofInt->κ,toNat->π
open Nat renaming beq->ξ
open Int renaming toNat->ο
open Decidable renaming decide->τ
open _root_ renaming Int->Y,Nat->U,List->R,Array->Q,Bool->N,True->M,cond->z
open Go.Ab renaming len->O
namespace Go.Pm
open Go Go.Ab
def ABX{a v i:Y}(f:0≤i)(c:i<8)(e:0≤a)(b:a<2^(8*ο i))(g:0≤v)(d:v<256):
  0<=ι .u64 (((π ((κ 64 a)|||(κ 64 (ι .u64 ((ι .u64 v)*(2^(min (ο (wi (8*i))) 64))))))):U):Y)/\
  ι .u64 (((π ((κ 64 a)|||(κ 64 (ι .u64 ((ι .u64 v)*(2^(min (ο (wi (8*i))) 64))))))):U):Y)<2^(8*(wi (i+1)).toNat):=by
 have h:=zf f c e b g d;rw[(by rw[(AY),Xe];omega:ι .u64 (wi (8*i))=wi (8*i))]at h;exact h
def AHZ{n:Y}(h:n<=1):(2:Y)^(8*ο n)<=256:=by
 have:ο n=0\/ο n=1:=o!
 rcases this with h|h<;>rw[h]<;>decide
def Jl{x:Bd×Y×Y}(h:W x.1<=2199023255552):An (B0 x) λr=>(r.2=0->0<=x.2.1/\x.2.1+x.2.2<=W x.1/\(x.2.2<=4->0<=r.1/\r.1<4294967296)/\(x.2.2<=1->r.1<256))/\(r.2≠0->r.1=0):=by
 unfold B0;refine AC (y? ⟨n!,λ_=>rfl⟩) (λo=>AC (y? ⟨n!,λ_=>rfl⟩) (λp=>AC (y? ⟨n!,λ_=>rfl⟩) (λq=>AC (y? ⟨n!,λ_=>rfl⟩) (λf=>?_))));simp[O]at f⊢;rw[(AY (x:=(W x.1:Y)-x.2.1))];refine AC (y? ⟨n!,λ_=>rfl⟩) (λt=>AA (P:=λr=>0<=r/\r<2^(8*x.2.2.toNat)) ?_ λA y=>AB ⟨λ_=>⟨o!,o!,λg=>?_,λc=>?_⟩,λb=>O! rfl b⟩);refine AW (λs=>0<=s.2/\s.2<=x.2.2/\0<=s.1/\s.1<2^(8*s.2.toNat)) (λs=>(x.2.2-s.2).toNat) ⟨Ae _,d!,Ae _,u!⟩ (λs j=>?_);have⟨m,z,d,e⟩:=j;unfold VS;refine AC (λk=>?_) (λk=>AB ⟨d,?_⟩);rw[(AY (x:=x.2.1+s.2))];refine AA (Ru o! o!) λn c=>AC (λl=>?_) (y? ?_);grind[AY];have⟨u,w⟩:=ABX (a:=s.1) (v:=n) (i:=s.2) m o! d e c.1 c.2;grind[AY];have:s.2=x.2.2:=o!
 rw[<-this];exact e;have:=ACe g;grind[AY];have:=AHZ c;grind[AY]
def rl(a:BitVec 32):0<=ι .u32 (((π (a&&&κ 32 15):U)):Y)/\ι .u32 (((π (a&&&κ 32 15):U)):Y)<16:=by grind[xT,BitVec.toNat_and,κ,Nat.and_le_right]
def lL{x}:An (LV x) λr=>M:=by unfold LV;refine AA (P:=λ_=>M) ?_ λv _=>AB trivial;refine AW (λs=>0<=s.1/\s.1<=16) (λs=>(16-s.1).toNat) ⟨Ae _,g!⟩ (λs a=>?_);have⟨c,d⟩:=a;unfold V9;refine AC (λb=>?_) (y? trivial);refine AA (P:=λ_=>M) ?_ λg _=>?_;refine AW (λs=>0<=s.2/\s.2<=4) (λs=>(4-s.2).toNat) ⟨Ae _,d!⟩ (λs a=>?_);have⟨e,f⟩:=a;unfold Lv;rw[(AY (x:=s.2+1))];refine AC (λb=>?_) (y? trivial);refine AA (P:=λ_=>M) (AK (y? trivial) (y? trivial)) λv _=>AB ⟨d!,d!⟩;rw[(AY (x:=s.1+1))];refine AA (De c b) λh _=>AA (De c b) λi _=>AB ⟨d!,d!⟩
theorem wC{x:Bd}(h:θ x<=2199023255552):An (O9 x) λr=>M:=by unfold O9;refine AA lL λe _=>AA (P:=λ_=>M) ?_ λv _=>AB trivial;refine AW (λ(s:Y×Y)=>0<=s.2/\s.2<=θ x) (λ(s:Y×Y)=>((θ x:Y)-s.2).toNat) ⟨Ae _,d!⟩ (λs b=>?_);have⟨c,d⟩:=b;unfold VT;rw[(AY (x:=s.2+1))];refine AC (λa=>?_) (λ_=>AB trivial);simp[O]at a;refine AA (Ru c a) λf _=>AA (De (rl _).1 (rl _).2) λg _=>AA (De (rl _).1 (rl _).2) λi _=>AA (De (rl _).1 (rl _).2) λj _=>AA (De (rl _).1 (rl _).2) λk _=>AB ⟨d!,d!⟩
theorem aV{x:Bd×Y}(h:W x.1<=2199023255552):An (Dq x) λr=>r.2.2=0->W r.1<=8392/\x.2+8+W r.1=r.2.1/\0<=x.2/\r.2.1<=W x.1:=by unfold Dq;refine AC (y? n!) (λg=>AC (y? n!) (λe=>?_));simp[O]at e;refine AA (Jl h) λd f=>AL (λb=>AB λa=>O! a b) (λc=>?_);have⟨a1,a2,a3,_⟩:=f.1 c;have a5:=a3 d!;dsimp only at a2;refine AC (y? n!) (λi=>?_);rw[(AY (x:=x.2+4)),AY (x:=x.2+4+d.1),(AY (x:=x.2+4+d.1+4))];refine AA (Jl h) λk j=>?_;grind[AL,AB,AA,CW,wC]
def kD{x}:An (FL x) λr=>M:=by unfold FL El;refine AA (P:=λ_=>M) ?_ λv _=>AB trivial;refine AC (λa=>?_) (y? trivial);simp[O]at a;exact AA (CW (Ae _) i! b!) λv _=>AB trivial
def RB(b:Fx):Prop:=W b.1<=2199023255552/\0<=b.2.1/\b.2.1<=W b.1
def Df{b}{x:Y}(h:RB b)(j:1<=x/\x<=8):An (CD b x) λr=>RB r.2/\(x<=4->0<=r.1/\r.1<4294967296):=by have⟨a1,a2,a3⟩:=id h;unfold CD;refine AL (y? ⟨h,λ_=>d!⟩) (λ_=>AA (Jl (by exact a1)) λf a=>?_);dsimp only at a;refine AA (P:=λr=>RB r) ?_ λk d=>AB ⟨d,λe=>?_⟩;refine AO (λc=>AB ?_) (y? ⟨a1,a2,a3⟩);have⟨g,i,_⟩:=a.1 c;rw[AY];exact⟨a1,d!⟩;by_cases c:f.2=0<;>grind
theorem WB{b}{x:Y}(h:RB b)(n:0<=x/\x<4294967296):An (FH b x) λr=>RB r.2:=by have⟨a1,a2,a3⟩:=id h;unfold FH;refine AO (λd=>?_) (λl=>?_);rw[(AY (x:=O b.1-b.2.1) b!)];refine AA (P:=λr=>RB r/\(r.2.2=0->r.2.1+x<=W r.1)) ?_ λe j=>?_;refine AC (y? ⟨⟨a1,a2,a3⟩,λd=>O! d u!⟩) (λk=>AB ⟨h,λ_=>?_⟩);simp[O]at k;omega;have⟨⟨c,f,g⟩,i⟩:=j;refine AL (y? ⟨c,f,g⟩) (λa=>?_);have m:=i a;rw[(AY (x:=e.2.1+x)),(AY (x:=e.2.1+x-x))];exact AA (CW) λo _=>AB ⟨c,d!⟩;grind[AL,AB]
def WA{b}{x}(h:RB b):An (FG b x) λr=>RB r.2:=by unfold FG;refine AA (Df h g!) λc a=>AL (y? a.1) (λ_=>AO (y? a.1) (λ_=>?_));have q:=a.2 g!;refine AC (y? a.1) (λ_=>?_);grind[AA,WB,AB]
theorem qv{x:Bd}(h:W x<=2199023255552):An (Jy x) λr=>M:=by unfold Jy;refine AA (Df (b:=(x,0,0)) ⟨h,Ae _,d!⟩ g!) λs c=>AA (Df c.1 g!) λt d=>AA (Df d.1 g!) λu f=>AA (Df f.1 g!) λv g=>AA (Df g.1 g!) λw i=>AA (Df i.1 g!) λy j=>AA (Df j.1 g!) λz k=>AA (Df k.1 g!) λA l=>AA (WA l.1) λB m=>AA (WA m) λC n=>AA (Df n g!) λo a=>AA (WB a.1 (a.2 g!)) λp e=>AL (y? trivial) (λ_=>AL (y? trivial) (λ_=>AA Kj λq _=>AP (y? trivial) (y? trivial)))
theorem Sm{x}:An (EJ x) λr=>M:=by unfold EJ Fy;refine BJ (BJ ?_);refine AK (λ_=>AK (y? trivial) (y? trivial)) (λ_=>AK (y? trivial) (λ_=>AC (y? trivial) (λ_=>AC (y? trivial) (y? trivial))))
theorem ul{x:R Y}(h:θ x<=16777216):An (Kx x) λr=>M:=by unfold Kx;refine AA (P:=λ_=>M) ?_ λv _=>BH (λ_ _=>AB trivial) (λ_ _=>AB trivial);refine AW (λ(s:Y)=>0<=s/\s<=θ x) (λ(s:Y)=>((θ x:Y)-s).toNat) ⟨Ae _,o!⟩ (λs a=>?_);have⟨c,d⟩:=a;unfold Ki;rw[(AY (x:=s+1))];refine AC (λb=>?_) (λ_=>AB trivial);grind[AA,AI,AL,AB]
def pV{x}:An (Mt x) λr=>r=E->1<=x.1/\x.1<=x.2.1/\x.2.1<=1099511627776/\0<=x.2.2.1/\x.2.2.1<=x.2.2.2.1/\x.2.2.2.1<64/\0<=x.2.2.2.2.1/\x.2.2.2.2.1<=8:=by
 unfold Mt;exact x!
def pR{x}:An (BE x) λr=>M:=by grind[BE,AO,AB]
def tF{x}:An (QQ x) λr=>M:=by unfold QQ;refine AA pR λv _=>AK (λ_=>?_) (y? trivial);refine AC (λ_=>?_) (y? trivial);refine AC (λ_=>?_) (y? trivial);exact AC (y? trivial) (y? trivial)
def qw{x}:An (O4 x) λr=>M:=by unfold O4;grind[AA,Sm,ul,AB]
def un{x:AQ}:An (Vj x) λr=>r=ζ->ak x:=by
 unfold Vj;refine AA pV λj d=>AP (λ_=>AB λb=>by cases b) (λa=>?_);have hn:=d a;refine AC (λ_=>AB λb=>by cases b) (λf=>?_);simp[O]at f;have q:ak x:=⟨hn.1,hn.2.1,hn.2.2.1,hn.2.2.2.1,hn.2.2.2.2.1,hn.2.2.2.2.2.1,hn.2.2.2.2.2.2.1,hn.2.2.2.2.2.2.2,o!⟩
 refine AA (P:=λ_=>M) ?_ λv _=>BH (λ_ _=>AB λ_=>q) (λ_ _=>AB λ_=>q);refine AW (λ(s:Y)=>0<=s/\s<=θ x.2.2.2.2.2) (λ(s:Y)=>((θ x.2.2.2.2.2:Y)-s).toNat) ⟨Ae _,o!⟩ (λs e=>?_);have⟨h,i⟩:=e;unfold Tj;rw[(AY (x:=s+1)),(AY (x:=s-1))];refine AC (λa=>?_) (λ_=>AB trivial);simp[O]at a;have c:((0<=s+1/\s+1<=θ x.2.2.2.2.2)/\((θ x.2.2.2.2.2:Y)-(s+1)).toNat<((θ x.2.2.2.2.2:Y)-s).toNat):=⟨o!,o!⟩
 refine AA (AI h a) λk _=>AA Kj λl _=>AP (λ_=>AB trivial) (λ_=>AA tF λm _=>AP (λ_=>AB trivial) (λ_=>AO (λ_=>AC (λ_=>AB trivial) (λ_=>AB c)) (λg=>AA (AI) λn _=>AC (λ_=>AC (λ_=>AB trivial) (λ_=>AB c)) (λ_=>AA (AI) λo _=>AA qw λp _=>AC (λ_=>AB trivial) (λ_=>AL (λ_=>AB trivial) (λ_=>AB c))))))
def tE{x:Bd}(h:θ x<=2199023255552):An (LG x) λr=>r.2=0->ak r.1:=by
 unfold LG;refine AA (aV (by exact h)) λp k=>AL (λf=>AB λa=>O! a f) (λg=>?_);have⟨a1,a2,a3,a4⟩:=k g;dsimp only at a1 a2 a3 a4;refine AL (λ_=>AB n!) (λl=>AA kD λy _=>AP (λ_=>AB n!) (λ_=>?_));have b:θ p.1<=2199023255552:=o!
 refine AA (Jl b) λz _=>AA (Jl b) λA _=>AA (Jl b) λB _=>AA (Jl b) λC _=>AA (Jl b) λD_ _=>AA (Jl b) λi _=>AP (λ_=>AB n!) (λm=>?_);have n:i.1<=4096:=by simpa using m
 refine AA (P:=λr=>∀u,r=.inl u->u.1≠0) ?_ λr hr=>BH (λu c=>AB λa=>O! a (hr u c)) (λu c=>?_);refine AW (λ(s:Y×(Y×(R AE×(Y×(Y×(Y×(Y×(Y×AQ))))))))=>0<=s.2.1/\(s.2.1<=i.1\/s.2.1=0)/\θ s.2.2.1<=s.2.1) (λ(s:Y×(Y×(R AE×(Y×(Y×(Y×(Y×(Y×AQ))))))))=>(i.1-s.2.1).toNat) ⟨Ae _,.inr rfl,q!⟩ (λs o=>?_);have⟨t,v,w⟩:=o;unfold LM;refine AC (λj=>?_) (λ_=>AB λu c=>by cases c);have e:=AY (x:=s.2.1+1);grind[AA,aV,AL,AB,qv,AZ,List.length_cons,List.length_nil];refine AC (λ_=>AB n!) (λ_=>AA un λq d=>AP (λ_=>AB n!) (λj=>AB λ_=>d j))
abbrev EN:=AE
def AA3(x y:Y):EJ (x,y)=Z (if x<y then-1 else if x>y then 1 else 0):=by unfold EJ Fy;simp only[H!,AD,A!];by_cases a:x<y;simp[a];by_cases b:x>y;simp[a,b];simp[a,b]
theorem oX{x:Y}(h:0<=x/\x<=1099511627776:=by omega):wi x=x:=AY
theorem wip{i:U}(h:i<=16777216:=by omega):wi ((i:Y)+1)=((i+1:U):Y):=by grind[oX]
def wim{i:U}(h:i<=16777216:=by omega):wi ((i:Y)-1)=(i:Y)-1:=by grind[AY]
def bl8(n:U):U:=if n=0 then 0 else if n<2 then 1 else if n<4 then 2 else if n<8 then 3 else if n<16 then 4 else if n<32 then 5 else if n<64 then 6 else if n<128 then 7 else 8
def qU{n:U}(h:n<256):bl8 n<=8/\(1<=n->2^bl8 n<=2*n):=by grind[bl8]
def T8:Bd:=(List.range 256).map λn=>UInt8.ofNat (bl8 n)
def ALN{n:U}(h:n<256):six T8 (n:Y)=Z ((bl8 n:U):Y):=by have a:=(qU h).1;unfold six T8;simp[h];omega
noncomputable def Lz(x:Y):V Y:=
 σ ((
   z (τ (x>=4294967296)) (Z ((Int.fdiv x (2^(min (ο 32) 64))),32))<|Z (x,0)):(V (Y×Y))) λv0=>
 σ ((
   z (τ (v0.1>=65536)) (Z ((Int.fdiv v0.1 (2^(min (ο 16) 64))),wi (v0.2+16)))<|Z v0):(V (Y×Y))) λv1=>
 σ ((
   z (τ (v1.1>=256)) (Z ((Int.fdiv v1.1 (2^(min (ο 8) 64))),wi (v1.2+8)))<|Z v1):(V (Y×Y))) λv2=>
 σ (six T8 (ι .u8 v2.1)) λv3=>
 Z (wi (v2.2+(wi v3)))
def AJ1:Qr=Lz:=h!
def ALC(n:U):Int.fdiv (n:Y) (2^(min (ο 16) 64))=((n/65536:U):Y):=by grind[ο,Int.fdiv_eq_ediv_of_nonneg]
def fd8(n:U):Int.fdiv (n:Y) (2^(min (ο 8) 64))=((n/256:U):Y):=by grind[ο,Int.fdiv_eq_ediv_of_nonneg]
def xZ{y s:U}(h:y<256)(c:s<=64):(σ (six T8 (ι .u8 (y:Y))) λa=>δ (wi ((s:Y)+(wi a))))=δ ((s+bl8 y:U):Y):=by have b:=(qU h).1;rw[AH6,show(y:Y)%256=(y:Y) by omega,ALN h,AD,oX (x:=((bl8 y:U):Y)),oX];exact E! δ o!
def AB2{x:U}(h:x<=16777216):∃r:U,Qr (x:Y)=Z (r:Y)/\r<=32/\(1<=x->2^r<=2*x):=by
 rw[AJ1];unfold Lz;have c:τ ((x:Y)>=4294967296)=X:=w!
 rw[c,A!,AD];by_cases f:x>=65536;have:τ (((x:Y),(0:Y)).1>=65536)=E:=w!
 have e:wi (((x:Y),(0:Y)).2+16)=((16:U):Y):=by show wi (0+16)=_;decide
 rw[this,B!,AD,e,ALC];by_cases g:x/65536>=256;have:τ (((((x/65536:U):Y),((16:U):Y)):Y×Y).1>=256)=E:=w!
 have e:wi (((((x/65536:U):Y),((16:U):Y)):Y×Y).2+8)=((24:U):Y):=by show wi (((16:U):Y)+8)=_;decide
 rw[this,B!,AD,e,fd8];have a:x/65536/256<256:=o!
 have b:=qU a;refine⟨_,xZ a o!,o!,λ_=>?_⟩;grind[Nat.pow_add];have:τ (((((x/65536:U):Y),((16:U):Y)):Y×Y).1>=256)=X:=w!
 rw[this,A!,AD];have a:x/65536<256:=o!
 have b:=qU a;refine⟨_,xZ a o!,o!,λ_=>?_⟩;grind[Nat.pow_add];have:τ (((x:Y),(0:Y)).1>=65536)=X:=w!
 rw[this,A!,AD];by_cases g:x>=256;have:τ (((x:Y),(0:Y)).1>=256)=E:=w!
 have e:wi (((x:Y),(0:Y)).2+8)=((8:U):Y):=by show wi (0+8)=_;decide
 rw[this,B!,AD,e,fd8];have a:x/256<256:=o!
 have b:=qU a;refine⟨_,xZ a o!,o!,λ_=>?_⟩;grind[Nat.pow_add];have:τ (((x:Y),(0:Y)).1>=256)=X:=w!
 rw[this,A!,AD];have a:x<256:=o!
 have b:=qU a;refine⟨_,xZ (s:=0) a o!,o!,λd=>?_⟩;have:=b.2 d;rw[DZ];omega
def CP(B:U):Prop:=M
def CPa(B:U):CP B:=P!
def PT{α:Type}(T:Prop)(o:V α)(Q:α->Prop):Prop:=(T->∃r,o=Z r)/\∀r,o=Z r->Q r
section
variable {α β γ:Type}{T:Prop}
def PT.some{r:α}{Q:α->Prop}(h:Q r):PT T (.some r) Q:=⟨λ_=>⟨r,rfl⟩,λs e=>k!⟩
def lH{o}{Q:α->Prop}(h:An o Q):PT T o Q:=by obtain⟨r,rfl,h⟩:=h;exact PT.some h
def PT.bind{o}{k:α->V β}{P:α->Prop}{Q:β->Prop}(h:PT T o P)(a:∀r,P r->PT T (k r) Q):PT T (σ o k) Q:=by
 cases o with
 |none=>exact⟨λt=>(by have⟨r,h⟩:=h.1 t;cases h),λr e=>(by cases e)⟩
 |some r=>exact a r (h.2 r rfl)
def PT.cond{c:N}{a b}{Q:α->Prop}(d:c=E->PT T a Q)(e:c=X->PT T b Q):PT T (z c a<|b) Q:=k!
def PT.dec{p:Prop}{_:Decidable p}{a b}{Q:α->Prop}(c:p->PT T a Q)(d:¬p->PT T b Q):PT T (z (decide p) a<|b) Q:=k!
def bc{n m:U}{a b:V α}{Q:α->Prop}(e:n=m)(h:PT T a Q):PT T (z (ξ n m) a<|b) Q:=t!
end
def pQ{x:AJ×Y}(h:W x.1.1<=16)(a:0<=x.2/\x.2<W x.1.1):An (Kg x) λr=>M:=by unfold Kg;have e:=AY (x:=x.2+1);rw[e];refine AC (λb=>?_) (λ_=>?_);simp only[O]at b;refine AA (AI a.1 a.2) λc _=>AA (AI o! b) λd _=>AB trivial;exact AA (AI a.1 a.2) λf _=>AB trivial
def nI{x:AJ×AQ}(h:θ x.1.1<=16):An (M0 x) λr=>M:=by
 unfold M0;refine AA (P:=λ_=>M) ?_ λv _=>BH (λ_ _=>AB trivial) (λ_ _=>AB trivial);refine AW (λ(s:Y)=>0<=s/\s<=θ x.1.1) (λ(s:Y)=>((θ x.1.1:Y)-s).toNat) ⟨Ae _,o!⟩ (λs c=>?_);unfold RO;have e:=AY (x:=s+1);rw[e];refine AC (λa=>?_) (λ_=>AB trivial);simp only[O]at a;have b:((0<=s+1/\s+1<=θ x.1.1)/\((θ x.1.1:Y)-(s+1)).toNat<((θ x.1.1:Y)-s).toNat):=⟨o!,o!⟩
 refine AA (pQ h ⟨c.1,a⟩) λd _=>AO (λ_=>?_) (λ_=>AB b);exact AO (λ_=>AB trivial) (λ_=>AB b)
def nH{x:AJ×Am}(h:W x.1.1<=16)(c:W x.2.2.2<=2199023255552):An (HB x) λr=>r.2=E->ak r.1:=by unfold HB;refine AL (y? n!) (λ_=>AA (tE c) λd b=>AO (λa=>?_) (y? λa=>by cases a));exact AA (nI h) λe _=>AB λ_=>b a
def ABN{a b:Y}(f:0<=a:=by omega)(g:0<=b:=by omega)(h:a+b<=1099511627776:=by omega):wi (Int.fdiv (IntKind.wrap .u64 (wi (a+b))) (2^(min (Int.toNat 1) 64)))=(a+b)/2:=by
 have c:wi (a+b)=a+b:=AY;have d:IntKind.wrap .u64 (a+b)=a+b:=by rw[Xe];omega
 have e:(2:Y)^(min (Int.toNat 1) 64)=2:=by decide
 rw[c,d,e,mF _ (by decide)];exact AY
def Wo{x}:An (OX x) λr=>r=E↔x.1<x.2:=by unfold OX Fy;apply BJ;refine AK (λa=>?_) (y? q!);simp at a
def MT{α:Type}(b:N)(o:V α)(Q:α->Prop):Prop:=(b=E->∃r,o=Z r)/\∀r,o=Z r->Q r
section
variable {α β:Type}{b:Bool}
def MT.some{r:α}{Q:α->Prop}(h:Q r):MT b (.some r) Q:=⟨λ_=>⟨r,rfl⟩,λs e=>by injection e with e;rw[<-e];exact h⟩
def lJ{o}{Q:α->Prop}(h:An o Q):MT b o Q:=⟨λ_=>by have⟨r,e,_⟩:=h;exact⟨r,e⟩,λr e=>h.get e⟩
def MT.bind{o}{k:α->V β}{P:α->Prop}{Q:β->Prop}(h:MT b o P)(d:∀r,P r->MT b (k r) Q):MT b (σ o k) Q:=by refine⟨λc=>?_,λr e=>?_⟩;have⟨r,e⟩:=h.1 c;have⟨s,a⟩:=(d r (h.2 r e)).1 c;exact⟨s,by rw[e];exact a⟩;have⟨s,f,a⟩:=DM.1 e;exact(d s (h.2 s f)).2 r a
def MT.cond{c:N}{x y}{Q:α->Prop}(a:c=E->MT b x Q)(d:c=X->MT b y Q):MT b (z c x<|y) Q:=by cases c<;>grind
def MT.dec{p:Prop}{_:Decidable p}{x y}{Q:α->Prop}(a:p->MT b x Q)(c:¬p->MT b y Q):MT b (z (decide p) x<|y) Q:=by simp_all[MT.cond]
end
def pj{a:Type}{l}{i}{x:a}:(EU l i x).length=W l:=by simp[EU]
abbrev NL:=S A7
def DS(a:AJ):Prop:=∀f∈a.2.2.1,W f.2.2<=2199023255552
def SpL(l:S FN):Prop:=W l<=16777216/\∀s∈l,1<=s.1
theorem fQ{n:Y}{v:EN}:∀{m:S (Y×EN)},(m.map (·.1)).Nodup->∀q,q∈Qf n v m↔q=(n,v)\/(q∈m/\q.1≠n)
 |[],_,q=>by simp[Qf]
 |p::r,h,q=>by
  rw[B4,G4]at h;unfold Qf;by_cases b:p.1=n;grind[List.mem_cons_of_mem,List.mem_map_of_mem];have:(p.1==n)=X:=by simp[b]
  rw[this,A!];constructor;intro a;rcases Av.1 a with a|a;grind;rcases(fQ h.2 q).1 a with a|⟨a,hn⟩;exact .inl a;grind[List.mem_cons_of_mem];rintro(a|⟨a,hn⟩);exact CZ _ ((fQ h.2 q).2 (.inl a));rcases Av.1 a with a|a;grind;exact CZ _ ((fQ h.2 q).2 (.inr ⟨a,hn⟩))
def xB{n}{v}:∀{m:S (Y×EN)},(m.map (·.1)).Nodup->((Qf n v m).map (·.1)).Nodup
 |[],_=>by simp[Qf]
 |p::r,h=>by
  have b:=h;rw[B4,G4]at h;unfold Qf;by_cases a:p.1=n;grind[List.nodup_cons];have:(p.1==n)=X:=by simp[a]
  rw[this,A!,B4,G4];refine⟨λc=>?_,xB h.2⟩;grind[fQ,List.mem_map_of_mem]
def w9{n}{e:EN}:∀{m},Lk n m=Z e->(n,e)∈m
 |[],h=>by cases h
 |p::r,h=>by
  unfold Lk at h;by_cases a:p.1=n;grind;have:(p.1==n)=X:=by simp[a]
  rw[this,A!]at h;exact CZ _ (w9 h)
def w8{n:Y}:∀{m:R (Y×EN)},Lk n m=ε->∀q∈m,q.1≠n
 |[],_,q,a=>by cases a
 |p::r,h,q,a=>by
  unfold Lk at h;by_cases b:p.1=n;have:(p.1==n)=ζ:=by simp[b]
  rw[this,B!]at h;cases h;have:(p.1==n)=η:=by simp[b]
  rw[this,A!]at h;rcases Av.1 a with a|a;rw[a];exact b;exact w8 h q a
def Q5(m:S (Y×EN))(P:EN->Prop):Prop:=(m.map (·.1)).Nodup/\(∀q∈m,q.1=q.2.1)/\∀e,(e.1,e)∈m↔P e
def Q5.nil:Q5 [] λ_=>False:=⟨RE,q!,q!⟩
def Q5.put{m}{P:EN->Prop}{v:EN}(h:Q5 m P):Q5 (Qf v.1 v m) λe=>e=v\/(P e/\e.1≠v.1):=by refine⟨xB h.1,λq a=>?_,λe=>?_⟩;rcases(fQ h.1 q).1 a with a|⟨a,_⟩;rw[a];exact h.2.1 q a;rw[fQ h.1];constructor;rintro(a|⟨a,hn⟩);injection a with _ a;exact .inl a;exact .inr ⟨(h.2.2 e).1 a,hn⟩;rintro(rfl|⟨a,hn⟩);exact .inl rfl;exact .inr ⟨(h.2.2 e).2 a,hn⟩
def Q5.congr{m}{P Q:EN->Prop}(h:Q5 m P)(a:∀e,P e↔Q e):Q5 m Q:=⟨h.1,h.2.1,λe=>(h.2.2 e).trans (a e)⟩
def Q5.get{m}{P:EN->Prop}(h:Q5 m P){e:EN}(g:P e):Lk e.1 m=Z e:=by
 have d:=(h.2.2 e).2 g;cases c:Lk e.1 m with
 |none=>exact O! rfl (w8 c _ d)
 |some f=>
  have i:∀{l:S (Y×EN)},(l.map (·.1)).Nodup->∀{n:Y}{a b:EN},(n,a)∈l->(n,b)∈l->a=b:=by intro l;induction l<;>grind
  rw[i h.1 d (w9 c)]
def hY(e:EN):N:=(e.2.1==1)||(e.2.1==2)
def oA(e:EN):BE e=Z (hY e):=by grind[BE,hY]
def HY(p i j:Y)(e:EN):N:=hY e&&((e.2.2.2.2.2.2.1.1==p)&&(τ (e.1>i)&&τ (e.1<=j)))
def Qe(s:Y×Y)(n:Y):N:=τ (n>=s.1)&&τ (n<=s.2)
def has_eq(s:Y×Y)(n:Y):Ja (s,n)=Z (Qe s n):=by grind[Ja,Qe]
def AKT{e:EN}{l:R (Y×Y)}(j:θ l<=16777216):An (Ai (Xn e l) 0) λr=>(∀u,r=.inl u->0<=u/\(l.any λs=>Qe s e.1)=ζ)/\(∀u,r=.inr u->(l.any λs=>Qe s e.1)=η):=by refine AW (λ(s:Y)=>0<=s/\s<=θ l/\∀x∈l.take s.toNat,Qe x e.1=η) (λ(s:Y)=>((θ l:Y)-s).toNat) ⟨Ae _,o!,q!⟩ (λs d=>?_);have⟨g,m,h⟩:=d;unfold Xn;refine AC (λa=>?_) (λa=>AB ⟨λu b=>(by cases b),λu _=>?_⟩);simp[O]at a;rw[(AY (x:=s+1))];refine AA (AI g a) λn c=>?_;rw[has_eq,AD];refine AK (λk=>AB ⟨λu b=>?_,λu b=>(by cases b)⟩) (λi=>AB ⟨⟨o!,o!,λx f=>?_⟩,o!⟩);grind[List.any_eq_true];rw[show(s+1).toNat=s.toNat+1 by omega,Ck,c.1]at f;grind[Option.toList_some,List.mem_singleton];simp[O]at a;rw[BM o!]at h;rw[Bool.eq_false_iff];grind[List.any_eq_true]
def AKS{a:AJ}{l:Ac}{p i j:Int}{d:List (Int×Int)}(R:Dh l)(hv:1≤θ d)(S:θ d≤16777216):
  An (Ai (Xm (a,l,p,i,j) d) (0,0,[])) λr=>r.1=((l.2.1.filter λe=>HY p i j e&&(d.tail.any λs=>Qe s e.1)).length:Int)/\Q5 r.2 λe=>e∈l.2.1/\HY p i j e=ζ:=by
 obtain⟨l1,l2,l3,l4,l5,K⟩:=R;refine AW (λ(s:Int×(Int×List (Int×EN)))=>0<=s.1/\s.1<=θ l.2.1/\s.2.1=(((l.2.1.take s.1.toNat).filter λe=>HY p i j e&&(d.tail.any λs=>Qe s e.1)).length:Int)/\Q5 s.2.2 λe=>e∈l.2.1.take s.1.toNat/\HY p i j e=ζ) (λs=>((θ l.2.1:Int)-s.1).toNat)
  ⟨Ae _,d!,q!,Q5.nil.congr λe=>q!⟩ (λs O=>?_)
 obtain⟨T,i2,A,B⟩:=O;unfold Xm;dsimp only;refine AC (λy=>?_) (λy=>AB ?_);simp only[len]at y;have L:=AY (x:=s.1+1);rw[L];refine AA (AI T y) λq I=>?_;rw[oA,AD];have g:l.2.1.take (s.1+1).toNat=l.2.1.take s.1.toNat++[q]:=by rw[show(s.1+1).toNat=s.1.toNat+1 by omega,Ck,I.1];rfl
 have f:HY p i j q=η->(0<=s.1+1/\s.1+1<=θ l.2.1/\s.2.1=(((l.2.1.take (s.1+1).toNat).filter λe=>HY p i j e&&(d.tail.any λs=>Qe s e.1)).length:Int)/\Q5 s.2.2 λe=>e∈l.2.1.take (s.1+1).toNat/\HY p i j e=ζ)/\((θ l.2.1:Int)-(s.1+1)).toNat<((θ l.2.1:Int)-s.1).toNat:=λw=>by
  refine⟨⟨o!,o!,?_,?_⟩,o!⟩;rw[g,GM,A];simp[w];rw[g];refine B.congr λe=>⟨λh=>⟨Ak.2 (.inl h.1),h.2⟩,λh=>⟨?_,h.2⟩⟩
  rcases Ak.1 h.1 with m|m;exact m;rw[A5.1 m,w]at h;cases h.2
 refine AK (λC=>?_) (λC=>AB (f (by simp[HY,C])));refine AK (λD_=>?_) (λD_=>AB (f (by simp[HY,D_])));refine AK (λE_=>?_) (λE_=>AB (f (by unfold HY;rw[E_];simp)));refine AK (λF=>?_) (λF=>AB (f (by unfold HY;rw[F];simp)));have w:HY p i j q=ζ:=by unfold HY;rw[C,D_,E_,F];rfl
 refine AA (BU (lo:=1) (hi:=(θ d:Int))) λV N=>?_;have H:V=d.tail:=by
  rw[N.1,BM (by rw[C5];omega)];cases d with
  |nil=>rfl
  |cons a r=>rfl
 subst H;refine AA (AKT (by rw[List.length_tail];omega)) λU o=>?_;have M:=K s.1.toNat q I.1;have n:Q5 (Qf q.1 q s.2.2) λe=>e∈l.2.1.take (s.1+1).toNat/\HY p i j e=ζ:=by
  rw[g];refine B.put.congr λe=>⟨?_,λh=>?_⟩
  rintro(rfl|⟨h,_⟩);exact⟨Ak.2 (.inr (A5.2 rfl)),w⟩;exact⟨Ak.2 (.inl h.1),h.2⟩;rcases Ak.1 h.1 with m|m;refine .inr ⟨⟨m,h.2⟩,λZ_=>?_⟩;obtain⟨k,Q,v⟩:=WX.1 m;rw[BP]at Q;rw[ng]at v;have:=(K k e (by rw[<-v];exact Au o!)).1;omega;exact .inl (A5.1 m)
 have t:∀b:Bool,(d.tail.any λs=>Qe s q.1)=b->((((l.2.1.take (s.1+1).toNat).filter λe=>HY p i j e&&(d.tail.any λs=>Qe s e.1)).length:Nat):Int)=s.2.1+(if b=ζ then 1 else 0):=λb P=>by rw[g,GM,Aa,A];cases b<;>simp[w,P]
 have J:(((l.2.1.take s.1.toNat).filter λe=>HY p i j e&&(d.tail.any λs=>Qe s e.1)).length:Int)<=4096:=by have W:=EK (λe=>HY p i j e&&(d.tail.any λs=>Qe s e.1)) (l.2.1.take s.1.toNat);have X_:=fg s.1.toNat l.2.1;have Y:=List.length_take_le' s.1.toNat l.2.1;omega
 have G:=AY (x:=s.2.1+1);rw[G];refine BH (λu z=>?_) (λu z=>AB ⟨⟨d!,d!,?_,n⟩,d!⟩);refine AC (λ_=>AB ⟨⟨d!,d!,?_,n⟩,d!⟩) (λc=>O! (o.1 u z).1 c);rw[t ζ (o.1 u z).2];rfl;rw[t η (o.2 u z)];simp;simp only[len]at y;rw[BM o!]at A B;exact⟨A,B⟩
def ltC(f e:EN):Prop:=f.2.2.2.2.2.2.1.1<e.2.2.2.2.2.2.1.1\/(f.2.2.2.2.2.2.1.1=e.2.2.2.2.2.2.1.1/\f.1<e.1)
theorem ABM(e:EN):¬ltC e e:=by unfold ltC;omega
def ADX{a b c}(h:ltC a b)(g:ltC b c):ltC a c:=by unfold ltC at*;omega
def AIE(f e:EN):∃c:Y,C9 (f,e)=Z c/\(c<0↔ltC f e)/\(c=0↔f.2.2.2.2.2.2.1.1=e.2.2.2.2.2.2.1.1/\f.1=e.1):=by
 have:An (C9 (f,e)) λc=>(c<0↔ltC f e)/\(c=0↔f.2.2.2.2.2.2.1.1=e.2.2.2.2.2.2.1.1/\f.1=e.1):=by
  unfold C9;unfold ltC;dsimp only;repeat' with_reducible first|intro a|apply AC|apply AO|apply AK|apply AB
  all_goals omega
 exact this
def yr(x:AQ)(i:U):Prop:=∀e,x.2.2.2.2.2[i]?=Z e->
 (MZ e/\hY e=E/\x.1<=e.1/\e.1<=x.2.1/\x.2.2.1<=e.2.2.2.2.2.2.1.1/\e.2.2.2.2.2.2.1.1<=x.2.2.2.1)/\(i=0->e.2.2.2.2.1<x.1)/\
 ∀f,0<i->x.2.2.2.2.2[i-1]?=Z f->ltC f e/\(f.2.2.2.2.2.2.1.1=e.2.2.2.2.2.2.1.1->e.2.2.2.2.1=f.1)/\(f.2.2.2.2.2.2.1.1≠e.2.2.2.2.2.2.1.1->e.2.2.2.2.1<x.1)
def VR(x:AQ):Prop:=ak x/\∀i,yr x i
def VR.ent{x}(h:VR x){e:EN}(a:e∈x.2.2.2.2.2):MZ e/\hY e=E/\x.1<=e.1/\e.1<=x.2.1/\x.2.2.1<=e.2.2.2.2.2.2.1.1/\e.2.2.2.2.2.2.1.1<=x.2.2.2.1:=by obtain⟨i,b,rfl⟩:=WX.1 a;exact(h.2 i _ (Au b)).1
def AAq{x:AQ}(Q:θ x.2.2.2.2.2<=4096):An (Ai (HT x) 0) λr=>(r=.inl η/\¬ ∀i,yr x i)\/(r=.inr ()/\∀i,yr x i):=by
 refine CQ (λ(s:Y)=>0<=s/\s<=θ x.2.2.2.2.2/\∀i:U,(i:Y)<s->yr x i) (λ(s:Y)=>((θ x.2.2.2.2.2:Y)-s).toNat) ⟨Ae _,o!,λi z=>o!⟩ (λs J=>?_);obtain⟨G,R,H⟩:=J;unfold HT;simp only[len];refine AC (λE_=>?_) (λE_=>An.done (.inr ⟨rfl,λi=>?_⟩))
 case refine_2=>by_cases z:(i:Y)<s;exact H i z;intro e m;rw[Ct o!]at m;cases m
 obtain⟨k,rfl⟩:=EG G;refine AA (AI G E_) λv d=>?_;have d:=d.1;rw[CR]at d;have a:(yr x k->False)->An (δ (Step.done (.inl η)):Option (Step Y (Bool⊕Unit))) (MU (λ(s:Y)=>0<=s/\s<=θ x.2.2.2.2.2/\∀i:U,(i:Y)<s->yr x i) (λ(s:Y)=>((θ x.2.2.2.2.2:Y)-s).toNat) ((θ x.2.2.2.2.2:Y)-(k:Y)).toNat λr=>(r=.inl η/\¬ ∀i,yr x i)\/(r=.inr ()/\∀i,yr x i)):=λh=>An.done (.inl ⟨rfl,λu=>h (u k)⟩);have j:yr x k->An (δ (Step.next (wi ((k:Y)+1))):Option (Step Y (Bool⊕Unit))) (MU (λ(s:Y)=>0<=s/\s<=θ x.2.2.2.2.2/\∀i:U,(i:Y)<s->yr x i) (λ(s:Y)=>((θ x.2.2.2.2.2:Y)-s).toNat) ((θ x.2.2.2.2.2:Y)-(k:Y)).toNat λr=>(r=.inl η/\¬ ∀i,yr x i)\/(r=.inr ()/\∀i,yr x i)):=λh=>by
  rw[AY];refine An.next ⟨o!,o!,λi z=>?_⟩ o!
  by_cases A:i=k;rw[A];exact h;exact H i o!
 refine AA Cc λN C=>AP (λl=>a λok=>?_) (λl=>?_);have:=C.2 (ok v d).1.1;rw[l]at this;cases this;have q1:=C.1 l;refine AA CT λO D_=>?_;have q:hY v=ζ↔v.2.1=1\/v.2.1=2:=by unfold hY;simp
 refine AP (λl=>a λok=>?_) (λl=>?_);have:=D_.2 (q.1 (ok v d).1.2.1);rw[l]at this;cases this;have q2:=q.2 (D_.1 l);refine AC (λt=>a λok=>?_) (λq3=>?_);have:=(ok v d).1.2.2;omega;refine AC (λt=>a λok=>?_) (λq4=>?_);have:=(ok v d).1.2.2;omega;refine AC (λt=>a λok=>?_) (λq5=>?_);have:=(ok v d).1.2.2;omega;refine AC (λt=>a λok=>?_) (λq6=>?_);have:=(ok v d).1.2.2;omega;have q0:MZ v/\hY v=ζ/\x.1<=v.1/\v.1<=x.2.1/\x.2.2.1<=v.2.2.2.2.2.2.1.1/\v.2.2.2.2.2.2.1.1<=x.2.2.2.1:=⟨q1,q2,o!⟩
 apply AC<;>intro L;have M:wi ((k:Y)-1)=((k-1:U):Y):=by rw[AY];omega
 have F:k-1<θ x.2.2.2.2.2:=o!
 have w:ix x.2.2.2.2.2 (wi ((k:Y)-1))=δ (x.2.2.2.2.2[k-1]):=by rw[M];unfold ix;rw[C! o!,CR,Au F]
 have n:x.2.2.2.2.2[k-1]?=δ (x.2.2.2.2.2[k-1]):=Au F;generalize x.2.2.2.2.2[k-1]=f at w n;obtain⟨c,y,p,K⟩:=AIE f v;rw[w,AD,y,AD];refine AC (λt=>a λok=>?_) (λt=>?_);have:=p.2 ((ok v d).2.2 f o! n).1;omega;have q7:=p.1 o!;rw[G! o!,B!,AD];refine AA (P:=λr:Bool⊕Unit=>(r=.inl η/\¬yr x k)\/(r=.inr ()/\yr x k)) ?_ λr hr=>?_;apply AO<;>intro m;rw[AD];refine AL (λhn=>AB (.inl ⟨rfl,λok=>hn (((ok v d).2.2 f o! n).2.1 m)⟩)) (λhn=>AB (.inr ⟨rfl,λe g=>?_⟩));rw[d]at g;injection g with g;subst g;refine⟨q0,λo=>O! o o!,λI _ b=>?_⟩;rw[n]at b;injection b with b;subst b;exact⟨q7,λ_=>hn,λu=>O! m u⟩;refine AC (λhn=>AB (.inl ⟨rfl,λok=>?_⟩)) (λhn=>AB (.inr ⟨rfl,λe g=>?_⟩));have:=((ok v d).2.2 f o! n).2.2 m;omega;rw[d]at g;injection g with g;subst g;refine⟨q0,λo=>O! o o!,λI _ b=>?_⟩;rw[n]at b;injection b with b;subst b;exact⟨q7,λu=>O! u m,λ_=>o!⟩;rcases hr with⟨rfl,hr⟩|⟨rfl,hr⟩;exact BF (a hr);exact Ay (j hr);rw[F! L,A!];have B:k=0:=o!
 apply Bo;apply AC<;>intro hn;rw[AD];refine BF (a λok=>?_);have:=(ok v d).2.1 B;omega;rw[AD];refine Ay (j λe g=>?_);rw[d]at g;injection g with g;subst g;exact⟨q0,λ_=>o!,λf o=>O! o o!⟩
def YX{x}:An (ES x) λr=>r=E↔VR x:=by unfold ES;refine AA I3 λf c=>AP (λb=>AB ⟨λa=>(by cases a),λa=>?_⟩) (λb=>?_);obtain⟨⟨a1,a2,a3,a4,a5,a6,a7,a8,a9⟩,_⟩:=a;have:=c.2 ⟨a1,a2,a3,a4,a5,a6,a7,a8⟩;rw[b]at this;cases this;have hn:=c.1 b;dsimp only at hn;refine AC (λd=>AB ⟨λa=>(by cases a),λa=>?_⟩) (λe=>?_);have:=a.1.2.2.2.2.2.2.2.2;simp only[O]at d;omega;simp only[O]at e;refine AA (AAq o!) λr hr=>?_;rcases hr with⟨rfl,hr⟩|⟨rfl,hr⟩;exact BF (AB ⟨λa=>(by cases a),λa=>O! a.2 hr⟩);exact Ay (AB ⟨λ_=>⟨⟨hn.1,hn.2.1,hn.2.2.1,hn.2.2.2.1,hn.2.2.2.2.1,hn.2.2.2.2.2.1,hn.2.2.2.2.2.2.1,hn.2.2.2.2.2.2.2,o!⟩,hr⟩,λ_=>rfl⟩)
abbrev NE:=A7
def lN(x y:NE):N:=τ (x.1.2.2.1<y.1.2.2.1\/(x.1.2.2.1=y.1.2.2.1/\(x.1.1<y.1.1\/(x.1.1=y.1.1/\x.2<y.2))))
def vZ:Sort.SWO lN where
 irrefl x:=by simp[lN]
 trans x y z h1 h2:=by simp[lN,K!]at*;omega
 ntrans x y z h1 h2:=by simp[lN,decide_eq_false_iff_not]at*;omega
def pn{l:S Y}{k:U}{v:Y}(h:l[k]?=Z v)(b:k<1000)(c:W l<1000):Ai (Ki l) (k:Y)=if v=0 then Ai (Ki l) ((k+1:U):Y)else Z (.inl v):=by
 rw[HX];have a:=(EX.1 h).1;have d:τ ((k:Y)<O l)=E:=w!
 have e:ix l (k:Y)=Z v:=by unfold ix;rw[C! o!];simpa using h
 grind[wip,Ki]
def AKY(a b c:Y):Kx [a,b,c]=Z (if a≠0 then a else if b≠0 then b else c):=by unfold Kx;rw[show(0:Y)=((0:U):Y)from rfl,pn (k:=0) (v:=a) rfl o! q!];by_cases d:a=0;rw[C! d,pn (k:=1) (v:=b) rfl o! q!];by_cases e:b=0;rw[C! e,pn (k:=2) (v:=c) rfl o! q!];grind[HX,Ki];rw[D! e];simp[d,e];rw[D! d];simp[d]
def AHn(x y:NE):∃v,IN (x,y)=Z v/\τ (v<0)=lN x y:=by
 unfold IN;dsimp only;simp only[AA3,AD,AKY];refine⟨_,rfl,?_⟩;unfold lN;apply decide_eq_decide.2;repeat' split
 all_goals omega
section
variable {α:Type} [Inhabited α]
theorem ixG{d:Q α}{i:Y}{k:U}(a:i=k)(b:k<d.size:=by omega):ix d.toList i=some d[k]! :=by subst a;unfold ix;rw[if_pos (by omega)];simp[b]
omit [Inhabited α] in
theorem AJZ{d:Q α}{i:Y}{k:U}(a:i=k)(x:α):EU d.toList i x=(d.setIfInBounds k x).toList:=by subst a;unfold EU;simp
def AH0{d:Q α}{i j:Y}{a b:U}(c:i=a)(e:j=b):EU (EU d.toList i d[b]!) j d[a]! =(Sort.swp d a b).toList:=by rw[AJZ c,AJZ e];rfl
def AHH{d:Q α}{i j:Y}{a b:U}{x:α}(e:i=a)(f:j=b)(c:b<d.size:=by omega):ix (EU d.toList i x) j=some (d.setIfInBounds a x)[b]! :=by grind[AJZ,ixG]
theorem lZ(lt:α->α->N)(k:U):∀j d,(Sort.insInner lt k j d).size=d.size
 |0,_=>rfl
 |j+1,d=>by unfold Sort.insInner;split;rw[lZ lt k j,Sort.size_swp];rfl
end
theorem ACW{a b:Y}{k:U}(g:a=k): ∀(j:U) (d:Q NE),j<d.size->d.size<=16777216->Ai (Do (a,b)) ((j:Y),d.toList)=some (Sort.insInner lN k j d).toList
 |0,d,hj,hd=>by
  rw[HX];have:decide (((0:U):Y)>a)=false:=by simp;omega
  simp only[Do,this,cond_false];rfl
 |j+1,d,hj,hd=>by
  rw[HX];have⟨v,e,f⟩:=AHn d[j+1]! d[j]!;simp only[Do,(by grind[oX]:wi (((j+1:U):Y)-1)=(j:Y)),(ixG rfl hj),(ixG rfl:ix d.toList (j:Y)=some d[j]!),(AHH rfl rfl:ix (EU d.toList ((j+1:U):Y) d[j]!) (j:Y)=some (d.setIfInBounds (j+1) d[j]!)[j]!),AD,e,f,AH0 (d:=d) (a:=j+1) (b:=j) rfl rfl];unfold Sort.insInner;by_cases c:j+1>k;have:decide (((j+1:U):Y)>a)=true:=by simp;omega
  rw[this];cases h:lN d[j+1]! d[j]! with
  |true=>simp[cond_true,c,decide_true,YY,if_true];exact ACW g j _ (by rw[Sort.size_swp];omega) (by rw[Sort.size_swp];omega)
  |false=>simp[c]
  have:decide (((j+1:U):Y)>a)=false:=by simp;omega
  rw[this];simp[c]
def AE7{a b:Y}{k m:U}(g:a=k)(h:b=m):∀(n i:U)(d:Q NE),m-i<=n->m<=d.size->d.size<=16777216->Ai (Dn (a,b)) ((i:Y),d.toList)=Z (Sort.insOuter lN k m i d).toList:=by
 intro n;induction n with
 |zero=>grind[HX,Sort.insOuter,Dn]
 |succ n j=>intro i d c e f;rw[HX,Sort.insOuter];grind[oX,lZ,Dn,ACW]
def ACV{d:Q NE}{a b:Y}{k m:U}(c:a=k)(e:b=m)(g:m<=d.size)(h:k<=m)(f:d.size<=16777216):DA d.toList (a,b)=Z (Sort.insertionSort lN d k m).toList:=by unfold DA;dsimp only;rw[(by grind[oX]:wi (a+1)=((k+1:U):Y)),AE7 c e (m-(k+1)) (k+1) d o! g f];rfl
def swR(a b n:U)(d:Q NE)(k:U):NE:=if a<=k/\k<a+n then d[b+(k-a)]! else if b<=k/\k<b+n then d[a+(k-b)]! else d[k]!
def ym{d:Q NE}{a b n:U}(f:a+n≤b)(l:b+n≤d.size)(m:d.size≤16777216):
  An (Cw d.toList ((a:Y),((b:Y),(n:Y)))) λr=> ∃e:Q NE,r=e.toList/\e.size=d.size/\ ∀k,k<d.size->e[k]! =swR a b n d k:=by
 unfold Cw;refine AA (P:=λr=> ∃e:Q NE,r=e.toList/\e.size=d.size/\ ∀k,k<d.size->e[k]! =swR a b n d k) ?_ λr h=>AB h;refine AW (λ(s:Y×R NE)=> ∃(t:U) (e:Q NE),s.1=t/\s.2=e.toList/\t<=n/\e.size=d.size/\ ∀k,k<d.size->e[k]! =swR a b t d k) (λs=>n-s.1.toNat) ⟨0,d,rfl,rfl,BV _,rfl,λk _=>by unfold swR;rw[if_neg (by omega),if_neg (by omega)]⟩ ?_;rintro⟨q,u⟩ ⟨t,e,q1,q2,q3,q4,q5⟩;dsimp only at q1 q2;subst q1 q2;unfold IF;dsimp only;refine AC (λg=>?_) (λg=>AB ⟨e,rfl,q4,?_⟩);have o:t<n:=by omega
 simp only[(by grind[oX]:wi ((b:Y)+(t:Y))=((b+t:U):Y)),(by grind[oX]:wi ((a:Y)+(t:Y))=((a+t:U):Y)),(ixG rfl:ix e.toList ((b+t:U):Y)=some e[b+t]!),(ixG rfl:ix e.toList ((a+t:U):Y)=some e[a+t]!),(AHH rfl rfl:ix (EU e.toList ((a+t:U):Y) e[b+t]!) ((b+t:U):Y)=some (e.setIfInBounds (a+t) e[b+t]!)[b+t]!),AD,wip (i:=t),AH0 (d:=e) (a:=a+t) (b:=b+t) rfl rfl];refine AB ⟨⟨t+1,_,rfl,rfl,by omega,by rw[Sort.size_swp,q4],λk j=>?_⟩,?_⟩;rw[Sort.swp_get e (by omega) (by omega)];rw[(q5 (a+t) (by omega)),(q5 (b+t) (by omega)),(q5 k j)];unfold swR;by_cases k1:k=a+t;subst k1;rw[if_neg (by omega),if_pos rfl,if_neg (by omega),if_neg (by omega),if_pos (by omega)];exact congrArg (λz=>d[z]!) (by omega);by_cases c:k=b+t;subst c;rw[if_pos rfl,if_neg (by omega),if_neg (by omega),if_neg (by omega),if_pos (by omega)];exact congrArg (λz=>d[z]!) (by omega);rw[if_neg c,if_neg k1];by_cases p:a<=k/\k<a+t<;>grind;show n-((t+1:U):Y).toNat<n-((t:U):Y).toNat
 omega;have:t=n:=by omega
 rw[<-this];exact q5
def fe(x:AQ):Bd:=[80,77,82,78]++(C4 x.1 8++(C4 x.2.1 8++(C4 x.2.2.1 4++(C4 x.2.2.2.1 4++(C4 x.2.2.2.2.1 1++C4 (W x.2.2.2.2.2:Y) 4)))))
def Nb(x:AQ):Bd:=HZ (fe x)++Kw x.2.2.2.2.2
theorem aZ(x:AQ):(fe x).length=33:=rfl
def ak.inr{x}(h:ak x):ck 8 x.1/\ck 8 x.2.1/\ck 4 x.2.2.1/\ck 4 x.2.2.2.1/\ck 1 x.2.2.2.2.1/\ck 4 (W x.2.2.2.2.2:Y):=by have⟨a1,a2,a3,a4,a5,a6,a7,a8,a9⟩:=h;grind[ck]
def VR.len{x}(h:VR x):(Nb x).length<=34406441:=by have b:=tL (l:=x.2.2.2.2.2) λe a=>(h.ent a).1;have c:=h.1.2.2.2.2.2.2.2.2;grind[Nb,n?,EQ,aZ]
def AGQ{x}(h:ak x):H4 x=Z (fe x):=by unfold H4;rw[IE q! g! g!,AD];rw[IE (by simp only[Aa,Az];simp) g! g!,AD];rw[IE (by simp only[Aa,Az];simp) g! g!,AD];rw[IE (by simp only[Aa,Az];simp) g! g!,AD];rw[IE (by simp only[Aa,Az];simp) g! g!,AD];rw[IE (by simp only[Aa,Az];simp) g! g!,AD];rfl
def rj{x:AQ}(h:VR x):Gt x=δ (Nb x,0):=by
 have q:=h.1.2.2.2.2.2.2.2.2;have⟨b,g,d⟩:=YX (x:=x);have c:=d.2 h;subst c;unfold Gt;rw[g,AD,Bn,A!,AGQ h.1,AD,cj (by rw[aZ];decide),AD];have key:An (Ai (Mo x) (HZ (fe x),0)) λr=>r=Nb x:=by
  refine CQ (λ(s:Bd×Y)=>∃k:U,s.2=k/\k<=θ x.2.2.2.2.2/\s.1=HZ (fe x)++Kw (x.2.2.2.2.2.take k)) (λs=>θ x.2.2.2.2.2-s.2.toNat) ⟨0,rfl,BV _,by simp[Kw]⟩ ?_;rintro⟨y,z⟩ ⟨k,o,u,p⟩;subst o p;unfold Mo;simp only[O];refine AC (λf=>?_) (λf=>An.done (by rw[BM o!];rfl));refine AA (AI o! f) λv d=>?_;have a:=(h.ent d.2).1;have m:=S8 a;have j:=tL (l:=x.2.2.2.2.2.take k) λe i=>(h.ent (F9 i)).1;have n:(x.2.2.2.2.2.take k).length<=4096:=k!
  rw[rf a,AD,cj m,AD];refine AA (CN (by rw[Aa,EQ,EQ,aZ];omega)) λw t=>?_;rw[AY];refine An.next ⟨k+1,k!,o!,?_⟩ k!
  grind[Int.toNat_natCast,List.take_add_one,Option.toList_some,TA,List.append_assoc]
 obtain⟨r,hr,rfl⟩:=key;rw[hr];rfl
def WR(x:AQ):Prop:=ak x/\∀e∈x.2.2.2.2.2,HA e.2.2.2.2.2.2.1.2.2.1/\HA e.2.2.2.2.2.2.1.2.2.2/\e.2.2.2.2.2.2.2=[]
def AEd{e}(h:MZ e)(b:hY e=E):e.2.2.2.2.2.2.2=[]:=by
 have a:e.2.1=1\/e.2.1=2:=by grind[hY]
 have⟨_,_,_,_,_,_,_,_,c⟩:=h;grind[Vy]
def VR.wr{x}(h:VR x):WR x:=⟨h.1,λe b=>by have a:=h.ent b;exact⟨a.1.cells.1,a.1.cells.2.1,AEd a.1 a.2.1⟩⟩
def ADa{e}(h:Gb e=Z E)(f:hY e=E):e.2.2.2.2.2.2.2=[]:=by
 have d:e.2.1=1\/e.2.1=2:=by unfold hY at f;simpa using f
 have key:∀r,Gb e=Z r->r=E->e.2.2.2.2.2.2.2=[]:=by
  have main:MT X (Gb e) λr=>r=E->e.2.2.2.2.2.2.2=[]:=by
   have o:∀{Q:N->Prop},(∀r,r=X->Q r)->MT X (Z X) Q:=λm=>MT.some (m _ rfl);have a:MT X (Z X) λr=>r=E->e.2.2.2.2.2.2.2=[]:=MT.some λb=>by cases b
   unfold Gb;refine MT.dec (λ_=>a) λ_=>MT.dec (λ_=>a) λ_=>MT.dec (λ_=>a) λ_=>MT.dec (λ_=>a) λ_=>MT.bind (lJ LL) λp _=>MT.cond (λ_=>a) λ_=>MT.bind (lJ LL) λq _=>MT.cond (λ_=>a) λ_=>MT.bind (lJ LL) λs _=>MT.cond (λ_=>a) λ_=>MT.dec (O! · o!) λ_=>MT.dec (λi=>?_) λi=>?_;refine MT.dec (λ_=>a) λ_=>MT.bind (P:=λ_=>M) (MT.dec (λ_=>MT.some trivial) λ_=>MT.some trivial) λn _=>MT.cond (λ_=>a) λ_=>MT.bind (P:=λr=>r=X->e.2.2.2.2.2.2.2=[]) ?_ λt k=>?_;refine MT.cond (λl=>MT.some λb=>?_) λ_=>MT.some λb=>?_;rw[l]at b;cases b;simpa using b;refine MT.cond (λ_=>a) λb=>?_;exact⟨λc=>(by cases c),λr _ _=>k b⟩;refine MT.dec (λj=>?_) λj=>O! d o!;refine MT.dec (λ_=>a) λ_=>MT.bind (P:=λ_=>M) (MT.dec (λ_=>MT.some trivial) λ_=>MT.some trivial) λn _=>MT.cond (λ_=>a) λ_=>MT.cond (λ_=>a) λb=>?_;exact⟨λc=>(by cases c),λr _ _=>by simpa using b⟩
  exact main.2
 exact key E h rfl
def vI{e}:BE e=Z (hY e):=by unfold BE hY;grind
def AAF{x}:An (Mt x) λr=>r=E↔1<=x.1/\x.1<=x.2.1/\x.2.1<=1099511627776/\0<=x.2.2.1/\x.2.2.1<=x.2.2.2.1/\x.2.2.2.1<64/\0<=x.2.2.2.2.1/\x.2.2.2.2.1<=8:=by
 unfold Mt;exact x!
def ADc{x:AQ}{e:EN}:An (QQ (x,e)) λr=>r=E↔hY e=E/\x.2.2.1<=e.2.2.2.2.2.2.1.1/\e.2.2.2.2.2.2.1.1<=x.2.2.2.1/\x.1<=e.1/\e.1<=x.2.1:=by
 unfold QQ;rw[vI,AD];refine AK (λa=>?_) (λa=>AB ⟨λb=>(by cases b),λb=>k!⟩);exact x!
def AJO(a b:Y):Kx [a,b]=Z (if a≠0 then a else b):=by unfold Kx;rw[show(0:Y)=((0:U):Y)from rfl,pn (k:=0) (v:=a) rfl o! q!];by_cases c:a=0;rw[C! c,pn (k:=1) (v:=b) rfl o! q!];grind[HX,Ki];grind
def ABV(f e:EN):∃c:Y,O4 (f,e)=Z c/\(c<0↔ltC f e):=by unfold O4;rw[AA3,AA3,AD,AD,AJO,AD];unfold ltC;grind
def ADb{x:AQ}(I:θ x.2.2.2.2.2<=4096):An (Ai (Tj x) 0) λr=>(r=.inl η/\¬ ∀i,yr x i)\/(r=.inr ()/\∀e∈x.2.2.2.2.2,hY e=ζ/\e.2.2.2.2.2.2.2=[]):=by
 refine CQ (λ(s:Y)=>0<=s/\s<=θ x.2.2.2.2.2/\∀e∈x.2.2.2.2.2.take s.toNat,hY e=ζ/\e.2.2.2.2.2.2.2=[]) (λ(s:Y)=>((θ x.2.2.2.2.2:Y)-s).toNat) ⟨Ae _,o!,λe p=>by simp at p⟩ (λs C=>?_);have⟨w,J,y⟩:=C;unfold Tj;simp only[O];refine AC (λu=>?_) (λu=>An.done (.inr ⟨rfl,by rw[BM o!]at y;exact y⟩));obtain⟨k,rfl⟩:=EG w;refine AA (AI w u) λv d=>?_;have d:=d.1;rw[CR]at d;have a:(yr x k->False)->An (δ (Step.done (.inl η)):Option (Step Y (N⊕Unit))) (MU (λ(s:Y)=>0<=s/\s<=θ x.2.2.2.2.2/\∀e∈x.2.2.2.2.2.take s.toNat,hY e=ζ/\e.2.2.2.2.2.2.2=[]) (λ(s:Y)=>((θ x.2.2.2.2.2:Y)-s).toNat) ((θ x.2.2.2.2.2:Y)-(k:Y)).toNat λr=>(r=.inl η/\¬ ∀i,yr x i)\/(r=.inr ()/\∀e∈x.2.2.2.2.2,hY e=ζ/\e.2.2.2.2.2.2.2=[])):=λh=>An.done (.inl ⟨rfl,λD_=>h (D_ k)⟩);refine D7 Kj λG z B=>AP (λj=>a λok=>?_) (λj=>?_);have:=B (ok v d).1.1;rw[j]at this;cases this;refine AA ADc λH t=>AP (λj=>a λok=>?_) (λm=>?_);have q:=(ok v d).1;have:=t.2 ⟨q.2.1,q.2.2.2.2.1,q.2.2.2.2.2,q.2.2.1,q.2.2.2.1⟩;rw[j]at this;cases this;have q3:=ADa (by rw[z,j]) ((t.1 m).1);have b:An (δ (Step.next (wi ((k:Y)+1))):Option (Step Y (N⊕Unit))) (MU (λ(s:Y)=>0<=s/\s<=θ x.2.2.2.2.2/\∀e∈x.2.2.2.2.2.take s.toNat,hY e=ζ/\e.2.2.2.2.2.2.2=[]) (λ(s:Y)=>((θ x.2.2.2.2.2:Y)-s).toNat) ((θ x.2.2.2.2.2:Y)-(k:Y)).toNat λr=>(r=.inl η/\¬ ∀i,yr x i)\/(r=.inr ()/\∀e∈x.2.2.2.2.2,hY e=ζ/\e.2.2.2.2.2.2.2=[])):=by
  rw[AY];refine An.next ⟨o!,o!,λe p=>?_⟩ o!
  rw[show((k:Y)+1).toNat=k+1 by omega,Ck,d]at p;grind[Option.toList_some,List.mem_singleton]
 have F:∀f,0<k->x.2.2.2.2.2[k-1]?=δ f->ix x.2.2.2.2.2 (wi ((k:Y)-1))=δ f:=λf A g=>by rw[show wi ((k:Y)-1)=((k-1:U):Y) by rw[AY];omega];unfold ix;grind[Int.toNat_natCast]
 apply AO<;>intro A;refine AC (λo=>a λok=>?_) (λ_=>b);have:=(ok v d).2.1 o!;omega;have g:x.2.2.2.2.2[k-1]?=δ (x.2.2.2.2.2[k-1]):=Au o!;generalize x.2.2.2.2.2[k-1]=f at g;rw[F f o! g,AD];apply AC<;>intro E_;refine AC (λo=>a λok=>?_) (λ_=>b);have:=((ok v d).2.2 f o! g).2.2 o!;omega;have⟨c,n,l⟩:=ABV f v;rw[AD,n,AD];refine AC (λo=>a λok=>?_) (λo=>?_);have:=l.2 ((ok v d).2.2 f o! g).1;omega;refine AL (λhn=>a λok=>hn ?_) (λ_=>b);have:=l.1 o!;unfold ltC at this;exact((ok v d).2.2 f o! g).2.1 o!
def AAG{x}:An (Vj x) λr=>(VR x->r=E)/\(r=E->ak x/\∀e∈x.2.2.2.2.2,hY e=E/\e.2.2.2.2.2.2.2=[]):=by refine AA AAF λg c=>AP (λb=>AB ⟨λa=>?_,λa=>(by cases a)⟩) (λb=>?_);have⟨⟨a1,a2,a3,a4,a5,a6,a7,a8,a9⟩,_⟩:=a;grind;have hn:=c.1 b;refine AC (λf=>AB ⟨λa=>?_,λa=>(by cases a)⟩) (λd=>?_);have:=a.1.2.2.2.2.2.2.2.2;grind;simp[O]at d;refine AA (ADb o!) λr hr=>?_;rcases hr with⟨rfl,hr⟩|⟨rfl,hr⟩;exact BF (AB ⟨λa=>O! a.2 hr,λa=>(by cases a)⟩);exact Ay (AB ⟨λ_=>rfl,λ_=>⟨⟨hn.1,hn.2.1,hn.2.2.1,hn.2.2.2.1,hn.2.2.2.2.1,hn.2.2.2.2.2.1,hn.2.2.2.2.2.2.1,hn.2.2.2.2.2.2.2,o!⟩,hr⟩⟩)
def AAK{p:Bd}(h:W p=33):FL (p,([80,77,82,78]:S UInt8))=Z (p.take 4==[80,77,82,78]):=by grind[FL,El,R4,σ]
abbrev ZR:=Y×(Y×(Y×(Y×(Y×AQ))))
def wn{p:Bd}(x:W p=33)(t:p.take 4=[80,77,82,78]):∃b c d e f a:Y,(A2 (p,4,8)=Z (b,0)∧A2 (p,12,8)=Z (c,0)∧A2 (p,20,4)=Z (d,0)∧A2 (p,24,4)=Z (e,0)∧A2 (p,28,1)=Z (f,0)∧A2 (p,29,4)=Z (a,0))∧
  (B0 (p,4,8)=Z (b,0)/\B0 (p,12,8)=Z (c,0)/\B0 (p,20,4)=Z (d,0)/\B0 (p,24,4)=Z (e,0)/\B0 (p,28,1)=Z (f,0)/\B0 (p,29,4)=Z (a,0))/\
  p=[80,77,82,78]++(C4 b 8++(C4 c 8++(C4 d 4++(C4 e 4++(C4 f 1++C4 a 4)))))/\0<=a:=by
 have D_:(p.drop 4).length=29:=by rw[C5];omega
 have⟨b,J,a2,g,n,y,l2⟩:=ADP (k:=8) (at_:=4) (by rw[<-t,DG]:p=[80,77,82,78]++p.drop 4) g! o! g! g! o!;have⟨c,K,a3,h,o,z,E_⟩:=ADP (k:=8) (at_:=12) n (by simp only[Aa,Az];decide) o! g! g! o!;have⟨d,L,a4,i,q,A,F⟩:=ADP (k:=4) (at_:=20) o (by simp only[Aa,Az];decide) o! g! g! o!;have⟨e,M,a5,j,r,B,G⟩:=ADP (k:=4) (at_:=24) q (by simp only[Aa,Az];decide) o! g! g! o!;have⟨f,N,a6,l,s,C,H⟩:=ADP (k:=1) (at_:=28) r (by simp only[Aa,Az];decide) o! g! g! o!;have⟨a,v,a7,m,w,u,I⟩:=ADP (k:=4) (at_:=29) s (by simp only[Aa,Az];decide) o! g! g! o!;have:v=[]:=D8 o!;subst this;refine⟨b,c,d,e,f,a,⟨a2,a3,a4,a5,a6,a7⟩,⟨g,h,i,j,l,m⟩,?_,(u.1 g!).1⟩;grind[t?]
def zi{x}(h:ak x):(A2 (fe x,4,8)=Z (x.1,0)∧A2 (fe x,12,8)=Z (x.2.1,0)∧A2 (fe x,20,4)=Z (x.2.2.1,0)∧A2 (fe x,24,4)=Z (x.2.2.2.1,0)∧A2 (fe x,28,1)=Z (x.2.2.2.2.1,0)∧A2 (fe x,29,4)=Z ((W x.2.2.2.2.2:Y),0))∧
  (B0 (fe x,4,8)=Z (x.1,0)/\B0 (fe x,12,8)=Z (x.2.1,0)/\B0 (fe x,20,4)=Z (x.2.2.1,0)/\B0 (fe x,24,4)=Z (x.2.2.2.1,0)/\B0 (fe x,28,1)=Z (x.2.2.2.2.1,0)/\B0 (fe x,29,4)=Z ((W x.2.2.2.2.2:Y),0)):=by
 have⟨i,j,l,m,n,o⟩:=h.inr;have q:=aZ x;have a:fe x=[80,77,82,78]++(C4 x.1 8++(C4 x.2.1 8++(C4 x.2.2.1 4++(C4 x.2.2.2.1 4++(C4 x.2.2.2.2.1 1++(C4 (W x.2.2.2.2.2:Y) 4++[])))))):=by rw[Dc];rfl
 generalize fe x=p at*;have b:=lU (k:=8) (at_:=4) a g! o! g! g! i;rw[<-A3]at a;have c:=lU (k:=8) (at_:=12) a (by simp only[Aa,Az];decide) o! g! g! j;rw[<-A3]at a;have d:=lU (k:=4) (at_:=20) a (by simp only[Aa,Az];decide) o! g! g! l;rw[<-A3]at a;have e:=lU (k:=4) (at_:=24) a (by simp only[Aa,Az];decide) o! g! g! m;rw[<-A3]at a;have f:=lU (k:=1) (at_:=28) a (by simp only[Aa,Az];decide) o! g! g! n;rw[<-A3]at a;have g:=lU (k:=4) (at_:=29) a (by simp only[Aa,Az];decide) o! g! g! o;exact⟨⟨b.1,c.1,d.1,e.1,f.1,g.1⟩,b.2,c.2,d.2,e.2,f.2,g.2⟩
def AKe{x p:Bd}{n:Y}{z:ZR}{j:Bd}(D_:W x≤1099511627776)(l:x=HZ p++j)(hn:0≤n)(o:n≤4096):An (Ai (G0 x n) (((HZ p).length:Y),0,[],z)) λr=>(∃u,r=.inl u∧u.1≠0)∨
  ∃a b,r=.inr (((HZ p++Kw a).length:Y),a,z)/\(W a:Y)=n/\x=(HZ p++Kw a)++b/\∀e∈a,HA e.2.2.2.2.2.2.1.2.2.1/\HA e.2.2.2.2.2.2.1.2.2.2:=by
 refine CQ (λs=>∃a b,s=(((HZ p++Kw a).length:Y),(W a:Y),a,z)/\(W a:Y)<=n/\x=(HZ p++Kw a)++b/\∀e∈a,HA e.2.2.2.2.2.2.1.2.2.1/\HA e.2.2.2.2.2.2.1.2.2.2) (λs=>(n-s.2.1).toNat)
  ⟨[],j,by simp[Kw],by simpa using hn,by simpa[Kw]using l,λe c=>by cases c⟩ ?_
 rintro s ⟨a,b,rfl,E_,h,i⟩;unfold G0;dsimp only;refine AC (λm=>?_) (λm=>k? (.inr ⟨a,b,rfl,o!,h,i⟩));have g:=E! W h;rw[Aa]at g;rw[(by grind[To]:Bk (x,((HZ p++Kw a).length:Y))=Z (UF (HZ p++Kw a).length b)),AD];refine AL (λc=>k? (.inl ⟨_,rfl,c⟩)) (λc=>?_);have⟨H,⟨d,t⟩,I⟩:=zB c;refine AA (AJd o!) λv q=>AL (λc=>k? (.inl ⟨_,rfl,c⟩)) (λf=>?_);have⟨y,A,B,J,K⟩:=q f;refine AA (AZ w!) λw C=>?_;have k:HZ p++Kw (a++[v.1])=(HZ p++Kw a)++HZ (B3 v.1):=by rw[TA,A3]
 rw[AY];refine y! ⟨a++[v.1],d,?_,by rw[Aa,Bh,Bi];omega,?_,λe c=>?_⟩ d!
 have F:((HZ p++Kw (a++[v.1])).length:Y)=((HZ p++Kw a).length:Y)+8+((UF (HZ p++Kw a).length b).1.length:Y):=by grind[n?,HZ,Kw,EQ]
 have G:((a++[v.1]).length:Y)=(W a:Y)+1:=by grind[n?,List.length_cons,List.length_nil]
 grind[Prod.ext];rw[k,<-y,A3,<-t];exact h;rcases Ak.1 c with c|c;exact i e c;rw[A5.1 c];exact⟨A,B⟩
def AJe{x:Bd}(w:W x<=1099511627776):An (Fq x) λr=>r.2=0->x=Nb r.1/\VR r.1:=by unfold Fq;have q:Bk (x,0)=Z (UF 0 x):=To (a:=[]) (t:=x) w!;rw[q,AD];refine AL (λh=>AB λb=>O! b h) (λh=>?_);have⟨Q,⟨P,z⟩,A⟩:=zB h;generalize UF 0 x=v0 at*;refine AL (y? λb=>O! (show(4:Y)=0 from b) g!) (λg=>?_);simp[len]at g;rw[(by grind[R4]:R4 v0.1 0 4=Z (v0.1.take 4)),AD];refine AL (y? λb=>O! (show(4:Y)=0 from b) g!) (λm=>?_);have⟨K,L,M,N,O,y,⟨a2,a3,a4,a5,a6,a7⟩,⟨C,D_,E_,F,G,H⟩,J,j⟩:=wn (by omega:W v0.1=33) (by simpa using m);unfold Bg;rw[a2,a3,a4,a5,a6,a7];simp only[AD];refine AC (y? λb=>O! (show(4:Y)=0 from b) g!) (λo=>?_);rw[(by rw[A,EQ];omega:v0.2.1=((HZ v0.1).length:Y))];refine AA (AKe (n:=y) w z j (by first|omega|(dsimp only;omega))) λr hr=>?_;rcases hr with⟨u,rfl,s⟩|⟨I,e,rfl,i,k,p⟩;grind[BF,AB];apply Ay;dsimp only at i⊢;have l:=E! W k;rw[Aa]at l;refine AL (y? λb=>O! (show(4:Y)=0 from b) g!) (λd=>?_);have c:e=[]:=D8 (by simp only[len]at d;omega);subst c;refine AA (YX) λB f=>AP (y? λb=>O! (show(40:Y)=0 from b) g!) (λv=>AB λ_=>⟨?_,f.1 v⟩);grind[Nb,fe]
def ya{x}(h:VR x):Fq (Nb x)=Z (x,0):=by
 have D_:=h.1.2.2.2.2.2.2.2.2;have j:=h.len;have o:=aZ x;have⟨⟨a2,a3,a4,a5,a6,a7⟩,v,y,z,A,B,C⟩:=zi h.1;unfold Fq;have p:Bk (Nb x,0)=Z (fe x,((HZ (fe x)).length:Y),0):=by refine(To (a:=[]) (t:=Nb x) w!).trans (E! Z ?_);grind[Nb,kJ,EQ,Prod.ext,List.length_nil]
 have l:(fe x).take 4=[80,77,82,78]:=rfl;rw[p,AD];dsimp only[O];rw[show((0:Y) !=0)=X by decide,A!,o,show(((33:U):Y) !=33)=X by decide,A!];rw[(by grind[R4]:R4 (fe x) 0 4=Z ((fe x).take 4)),AD,l,H!,A!];unfold Bg;rw[a2,a3,a4,a5,a6,a7];simp only[AD];rw[F! o!,A!];have key:An (Ai (G0 (Nb x) (W x.2.2.2.2.2:Y)) (((HZ (fe x)).length:Y),0,[],x.1,x.2.1,x.2.2.1,x.2.2.2.1,x.2.2.2.2.1,0,0,0,0,0,[])) λr=>r=.inr (((Nb x).length:Y),x.2.2.2.2.2,x.1,x.2.1,x.2.2.1,x.2.2.2.1,x.2.2.2.2.1,0,0,0,0,0,[]):=by
  refine CQ (λs=>∃k:U,k<=W x.2.2.2.2.2/\s=(((HZ (fe x)++Kw (x.2.2.2.2.2.take k)).length:Y),(k:Y),x.2.2.2.2.2.take k,x.1,x.2.1,x.2.2.1,x.2.2.2.1,x.2.2.2.2.1,0,0,0,0,0,[])) (W x.2.2.2.2.2-·.2.1.toNat)
   ⟨0,BV _,by simp[Kw]⟩ ?_
  rintro s ⟨k,F,rfl⟩;unfold G0;dsimp only;refine AC (λn=>?_) (λn=>k? ?_)
  ·have i:k<W x.2.2.2.2.2:=o!
   have c:=(h.ent (F8 i)).1;have e:Kw x.2.2.2.2.2=Kw (x.2.2.2.2.2.take k)++(HZ (B3 x.2.2.2.2.2[k])++Kw (x.2.2.2.2.2.drop (k+1))):=by grind[pM,List.drop_eq_getElem_cons,Kw,List.flatten_append,List.take_append_drop]
   have d:Nb x=(HZ (fe x)++Kw (x.2.2.2.2.2.take k))++(HZ (B3 x.2.2.2.2.2[k])++Kw (x.2.2.2.2.2.drop (k+1))):=by grind[Nb,t?]
   have g:=E! W d;rw[Aa]at g;have f:Bk (Nb x,((HZ (fe x)++Kw (x.2.2.2.2.2.take k)).length:Y))=Z (B3 x.2.2.2.2.2[k],((HZ (fe x)++Kw (x.2.2.2.2.2.take k)).length:Y)+8+((B3 x.2.2.2.2.2[k]).length:Y),0):=by
    conv=>lhs;arg 1;rw[d]
    rw[To o!,kJ (S8 c)]
   rw[f,AD];dsimp only;rw[show((0:Y) !=0)=X by decide,A!,AFk c,AD];dsimp only;rw[show((0:Y) !=0)=X by decide,A!];refine AA (AZ (by rw[BP];simp;omega)) λw u=>?_;rw[AY];refine y! ⟨k+1,o!,?_⟩ d!
   rw[u.1,Ck,Au i,nr,TA,<-A3,Aa (b:=HZ (B3 x.2.2.2.2.2[k])),EQ];grind[Prod.ext]
  rw[BM o!];rfl
 obtain⟨r,hr,rfl⟩:=key;rw[hr,AD,nt];dsimp only;rw[show(((Nb x).length:Y) !=O (Nb x))=X from H! _,A!];obtain⟨b,E_,q⟩:=(YX)
 have m:b=E:=q.2 h;grind[Bool.not_true]
def AKZ{x p:Bd}{n:(Y×Y)}{z:ZR}{j:Bd}(D_:W x≤1099511627776)(l:x=HZ p++j)(hn:0≤n.1)(o:n.1≤4096):An (Ai (LM x n) (((HZ p).length:Y),0,[],z)) λr=>(∃u,r=.inl u∧u.1≠0)∨
  ∃a b,r=.inr (((HZ p++Kw a).length:Y),a,z)/\(W a:Y)=n.1/\x=(HZ p++Kw a)++b/\∀e∈a,HA e.2.2.2.2.2.2.1.2.2.1/\HA e.2.2.2.2.2.2.1.2.2.2:=by
 refine CQ (λs=>∃a b,s=(((HZ p++Kw a).length:Y),(W a:Y),a,z)/\(W a:Y)<=n.1/\x=(HZ p++Kw a)++b/\∀e∈a,HA e.2.2.2.2.2.2.1.2.2.1/\HA e.2.2.2.2.2.2.1.2.2.2) (λs=>(n.1-s.2.1).toNat)
  ⟨[],j,by simp[Kw],by simpa using hn,by simpa[Kw]using l,λe c=>by cases c⟩ ?_
 rintro s ⟨a,b,rfl,E_,h,i⟩;unfold LM;dsimp only;refine AC (λm=>?_) (λm=>k? (.inr ⟨a,b,rfl,o!,h,i⟩));have g:=E! W h;rw[Aa]at g;rw[(by grind[XY]:Dq (x,((HZ p++Kw a).length:Y))=Z (UF (HZ p++Kw a).length b)),AD];refine AL (λc=>k? (.inl ⟨_,rfl,c⟩)) (λc=>?_);have⟨H,⟨d,t⟩,I⟩:=zB c;refine AA (AJS o!) λv q=>AL (λc=>k? (.inl ⟨_,rfl,c⟩)) (λf=>?_);have⟨y,A,B,J,K⟩:=q f;refine AA (AZ w!) λw C=>?_;have k:HZ p++Kw (a++[v.1])=(HZ p++Kw a)++HZ (B3 v.1):=by rw[TA,A3]
 rw[AY];refine y! ⟨a++[v.1],d,?_,by rw[Aa,Bh,Bi];omega,?_,λe c=>?_⟩ d!
 have F:((HZ p++Kw (a++[v.1])).length:Y)=((HZ p++Kw a).length:Y)+8+((UF (HZ p++Kw a).length b).1.length:Y):=by grind[n?,HZ,Kw,EQ]
 have G:((a++[v.1]).length:Y)=(W a:Y)+1:=by grind[n?,List.length_cons,List.length_nil]
 grind[Prod.ext];rw[k,<-y,A3,<-t];exact h;rcases Ak.1 c with c|c;exact i e c;rw[A5.1 c];exact⟨A,B⟩
def AJU{x:Bd}(H:W x<=1099511627776):An (LG x) λr=>r.2=0->x=Nb r.1/\WR r.1:=by
 unfold LG;have E_:Dq (x,0)=Z (UF 0 x):=XY (a:=[]) (t:=x) w!;rw[E_,AD];refine AL (λc=>AB λb=>O! b c) (λc=>?_);have⟨U,⟨T,J⟩,K⟩:=zB c;generalize UF 0 x=v0 at*;refine AL (y? λb=>O! (show(4:Y)=0 from b) g!) (λk=>?_);simp[len]at k;have q:W v0.1=33:=o!
 rw[AAK q,AD];refine AP (y? λb=>O! (show(4:Y)=0 from b) g!) (λD_=>?_);have⟨O,P,Q,R,S,I,⟨a2,a3,a4,a5,a6,a7⟩,⟨s,v,w,y,z,A⟩,N,m⟩:=wn q (by simpa using D_);rw[show wi (4+8)=12 from rfl,show wi (12+8)=20 from rfl,show wi (20+4)=24 from rfl,show wi (24+4)=28 from rfl,show wi (28+1)=29 from rfl];rw[s,v,w,y,z,A];simp only[AD];refine AP (y? λb=>O! (show(4:Y)=0 from b) g!) (λf=>?_);have f:=N! f;rw[(by rw[K,EQ];omega:v0.2.1=((HZ v0.1).length:Y))];refine AA (AKZ (n:=(I,0)) H J m (by first|omega|(dsimp only;omega))) λr hr=>?_;rcases hr with⟨u,rfl,F⟩|⟨M,i,rfl,l,o,g⟩;grind[BF,AB];apply Ay;dsimp only at l⊢;have p:=E! W o;rw[Aa]at p;refine AC (y? λb=>O! (show(4:Y)=0 from b) g!) (λh=>?_);have d:i=[]:=D8 (by simp only[len]at h;omega);subst d;refine AA (AAG) λL j=>AP (y? λb=>O! (show(40:Y)=0 from b) g!) (λG=>AB λ_=>⟨?_,?_⟩);grind[Nb,fe];have⟨B,C⟩:=j.2 G;exact⟨B,λe c=>⟨(g e c).1,(g e c).2,(C e c).2⟩⟩
def AJT{x}(h:VR x):LG (Nb x)=Z (x,0):=by
 have E_:=h.1.2.2.2.2.2.2.2.2;have j:=h.len;have l:=aZ x;have⟨⟨a2,a3,a4,a5,a6,a7⟩,m,n,o,p,q,u⟩:=zi h.1;unfold LG;have B:Dq (Nb x,0)=Z (fe x,((HZ (fe x)).length:Y),0):=by refine(XY (a:=[]) (t:=Nb x) w!).trans (E! Z ?_);grind[Nb,kJ,EQ,Prod.ext,List.length_nil]
 have v:(fe x).take 4=[80,77,82,78]:=rfl;rw[B,AD];dsimp only[O];rw[show((0:Y) !=0)=X by decide,A!,l,show(((33:U):Y) !=33)=X by decide,A!];rw[AAK l,AD,v,L!,Bn,A!];rw[show wi (4+8)=12 from rfl,show wi (12+8)=20 from rfl,show wi (20+4)=24 from rfl,show wi (24+4)=28 from rfl,show wi (28+1)=29 from rfl];rw[m,n,o,p,q,u];simp only[AD];rw[G! o!,Bn,A!];have key:An (Ai (LM (Nb x) ((W x.2.2.2.2.2:Y),0)) (((HZ (fe x)).length:Y),0,[],x.1,x.2.1,x.2.2.1,x.2.2.2.1,x.2.2.2.2.1,0,0,0,0,0,[])) λr=>r=.inr (((Nb x).length:Y),x.2.2.2.2.2,x.1,x.2.1,x.2.2.1,x.2.2.2.1,x.2.2.2.2.1,0,0,0,0,0,[]):=by
  refine CQ (λs=>∃k:U,k<=W x.2.2.2.2.2/\s=(((HZ (fe x)++Kw (x.2.2.2.2.2.take k)).length:Y),(k:Y),x.2.2.2.2.2.take k,x.1,x.2.1,x.2.2.1,x.2.2.2.1,x.2.2.2.2.1,0,0,0,0,0,[])) (W x.2.2.2.2.2-·.2.1.toNat)
   ⟨0,BV _,by simp[Kw]⟩ ?_
  rintro s ⟨k,F,rfl⟩;unfold LM;dsimp only;refine AC (λz=>?_) (λz=>k? ?_)
  ·have i:k<W x.2.2.2.2.2:=o!
   have c:=(h.ent (F8 i)).1;have A:=S8 c;have d:Kw x.2.2.2.2.2=Kw (x.2.2.2.2.2.take k)++(HZ (B3 x.2.2.2.2.2[k])++Kw (x.2.2.2.2.2.drop (k+1))):=by grind[pM,List.drop_eq_getElem_cons,Kw,List.flatten_append,List.take_append_drop]
   have g:Nb x=(HZ (fe x)++Kw (x.2.2.2.2.2.take k))++(HZ (B3 x.2.2.2.2.2[k])++Kw (x.2.2.2.2.2.drop (k+1))):=by grind[Nb,t?]
   have f:=E! W g;rw[Aa]at f;rw[(by grind[XY,kJ]:Dq (Nb x,((HZ (fe x)++Kw (x.2.2.2.2.2.take k)).length:Y))=Z (B3 x.2.2.2.2.2[k],((HZ (fe x)++Kw (x.2.2.2.2.2.take k)).length:Y)+8+((B3 x.2.2.2.2.2[k]).length:Y),0)),AD];dsimp only;rw[show((0:Y) !=0)=X by decide,A!,AJR c,AD];dsimp only;rw[show((0:Y) !=0)=X by decide,A!];refine AA (AZ (by rw[BP];simp;omega)) λw D_=>?_;rw[AY];refine y! ⟨k+1,o!,?_⟩ d!
   rw[D_.1,Ck,Au i,nr,TA,<-A3,Aa (b:=HZ (B3 x.2.2.2.2.2[k])),EQ];grind[Prod.ext]
  rw[BM o!];rfl
 obtain⟨r,hr,rfl⟩:=key;rw[hr,AD,nt];dsimp only;rw[F! (by first|omega|(simp[O];omega)),A!];obtain⟨b,y,C⟩:=(AAG)
 have e:b=E:=C.1 h;subst e;rw[y,AD,Bn,A!]
def frames(P:S Bd):Bd:=(P.map HZ).flatten
def Sml(P:S Bd):Prop:=∀p∈P,33<=W p/\W p<=255
def UY(p:Bd)(P:S Bd):frames (p::P)=HZ p++frames P:=rfl
def S9{p:Bd}(h:W p<=255):HZ p=UInt8.ofNat (W p)::0::0::0::(p++C4 (QA (C4 (W p:Y) 4++p)) 4):=by
 have e:C4 (W p:Y) 4=[UInt8.ofNat (W p),0,0,0]:=by simp only[C4];rw[show((W p:Y)%256).toNat=W p by omega,show((W p:Y)/256%256).toNat=0 by omega,show((W p:Y)/256/256%256).toNat=0 by omega,show((W p:Y)/256/256/256%256).toNat=0 by omega];rfl
 unfold HZ;grind
theorem rM{m n:U}(a:m<=255)(hn:n<=255)(h:UInt8.ofNat m=UInt8.ofNat n):m=n:=by grind[UInt8.toNat,UInt8.toNat_ofNat']
def AAC{n:U}(h:33<=n)(hn:n<=255)(e:UInt8.ofNat n=0):False:=by have:=E! UInt8.toNat e;rw[fu]at this;grind
def yJ:∀P Q,Sml P->Sml Q->∀(u v:Bd)(b:UInt8),frames P=u++v->frames Q=u++b::v->False
 |P,[],hP,hQ,u,v,b,h1,d=>by have:=E! W d;simp[frames]at this
 |[],q::Q,hP,hQ,u,v,b,h1,d=>by have B:=E! W h1;have y:=E! W d;rw[UY,Aa,EQ]at y;simp only[frames,Hj,List.flatten_nil,Bi,Aa,Bh]at B y;have:=hQ q (Av.2 (.inl rfl));omega
 |p::P,q::Q,hP,hQ,u,v,b,h1,d=>by
  obtain⟨I,n⟩:=hP p (Av.2 (.inl rfl));obtain⟨q1,q2⟩:=hQ q (Av.2 (.inl rfl));have f:Sml P:=λx w=>hP x (Av.2 (.inr w));have g:Sml Q:=λx w=>hQ x (Av.2 (.inr w));rw[UY]at h1 d;cases u with
  |nil=>rw[B5]at h1 d;rw[<-h1,S9 n,S9 q2,EW,EW]at d;injection d with _ d;injection d with d _;exact AAC I n d.symm
  |cons a u=>
   have i:=h1;have j:=d;rw[S9 n,EW,EW]at i;rw[S9 q2,EW,EW]at j;injection i with C _;injection j with D_ _;have o:W p=W q:=rM n q2 (C.trans D_.symm);have h:(HZ p).length=(HZ q).length:=by rw[EQ,EQ,o]
   rcases qO.1 h1 with⟨t,l,m⟩|⟨t,l,m⟩;rw[l,A3]at d;obtain⟨G,e⟩:=Ei d h.symm;exact yJ P Q f g t v b m e
   
   cases z:t.reverse with
   |nil=>
    have s:t=[]:=by simpa using z
    subst s;rw[Dc]at l;rw[B5]at m;rw[<-l,m]at d;obtain⟨G,e⟩:=Ei d h.symm;exact yJ P Q f g [] (frames P) b (by rw[B5]) (by rw[B5];exact e)
   |cons c r=>
    have k:t=r.reverse++[c]:=by have:=E! List.reverse z;rwa[List.reverse_reverse,List.reverse_cons]at this
    have E_:HZ q++frames Q=((a::u)++b::r.reverse)++(c::frames P):=by rw[d,m,k];simp only[A3,EW,B5]
    have F:(HZ q).length=((a::u)++b::r.reverse).length:=by have:=E! W l;rw[k]at this;simp only[Aa,Bh,Bi]at this⊢;omega
    obtain⟨_,e⟩:=Ei E_ F;cases Q with
    |nil=>exact O! (E! W e) (by simp[frames])
    |cons J Q=>
     obtain⟨M,K⟩:=g J (Av.2 (.inl rfl));rw[UY,S9 K,EW,EW]at e;injection e with _ e;cases P with
     |nil=>exact O! (E! W e) (by simp[frames])
     |cons H P=>obtain⟨L,A⟩:=f H (Av.2 (.inl rfl));rw[UY,S9 A,EW]at e;injection e with e _;exact AAC L A e.symm
def AHB{p q u w:Bd}{a b:UInt8}(m:W p=W q)(g:HZ p=u++a::w)(d:HZ q=u++b::w):a=b:=by
 have r:HZ p=(C4 (W p:Y) 4++p)++C4 (QA (C4 (W p:Y) 4++p)) 4:=by unfold HZ;rw[t?]
 have v:HZ q=(C4 (W p:Y) 4++q)++C4 (QA (C4 (W p:Y) 4++q)) 4:=by unfold HZ;rw[t?,m]
 rw[r]at g;rw[v]at d;have h:(C4 (W p:Y) 4++p).length=(C4 (W p:Y) 4++q).length:=by rw[Aa,Aa,m]
 generalize C4 (W p:Y) 4++p=A at*;generalize C4 (W p:Y) 4++q=B at*;have l:∀s,ck 4 (QA s):=λs=>by have:=aS s;exact⟨λ_=>by rw[show(256:Y)^4=4294967296 by decide];omega,o!⟩
 have C:=Az 4 (QA A);have D_:=Az 4 (QA B);rcases qO.1 g with⟨t,f,j⟩|⟨t,f,j⟩
 
 have:B=A:=by rw[f,A3]at d;exact(Ei d h.symm).1
 subst this;have:=g.symm.trans d;have:=(Ei this rfl).2;injection this;cases t with
 |nil=>
  rw[Dc]at f;rw[f]at h;have i:=(Ei d o!)
  have:B=A:=by rw[i.1,f]
  rw[this]at d;rw[d]at g;have:=(Ei g rfl).2;injection this with e _;exact e.symm
 |cons c t=>
  rw[EW]at j;injection j with n o;subst n o;have z:B++C4 (QA B) 4=(u++b::t)++C4 (QA A) 4:=by rw[d,A3,EW]
  obtain⟨x,y⟩:=Ei z (by rw[<-h,f,Aa,Aa,Bh,Bh]);have k:=YU g! (l B) (l A) y;rw[x,f]at k;exact(AGx k).symm
def ABS:∀P Q,Sml P→Sml Q→(∀(i:U)(p q s t:Bd),P[i]?=Z p→Q[i]?=Z q→p++s=q++t→W p=W q)→
  ∀(u v:Bd)(a b:UInt8),frames P=u++a::v->frames Q=u++b::v->a=b
 |[],Q,hP,hQ,hf,u,v,a,b,f,e=>by have:=E! W f;simp[frames]at this
 |P,[],hP,hQ,hf,u,v,a,b,f,e=>by have:=E! W e;simp[frames]at this
 |p::P,q::Q,hP,hQ,hf,u,v,a,b,f,e=>by
  obtain⟨G,E_⟩:=hP p (Av.2 (.inl rfl));obtain⟨q1,q2⟩:=hQ q (Av.2 (.inl rfl));have k:Sml P:=λx C=>hP x (Av.2 (.inr C));have l:Sml Q:=λx C=>hQ x (Av.2 (.inr C));have m:∀(i:U)(p q s t:Bd),P[i]?=Z p->Q[i]?=Z q->p++s=q++t->W p=W q:=λi p q s t A B=>hf (i+1) p q s t (by simpa using A) (by simpa using B);rw[UY]at f e;cases u with
  |nil=>rw[B5]at f e;rw[S9 E_,EW]at f;rw[S9 q2,EW]at e;injection f with y f;injection e with z e;rw[<-f]at e;simp only[EW,A3]at e;injection e with _ e;injection e with _ e;injection e with _ e;have:=hf 0 p q _ _ rfl rfl e.symm;rw[<-y,<-z,this]
  |cons c u=>
   have n:=f;have o:=e;rw[S9 E_,EW,EW]at n;rw[S9 q2,EW,EW]at o;injection n with A _;injection o with B _;have r:W p=W q:=rM E_ q2 (A.trans B.symm);have g:(HZ p).length=(HZ q).length:=by rw[EQ,EQ,r]
   rcases qO.1 f with⟨t,h,j⟩|⟨t,h,j⟩;rw[h,A3]at e;obtain⟨D_,w⟩:=Ei e g.symm;exact ABS P Q k l m t v a b j w;cases t with
   |nil=>rw[Dc]at h;rw[B5]at j;rw[<-h]at e;obtain⟨D_,w⟩:=Ei e g.symm;exact ABS P Q k l m [] v a b (by rw[B5];exact j.symm) (by rw[B5];exact w)
   |cons d t=>
    rw[EW]at j;injection j with y z;subst y z;have F:HZ q++frames Q=((c::u)++b::t)++frames P:=by rw[e];simp only[A3,EW]
    obtain⟨D_,w⟩:=Ei F (by rw[<-g,h];simp only[Aa,Bh]);exact AHB r h D_
def wZ{c d:Cj}(e:HA c)(f:HA d){s t:Bd}(h:VL c++s=VL d++t):(VL c).length=(VL d).length:=by
 have g: ∀{c:Cj},HA c-> ∃(n:U) (r:Bd),VL c=UInt8.ofNat n::r/\n<=255/\(VL c).length=if n=255 then 1 else n+1:=λ{c} e=>by
  have⟨b,w⟩:=c;have a:=e.1;dsimp only at a;unfold VL;cases b with
  |false=>exact⟨255,[],rfl,Al _,rfl⟩
  |true=>refine⟨w.length,w,?_,o!,?_⟩;grind[C4];grind[List.length_append,Az]
 grind[rM]
def ADK{e f:EN}(d:HA e.2.2.2.2.2.2.1.2.2.1/\HA e.2.2.2.2.2.2.1.2.2.2/\e.2.2.2.2.2.2.2=[])(g:HA f.2.2.2.2.2.2.1.2.2.1/\HA f.2.2.2.2.2.2.1.2.2.2/\f.2.2.2.2.2.2.2=[]){s t:Bd}(h:B3 e++s=B3 f++t):(B3 e).length=(B3 f).length:=by have⟨a1,a2,a3⟩:=d;have⟨a,b,c⟩:=g;unfold B3 at*;rw[a3,c]at*;simp at h;have st:∀{n m}{k}{x y:Bd},C4 n k++x=C4 m k++y->x=y:=λi=>(Ei i (by rw[Az,Az])).2;have h:=st (st (st (st (st (st (st (st h)))))));have l1:=wZ a1 a h;simp[Aa,Az,l1,(wZ a2 b ((Ei h l1).2))]
def AFb(x:AQ):S Bd:=fe x::x.2.2.2.2.2.map B3
def sI(x:AQ):Nb x=frames (AFb x):=by unfold Nb AFb;rw[UY];unfold Kw frames;rw[PM];rfl
def WR.sml{x}(h:WR x):Sml (AFb x):=λp a=>by rcases Av.1 a with rfl|a;rw[aZ];decide;obtain⟨e,f,rfl⟩:=Bs.1 a;have⟨b,c,d⟩:=h.2 e f;have l1:=k9 b;have l2:=k9 c;unfold B3;rw[d];simp[Aa,Az,Bi];omega
inductive AIC(s t:Bd):Prop where
 |more (u v:Bd) (b:UInt8) (h1:s=u++v) (h2:t=u++b::v)
 |less (u v:Bd) (b:UInt8) (h1:s=u++b::v) (h2:t=u++v)
 |other (u v:Bd) (a b:UInt8) (h:a≠b) (h1:s=u++a::v) (h2:t=u++b::v)
def AFQ{x y}(g:WR x)(j:WR y)(h:AIC (Nb x) (Nb y)):False:=by
 rw[sI,sI]at h;rcases h with⟨u,v,b,c,d⟩|⟨u,v,b,c,d⟩|⟨u,v,a,b,h,c,d⟩;exact yJ _ _ g.sml j.sml u v b c d;exact yJ _ _ j.sml g.sml u v b d c;refine h (ABS _ _ g.sml j.sml (λi p q s t k l o=>?_) u v a b c d);cases i with
 |zero=>grind[AFb,List.getElem?_cons_zero,Option.some.injEq,aZ]
 |succ i=>simp only[AFb,mN,CU,Tu]at k l;obtain⟨e,m,rfl⟩:=k;obtain⟨f,n,rfl⟩:=l;exact ADK (g.2 e (BO m)) (j.2 f (BO n)) o
def AF5{a b n k:U}{d:Q NE}(h:a<=k:=by omega)(c:k<a+n:=by omega):swR a b n d k=d[b+(k-a)]! :=if_pos ⟨h,c⟩
def AF6{a b n k:U}{d:Q NE}(e:a+n<=b)(h:b<=k:=by omega)(c:k<b+n:=by omega):swR a b n d k=d[a+(k-b)]! :=by unfold swR;rw[if_neg (by omega),if_pos ⟨h,c⟩]
def sj{a b n k:U}{d:Q NE}(h:k<a\/a+n<=k:=by omega)(c:k<b\/b+n<=k:=by omega):swR a b n d k=d[k]! :=by unfold swR;rw[if_neg (by omega),if_neg (by omega)]
def yg(s m e:U)(d:Q NE)(k:U):NE:=if s<=k/\k<s+(e-m)then d[m+(k-s)]! else if s+(e-m)<=k/\k<e then d[s+(k-(s+(e-m)))]! else d[k]!
def lq{s m e k:U}{d:Q NE}(h:s<=k:=by omega)(a:k<s+(e-m):=by omega):yg s m e d k=d[m+(k-s)]! :=if_pos ⟨h,a⟩
def pq{s m e k:U}{d:Q NE}(h:s+(e-m)<=k:=by omega)(a:k<e:=by omega):yg s m e d k=d[s+(k-(s+(e-m)))]! :=by unfold yg;rw[if_neg (by omega),if_pos ⟨h,a⟩]
theorem Vn{s m e k:U}{d:Q NE}(a:s<=m:=by omega)(b:m<=e:=by omega)(h:k<s\/e<=k:=by omega):yg s m e d k=d[k]! :=by unfold yg;rw[if_neg (by omega),if_neg (by omega)]
def rp{d:Q NE}{x y:U}(h:x=y):d[x]! =d[y]! :=by rw[h]
theorem AFq{m i j k:U}{d e:Q NE}(o:i<=m)(p:1<=j)(l:j<i)(n:m+j<=d.size)(a: ∀k,k<d.size->e[k]! =swR (m-i) m j d k)(b:k<d.size):yg (m-(i-j)) m (m+j) e k=yg (m-i) m (m+j) d k:=by
 rcases A0 k (m-i)with c|c
 ·rw[Vn (by omega) (by omega) (by omega),Vn (by omega) (by omega) (by omega),a k b,sj (by omega) (by omega)]
 rcases A0 k (m-i+j)with f|f
 ·rw[Vn (by omega) (by omega) (by omega),lq (by omega) (by omega),a k b,AF5 (by omega) (by omega)]
 rcases A0 k (m-(i-j)+j)with g|g
 ·rw[lq (by omega) (by omega),pq (by omega) (by omega),a _ (by omega),AF6 (by omega) (by omega) (by omega)];exact rp (by omega)
 rcases A0 k (m+j)with h|h
 ·rw[pq (by omega) (by omega),pq (by omega) (by omega),a _ (by omega),sj (by omega) (by omega)];exact rp (by omega)
 ·rw[Vn (by omega) (by omega) (by omega),Vn (by omega) (by omega) (by omega),a k b,sj (by omega) (by omega)]
theorem AFr{m i j k:U}{d e:Q NE}(p:i<=m)(n:1<=i)(l:i<j)(o:m+j<=d.size)(a: ∀k,k<d.size->e[k]! =swR (m-i) (m+j-i) i d k)(b:k<d.size):yg (m-i) m (m+(j-i)) e k=yg (m-i) m (m+j) d k:=by
 rcases A0 k (m-i)with c|c
 ·rw[Vn (by omega) (by omega) (by omega),Vn (by omega) (by omega) (by omega),a k b,sj (by omega) (by omega)]
 rcases A0 k (m-i+(j-i))with f|f
 ·rw[lq (by omega) (by omega),lq (by omega) (by omega),a _ (by omega),sj (by omega) (by omega)]
 rcases A0 k (m+(j-i))with g|g
 ·rw[pq (by omega) (by omega),lq (by omega) (by omega),a _ (by omega),AF5 (by omega) (by omega)];exact rp (by omega)
 rcases A0 k (m+j)with h|h
 ·rw[Vn (by omega) (by omega) (by omega),pq (by omega) (by omega),a _ (by omega),AF6 (by omega) (by omega) (by omega)];exact rp (by omega)
 ·rw[Vn (by omega) (by omega) (by omega),Vn (by omega) (by omega) (by omega),a k b,sj (by omega) (by omega)]
def ADm{d:Q NE}{a m b:U}(C:a<m)(D_:m<b)(E_:b≤d.size)(G:d.size≤16777216):
  An (E5 d.toList ((a:Y),((m:Y),(b:Y)))) λr=> ∃e:Q NE,r=e.toList/\e.size=d.size/\ ∀k,k<d.size->e[k]! =yg a m b d k:=by
 unfold E5;have q:wi ((m:Y)-(a:Y))=((m-a:U):Y):=by rw[oX];omega
 have t:wi ((b:Y)-(m:Y))=((b-m:U):Y):=by rw[oX];omega
 dsimp only;rw[q,t];refine AA (P:=λ(r:Y×R NE)=> ∃(i:U) (e:Q NE),r.1=i/\r.2=e.toList/\1<=i/\i<=m-a/\m+i<=b/\e.size=d.size/\ ∀k,k<d.size->yg (m-i) m (m+i) e k=yg a m b d k) ?_ ?_;refine AW (λ(s:Y×(Y×R NE))=> ∃(i j:U) (e:Q NE),s.1=i/\s.2.1=j/\s.2.2=e.toList/\1<=i/\1<=j/\i<=m-a/\m+j<=b/\e.size=d.size/\ ∀k,k<d.size->yg (m-i) m (m+j) e k=yg a m b d k) (λs=>(s.1+s.2.1).toNat)
  ⟨m-a,b-m,d,rfl,rfl,rfl,by omega,by omega,Al _,by omega,rfl,λk _=>by rw[show m-(m-a)=a by omega,show m+(b-m)=b by omega]⟩ ?_
 rintro⟨H,I,J⟩ ⟨i,j,e,q1,q2,q3,q4,q5,q6,q7,q8,q9⟩;dsimp only at q1 q2 q3;subst q1 q2 q3;unfold JM;dsimp only;have o:wi ((m:Y)-(i:Y))=((m-i:U):Y):=by rw[oX];omega
 rw[o];refine AL (λB=>?_) (λA=>AB ⟨i,e,rfl,rfl,q4,q6,by omega,q8,λk g=>?_⟩);apply AC<;>intro F;apply AA (ym (d:=e) (a:=m-i) (b:=m) (n:=j) (by omega) (by omega) (by omega));rintro v ⟨f,rfl,h,l⟩;have c:Nat.beq (List.length f.toList) (List.length e.toList)=true:=by rw[Dy,Dy,h];exact Hl _
 have p:wi ((i:Y)-(j:Y))=((i-j:U):Y):=by rw[oX];omega
 rw[c,cond_true,p];refine AB ⟨⟨i-j,j,f,rfl,rfl,rfl,by omega,q5,by omega,q7,by omega,λk g=>?_⟩,?_⟩;rw[AFq (by omega) q5 (by omega) (by omega) l (by omega),q9 k g];show(((i-j:U):Y)+(j:Y)).toNat<((i:Y)+(j:Y)).toNat
 omega;have u:wi (wi ((m:Y)+(j:Y))-(i:Y))=((m+j-i:U):Y):=by rw[oX (x:=(m:Y)+(j:Y)),oX];omega
 rw[u];apply AA (ym (d:=e) (a:=m-i) (b:=m+j-i) (n:=i) (by omega) (by omega) (by omega));rintro v ⟨f,rfl,h,l⟩;have c:Nat.beq (List.length f.toList) (List.length e.toList)=true:=by rw[Dy,Dy,h];exact Hl _
 have p:wi ((j:Y)-(i:Y))=((j-i:U):Y):=by rw[oX];omega
 rw[c,cond_true,p];refine AB ⟨⟨i,j-i,f,rfl,rfl,rfl,q4,by omega,q6,by omega,by omega,λk g=>?_⟩,?_⟩;rw[AFr (by omega) q4 (by omega) (by omega) l (by omega),q9 k g];show((i:Y)+((j-i:U):Y)).toNat<((i:Y)+(j:Y)).toNat
 omega;have:j=i:=by omega
 subst this;exact q9 k g;rintro⟨K,L⟩ ⟨i,e,q1,q2,q3,q4,q5,q6,q7⟩;dsimp only at q1 q2;subst q1 q2;dsimp only;have o:wi ((m:Y)-(i:Y))=((m-i:U):Y):=by rw[oX];omega
 rw[o];apply AA (ym (d:=e) (a:=m-i) (b:=m) (n:=i) (by omega) (by omega) (by omega));rintro v ⟨f,rfl,h,l⟩;have c:Nat.beq (List.length f.toList) (List.length e.toList)=true:=by rw[Dy,Dy,h];exact Hl _
 rw[c,cond_true];refine AB ⟨f,rfl,by omega,λk g=>?_⟩;rw[<-q7 k g,l k (by omega)];rcases A0 k (m-i)with w|w;rw[sj,Vn];rcases A0 k m with y|y;rw[AF5,lq];rcases A0 k (m+i)with z|z;rw[AF6 (by omega),pq];exact rp (by omega);rw[sj,Vn]
def AAA{i j:U}(h:i+j<=1099511627776):wi (Int.fdiv (IntKind.wrap .u64 (wi ((i:Y)+(j:Y)))) (2^(min (Int.toNat 1) 64)))=(((i+j)/2:U):Y):=by rw[ABN];omega
def bs{body:Y×Y→V (Step (Y×Y) Y)}{P:U→N}{b a:U}(m:∀i:U,body ((i:Y),(i:Y))=Z (.done (i:Y)))
  (s:∀i j:U,b<=i->i<j->j<=a->body ((i:Y),(j:Y))=Z (.next (if P ((i+j)/2)=E then((((i+j)/2+1:U):Y),(j:Y))else((i:Y),(((i+j)/2:U):Y))))) (l:b<=a):
  ∃r:U,Ai body ((b:Y),(a:Y))=Z (r:Y)/\b<=r/\r<=a/\(b<r->P (r-1)=E)/\(r<a->P r=X):=by
 suffices h:∀n i j:U,j-i<=n->b<=i->i<=j->j<=a->(b<i->P (i-1)=E)->(j<a->P j=X)->∃r:U,Ai body ((i:Y),(j:Y))=Z (r:Y)/\b<=r/\r<=a/\(b<r->P (r-1)=E)/\(r<a->P r=X)from
  h _ b a (Al _) (Al _) l (Al _) (O! · o!) (O! · o!)
 intro n;induction n with
 |zero=>
  intro i j p c q d e f;have:i=j:=o!
  subst this;rw[HX,m];exact⟨i,rfl,c,d,e,f⟩
 |succ n o=>intro i j p c q d e f;rw[HX];by_cases k:i=j;subst k;rw[m];exact⟨i,rfl,c,d,e,f⟩;rw[s i j c o! d];by_cases g:P ((i+j)/2)=E;rw[C! g];exact o _ j o! o! o! d (λ_=>by rw[nk];exact g) f;rw[D! g];exact o i _ o! c o! o! e (λ_=>by simpa using g)
def AKi{d:Q NE}{a m b:U}(o:a<d.size)(g:m≤b)(p:b≤d.size)(q:d.size≤16777216)(c:Y×Y):
  ∃r:U,Ai (DU d.toList ((a:Y),c)) ((m:Y),(b:Y))=some (r:Y)/\m<=r/\r<=b/\(m<r->lN d[r-1]! d[a]! =true)/\(r<b->lN d[r]! d[a]! =false):=by
 refine bs (P:=λk=>lN d[k]! d[a]!) (λi=>?_) (λi j h l n=>?_) g;unfold DU;have:decide ((i:Y)<(i:Y))=false:=q!
 dsimp only;rw[this,cond_false];unfold DU;have:decide ((i:Y)<(j:Y))=true:=w!
 dsimp only;rw[this,cond_true,AAA o!];obtain⟨v,e,f⟩:=AHn d[(i+j)/2]! d[a]!;rw[ixG (k:=(i+j)/2) rfl,ixG (k:=a) rfl];simp only[AD,e,f,wip (i:=(i+j)/2)];cases lN d[(i+j)/2]! d[a]! <;>rfl
def AKj{d:Q NE}{a r b:U}(h:a<r)(hr:r≤b)(w:b≤d.size)(x:d.size≤16777216):
  An (Ai (EB (r:Y)) ((a:Y),d.toList)) λq=>∃e:Q NE,q=e.toList/\Sort.PermIn a b d e/\(∀t,a<=t->t<r-1->e[t]! =d[t+1]!)/\e[r-1]! =d[a]! /\∀t,r<=t->e[t]! =d[t]! :=by
 refine AW (λ(s:Y×R NE)=>∃(k:U)(e:Q NE),s.1=k/\s.2=e.toList/\a<=k/\k<r/\Sort.PermIn a b d e/\(∀t,a<=t->t<k->e[t]! =d[t+1]!)/\e[k]! =d[a]! /\∀t,k<t->e[t]! =d[t]!) (λs=>r-s.1.toNat) ⟨a,d,rfl,rfl,Al _,h,Sort.permIn_refl _ _ _,λt _ _=>o!,rfl,λt _=>rfl⟩ ?_;rintro⟨z,A⟩ ⟨k,e,q1,q2,q3,q4,q5,q6,q7,q8⟩;dsimp only at q1 q2;subst q1 q2;have y:=q5.1;unfold EB;dsimp only;have l:wi ((r:Y)-1)=((r-1:U):Y):=by rw[wim];omega
 rw[l];refine AC (λn=>?_) (λn=>AB ⟨e,rfl,q5,λt g m=>q6 t g o!,?_,λt o=>q8 t o!⟩);have p:ix e.toList ((k+1:U):Y)=δ e[k+1]! :=ixG rfl;have u:ix e.toList (k:Y)=δ e[k]! :=ixG rfl;have v:ix (EU e.toList (k:Y) e[k+1]!) ((k+1:U):Y)=δ (e.setIfInBounds k e[k+1]!)[k+1]! :=AHH rfl rfl;simp only[wip (i:=k),p,u,v,AD,AH0 (d:=e) (a:=k) (b:=k+1) rfl rfl];have c:=Sort.swp_get e (i:=k) (j:=k+1) o! o!;refine AB ⟨⟨k+1,_,rfl,rfl,o!,o!,Sort.permIn_trans _ _ _ _ _ q5 (Sort.swp_permIn e a b k (k+1) q3 o! o! o! o!),λt g m=>?_,?_,λt o=>?_⟩,?_⟩;rw[c,D! o!];by_cases f:t=k;subst f;rw[C! rfl];exact q8 _ o!;rw[D! f];exact q6 t g o!;rw[c,C! rfl];exact q7;rw[c,D! o!,D! o!];exact q8 t o!;show r-((k+1:U):Y).toNat<r-((k:U):Y).toNat
 omega;have:k=r-1:=o!
 rw[<-this];exact q7
def AFy{d:Q NE}{a b:U}(o:a+1≤b)(z:b≤d.size)(A:d.size≤16777216)(k:Sort.SortedIn lN (a+1) b d)(c:Y×Y):
  An (σ (Ai (DU d.toList ((a:Y),c)) (((a+1:U):Y),(b:Y))) λv=>σ (Ai (EB v) ((a:Y),d.toList)) λw=>Z w) λq=>∃e:Q NE,q=e.toList/\Sort.PermIn a b d e/\Sort.SortedIn lN a b e:=by
 obtain⟨r,g,H,I,J,K⟩:=AKi (d:=d) (a:=a) (m:=a+1) (b:=b) o! o z A c;rw[g,AD];apply AA (AKj (d:=d) (a:=a) (r:=r) (b:=b) o! I z A);rintro q ⟨e,rfl,G,n,B,C⟩;refine AB ⟨e,rfl,G,λx y p s u=>?_⟩;have W:=vZ;have F:∀t,a+1<=t->t<r->lN d[a]! d[t]! =X:=λt h l=>by
  have f:=J o!;cases D_:lN d[a]! d[t]! with
  |false=>rfl
  |true=>have i:=W.trans _ _ _ f D_;rcases A0 t (r-1)with j|j;exact O! i (by rw[k t (r-1) h j o!];decide);rw[show t=r-1 by omega,W.irrefl]at i;cases i
 have E_:∀t,r<=t->t<b->lN d[t]! d[a]! =X:=λt h l=>by have f:=K o!;rcases A0 r t with j|j;exact W.ntrans _ _ _ (k r t H j l) f;rw[show t=r by omega];exact f
 rcases A0 y (r-1)with h|h;rw[n x p o!,n y o! h];exact k (x+1) (y+1) o! o! o!;rcases A0 (r-1) y with l|l;rw[C y o!];rcases A0 x (r-1)with f|f;rw[n x p f];exact k (x+1) y o! o! u;rcases A0 (r-1) x with i|i;rw[C x o!];exact k x y o! s u;rw[show x=r-1 by omega,B];exact E_ y o! u;rw[show y=r-1 by omega,B,n x p o!];exact F (x+1) o! o!
def AKk{d:Q NE}{a m:U}(l:a≤m)(w:m<d.size)(u:d.size≤16777216)(b:Y):
  ∃r:U,Ai (Ca d.toList ((a:Y),((m:Y),b))) ((a:Y),(m:Y))=some (r:Y)/\a<=r/\r<=m/\(a<r->lN d[m]! d[r-1]! =false)/\(r<m->lN d[m]! d[r]! =true):=by
 have c: ∀i:U,Ca d.toList ((a:Y),((m:Y),b)) ((i:Y),(i:Y))=some (.done (i:Y)):=λi=>by
  unfold Ca;have:decide ((i:Y)<(i:Y))=false:=q!
  dsimp only;rw[this,cond_false]
 have e: ∀i j:U,a<=i->i<j->j<=m->Ca d.toList ((a:Y),((m:Y),b)) ((i:Y),(j:Y))=some (.next (if(!lN d[m]! d[(i+j)/2]!)=true then((((i+j)/2+1:U):Y),(j:Y))else((i:Y),(((i+j)/2:U):Y)))):=λi j q s t=>by
  unfold Ca;have:decide ((i:Y)<(j:Y))=true:=w!
  dsimp only;rw[this,cond_true,AAA o!];obtain⟨v,f,g⟩:=AHn d[m]! d[(i+j)/2]!;rw[ixG (k:=(i+j)/2) rfl,ixG (k:=m) rfl];simp only[AD,f,g,wip (i:=(i+j)/2)];cases lN d[m]! d[(i+j)/2]! <;>rfl
 obtain⟨r,f,g,n,o,p⟩:=bs (P:=λk=>!lN d[m]! d[k]!) c e l;exact⟨r,f,g,n,λh=>by simpa using o h,λh=>by simpa using p h⟩
def AKl{d:Q NE}{a r m:U}(n:a≤r)(hr:r≤m)(y:m<d.size)(x:d.size≤16777216):
  An (Ai (EC (r:Y)) ((m:Y),d.toList)) λq=>∃e:Q NE,q=e.toList/\Sort.PermIn a (m+1) d e/\(∀t,r<t->t<=m->e[t]! =d[t-1]!)/\e[r]! =d[m]! /\∀t,t<r->e[t]! =d[t]! :=by
 refine AW (λ(s:Y×R NE)=>∃(k:U)(e:Q NE),s.1=k/\s.2=e.toList/\r<=k/\k<=m/\Sort.PermIn a (m+1) d e/\(∀t,k<t->t<=m->e[t]! =d[t-1]!)/\e[k]! =d[m]! /\∀t,t<k->e[t]! =d[t]!) (λs=>s.1.toNat) ⟨m,d,rfl,rfl,hr,Al _,Sort.permIn_refl _ _ _,λt _ _=>o!,rfl,λt _=>rfl⟩ ?_;rintro⟨A,B⟩ ⟨k,e,q1,q2,q3,q4,q5,q6,q7,q8⟩;dsimp only at q1 q2;subst q1 q2;have z:=q5.1;unfold EC;dsimp only;refine AC (λo=>?_) (λo=>AB ⟨e,rfl,q5,λt l g=>q6 t o! g,?_,λt p=>q8 t o!⟩);have h:wi ((k:Y)-1)=((k-1:U):Y):=by rw[wim];omega
 have u:ix e.toList ((k-1:U):Y)=δ e[k-1]! :=ixG rfl;have v:ix e.toList (k:Y)=δ e[k]! :=ixG rfl;have w:ix (EU e.toList (k:Y) e[k-1]!) ((k-1:U):Y)=δ (e.setIfInBounds k e[k-1]!)[k-1]! :=AHH rfl rfl;simp only[h,u,v,w,AD,AH0 (d:=e) (a:=k) (b:=k-1) rfl rfl];have c:=Sort.swp_get e (i:=k) (j:=k-1) o! o!;refine AB ⟨⟨k-1,_,rfl,rfl,o!,o!,Sort.permIn_trans _ _ _ _ _ q5 (Sort.swp_permIn e a (m+1) k (k-1) o! o! o! o! o!),λt l g=>?_,?_,λt p=>?_⟩,?_⟩;rw[c,D! o!];by_cases f:t=k;subst f;rw[C! rfl];exact q8 _ o!;rw[D! f];exact q6 t o! g;rw[c,C! rfl];exact q7;rw[c,D! o!,D! o!];exact q8 t o!;show((k-1:U):Y).toNat<((k:U):Y).toNat
 omega;have:k=r:=o!
 rw[<-this];exact q7
def AHu{d:Q NE}{a m:U}(n:a≤m)(u:m<d.size)(s:d.size≤16777216)(k:Sort.SortedIn lN a m d)(b:Y):
  An (σ (Ai (Ca d.toList ((a:Y),(m:Y),b)) ((a:Y),(m:Y))) λv=>σ (Ai (EC v) ((m:Y),d.toList)) λw=>Z w) λq=>∃e:Q NE,q=e.toList/\Sort.PermIn a (m+1) d e/\Sort.SortedIn lN a (m+1) e:=by
 obtain⟨r,g,B,G,H,I⟩:=AKk (d:=d) (a:=a) (m:=m) n u s b;rw[g,AD];apply AA (AKl (d:=d) (a:=a) (r:=r) (m:=m) B G u s);rintro q ⟨e,rfl,F,z,A,l⟩;refine AB ⟨e,rfl,F,λx y o p J=>?_⟩;have W:=vZ;have E_:∀t,a<=t->t<r->lN d[m]! d[t]! =X:=λt h i=>by have c:=H o!;rcases A0 t (r-1)with j|j;exact W.ntrans _ _ _ c (k t (r-1) h j o!);rw[show t=r-1 by omega];exact c
 have D_:∀t,r<=t->t<m->lN d[t]! d[m]! =X:=λt h i=>by
  have c:=I o!;cases C:lN d[t]! d[m]! with
  |false=>rfl
  |true=>have f:=W.trans _ _ _ C c;rcases A0 r t with j|j;exact O! f (by rw[k r t B j i];decide);rw[show t=r by omega,W.irrefl]at f;cases f
 rcases A0 y r with h|h;rw[l x o!,l y h];exact k x y o p o!;rcases A0 r y with i|i;rw[z y i o!];rcases A0 x r with c|c;rw[l x c];exact k x (y-1) o o! o!;rcases A0 r x with f|f;rw[z x f o!];exact k (x-1) (y-1) o! o! o!;rw[show x=r by omega,A];exact D_ (y-1) o! o!;rw[show y=r by omega,A,l x o!];exact E_ x o o!
def AKm{d:Q NE}{a m b lo hi:U}(l:lo≤hi)(s:a≤lo)(t:hi≤m)(u:(a+b)/2+m-lo≤b)(y:hi≤(a+b)/2+m)(w:m≤b)(z:b≤d.size)(A:d.size≤16777216):
  ∃r:U,Ai (Cq d.toList ((a:Y),((m:Y),(b:Y)))) ((lo:Y),(hi:Y))=some (r:Y)/\lo<=r/\r<=hi/\(lo<r->lN d[(a+b)/2+m-1-(r-1)]! d[r-1]! =false)/\(r<hi->lN d[(a+b)/2+m-1-r]! d[r]! =true):=by
 have c: ∀i:U,Cq d.toList ((a:Y),((m:Y),(b:Y))) ((i:Y),(i:Y))=some (.done (i:Y)):=λi=>by
  unfold Cq;have:decide ((i:Y)<(i:Y))=false:=q!
  dsimp only;rw[this,cond_false]
 have e: ∀i j:U,lo<=i->i<j->j<=hi->Cq d.toList ((a:Y),((m:Y),(b:Y))) ((i:Y),(j:Y))=some (.next (if(!lN d[(a+b)/2+m-1-(i+j)/2]! d[(i+j)/2]!)=true then((((i+j)/2+1:U):Y),(j:Y))else((i:Y),(((i+j)/2:U):Y)))):=λi j s t u=>by
  unfold Cq;have:decide ((i:Y)<(j:Y))=true:=w!
  dsimp only;rw[this,cond_true,AAA (i:=i) (j:=j) o!,AAA (i:=a) (j:=b) o!];have n:wi (wi (wi ((((a+b)/2:U):Y)+(m:Y))-1)-(((i+j)/2:U):Y))=(((a+b)/2+m-1-(i+j)/2:U):Y):=by rw[oX (x:=(((a+b)/2:U):Y)+(m:Y)),oX (x:=(((a+b)/2:U):Y)+(m:Y)-1),oX];omega
  obtain⟨v,f,g⟩:=AHn d[(a+b)/2+m-1-(i+j)/2]! d[(i+j)/2]!;rw[n,ixG (k:=(i+j)/2) rfl,ixG (k:=(a+b)/2+m-1-(i+j)/2) rfl];simp only[AD,f,g,wip (i:=(i+j)/2)];cases lN d[(a+b)/2+m-1-(i+j)/2]! d[(i+j)/2]! <;>rfl
 obtain⟨r,f,g,o,p,q⟩:=bs (P:=λk=>!lN d[(a+b)/2+m-1-k]! d[k]!) c e l;exact⟨r,f,g,o,λh=>by simpa using p h,λh=>by simpa using q h⟩
def AHm{s m e:U}{d f:Q NE}(o:s<=m)(p:m<=e)(b:e<=d.size)(c:f.size=d.size)(h:∀k,k<d.size->f[k]! =yg s m e d k):Sort.PermIn s e d f:=by
 refine⟨c,λi a=>?_,?_⟩;grind[Nat.lt_or_ge,Vn];have key:∀(g:U->NE)(s n:U),(List.range' s n).map g=(List.range n).map λi=>g (s+i):=λg s n=>by rw[List.range'_eq_map_range,PM];rfl
 rw[Sort.extract_toList f s e o!,Sort.extract_toList d s e b];have j:List.range' s (e-s)=List.range' s (e-m)++List.range' (s+(e-m)) (m-s):=k!
 have l:List.range' s (e-s)=List.range' s (m-s)++List.range' (s+(m-s)) (e-m):=k!
 have l1:(List.range' s (e-m)).map (λi=>f[i]!)=(List.range' (s+(m-s)) (e-m)).map λi=>d[i]! :=by rw[key,key];refine NT λi a=>?_;have:=IH.1 a;rw[h _ o!,lq];simp_all
 have l2:(List.range' (s+(e-m)) (m-s)).map (λi=>f[i]!)=(List.range' s (m-s)).map λi=>d[i]! :=by rw[key,key];refine NT λi a=>?_;have:=IH.1 a;rw[h _ o!,pq];simp_all
 grind
def y9(a b:U)(d e:Q NE):Prop:=Sort.PermIn a b d e/\Sort.SortedIn lN a b e
def pr{a m b:U}{d}(h:m<=a\/b<=m)(c:Sort.SortedIn lN a m d)(e:Sort.SortedIn lN m b d)(f:a<=m)(g:m<=b):Sort.SortedIn lN a b d:=by
 rcases h with h|h;have:m=a:=o!
 rw[<-this];exact e;have:m=b:=o!
 rw[<-this];exact c
def ALO{C:List NE×(Int×(Int×Int))→Option (List NE)}{N a m b:Nat}{d:Array NE}(a4:a<m)(a5:m<b)(hb:b≤d.size)(hd:d.size≤16777216)(s:Sort.SortedIn lN a m d)(A:Sort.SortedIn lN m b d)
  (O: ∀(S:Array NE) (V m' R:Nat),V<m'->m'<R->R<=S.size->S.size<=16777216->Sort.SortedIn lN V m' S->Sort.SortedIn lN m' R S->PT (R-V<=N) (C (S.toList,((V:Int),((m':Int),(R:Int))))) λr=> ∃e:Array NE,r=e.toList/\y9 V R S e):
  PT (b-a<=N+1) (CO C d.toList ((a:Int),((m:Int),(b:Int)))) λr=> ∃e:Array NE,r=e.toList/\y9 a b d e:=by
 have W:=vZ;unfold CO;have e0:wi ((m:Int)-(a:Int))=((m-a:Nat):Int):=by grind[oX]
 have e1:wi ((b:Int)-(m:Int))=((b-m:Nat):Int):=by grind[oX]
 dsimp only;rw[e0,e1,AAA (i:=a) (j:=b) o!];apply PT.cond<;>intro Q;have Q:m=a+1:=by have:=eq_of_beq Q;omega
 subst Q;exact lH (AFy o! hb hd A _);apply PT.cond<;>intro n;have n:b=m+1:=by have:=eq_of_beq n;omega
 subst n;exact lH (AHu o! hb hd s _);have n1:m-a≠1:=λh=>by rw[h]at Q;exact absurd Q g!
 have n2:b-m≠1:=λh=>by rw[h]at n;exact absurd n g!
 have Y:a<(a+b)/2/\(a+b)/2<b:=o!
 generalize hM:(a+b)/2=M at Y⊢;have e2:wi ((M:Int)+(m:Int))=((M+m:Nat):Int):=by rw[oX];omega
 rw[e2];refine PT.bind (P:=λv=> ∃L J:Nat,v=((L:Int),(J:Int))/\L<=J/\a<=L/\J<=m/\J<=M/\M+m-L<=b/\(L=a\/M+m-L=b)/\(J=m\/J=M)) ?_ ?_;refine PT.dec (λhc=>PT.some ⟨M+m-b,M,?_,o!⟩) (λhc=>PT.some ⟨a,m,rfl,o!⟩);rw[oX];exact congrArg (λz=>(z,(M:Int))) o!;rintro v ⟨L,J,rfl,f1,f2,f3,f4,f5,f6,f7⟩;have⟨r,g,r1,r2,r3,r4⟩:=AKm (d:=d) (a:=a) (m:=m) (b:=b) (lo:=L) (hi:=J) f1 f2 f3 o! o! o! hb hd;rw[hM]at r3 r4;rw[g,AD];have e3:wi (((M+m:Nat):Int)-(r:Int))=((M+m-r:Nat):Int):=by rw[oX];omega
 simp only[e3];obtain⟨E_,hE⟩: ∃E_,E_=M+m-r:=⟨_,rfl⟩
 rw[<-hE];have c1:a<r->E_<b->lN d[E_]! d[r-1]! =false:=λQ n=>by have:=r3 o!;rw[show M+m-1-(r-1)=E_ by omega]at this;exact this
 have c2:r<m->m<E_->lN d[E_-1]! d[r]! =true:=λQ n=>by have:=r4 o!;rw[show M+m-1-r=E_-1 by omega]at this;exact this
 have s3: ∀c l:Array NE,Sort.PermIn a b d c->(∀k,k<d.size->c[k]! =yg r m E_ d k)->y9 a M c l->PT (b-a<=N+1) (bif decide ((M:Int)<(E_:Int))then Option.bind (bif decide ((E_:Int)<(b:Int))then Option.bind (C (l.toList,((M:Int),((E_:Int),(b:Int))))) λv=>bif Nat.beq (List.length v) (List.length l.toList)then some v else none else some l.toList) λv=>some v else some l.toList) λq=> ∃e:Array NE,q=e.toList/\y9 a b d e:=by
  intro c l U f n;have z1:c.size=d.size:=U.1;have z2:l.size=c.size:=n.1.1;have ar: ∀k,k<r->c[k]! =d[k]! :=λk hk=>by rw[f k o!,Vn]
  have ax: ∀k,r<=k->k<M->c[k]! =d[m+(k-r)]! :=λk h h'=>by rw[f k o!,lq]
  have H: ∀k,M<=k->k<E_->c[k]! =d[r+(k-M)]! :=λk h h'=>by rw[f k o!,pq];exact rp o!
  have I: ∀k,E_<=k->k<b->c[k]! =d[k]! :=λk h h'=>by rw[f k o!,Vn]
  have a0: ∀x y,a<=x->x<M->M<=y->y<b->lN c[y]! c[x]! =false:=by
   intro x y F a3 G K;rcases A0 x r with q1|q1;rw[ar x q1];rcases A0 y E_ with q2|q2;rw[H y G q2];exact s x _ F o! o!;rw[I y q2 K];have k1:lN d[y]! d[E_]! =false:=by rcases A0 E_ y with q3|q3;exact A E_ y o! q3 K;rw[show y=E_ by omega];exact W.irrefl _
   have k2:lN d[r-1]! d[x]! =false:=by rcases A0 x (r-1)with q3|q3;exact s x (r-1) F q3 o!;rw[show r-1=x by omega];exact W.irrefl _
   exact W.ntrans _ _ _ (W.ntrans _ _ _ k1 (c1 o! o!)) k2;rw[ax x q1 a3];rcases A0 y E_ with q2|q2;rw[H y G q2];have hc:=c2 o! o!;have k1:lN d[E_-1]! d[m+(x-r)]! =false:=by rcases A0 (m+(x-r)) (E_-1)with q3|q3;exact A _ (E_-1) o! q3 o!;rw[show m+(x-r)=E_-1 by omega];exact W.irrefl _
   refine W.ntrans _ d[E_-1]! _ ?_ k1;cases hk:lN d[r+(y-M)]! d[E_-1]! with
   |false=>rfl
   |true=>have k2:=W.trans _ _ _ hk hc;rcases A0 r (r+(y-M))with q3|q3;exact absurd k2 (by rw[s r _ o! q3 o!];decide);rw[show r+(y-M)=r by omega,W.irrefl]at k2;cases k2
   rw[I y q2 K];exact A _ y o! o! K
  have X_: ∀d3:Array NE,y9 M b l d3->y9 a b d d3:=λd3 T=>by refine⟨Sort.permIn_trans _ _ _ _ _ U (Sort.permIn_trans _ _ _ _ _ (Sort.permIn_mono _ _ a M a b o! o! o! n.1) (Sort.permIn_mono _ _ M b a b o! o! o! T.1)),λx y F B G=>?_⟩;rcases A0 y M with q1|q1;rw[T.1.2.1 x o!,T.1.2.1 y o!];exact n.2 x y F B q1;rcases A0 x M with q2|q2;rw[T.1.2.1 x o!];refine Sort.permIn_all l d3 M b (λz=>lN z l[x]! =false) o! T.1 (λw hw a2=>?_) y q1 G;rw[n.1.2.1 w o!];exact Sort.permIn_all c l a M (λz=>lN c[w]! z=false) o! n.1 (λu hu a1=>a0 u w hu a1 hw a2) x F q2;exact T.2 x y q2 B G
  have ao:Sort.SortedIn lN M E_ l:=λx y F B G=>by rw[n.1.2.1 x o!,n.1.2.1 y o!,H x F o!,H y o! G];exact s _ _ o! o! o!
  have ap:Sort.SortedIn lN E_ b l:=λx y F B G=>by rw[n.1.2.1 x o!,n.1.2.1 y o!,I x F o!,I y o! G];exact A _ _ o! o! o!
  have o:E_<=M\/b<=E_->y9 a b d l:=λh=>X_ l ⟨Sort.permIn_refl _ _ _,pr h ao ap o! o!⟩;refine PT.dec (λq1=>PT.bind (P:=λq=> ∃e:Array NE,q=e.toList/\y9 a b d e) (PT.dec (λq2=>?_) (λq2=>PT.some ⟨l,rfl,o o!⟩)) λr h=>PT.some h) (λq1=>PT.some ⟨l,rfl,o o!⟩);have hr:=O l M E_ b o! o! o! o! ao ap;refine PT.bind (P:=λq=> ∃e:Array NE,q=e.toList/\y9 M b l e) ⟨λt=>hr.1 o!,hr.2⟩ ?_;rintro q ⟨e,rfl,D_⟩;exact bc (by rw[Dy,Dy,D_.1.1]) (PT.some ⟨e,rfl,X_ e D_⟩)
 have s2: ∀c:Array NE,Sort.PermIn a b d c->(∀k,k<d.size->c[k]! =yg r m E_ d k)->PT (b-a<=N+1) (bif decide ((a:Int)<(r:Int))then Option.bind (bif decide ((r:Int)<(M:Int))then Option.bind (C (c.toList,((a:Int),((r:Int),(M:Int))))) λv=>bif Nat.beq (List.length v) (List.length c.toList)then some v else none else some c.toList) λv=>(bif decide ((M:Int)<(E_:Int))then Option.bind (bif decide ((E_:Int)<(b:Int))then Option.bind (C (v,((M:Int),((E_:Int),(b:Int))))) λw=>bif Nat.beq (List.length w) (List.length v)then some w else none else some v) λw=>some w else some v)else(bif decide ((M:Int)<(E_:Int))then Option.bind (bif decide ((E_:Int)<(b:Int))then Option.bind (C (c.toList,((M:Int),((E_:Int),(b:Int))))) λw=>bif Nat.beq (List.length w) (List.length c.toList)then some w else none else some c.toList) λw=>some w else some c.toList)) λq=> ∃e:Array NE,q=e.toList/\y9 a b d e:=by
  intro c U f;have z1:c.size=d.size:=U.1;have ad:Sort.SortedIn lN a r c:=λx y F B G=>by rw[f x o!,f y o!,Vn,Vn];exact s _ _ o! o! o!
  have al:Sort.SortedIn lN r M c:=λx y F B G=>by rw[f x o!,f y o!,lq,lq];exact A _ _ o! o! o!
  have o:r<=a\/M<=r->y9 a M c c:=λh=>⟨Sort.permIn_refl _ _ _,pr h ad al o! o!⟩
  refine PT.dec (λq1=>PT.bind (P:=λq=> ∃e:Array NE,q=e.toList/\y9 a M c e) ?_ ?_) (λq1=>s3 c c U f (o o!));refine PT.dec (λq2=>?_) (λq2=>PT.some ⟨c,rfl,o o!⟩);have hr:=O c a r M o! o! o! o! ad al;refine PT.bind (P:=λq=> ∃e:Array NE,q=e.toList/\y9 a M c e) ⟨λt=>hr.1 o!,hr.2⟩ ?_;rintro q ⟨e,rfl,D_⟩;exact bc (by rw[Dy,Dy,D_.1.1]) (PT.some ⟨e,rfl,D_⟩);rintro q ⟨e,rfl,D_⟩;exact s3 c e U f D_
 have Z_:r=m\/E_=m-> ∀k,k<d.size->d[k]! =yg r m E_ d k:=λh k hk=>by rcases A0 k r with q1|q1;rw[Vn];rcases A0 k (r+(E_-m))with q2|q2;rw[lq q1 q2];exact rp o!;rcases A0 k E_ with q3|q3;rw[pq q2 q3];exact rp o!;rw[Vn]
 refine PT.dec (λq1=>PT.bind (P:=λq=> ∃e:Array NE,q=e.toList/\Sort.PermIn a b d e/\ ∀k,k<d.size->e[k]! =yg r m E_ d k) ?_ ?_) (λq1=>s2 d (Sort.permIn_refl _ _ _) (Z_ o!));refine PT.dec (λq2=>PT.bind (lH (ADm (d:=d) (a:=r) (m:=m) (b:=E_) o! o! o! hd)) ?_) (λq2=>PT.some ⟨d,rfl,Sort.permIn_refl _ _ _,Z_ o!⟩);rintro q ⟨e,rfl,z,D_⟩;exact bc (by rw[Dy,Dy,z]) (PT.some ⟨e,rfl,Sort.permIn_mono _ _ r E_ a b o! o! hb (AHm o! o! o! z D_),D_⟩);rintro q ⟨e,rfl,p,D_⟩;exact s2 e p D_
def AJj(n:U)(p:S NE×(Y×(Y×Y))):pI (λg (p:S NE×(Y×(Y×Y)))=>CO g p.1 p.2) (n+1) p=CO (pI (λg (p:S NE×(Y×(Y×Y)))=>CO g p.1 p.2) n) p.1 p.2:=rfl
def ABq:∀(N:U)(d:Q NE)(a m b:U),a<m→m<b→b≤d.size→d.size≤16777216→Sort.SortedIn lN a m d→Sort.SortedIn lN m b d→
  PT (b-a<=N) (pI (λg (p:S NE×(Y×(Y×Y)))=>CO g p.1 p.2) N (d.toList,(a:Y),(m:Y),(b:Y))) λr=>∃e:Q NE,r=e.toList/\y9 a b d e
 |0,d,a,m,b,h1,h2,h3,h4,h5,h6=>⟨λt=>O! t o!,λr e=>by cases e⟩
 |N+1,d,a,m,b,h1,h2,h3,h4,h5,h6=>by rw[AJj];exact ALO h1 h2 h3 h4 h5 h6 (ABq N)
def AIT{d:Q NE}{a m b:U}(c:a<m)(f:m<b)(g:b≤d.size)(h:d.size≤16777216)(i:Sort.SortedIn lN a m d)(j:Sort.SortedIn lN m b d):
  An (Ee d.toList ((a:Y),(m:Y),(b:Y))) λr=>∃e:Q NE,r=e.toList/\y9 a b d e:=by
 have⟨r,hr⟩:=(ABq (b-a) d a m b c f g h i j).1 (Al _);have⟨s,k⟩:=iG hr;have⟨N,l⟩:=eG k;exact⟨s,k,(ABq N d a m b c f g h i j).2 s l⟩
def Mul(s a:U):Prop:=∃k,a=k*s
def Mul.zero{s}:Mul s 0:=⟨0,q!⟩
def Mul.add{s a}(h:Mul s a):Mul s (a+s):=by obtain⟨k,rfl⟩:=h;exact⟨k+1,k!⟩
def Mul.half{s a:U}(h:Mul (2*s) a):Mul s a:=by obtain⟨k,rfl⟩:=h;exact⟨k*2,k!⟩
def Mul.lt{s a b}(c:Mul s a)(d:Mul s b)(h:a<b):a+s<=b:=by obtain⟨k,rfl⟩:=c;obtain⟨j,rfl⟩:=d;have:k<j:=Nat.lt_of_mul_lt_mul_right h;have:=NW s (Nat.succ_le_of_lt this);grind
theorem ae{a b c:U}{d}(h:Sort.SortedIn lN a b d)(i:c<=b):Sort.SortedIn lN a c d:=λx y e f g=>h x y e f o!
def Xb{a b x y}{d e}(h:Sort.SortedIn lN a b d)(c:Sort.PermIn x y d e)(l:b<=x\/y<=a):Sort.SortedIn lN a b e:=λi j f g k=>by rw[c.2.1 i o!,c.2.1 j o!];exact h i j f g k
def Blk(s n:U)(d:Q NE):Prop:=∀a b,Mul s a->b<=a+s->b<=n->Sort.SortedIn lN a b d
def ADt{d0:Array NE}{n:Nat}(hn:n=d0.size)(hd:n<=1048576):An (E6 d0.toList (n:Int)) λr=>∃e:Array NE,r=e.toList/\y9 0 n d0 e:=by
 unfold E6;refine AA (P:=λ(r:Int×List NE)=>∃(a:Nat)(d:Array NE),r.1=a/\r.2=d.toList/\a<=n/\n<a+20/\Mul 20 a/\Sort.PermIn 0 n d0 d/\∀c,Mul 20 c->c<a->Sort.SortedIn lN c (c+20) d) ?_ ?_;refine AW (λ(s:Int×(Int×List NE))=>∃(a:Nat)(d:Array NE),s.1=a/\s.2.1=((a+20:Nat):Int)/\s.2.2=d.toList/\a<=n/\Mul 20 a/\Sort.PermIn 0 n d0 d/\∀c,Mul 20 c->c<a->Sort.SortedIn lN c (c+20) d) (λs=>n-s.1.toNat) ⟨0,d0,rfl,rfl,rfl,BV _,Mul.zero,Sort.permIn_refl _ _ _,λc _ h=>O! h o!⟩ ?_;rintro⟨Y,Z_,s3⟩ ⟨a,d,q1,q2,q3,q4,q5,q6,q7⟩;dsimp only at q1 q2 q3;subst q1 q2 q3;have hz:d.size=n:=by rw[q6.1,hn]
 unfold JN;dsimp only;refine AC (λO=>?_) (λO=>AB ⟨a,d,rfl,rfl,q4,o!,q5,q6,q7⟩);have A:=Sort.insertionSort_holds vZ d a (a+20) o! o!;rw[ACV (d:=d) (k:=a) (m:=a+20) rfl rfl o! o! o!,AD];have j:ξ (θ (Sort.insertionSort lN d a (a+20)).toList) (θ d.toList)=ζ:=by rw[Dy,Dy,A.1.1];exact Hl _
 have e1:wi (((a+20:Nat):Int)+20)=((a+20+20:Nat):Int):=by grind[oX]
 rw[j,B!,e1];refine AB ⟨⟨a+20,_,rfl,rfl,rfl,o!,q5.add,Sort.permIn_trans _ _ _ _ _ q6 (Sort.permIn_mono _ _ a (a+20) 0 n o! o! o! A.1),λc g w=>?_⟩,?_⟩;rcases A0 c a with l|l;exact Xb (q7 c g l) A.1 (.inl (g.lt q5 l));have:c=a:=by rcases A0 a c with i|i;have:=q5.lt g i;omega;omega
 rw[this];exact A.2;show n-((a+20:Nat):Int).toNat<n-((a:Nat):Int).toNat
 omega;rintro⟨r1,r2⟩ ⟨a,d,q1,q2,q3,q4,q5,q6,q7⟩;dsimp only at q1 q2;subst q1 q2;have hz:d.size=n:=by rw[q6.1,hn]
 dsimp only;have A:=Sort.insertionSort_holds vZ d a n q3 o!;rw[ACV (d:=d) (k:=a) (m:=n) rfl rfl o! o! o!,AD];have j:ξ (θ (Sort.insertionSort lN d a n).toList) (θ d.toList)=ζ:=by rw[Dy,Dy,A.1.1];exact Hl _
 rw[j,B!];have C:Sort.PermIn 0 n d0 (Sort.insertionSort lN d a n):=Sort.permIn_trans _ _ _ _ _ q6 (Sort.permIn_mono _ _ a n 0 n o! o! o! A.1);have u:Blk 20 n (Sort.insertionSort lN d a n):=λc o g w l=>by rcases A0 c a with i|i;exact ae (Xb (q7 c g i) A.1 (.inl (g.lt q5 i))) w;rcases A0 a c with E_|E_;have:=q5.lt g E_;exact λx y H I J=>O! J o!;grind[ae]
 revert C u;generalize Sort.insertionSort lN d a n=d1;intro C u;refine AA (P:=λr=>∃e:Array NE,r=e.toList/\y9 0 n d0 e) (AW (λ(s:Int×List NE)=>∃(t:Nat)(e:Array NE),s.1=t/\s.2=e.toList/\1<=t/\t<=2097172/\Sort.PermIn 0 n d0 e/\Blk t n e) (λs=>n-s.1.toNat) ⟨20,d1,rfl,rfl,o!,o!,C,u⟩ ?_) λr h=>AB h;rintro⟨Y,Z_⟩ ⟨t,e,H,I,J,g4,V,W⟩;dsimp only at H I;subst H I;unfold JO;dsimp only;refine AC (λO=>?_) (λO=>AB ⟨e,rfl,V,W 0 n Mul.zero o! (Al _)⟩);have U:wi (2*(t:Int))=((2*t:Nat):Int):=by rw[oX];omega
 have e3:wi ((t:Int)*2)=((2*t:Nat):Int):=by rw[oX];omega
 rw[U,e3];refine AA (P:=λ(r:Int×List NE)=>∃(a:Nat)(f:Array NE),r.1=a/\r.2=f.toList/\a<=n/\n<a+2*t/\Mul (2*t) a/\Sort.PermIn 0 n d0 f/\(∀c,Mul (2*t) c->c<a->Sort.SortedIn lN c (c+2*t) f)/\∀c o,Mul t c->a<=c->o<=c+t->o<=n->Sort.SortedIn lN c o f) ?_ ?_;refine AW (λ(s:Int×(Int×List NE))=>∃(a:Nat)(f:Array NE),s.1=a/\s.2.1=((a+2*t:Nat):Int)/\s.2.2=f.toList/\a<=n/\Mul (2*t) a/\Sort.PermIn 0 n d0 f/\(∀c,Mul (2*t) c->c<a->Sort.SortedIn lN c (c+2*t) f)/\∀c o,Mul t c->a<=c->o<=c+t->o<=n->Sort.SortedIn lN c o f) (λs=>n-s.1.toNat)
  ⟨0,e,rfl,q!,rfl,BV _,Mul.zero,V,λc _ h=>O! h o!,λc o g _ w l=>W c o g w l⟩ ?_
 rintro⟨Y,Z_,s3⟩ ⟨a,f,k1,G,T,X_,p,D_,K,B⟩;dsimp only at k1 G T;subst k1 G T;have S:f.size=n:=by rw[D_.1,hn]
 unfold JP;dsimp only;refine AC (λQ=>?_) (λQ=>AB ⟨a,f,rfl,rfl,X_,o!,p,D_,K,B⟩);have N:wi ((a:Int)+(t:Int))=((a+t:Nat):Int):=by rw[oX];omega
 have e5:wi (((a+2*t:Nat):Int)+((2*t:Nat):Int))=((a+2*t+2*t:Nat):Int):=by rw[oX];omega
 rw[N,U,e5];apply AA (AIT (d:=f) (a:=a) (m:=a+t) (b:=a+2*t) o! o! o! o! (B a (a+t) p.half (Al _) (Al _) o!) (B (a+t) (a+2*t) p.half.add o! o! o!));rintro r ⟨q,rfl,v,F⟩;have j:ξ (θ q.toList) (θ f.toList)=ζ:=by rw[Dy,Dy,v.1];exact Hl _
 rw[j,B!];refine AB ⟨⟨a+2*t,q,rfl,rfl,rfl,o!,p.add,Sort.permIn_trans _ _ _ _ _ D_ (Sort.permIn_mono _ _ a (a+2*t) 0 n o! o! o! v),λc g w=>?_,λc o g w l i=>Xb (B c o g o! l i) v (.inr w)⟩,?_⟩;rcases A0 c a with l|l;exact Xb (K c g l) v (.inl (g.lt p l));have:c=a:=by rcases A0 a c with i|i;have:=p.lt g i;omega;omega
 rw[this];exact F;show n-((a+2*t:Nat):Int).toNat<n-((a:Nat):Int).toNat
 omega;rintro⟨v1,v2⟩ ⟨a,f,k1,G,T,X_,p,D_,K,B⟩;dsimp only at k1 G;subst k1 G;have S:f.size=n:=by rw[D_.1,hn]
 dsimp only;have N:wi ((a:Int)+(t:Int))=((a+t:Nat):Int):=by rw[oX];omega
 rw[N];have z:∀q:Array NE,Sort.PermIn a n f q->Sort.SortedIn lN a n q->(∃(L:Nat)(M:Array NE),((2*t:Nat):Int)=L/\q.toList=M.toList/\1<=L/\L<=2097172/\Sort.PermIn 0 n d0 M/\Blk L n M)/\n-((2*t:Nat):Int).toNat<n-((t:Nat):Int).toNat:=λq v F=>by refine⟨⟨2*t,q,rfl,rfl,o!,o!,Sort.permIn_trans _ _ _ _ _ D_ (Sort.permIn_mono _ _ a n 0 n o! o! o! v),λc o g w l=>?_⟩,o!⟩;rcases A0 c a with i|i;exact ae (Xb (K c g i) v (.inl (g.lt p i))) w;rcases A0 a c with E_|E_;have:=p.lt g E_;exact λx y H I J=>O! J o!;rw[show c=a by omega];exact ae F l
 refine AC (λR=>AA (AIT (d:=f) (a:=a) (m:=a+t) (b:=n) o! o! o! o! (B a (a+t) p.half (Al _) (Al _) o!) (B (a+t) n p.half.add o! o! (Al _))) ?_) (λR=>AB (z f (Sort.permIn_refl _ _ _) (B a n p.half (Al _) o! (Al _))));rintro r ⟨q,rfl,v,F⟩;have j:ξ (θ q.toList) (θ f.toList)=ζ:=by rw[Dy,Dy,v.1];exact Hl _
 rw[j,B!];exact AB (z q v F)
def AHy{l:S NE}(h:W l<=1048576):An (C7 l ()) λr=>r.Perm l/\r.Pairwise λx y=>lN y x=X:=by
 unfold C7;apply AA (ADt (d0:=l.toArray) (n:=W l) q! h);rintro r ⟨R,rfl,d,f⟩;have e:R.size=W l:=by rw[d.1];simp
 have g:ξ (W R.toList) (W l)=E:=by simp[e]
 rw[g,B!];refine AB ⟨?_,?_⟩;have:=d.2.2;rw[show R.extract 0 (W l)=R by rw[<-e];exact oh,show l.toArray.extract 0 (W l)=l.toArray by rw[show W l=l.toArray.size by simp];exact oh]at this;exact this;rw[EL];intro i j k m b;have a:i<R.size:=by simpa using k
 have c:j<R.size:=by simpa using m
 have:=f i j (BV _) b o!;rw[getElem!_pos R j c,getElem!_pos R i a]at this;simpa using this
def AGO(l:S NE):Prop:=∀x∈l,∀y∈l,x≠y->x.1.2.2.1=y.1.2.2.1->x.1.2.1<y.1.1\/y.1.2.1<x.1.1
def AHq{N a:List NE}(W:θ N=θ a)(G:θ a≤256)(I:∀e∈a,1≤e.1.1∧e.1.1≤e.1.2.1∧e.1.2.1≤1099511627776∧0≤e.1.2.2.1)(P:a.Pairwise λx y=>lN y x=η)(hn:a.Nodup)(O:AGO a):
  An (Ai (T5 N a) (0,(-1),0,[],[])) λr=>r=(a.map (·.1),a.map (·.2)):=by
 refine AW (λ(s:Int×(Int×(Int×(List AQ×List Int))))=>∃k:Nat,s.1=k/\k<=θ a/\s.2.2.2=((a.take k).map (·.1),(a.take k).map (·.2))/\((k=0/\s.2.1= -1)\/∃e,0<k/\a[k-1]?=δ e/\s.2.1=e.1.2.2.1/\s.2.2.1=e.1.2.1)) (λs=>θ a-s.1.toNat) ⟨0,rfl,BV _,rfl,.inl ⟨rfl,rfl⟩⟩ ?_;rintro⟨Y,R,Z_,s4⟩ ⟨k,q1,q2,q3,q4⟩;dsimp only at q1 q3 q4;subst q1 q3;unfold T5;dsimp only;refine AC (λw=>?_) (λw=>AB ?_)
 ·simp only[len]at w;refine AA (AI) λv8 _=>AA (AI) λv h=>?_;have z:a[k]?=δ v:=by simpa using h.1
  obtain⟨S,T,U,V⟩:=I v h.2;have C:a.take (k+1)=a.take k++[v]:=by rw[Ck,z];rfl
  have X_:(a.take k).length<=256:=by rw[BP];omega
  have j:∀D_:Int,D_=v.1.2.2.1→An (σ (app ((a.take k).map (·.1)) [v.1]) λf=>σ (app ((a.take k).map (·.2)) [v.2]) λg=>δ (Step.next (wi ((k:Int)+1),D_,v.1.2.1,f,g))) λ(st:Step (Int×(Int×(Int×(List AQ×List Int)))) (List AQ×List Int))=>match st with
    |.next i=>(∃d:Nat,i.1=d/\d<=θ a/\i.2.2.2=((a.take d).map (·.1),(a.take d).map (·.2))/\((d=0/\i.2.1= -1)\/∃e,0<d/\a[d-1]?=δ e/\i.2.1=e.1.2.2.1/\i.2.2.1=e.1.2.1))/\θ a-i.1.toNat<θ a-((k:Nat):Int).toNat
    |.done r=>r=(a.map (·.1),a.map (·.2)):=λD_ A=>by
   refine AA (AZ w!) λf t=>AA (AZ w!) λg u=>AB ⟨⟨k+1,?_,o!,?_,.inr ⟨v,o!,by rw[nk];exact z,A,rfl⟩⟩,?_⟩;show wi ((k:Int)+1)=_;rw[wip];show(f,g)=_;rw[t.1,u.1,C,Ke,Ke];rfl;show θ a-(wi ((k:Int)+1)).toNat<θ a-((k:Nat):Int).toNat
   rw[wip];omega
  have b:∀n:Int,n<v.1.1->OV (v.1,n)=δ v.1:=λn hn=>by unfold OV;have:τ (v.1.1>n)=ζ:=G! hn;dsimp only;rw[this,B!]
  refine AL (λm=>?_) (λc=>?_);refine AC (λq=>O! q o!) (λ_=>?_);rw[b 0 o!,AD];obtain⟨st,E_,F⟩:=j v.1.2.2.1 rfl;exact⟨st,E_,by cases st<;>exact F⟩;rcases q4 with⟨_,q4⟩|⟨e,q5,q6,q7,q8⟩;exact O! (c.trans q4) o!;have B:e.1.2.1<v.1.1:=by
   have H:=BO q6;obtain⟨J,K⟩:=EX.1 q6;obtain⟨L,M⟩:=EX.1 z;have m:e≠v:=λp=>by have:=(EL.1 (II.1 hn)) (k-1) k J L o!;rw[K,M]at this;exact this p
   have o:=(EL.1 P) (k-1) k J L o!;rw[K,M]at o;have Q:=I e H;have l:e.1.2.2.1=v.1.2.2.1:=by rw[<-q7];exact c.symm
   rcases O e H v h.2 m l with p|p;exact p;simp only[lN,decide_eq_false_iff_not]at o;omega
  rw[q8];refine AC (λq=>O! q o!) (λ_=>?_);rw[b _ B,AD];obtain⟨st,E_,F⟩:=j R c.symm;exact⟨st,E_,by cases st<;>exact F⟩
 simp only[len]at w;rw[BM o!]
noncomputable def intR(a:AJ)(f:Am):V NE:=
 match HB (a,f)with
 |some (r,E)=>Z (r,f.2.1)
 |_=>D
noncomputable def DE(a:AJ):S NE:=a.2.2.1.filterMap (intR a)
def AHp{x:AJ}(h:VB x)(t:DS x):An (Ai (T4 x) (0,[])) λr=>r=DE x/\θ r<=256/\∀e∈r,ak e.1:=by
 obtain⟨⟨v,w,y,n,z,A,B⟩,a1,a2,a3,a4,a5,a6⟩:=id h;refine AW (λ(s:Y×NL)=>0<=s.1/\s.1<=θ x.2.2.1/\θ s.2<=s.1/\(∀e∈s.2,ak e.1)/\s.2=(x.2.2.1.take s.1.toNat).filterMap (intR x)) (λ(s:Y×NL)=>((θ x.2.2.1:Y)-s.1).toNat) ⟨Ae _,d!,q!,λe a=>by simp at a,q!⟩ (λs q=>?_);obtain⟨u,C,D_,j,k⟩:=q;unfold T4;refine AC (λf=>?_) (λf=>AB ⟨?_,o!,j⟩);simp only[O]at f;have e:=AY (x:=s.1+1);rw[e];refine AA (AI u f) λg m=>?_;have c:x.2.2.1.take (s.1+1).toNat=x.2.2.1.take s.1.toNat++[g]:=by rw[show(s.1+1).toNat=s.1.toNat+1 by omega,Ck,m.1];rfl
 refine D7 (nH n (t _ m.2)) λl d p=>AK (λb=>?_) (λb=>AB ⟨⟨d!,d!,d!,j,?_⟩,d!⟩);have hr:intR x g=δ (l.1,g.2.1):=by unfold intR;rw[d];obtain⟨r,o⟩:=l;dsimp only at b;subst b;rfl
 refine AA (AZ w!) λE_ i=>AB ⟨⟨d!,d!,?_,λe a=>?_,?_⟩,d!⟩;have:=i.2.1;simp only[Bh,Bi]at this;dsimp only;omega;dsimp only at a;rw[i.1]at a;rcases Ak.1 a with a|a;exact j e a;rw[A5.1 a];exact p b;dsimp only;rw[c,wN,i.1,k];simp[hr];have hr:intR x g=ε:=by unfold intR;rw[d];obtain⟨r,o⟩:=l;dsimp only at b;subst b;rfl
 dsimp only;rw[c,wN,k];simp[hr];simp only[O]at f;rw[k,BM o!];rfl
def qB{x}(h:VB x)(m:DS x)(hn:(DE x).Nodup)(b:AGO (DE x)):An (Ha x) λr=>∃v:S NE,v.Perm (DE x)/\(v.Pairwise λp q=>lN q p=X)/\r=(v.map (·.1),v.map (·.2))/\W v<=256/\∀e∈v,ak e.1:=by
 unfold Ha;refine AA (EO h) λt j=>?_;rw[j,Bn,A!];refine AA (AHp h m) λu k=>?_;obtain⟨rfl,g,s⟩:=k;refine AA (AHy o!) λf a=>?_;have i:=a.1.length_eq;have l:ξ (W f) (W (DE x))=E:=by rw[i];exact Hl _
 rw[l,B!];have c:∀e∈f,ak e.1:=λe d=>s e (a.1.mem_iff.1 d);refine AA (AHq i.symm o! (λe d=>?_) a.2 (a.1.nodup_iff.2 hn) (λp n q o=>b p (a.1.mem_iff.1 n) q (a.1.mem_iff.1 o))) λr hr=>AB ⟨f,a.1,a.2,hr,o!,c⟩;have:=c e d;exact⟨this.1,this.2.1,this.2.2.1,this.2.2.2.1⟩
def zP(l:S (Y×Y))(n:Y):Prop:=∃s∈l,s.1<=n/\n<=s.2
def AEy{l:R (Y×Y)}{u b:Y}(p:θ l<=16777216):An (Ai (T6 (l,u)) (0,b)) λr=>(∀q,r=.inl q->0<=q.1/\q.1<θ l/\q.2=b/\∀e,l[q.1.toNat]?=δ e->e.1<=b/\b<=e.2)/\(∀q,r=.inr q->q=b/\¬zP l b):=by refine AW (λ(s:Y×Y)=>0<=s.1/\s.1<=θ l/\s.2=b/\∀e∈l.take s.1.toNat,¬(e.1<=b/\b<=e.2)) (λ(s:Y×Y)=>((θ l:Y)-s.1).toNat) ⟨Ae _,d!,rfl,q!⟩ (λt n=>?_);obtain⟨k,v,m,g⟩:=n;unfold T6;refine AC (λd=>?_) (λd=>AB ⟨λu c=>(by cases c),λu c=>?_⟩);simp only[O]at d;have e:=AY (x:=t.1+1);rw[e];refine AA (AI k d) λw h=>?_;unfold VV;rw[has_eq,AD,AD,m];refine AK (λf=>AB ⟨λu c=>?_,λu c=>(by cases c)⟩) (λi=>AB ⟨⟨d!,d!,rfl,λe a=>?_⟩,d!⟩);cases c;refine⟨k,d,rfl,λe a=>?_⟩;dsimp only at a;rw[h.1]at a;injection a with a;subst a;unfold Qe at f;simp only[Ba,K!]at f;exact f;dsimp only at a;rw[show(t.1+1).toNat=t.1.toNat+1 by omega,Ck,h.1]at a;rcases Ak.1 a with a|a;exact g e a;rw[nr,A5]at a;subst a;intro j;unfold Qe at i;simp only[Bool.and_eq_false_iff,decide_eq_false_iff_not]at i;omega;cases c;simp only[O]at d;rw[BM o!]at g;exact⟨m,by rw[show zP l b↔∃s∈l,s.1<=b/\b<=s.2 from YZ];rintro⟨s,o,j⟩;exact g s o j⟩
def AA8{l}{u:Y}(h:SpL l)(w:0<=u)(A:u<=1099511627776):An (Ms (l,u)) λr=>0<=r/\r<=u/\(∀n,r<n->n<=u->zP l n)/\(r=0\/¬zP l r):=by obtain⟨a1,a2⟩:=h;unfold Ms;refine AA (P:=λr=>0<=r/\r<=u/\(∀n,r<n->n<=u->zP l n)/\(r=0\/¬zP l r)) ?_ λr hr=>AB hr;refine AW (λs=>0<=s/\s<=u/\∀n,s<n->n<=u->zP l n) (·.toNat) ⟨w,Ae _,λn k m=>by dsimp only at k;omega⟩ (λs v=>?_);obtain⟨p,t,g⟩:=v;unfold Y7;refine AA (AEy (b:=s) a1) λr hr=>BH (λq f=>?_) (λq f=>?_);obtain⟨i,j,y,z⟩:=hr.1 q f;refine AC (O! · o!) (λ_=>AC (λd=>AB ?_) (λB=>?_));rw[y]at d⊢;exact⟨p,t,g,.inl o!⟩;refine AA (AI i j) λa c=>?_;have q1:=z a c.1;have q2:=a2 a c.2;have e:=AY (x:=a.1-1);rw[e];refine AB ⟨⟨o!,o!,λn k m=>?_⟩,o!⟩;rcases mG s n with o|o;exact g n o m;exact⟨a,c.2,o!⟩;obtain⟨i,j⟩:=hr.2 q f;rw[i];exact AB ⟨p,t,g,.inr j⟩
def we{x:AJ}(h:VB x):x.2.2.1.Pairwise λf g=>f.2.1<g.2.1:=by
 have c:=h.2.2.2.2.2.2.2;rw[EL];have step:∀n i:U,∀(a:i<θ x.2.2.1)(b:i+1+n<θ x.2.2.1),(x.2.2.1[i]).2.1<(x.2.2.1[i+1+n]).2.1:=by
  intro n;induction n with
  |zero=>intro i a b;exact c i _ _ o! (Au a) (Au b)
  |succ n m=>intro i a b;have d:=m i a o!;have k:=c (i+1+n) _ _ o! (Au o!) (Au b);exact Int.lt_trans d k
 intro i j a b l;have:=step (j-(i+1)) i a o!;have e:i+1+(j-(i+1))=j:=o!
 simp only[e]at this;exact this
theorem mi{x}(h:VB x):((DE x).map (·.2)).Pairwise (· < ·):=by
 unfold DE;rw[RF,List.pairwise_filterMap];refine(we h).imp λ{f g} b y a z c=>?_;have one:∀f(y:NE),intR x f=Z y->y.2=f.2.1:=λf y a=>by unfold intR at a;split at a;injection a with a;rw[<-a];cases a
 rw[one f y a,one g z c];exact b
def J8{x}(h:VB x):(DE x).Nodup:=by have:=mi h;rw[RF]at this;exact II.2 (this.imp λh e=>by rw[e]at h;omega)
def AKW{a:AJ}{l:Ac}{p i j:Int}{Q:List (Int×Int)}{d:Int×Int}{r:AQ}{W:List (Int×EN)}{u:Int}{P:EN→Prop}(hr:θ r.2.2.2.2.2≤4096)(Y:Q[0]?=δ d)(hm:Q5 W P)(hn:0≤u∧u≤1099511627776)
  (S:∀v∈r.2.2.2.2.2,HY p i j v=ζ->(Qe d v.1=ζ->P v)/\∀e,(P e\/(e∈r.2.2.2.2.2/\HY p i j e=ζ))->e.1=v.1->e=v):
  An (Ai (Xp (a,l,p,i,j) Q r) (0,W,u,[],0)) λq=>∃m n,q=.inl (m,n,[],0)/\Q5 m (λe=>P e\/(e∈r.2.2.2.2.2/\HY p i j e=ζ))/\n=u+((r.2.2.2.2.2.filter λe=>HY p i j e&&Qe d e.1).length:Int):=by
 generalize hL:r.2.2.2.2.2=L at hr S⊢;refine AW (λ(s:Int×(List (Int×EN)×(Int×(List EN×Int))))=>0<=s.1/\s.1<=θ L/\s.2.2.2=([],0)/\s.2.2.1=u+(((L.take s.1.toNat).filter λe=>HY p i j e&&Qe d e.1).length:Int)/\Q5 s.2.1 λe=>P e\/(e∈L.take s.1.toNat/\HY p i j e=ζ)) (λs=>((θ L:Int)-s.1).toNat)
  ⟨Ae _,d!,rfl,q!,hm.congr λe=>q!⟩ (λs Z_=>?_)
 obtain⟨c,E_,F,s4⟩:=s;obtain⟨U,i2,V,C,z⟩:=Z_;dsimp only at U i2 V C z;subst V;unfold Xp;dsimp only;rw[hL];refine AC (λf=>?_) (λf=>AB ?_);simp only[len]at f;have X_:=AY (x:=c+1);rw[X_];refine AA (AI U f) λv R=>?_;rw[oA,AD];have o:L.take (c+1).toNat=L.take c.toNat++[v]:=by rw[show(c+1).toNat=c.toNat+1 by omega,Ck,R.1];rfl
 have k:HY p i j v=η->(0<=c+1/\c+1<=θ L/\(([],0):List EN×Int)=([],0)/\F=u+(((L.take (c+1).toNat).filter λe=>HY p i j e&&Qe d e.1).length:Int)/\Q5 E_ λe=>P e\/(e∈L.take (c+1).toNat/\HY p i j e=ζ))/\((θ L:Int)-(c+1)).toNat<((θ L:Int)-c).toNat:=λy=>by
  refine⟨⟨o!,o!,rfl,?_,?_⟩,o!⟩;rw[o,GM,C];simp[y];rw[o];refine z.congr λe=>⟨?_,?_⟩
  rintro(h|h);exact .inl h;exact .inr ⟨Ak.2 (.inl h.1),h.2⟩;rintro(h|⟨h,w⟩);exact .inl h;rcases Ak.1 h with h|h;exact .inr ⟨h,w⟩;rw[A5.1 h,y]at w;cases w
 refine AK (λG=>?_) (λG=>AB (k (by simp[HY,G])));refine AK (λH=>?_) (λH=>AB (k (by simp[HY,H])));refine AK (λI=>?_) (λI=>AB (k (by unfold HY;rw[I];simp)));refine AP (λJ=>AB (k (by unfold HY;rw[J];simp))) (λJ=>?_);have y:HY p i j v=ζ:=by unfold HY;rw[G,H,I,J];rfl
 have O:ix Q 0=δ d:=by unfold ix;rw[C! (Ae _)];exact Y
 rw[O,AD,has_eq,AD];obtain⟨M,A⟩:=S v R.2 y;have t:Q5 (Qf v.1 v E_) λe=>P e\/(e∈L.take (c+1).toNat/\HY p i j e=ζ):=by
  rw[o];refine z.put.congr λe=>⟨?_,λh=>?_⟩
  rintro(rfl|⟨h|h,_⟩);exact .inr ⟨Ak.2 (.inr (A5.2 rfl)),y⟩;exact .inl h;exact .inr ⟨Ak.2 (.inl h.1),h.2⟩;by_cases g:e=v;exact .inl g;rcases h with h|⟨h,w⟩;exact .inr ⟨.inl h,λN=>g (A e (.inl h) N)⟩;rcases Ak.1 h with h|h;exact .inr ⟨.inr ⟨h,w⟩,λN=>g (A e (.inr ⟨F9 h,w⟩) N)⟩;exact O! (A5.1 h) g
 have T:(((L.take c.toNat).filter λe=>HY p i j e&&Qe d e.1).length:Int)<=4096:=by have h1:=EK (λe=>HY p i j e&&Qe d e.1) (L.take c.toNat);have h3:=List.length_take_le' c.toNat L;omega
 have K:=AY (x:=F+1);rw[K];have B:∀b:Bool,Qe d v.1=b->u+((((L.take (c+1).toNat).filter λe=>HY p i j e&&Qe d e.1).length:Nat):Int)=F+(if b=ζ then 1 else 0):=λb hb=>by rw[o,GM,Aa,C];cases b<;>simp[y,hb]<;>omega
 refine AK (λD_=>?_) (λD_=>AB ⟨⟨d!,d!,rfl,?_,t⟩,d!⟩);have hg:Lk v.1 E_=δ v:=z.get (.inl (M D_));rw[hg];simp only[Option.isSome_some,Bn,A!,np,L!,YY];refine AB ⟨⟨d!,d!,rfl,?_,t⟩,d!⟩;rw[B ζ D_];rfl;rw[B η D_];simp;simp only[len]at f;rw[BM o!]at C z;exact⟨E_,F,rfl,z,C⟩
def Kk(low:Y)(rs:S AQ):S EN:=(rs.filter λr=>r.2.2.1==low).flatMap λr=>r.2.2.2.2.2
def AKV{a:AJ}{l:Ac}{p i j:Int}{X_:List (Int×Int)}{sp:Int×Int}{b:Int×(Int×Bool)}{c:List AQ}{E_:List Int}{W:List (Int×EN)}{P:EN→Prop}(Z_:X_[0]?=δ sp)(hm:Q5 W P)
  (U:θ c=θ E_) (T:θ c<=256) (hr:∀r∈c,θ r.2.2.2.2.2<=4096)
  (hc:∀v∈Kk b.1 c,HY p i j v=ζ->(Qe sp v.1=ζ->P v)/\∀e,(P e\/(e∈Kk b.1 c/\HY p i j e=ζ))->e.1=v.1->e=v):
  An (Ai (Xo (a,l,p,i,j) X_ b (c,E_)) (0,W,0,[],0)) λq=>∃m n,q=.inl (m,n,[],0)/\Q5 m (λe=>P e\/(e∈Kk b.1 c/\HY p i j e=ζ))/\n=(((Kk b.1 c).filter λe=>HY p i j e&&Qe sp e.1).length:Int):=by
 have B:∀k:Nat,(Kk b.1 (c.take k)).length<=k*4096:=by
  intro k;induction k with
  |zero=>simp[Kk]
  |succ k ih=>rw[Ck];grind[Kk,List.length_append,Nat.succ_mul,Nat.add_le_add]
 refine AW (λ(s:Int×(List (Int×EN)×(Int×(List EN×Int))))=>0<=s.1/\s.1<=θ c/\s.2.2.2=([],0)/\s.2.2.1=(((Kk b.1 (c.take s.1.toNat)).filter λe=>HY p i j e&&Qe sp e.1).length:Int)/\Q5 s.2.1 λe=>P e\/(e∈Kk b.1 (c.take s.1.toNat)/\HY p i j e=ζ)) (λs=>((θ c:Int)-s.1).toNat)
  ⟨Ae _,d!,rfl,by simp[Kk],hm.congr λe=>by simp[Kk]⟩ (λs hI=>?_)
 have⟨d,s2,S,s4⟩:=s;have⟨R,i2,V,C,D_⟩:=hI;dsimp only at R i2 V C D_;subst V;unfold Xo;dsimp only;refine AC (λo=>?_) (λo=>AB ?_);simp[len]at o;have Y:=AY (x:=d+1);rw[Y];refine AA (AI R o) λv G=>?_;have t:c.take (d+1).toNat=c.take d.toNat++[v]:=by rw[show(d+1).toNat=d.toNat+1 by omega,Ck,G.1];rfl
 refine AK (λF=>?_) (λF=>AB ⟨⟨d!,d!,rfl,?_,?_⟩,d!⟩);refine AA (AI R) λad _=>?_;have u:∀e∈v.2.2.2.2.2,e∈Kk b.1 c:=λe g=>G3.2 ⟨v,BQ.2 ⟨G.2,F⟩,g⟩;have z:∀e∈Kk b.1 (c.take d.toNat),e∈Kk b.1 c:=λe g=>by have⟨r,L,M⟩:=G3.1 g;have⟨N,O⟩:=BQ.1 L;exact G3.2 ⟨r,BQ.2 ⟨F9 N,O⟩,M⟩
 have K:0<=S/\S<=1099511627776:=by
  have h1:=EK (λe=>HY p i j e&&Qe sp e.1) (Kk b.1 (c.take d.toNat));have h2:=B d.toNat
  omega
 have f:Kk b.1 (c.take d.toNat++[v])=Kk b.1 (c.take d.toNat)++v.2.2.2.2.2:=by grind[Kk]
 refine AA (AKW (hr v G.2) Z_ D_ K λw hw Q=>?_) ?_;have⟨q1,q2⟩:=hc w (u w hw) Q;refine⟨λh=>.inl (q1 h),λe g H=>q2 e ?_ H⟩;rcases g with(g|⟨g,y⟩)|⟨g,y⟩;exact .inl g;exact .inr ⟨z e g,y⟩;exact .inr ⟨u e g,y⟩;rintro q ⟨m,n,rfl,I,J⟩;refine BF (AB ⟨⟨d!,d!,rfl,?_,?_⟩,d!⟩);dsimp only;rw[t,f,J,C,GM,Aa];omega;dsimp only;rw[t,f];refine I.congr λe=>?_;rw[Ak];constructor;rintro((h|⟨h,A⟩)|⟨h,A⟩);exact .inl h;exact .inr ⟨.inl h,A⟩;exact .inr ⟨.inr h,A⟩;rintro(h|⟨h|h,A⟩);exact .inl (.inl h);exact .inl (.inr ⟨h,A⟩);exact .inr ⟨h,A⟩;have f:Kk b.1 (c.take d.toNat++[v])=Kk b.1 (c.take d.toNat):=by unfold Kk;rw[GM,We];simp[F]
 dsimp only;rw[t,f];exact C;have f:Kk b.1 (c.take d.toNat++[v])=Kk b.1 (c.take d.toNat):=by unfold Kk;rw[GM,We];simp[F]
 dsimp only;rw[t,f];exact D_;simp[len]at o;rw[BM o!]at C D_;exact⟨s2,S,rfl,D_,C⟩
def Vl{l:S EN}:(l.map (·.1)).Nodup->∀{a b:EN},a∈l->b∈l->a.1=b.1->a=b:=by
 induction l with
 |nil=>intro _ a b d;cases d
 |cons p r f=>intro e a b d c h;rw[B4,G4]at e;rcases Av.1 d with d|d;rcases Av.1 c with c|c;rw[d,c];exact O! (by rw[<-d,h];exact Tp c) e.1;rcases Av.1 c with c|c;exact O! (by rw[<-c,<-h];exact Tp d) e.1;exact f e.2 d c h
def AHU{B}(j:CP B){l:S EN}(h:W l<=B)(k:W l<=16777216)(hn:(l.map (·.1)).Nodup):An (vP DD l) λr=>r.Perm l/\r.Pairwise λa b=>a.1<b.1:=by
 have n:=List.pairwise_mergeSort (le:=λa b:EN=>decide (a.1<=b.1)) (λa b c o p=>by simp only[K!]at*;omega) (λa b=>by simp only[UH,K!];omega) l;have i:(l.mergeSort λa b:EN=>decide (a.1<=b.1)).Perm l:=List.mergeSort_perm _ _;have g:(l.mergeSort λa b:EN=>decide (a.1<=b.1)).Pairwise λa b=>a.1<=b.1:=n.imp λh=>N! h;have key:∀m,l.Perm m->DD m ()=Z (l.mergeSort λa b:EN=>decide (a.1<=b.1)):=λm f=>by have d:(m.map (·.1)).Nodup:=(f.map (·.1)).nodup_iff.1 hn;unfold DD ACm;rw[C! ⟨d,by rw[<-f.length_eq];exact k⟩,<-ABr (key:=λe:EN=>e.1) d (i.trans f) g]
 refine⟨_,?_,i,?_⟩;unfold vP;rw[C!];exact key l (mI l);intro m f;rw[key m f,key l (mI l)];have d:=(i.map (·.1)).nodup_iff.2 hn;rw[II,RF]at d;exact(g.and d).imp λh=>o!
def xD:∀(n:U)(i:Y)(l:S Y),l.Nodup->(∀x∈l,i<x/\x<=i+n)->W l<=n
 |0,i,l,_,h=>by
  cases l with
  |nil=>exact Al _
  |cons a r=>have:=h a (Av.2 (.inl rfl));omega
 |n+1,i,l,hl,h=>by
  have d:=xD n i (l.erase (i+(n+1:U))) (hl.erase _) λx c=>by have b:=(hl.mem_erase_iff).1 c;have:=h x b.2;have:=b.1;omega
  have e:W l<=(l.erase (i+(n+1:U))).length+1:=by rw[List.length_erase];split<;>omega
  omega
def Yi(i:Y)(s:S EN):Prop:=∀(k:U)(e:EN),s[k]?=Z e->(k=0->e.2.2.2.2.1<=i)/\∀f,0<k->s[k-1]?=Z f->e.2.2.2.2.1=f.1
def AKU{a:AJ}{l:Ac}{p i j:Y}{s:R EN}(O:θ s≤16777216):
  An (Ai (QC (a,l,p,i,j) s) (0,[],0)) λr=>(r=.inl ([],0)/\Yi i s)\/(r=.inr ([],13)/\¬Yi i s):=by
 refine AW (λ(t:Y×(R EN×Y))=>0<=t.1/\t.1<=θ s/\t.2=([],0)/\∀(k:U)(e:EN),k<t.1->s[k]?=δ e->(k=0->e.2.2.2.2.1<=i)/\∀f,0<k->s[k-1]?=δ f->e.2.2.2.2.1=f.1) (λt=>((θ s:Y)-t.1).toNat)
  ⟨Ae _,d!,rfl,λk e F=>(by dsimp only at F;omega)⟩ (λt K=>?_)
 obtain⟨b,P⟩:=t;obtain⟨C,L,G,D_⟩:=K;dsimp only at C L G D_;subst G;unfold QC;dsimp only;refine AC (λn=>?_) (λn=>AB (.inl ⟨rfl,λk e d=>D_ k e ?_ d⟩));simp only[len]at n;have I:=AY (x:=b+1);rw[I];refine AA (AI C n) λM _=>AA (AI C n) λv h=>?_;have o:((b=0->v.2.2.2.2.1<=i)/\∀f,0<b->s[b.toNat-1]?=δ f->v.2.2.2.2.1=f.1)->(0<=b+1/\b+1<=θ s/\(([],0):R EN×Y)=([],0)/\∀(k:U)(e:EN),k<b+1->s[k]?=δ e->(k=0->e.2.2.2.2.1<=i)/\∀f,0<k->s[k-1]?=δ f->e.2.2.2.2.1=f.1)/\((θ s:Y)-(b+1)).toNat<((θ s:Y)-b).toNat:=λE_=>by
  refine⟨⟨o!,o!,rfl,λk e F d=>?_⟩,o!⟩;by_cases B:(k:Y)<b;exact D_ k e B d;have H:k=b.toNat:=o!
  subst H;rw[h.1]at d;injection d with d;subst d;exact⟨λy=>E_.1 o!,λf y g=>E_.2 f o! g⟩
 apply AO<;>intro y;refine AC (λu=>AB (.inr ⟨rfl,λA=>?_⟩)) (λu=>?_);have:=(A b.toNat v h.1).1 o!;omega;refine AC (λm=>O! m o!) (λ_=>AB (o ⟨λ_=>o!,λf g=>O! g o!⟩));refine AC (λu=>?_) (λu=>O! u o!);have w:=AY (x:=b-1);rw[w];refine AA (AI) λN _=>AA (AI) λq z=>?_;have c:s[b.toNat-1]?=δ q:=by rw[show b.toNat-1=(b-1).toNat by omega];exact z.1
 refine AL (λm=>AB (.inr ⟨rfl,λA=>m ((A b.toNat v h.1).2 q o! c)⟩)) (λm=>AB (o ⟨λJ=>O! J y,λf _ g=>?_⟩));rw[c]at g;injection g with g;rw[<-g];exact m;simp only[len]at n;have:=(EX.1 d).1;omega
def AKX{a:AJ}{l:Ac}{p i j:Y}{s:S EN}(b:W s≤16777216):
  An (Ai (QC (a,l,p,i,j) s) (0,[],0)) λr=>(r=.inl ([],0)/\Yi i s)\/(r=.inr ([],13)/\¬Yi i s):=AKU b
def Vo(l:Ac)(low:Y)(rs:S AQ):S (Y×Y):=(l.1,l.1+W l.2.1-1)::(rs.filter λr=>r.2.2.1==low).map λr=>(r.1,r.2.1)
def AAX{a:AJ}{l:Ac}{p:Y}{e:Y×(Y×N)}{b:R AQ}{d:R Y}(A:Dh l)(k:Ej (a,p)=δ e)(B:e.2.2=ζ)(m:Ha a=δ (b,d))(s:θ b=θ d)(o:θ b≤256):
  QE (a,l,p)=δ (Vo l e.1 b):=by
 obtain⟨F,w,y⟩:=Oa A;unfold QE;dsimp only;rw[w,AD,k,AD,B,Bn,A!,m,AD,y];have main:An (Ai (T7 e (b,d)) (0,([(l.1,l.1+θ l.2.1-1)]:R (Y×Y)))) λr=>r=Vo l e.1 b:=by
  refine AW (λ(t:Y×R (Y×Y))=>0<=t.1/\t.1<=θ b/\θ t.2<=t.1.toNat+1/\t.2=Vo l e.1 (b.take t.1.toNat)) (λt=>((θ b:Y)-t.1).toNat) ⟨Ae _,d!,q!,rfl⟩ (λt z=>?_);obtain⟨g,E_⟩:=t;obtain⟨n,C,D_,j⟩:=z;dsimp only at n C D_ j;unfold T7;dsimp only;refine AC (λi=>?_) (λi=>AB ?_);simp only[O]at i;have u:=AY (x:=g+1);rw[u];refine AA (AI n i) λv h=>?_;have f:b.take (g+1).toNat=b.take g.toNat++[v]:=by rw[show(g+1).toNat=g.toNat+1 by omega,Ck,h.1];rfl
  refine AK (λc=>?_) (λc=>AB ⟨⟨d!,d!,d!,?_⟩,d!⟩);refine AA (AI n) λG _=>AA (AZ (by simp only[Bh,Bi];omega)) λH q=>AB ⟨⟨d!,d!,?_,?_⟩,d!⟩;have:=q.2.1;simp only[Bh,Bi]at this;dsimp only;omega;dsimp only;rw[q.1,j,f];unfold Vo;rw[GM,Ke,wP (by exact c)];rfl;dsimp only;rw[j,f];unfold Vo;rw[GM,wO (by rw[c];decide)];simp;simp only[O]at i;rw[j,BM o!]
 obtain⟨r,q1,q2⟩:=main;rw[q1,AD,q2]
def pk{l:S EN}:(l.map (·.1)).Nodup->l.Nodup:=by
 induction l with
 |nil=>intro _;exact RE
 |cons p r b=>intro a;rw[B4,G4]at a;exact G4.2 ⟨λh=>a.1 (Tp h),b a.2⟩
def Dh.nodup{l}(h:Dh l):(l.2.1.map (·.1)).Nodup:=by obtain⟨l1,l2,i,j,k,a⟩:=h;rw[II,RF,EL];intro x y b d c g;have e:=(a x _ (Au b)).1;have f:=(a y _ (Au d)).1;omega
def Dh.has{l}(h:Dh l){e:EN}(a:e∈l.2.1):Qe (l.1,l.1+W l.2.1-1) e.1=E:=by obtain⟨k,b,a⟩:=WX.1 a;have c:=(h.2.2.2.2.2 k e (by rw[<-a];exact Au b)).1;unfold Qe;simp only[Ba,K!];omega
structure AH8(l:Ac)(low p i j:Int)(rs:List AQ):Prop where
 fromLog:∀f∈Kk low rs,HY p i j f=true->Qe (l.1,l.1+l.2.1.length-1) f.1=true->f∈l.2.1
 inRuns:∀e∈l.2.1,HY p i j e=true->((rs.filter λr=>r.2.2.1==low).any λr=>Qe (r.1,r.2.1) e.1)=true->e∈Kk low rs
 own:∀r∈rs,∀f∈r.2.2.2.2.2,Qe (r.1,r.2.1) f.1=true
 once:((Kk low rs).map (·.1)).Nodup
def AK4{B:Nat}{a:AJ}{l:Ac}{p i j fl:Int}{c:Int×(Int×Bool)}{b:Ψ AQ}{P:Ψ Int}(U:CP B)(hB:B≤16777216)(ao:j-i≤B)(hi:0≤i)(hj:i≤j)
  (h:VB a) (D_:Dh l) (hp:0<=p/\p<a.2.1) (L:Ej (a,p)=Z c) (ht:c.2.2=E) (N:Ha a=Z (b,P)) (w:θ b=θ P) (t:θ b<=256)
  (hr:∀r∈b,θ r.2.2.2.2.2<=4096) (V:Ms (Vo l c.1 b,j)=Z fl) (z:AH8 l c.1 p i j b):
  An (Hd (a,l,p,i,j)) λr=>(fl>i/\r=([],42))\/(fl<=i/\∃s:Ψ EN,(s.Pairwise λx y=>x.1<y.1)/\(∀e,e∈s↔(e∈l.2.1\/e∈Kk c.1 b)/\HY p i j e=E)/\((Yi i s/\r=(s,0))\/(¬Yi i s/\r=([],13)))):=by
 have K:=D_.nodup;unfold Hd;dsimp only;refine AA (aW (x:=(a,l,p,i)) h D_ ⟨hp.1,hp.2,hi⟩) λv0 h0=>AL (O! h0 ·) (λ_=>AC (O! · o!) (λ_=>?_));rw[AAX D_ L ht N w t,AD,V,AD];refine AC (λhf=>AB (.inl ⟨hf,rfl⟩)) (λhf=>AA (AKS D_ (by simp[Vo]) (by have:=EK (λr:AQ=>r.2.2.1==c.1) b;simp only[Vo,Bh,BT];omega)) λal H=>?_);rw[L,AD,ht,Bn,A!,N,AD];have hP:∀v∈Kk c.1 b,HY p i j v=E->(Qe (l.1,l.1+θ l.2.1-1) v.1=E->(v∈l.2.1/\HY p i j v=E))/\∀e,((e∈l.2.1/\HY p i j e=E)\/(e∈Kk c.1 b/\HY p i j e=E))->e.1=v.1->e=v:=λv Z_ E_=>by refine⟨λk=>⟨z.fromLog v Z_ E_ k,E_⟩,λe u A=>?_⟩;rcases u with⟨u,_⟩|⟨u,_⟩;have ad:=z.fromLog v Z_ E_ (by rw[<-A];exact D_.has u);exact Vl K u ad A;exact Vl z.once u Z_ A
 apply AA (AKV (sp:=(l.1,l.1+θ l.2.1-1)) rfl H.2 w t hr hP);rintro q ⟨m,n,rfl,o,hn⟩;apply BF;dsimp only;have f:al.1=n:=by
  rw[H.1,hn];refine E! Int.ofNat (List.Perm.length_eq ?_)
  refine(ni ((pk K).filter _) ((pk z.once).filter _)).2 λe=>?_;rw[BQ,BQ];simp only[Ba];have I:((Vo l c.1 b).tail.any λs=>Qe s e.1)=((b.filter λr=>r.2.2.1==c.1).any λr=>Qe (r.1,r.2.1) e.1):=by unfold Vo;rw[List.tail_cons,List.any_map];rfl
  rw[I];constructor;rintro⟨F,G,R⟩;exact⟨z.inRuns e F G R,G,D_.has F⟩;rintro⟨F,G,R⟩;obtain⟨r,M,X_⟩:=G3.1 F;exact⟨z.fromLog e F G R,G,qN.2 ⟨r,M,z.own r (BQ.1 M).1 e X_⟩⟩
 refine AL (O! f ·) (λ_=>?_);have J:∀q∈m,HY p i j q.2=E:=λq d=>by
  have:(q.2.1,q.2)∈m:=by rw[<-o.2.1 q d];exact d
  rcases(o.2.2 q.2).1 this with g|g;exact g.2;exact g.2
 have W:θ m<=B:=by
  have:=xD (j-i).toNat i (m.map (·.1)) o.1 λx hx=>by obtain⟨q,d,rfl⟩:=Bs.1 hx;have E_:=J q d;have hk:=o.2.1 q d;unfold HY at E_;simp only[Ba,K!]at E_;omega
  rw[BT]at this;omega
 refine AC (λ_=>?_) (λk=>O! k (by show¬ ¬((θ m:Int)<=16777216);omega));have C:((m.map (·.2)).map (·.1))=m.map (·.1):=by rw[PM];exact NT λq d=>(o.2.1 q d).symm
 refine AA (AHU U (l:=m.map (·.2)) (by rw[BT];exact W) (by rw[BT];omega) (by rw[C];exact o.1)) λs Q=>?_;have Y:θ s=θ m:=by rw[Q.1.length_eq,BT]
 have T:ξ (θ s) (θ m)=E:=by rw[Y];exact Hl _
 rw[T,B!];have O:∀e,e∈s↔(e∈l.2.1\/e∈Kk c.1 b)/\HY p i j e=E:=λe=>by
  rw[Q.1.mem_iff];constructor;intro u;obtain⟨q,d,rfl⟩:=Bs.1 u;have:(q.2.1,q.2)∈m:=by rw[<-o.2.1 q d];exact d
  rcases(o.2.2 q.2).1 this with g|g;exact⟨.inl g.1,g.2⟩;exact⟨.inr g.1,g.2⟩;rintro⟨g,g'⟩;exact Bs.2 ⟨(e.1,e),(o.2.2 e).2 (g.imp (λg=>⟨g,g'⟩) (λg=>⟨g,g'⟩)),rfl⟩
 refine AA (AKX o!) λr hr=>?_;rcases hr with⟨rfl,S⟩|⟨rfl,S⟩;exact BF (AB (.inr ⟨o!,s,Q.2,O,.inl ⟨S,rfl⟩⟩));exact Ay (AB (.inr ⟨o!,s,Q.2,O,.inr ⟨S,rfl⟩⟩))
def Uy{s t:S EN}(c:s.Pairwise λx y=>x.1<y.1)(d:t.Pairwise λx y=>x.1<y.1)(h:∀e,e∈s↔e∈t):s=t:=by have nd:∀{u:S EN},(u.Pairwise λx y=>x.1<y.1)->u.Nodup:=λg=>II.2 (g.imp λh e=>by rw[e]at h;omega);have f:=(ni (nd c) (nd d)).2 h;exact qK (le:=λa b=>a.1<b.1) (λa b _ _ i j=>o!) c d f
structure cp(L:List EN)(r:AQ):Prop where
 mem:∀e,e∈r.2.2.2.2.2↔e∈L/\hY e=true/\r.2.2.1<=e.2.2.2.2.2.2.1.1/\e.2.2.2.2.2.2.1.1<=r.2.2.2.1/\r.1<=e.1/\e.1<=r.2.1
 nd:(r.2.2.2.2.2.map (·.1)).Nodup
def AER{L:S EN}{l:Ac}{k:S AQ}{b p i j:Y}(a:∀e,e∈l.2.1↔e∈L∧l.1≤e.1∧e.1≤l.1+W l.2.1-1)(hr:∀r∈k,cp L r)
  (t:∀r∈k,r.2.2.1=b->b<=p/\p<=r.2.2.2.1) (h:(k.filter λr=>r.2.2.1==b).Pairwise λr s=>r.2.1<s.1\/s.2.1<r.1):AH8 l b p i j k where
 fromLog f hf hw hh:=by obtain⟨r,c,g⟩:=G3.1 hf;have d:=((hr r (BQ.1 c).1).mem f).1 g;unfold Qe at hh;simp only[Ba,K!]at hh;exact(a f).2 ⟨d.1,o!⟩
 inRuns e o hw ha:=by obtain⟨r,c,g⟩:=qN.1 ha;have d:=BQ.1 c;have q:r.2.2.1=b:=eq_of_beq d.2;have A:=t r d.1 q;unfold HY at hw;unfold Qe at g;simp only[Ba,K!,J!]at hw g;exact G3.2 ⟨r,c,((hr r d.1).mem e).2 ⟨((a e).1 o).1,hw.1,o!⟩⟩
 own r hrr f hf:=by have d:=((hr r hrr).mem f).1 hf;unfold Qe;simp only[Ba,K!];omega
 once:=by unfold Kk;rw[List.map_flatMap,II,List.pairwise_flatMap];refine⟨λr c=>II.1 (hr r (BQ.1 c).1).nd,?_⟩;refine qJ ?_ h;intro r s c g d x u y v o;obtain⟨e,m,rfl⟩:=Bs.1 u;obtain⟨f,n,rfl⟩:=Bs.1 v;have w:=((hr r (BQ.1 c).1).mem e).1 m;have z:=((hr s (BQ.1 g).1).mem f).1 n;omega
def zX{L}{d:S AQ}{a p i j:Y}(hr:∀r∈d,cp L r)(n:∀r∈d,r.2.2.1=a→a≤p∧p≤r.2.2.2.1){e}(l:HY p i j e=E):
  e∈Kk a d↔e∈L/\∃r∈d,r.2.2.1=a/\r.1<=e.1/\e.1<=r.2.1:=by
 unfold HY at l;simp only[Ba,K!,J!]at l;constructor;intro h;obtain⟨r,f,b⟩:=G3.1 h;obtain⟨c,k⟩:=BQ.1 f;have g:=((hr r c).mem e).1 b;exact⟨g.1,r,c,eq_of_beq k,g.2.2.2.2.1,g.2.2.2.2.2⟩;rintro⟨f,r,b,c,k,m⟩;have g:=n r b c;exact G3.2 ⟨r,BQ.2 ⟨b,by simp[c]⟩,((hr r b).mem e).2 ⟨f,l.1,o!,o!,k,m⟩⟩
def iB(a:AJ)(l:Ac)(low n:Y):Prop:=(l.1<=n/\n<=l.1+θ l.2.1-1)\/∃e∈DE a,e.1.2.2.1=low/\e.1.1<=n/\n<=e.1.2.1
def AId{B:Nat}{a:AJ}{l:Ac}{L:Ψ EN}{p i j:Int}{c:Int×(Int×Bool)}(N:CP B)(hB:B≤16777216)(O:j-i≤B)(X_:0≤i)(Y:i≤j)(hJ:j≤1099511627776)
  (h:VB a) (hd:DS a) (I:Dh l) (R:0<=p/\p<a.2.1) (F:Ej (a,p)=Z c) (Z_:c.2.2=E) (J:L.Pairwise λx y=>x.1<y.1) (b:∀e,e∈l.2.1↔e∈L/\l.1<=e.1/\e.1<=l.1+θ l.2.1-1)
  (hR:∀e∈DE a,cp L e.1) (w:AGO (DE a)) (S:∀e∈DE a,e.1.2.2.1=c.1->c.1<=p/\p<=e.1.2.2.2.1):
  ∃fl,(0<=fl/\fl<=j/\(∀n,fl<n->n<=j->iB a l c.1 n)/\(fl=0\/¬iB a l c.1 fl))/\Qq (a,l,p,i,j)=Z (τ (fl<=i))/\An (Hd (a,l,p,i,j)) λr=>(fl>i/\r=([],42))\/(fl<=i/\((Yi i (L.filter (HY p i j))/\r=(L.filter (HY p i j),0))\/(¬Yi i (L.filter (HY p i j))/\r=([],13)))):=by
 obtain⟨q,G,v,D_,w2,rfl,w4,w5⟩:=qB h hd (J8 h) w;have m:∀r∈v.map (·.1),∃e∈DE a,e.1=r:=λr hr=>by obtain⟨e,d,rfl⟩:=Bs.1 hr;exact⟨e,D_.mem_iff.1 d,rfl⟩
 have C:∀r∈v.map (·.1),cp L r:=λr hr=>by obtain⟨e,d,rfl⟩:=m r hr;exact hR e d
 have A:∀r∈v.map (·.1),r.2.2.1=c.1->c.1<=p/\p<=r.2.2.2.1:=λr hr=>by obtain⟨e,d,rfl⟩:=m r hr;exact S e d
 have T:((v.map (·.1)).filter λr=>r.2.2.1==c.1).Pairwise λr s=>r.2.1<s.1\/s.2.1<r.1:=by rw[List.filter_map,RF];have Q:v.Pairwise λx y=>x≠y:=II.1 (D_.nodup_iff.2 (J8 h));refine qJ ?_ (Q.filter _);intro x y hx hy P;obtain⟨x1,x2⟩:=BQ.1 hx;obtain⟨U,V⟩:=BQ.1 hy;exact w x (D_.mem_iff.1 x1) y (D_.mem_iff.1 U) P ((eq_of_beq x2).trans (eq_of_beq V).symm)
 have ad:(Vo l c.1 (v.map (·.1))).length<=257:=by have:=EK (λr:AQ=>r.2.2.1==c.1) (v.map (·.1));rw[BT]at this;simp only[Vo,Bh,BT];omega
 have K:SpL (Vo l c.1 (v.map (·.1))):=by refine⟨o!,λs f=>?_⟩;rcases Av.1 f with f|f;rw[f];exact I.1;obtain⟨r,hr,rfl⟩:=Bs.1 f;obtain⟨e,d,rfl⟩:=Bs.1 (BQ.1 hr).1;exact(w5 e d).1
 have k:∀n,zP (Vo l c.1 (v.map (·.1))) n↔iB a l c.1 n:=λn=>by constructor;rintro⟨s,f,o,t⟩;rcases Av.1 f with f|f;rw[f]at o t;exact .inl ⟨o,t⟩;obtain⟨r,hr,rfl⟩:=Bs.1 f;obtain⟨g1,H⟩:=BQ.1 hr;obtain⟨e,d,rfl⟩:=m r g1;exact .inr ⟨e,d,eq_of_beq H,o,t⟩;rintro(⟨o,t⟩|⟨e,d,h0,o,t⟩);exact⟨_,Av.2 (.inl rfl),o,t⟩;exact⟨(e.1.1,e.1.2.1),Av.2 (.inr (Bs.2 ⟨e.1,BQ.2 ⟨Tp (D_.mem_iff.2 d),by simp[h0]⟩,rfl⟩)),o,t⟩
 obtain⟨fl,E_,f1,f2,W,f4⟩:=AA8 K (u:=j) o! hJ;refine⟨fl,⟨f1,f2,λn o t=>(k n).1 (W n o t),f4.imp id λhh M=>hh ((k fl).2 M)⟩,?_,?_⟩;obtain⟨v0,ev,hv⟩:=aW (x:=(a,l,p,i)) h I ⟨R.1,R.2,X_⟩;unfold Qq;dsimp only;rw[ev,AD,beq_iff_eq.2 hv,B!,G! Y,B!,AAX I F Z_ G (by rw[BT,BT]) (by rw[BT];exact w4),AD,E_,AD];refine(AK4 N hB O X_ Y h I R F Z_ G (by rw[BT,BT]) (by rw[BT];exact w4) (λr hr=>?_) E_ (AER b C A T)).mono λr hr=>?_;obtain⟨e,d,rfl⟩:=Bs.1 hr;exact(w5 e d).2.2.2.2.2.2.2.2;rcases hr with hr|⟨hr,s,s1,s2,s3⟩;exact .inl hr;refine .inr ⟨hr,?_⟩;have f:s=L.filter (HY p i j):=Uy s1 (J.filter _) λe=>by rw[s2,BQ];constructor;rintro⟨g|g,z⟩;exact⟨((b e).1 g).1,z⟩;exact⟨((zX C A z).1 g).1,z⟩;rintro⟨g,z⟩;refine⟨?_,z⟩;have H:=z;unfold HY at H;simp only[Ba,K!]at H;rcases(k e.1).1 (W e.1 o! o!)with M|⟨y,U,V,y3,y4⟩;exact .inl ((b e).2 ⟨g,M⟩);exact .inr ((zX C A z).2 ⟨g,y.1,Tp (D_.mem_iff.2 U),V,y3,y4⟩)
 rw[<-f];exact s3
def BD.lt{n}{l}(h:BD n l):∀(d i:U)(x y:Y),l[i]?=Z x->l[i+1+d]?=Z y->x<y
 |0,i,x,y,hx,hy=>by have:=Cs hy;exact h.2.2.2.2.2.1 i x y o! hx hy
 |d+1,i,x,y,hx,hy=>by have e:=Cs hy;have a:l[i+1+d]?=Z (l[i+1+d]' o!):=Au o!;have b:=BD.lt h d i x _ hx a;have c:=h.2.2.2.2.2.1 (i+1+d) _ y o! a k!;omega
def BD.le{n}{l}(h:BD n l){i j:U}{x y:Y}(a:i<=j)(b:l[i]?=Z x)(c:l[j]?=Z y):x<=y:=by
 by_cases e:i=j;grind;obtain⟨d,rfl⟩:∃d,j=i+1+d:=⟨j-(i+1),o!⟩
 have:=h.lt d i x y b c;omega
def BD.mem{n}{l}(h:BD n l){i:U}{x:Y}(a:l[i]?=Z x):0<=x/\x<n:=by have f:=Cs a;have b:l[W l-1]?=Z (l[W l-1]' o!):=Au o!;have c:=h.le (BV i) h.2.2.2.2.1 a;have d:=h.le (by omega:i<=W l-1) a b;have e:=h.2.2.2.2.2.2 _ b;omega
def BD.inj{n}{l}(h:BD n l){i j:U}{x:Y}(b:l[i]?=Z x)(c:l[j]?=Z x):i=j:=by
 rcases RG i j with a|a|a;obtain⟨d,rfl⟩:∃d,j=i+1+d:=⟨j-(i+1),o!⟩
 have:=h.lt d i x x b c;omega;exact a;obtain⟨d,rfl⟩:∃d,i=j+1+d:=⟨i-(j+1),o!⟩
 have:=h.lt d j x x c b;omega
def qx(a:AJ)(i:U):Y:=match a.1[i+1]? with
 |some h=>h-1
 |none=>a.2.1-1
def Kt(a:AJ)(lo hi:Y):Prop:=∃i:U,a.1[i]?=Z lo/\hi=qx a i
def AE3{a:AJ}(h:BD a.2.1 a.1){i:U}(c:i<W a.1):(∀w,a.1[i+1]?=Z w->wi (w-1)=qx a i)/\(W a.1<=i+1->wi (a.2.1-1)=qx a i):=by refine⟨λw b=>?_,λd=>?_⟩;have:=h.mem b;have:=h.2.1;grind[qx,AY];have:=h.1;have:=h.2.1;grind[qx,u?,AY]
def oe{a:AJ}(h:BD a.2.1 a.1){i:U}{b:Y}(c:a.1[i]?=Z b):FA (a,(i:Y))=Z (b,qx a i):=by
 have f:=Cs c;have d:=h.2.2.2.1;have⟨j,k⟩:=AE3 h f;unfold FA;rw[AY (x:=(i:Y)+1),(by unfold ix;rw[C! o!,s?,c]:ix a.1 (i:Y)=Z b)];by_cases e:i+1<W a.1;have g:ix a.1 ((i:Y)+1)=Z a.1[i+1]:=by unfold ix;rw[C! o!,show((i:Y)+1).toNat=i+1 by omega,(m? e)]
 grind;grind
def zE{a:AJ}(h:BD a.2.1 a.1){i:U}{b:Y}(c:a.1[i]?=Z b):Kg (a,(i:Y))=Z (b,qx a i):=by
 have f:=Cs c;have d:=h.2.2.2.1;have⟨j,k⟩:=AE3 h f;unfold Kg;rw[AY (x:=(i:Y)+1),(by unfold ix;rw[C! o!,s?,c]:ix a.1 (i:Y)=Z b)];by_cases e:i+1<W a.1;have g:ix a.1 ((i:Y)+1)=Z a.1[i+1]:=by unfold ix;rw[C! o!,show((i:Y)+1).toNat=i+1 by omega,(m? e)]
 grind;grind
def se{a:AJ}{r:AQ}(h:BD a.2.1 a.1):An (Ff (a,r)) λk=>0<=k↔Kt a r.2.2.1 r.2.2.2.1:=by
 have g:=h.2.2.2.1;refine AA (P:=λq=>(∃k:Y,q=.inl k/\0<=k/\Kt a r.2.2.1 r.2.2.2.1)\/(q=.inr ()/\¬Kt a r.2.2.1 r.2.2.2.1)) ?_ λq p=>?_
 ·refine CQ (λ(s:Y)=>0<=s/\s<=θ a.1/\∀i:U,(i:Y)<s->¬(a.1[i]?=δ r.2.2.1/\r.2.2.2.1=qx a i)) (λs=>((θ a.1:Y)-s).toNat) ⟨Ae _,o!,λi m=>o!⟩ (λs j=>?_);have⟨e,t,u⟩:=j;unfold Hg;dsimp[O];refine AC (λl=>?_) (λl=>An.done (.inr ⟨rfl,?_⟩))
  ·obtain⟨k,rfl⟩:=EG e;rw[oe h (Au o!),AD,AY];have f:¬(a.1[k]?=δ r.2.2.1/\r.2.2.2.1=qx a k)->An (δ (Step.next ((k:Y)+1)):Option (Step Y (Y⊕Unit))) (MU (λ(s:Y)=>0<=s/\s<=θ a.1/\∀i:U,(i:Y)<s->¬(a.1[i]?=δ r.2.2.1/\r.2.2.2.1=qx a i)) (λs=>((θ a.1:Y)-s).toNat) ((θ a.1:Y)-(k:Y)).toNat λq=>(∃k:Y,q=.inl k/\0<=k/\Kt a r.2.2.1 r.2.2.2.1)\/(q=.inr ()/\¬Kt a r.2.2.1 r.2.2.2.1)):=λhn=>by
    refine An.next ⟨o!,o!,λi m=>?_⟩ o!
    grind
   refine AO (λb=>?_) (λb=>f λd=>b ?_)
   ·refine AO (λc=>An.done (.inl ⟨_,rfl,e,k,?_,?_⟩)) (λc=>f λd=>c d.2.symm);grind;grind
   grind
  rintro⟨i,n,o⟩;grind
 grind[BF,AB,Ay]
def AFR{a:AJ}{r:AQ}(h:BD a.2.1 a.1):An (M0 (a,r)) λk=>0<=k↔Kt a r.2.2.1 r.2.2.2.1:=by
 have g:=h.2.2.2.1;refine AA (P:=λq=>(∃k:Y,q=.inl k/\0<=k/\Kt a r.2.2.1 r.2.2.2.1)\/(q=.inr ()/\¬Kt a r.2.2.1 r.2.2.2.1)) ?_ λq p=>?_
 ·refine CQ (λ(s:Y)=>0<=s/\s<=θ a.1/\∀i:U,(i:Y)<s->¬(a.1[i]?=δ r.2.2.1/\r.2.2.2.1=qx a i)) (λs=>((θ a.1:Y)-s).toNat) ⟨Ae _,o!,λi m=>o!⟩ (λs j=>?_);have⟨e,t,u⟩:=j;unfold RO;dsimp[O];refine AC (λl=>?_) (λl=>An.done (.inr ⟨rfl,?_⟩))
  ·obtain⟨k,rfl⟩:=EG e;rw[zE h (Au o!),AD,AY];have f:¬(a.1[k]?=δ r.2.2.1/\r.2.2.2.1=qx a k)->An (δ (Step.next ((k:Y)+1)):Option (Step Y (Y⊕Unit))) (MU (λ(s:Y)=>0<=s/\s<=θ a.1/\∀i:U,(i:Y)<s->¬(a.1[i]?=δ r.2.2.1/\r.2.2.2.1=qx a i)) (λs=>((θ a.1:Y)-s).toNat) ((θ a.1:Y)-(k:Y)).toNat λq=>(∃k:Y,q=.inl k/\0<=k/\Kt a r.2.2.1 r.2.2.2.1)\/(q=.inr ()/\¬Kt a r.2.2.1 r.2.2.2.1)):=λhn=>by
    refine An.next ⟨o!,o!,λi m=>?_⟩ o!
    grind
   refine AO (λb=>?_) (λb=>f λd=>b ?_)
   ·refine AO (λc=>An.done (.inl ⟨_,rfl,e,k,?_,?_⟩)) (λc=>f λd=>c d.2.symm);grind;grind
   grind
  rintro⟨i,n,o⟩;grind
 grind[BF,AB,Ay]
def Good(a:AJ)(f:Am)(r:AQ):Prop:=f.1=1/\f.2.2=Nb r/\VR r/\Kt a r.2.2.1 r.2.2.2.1
def Bad(f:Am):Prop:=W f.2.2<=1099511627776/\∀r,WR r->f.2.2≠Nb r
def Good.intact{a}{f}{r}(h:Good a f r)(e:BD a.2.1 a.1):HB (a,f)=Z (r,E):=by have⟨b,c,d,g⟩:=h;have⟨k,k1,i⟩:=AFR (r:=r) e;unfold HB;rw[b,c,H!,A!,AJT d,AD,show(((r,(0:Y)):AQ×Y).2==0)=E from rfl,B!];grind
def Good.intR{a}{f}{r}(h:Good a f r)(b:BD a.2.1 a.1):intR a f=Z (r,f.2.1):=by unfold Go.Pm.intR;rw[h.intact b]
def Good.ref{a}{f}{r}(h:Good a f r)(g:BD a.2.1 a.1):∃k,DT (a,f)=Z (r,k)/\0<=k:=by have⟨b,c,d,e⟩:=h;have⟨k,k1,i⟩:=se (r:=r) g;refine⟨k,?_,i.2 e⟩;unfold DT;rw[b,c,H!,A!,ya d,AD,show(((r,(0:Y)):AQ×Y).2 !=0)=X from rfl,A!];grind
def Bad.intR{a:AJ}{f}(h:Bad f)(d:BD a.2.1 a.1):intR a f=D:=by
 have key:An (HB (a,f)) λr=>r.2=X:=by exact AL (y? rfl) (λ_=>AA (AJU h.1) λv b=>AO (λc=>O! (b c).1 (h.2 _ (b c).2)) (y? rfl))
 have⟨⟨r,o⟩,k1,e⟩:=key;grind[Go.Pm.intR]
def Bad.ref{a:AJ}{f}(h:Bad f):∃r,DT (a,f)=Z (r,-1):=by
 have key:An (DT (a,f)) λr=>r.2= -1:=by exact AL (y? rfl) (λ_=>AA (AJe h.1) λv b=>AL (y? rfl) (λc=>O! (b c).1 (h.2 _ (b c).2.wr)))
 have⟨⟨r,o⟩,k1,d⟩:=key;grind
def uX{x y}(b:VR x)(c:VR y)(h:Nb x=Nb y):x=y:=by have a:=ya b;rw[h,ya c]at a;injection a with a;exact(Prod.ext_iff.1 a).1.symm
structure AR(L:List EN)(a:AJ):Prop where
 vb:VB a
 files:∀f∈a.2.2.1,Bad f\/∃r,Good a f r/\cp L r/\r.2.1<a.2.2.2.1
 dis:AGO (DE a)
def AG(a:AJ):Prop:=∀f∈a.2.2.1,∃r,Good a f r
def RC(a:AJ)(c:U):Prop:=∀lo,((DE a).filter λe=>e.1.2.2.1==lo).length<=c
def jL{b:Type}:∀(l m:S b),l.Nodup->(∀x∈l,x∈m)->W l<=W m
 |[],m,_,_=>BV _
 |a::l,m,hn,hs=>by
  obtain⟨s,t,rfl⟩:=List.append_of_mem (hs a (Av.2 (.inl rfl)));rw[G4]at hn;have:=jL l (s++t) hn.2 λx c=>k!
  grind
def AR.mem{L}{a}(h:AR L a){e:NE}(g:e∈DE a):∃f∈a.2.2.1,Good a f e.1/\e.2=f.2.1/\cp L e.1/\e.1.2.1<a.2.2.2.1:=by have⟨f,i,b⟩:=PN.1 g;rcases h.files f i with d|⟨r,c,j,k⟩;rw[d.intR h.vb.1]at b;cases b;rw[c.intR h.vb.1]at b;grind
def QS{a:AJ}(b:BD a.2.1 a.1){f:Am}{r}(c:f∈a.2.2.1)(h:Good a f r):(r,f.2.1)∈DE a:=by exact PN.2 ⟨f,c,h.intR b⟩
def Good.size{a}{f}{r}(h:Good a f r):W f.2.2<=34406441:=by rw[h.2.1];exact h.2.2.1.len
def AR.sa{L}{a}(h:AR L a):SA a:=by have⟨⟨g,i,j,b,k,l,m⟩,a1,a2,a3,a4,a5,a6⟩:=h.vb;refine⟨b,o!,λf e=>?_⟩;rcases h.files f e with d|⟨r,c,_⟩;exact d.1;have:=c.size;omega
def AR.ds{L}{a}(h:AR L a):DS a:=λf b=>by have:=h.sa.2.2 f b;omega
def Kt.uniq{a:AJ}(d:BD a.2.1 a.1){lo b c}(p:Kt a lo b)(q:Kt a lo c):b=c:=by obtain⟨i,e,f⟩:=p;obtain⟨j,g,h⟩:=q;have:=d.inj e g;subst this;rw[f,h]
def AAm{l:S EN}{e:EN}(h:W l<=16777000):An (Cf (l,e)) λr=>W r.1<=W l+1/\((∀y,y∈r.1↔y∈l\/y=e)\/(r.1=l/\∃z∈l,z.1=e.1)):=by
 unfold Cf;refine AA (Qu (x:=(l,e)) ⟨Ae _,o!,d!⟩) λp g=>?_;dsimp only at g⊢;have main:An (σ (Sr l 0 p) λi=>
  σ (Sr l p (O l)) λj=>
  σ (app [] i) λk=>
  σ (app k ([e]:S (Y×(Y×(Y×(Y×(Y×(Y×((Y×(Y×((N×Bd)×(N×Bd))))×Bd))))))))) λv=>
  σ (app v j) λw=>
  Z (w,E)) λr=>W r.1<=W l+1/\((∀y,y∈r.1↔y∈l\/y=e)\/(r.1=l/\∃z∈l,z.1=e.1)):=by
  refine AA (BU (Ae _) g.1 g.2) λt a=>AA (BU g.1 b! i!) λu n=>?_;have B:=a.2;have o:=n.2;simp[O]at o;refine AA (AZ w!) λi b=>?_;have q:=b.2.1;simp[Bi]at q;refine AA (AZ w!) λj d=>?_;have s:=d.2.1;simp[Bi,Bh]at s;refine AA (AZ o!) λk f=>AB ?_;have C:=f.2.1;refine⟨d!,.inl λy=>?_⟩;have m:t=l.take p.toNat:=by rw[a.1];simp
  dsimp only;rw[f.1,d.1,b.1,m,(by grind[List.take_of_length_le,List.length_drop]:u=l.drop p.toNat),B5];conv=>rhs;rw[<-DG p.toNat l]
  grind[a!]
 refine AC (λA=>?_) (λ_=>main);simp[O]at A;refine AA (AI g.1 A) λD_ H=>?_;have⟨c,E_,F,G⟩:=AIE D_ e;grind[AO,AA,AI,AB]
def Uq(L:S EN):Prop:=∀x∈L,∀y∈L,x.1=y.1->x=y
theorem oY{L l:S EN}{e:EN}(c:Uq L)(f:∀x∈l,x∈L)(d:e∈L)(h:W l<=16777000):An (Cf (l,e)) λr=>W r.1<=W l+1/\∀y,y∈r.1↔y∈l\/y=e:=by
 refine(AAm h).mono λr hr=>⟨hr.1,?_⟩
 rcases hr.2 with hr|⟨b,z,a,i⟩;exact hr;have:=c z (f z a) e d i;subst this;intro y;rw[b];exact⟨.inl,λg=>g.elim id λh=>h▸a⟩
def VR.sorted{r:AQ}(h:VR r):r.2.2.2.2.2.Pairwise ltC:=by
 rw[EL];have step:∀d i:U,∀(a:i<θ r.2.2.2.2.2)(b:i+1+d<θ r.2.2.2.2.2),ltC r.2.2.2.2.2[i] r.2.2.2.2.2[i+1+d]:=by
  intro d;induction d with
  |zero=>intro i a b;exact((h.2 (i+1) _ (Au b)).2.2 _ o! (Au a)).1
  |succ d e=>intro i a b;exact ADX (e i a o!) (((h.2 (i+1+(d+1)) _ (Au b)).2.2 _ o! (Au (by omega:i+1+d<_))).1)
 intro i j a b c;have:=step (j-(i+1)) i a o!;simp[(by omega:i+1+(j-(i+1))=j)]at this;exact this
def VR.nd{L}{r}(b:Uq L)(h:VR r)(a:∀e∈r.2.2.2.2.2,e∈L):(r.2.2.2.2.2.map (·.1)).Nodup:=by rw[II,RF];refine h.sorted.imp_of_mem λ{x y} f g d c=>?_;have:=b x (a x f) y (a y g) c;grind[ABM]
def VR.runOf{L}{r}(b:Uq L)(h:VR r)(a:∀e,e∈r.2.2.2.2.2↔e∈L/\hY e=E/\r.2.2.1<=e.2.2.2.2.2.2.1.1/\e.2.2.2.2.2.2.1.1<=r.2.2.2.1/\r.1<=e.1/\e.1<=r.2.1):cp L r:=⟨a,h.nd b λe c=>((a e).1 c).1⟩
def ACF{v}:hY v=E↔v.2.1=1\/v.2.1=2:=by grind[hY]
def AGR{L d:S EN}{F T g f i:Y}(C:Uq L)(B:∀e∈d,e∈L)(H:W d≤16777000):
  An (Ai (KZ (d,F,T,g,f,i)) (X,0,F,T,g,f,i,[])) λr=>∃a:S EN,r.2=(F,T,g,f,i,a)/\W a<=W d/\∀y,y∈a↔y∈d/\hY y=E/\g<=y.2.2.2.2.2.2.1.1/\y.2.2.2.2.2.2.1.1<=f/\F<=y.1/\y.1<=T:=by
 refine CQ (λs=>∃(k:U)(a:S EN),s.2=((k:Y),F,T,g,f,i,a)/\k<=W d/\W a<=k/\∀y,y∈a↔y∈d.take k/\hY y=E/\g<=y.2.2.2.2.2.2.1.1/\y.2.2.2.2.2.2.1.1<=f/\F<=y.1/\y.1<=T) (W d-·.2.1.toNat)
  ⟨0,[],rfl,BV _,Al _,λy=>q!⟩ ?_
 rintro⟨M,K⟩ ⟨k,a,rfl,I,J,n⟩;unfold KZ;dsimp only;simp only[O];refine AC (λw=>?_) (λw=>k? ⟨a,rfl,o!,by rw[BM o!]at n;exact n⟩);refine AA (AI o! w) λv l=>?_;have A:=l.1;rw[CR]at A;have q:d.take (k+1)=d.take k++[v]:=by rw[Ck,A];rfl
 rw[AY]
 have c:∀m:N,¬(hY v=E∧g≤v.2.2.2.2.2.2.1.1∧v.2.2.2.2.2.2.1.1≤f∧F≤v.1∧v.1≤T)→
   An (Z (Step.next (m,(k:Y)+1,F,T,g,f,i,a)):V (Step (N×(Y×AQ)) (N×AQ))) (MU (λs=>∃(k:U)(a:S EN),s.2=((k:Y),F,T,g,f,i,a)/\k<=W d/\W a<=k/\∀y,y∈a↔y∈d.take k/\hY y=E/\g<=y.2.2.2.2.2.2.1.1/\y.2.2.2.2.2.2.1.1<=f/\F<=y.1/\y.1<=T) (W d-·.2.1.toNat) (W d-((k:U):Y).toNat)
    λr=>∃a:S EN,r.2=(F,T,g,f,i,a)/\W a<=W d/\∀y,y∈a↔y∈d/\hY y=E/\g<=y.2.2.2.2.2.2.1.1/\y.2.2.2.2.2.2.1.1<=f/\F<=y.1/\y.1<=T):=λm hn=>by
  refine y! ⟨k+1,a,rfl,o!,o!,λy=>?_⟩ d!
  grind[a!]
 refine AA CT λb u=>AP (λz=>c _ λj=>?_) (λD_=>?_);rw[u.2 (ACF.1 j.1)]at z;cases z;refine AC (λ_=>c _ λj=>o!) (λq2=>AC (λ_=>c _ λj=>o!) (λq3=>AC (λ_=>c _ λj=>o!) (λq4=>AC (λ_=>c _ λj=>o!) (λq5=>AA (SS ⟨Ae _,d!⟩) λG _=>AA (oY C (λx E_=>B x (F9 ((n x).1 E_).1)) (B v l.2) o!) λt o=>y! ⟨k+1,t.1,rfl,o!,o!,λy=>?_⟩ d!))))
 rw[o.2,n,q,Ak,A5];constructor;rintro(⟨h,p⟩|h);exact⟨.inl h,p⟩;subst h;exact⟨.inr rfl,ACF.2 (u.1 D_),o!⟩;rintro⟨h|h,p⟩;exact .inl ⟨h,p⟩;exact .inr h
def AIf{L c:S EN}{F T h g j:Y}(n:Uq L)(q:∀e∈c,e∈L)(p:W c<=16777000):An (J3 (c,F,T,h,g,j)) λr=>r.2=0->VR r.1/\∃b:S EN,r.1=(F,T,h,g,j,b)/\∀y,y∈b↔y∈c/\hY y=E/\h<=y.2.2.2.2.2.2.1.1/\y.2.2.2.2.2.2.1.1<=g/\F<=y.1/\y.1<=T:=by unfold J3;refine AA I3 λw _=>AP (y? λa=>O! (show(1:Y)=0 from a) g!) (λ_=>?_);refine AA (SP ⟨Ae _,d!⟩) λx m=>BH (λu i=>AB λa=>O! a (m u i)) (λu i=>AA (AGR n q p) λs d=>?_);have⟨b,k,v,l⟩:=d;refine AK (y? λa=>O! (show(41:Y)=0 from a) g!) (λ_=>?_);refine AC (y? λa=>O! (show(21:Y)=0 from a) g!) (λ_=>?_);refine AA YX λt f=>AP (y? λa=>O! (show(13:Y)=0 from a) g!) (λo=>AB λ_=>⟨f.1 o,b,k,l⟩)
def AIg{x:Y×S Y}(h:BD x.1 x.2):An (G8 x) λr=>r.2=0/\VB r.1/\r.1.2.1=x.1/\r.1.2.2.2.1=1:=by refine AA nv λl c=>AP (λb=>(by rw[c.2 h]at b;cases b)) (λ_=>?_);have k:=h.2.2.2.1;refine AA (AZ w!) λm e=>AB ⟨rfl,⟨?_,u!,u!,u!,u!,q!,⟨λi f d a=>by simp at a,λi f g d a j=>by simp at a⟩⟩,rfl,rfl⟩;grind
def FR.push{l m:S Am}{f:Am}{c}(h:FR l c (W l))(v:1<=c)(r:f.2.1=c)(u:m=l++[f]):FR m (c+1) (W m):=by
 subst u;obtain⟨q,t⟩:=h;have p:(l++[f]).length=W l+1:=q!
 have b:∀(i:U)(g:Am),¬i<W l->(l++[f])[i]?=Z g->g=f:=λi g j a=>by
  have o:=Cs a;rw[p]at o;have s:i=W l:=o!
  subst s;rw[Cn (Al _)]at a;simp at a;exact a.symm
 refine⟨λi g j a=>?_,λi g k j a n=>?_⟩;by_cases e:i<W l;rw[CY e]at a;have:=q i g o! a;exact⟨this.1,o!⟩;rw[b i g e a,r];exact o!;rw[p]at j;have e:i<W l:=o!
 rw[CY e]at a;by_cases d:i+1<W l;rw[CY d]at n;exact t i g k o! a n;rw[b (i+1) k d n,r];exact(q i g o! a).2
def AGX{x:AJ×Ac×Int}(h:SA x.1)(l:VB x.1):An (Et x) λr=>r.2=0->SA r.1/\VB r.1/\r.1.2.1=x.1.2.1/\(r.1.2.2.2.1=x.1.2.2.2.1\/r.1.2.2.2.1<=x.2.1.2.2+1):=by
 unfold Et;refine AA Ka λv0 O=>AP (λ_=>AB n!) (λd=>?_);obtain⟨a1,a2,a3,a4,a5,a6,a7,a8,a9⟩:=O d;refine AA Bb λv1 q=>AP (λ_=>AB n!) (λm=>?_);obtain⟨l1,l2,l3,l4,l5,Z_⟩:=q.1 m;refine AC (λ_=>AB n!) (λc1=>AC (λ_=>AB n!) (λc2=>?_));generalize S:(if(x.2.1.1>x.1.2.2.2.1)then x.2.1.1 else x.1.2.2.2.1)=F;have f1:x.2.1.1<=F/\x.1.2.2.2.1<=F/\F<=1099511627777:=by rw[<-S];split<;>omega
 have D_:=AY (x:=F+x.2.2);have E_:=AY (x:=F+x.2.2-1);rw[D_,E_];generalize T:(if(x.2.1.2.2<(F+x.2.2-1))then x.2.1.2.2 else(F+x.2.2-1))=G;have g1:G<=x.2.1.2.2/\G<=F+x.2.2-1:=by rw[<-T];split<;>omega
 refine AC (λ_=>AB λ_=>⟨h,l,rfl,.inl rfl⟩) (λc3=>?_);have H:=AY (x:=F-x.2.1.1);have I:=AY (x:=G-x.2.1.1);have J:=AY (x:=G-x.2.1.1+1);rw[H,I,J];have K:=AY (x:=len x.1.2.2.1+len x.1.1) i!;have L:=AY (x:=x.1.2.2.2.2+len x.1.1) i!;have M:=AY (x:=G+1);rw[K,L,M];have U:G<=1099511627776:=by
  have X_:θ x.2.1.2.1≠0:=o!
  obtain⟨i,n⟩:∃i,x.2.1.2.1[θ x.2.1.2.1-1]?=δ i:=⟨_,Au o!⟩
  have:=Z_ _ i n;have q:=this.1;have t:=this.2.2.1;omega
 refine AC (λ_=>AB n!) (λB=>AC (λ_=>AB n!) (λC=>?_));simp only[len]at B C;refine AA (BU) λv2 t=>?_;have W:=t.2;refine AA (SV ⟨Ae _,d!,o!⟩) λv8 R=>BH (λu b=>AB λa=>O! a (R u b)) (λu b=>AA (AZ w!) λad j=>?_);have c:=j.1;rw[B5]at c;refine AA (P:=λr=>(∀u,r=.inl u->u.1≠0)/\∀u,r=.inr u->u.2.1=x.1.1/\θ u.1<=256/\(∀f∈u.1,θ f.2.2<=1099511627776)/\u.2.2.1=x.1.2.1/\u.2.2.2.2.1=x.1.2.2.2.2+θ x.1.1/\FR u.1 u.2.2.2.2.1 (θ u.1)) ?_ λr hr=>BH (λu b=>AB λa=>O! a (hr.1 u b)) (λu b=>AB λ_=>?_);refine AW (λ(s:Int×List Am×List Int×Int×Int×Int×AJ)=>0<=s.1/\s.1<=θ x.1.1/\s.2.2.1=x.1.1/\(θ s.2.1:Int)=θ x.1.2.2.1+s.1/\(∀f∈s.2.1,θ f.2.2<=1099511627776)/\s.2.2.2.1=x.1.2.1/\s.2.2.2.2.2.1=x.1.2.2.2.2+s.1/\FR s.2.1 s.2.2.2.2.2.1 (θ s.2.1)) (λ(s:Int×List Am×List Int×Int×Int×Int×AJ)=>((θ x.1.1:Int)-s.1).toNat) ⟨Ae _,d!,rfl,by dsimp only;rw[c];omega,by dsimp only;rw[c];exact h.2.2,rfl,d!,by dsimp only;rw[c];exact l.2.2.2.2.2.2⟩ (λs V=>?_);obtain⟨Y,i2,v,i4,y,z,i7,A⟩:=V;unfold Oz;have e:=AY (x:=s.1+1);rw[e];refine AC (λd=>?_) (λd=>AB ⟨λu b=>(by cases b),λu b=>(by cases b;simp only[len]at d;exact⟨v,o!,y,z,o!,A⟩)⟩);simp only[len]at d;refine AA (Un a4 ⟨Y,d⟩) λal _=>AA (iv d!) λao Q=>AL (λd=>AB ⟨λu b=>(by cases b;exact d),λu b=>(by cases b)⟩) (λ_=>AA cM λap k=>AA (AZ w!) λar g=>AB ?_);have p:=g.2.1;simp only[Bh,Bi]at p;have N:=AY (x:=s.2.2.2.2.2.1+1);rw[N];refine⟨⟨d!,d!,v,d!,λf o=>?_,z,d!,A.push o! rfl g.1⟩,d!⟩;dsimp only at o;rw[g.1]at o;rcases Ak.1 o with w|w;exact y f w;simp at w;rw[w];exact k;obtain⟨q1,q2,q3,q4,q5,q6⟩:=hr.2 u b;refine⟨⟨by dsimp only;rw[q1];exact a4,d!,q3⟩,⟨?_,d!,d!,d!,d!,q2,q6⟩,q4,.inr d!⟩;dsimp only;rw[q1,q4];exact l.1
def FP(l:S Am)(m:Y):Prop:=(∀f∈l,0<f.2.1/\f.2.1<m)/\l.Pairwise λf g=>f.2.1<g.2.1
def AA7{l}{m}(h:FP l m):FR l m (W l):=by refine⟨λi f e a=>h.1 f (BO a),λi f g e a d=>?_⟩;have b:=Cs a;have c:=Cs d;have:=EL.1 h.2 i (i+1) b c o!;grind
def FR.fp{l}{m}(h:FR l m (W l)):FP l m:=by
 refine⟨λf e=>?_,EL.2 λi j b c g=>?_⟩;obtain⟨i,b⟩:=Eg.1 e;have:=Cs b;exact h.1 i f o! b;obtain⟨d,rfl⟩:∃d,j=i+1+d:=⟨j-(i+1),o!⟩
 induction d with
 |zero=>exact h.2 i _ _ o! (Au b) (Au c)
 |succ d k=>
  have a:i+1+d<W l:=o!
  have n:=k a o!;have o:=h.2 (i+1+d) l[i+1+d] l[i+1+(d+1)] o! (Au a) (Au c);omega
def FR.sub{l k:S Am}{m}(h:FR l m (W l))(a:k.Sublist l):FR k m (W k):=AA7 ⟨λf b=>h.fp.1 f (a.subset b),h.fp.2.sublist a⟩
def ACx{b}{x}{m}(v:FR x m (θ x))(h:CX b)(hx:θ x<=1000000)(j:∀f∈x,θ f.2.2<=1099511627776):An (GB b x) λr=>CX r.2/\θ r.1<=θ x/\FR r.1 m (θ r.1)/\∀f∈r.1,θ f.2.2<=1099511627777:=by
 unfold GB;refine AO (y? ⟨h,q!,⟨λi f s j=>by simp at j,λi f g s j c=>by simp at j⟩,λf j=>by simp at j⟩) (λA=>?_);simp only[len]at A;refine AA (Ah h i!) λd Q=>?_;obtain⟨M,t,N⟩:=Q;simp only[len]at N;have e:=AY (x:=d.1+1);rw[e];refine AA (Ah M g!) λv1 D_=>AO (λ_=>?_) (λ_=>?_);refine AA (BU (Ae _) t) λv2 E_=>AA (BU o! i! i!) λv3 F=>?_;have l2:=E_.2;have T:=F.2;simp only[len]at T;refine AA (AZ w!) λv4 G=>?_;have U:=G.2.1;simp only[Bi]at U;refine AA (AZ o!) λY H=>AB ⟨D_.1,?_,?_⟩;have l5:=H.2.1;dsimp only;omega;have J:Y.Sublist x:=by
  rw[H.1,G.1,E_.1,F.1,B5];have O:x=x.take d.1.toNat++x.drop d.1.toNat:=(DG _ _).symm;suffices n:((x.drop (0:Int).toNat).take (d.1.toNat-(0:Int).toNat)++(x.drop (d.1+1).toNat).take ((len x).toNat-(d.1+1).toNat)).Sublist (x.take d.1.toNat++x.drop d.1.toNat) by rw[<-O]at n;exact n
  apply List.Sublist.append;simp;apply (fk _ _).trans;have P:(d.1+1).toNat=d.1.toNat+1:=o!
  rw[P,<-LK];exact mL _ _
 exact⟨v.sub J,λf l=>by have:=j f (J.subset l);omega⟩;refine AA (AZ w!) λy R=>?_;have C:=R.1;rw[B5]at C;subst C;refine AA (AI t) λv7 _=>AA (AI t) λK z=>AA (XP D_.1 (j _ z.2)) λL I=>AA (AI t) λX_ _=>AA (AI t) λa u=>AB ⟨I.1,by simp[EU],?_,λf l=>?_⟩;have q:=v.fp;have Z_:K=a:=by have:=z.1;rw[u.1]at this;exact(BY this).symm
 have key:∀(i:Nat)(g:Am),(EU y d.1 (a.1,a.2.1,L.1))[i]?=Z g->∃k,y[i]?=Z k/\k.2.1=g.2.1:=λi g c=>by simp only[EU]at c;rw[Wf]at c;split at c;rename_i s;subst s;split at c;exact⟨a,u.1,by rw[<-BY c]⟩;cases c;exact⟨g,c,rfl⟩
 have el:(EU y d.1 (a.1,a.2.1,L.1)).length=θ y:=by simp[EU]
 refine⟨λi g s c=>?_,λi g k s c S=>?_⟩;obtain⟨p,B,W⟩:=key i g c;have:=v.1 i p (by dsimp only at s;omega) B;omega;obtain⟨p,B,W⟩:=key i g c;obtain⟨o,V,o2⟩:=key (i+1) k S;have:=v.2 i p o (by dsimp only at s;omega) B V;omega;simp only[EU]at l;rcases Q9 l with w|w;have:=j f w;omega;rw[w];have:=I.2;have:=j K z.2;dsimp only;omega
def AEF(L:S EN)(a:AJ)(F G s:Y)(nf:S Am):Prop:=∀(j:U)(f:Am),nf[j]?=Z f->
 ∃r,f=(1,s+j,Nb r)/\VR r/\cp L r/\r.1=F/\r.2.1=G/\a.1[j]?=Z r.2.2.1/\r.2.2.2.1=qx a j
def Dh.uq{l}(h:Dh l):Uq l.2.1:=λx b y c a=>Vl h.nodup b c a
def wy{l}(h:Dh l){F G:Y}{v:S EN}(g:l.1<=F)(i:F<=G)(j:G<=l.1+W l.2.1-1)(b:v=(l.2.1.drop (F-l.1).toNat).take ((G-l.1+1).toNat-(F-l.1).toNat))(e:EN):e∈v↔e∈l.2.1/\F<=e.1/\e.1<=G:=by subst b;have⟨l1,l2,m,n,o,c⟩:=h;rw[Eg,Eg];constructor;grind;rintro⟨⟨k,a⟩,d,f⟩;have:=(c _ e a).1;refine⟨k-(F-l.1).toNat,?_⟩;rw[dA,C! o!,KC,show(F-l.1).toNat+(k-(F-l.1).toNat)=k by omega,a]
def AAp{x:AJ×Ac×Int}(h:SA x.1)(hb:VB x.1)(q:Dh x.2.1):An (Et x) λr=>r.2=0→r.1=x.1∨
  ∃F G a,r.1=(x.1.1,x.1.2.1,x.1.2.2.1++a,G+1,x.1.2.2.2.2+θ a)/\(x.1.2.2.2.1<=F/\(x.2.1.1<=x.1.2.2.2.1->F=x.1.2.2.2.1)/\(x.2.1.1<=F/\G<=x.2.1.2.2))/\F<=G/\θ a=θ x.1.1/\AEF x.2.1.2.1 x.1 F G x.1.2.2.2.2 a:=by
 unfold Et;refine AA Ka λv0 X_=>AP (y? λb=>O! (show(54:Int)=0 from b) g!) (λi=>?_);have⟨a1,a2,a3,a4,a5,a6,a7,a8,a9⟩:=X_ i;refine AA Bb λv1 h1=>AP (y? λb=>O! (show(26:Int)=0 from b) g!) (λad=>?_);have⟨l1,l2,l3,l4,l5,l6⟩:=id q;refine AC (y? λb=>O! (show(1:Int)=0 from b) g!) (λc1=>AC (y? λb=>O! (show(1:Int)=0 from b) g!) (λc2=>?_));have o:∃F,(if(x.2.1.1>x.1.2.2.2.1)then x.2.1.1 else x.1.2.2.2.1)=F:=⟨_,rfl⟩
 have⟨F,o⟩:=o;have V:x.2.1.1<=F/\x.1.2.2.2.1<=F/\F<=1099511627777:=k!
 have W:x.2.1.1<=x.1.2.2.2.1->F=x.1.2.2.2.1:=k!
 have C:=AY (x:=F+x.2.2);have D_:=AY (x:=F+x.2.2-1);have p:∃G,(if(x.2.1.2.2<(F+x.2.2-1))then x.2.1.2.2 else(F+x.2.2-1))=G:=⟨_,rfl⟩
 have⟨G,p⟩:=p;have g1:G<=x.2.1.2.2/\G<=F+x.2.2-1:=k!
 rw[o,C,D_,p];refine AC (y? λ_=>.inl rfl) (λc3=>?_);have Q:=AY (x:=F-x.2.1.1);have R:=AY (x:=G-x.2.1.1);have S:=AY (x:=G-x.2.1.1+1);rw[Q,R,S];have T:=AY (x:=len x.1.2.2.1+len x.1.1) b!;have U:=AY (x:=x.1.2.2.2.2+len x.1.1) b!;rw[T,U,(AY (x:=G+1))];refine AC (y? λb=>O! (show(21:Int)=0 from b) g!) (λN=>AC (y? λb=>O! (show(21:Int)=0 from b) g!) (λO=>?_));simp[len]at N O;refine AA (BU) λv2 E_=>?_;have al:=E_.2;have l:=wy q (F:=F) (G:=G) V.1 o! o! E_.1;refine AA (SV ⟨Ae _,d!,o!⟩) λv8 Z_=>BH (λu c=>AB λb=>O! b (Z_ u c)) (λu c=>AA (AZ w!) λao t=>?_);have g:=t.1;rw[B5]at g;subst g;refine AA (P:=λr=>(∀u,r=.inl u->u.1≠0)/\∀u,r=.inr u->∃(a:Ψ Am),(u.1,u.2.1,u.2.2.1,u.2.2.2.1,u.2.2.2.2.1)=(x.1.2.2.1++a,x.1.1,x.1.2.1,x.1.2.2.2.1,x.1.2.2.2.2+θ a)/\θ a=θ x.1.1/\AEF x.2.1.2.1 x.1 F G x.1.2.2.2.2 a) ?_ λr hr=>BH (λu c=>AB λb=>O! b (hr.1 u c)) (λu c=>AB λ_=>.inr ?_)
 ·refine CQ (λs=>∃(k:Nat)(a:Ψ Am)(z:AJ),s=((k:Int),x.1.2.2.1++a,x.1.1,x.1.2.1,x.1.2.2.2.1,x.1.2.2.2.2+(k:Int),z)/\k<=θ x.1.1/\θ a=k/\AEF x.2.1.2.1 x.1 F G x.1.2.2.2.2 a) (θ x.1.1-·.1.toNat)
   ⟨0,[],u,q!,BV _,rfl,λj f d=>by simp at d⟩ ?_
  rintro s ⟨k,a,z,rfl,i2,A,I⟩;unfold Oz;dsimp only;simp only[len];rw[o,C,D_,p];refine AC (λi=>?_) (λi=>k? ⟨λu c=>(by cases c),λu c=>(by cases c;exact⟨a,by dsimp only;rw[A],o!,I⟩)⟩);have H:x.1.1[k]?=Z (x.1.1[k]' o!):=Au o!;rw[oe hb.1 H,AD];refine AA (AIf q.uq (λe he=>((l e).1 he).1) o!) λn v=>AL (λi=>k? ⟨λu c=>(by cases c;exact i),λu c=>(by cases c)⟩) (λb=>?_);have⟨B,es,m,m3⟩:=v b;rw[rj B,AD];refine AA (AZ w!) λap Y=>?_;rw[AY (x:=x.1.2.2.2.2+(k:Int)+1),AY (x:=(k:Int)+1)];refine y! ⟨k+1,a++[(1,x.1.2.2.2.2+(k:Int),Nb n.1)],z,?_,o!,by rw[Aa,A];rfl,λj f d=>?_⟩ d!
  grind;by_cases hj:j<θ a;rw[CY hj]at d;exact I j f d;have y:=Cs d;rw[Aa,Bh,Bi]at y;have w:j=k:=o!
  subst w;rw[Cn o!,A,G5]at d;cases d;refine⟨n.1,rfl,B,B.runOf q.uq λe=>?_,by rw[m],by rw[m],by rw[m];exact H,by rw[m]⟩;rw[m];dsimp only;rw[m3,l];constructor;grind;rintro⟨q1,q2,q3,q4,q5,q6⟩;exact⟨⟨q1,q5,q6⟩,q2,q3,q4,q5,q6⟩
 have⟨a,q1,q2,q3⟩:=hr.2 u c;refine⟨F,G,a,?_,⟨o!,W,o!⟩,o!,q2,q3⟩;have J:=E! (·.1) q1;have K:=E! (·.2.1) q1;have L:=E! (·.2.2.1) q1;have M:=E! (·.2.2.2.2) q1;dsimp only at J K L M;dsimp only;rw[J,K,L,M]
def Kt.congr{a b:AJ}(e:b.1=a.1)(f:b.2.1=a.2.1){d c}:Kt a d c↔Kt b d c:=by grind[Kt,qx]
def Good.congr{a b:AJ}(c:b.1=a.1)(d:b.2.1=a.2.1){f}{r}(h:Good a f r):Good b f r:=⟨h.1,h.2.1,h.2.2.1,(Kt.congr c d).1 h.2.2.2⟩
def Good.run{a}{f}{r s}(h:Good a f r)(g:Good a f s):r=s:=uX h.2.2.1 g.2.2.1 (h.2.1.symm.trans g.2.1)
def AR.step{L:List EN}{a b:AJ}{F G:Int}{s:List Am}(h:AR L a)(e:b=(a.1,a.2.1,a.2.2.1++s,G+1,a.2.2.2.2+θ s))(hF:a.2.2.2.1<=F)(hG:F<=G)(hn:AEF L a F G a.2.2.2.2 s)(D_:VB b):AR L b/\(AG a->AG b)/\∀c,RC a c->RC b (c+1):=by
 have P:b.1=a.1:=by rw[e]
 have Q:b.2.1=a.2.1:=by rw[e]
 have Y:b.2.2.1=a.2.2.1++s:=by rw[e]
 have h4:b.2.2.2.1=G+1:=by rw[e]
 have q:∀f∈s,∃(j:Nat)(r:AQ),Good b f r/\cp L r/\r.1=F/\r.2.1=G/\a.1[j]?=δ r.2.2.1/\s[j]?=δ f:=λf k=>by have⟨j,hj⟩:=Eg.1 k;have⟨r,l,M,w,r4,W,S,r7⟩:=hn j f hj;refine⟨j,r,⟨by rw[l],by rw[l],M,(Kt.congr P Q).1 ⟨j,S,r7⟩⟩,w,r4,W,S,hj⟩
 have K:∀f∈a.2.2.1,Bad f\/∃r,Good b f r/\cp L r/\r.2.1<a.2.2.2.1:=λf k=>(h.files f k).imp id λ⟨r,l,M,w⟩=>⟨r,l.congr P Q,M,w⟩
 have d:∀x∈DE b,(x∈DE a/\x.1.2.1<a.2.2.2.1)\/∃(j:Nat)(f:Am),s[j]?=δ f/\Good b f x.1/\x.2=f.2.1/\x.1.1=F/\a.1[j]?=δ x.1.2.2.1:=λx m=>by unfold DE at m;rw[Y]at m;have⟨f,k,z⟩:=PN.1 m;rcases Ak.1 k with k|k;rcases K f k with E_|⟨r,l,M,w⟩;rw[E_.intR D_.1]at z;cases z;rw[l.intR D_.1]at z;cases z;exact .inl ⟨QS h.vb.1 k (l.congr P.symm Q.symm),w⟩;have⟨j,r,l,M,w,r4,W,S⟩:=q f k;rw[l.intR D_.1]at z;cases z;exact .inr ⟨j,f,S,l,rfl,w,W⟩
 refine⟨⟨D_,λf k=>?_,λx m y R J p=>?_⟩,λU f k=>?_,λc Z_ v=>?_⟩;grind;rcases d x m with⟨n,A⟩|⟨i,f,n,A,N,x4,B⟩;rcases d y R with⟨o,C⟩|⟨j,g,o,C,T,y4,O⟩;exact h.dis x n y o J p;grind;rcases d y R with⟨o,C⟩|⟨j,g,o,C,T,y4,O⟩;exact .inr o!;rw[<-p]at O;have t:=h.vb.1.inj B O;subst t;rw[n]at o;cases o;exact O! (Da (A.run C) (N.trans T.symm)) J;rw[Y]at k;rcases Ak.1 k with k|k;have⟨r,hr⟩:=U f k;exact⟨r,hr.congr P Q⟩;have⟨j,r,l,_⟩:=q f k;exact⟨r,l⟩;have I:=(J8 D_).filter λe=>e.1.2.2.1==v;by_cases H:∃y∈(DE b).filter (λe=>e.1.2.2.1==v),∃(j:Nat)(f:Am),s[j]?=δ f/\Good b f y.1/\y.2=f.2.1/\a.1[j]?=δ y.1.2.2.1;have⟨y,R,j,g,o,C,T,O⟩:=H;have V:y.1.2.2.1=v:=eq_of_beq (BQ.1 R).2;have:=jL _ (y::(DE a).filter λe=>e.1.2.2.1==v) I λx m=>by have⟨X_,u⟩:=BQ.1 m;rcases d x X_ with⟨n,_⟩|⟨i,f,n,A,N,x4,B⟩;grind;rw[eq_of_beq u,<-V]at B;have t:=h.vb.1.inj B O;subst t;rw[n]at o;cases o;exact Av.2 (.inl (Da (A.run C) (N.trans T.symm)))
 rw[Bh]at this;have:=Z_ v;omega;have:=jL _ ((DE a).filter λe=>e.1.2.2.1==v) I λx m=>by have⟨X_,u⟩:=BQ.1 m;rcases d x X_ with⟨n,_⟩|⟨i,f,n,A,N,x4,B⟩;exact BQ.2 ⟨n,u⟩;exact O! ⟨x,m,i,f,n,A,N,B⟩ H
 have:=Z_ v;omega
def AIc(a:AJ)(lo n:Y):Prop:=∃e∈DE a,e.1.2.2.1=lo/\e.1.1<=n/\n<=e.1.2.1
def AF(a:AJ):Prop:=∀lo∈a.1,∀n:Y,1<=n->n<a.2.2.2.1->AIc a lo n
def AF.step{L}{a b:AJ}{F G:Y}{c:S Am}(w:AF a)(h:AR L a)(e:b=(a.1,a.2.1,a.2.2.1++c,G+1,a.2.2.2.2+W c))(H:F=a.2.2.2.1)(z:W c=W a.1)(hn:AEF L a F G a.2.2.2.2 c)(s:VB b):AF b:=by
 have k:b.1=a.1:=by rw[e]
 have p:b.2.1=a.2.1:=by rw[e]
 have q:b.2.2.1=a.2.2.1++c:=by rw[e]
 have E_:b.2.2.2.1=G+1:=by rw[e]
 intro A d n B I;rw[k]at d;rcases mG n a.2.2.2.1 with g|g;obtain⟨r,hr,i,m,u⟩:=w A d n B g;have⟨f,l,v,D_,_⟩:=h.mem hr;exact⟨(r.1,f.2.1),QS s.1 (by rw[q];exact GU _ l) (v.congr k p),i,m,u⟩;have⟨j,t⟩:=Eg.1 d;have y:=Cs t;have l:c[j]?=Z (c[j]' o!):=Au o!;have⟨r,i,m,u,J,K,o,C⟩:=hn j _ l;have x:Good b (c[j]' o!) r:=⟨by rw[i],by rw[i],m,(Kt.congr k p).1 ⟨j,o,C⟩⟩
 refine⟨(r,(c[j]' o!).2.1),QS s.1 (by rw[q];exact NU _ (F8 _)) x,?_,d!⟩;rw[t]at o;exact(BY o).symm
def SF(a:AJ)(m:Y):Prop:=a.2.2.2.2+W a.2.2.1<=m
def AGW{x:AJ×Ac×Y}{m}(h:AR x.2.1.2.1 x.1)(f:Dh x.2.1)(t:SF x.1 m):An (Et x) λr=>r.2=0->AR x.2.1.2.1 r.1/\(AG x.1->AG r.1)/\(∀c,RC x.1 c->RC r.1 (c+1))/\SF r.1 (m+32)/\r.1.2.1=x.1.2.1/\(r.1.2.2.2.1=x.1.2.2.2.1\/r.1.2.2.2.1<=x.2.1.2.2+1)/\(Ge x.2.1.2.1->AF x.1->AF r.1):=by
 refine((AGX h.sa h.vb).and (AAp h.sa h.vb f)).mono λr hr k=>?_;have⟨q1,q2,q3,q4⟩:=hr.1 k;rcases hr.2 k with e|⟨F,G,u,g,i,l,n,j⟩;rw[e];exact⟨h,id,λc q s=>Nat.le_succ_of_le (q s),by unfold SF at*;omega,rfl,.inl rfl,λ_=>id⟩
 ·have a:=h.step g i.1 l j q2;have b:0<W x.2.1.2.1:=by have:=f.2.2.2.2.1;omega
  have d:Ge x.2.1.2.1->AF x.1->AF r.1:=λo p=>p.step h g (i.2.1 (by have v:=(o 0 _ (Au b)).1;have w:=(f.2.2.2.2.2 0 _ (Au b)).1;have:=h.vb.2.1;omega)) n j q2;have:=h.sa.1;refine⟨a.1,a.2.1,a.2.2,?_,?_,?_,d⟩;all_goals unfold SF at*;grind
def AH7{c d:Type}(l:S c)(m:S d)(n:U):l.zip m=(l.take n).zip (m.take n)++(l.drop n).zip (m.drop n):=by
 induction n generalizing l m with
 |zero=>simp
 |succ n e=>
  cases l with
  |nil=>simp
  |cons a l=>
   cases m with
   |nil=>simp
   |cons b m=>grind[List.zip_cons_cons]
theorem AJp{c d:Type}{l:S c}{m:S d}{k:U}{a:c}{b:d}(e:l[k]?=Z a)(f:m[k]?=Z b):(a,b)∈l.zip m:=by refine Eg.2 ⟨k,?_⟩;grind[List.getElem?_zip_eq_some]
def AEO{x:AJ}{L:List EN}{U:Int×List AQ×List Int×List Bool}(h:AR L x)(b:0<=U.1):An (Ai (Ez x U) ([],[],0)) λr=>θ r.2=θ r.1/\∀p∈r.1.zip r.2,p∈DE x:=by
 obtain⟨⟨b1,b2,b3,b4,b5,b6,b7⟩,a1,a2,a3,a4,a5,a6⟩:=h.vb;refine CQ (λ(s:List AQ×List Int×Int)=>0<=s.2.2/\s.2.2<=θ x.2.2.1/\θ s.2.1=θ s.1/\θ s.1<=s.2.2/\∀p∈s.1.zip s.2.1,p∈DE x) (λ(s:List AQ×List Int×Int)=>((θ x.2.2.1:Int)-s.2.2).toNat) ⟨Ae _,d!,rfl,q!,λp b=>by simp at b⟩ (λs X_=>?_);obtain⟨S,i2,T,i4,u⟩:=X_;unfold Ez;have e:=AY (x:=s.2.2+1);rw[e];refine AC (λE_=>?_) (λ_=>An.done ⟨T,u⟩);simp only[len]at E_;refine AA (AI S E_) λv D_=>?_;have q:∃w,DT (x,v)=δ w/\(w.2= -1\/Good x v w.1):=by rcases h.files v D_.2 with Y|⟨r,R,_⟩;obtain⟨r,hr⟩:=Y.ref (a:=x);exact⟨_,hr,.inl rfl⟩;obtain⟨k,hk,ad⟩:=R.ref h.vb.1;exact⟨_,hk,.inr R⟩
 obtain⟨w,F,t⟩:=q;rw[F,AD];refine AL (λ_=>An.next ⟨d!,d!,T,d!,u⟩ d!) (λZ_=>?_);have c:Good x v w.1:=t.elim (λhz=>O! hz o!) id;refine AA (Rg ⟨i!,i!,o!⟩) λy o=>AA (BU (Ae _) o.1 o.2) λv8 P=>AA (BU o.1 i! i!) λv9 Q=>?_;have l8:=P.2;have l9:=Q.2;simp only[len]at l9;refine AA (AZ w!) λar d=>?_;have G:=d.2.1;simp only[Bi]at G;refine AA (AZ w!) λax f=>?_;have H:=f.2.1;simp only[Bi,Bh]at H;refine AA (AZ o!) λa0 g=>?_;have al:=g.2.1;refine AA (BU (Ae _) o.1) λM i=>?_;have ao:=i.2;refine AA (AI S E_) λN C=>AA (BU o.1 i! i!) λO j=>?_;have I:=j.2;simp only[len]at I;refine AA (AZ w!) λa7 l=>?_;have J:=l.2.1;simp only[Bi]at J;refine AA (AZ w!) λa8 m=>?_;have K:=m.2.1;simp[Bi,Bh]at K;refine AA (AZ o!) λa9 n=>?_;have ap:=n.2.1;have A:N=v:=by have:=C.1;rw[D_.1]at this;exact(BY this).symm
 have V:v8=s.1.take y.toNat:=by rw[P.1];simp
 have W:v9=s.1.drop y.toNat:=by rw[Q.1];exact BM (by rw[C5];simp only[len];omega)
 have z:M=s.2.1.take y.toNat:=by rw[i.1];simp
 have B:O=s.2.1.drop y.toNat:=by rw[j.1];exact BM (by rw[C5];simp only[len];omega)
 refine An.next ⟨d!,d!,d!,d!,λp b=>?_⟩ d!
 dsimp only at b;rw[g.1,f.1,d.1,n.1,m.1,l.1,V,W,z,B,B5,B5]at b;rw[fm (by simp[Aa,BP,Bh,Bi];omega),fm (by simp[BP];omega)]at b;rw[AH7 s.1 s.2.1 y.toNat]at u;rcases Ak.1 b with b|b;rcases Ak.1 b with b|b;exact u p (Ak.2 (.inl b));rw[List.zip_cons_cons,List.zip_nil_left,A5]at b;rw[b,A];exact QS h.vb.1 D_.2 c;exact u p (Ak.2 (.inr b))
def Wh(x:AJ)(t:S AQ×S Y×S N):Prop:=∀p∈(t.1.zip t.2.1).zip t.2.2,p.2=E->p.1∈DE x
def AEP{x:AJ}{a:List AQ×List Y}{n:Y}{t:List AQ×List Y×List Bool}(h:θ a.2=θ a.1/\θ a.1<=256/\RL a.1)(hn:n<=100000)(m:T3 n t)(R:∀p∈a.1.zip a.2,p∈DE x)(G:Wh x t):An (Ai (E2 a) (0,0,t)) λr=>Wh x r:=by
 refine CQ (λ(s:Y×Y×List AQ×List Y×List Bool)=>0<=s.2.1/\s.2.1<=θ a.1/\T3 (n+s.2.1) s.2.2/\Wh x s.2.2) (λ(s:Y×Y×List AQ×List Y×List Bool)=>((θ a.1:Y)-s.2.1).toNat) ⟨Ae _,d!,by simpa using m,G⟩ (λs F=>?_);have⟨g,S,⟨z,H,T,A⟩,o⟩:=F;have⟨P,Q,E_⟩:=h;unfold E2;rw[(AY (x:=s.2.1+1))];refine AC (λf=>?_) (λ_=>An.done o);simp[len]at f;refine AA (AI g f) λI _=>AC (λ_=>An.next ⟨d!,d!,⟨z,H,d!,A⟩,o⟩ d!) (λ_=>AA (AI g f) λy k=>AA (AI g) λJ C=>AA (AI g f) λi D_=>?_);have j:i=y:=by grind[Option.some.inj]
 subst j;refine D7 (SX (E_ i k.2)) λK B l=>AA (AZ w!) λL b=>?_;have q:=b.2.1;simp[Bi,Bh]at q;refine AA (AZ w!) λM d=>?_;have u:=d.2.1;simp[Bi,Bh]at u;refine AA (AZ w!) λN e=>?_;have v:=e.2.1;simp[Bi,Bh]at v;refine AA (AI g f) λO _=>An.next ⟨d!,d!,⟨d!,d!,d!,λr hr=>?_⟩,λp c m=>?_⟩ d!
 dsimp only at hr;rw[b.1]at hr;rcases Ak.1 hr with w|w;exact A r w;simp at w;rw[w];exact l;dsimp only at c;rw[b.1,d.1,e.1,fm z.symm,fm (by rw[List.length_zip];omega)]at c;rcases Ak.1 c with c|c;exact o p c m;grind[List.zip_cons_cons,List.zip_nil_left,List.mem_singleton,FZ,AJp]
def AEN{x:AJ}{L:R EN}(h:AR L x):An (GF x) λr=>T3 4096 r/\Wh x r:=by unfold GF;refine AA Ka λo i=>AP (λ_=>AB ⟨⟨rfl,rfl,q!,λr hr=>by simp at hr⟩,λp d=>by simp at d⟩) (λc=>?_);have e:=i c;have a4:=e.2.2.2.1;refine AA (P:=λr=>T3 4096 r/\Wh x r) ?_ λr hr=>AB hr;refine CQ (λ(s:Y×R AQ×R Y×R N)=>0<=s.1/\s.1<=θ x.1/\T3 (256*s.1) s.2/\Wh x s.2) (λ(s:Y×R AQ×R Y×R N)=>((θ x.1:Y)-s.1).toNat) ⟨Ae _,d!,⟨rfl,rfl,q!,λr hr=>by simp at hr⟩,λp d=>by simp at d⟩ (λs k=>?_);have⟨f,n,b,g⟩:=k;unfold N3;rw[(AY (x:=s.1+1))];refine AC (λc=>?_) (λ_=>An.done ⟨⟨b.1,b.2.1,by have:=b.2.2.1;omega,b.2.2.2⟩,g⟩);simp[O]at c;refine AA ((ZZ e h.sa f).and (AEO h f)) λl a=>AA ((Za a.1 o! b).and (AEP a.1 o! b a.2.2 g)) λm j=>?_;grind[An.next]
def ADQ{L}{x:S AQ×S N}{k:U}{z t:AQ}{F T lo hi lv:Y}{b:S EN}(i:Uq L)(m:x.1[k]?=Z t)(f:∀e∈t.2.2.2.2.2,e∈L)(n:W t.2.2.2.2.2≤4096)(l:∀e∈b,e∈L)(q:W b≤1000000){o:AQ}:
  An (Ai (HV x ((k:Y),o,z)) (0,F,T,lo,hi,lv,b)) λr=>∃a:S EN,r=(F,T,lo,hi,lv,a)/\W a<=W b+4096/\∀y,y∈a↔y∈b\/y∈t.2.2.2.2.2:=by
 refine CQ (λs=>∃(j:U)(a:S EN),s=((j:Y),F,T,lo,hi,lv,a)/\j<=W t.2.2.2.2.2/\W a<=W b+j/\∀y,y∈a↔y∈b\/y∈t.2.2.2.2.2.take j) (W t.2.2.2.2.2-·.1.toNat)
  ⟨0,b,rfl,BV _,o!,λy=>q!⟩ ?_
 rintro s ⟨j,a,rfl,A,B,p⟩;unfold HV;rw[(by unfold ix;rw[C! o!,s?,m]:ix x.1 (k:Y)=Z t),p?];simp only[O];refine AC (λd=>?_) (λd=>k? ⟨a,rfl,o!,k!⟩);rw[AD];refine AA (AI o! d) λv g=>?_;have c:=g.1;rw[CR]at c;refine AA (oY i (λe h=>((p e).1 h).elim (l e) λh=>f e (F9 h)) (f v g.2) o!) λw u=>?_;rw[AY];refine y! ⟨j+1,w.1,k!,o!,o!,λy=>?_⟩ o!
 grind[List.take_add_one,Option.toList_some,a!]
def wH(x:S AQ×S N)(lo hi:Y)(k:U):Prop:=x.2[k]?=Z E/\∃r,x.1[k]?=Z r/\r.2.2.1=lo/\r.2.2.2.1=hi/\(0<k->∀p,x.1[k-1]?=Z p->r.1=p.2.1+1)
def AHE{L}{x:Ψ AQ×Ψ Bool}{a l:AQ}(hL:Uq L)(h:∀(k:Nat)(r:AQ),x.1[k]?=Z r→x.2[k]?=Z E→VR r∧ ∀e∈r.2.2.2.2.2,e∈L)(h1:1≤θ x.1∧θ x.1≤8)(h2:θ x.2=θ x.1)(V:x.1[0]?=Z a)(W:x.1[θ x.1-1]?=Z l):
  An (MP x) λr=>r.2=E->VR r.1/\∃(d:Int)(b:Ψ EN),r.1=(a.1,l.2.1,a.2.2.1,a.2.2.2.1,d,b)/\(∀k,k<θ x.1->wH x a.2.2.1 a.2.2.2.1 k)/\∀y,y∈b↔∃(k:Nat)(r:AQ),x.1[k]?=Z r/\y∈r.2.2.2.2.2:=by
 have G:ix x.1 0=Z a:=by unfold ix;rw[C! o!];exact V
 have R:ix x.1 (wi (len x.1-1))=Z l:=by rw[AY (x:=len x.1-1) b!];unfold ix;simp only[len];rw[C! o!,show((θ x.1:Int)-1).toNat=θ x.1-1 by omega,W]
 unfold MP;rw[G,R,AD,AD,AD,AD,AD];generalize wi (a.2.2.2.2.1+1)=d;refine AA (P:=λr=>(∃u,r=.inl u/\u.1=X)\/∃z b,r=.inr ((a.1,l.2.1,a.2.2.1,a.2.2.2.1,d,b),z)/\(∀k,k<θ x.1->wH x a.2.2.1 a.2.2.2.1 k)/\∀y,y∈b↔∃(k:Nat)(r:AQ),x.1[k]?=Z r/\y∈r.2.2.2.2.2) ?_ λr hr=>?_
 ·refine CQ (λs=>∃(k:Nat)(z:AQ)(b:Ψ EN),s=((k:Int),(a.1,l.2.1,a.2.2.1,a.2.2.2.1,d,b),z)/\k<=θ x.1/\θ b<=4096*k/\(∀j,j<k->wH x a.2.2.1 a.2.2.2.1 j)/\∀y,y∈b↔∃(j:Nat)(r:AQ),j<k/\x.1[j]?=Z r/\y∈r.2.2.2.2.2) (θ x.1-·.1.toNat)
   ⟨0,_,[],rfl,BV _,BV _,λj H=>O! H o!,λy=>⟨λhy=>by simp at hy,λ⟨j,r,H,_⟩=>O! H o!⟩⟩ ?_
  rintro s ⟨k,z,b,rfl,i2,i3,X_,Y⟩;unfold TW;dsimp only;simp only[len];refine AC (λhc=>?_) (λhc=>k? (.inr ⟨z,b,rfl,λj H=>X_ j o!,λy=>?_⟩))
  ·have hk:k<θ x.1:=o!
   have c:x.1[k]?=Z x.1[k]:=Au hk;generalize x.1[k]=t at c;have i:x.2[k]?=Z (x.2[k]' o!):=Au o!;generalize x.2[k]' o!=bb at i;have U:ix x.1 (k:Int)=Z t:=by unfold ix;rw[C! o!,s?,c]
   have Q:ix x.2 (k:Int)=Z bb:=by unfold ix;rw[C! o!,s?,i]
   rw[Q,AD];refine AP (λ_=>k? (.inl ⟨_,rfl,rfl⟩)) (λO=>?_);rw[O]at i;have⟨tv,tm⟩:=h k t c i;rw[U,AD,G,AD];refine AL (λ_=>k? (.inl ⟨_,rfl,rfl⟩)) (λq1=>?_);rw[AD,AD];refine AL (λ_=>k? (.inl ⟨_,rfl,rfl⟩)) (λq2=>?_);rw[AD,AD];refine AL (λ_=>k? (.inl ⟨_,rfl,rfl⟩)) (λq3=>?_);have E_:∀e∈b,e∈L:=λe he=>by have⟨j,r,B,m,v⟩:=(Y e).1 he;exact(h j r m (X_ j B).1).2 e v
   have J:=ADQ (x:=x) (k:=k) (z:=z) (o:=(a.1,l.2.1,a.2.2.1,a.2.2.2.1,d,b)) (F:=a.1) (T:=l.2.1) (lo:=a.2.2.1) (hi:=a.2.2.2.1) (lv:=d) hL c tm tv.1.2.2.2.2.2.2.2.2 E_ o!
   have D_:wH x a.2.2.1 a.2.2.2.1 k→ ∀f:Ψ EN,θ f≤θ b+4096→(∀y,y∈f↔y∈b∨y∈t.2.2.2.2.2)→
     An (Z (Step.next (wi ((k:Int)+1),(a.1,l.2.1,a.2.2.1,a.2.2.2.1,d,f),z)):Ω (Step (Int×AQ×AQ) ((Bool×AQ)⊕(AQ×AQ)))) (MU (λs=>∃(k:Nat)(z:AQ)(b:Ψ EN),s=((k:Int),(a.1,l.2.1,a.2.2.1,a.2.2.2.1,d,b),z)/\k<=θ x.1/\θ b<=4096*k/\(∀j,j<k->wH x a.2.2.1 a.2.2.2.1 j)/\∀y,y∈b↔∃(j:Nat)(r:AQ),j<k/\x.1[j]?=Z r/\y∈r.2.2.2.2.2) (θ x.1-·.1.toNat) (θ x.1-((k:Nat):Int).toNat)
      λr=>(∃u,r=.inl u/\u.1=X)\/∃z b,r=.inr ((a.1,l.2.1,a.2.2.1,a.2.2.2.1,d,b),z)/\(∀k,k<θ x.1->wH x a.2.2.1 a.2.2.2.1 k)/\∀y,y∈b↔∃(k:Nat)(r:AQ),x.1[k]?=Z r/\y∈r.2.2.2.2.2):=λhm f M C=>by
    rw[AY];refine y! ⟨k+1,z,f,by rw[show(k:Int)+1=((k+1:Nat):Int) by omega],o!,o!,λj H=>?_,λy=>?_⟩ d!
    grind;rw[C,Y];constructor;rintro(⟨j,r,B,m,v⟩|g);exact⟨j,r,o!,m,v⟩;exact⟨k,t,o!,c,g⟩;rintro⟨j,r,B,m,v⟩;by_cases ao:j=k<;>grind
   apply AC<;>intro al
   ·have hp:k-1<θ x.1:=o!
    have q:x.1[k-1]?=Z x.1[k-1]:=Au hp;generalize x.1[k-1]=p at q;have S:ix x.1 (wi ((k:Int)-1))=Z p:=by rw[AY];unfold ix;rw[C! o!,show((k:Int)-1).toNat=k-1 by omega,q]
    rw[AD,S,AD];have A:=(h (k-1) p q (X_ (k-1) o!).1).1.1;have ad:=A.2.2.1;have ap:=A.1;have ar:=A.2.1;rw[AY (x:=p.2.1+1)];refine AL (λ_=>k? (.inl ⟨_,rfl,rfl⟩)) (λq4=>AA J λZ_ w=>?_);obtain⟨f,rfl,M,C⟩:=w;refine D_ ⟨i,t,c,q1,q2,λ_ p' n=>?_⟩ f M C;rw[q]at n;injection n with n;rw[<-n];exact q4
   have K:An (Ai (HV x ((k:Int),(a.1,l.2.1,a.2.2.1,a.2.2.2.1,d,b),z)) (0,a.1,l.2.1,a.2.2.1,a.2.2.2.1,d,b)) λr=>∃f:Ψ EN,r=(a.1,l.2.1,a.2.2.1,a.2.2.2.1,d,f)/\θ f<=θ b+4096/\∀y,y∈f↔y∈b\/y∈t.2.2.2.2.2:=J;refine AA K λZ_ w=>?_;obtain⟨f,rfl,M,C⟩:=w;exact D_ ⟨i,t,c,q1,q2,λh0=>O! h0 o!⟩ f M C
  rw[Y];constructor;rintro⟨j,r,B,m,v⟩;exact⟨j,r,m,v⟩;rintro⟨j,r,m,v⟩;exact⟨j,r,by have:=Cs m;omega,m,v⟩
 rcases hr with⟨u,rfl,hu⟩|⟨z,b,rfl,B,m⟩;exact BF (AB λI=>by dsimp only at I;rw[hu]at I;cases I);refine Ay (AA YX λax N=>AB λI=>⟨N.1 I,d,b,rfl,B,m⟩)
def jP(a b:AJ):Prop:=∀lo n,AIc a lo n↔AIc b lo n
def xO{a}(h:VB a){x y:NE}(c:x∈DE a)(d:y∈DE a)(b:x.2=y.2):x=y:=by grind[mi,List.pairwise_iff_getElem,List.mem_iff_getElem]
structure Grp(M:List NE)(lo hi:Int):Prop where
 same:∀(k:Nat)(e:NE),M[k]?=some e->e.1.2.2.1=lo/\e.1.2.2.2.1=hi/\e.1.1<=e.1.2.1
 next:∀(k:Nat)(e f:NE),M[k]?=some e->M[k+1]?=some f->f.1.1=e.1.2.1+1
def Grp.cover{M}{m l}(h:Grp M m l){c:NE}(d:M[0]?=Z c):∀(k:U)(b:NE),M[k]?=Z b->c.1.1<=b.1.1/\∀n:Y,c.1.1<=n->n<=b.1.2.1->∃j e,j<=k/\M[j]?=Z e/\e.1.1<=n/\n<=e.1.2.1
 |0,b,a=>by rw[d]at a;injection a with a;subst a;exact⟨Ae _,λn g i=>⟨0,c,Al _,d,g,i⟩⟩
 |k+1,b,a=>by
  have o:=Cs a;have f:M[k]?=Z (M[k]' o!):=Au o!;have q:=Grp.cover h d k _ f;have hn:=h.next k _ _ f a
  have p:=(h.same k _ f).2.2;grind
def Grp.le{M}{g c}(h:Grp M g c){k:U}{a:NE}(f:M[k]?=Z a):∀(d:U)(e:NE),M[k+d]?=Z e->a.1.2.1<=e.1.2.1
 |0,e,he=>k!
 |d+1,e,he=>by
  have i:=Cs he;have b:M[k+d]?=Z (M[k+d]' o!):=Au o!;have l:=Grp.le h f d _ b;have hn:=h.next (k+d) _ _ b he
  have j:=(h.same _ _ he).2.2;omega
def ACp{c:Type}{l:S c}{a b:c}(d:a∈l)(e:b∈l)(h:a≠b):2<=W l:=by cases l<;>grind
def oL{b:Type}(p:b->N):∀l:S b,(l.filter p).length+(l.filter λa=>!p a).length=W l
 |[]=>rfl
 |a::r=>by have:=oL p r;grind
def aa(M:S NE)(l:S Am):S Am:=l.filter λf=>!(M.any λe=>e.2==f.2.1)
def mb{M:S NE}{l:S Am}{f:Am}:f∈aa M l↔f∈l/\∀e∈M,e.2≠f.2.1:=by grind[aa]
def zq{L}{a}{M:S NE}{r q}(h:AR L a)(c:∀e∈M,e∈DE a)(l:Grp M r q)(w:2<=W M):(aa M a.2.2.1).length+2<=W a.2.2.1:=by
 have d:M[0]?=Z (M[0]' o!):=Au o!;have k:M[1]?=Z (M[1]' o!):=Au o!;have n:=BO d;have o:=BO k;have i:(M[0]' o!).2≠(M[1]' o!).2:=λm=>by
  have j:=l.next 0 _ _ d k
  have:=(l.same 0 _ d).2.2;rw[<-(xO h.vb (c _ n) (c _ o) m)]at j;omega
 have⟨f,s,_,t,_⟩:=h.mem (c _ n);have⟨g,u,_,v,_⟩:=h.mem (c _ o);have p:=oL (λf:Am=>!(M.any λe=>e.2==f.2.1)) a.2.2.1;have:2<=(a.2.2.1.filter λf=>!!(M.any λe=>e.2==f.2.1)).length:=by refine ACp (a:=f) (b:=g) ?_ ?_ λm=>i k!;grind;grind
 unfold aa;omega
def AFK{L}{a}{M:S NE}{m l}{s:Bd}(h:AR L a)(j:∀e∈M,e∈DE a)(k:Grp M m l)(i:2<=W M)(q:a.2.2.2.2<=1073741824):VB (a.1,a.2.1,aa M a.2.2.1++[(1,a.2.2.2.2,s)],a.2.2.2.1,a.2.2.2.2+1):=by have p:=zq h j k i;have⟨b,c,d,f,n,o,g⟩:=h.vb;refine⟨b,c,d,k!,k!,k!,?_⟩;exact(g.sub (Wd)).push f rfl rfl
def notM(M:S NE)(x:NE):N:= !(M.any λe=>e.2==x.2)
def vz{L:Ψ EN}{a b:AJ}{M:Ψ NE}{r:AQ}{lo t:Int}{I T:NE}(hL:Uq L)(h:AR L a)(J:∀e∈M,e∈DE a)(V:Grp M lo t)(h2:2≤θ M)(h0:M[0]?=Z I)(hn:M[θ M-1]?=Z T)
  (hr:VR r) (r1:r.1=I.1.1) (r2:r.2.1=T.1.2.1) (O:r.2.2.1=lo) (r4:r.2.2.2.1=t) (r5:∀y,y∈r.2.2.2.2.2↔∃e∈M,y∈e.1.2.2.2.2.2)
  (hb:b=(a.1,a.2.1,aa M a.2.2.1++[(1,a.2.2.2.2,Nb r)],a.2.2.2.1,a.2.2.2.2+1)) (q:VB b):
  AR L b/\jP a b/\(AG a->AG b)/\∀c,RC a c->RC b c:=by
 have b1:b.1=a.1:=by rw[hb]
 have b2:b.2.1=a.2.1:=by rw[hb]
 have S:b.2.2.1=aa M a.2.2.1++[(1,a.2.2.2.2,Nb r)]:=by rw[hb]
 have b4:b.2.2.2.1=a.2.2.2.1:=by rw[hb]
 have m0:=BO h0;have mn:=BO hn;have z:∀n:Int,(r.1<=n/\n<=r.2.1)↔∃e∈M,e.1.1<=n/\n<=e.1.2.1:=λn=>by constructor;rintro⟨B,C⟩;obtain⟨j,e,_,q2,q3⟩:=(V.cover h0 _ T hn).2 n o! o!;exact⟨e,BO q2,q3⟩;rintro⟨e,i,B,C⟩;obtain⟨k,W⟩:=Eg.1 i;have q1:=(V.cover h0 k e W).1;have a2:=Cs W;have q2:=V.le W (θ M-1-k) T (by rw[show k+(θ M-1-k)=θ M-1 by omega];exact hn);omega
 have Z_:∀e∈M,cp L e.1:=λe i=>by obtain⟨f,_,_,_,g,_⟩:=h.mem (J e i);exact g
 have p:∀e∈M,e.1.2.2.1=lo/\e.1.2.2.2.1=t/\e.1.1<=e.1.2.1:=λe i=>by obtain⟨k,W⟩:=Eg.1 i;exact V.same k e W
 have ad:cp L r:=by refine hr.runOf hL λy=>?_;rw[r5,O,r4];constructor;rintro⟨e,i,N⟩;have g:=((Z_ e i).mem y).1 N;obtain⟨p1,p2,p3⟩:=p e i;have:=(z y.1).2 ⟨e,i,g.2.2.2.2⟩;exact⟨g.1,g.2.1,o!,o!,this.1,this.2⟩;rintro⟨B,C,P,g4,g5,g6⟩;obtain⟨e,i,q1,q2⟩:=(z y.1).1 ⟨g5,g6⟩;obtain⟨p1,p2,p3⟩:=p e i;exact⟨e,i,((Z_ e i).mem y).2 ⟨B,C,o!,o!,q1,q2⟩⟩
 have K:Kt a r.2.2.1 r.2.2.2.1:=by obtain⟨f,_,g,_⟩:=h.mem (J I m0);obtain⟨p1,p2,p3⟩:=p I m0;rw[O,r4,<-p1,<-p2];exact g.2.2.2
 have u:Good b (1,a.2.2.2.2,Nb r) r:=⟨rfl,rfl,hr,(Kt.congr b1 b2).1 K⟩
 have v:∀{f}{s},Good a f s->Good b f s:=λg=>g.congr b1 b2;have l:∀x∈DE b,(x∈DE a/\∀e∈M,e.2≠x.2)\/x=(r,a.2.2.2.2):=λx w=>by unfold DE at w;rw[S]at w;obtain⟨f,d,t⟩:=PN.1 w;rcases Ak.1 d with d|d;obtain⟨f1,f2⟩:=mb.1 d;rcases h.files f f1 with U|⟨s,s1,s2,s3⟩;rw[U.intR q.1]at t;cases t;rw[(v s1).intR q.1]at t;injection t with t;subst t;exact .inl ⟨QS h.vb.1 f1 s1,f2⟩;rw[A5]at d;subst d;rw[u.intR q.1]at t;injection t with t;exact .inr t.symm
 have ar:∀x∈DE a,(∀e∈M,e.2≠x.2)->x∈DE b:=λx w Q=>by
  obtain⟨f,f1,f2,f3,_⟩:=h.mem w;have:f∈b.2.2.1:=by rw[S];exact Ak.2 (.inl (mb.2 ⟨f1,λe i=>f3▸Q e i⟩))
  have:=QS q.1 this (v f2);rw[<-f3]at this;exact this
 have Y:(r,a.2.2.2.2)∈DE b:=QS q.1 (by rw[S];exact Ak.2 (.inr (A5.2 rfl))) u;have al:∀x∈DE a,x.1.1<=x.1.2.1:=λx w=>by obtain⟨f,_,g,_⟩:=h.mem w;exact g.2.2.1.1.2.1
 have a0:r.1<=r.2.1:=hr.1.2.1;have A:∀y∈DE a,(∀e∈M,e.2≠y.2)->y.1.2.2.1=lo->r.2.1<y.1.1\/y.1.2.1<r.1:=λy N Q o=>by refine UI λF=>?_;have a4:=al y N;obtain⟨e,i,q1,q2⟩:=(z (if y.1.1<=r.1 then r.1 else y.1.1)).1 (by split<;>omega);have D_:e≠y:=λF=>Q e i (by rw[F]);have:=h.dis e (J e i) y N D_ ((p e i).1.trans o.symm);split at q1<;>split at q2<;>omega
 refine⟨⟨q,λf d=>?_,λx w y N D_ o=>?_⟩,λm n=>?_,λao f d=>?_,λc hc m=>?_⟩;rw[S]at d;rw[b4];rcases Ak.1 d with d|d;exact(h.files f (mb.1 d).1).imp id λ⟨s,s1,s2,s3⟩=>⟨s,v s1,s2,s3⟩
 rw[A5]at d;subst d;obtain⟨f,_,_,_,_,g⟩:=h.mem (J T mn);exact .inr ⟨r,u,ad,o!⟩;rcases l x w with⟨R,x2⟩|rfl;rcases l y N with⟨y1,y2⟩|rfl;exact h.dis x R y y1 D_ o;have:=A x R x2 (o.trans O);exact this.symm;rcases l y N with⟨y1,y2⟩|rfl;exact A y y1 y2 (o.symm.trans O);exact O! rfl D_;constructor;rintro⟨e,i,B,C,P⟩;by_cases Q:∃f∈M,f.2=e.2;obtain⟨f,d,ap⟩:=Q;have:=xO h.vb (J f d) i ap;subst this;have hc:=(z n).2 ⟨f,d,C,P⟩;exact⟨_,Y,by rw[<-B,(p f d).1];exact O,hc.1,hc.2⟩;exact⟨e,ar e i λf d F=>Q ⟨f,d,F⟩,B,C,P⟩;rintro⟨e,i,B,C,P⟩;rcases l e i with⟨q1,q2⟩|rfl;exact⟨e,q1,B,C,P⟩;obtain⟨f,d,q1,q2⟩:=(z n).1 ⟨C,P⟩;exact⟨f,J f d,by rw[(p f d).1,<-B];exact O.symm,q1,q2⟩;rw[S]at d;rcases Ak.1 d with d|d;obtain⟨s,hs⟩:=ao f (mb.1 d).1;exact⟨s,v hs⟩;rw[A5]at d;subst d;exact⟨r,u⟩
 ·have X_:=(J8 q).filter λe=>e.1.2.2.1==m;have a1:=hc m;by_cases hl:m=lo
  ·subst hl;have H:=jL _ ((r,a.2.2.2.2)::((DE a).filter λe=>e.1.2.2.1==m).filter (notM M)) X_ λx w=>by obtain⟨x0,E_⟩:=BQ.1 w;rcases l x x0 with⟨R,x2⟩|rfl;refine Av.2 (.inr (BQ.2 ⟨BQ.2 ⟨R,E_⟩,?_⟩));unfold notM;simp only[Wb,List.any_eq_false,J!];exact x2;exact Av.2 (.inl rfl)
   have a3:=oL (notM M) ((DE a).filter λe=>e.1.2.2.1==m);have h1:M[1]?=Z (M[1]' o!):=Au o!;have m1:=BO h1;have a5:2<=(((DE a).filter λe=>e.1.2.2.1==m).filter λx=>!notM M x).length:=by
    have G:∀e∈M,e∈((DE a).filter λe=>e.1.2.2.1==m).filter λx=>!notM M x:=λe i=>by refine BQ.2 ⟨BQ.2 ⟨J e i,by rw[(p e i).1];exact L! _⟩,?_⟩;unfold notM;rw[Bool.not_not];exact qN.2 ⟨e,i,L! _⟩
    refine ACp (G I m0) (G _ m1) λF=>?_;have ax:=V.next 0 I _ h0 h1
    have:=(p I m0).2.2;rw[<-F]at ax;omega
   rw[Bh]at H;omega
  have H:=jL _ ((DE a).filter λe=>e.1.2.2.1==m) X_ λx w=>by obtain⟨x0,E_⟩:=BQ.1 w;rcases l x x0 with⟨R,x2⟩|rfl;exact BQ.2 ⟨R,E_⟩;exact O! (eq_of_beq E_) λF=>hl (F.symm.trans O)
  omega
def Vw(v1:S AQ×S Y×S N)(i n:U):S NE:=((v1.1.zip v1.2.1).drop i).take n
def yA{a}{i n k:U}{e:NE}(b:k<n):(Vw a i n)[k]?=Z e↔a.1[i+k]?=Z e.1/\a.2.1[i+k]?=Z e.2:=by grind[Vw]
def AGU{x:AJ×Y}{a:S AQ×S Y×S N}{i n j:U}{f:Am}{z:AJ}{w:S Am×S Y×Y×Y×Y}(hn:x.2=n)(o:n<=8)(t:W a.2.1=W a.1)(p:i+n<=W a.1)(m:W a.1<=4096)(h:x.1.2.2.1[j]?=Z f):An (Ai (O1 x a ((i:Y),z) ((j:Y),w)) (X,(i:Y))) λr=>r=(Vw a i n).any λe=>e.2==f.2.1:=by
 have l:(Vw a i n).length=n:=by grind[Vw,r?,List.length_drop,List.length_zip]
 refine CQ (λs=>∃k:U,s=(((Vw a i n).take k).any (·.2==f.2.1),((i+k:U):Y))/\k<=n) (i+n-·.2.toNat) ⟨0,q!,BV _⟩ ?_;rintro s ⟨k,rfl,q⟩;unfold O1;dsimp only;rw[hn,AY (x:=(i:Y)+(n:Y)),AY (x:=((i+k:U):Y)+1)];refine AC (λg=>?_) (λg=>k? k!);have b:k<n:=o!
 have d:a.2.1[i+k]?=Z (a.2.1[i+k]' o!):=Au o!;refine AK (λc=>y! ⟨k+1,?_,b⟩ k!) (λc=>?_);grind
 ·rw[(by unfold ix;rw[C! o!,s?,d]:ix a.2.1 ((i+k:U):Y)=Z (a.2.1[i+k]' o!)),p?,(by unfold ix;rw[C! o!,s?,h]:ix x.1.2.2.1 (j:Y)=Z f),p?];refine y! ⟨k+1,?_,b⟩ o!
  rw[(by rw[Ck,((yA (e:=(a.1[i+k]' o!,a.2.1[i+k]' o!)) b).2 ⟨Au o!,d⟩)];rfl:(Vw a i n).take (k+1)=(Vw a i n).take k++[(a.1[i+k]' o!,a.2.1[i+k]' o!)]),List.any_append,c,Bool.false_or];refine Da ?_ k!;dsimp only;rw[List.any_cons,List.any_nil,Bool.or_false]
def AGT{x:AJ×Y}{a:S AQ×S Y×S N}{i n:U}{z:AJ}(hn:x.2=n)(g:n<=8)(o:W a.2.1=W a.1)(l:i+n<=W a.1)(f:W a.1<=4096)(u:W x.1.2.2.1<=256):An (Ai (O0 x a ((i:Y),z)) (0,[],x.1.1,x.1.2.1,x.1.2.2.2)) λr=>r=(aa (Vw a i n) x.1.2.2.1,x.1.1,x.1.2.1,x.1.2.2.2):=by
 refine CQ (λq=>∃j:U,q=((j:Y),aa (Vw a i n) (x.1.2.2.1.take j),x.1.1,x.1.2.1,x.1.2.2.2)/\j<=W x.1.2.2.1) (W x.1.2.2.1-·.1.toNat) ⟨0,rfl,BV _⟩ ?_;rintro q ⟨j,rfl,v⟩;unfold O0;simp only[O];rw[AY];refine AC (λk=>?_) (λk=>k? k!);have d:x.1.2.2.1[j]?=Z (x.1.2.2.1[j]' o!):=Au o!;have m:ix x.1.2.2.1 (j:Y)=Z (x.1.2.2.1[j]' o!):=by unfold ix;rw[C! o!,s?,d]
 refine AA (AGU hn g o l f d) λc e=>?_;have p:aa (Vw a i n) (x.1.2.2.1.take (j+1))=aa (Vw a i n) (x.1.2.2.1.take j)++(if c=E then []else [x.1.2.2.1[j]' o!]):=by grind[List.take_add_one,Option.toList_some,aa]
 refine AA (P:=λt=>t=(aa (Vw a i n) (x.1.2.2.1.take (j+1)),x.1.1,x.1.2.1,x.1.2.2.2)) ?_ λs b=>?_;refine AP (λh=>?_) (λh=>AB ?_);grind[aa,Vw,Nat.le_trans,List.length_filter_le,r?,AA,AZ,AB];grind
 ·rw[b];exact y! ⟨j+1,k!,o!⟩ k!
def AIA(L:S EN)(x:AJ×Y)(r:AJ×N×Y):Prop:=
 (x.1.2.2.2.2<=1073741824->r.2.2=0)/\(r.2.2=0->(r.2.1=X/\r.1=x.1)\/(r.2.1=E/\AR L r.1/\jP x.1 r.1/\(AG x.1->AG r.1)/\(∀c,RC x.1 c->RC r.1 c)/\r.1.1=x.1.1/\r.1.2.1=x.1.2.1/\r.1.2.2.2.1=x.1.2.2.2.1/\r.1.2.2.2.2=x.1.2.2.2.2+1/\W r.1.2.2.1+1<=W x.1.2.2.1/\x.1.2.2.2.2<=1073741824))
def AIi{L:List EN}{x:AJ×Int}(hL:Uq L)(h:AR L x.1)(hf:2<=x.2/\x.2<=8):An (NJ x) (AIA L x):=by
 have hs:=h.sa;have⟨n,hn⟩:=EG (show 0<=x.2 by omega);have p:θ x.1.2.2.1<=256:=by have:=h.vb.2.2.2.2.2.1;omega
 have al:=h.vb.2.2.2.1;unfold NJ;have⟨v0,U,V⟩:=O7 (x:=x.1);have X_:=V.2 h.vb;subst X_;rw[U,AD,Bn,A!,F! o!,A!,F! o!,A!];refine AA (AEN h) λa o=>?_;have⟨⟨t1,t2,t3,t4⟩,hw⟩:=o;have q:∀e∈DE x.1,VR e.1/\∀y∈e.1.2.2.2.2.2,y∈L:=λe t=>by have⟨f,_,g,_,g2,_⟩:=h.mem t;exact⟨g.2.2.1,λy hy=>((g2.mem y).1 hy).1⟩
 refine AA (P:=λr=>(∃z,r=.inr z)\/∃u,r=.inl u/\AIA L x (u.2.2,u.1,u.2.1)) ?_ λr hr=>?_
 ·refine CQ (λ(s:Int×AJ)=>0<=s.1/\s.1<=θ a.1) (λ(s:Int×AJ)=>((θ a.1:Int)-s.1).toNat) ⟨Ae _,d!⟩ (λs hI=>?_);have⟨i',z⟩:=s;have⟨D_,i2⟩:=hI;dsimp only at D_ i2;obtain⟨i,rfl⟩:=EG D_;unfold Uo;dsimp only;rw[AY (x:=(i:Int)+1),AY (x:=(i:Int)+x.2)];refine AC (λhc=>?_) (λ_=>An.done (.inl ⟨_,rfl⟩));simp[len]at hc;refine AA (BU D_) λd h3=>AA (BU D_) λZ_ h4=>?_;have l3:=h3.2;have l4:=h4.2;have l:∀k,k<n->d[k]?=a.1[i+k]? :=λk c=>by grind[Int.toNat_natCast]
  have F:∀k,k<n->Z_[k]?=a.2.2[i+k]? :=λk c=>by grind[Int.toNat_natCast]
  have w:∀{k:Nat}{r:AQ},d[k]?=δ r->k<n:=λ{k r} c=>by have:=Cs c;omega
  have whole:∀(k:Nat)(r:AQ),d[k]?=δ r->Z_[k]?=δ ζ->∃id,a.2.1[i+k]?=δ id/\(r,id)∈DE x.1:=λk r o h2=>by have c:=w o;rw[l k c]at o;rw[F k c]at h2;have ap:=Cs o;have j:a.2.1[i+k]?=δ (a.2.1[i+k]' o!):=Au o!;refine⟨_,j,?_⟩;refine hw ((r,a.2.1[i+k]' o!),ζ) ?_ rfl;refine Eg.2 ⟨i+k,?_⟩;rw[tz,tz];exact⟨⟨o,j⟩,h2⟩
  have S:θ d=n:=o!
  have I:d[0]?=δ (d[0]' o!):=Au o!;have J:d[θ d-1]?=δ (d[θ d-1]' o!):=Au o!;generalize d[0]' o!=r0 at I;generalize d[θ d-1]' o!=rn at J;refine AA (AHE (x:=(d,Z_)) hL (λk r q1 q2=>?_) d! d! I J) λv5 h5=>?_;have⟨id,_,q3⟩:=whole k r q1 q2;exact q _ q3;refine AP (λ_=>An.next d! d!) (λT=>?_);have⟨w1,lv,es,B,E_,w4⟩:=h5 T;dsimp only at E_ w4;refine AC (λad=>An.done (.inr ⟨_,rfl,λhh=>O! hh o!,λhz=>O! (show(21:Int)=0 from hz) g!⟩)) (λar=>?_);have hi:i+n<=θ a.1:=o!
  have Q:(Vw a i n).length=n:=by unfold Vw;rw[List.length_take,List.length_drop,List.length_zip];omega
  have b:∀(k:Nat)(e:NE),(Vw a i n)[k]?=δ e->k<n/\d[k]?=δ e.1/\a.2.1[i+k]?=δ e.2:=λk e c=>by
   have m:k<n:=k!
   have:=(yA m).1 c;exact⟨m,by rw[l k m];exact this.1,this.2⟩
  have C:∀e∈Vw a i n,e∈DE x.1:=λe t=>by have⟨k,c⟩:=Eg.1 t;have⟨k1,v,Y⟩:=b k e c;have⟨q1,_⟩:=E_ k o!;have⟨id,q2,q3⟩:=whole k e.1 v q1;rw[Y]at q2;injection q2 with q2;rw[<-q2]at q3;exact q3
  have N:Grp (Vw a i n) r0.2.2.1 r0.2.2.2.1:=by refine⟨λk e c=>?_,λk e f c hf=>?_⟩;have⟨k1,v,Y⟩:=b k e c;have⟨_,r,q1,q2,q3,_⟩:=E_ k o!;dsimp only at q1;rw[v]at q1;cases q1;exact⟨q2,q3,(q e (C e (BO c))).1.1.2.1⟩;have⟨k1,v,Y⟩:=b k e c;have⟨f1,f2,f3⟩:=b (k+1) f hf;have⟨_,r,q1,_,_,q2⟩:=E_ (k+1) o!;dsimp only at q1 q2;rw[f2]at q1;cases q1;exact q2 o! e.1 (by rw[nk];exact v)
  have G:(Vw a i n)[0]?=δ ((Vw a i n)[0]' o!):=Au o!;have H:(Vw a i n)[(Vw a i n).length-1]?=δ ((Vw a i n)[(Vw a i n).length-1]' o!):=Au o!;generalize (Vw a i n)[0]' o!=m0 at G;generalize (Vw a i n)[(Vw a i n).length-1]' o!=mn at H;have O:m0.1=r0:=by have:=(b 0 m0 G).2.1;rw[I]at this;exact(BY this).symm
  have R:mn.1=rn:=by have:=(b _ mn H).2.1;rw[Q,<-S,J]at this;exact(BY this).symm
  refine AA (AGT hn o! t1 hi o! p) λax K=>?_;subst K;rw[rj w1,AD];dsimp only;have ao:=zq h C N o!;refine AA (AZ w!) λa0 M=>?_;rw[AY (x:=x.1.2.2.2.2+1),M.1];have W:=AFK (s:=Nb v5.1) h C N o! o!;have key:=vz (r:=v5.1) hL h C N o! G H w1 (by rw[B,O]) (by rw[B,R]) (by rw[B]) (by rw[B]) (λy=>by rw[B];dsimp only;rw[w4];constructor;rintro⟨k,r,q1,q2⟩;have c:=w q1;have A:=q1;rw[l k c]at A;have j:a.2.1[i+k]?=δ (a.2.1[i+k]' o!):=Au o!;exact⟨(r,_),BO ((yA (e:=(r,a.2.1[i+k]' o!)) c).2 ⟨A,j⟩),q2⟩;rintro⟨e,t,q2⟩;have⟨k,c⟩:=Eg.1 t;exact⟨k,e.1,(b k e c).2.1,q2⟩) rfl W;refine An.done (.inr ⟨_,rfl,λ_=>rfl,λ_=>.inr ⟨rfl,key.1,key.2.1,key.2.2.1,key.2.2.2,rfl,rfl,rfl,rfl,?_,o!⟩⟩);dsimp only;rw[Aa,Bh,Bi];omega
 rcases hr with⟨z,rfl⟩|⟨u,rfl,hu⟩;exact Ay (AB ⟨λ_=>rfl,λ_=>.inl ⟨rfl,rfl⟩⟩);exact BF (AB hu)
def jP.refl(a:AJ):jP a a:=λ_ _=>YZ
def jP.trans{a b c}(h:jP a b)(g:jP b c):jP a c:=λd n=>(h d n).trans (g d n)
def AIr{L:R EN}{x:AJ×Y}{m:Y}(q:Uq L)(h:AR L x.1)(u:2<=x.2/\x.2<=8)(v:SF x.1 m)(w:m<=1073741824):An (J4 x) λr=>r.2=0/\AR L r.1/\jP x.1 r.1/\(AG x.1->AG r.1)/\(∀c,RC x.1 c->RC r.1 c)/\SF r.1 m/\r.1.1=x.1.1/\r.1.2.1=x.1.2.1/\r.1.2.2.2.1=x.1.2.2.2.1:=by
 unfold J4;refine AA (P:=λr=>r.1=0/\AR L r.2/\jP x.1 r.2/\(AG x.1->AG r.2)/\(∀c,RC x.1 c->RC r.2 c)/\SF r.2 m/\r.2.1=x.1.1/\r.2.2.1=x.1.2.1/\r.2.2.2.2.1=x.1.2.2.2.1) ?_ λr hr=>AB hr;refine CQ (λ(s:AJ×AJ)=>AR L s.1/\jP x.1 s.1/\(AG x.1->AG s.1)/\(∀c,RC x.1 c->RC s.1 c)/\SF s.1 m/\s.1.1=x.1.1/\s.1.2.1=x.1.2.1/\s.1.2.2.2.1=x.1.2.2.2.1) (λs=>θ s.1.2.2.1) ⟨h,jP.refl _,id,λ_=>id,v,rfl,rfl,rfl⟩ (λs p=>?_);obtain⟨e,f,l,n,g,i,j,k⟩:=p;unfold Up;refine AA (AIi (x:=(s.1,x.2)) q e u) λC o=>?_;obtain⟨y,z⟩:=o;have b:s.1.2.2.2.2<=1073741824:=by unfold SF at g;omega
 have d:=y b;refine AL (λt=>O! d t) (λ_=>?_);rcases z d with⟨q1,q2⟩|⟨q1,q2,q3,A,B,q4,q5,q6,q7,q8,q9⟩
 ·rw[q1,Bool.not_false,B!];exact An.done ⟨rfl,e,f,l,n,g,i,j,k⟩
 ·rw[q1,Bn,A!];dsimp only at q3 q4 q5 q6 q7 q8;exact An.next ⟨q2,f.trans q3,λa=>A (l a),λc a=>B c (n c a),by unfold SF at*;dsimp only;omega,q4.trans i,q5.trans j,q6.trans k⟩ d!
def ABt{b:UInt8}{n:Y}(a:0<=n)(e:n<255):E7 ([ι .u8 (((π ((κ 8 (b.toNat:Y))^^^(κ 8 (ι .u8 (wi (1+n)))))):U):Y)]:S Y)=[UInt8.ofNat (BitVec.ofNat 8 b.toNat^^^BitVec.ofNat 8 (1+n).toNat).toNat]/\b≠UInt8.ofNat (BitVec.ofNat 8 b.toNat^^^BitVec.ofNat 8 (1+n).toNat).toNat:=by obtain⟨m,rfl⟩:=EG a;rw[(by grind[AY]:wi (1+(m:Y))=((1+m:U):Y)),(by rw[AH6];omega:ι .u8 ((1+m:U):Y)=((1+m:U):Y)),(by omega:(1+(m:Y)).toNat=1+m),cr,cr];refine⟨?_,λd=>?_⟩;rw[(by rw[AH6];omega:ι .u8 (((BitVec.ofNat 8 b.toNat^^^BitVec.ofNat 8 (1+m)).toNat:U):Y)=(((BitVec.ofNat 8 b.toNat^^^BitVec.ofNat 8 (1+m)).toNat:U):Y))];rfl;have c:=E! UInt8.toNat d;rw[fu,Tt o!]at c;have f:=E! (BitVec.ofNat 8 b.toNat^^^ ·) (by grind:BitVec.ofNat 8 b.toNat=BitVec.ofNat 8 b.toNat^^^BitVec.ofNat 8 (1+m));grind[BitVec.xor_assoc,BitVec.xor_self,BitVec.zero_xor]
def AEJ{b}{s:Bd}(h:CX b)(A:W s≠0)(B:W s<=1099511627775):An (GI b s) λr=>CX r.2/\AIC s r.1/\W r.1<=W s+1:=by
 unfold GI;simp only[O];refine AO (O! · o!) (λ_=>AA (Ah h o!) λE_ m=>?_);have⟨l,k0,k1⟩:=m;have⟨k,t⟩:=EG k0;refine AA (Ah l g!) λF e=>?_;rw[t,AY];have u:k<W s:=o!
 have a:s=s.take k++s[k]::s.drop (k+1):=t!
 have i:R4 s 0 (k:Y)=Z (s.take k):=by grind[R4]
 have j:R4 s ((k:Y)+1) (W s:Y)=Z (s.drop (k+1)):=by unfold R4;grind[List.take_of_length_le]
 have C:(s.take k).length=k:=k!
 have D_:(s.drop (k+1)).length=W s-(k+1):=C5;refine AO (λ_=>?_) (λ_=>?_);rw[i,AD,j,AD];refine AA (CN o!) λG o=>AB ⟨e.1,.less _ _ _ a o.1,k!⟩;refine AO (λ_=>?_) (λ_=>?_);refine AA (Ah e.1 g!) λz p=>AA (CN (by rw[Mv];simp;omega)) λH q=>AB ⟨p.1,?_,?_⟩;exact .more s [] (UInt8.ofNat (ι .u8 z.1).toNat) (Dc s).symm (by rw[q.1];rfl);grind[Mv,List.length_cons,List.length_nil];rw[i,AD];have f:six s (k:Y)=Z ((s[k].toNat:U):Y):=by grind[six,s?,m?]
 rw[f,AD,j,AD];refine AA (Ah e.1 g!) λw c=>?_;have⟨q1,q2⟩:=ABt (b:=s[k]) c.2.1 o!;rw[q1];refine AA (CN w!) λx d=>?_;have g:=d.2;simp[Bh,Bi]at g;refine AA (CN o!) λy n=>AB ⟨c.1,.other _ _ _ _ q2 a ?_,k!⟩;grind[t?]
theorem AAj{a:AJ}{b:AT}(y:AG a)(h:CX b)(I:a.2.2.1.length<=1000000):An (GB b a.2.2.1) λr=>CX r.2/\ ∀f∈r.1,f∈a.2.2.1\/Bad f:=by
 unfold GB;generalize B:a.2.2.1=x at*;refine AO (λ_=>AB ⟨h,λf v=>by simp at v⟩) (λg=>?_);simp only[len]at g;refine AA (Ah h (by grind)) λC p=>?_;have⟨n,c,o⟩:=p;simp[len]at o;rw[AY (x:=C.1+1) (by omega)];refine AA (Ah n (by decide)) λJ q=>AO (λ_=>?_) (λ_=>?_)
 ·refine AA (BU (Ae _) c (by omega)) λK F=>AA (BU (by omega) (by grind) (by grind)) λL G=>?_;grind[AA,AZ,List.length_nil,AB]
 ·refine AA (AZ (by simp;omega)) λM u=>?_;have j:=u.1;rw[B5]at j;subst j;refine AA (AI c (by omega)) λN _=>AA (AI c (by omega)) λm H=>?_;have⟨r,hr⟩:=y m (by grind);have A:=hr.size;have i:m.2.2.length≠0:=by rw[hr.2.1];grind[Nb,List.length_append,EQ]
  refine AA (AEJ q.1 i (by omega)) λO k=>AA (AI c (by omega)) λD_ _=>AA (AI c (by omega)) λE_ t=>AB ⟨k.1,λf e=>?_⟩;rcases Q9 e with w|w
  ·grind
  ·refine .inr ?_;rw[w];refine⟨by grind,λs z l=>?_⟩;dsimp only at l;have d:=k.2.1;rw[l,hr.2.1]at d;exact AFQ hr.2.2.1.wr z d
theorem ACw{L}{a}{b}{m}(h:AR L a)(p:AG a)(k:CX b)(J:SF a m):An (GB b a.2.2.1) λr=>CX r.2/\AR L (a.1,a.2.1,r.1,a.2.2.2)/\(∀c,RC a c->RC (a.1,a.2.1,r.1,a.2.2.2) c)/\SF (a.1,a.2.1,r.1,a.2.2.2) m:=by
 obtain⟨B,C,D_,E_,F,K,G⟩:=id h.vb;refine((ACx G k o! h.sa.2.2).and (AAj p k o!)).mono λr hr=>?_;obtain⟨⟨H,M,I,N⟩,_,u⟩:=hr;have i:VB (a.1,a.2.1,r.1,a.2.2.2):=⟨B,C,D_,E_,F,d!,I⟩
 have g:∀e∈DE (a.1,a.2.1,r.1,a.2.2.2),e∈DE a:=λe o=>by unfold DE at o;obtain⟨f,d,j⟩:=PN.1 o;rcases u f d with d|d;obtain⟨s,q⟩:=p f d;have n:Good (a.1,a.2.1,r.1,a.2.2.2) f s:=q.congr rfl rfl;rw[n.intR i.1]at j;injection j with j;subst j;exact QS h.vb.1 d q;rw[d.intR i.1]at j;cases j
 refine⟨H,⟨i,λf d=>?_,λx l y v=>h.dis x (g x l) y (g y v)⟩,λc k t=>?_,by unfold SF at*;dsimp only;omega⟩;rotate_left;exact Cl (jL _ ((DE a).filter λe=>e.1.2.2.1==t) ((J8 i).filter _) λx l=>BQ.2 ⟨g x (BQ.1 l).1,(BQ.1 l).2⟩) (k t);rcases u f d with d|d;exact(h.files f d).imp id λ⟨s,w,z,A⟩=>⟨s,w.congr rfl rfl,z,A⟩
 exact .inl d
def AAo{L}{x:Y×S Y}(h:BD x.1 x.2):An (G8 x) λr=>AR L r.1/\AG r.1/\RC r.1 0/\SF r.1 1/\r.1.2.1=x.1/\r.1.2.2.2.1=1:=by
 have a:An (G8 x) λr=>r.2=0->r.1.2.2.1=[]/\r.1.2.2.2.2=1:=by refine AA nv λo b=>AP (λj=>AB λm=>?_) (λ_=>?_);grind;have l:=h.2.2.2.1;grind[AA,AZ,AB]
 refine((AIg h).and a).mono λr hr=>?_;have⟨⟨b,c,d,g⟩,i⟩:=hr;refine⟨⟨c,λf a=>?_,λe k=>?_⟩,λf a=>?_,λn=>?_,?_,d,g⟩;grind;grind[DE];grind;grind[DE];unfold SF;grind
def AX(L:S EN)(n d m:Y)(a:AJ):Prop:=AR L a/\AG a/\(∃c:U,RC a c/\100*(c:Y)<=m+99)/\SF a m/\a.2.1=n/\a.2.2.2.1<=d+1/\(Ge L->AF a)
def AX.step{n m}{a}{l}{c:Y}(p:Dh l)(h:AX l.2.1 n l.2.2 m a):An (Et (a,l,c)) λr=>r.2=0->AX l.2.1 n l.2.2 (m+100) r.1:=by have⟨d,e,⟨k,j,o⟩,f,g,t,i⟩:=h;refine(AGW (x:=(a,l,c)) d p f).mono λr hr q=>?_;have⟨q1,q2,s,q3,q4,q5,q6⟩:=hr q;exact⟨q1,q2 e,⟨k+1,s k j,o!⟩,by unfold SF at*;omega,q4.trans g,k!,λb=>q6 b (i b)⟩
def AX.mono{L}{n d m k:Y}{a}(h:AX L n d m a)(o:m<=k):AX L n d k a:=by have⟨b,e,⟨c,i,j⟩,l,f,g⟩:=h;exact⟨b,e,⟨c,i,o!⟩,by unfold SF at*;omega,f,g⟩
def AX.tidy{L}{n d m}{a}{c:Y}(p:Uq L)(h:AX L n d m a)(u:m<=1073741824)(s:2<=c/\c<=8):An (J4 (a,c)) λr=>AX L n d m r.1:=by have⟨g,i,⟨k,t,b⟩,j,l,z,o⟩:=h;refine(AIr (x:=(a,c)) p g s j u).mono λr hr=>?_;have⟨q0,q1,q2,q3,y,q4,q5,q6,q7⟩:=hr;exact⟨q1,q3 i,⟨k,y k t,b⟩,q4,q6.trans l,k!,λq f e n v w=>(q2 f n).1 (o q f (q5▸e) n v (q7▸w))⟩
def AAg{b}{x:Int×Ac}(h:CX b)(C:1<=x.1/\x.1<=64)(e:Dh x.2):An (Pb b x) λr=>CX r.2/\AX x.2.2.1 x.1 x.2.2.2 901 r.1:=by
 have T:=e.1;have U:=e.2.2.2.1;refine AA (ACu h C) λv0 m=>AA (AAo (L:=x.2.2.1) m.2) λI v=>?_;have⟨D_,E_,H,F,G,s5⟩:=v;have A:AX x.2.2.1 x.1 x.2.2.2 1 I.1:=⟨D_,E_,⟨0,H,g!⟩,F,G,o!,λ_ lo _ n n1 n2=>o!⟩
 refine AA (Ah m.1 g!) λv2 w=>?_;have⟨t,u,S⟩:=w;refine AA (P:=λr=>CX r.1/\AX x.2.2.1 x.1 x.2.2.2 801 r.2) ?_ λK c=>AA (Ah c.1 g!) λM f=>AA (P:=λa=>AX x.2.2.1 x.1 x.2.2.2 901 a) (AK (λ_=>AA (c.2.step e) λN g=>AA (P:=λa=>AX x.2.2.1 x.1 x.2.2.2 901 a) (AO (λk=>AB ((g k).mono g!)) (y? (c.2.mono g!))) λO i=>AB i) (y? (c.2.mono g!))) λQ j=>AB ⟨f.1,j⟩;refine CQ (λs=>0<=s.1/\s.1<=8/\CX s.2.1/\AX x.2.2.1 x.1 x.2.2.2 (801-100*s.1) s.2.2) (·.1.toNat) ⟨u,k!,t,A.mono k!⟩ (λs B=>?_);have⟨Y,Z_,q,l⟩:=B;unfold SD;rw[(AY (x:=s.1-1))];refine AC (λX_=>AA (Ah q g!) λv4 y=>AA (l.step e) λv5 z=>AA (P:=λa=>AX x.2.2.1 x.1 x.2.2.2 (801-100*(s.1-1)) a) (AO (λk=>AB ((z k).mono o!)) (y? (l.mono o!))) λv6 o=>AA (Ah y.1 g!) λv7 p=>?_) (λ_=>k? ⟨q,l.mono o!⟩);refine AA (P:=λr=>CX r.1/\AX x.2.2.1 x.1 x.2.2.2 (801-100*(s.1-1)) r.2) ?_ λJ d=>y! ⟨k!,k!,d.1,d.2⟩ k!
 refine AK (λ_=>AA (Ah p.1 g!) λR V=>?_) (y? ⟨p.1,o⟩);rw[AY (x:=2+R.1)];refine AA (o.tidy e.uq o! o!) λv9 W=>?_;grind[AA,AO,AB]
def AEH{n p:Y}{l:R Y}(h:BD n l):An (J6 (l,p)) λr=>0<=r.1/\r.1<=θ l/\(∀(i:U)(v:Y),(i:Y)<r.1->l[i]?=δ v->v<p)/\(∀(i:U)(v:Y),r.1<=(i:Y)->l[i]?=δ v->p<=v)/\(r.2=ζ->l[r.1.toNat]?=δ p)/\(r.2=η->∀v,l[r.1.toNat]?=δ v->p<v):=by
 have t:=h.2.2.2.1;refine AA (P:=λ(r:Y)=>0<=r/\r<=θ l/\(∀(i:U)(v:Y),(i:Y)<r->l[i]?=δ v->v<p)/\∀(i:U)(v:Y),r<=(i:Y)->l[i]?=δ v->p<=v) ?_ λJ u=>?_
 ·refine CQ (λ(s:Y×Y)=>0<=s.1/\s.1<=s.2/\s.2<=θ l/\(∀(i:U)(v:Y),(i:Y)<s.1->l[i]?=δ v->v<p)/\∀(i:U)(v:Y),s.2<=(i:Y)->l[i]?=δ v->p<=v) (λ(s:Y×Y)=>(s.2-s.1).toNat) ⟨Ae _,k!,k!,λi v e=>k!,λi v e b=>k!⟩ (λs y=>?_);have⟨o,G,C,D_,E_⟩:=y;unfold NO;rw[ABN o];refine AC (λa=>?_) (λa=>An.done ?_)
  ·refine AA (AI o! k!) λF g=>AA Wo λH k=>?_;rw[(AY (x:=(s.1+s.2)/2+1))];refine AA (P:=λ(q:Y×Y)=>(0<=q.1/\q.1<=q.2/\q.2<=(θ l:Y)/\(∀(i:U)(v:Y),(i:Y)<q.1->l[i]?=δ v->v<p)/\∀(i:U)(v:Y),q.2<=(i:Y)->l[i]?=δ v->p<=v)/\(q.2-q.1).toNat<(s.2-s.1).toNat) ?_ λI m=>An.next m.1 m.2
   refine AK (λB=>AB ⟨⟨k!,k!,C,λi v e b=>?_,E_⟩,k!⟩) (λz=>AB ⟨⟨o,o!,o!,D_,λi v e b=>?_⟩,o!⟩);have f:=k.1 B;have:=h.le (i:=i) (j:=((s.1+s.2)/2).toNat) o! b g.1;omega;have f:¬F<p:=λq=>by have:=k.2 q;rw[z]at this;cases this
   have:=h.le (i:=((s.1+s.2)/2).toNat) (j:=i) o! g.1 b;omega
  grind
 have⟨a1,a2,a3,a4⟩:=u;refine AC (λa=>?_) (λa=>AB ⟨a1,a2,a3,a4,λc=>(by cases c),λ_ v b=>?_⟩);simp[O]at a;refine AA (AI a1 a) λK w=>AO (λd=>AB ⟨a1,a2,a3,a4,λ_=>by dsimp only;rw[w.1,d],λc=>(by cases c)⟩) (λA=>AA (AI a1 a) λL _=>AK (λc=>?_) (λ_=>AB ⟨a1,a2,a3,a4,λc=>(by cases c),λ_ v b=>?_⟩));grind;grind;grind
def ON(a:AJ)(p lo hi:Y):Prop:=∃i:U,a.1[i]?=δ lo/\hi=qx a i/\lo<=p/\p<=hi
def tj{a}{p:Y}(h:VB a)(z:0<=p/\p<a.2.1):∃b d,Ej (a,p)=Z (b,d,E)/\ON a p b d:=by
 have key:An (Ej (a,p)) λr=>r.2.2=E/\ON a p r.1 r.2.1:=by
  unfold Ej;dsimp only;refine AA (EO h) λG m=>?_;rw[m,Bn,A!,F! o!,A!,F! o!,A!];refine AA (AEH h.1) λc n=>?_;have⟨D_,E_,v,F,k,x⟩:=n;have q:=h.1.2.2.2.1;refine AA (P:=λl:Y=>∃(i:U)(b:Y),l=i/\a.1[i]?=Z b/\b<=p/\∀w,a.1[i+1]?=Z w->p<w) ?_ λl s=>?_;refine AP (λt=>AB ?_) (λf=>AB ?_);have e:0<c.1:=by refine UI λy=>?_;have:=x t 0 (by rw[show c.1.toNat=0 by omega];exact h.1.2.2.2.2.1);omega
  rw[AY];refine⟨c.1.toNat-1,a.1[c.1.toNat-1],o!,Au o!,?_,λw g=>?_⟩;have:=v (c.1.toNat-1) _ o! (Au o!);omega;grind;refine⟨c.1.toNat,p,o!,k f,Ae _,λw g=>?_⟩;exact h.1.lt 0 c.1.toNat p w (k f) g;obtain⟨i,b,rfl,j,u,A⟩:=s;rw[zE h.1 j,AD];refine AB ⟨rfl,i,j,rfl,u,?_⟩;grind[qx]
 have⟨⟨b,d,o⟩,k1,B,C⟩:=key;grind
def ON.uniq{a b:AJ}{p l1 l2 f g}(h:BD a.2.1 a.1)(d:b.1=a.1)(e:b.2.1=a.2.1)(m:ON a p l1 f)(n:ON b p l2 g):l1=l2:=by
 obtain⟨i,s,t,u,v⟩:=m;obtain⟨j,w,z,A,B⟩:=n;have o:qx b j=qx a j:=by unfold qx;rw[d,e]
 have key:∀{i j:U}{x y:Y},a.1[i]?=Z x->a.1[j]?=Z y->i<j->qx a i<y:=λ{i j x y} q c k=>by have r:=Cs c;have l:a.1[i+1]?=Z (a.1[i+1]' o!):=Au o!;have:=h.le (by omega:i+1<=j) l c;unfold qx;grind
 grind
def ti(P:Y->Prop)(j fl:Y):Prop:=0<=fl/\fl<=j/\(∀n,fl<n->n<=j->P n)/\(fl=0\/¬P fl)
def ti.uniq{P Q:Y->Prop}{j r s}(h:∀n,P n↔Q n)(hr:ti P j r)(a:ti Q j s):r=s:=by obtain⟨b,c,d,e⟩:=hr;obtain⟨f,g,i,k⟩:=a;grind
structure O6(L:List EN)(l:Ac):Prop where
 vl:Dh l
 sorted:L.Pairwise λx y=>x.1<y.1
 tail:∀e,e∈l.2.1↔e∈L/\l.1<=e.1/\e.1<=l.1+l.2.1.length-1
 len:L.length<=4096
def AIe{B}{L}{a}{l}{p i j:Y}(o:CP B)(C:B≤16777216)(u:j-i≤B)(s:0≤i)(E:i≤j)(D:j≤1099511627776)(h:AR L a)(v:O6 L l)(x:0≤p∧p<a.2.1):
  ∃n s fl,ON a p n s/\ti (iB a l n) j fl/\Qq (a,l,p,i,j)=Z (τ (fl<=i))/\An (Hd (a,l,p,i,j)) λr=>(fl>i/\r=([],42))\/(fl<=i/\((Yi i (L.filter (HY p i j))/\r=(L.filter (HY p i j),0))\/(¬Yi i (L.filter (HY p i j))/\r=([],13)))):=by
 obtain⟨n,t,w,m⟩:=tj h.vb x;obtain⟨k,k1,F,G,H⟩:=id m;obtain⟨fl,y,A,z⟩:=AId o C u s E D h.vb h.ds v.vl x w rfl v.sorted v.tail (λe q=>by
  obtain⟨f,_,_,_,g,_⟩:=h.mem q;exact g) h.dis (λe q d=>by
  obtain⟨f,_,g,_⟩:=h.mem q;have c:e.1.2.2.1=n:=d;have b:=g.2.2.2;rw[c]at b;have:=b.uniq h.vb.1 ⟨k,k1,F⟩;exact⟨G,o!⟩)
 exact⟨n,t,fl,m,y,A,z⟩
def Dh.sorted{l}(h:Dh l):l.2.1.Pairwise λx y=>x.1<y.1:=by have⟨l1,l2,a,b,c,d⟩:=h;rw[EL];grind
def Te{l}(h:Dh l):O6 l.2.1 l:=⟨h,h.sorted,λe=>⟨λa=>⟨a,by have⟨k,b⟩:=Eg.1 a;have:=(h.2.2.2.2.2 k e b).1;have:=Cs b;omega⟩,λa=>a.1⟩,h.2.2.1⟩
def AJx{l}{f:Y}(h:Dh l)(n:l.2.2=l.1+W l.2.1-1)(i:l.1<=f)(j:f<=l.2.2+1)(m:f<=1099511627776):An (Kp (l,f)) λr=>O6 l.2.1 r.1/\r.1.1=f/\r.1.2.2=l.2.2:=by
 have o:An (Kp (l,f)) λr=>r.2=0->r.1=(f,l.2.1.drop (f-l.1).toNat,l.2.2):=by have⟨a1,a2,a3,a4,a5,a6⟩:=id h;refine AA Bb λv t=>AP (y? λa=>O! (show(26:Y)=0 from a) g!) (λ_=>?_);refine AC (y? λa=>O! (show(1:Y)=0 from a) g!) (λ_=>?_);refine AC (y? λa=>O! (show(1:Y)=0 from a) g!) (λ_=>?_);refine AC (y? λa=>O! (show(1:Y)=0 from a) g!) (λ_=>?_);refine AC (y? λa=>O! (show(15:Y)=0 from a) g!) (λ_=>?_);grind[AY,AA,BU,AZ,AB,List.take_of_length_le]
 refine((jw (x:=(l,f)) h n i j m).and o).mono λr hr=>?_;have⟨⟨c,q,s⟩,d⟩:=hr;refine⟨⟨q,h.sorted,λe=>?_,h.2.2.1⟩,s,by rw[(d c)]⟩;rw[(d c)];have⟨l1,l2,u,w,y,p⟩:=h;rw[Eg,Eg];constructor;grind;rintro⟨⟨k,b⟩,g,_⟩;have:=(p _ e b).1;exact⟨k-(f-l.1).toNat,by rw[KC,show(f-l.1).toNat+(k-(f-l.1).toNat)=k by omega];exact b⟩
def xj{p i j}{e}:HY p i j e=(aR p e&&(τ (e.1>i)&&τ (e.1<=j))):=by unfold HY aR hY;grind
def Yi.snoc{i}{s}{e:EN}(h:Yi i s)(m:s=[]->e.2.2.2.2.1<=i)(n:∀f,s[W s-1]?=Z f->e.2.2.2.2.1=f.1):Yi i (s++[e]):=by
 intro k g b;rcases A0 k (W s)with d|d;rw[CY d]at b;refine⟨(h k g b).1,λf a c=>(h k g b).2 f a ?_⟩;grind;have o:=Cs b;rw[Aa,PL]at o;have l:k=W s:=o!
 subst l;have j:e=g:=k!
 subst j;refine⟨λp=>m (D8 p),λf a c=>n f ?_⟩;rwa[CY o!]at c
def wV{n p i j:Y}{L}(F:LI n L)(G:L.Pairwise λx y=>x.1<y.1)(H:0≤i):∀m:U,m≤W L→
  Yi i ((L.take m).filter (HY p i j))/\((∀f∈L.take m,f.1<=j)->((L.take m).filter (HY p i j)=[]->BZ (L.take m) p<=i)/\∀f,((L.take m).filter (HY p i j))[((L.take m).filter (HY p i j)).length-1]?=Z f->BZ (L.take m) p=f.1)
 |0,_=>by rw[List.take_zero];exact⟨λk e E_=>by simp at E_,λ_=>⟨λ_=>H,λf a=>by simp at a⟩⟩
 |m+1,hm=>by
  obtain⟨C,D_⟩:=wV (j:=j) F G H m o!;have d:m<W L:=o!
  have B:L.take (m+1)=L.take m++[L[m]]:=by rw[Ck,Au d];rfl
  have l:∀f∈L.take m,f.1<L[m].1:=λf a=>by obtain⟨k,w⟩:=DW a;have z:=Cs w;rw[BP]at z;rw[KD o!,Au o!]at w;rw[<-BY w];exact EL.1 G k m o! d o!
  have A:=F m _ (Au d);rw[B,GM];generalize I:L.take m=M at*;generalize L[m]=e at*;by_cases t:HY p i j e=E;have g:=t;rw[xj]at g;simp only[Ba,K!]at g;obtain⟨s,K,N⟩:=g;have q:e.2.2.2.2.2.2.1.1=p/\(e.2.1=1\/e.2.1=2):=by unfold aR at s;simp only[Ba,UH,J!]at s;exact⟨s.2,s.1⟩
  obtain⟨q1,q2⟩:=D_ λf a=>by have:=l f a;omega
  have b:=A.1 q.2;rw[q.1]at b;rw[wP t,mM];refine⟨C.snoc (λh=>by rw[b.1];exact q1 h) (λf a=>by rw[b.1];exact q2 f a),λ_=>⟨λh=>by simp at h,λf a=>?_⟩⟩;rw[P0,C! s];have:e=f:=by simpa using a
  rw[this];rw[wO t,mM,Dc];refine⟨C,λc=>?_⟩;have E_:=c e q!;obtain⟨q1,q2⟩:=D_ λf a=>c f (GU _ a);rw[P0];by_cases u:aR p e=E;have v:e.1<=i:=by refine UI λJ=>t ?_;rw[xj,u];simp;omega
  have o:M.filter (HY p i j)=[]:=List.filter_eq_nil_iff.2 λf a r=>by rw[xj]at r;simp only[Ba,K!]at r;have:=l f a;omega
  rw[C! u,o];exact⟨λ_=>v,λf a=>by simp at a⟩;rw[D! u];exact⟨q1,q2⟩
def wU{n p i j:Y}{L}(a:LI n L)(b:L.Pairwise λx y=>x.1<y.1)(c:0<=i):Yi i (L.filter (HY p i j)):=by have:=(wV (p:=p) (j:=j) a b c (W L) (Al _)).1;grind
def qA{B:U}{n:Y}{L:R EN}{a:AJ}{l:Ac}{p i j:Y}(d:CP B)(q:B≤16777216)(t:LI n L)(e:j-i≤B)(b:0≤i)(u:i≤j)(s:j≤1099511627776)(h:AR L a)(f:O6 L l)(v:0≤p∧p<a.2.1):
  ∃c b fl,ON a p c b/\ti (iB a l c) j fl/\Qq (a,l,p,i,j)=δ (τ (fl<=i))/\((fl>i/\Hd (a,l,p,i,j)=δ ([],42))\/(fl<=i/\Hd (a,l,p,i,j)=δ (L.filter (HY p i j),0))):=by
 obtain⟨c,o,fl,w,k,m,r,g,x⟩:=AIe d q e b u s h f v;refine⟨c,o,fl,w,k,m,?_⟩;rcases x with⟨q1,q2⟩|⟨q1,⟨q2,q3⟩|⟨q2,q3⟩⟩;exact .inl ⟨q1,by rw[g,q2]⟩;exact .inr ⟨q1,by rw[g,q3]⟩;exact O! (wU t f.sorted b) q2
def ADd{x:AS×Dw}(a:PJ x.2)(c:x.2.1=x.1.1)(b:G2 x.1.2.2 x.2.2.1=Z x.2.2.2.1):VQ x=Z ((x.1.1,x.1.2.1,Xi x.1.2.2 x.2.2.1 x.2.2.2.2),0):=by grind[An,VQ,Xi,AA,eP,AP,AL,BJ,AB]
def AHc{x}{e}(h:Hh x)(d:MZ e)(j:e.2.1=1\/e.2.1=2)(b:e.2.2.2.2.2.2.1.1=x.1)(f:e.2.2.2.2.1=x.2.1)(c:G2 x.2.2 e.2.2.2.2.2.2.1.2.1=Z e.2.2.2.2.2.2.1.2.2.1):Vi (x,e)=Z (upd x e,0):=by
 suffices g:An (Vi (x,e)) λr=>r=(upd x e,0) by obtain⟨r,hr,rfl⟩:=g;exact hr
 have a:PJ e.2.2.2.2.2.2.1:=by grind[MZ,Vy]
 unfold Vi;refine AA Kj λv i=>AP (λa=>O! (i d) (by simp[a])) (λ_=>?_);rw[oA,(by grind[hY]:hY e=E),mf h,AD,Bn,A!];refine BJ (AL (O! rfl ·) (λ_=>AL (O! b ·) (λ_=>AL (O! f ·) (λ_=>?_))));rw[ADd a b c];exact BJ (AL (O! rfl ·) (y? rfl))
def yY{x:AS}{es:R AE}(p:OKs x es)(c:θ es<=4096):Ie (x,es)=δ (es.foldl upd x,0):=by
 suffices q:An (Ie (x,es)) λr=>r=(es.foldl upd x,0) by obtain⟨r,hr,rfl⟩:=q;exact hr
 generalize u:es.foldl upd x=y;refine AA (P:=λr=>∃z,r=.inr (y,z)) ?_ λr hr=>?_
 ·refine CQ (λ(s:Y×AS×AS)=>∃A B,es=A++B/\s.1=θ A/\OKs s.2.1 B/\B.foldl upd s.2.1=y) (λ(s:Y×AS×AS)=>((θ es:Y)-s.1).toNat) ⟨[],es,rfl,rfl,p,u⟩ ?_;rintro⟨i,x,z⟩ ⟨A,B,rfl,f,g,b⟩;dsimp only at f g b;subst f;unfold aY;dsimp[O];rw[Aa]at c;refine AC (λa=>?_) (λa=>An.done ?_)
  ·obtain _|⟨e,B⟩:=B;simp at a;have t:ix (A++e::B) (θ A:Y)=δ e:=by unfold ix;rw[C! o!,CR,Cn (Al _),G5];rfl
   have⟨⟨h,d,j,k,l,m⟩,n⟩:=g;have o:e.2.2.2.2.1<e.1:=d.2.2.2.2.2.1;rw[t,AD,F! o!,A!,AHc h d j k l m,AD,AY (x:=(θ A:Y)+1)];refine AL (λa=>O! rfl a) (λ_=>An.next ⟨A++[e],B,q!,q!,n,b⟩ d!)
  obtain _|⟨e,B⟩:=B;exact⟨z,by rw[<-b];rfl⟩;simp at a;omega
 grind[Ay,AB]
def tU{L}(h:Ge L){p}{a b:U}(g:a<=b):L.filter (HY p a b)=((L.take b).drop a).filter (aR p):=by
 have j:∀(i:U)(e:AE),L[i]?=Z e->HY p a b e=(aR p e&&(τ (a<=i)&&τ (i<b))):=λi e d=>by have:=(h i e d).1;rw[xj,show τ (e.1>(a:Y))=τ (a<=i)from decide_eq_decide.2 o!,show τ (e.1<=(b:Y))=τ (i<b)from decide_eq_decide.2 o!]
 conv=>lhs;rw[<-DG b L,vc L g]
 rw[GM,GM];rw[(List.filter_eq_nil_iff (l:=L.take a)).2 λe d=>by obtain⟨i,c⟩:=DW d;have f:=Cs c;rw[BP]at f;rw[KD o!]at c;rw[j i e c,F! (show¬a<=i by omega)];simp];rw[(List.filter_eq_nil_iff (l:=L.drop b)).2 λe d=>by obtain⟨i,c⟩:=DW d;rw[KC]at c;rw[j _ e c,F! (show¬b+i<b by omega)];simp];rw[B5,Dc];refine List.filter_congr λe d=>?_;obtain⟨i,c⟩:=DW d;rw[KC]at c;have f:=Cs c;rw[BP]at f;rw[KD o!]at c;rw[j _ e c,G! (show a<=a+i by omega),G! (show a+i<b by omega)];simp
def Cov(a:AJ)(l:Ac)(k:U):Prop:=∀m:Y,1<=m->m<=k->∀p lo hi,ON a p lo hi->iB a l lo m
def AFe{a}{l}(h:VB a)(b:Dh l):Qx (a,l)=Z 0:=by obtain⟨v,c,rfl⟩:=EO h;obtain⟨w,d,rfl⟩:=GH b;grind[Qx,p?,Bool.not_true]
def Xf(x:AS):Cy:=(x.1,x.2.1,eC x)
def img(L:R EN)(n:U):R Cy:=(List.range n).map λ(i:U)=>Xf (st L i)
abbrev c!(s:Y)(n:U)(L:R EN)(k:U):=(s,(n:Y),img (L.take k) n)
theorem I4(L:S EN)(n:U):(img L n).length=n:=by grind[img,List.length_map,List.length_range]
theorem rC{L}{n i:U}(h:i<n):(img L n)[i]?=Z (Xf (st L i)):=by grind[img,List.getElem?_range]
theorem cR{L}{n:U}{i:Y}(a:0<=i)(h:i<n):ix (img L n) i=Z (Xf (st L i)):=by have⟨v,c,b,_⟩:=AI (l:=img L n) a (by rw[I4];exact h);grind[rC,Int.toNat_of_nonneg,Option.some.inj]
def zj(L:S EN)(n:U):img L (n+1)=img L n++[Xf (st L n)]:=by grind[img,List.range_succ]
theorem ACo{L}(h:Ge L){p}{k}(a:(st (L.take k) p).2.1=0):st (L.take k) p=(p,0,GK.all (X,[])):=by rw[Jg]at a;exact(ml h (j:=k) (k:=0) (by rw[a];rfl)).trans rfl
def ur{L}(h:Ge L)(a:W L<=1099511627776){p:Y}(b:0<=p/\p<64){k}:Gd (eC (st (L.take k) p),p)=Z (st (L.take k) p,0):=by grind[AFV,Xc,ACo,Sf]
theorem fU{L:R EN}(h:Ge L)(l:θ L<=1099511627776){s:Y}{n k:U}(d:1<=s/\s<=1073741824)(hn:1<=n/\n<=64):LF (s,(n:Y),img (L.take k) n)=δ ζ:=by
 suffices d:An (LF (s,(n:Y),img (L.take k) n)) λr=>r=ζ by obtain⟨r,hr,rfl⟩:=d;exact hr
 unfold LF;dsimp only;have c:O (img (L.take k) n)=n:=by grind[I4]
 rw[F! o!,A!,F! o!,A!,F! o!,A!,F! o!,A!,c,F! o!,A!];refine AA (P:=λr=>r=.inr ()) ?_ λr hr=>by rw[hr];exact Ay (AB rfl)
 refine CQ (λ(s:Y)=>0<=s/\s<=n) (λs=>((n:Y)-s).toNat) ⟨Ae _,o!⟩ (λi j=>?_);have⟨e,o⟩:=j;unfold eQ;dsimp only;rw[c];refine AC (λa=>?_) (λ_=>An.done rfl);have f:An (δ (Step.next (wi (i+1))):Option (Step Y (N⊕Unit))) (MU (λ(s:Y)=>0<=s/\s<=n) (λs=>((n:Y)-s).toNat) ((n:Y)-i).toNat λr=>r=.inr ()):=by grind[AY,An.next]
 have g:(Xf (st (L.take k) i)).1=i:=Sf _ _;rw[cR e a,AD,g,F! o!,A!];have b:Gd ((Xf (st (L.take k) i)).2.2,i)=δ (st (L.take k) i,0):=ur h l ⟨e,o!⟩;refine AC (λm=>?_) (λ_=>?_);rw[AY,cR o! o!,AD,show(Xf (st (L.take k) (i-1))).1=i-1 from Sf _ _,F! o!,A!,b,AD];exact AL (λa=>O! rfl a) (λ_=>AL (λa=>O! rfl a) (λ_=>f));rw[b,AD];exact AL (λa=>O! rfl a) (λ_=>AL (λa=>O! rfl a) (λ_=>f))
def AH3{L:R EN}(h:Ge L)(a:θ L<=1099511627776){s:Y}{n k:U}(b:1<=s/\s<=1073741824)(hn:1<=n/\n<=64):W6 (s,(n:Y),img (L.take k) n)=δ ζ:=by unfold W6;rw[fU h a b hn,AD,B!];dsimp only;rw[(by grind[I4]:O (img (L.take k) n)=n),L!]
def AFJ{m:U}(h:m<=64):Jz (1,(m:Y))=δ (1,(m:Y),img [] m):=by
 suffices d:An (Jz (1,(m:Y))) λr=>r=(1,(m:Y),img [] m) by obtain⟨r,hr,rfl⟩:=d;exact hr
 unfold Jz;refine AA (P:=λr=>r=(img [] m,1,(m:Y))) ?_ λr hr=>AB (by rw[hr]);refine CQ (λ(t:Y×R Cy×Y×Y)=>0<=t.1/\t.1<=m/\t.2=(img [] t.1.toNat,1,(m:Y))) (λt=>((m:Y)-t.1).toNat) ⟨Ae _,d!,rfl⟩ ?_;rintro⟨i,t⟩ ⟨b,f,c⟩;dsimp only at b f c;subst c;unfold UZ;dsimp only;refine AC (λa=>?_) (λa=>An.done ?_)
 ·rw[tJ,AD];refine AA (AZ (by rw[I4];simp;omega)) λv e=>?_;rw[AY];refine An.next ⟨d!,d!,?_⟩ d!
  dsimp only;rw[e.1,show(i+1).toNat=i.toNat+1 by omega,zj,JW b];rfl
 rw[show i.toNat=m by omega]
def Ge.nil:Ge []:=λi e h=>by simp at h
def AEn{L:S EN}{a}{l:Ac}{k:U}(b:l.1=1)(d:k<=W l.2.1):Cov a l k:=λm f g p e c _=>.inl o!
def AEg{l:S Y}(h:∀c∈l,0≤c∧c<256):An (z (τ ((O l)>500)) (σ (Sr l 0 500) λd=>
    Z d)<|Z l) λr=>CX (r,0):=by
 refine AC (λa=>?_) (λa=>AB ⟨Ae _,by simp only[O]at a;dsimp only;omega,h⟩);simp only[O]at a;refine AA (BU) λd e=>AB ⟨Ae _,d!,λc b=>?_⟩;dsimp only at b;rw[e.1]at b;exact h c (Q8 (F9 b))
def xH(x:AS):AHV x x=E:=by
 unfold AHV;simp only[L!,mE];generalize List.finRange 16=l;induction l with
 |nil=>rfl
 |cons i l a=>rw[List.foldr_cons];exact a
theorem cg{a:Type}{l r:R a}(h:r.Perm l):ξ (θ r) (θ l)=ζ:=by rw[h.length_eq];exact Hl _
def ABD{g v:Type}{c:g×g->Option v}{n:v->Bool}(y:∀p,An (c p) λ_=>True){l:List g}{b:Nat}(w:b<=θ l)(K:θ l<=16777000):An (ABC c n l (0,(b:Y))) λr=>r.Perm l:=by
 unfold ABC;refine AA (P:=λr=>r.Perm l) ?_ λr hr=>AB hr;refine CQ (λ(s:Y×List g)=>1<=s.1/\s.1<=b+1/\s.2.Perm l) (λs=>((b:Y)+1-s.1).toNat) ⟨by show 1<=wi (0+1);rw[AY];decide,by show wi (0+1)<=_;rw[AY];omega,mI _⟩ ?_;rintro⟨M,N⟩ ⟨B,C,h⟩;dsimp only at B C h;refine AC (λw=>?_) (λ_=>An.done h);have q:=h.length_eq;refine AA (P:=λr=>r.Perm l) ?_ λr hr=>?_
 ·refine CQ (λ(t:Y×List g)=>0<=t.1/\t.1<θ l/\t.2.Perm l) (λt=>t.1.toNat) ⟨d!,d!,h⟩ ?_;rintro⟨e,j⟩ ⟨d,D_,i⟩;dsimp only at d D_ i;have O:=i.length_eq;unfold AE6;dsimp only;refine AA (P:=λr:Unit⊕Unit=>r=.inr ()->e>0) ?_ λr hr=>?_;refine AC (λa=>?_) (λ_=>AB λA=>by cases A);rw[AY (x:=e-1)];refine AA (AI d) λQ _=>AA (AI d) λR _=>AA (AI) λS _=>AA (AI) λT _=>AA (y _) λU _=>AK (λ_=>AB λ_=>a) (λ_=>AB λ_=>a)
  ·refine BH (λu _=>An.done i) (λu z=>?_);have a:=hr (by cases u;exact z);rw[AY (x:=e-1)];refine AA (AI) λE_ _=>AA (AI) λf k=>AA (AI d) λF _=>AA (AI d) λo m=>AA (AI d) λG _=>AA (AI d) λH _=>?_;have L:(EU j e f).length=θ j:=pj;refine AA (AI) λI _=>AA (AI) λJ _=>An.next ⟨d!,d!,?_⟩ d!
   dsimp only;unfold EU;rw[(by have:=k.1;rw[Au o!]at this;exact(BY this).symm:f=j[(e-1).toNat]),(by have:=m.1;rw[Au o!]at this;exact(BY this).symm:o=j[e.toNat])];exact(List.set_set_perm o! o!).trans i
 ·grind[AY,An.next]
def AIQ{a:Type}{f:S a->Y×Y->V (S a)}{l:S a}(d:An (f l (0,(W l:Y))) λr=>r.Perm l)(h:W l<=12)(n:Y):An (tB (λ(_:S a×(Y×(Y×Y))->V (S a)) p=>pdG f p.1 p.2) (l,0,O l,n)) λr=>r.Perm l:=by
 have step:An (pdG f l (0,O l,n)) λr=>r.Perm l:=by unfold pdG;refine AA (P:=λr=>r.Perm l) ?_ λr hr=>AB hr;rw[HX];unfold AJW;dsimp[O];rw[AY,G! o!,B!];have⟨r,hr,e⟩:=d;grind[p?,cg]
 have⟨r,hr,e⟩:=step;have⟨s,c⟩:=iG (f:=λ(_:S a×(Y×(Y×Y))->V (S a)) p=>pdG f p.1 p.2) (x:=(l,0,O l,n)) (n:=1) hr;have⟨N,b⟩:=eG c;refine⟨s,c,?_⟩;cases N with
 |zero=>cases b
 |succ N=>exact step.get b
def AIU{a:Type}{f:S a->Y×(Y×Y)->V (S a)}{l:S a}(b:∀n,An (f l (0,O l,n)) λr=>r.Perm l)(h:W l<=12):An (soG f l) λr=>r.Perm l:=by unfold soG Ti;obtain⟨n,g,-,-⟩:=AB2 (x:=W l) o!;grind[Xe,p?,AA,cg,AB]
def AHw{l:S Y}(h:W l<=12):An (MS l ()) λr=>r.Perm l:=AIU (λn=>AIQ (ABD (λp=>Wo.mono λ_ _=>P!) (Al _) o!) h n) h
def AK6(p:Aq×Aq):An (Qp p) λ_=>M:=by grind[Qp,AA,Sm,AB]
def AK7(p:Be×Be):An (Qo p) λ_=>M:=by grind[Qo,AA,Sm,AB]
def AHx{l:R Aq}(h:θ l<=12):An (Gx l ()) λr=>r.Perm l:=AIU (λn=>AIQ (ABD AK6 (Al _) o!) h n) h
def AHz{l:R Be}(h:θ l<=12):An (Ed l ()) λr=>r.Perm l:=by
 unfold Ed;refine AA (P:=λr=>r.Perm l) ?_ λr hr=>by rw[cg hr,B!];exact AB hr
 unfold Jc;rw[HX];unfold MX;dsimp[O];rw[F! o!,A!];dsimp[σ];have⟨r,hr,b⟩:=ABD (n:=λa=>decide (a<0)) AK7 (Al (θ l)) o!;grind[E4,cg,HX,MY,AB]
def yT{a:AJ}{r:AQ}(h:BD a.2.1 a.1):An (Ff (a,r)) λk=>0<=k->a.1[k.toNat]?=δ r.2.2.1:=by
 have b:=h.2.2.2.1;refine AA (P:=λq=>∀k:Y,q=.inl k->a.1[k.toNat]?=δ r.2.2.1) ?_ λq f=>?_
 ·refine CQ (λ(s:Y)=>0<=s/\s<=θ a.1) (λs=>((θ a.1:Y)-s).toNat) ⟨Ae _,o!⟩ (λs c=>?_);have⟨g,i⟩:=c;unfold Hg;dsimp[O];refine AC (λe=>?_) (λ_=>An.done λk d=>by cases d);have hr:=oe h (Au o!:a.1[s.toNat]?=δ (a.1[s.toNat]' o!));grind[Int.toNat_of_nonneg,AY,AO,An.done,An.next]
 grind[BH,AB]
def Good.refE{a}{f}{r}(h:Good a f r)(c:BD a.2.1 a.1):∃k:U,DT (a,f)=Z (r,(k:Y))/\a.1[k]?=Z r.2.2.1:=by have⟨e,g,i,b⟩:=h;have⟨k,k1,d,j⟩:=(se (r:=r) c).and (yT (r:=r) c);refine⟨ο k,?_,j (d.2 b)⟩;unfold DT;rw[e,g,H!,A!,ya i,AD,show(((r,(0:Y)):AQ×Y).2 !=0)=X from rfl,A!,k1,AD,JW (d.2 b)]
def Beh(a b:NE):Prop:=a.1.2.1<b.1.1
def Lt(a b:NE):Prop:=a.1.2.2.1<b.1.2.2.1\/(a.1.2.2.1=b.1.2.2.1/\Beh a b)
def ACk{L}{x}(h:AR L x)(e:NE):e∈DE x↔∃f∈x.2.2.1,Good x f e.1/\e.2=f.2.1:=⟨λd=>by have⟨f,a,b,c,_⟩:=h.mem d;exact⟨f,a,b,c⟩,λ⟨f,a,b,c⟩=>by have:=QS h.vb.1 a b;rw[<-c]at this;exact this⟩
def rZ{L}{x}(h:AR L x){e:NE}(a:e∈DE x):1<=e.1.1/\e.1.1<=e.1.2.1:=by have⟨f,_,g,_⟩:=h.mem a;have:=g.2.2.1.1;exact⟨this.1,this.2.1⟩
def AC3{s2:R AQ×R Y×Y}{v4:AQ×Y}(h:θ s2.1<=16777215):An (Ai (HU s2 v4) (O s2.1)) λr=>0<=r/\r<=θ s2.1/\(∀e∈s2.1.drop r.toNat,v4.1.1<=e.1)/\(0<r->∀e,s2.1[r.toNat-1]?=δ e->e.1<=v4.1.1):=by refine CQ (λ(s:Y)=>0<=s/\s<=θ s2.1/\∀e∈s2.1.drop s.toNat,v4.1.1<=e.1) (λ(s:Y)=>s.toNat) ⟨by unfold O;omega,by unfold O;omega,λe a=>by simp[O]at a⟩ (λs i=>?_);have⟨f,g,b⟩:=i;unfold HU;refine AC (λj=>?_) (λj=>An.done ⟨f,g,b,λl=>O! l o!⟩);rw[AY];refine AA (AI) λm c=>AC (λk=>An.next ⟨o!,o!,λe a=>?_⟩ o!) (λk=>An.done ⟨f,g,b,λ_ e a=>?_⟩);rw[show s.toNat=(s-1).toNat+1 by omega]at b;have d:=Cs c.1;rw[OQ d]at a;rcases Av.1 a with q|q;have:=c.1;rw[Au d]at this;grind[Option.some.inj];exact b e q;have:=c.1;rw[show(s-1).toNat=s.toNat-1 by omega,a]at this;rw[BY this];omega
def W2(x:AJ)(k:U)(s:S AQ×S Y×Y):Prop:=0<=s.2.2/\s.2.2<=W x.2.2.1/\∃M:S NE,s.1=M.map (·.1)/\s.2.1=M.map (·.2)/\W M<=s.2.2/\M.Pairwise Beh/\∀e,e∈M↔(∃f∈x.2.2.1.take s.2.2.toNat,Good x f e.1/\e.2=f.2.1)/\x.1[k]?=Z e.1.2.2.1
def AC2{x}{L}{s1:Int×Ψ AQ×Ψ Int×Ψ Bool}(h:AR L x){k:Nat}(hp:s1.1=k):An (Ai (Ez x s1) ([],[],0)) λr=>∃M:Ψ NE,r=(M.map (·.1),M.map (·.2))/\θ M<=256/\M.Pairwise Beh/\∀e,e∈M↔e∈DE x/\x.1[k]?=Z e.1.2.2.1:=by
 obtain⟨⟨b1,b2,b3,b4,b5,b6,b7⟩,a1,a2,a3,a4,a5,a6⟩:=h.vb;refine CQ (W2 x k) (λs=>((θ x.2.2.1:Int)-s.2.2).toNat) ⟨Ae _,d!,[],rfl,rfl,q!,List.Pairwise.nil,λe=>q!⟩ ?_;rintro⟨A,B,i⟩ ⟨i1,i2,M,eA,eB,i4,W,X_⟩;dsimp only at i1 i2 eA eB i4 X_;subst eA eB;unfold Ez;dsimp only[len];rw[AY (x:=i+1)];refine AC (λhc=>?_) (λhc=>k? ⟨M,rfl,o!,W,λe=>by rw[X_ e,ACk h,BM o!]⟩);refine AA (AI i1 hc) λZ_ P=>?_;have et:x.2.2.1.take (i+1).toNat=x.2.2.1.take i.toNat++[Z_]:=by rw[show(i+1).toNat=i.toNat+1 by omega,Ck,P.1];rfl
 have C:(∀e:NE,Good x Z_ e.1->x.1[k]? ≠Z e.1.2.2.1)->An (Z (Step.next (M.map (·.1),M.map (·.2),i+1)):Ω (Step (Ψ AQ×Ψ Int×Int) (Ψ AQ×Ψ Int))) (MU (W2 x k) (λs=>((θ x.2.2.1:Int)-s.2.2).toNat) ((θ x.2.2.1:Int)-i).toNat λr=>∃M:Ψ NE,r=(M.map (·.1),M.map (·.2))/\θ M<=256/\M.Pairwise Beh/\∀e,e∈M↔e∈DE x/\x.1[k]?=Z e.1.2.2.1):=λhn=>by
  refine y! ⟨d!,d!,M,rfl,rfl,d!,W,λe=>?_⟩ d!
  dsimp only;rw[X_ e,et];constructor;rintro⟨⟨f,o,l⟩,m⟩;exact⟨⟨f,Ak.2 (.inl o),l⟩,m⟩;rintro⟨⟨f,o,l⟩,m⟩;rcases Ak.1 o with q|q;exact⟨⟨f,q,l⟩,m⟩;rw[A5.1 q]at l;exact O! m (hn e l.1)
 rcases h.files Z_ P.2 with u|⟨r,D_,_⟩;obtain⟨r,hr⟩:=u.ref (a:=x);rw[hr,AD];dsimp only;rw[show((-1:Int) !=s1.1)=E by rw[hp];exact bne_iff_ne.2 o!,B!];exact C λe v=>O! v.2.1 (u.2 _ v.2.2.1.wr);obtain⟨kk,hr,F⟩:=D_.refE h.vb.1;rw[hr,AD];dsimp only;rw[hp];refine AL (λa9=>C λe v hk=>a9 ?_) (λT=>?_);have e1:=uX v.2.2.1 D_.2.2.1 (v.2.1.symm.trans D_.2.1);rw[e1]at hk;rw[h.vb.1.inj F hk];have T:kk=k:=o!
 subst T;refine AA (AC3 (s2:=(M.map (·.1),M.map (·.2),i)) (v4:=(r,(kk:Int))) (by dsimp only;rw[BT];omega)) λc h7=>?_;obtain⟨Y,g2,g3,g4⟩:=h7;dsimp only at g2 g3 g4;rw[BT]at g2;have m1:(M.map (·.1)).length=θ M:=BT _;have m2:(M.map (·.2)).length=θ M:=BT _;refine AA (BU (Ae _) Y) λv8 h8=>AA (BU Y) λv9 h9=>?_;have l8:=h8.2;have l9:=h9.2;refine AA (AZ w!) λca H=>?_;have bb:=H.2.1;simp only[Bi]at bb;refine AA (AZ w!) λcb I=>?_;have bl:=I.2.1;simp only[Bi,Bh]at bl;refine AA (AZ o!) λbz ax=>AA (BU (Ae _) Y) λbG J=>?_;have b9:=J.2;refine AA (AI i1 hc) λd a0=>?_;have ao:d=Z_:=by have:=a0.1;rw[P.1]at this;exact(BY this).symm
 subst ao;refine AA (BU Y) λbN K=>?_;have b':=K.2;refine AA (AZ w!) λcc N=>?_;have bm:=N.2.1;simp only[Bi]at bm;refine AA (AZ w!) λcd O=>?_;have bt:=O.2.1;simp only[Bi,Bh]at bt;refine AA (AZ o!) λb0 a7=>?_;have z:∀{β:Type}g(a b:Ψ β),a=List.take (c.toNat-ο 0) (List.drop (ο 0) (M.map g))->b=List.take (((M.map g).length:Int).toNat-c.toNat) (List.drop c.toNat (M.map g))->a=(M.take c.toNat).map g/\b=(M.drop c.toNat).map g:=λg a b t u=>by refine⟨?_,?_⟩;rw[t,nh];rfl;rw[u,fh];exact BM (by rw[C5];omega)
 obtain⟨e8,e9⟩:=z (·.1) v8 v9 h8.1 h9.1;obtain⟨al,ap⟩:=z (·.2) bG bN J.1 K.1;have ad:bz=(M.take c.toNat++(r,d.2.1)::M.drop c.toNat).map (·.1):=by rw[ax.1,I.1,H.1,e8,e9];simp
 have ar:b0=(M.take c.toNat++(r,d.2.1)::M.drop c.toNat).map (·.2):=by rw[a7.1,O.1,N.1,al,ap];simp
 have y:=QS h.vb.1 P.2 D_;have U:∀a∈M,a∈DE x/\a.1.2.2.1=r.2.2.1/\a≠(r,d.2.1):=λa t=>by
  obtain⟨⟨f,o,l,m⟩,G⟩:=(X_ a).1 t;refine⟨(ACk h a).2 ⟨f,F9 o,l,m⟩,?_,λv=>?_⟩;rw[F]at G;exact(BY G).symm;obtain⟨j,p⟩:=DW o;have E_:=Cs p;rw[BP]at E_;rw[KD o!,Au o!]at p;have Q:=P.1;rw[Au o!]at Q;have:=EL.1 (we h.vb) j i.toNat o! o! o!
  rw[BY p,BY Q]at this;rw[v]at m;dsimp only at m;omega
 have S:∀a∈M.take c.toNat,Beh a (r,d.2.1):=λa t=>by
  have a8:=F9 t;obtain⟨q1,q2,q3⟩:=U a a8;have ra:=rZ h q1;have rr:=rZ h y;obtain⟨j,p⟩:=DW t;have E_:=Cs p;rw[BP]at E_;rw[KD o!]at p;have n:M[c.toNat-1]?=Z (M[c.toNat-1]' o!):=Au o!;have V:(M[c.toNat-1]' o!).1.1<=r.1:=g4 o! _ (by rw[CU,n];rfl);have b8:a.1.1<=r.1:=by by_cases v:j=c.toNat-1;rw[v,n]at p;rw[<-BY p];exact V;have:=EL.1 W j (c.toNat-1) o! o! o!;rw[Au o!]at p;rw[BY p]at this;unfold Beh at this;omega
  rcases h.dis a q1 _ y q3 q2 with w|w;exact w;dsimp only at w rr;omega
 have R:∀b∈M.drop c.toNat,Beh (r,d.2.1) b:=λb u=>by obtain⟨q1,q2,q3⟩:=U b (Q8 u);have rb:=rZ h q1;have rr:=rZ h y;have V:=g3 b.1 (by rw[<-fh];exact Tp u);rcases h.dis _ y b q1 (PP q3) q2.symm with w|w;exact w;dsimp only at w rr;omega
 rw[ad,ar];refine y! ⟨d!,d!,_,rfl,rfl,by simp[Aa,Bh,BP,C5];omega,?_,λe=>?_⟩ d!
 rw[<-DG c.toNat M]at W;obtain⟨p1,p2,p3⟩:=List.pairwise_append.1 W;refine List.pairwise_append.2 ⟨p1,List.pairwise_cons.2 ⟨R,p2⟩,λa t b u=>?_⟩;rcases Av.1 u with q|q;rw[q];exact S a t;exact p3 a t b q;dsimp only;rw[et];have a':e∈M.take c.toNat++(r,d.2.1)::M.drop c.toNat↔e∈M\/e=(r,d.2.1):=by
  conv=>rhs;rw[<-DG c.toNat M]
  simp only[Ak,Av];constructor;rintro(q|q|q);exact .inl (.inl q);exact .inr q;exact .inl (.inr q);rintro((q|q)|q);exact .inl q;exact .inr (.inr q);exact .inr (.inl q)
 rw[a',X_ e];constructor;rintro(⟨⟨f,o,l⟩,m⟩|q);exact⟨⟨f,Ak.2 (.inl o),l⟩,m⟩;rw[q];exact⟨⟨d,Ak.2 (.inr (A5.2 rfl)),D_,rfl⟩,F⟩;rintro⟨⟨f,o,l,G⟩,m⟩;rcases Ak.1 o with q|q;exact .inl ⟨⟨f,q,l,G⟩,m⟩;rw[A5.1 q]at l G;have e1:=uX l.2.2.1 D_.2.2.1 (l.2.1.symm.trans D_.2.1);exact .inr (Da e1 G)
def AC4{M:R NE}{t:R AQ×R Y×R N}(v:M.Pairwise Beh)(m:∀e∈M,1<=e.1.1/\e.1.1<=e.1.2.1)(w:θ M<=256)(z:θ t.1<=100000)(A:θ t.2.1<=100000)(B:θ t.2.2<=100000):An (Ai (E2 (M.map (·.1),M.map (·.2))) (0,0,t)) λr=>r=(t.1++M.map (·.1),(t.2.1++M.map (·.2),t.2.2++M.map λ_=>ζ)):=by
 have y:(M.map (·.1)).length=θ M:=BT _;refine CQ (λ(s:Y×Y×R AQ×R Y×R N)=>∃k:U,s.2.1=k/\k<=θ M/\s.2.2=(t.1++(M.take k).map (·.1),(t.2.1++(M.take k).map (·.2),t.2.2++(M.take k).map λ_=>ζ))/\((k=0/\s.1=0)\/∃e,0<k/\M[k-1]?=δ e/\s.1=e.1.2.1)) (λs=>((θ M:Y)-s.2.1).toNat) ⟨0,rfl,BV _,q!,.inl ⟨rfl,rfl⟩⟩ ?_;rintro⟨j,_,T⟩ ⟨k,rfl,k1,rfl,o⟩;dsimp only at o;unfold E2;dsimp[O];rw[AY (x:=(k:Y)+1)];refine AC (λl=>?_) (λl=>An.done (by rw[BM o!]));have a:k<θ M:=o!
 have h:ix (M.map (·.1)) (k:Y)=δ M[k].1:=by unfold ix;rw[C! o!,Int.toNat_natCast,List.getElem?_map,List.getElem?_eq_getElem a];rfl
 have i:ix (M.map (·.2)) (k:Y)=δ M[k].2:=by unfold ix;rw[C! o!,Int.toNat_natCast,List.getElem?_map,List.getElem?_eq_getElem a];rfl
 have n:=m _ (F8 a);have b:j<M[k].1.1:=by grind[List.pairwise_iff_getElem,List.getElem?_eq_getElem,Option.some.inj,Beh]
 have g:M.take (k+1)=M.take k++[M[k]]:=by grind[List.take_add_one,List.getElem?_eq_getElem]
 have l1:=fg k M;rw[h,AD,F! o!,A!,AD,i,AD,AD];rw[show FZ (M[k].1,j)=δ M[k].1 by unfold FZ;rw[G! (by exact b)];rfl,Option.bind_some];refine AA (AZ w!) λp c=>AA (AZ w!) λq d=>AA (AZ w!) λu f=>?_;rw[AD];refine An.next ⟨k+1,rfl,a,?_,.inr ⟨M[k],o!,Au a,rfl⟩⟩ d!
 dsimp only;rw[c.1,d.1,f.1,g,G! (by exact b)];simp only[Ke,B4,Hj,A3]
def AGd{x:AJ}{L:R EN}(h:AR L x):An (GF x) λr=>∃W:R NE,r=(W.map (·.1),(W.map (·.2),W.map λ_=>ζ))/\W.Pairwise Lt/\∀e,e∈W↔e∈DE x:=by
 obtain⟨⟨E_,F,G,H,I,J,K⟩,a1,a2,a3,a4,a5,a6⟩:=h.vb;unfold GF;refine AA O7 λQ A=>AP (λt=>O! (A.2 h.vb) (by simp[t])) (λ_=>AA (P:=λr=>∃W:R NE,r=(W.map (·.1),(W.map (·.2),W.map λ_=>ζ))/\W.Pairwise Lt/\∀e,e∈W↔e∈DE x) ?_ λr hr=>AB hr);refine CQ (λ(s:Y×R AQ×R Y×R Bool)=>∃(i:U)(W:R NE),s.1=i/\i<=θ x.1/\s.2=(W.map (·.1),(W.map (·.2),W.map λ_=>ζ))/\θ W<=256*i/\W.Pairwise Lt/\∀e,e∈W↔e∈DE x/\∃k:U,k<i/\x.1[k]?=δ e.1.2.2.1) (λs=>((θ x.1:Y)-s.1).toNat) ⟨0,[],rfl,BV _,rfl,q!,List.Pairwise.nil,λe=>q!⟩ ?_;rintro⟨_,_⟩ ⟨i,W,rfl,N,rfl,O,y,v⟩;unfold N3;dsimp only[len];rw[AY (x:=(i:Y)+1)];refine AC (λt=>?_) (λt=>An.done ⟨W,rfl,y,λe=>?_⟩)
 ·refine AA (AC2 h rfl) λC l=>?_;obtain⟨M,rfl,B,z,j⟩:=l;refine AA (AC4 z (λe u=>rZ h ((j e).1 u).1) B (by rw[BT];omega) (by rw[BT];omega) (by rw[BT];omega)) λD_ m=>An.next ⟨i+1,W++M,rfl,o!,by rw[m];simp,by rw[Aa];omega,List.pairwise_append.2 ⟨y,?_,λa n b p=>?_⟩,λe=>?_⟩ d!
  refine qJ ?_ z;intro a b n p o;have w:=((j a).1 n).2;rw[((j b).1 p).2]at w;exact .inr ⟨(BY w).symm,o⟩;obtain⟨_,k,k1,c⟩:=(v a).1 n;obtain⟨d,rfl⟩:∃d,i=k+1+d:=⟨i-(k+1),o!⟩
  exact .inl (h.vb.1.lt d k _ _ c ((j b).1 p).2);rw[Ak,v e,j e];constructor;rintro(⟨q,k,k1,c⟩|⟨q1,q2⟩);exact⟨q,k,o!,c⟩;exact⟨q1,i,o!,q2⟩;rintro⟨q,k,k1,c⟩;by_cases u:k=i;rw[u]at c;exact .inr ⟨q,c⟩;exact .inl ⟨q,k,o!,c⟩
 rw[v e];refine⟨λq=>q.1,λq=>⟨q,?_⟩⟩;obtain⟨f,_,g,_⟩:=h.mem q;obtain⟨k,k1,_⟩:=g.2.2.2;have:=Cs k1;exact⟨k,o!,k1⟩
def AIo{x}{L}(h:AR L x):An (Rf x) λr=>∃W:S NE,r=(W.map (·.1),W.map (·.2))/\W.Pairwise Lt/\θ W<=256/\∀e,e∈W↔e∈DE x:=by refine AA (AGd h) λr hr=>?_;obtain⟨W,rfl,i,g⟩:=hr;refine AB ⟨W,rfl,i,?_,g⟩;have f:W.Nodup:=II.2 (i.imp_of_mem λ{a b} j k c d=>by subst d;have:=rZ h ((g a).1 j);rcases c with q|⟨_,q⟩;omega;unfold Beh at q;omega);have q1:=jL W (DE x) f λe d=>(g e).1 d;have q2:(DE x).length<=θ x.2.2.1:=List.length_filterMap_le _ _;have:=h.vb.2.2.2.2.2.1;omega
def Src(L:S EN)(p:Y)(rs:S AQ):Prop:=W rs<=256/\∀r∈rs,VR r/\cp L r/\r.2.2.1<=p/\p<=r.2.2.2.1
def AHj{a:AJ}{l:Ac}{p i j:Y}:An (JI (a,l,p,i,j)) λr=>r=0->0<=p/\p<a.2.1/\0<=i/\i<=j:=by refine AA Ka λk g=>AP (y? n!) (λ_=>AA Bb λm h=>AP (y? n!) (λ_=>AC (y? n!) (λc=>AC (y? n!) (λd=>AC (y? n!) (λe=>AC (y? n!) (λf=>AB λ_=>?_))))));dsimp only at c d e f;omega
def AIk{a:AJ}{p:Y}(h:VB a)(o:0<=p/\p<a.2.1):An (Re (a,p)) λr=>∃k:U,a.1[k]?=δ r.1/\r.1<=p/\p<=qx a k:=by
 have i:=h.1.2.2.2.1;have w:=h.1.2.2.1;refine AA O7 λB g=>AP (λc=>O! (g.2 h) (by simp[c])) (λ_=>?_);dsimp only;rw[F! o!,A!,F! o!,A!];refine AA (P:=λk:Y=>∃m:U,k=m/\∃b,a.1[m]?=δ b/\b<=p/\p<=qx a m) ?_ λk n=>?_
 ·refine CQ (λ(s:Y)=>0<=s/\s<θ a.1/\∃b,a.1[s.toNat]?=δ b/\b<=p) (λs=>((θ a.1:Y)-s).toNat) ⟨Ae _,o!,0,h.1.2.2.2.2.1,o.1⟩ (λs j=>?_);have⟨x,y,b,e,f⟩:=j;unfold Um;dsimp[O];rw[AY];refine AC (λc=>AA (AI o! c) λv q=>?_) (λc=>An.done ⟨s.toNat,o!,b,e,f,?_⟩)
  ·have u:(s+1).toNat=s.toNat+1:=o!
   refine AC (λd=>An.next ⟨o!,o!,v,q.1,d⟩ o!) (λl=>An.done ⟨s.toNat,o!,b,e,f,?_⟩);grind[qx]
  grind[qx,List.getElem?_eq_none]
 obtain⟨m,rfl,b,t,z,A⟩:=n;rw[oe h.1 t,AD];grind[AB]
def AHi{a}{l}{p i j:Y}(c:VB a)(e:Dh l)(f:0<=p/\p<a.2.1)(d:0<=i)(b:i<=j):JI (a,l,p,i,j)=Z 0:=by grind[An,JI,AA,O7,AP,Bb,AB]
def vX{L:List EN}{a:AJ}{l:Ac}{p:Int}(h:AR L a)(F:0<=p/\p<a.2.1):An (Ju (a,(l,p))) λr=> ∃(M:List NE) (v D_:Int),ON a p v D_/\r=(M.map (·.1),(M.map (·.2),l))/\M.Pairwise Beh/\(∀e,e∈M↔e∈DE a/\e.1.2.2.1=v)/\Src L p (M.map (·.1)):=by
 refine AA (AIk h.vb F) λc A=>AA (AIo h) λY B=>?_;have⟨k,k1,t,u⟩:=A;dsimp only at k1 t u;obtain⟨W,rfl,K,N,w⟩:=B;have U:(W.map (·.1)).length=W.length:=BT _;refine AA (P:=λr=>r=((W.filter λe=>e.1.2.2.1==c.1).map (·.1),((W.filter λe=>e.1.2.2.1==c.1).map (·.2),l))) ?_ λr hr=>AB ⟨W.filter λe=>e.1.2.2.1==c.1,c.1,qx a k,⟨k,k1,rfl,t,u⟩,hr,?_,?_,?_⟩
 ·refine CQ (λ(s:Int×List AQ×List Int×Ac)=> ∃k:Nat,s.1=k/\k<=W.length/\s.2=(((W.take k).filter λe=>e.1.2.2.1==c.1).map (·.1),(((W.take k).filter λe=>e.1.2.2.1==c.1).map (·.2),l))) (λs=>((W.length:Int)-s.1).toNat) ⟨0,rfl,BV _,rfl⟩ ?_;rintro⟨_,_⟩ ⟨k,rfl,T,rfl⟩;unfold Qv;dsimp[len];rw[AY (x:=(k:Int)+1)];refine AC (λC=>?_) (λC=>An.done (by rw[BM o!]));have d:k<W.length:=o!
  have j:ix (W.map (·.1)) (k:Int)=some W[k].1:=by unfold ix;rw[if_pos o!,Int.toNat_natCast,List.getElem?_map,List.getElem?_eq_getElem d];rfl
  have m:ix (W.map (·.2)) (k:Int)=some W[k].2:=by unfold ix;rw[if_pos o!,Int.toNat_natCast,List.getElem?_map,List.getElem?_eq_getElem d];rfl
  have H:W.take (k+1)=W.take k++[W[k]]:=by grind[List.take_add_one,List.getElem?_eq_getElem]
  have V:=EK (λe:NE=>e.1.2.2.1==c.1) (W.take k);have X_:=fg k W;rw[j,AD];refine AA (P:=λr=>r=(((W.take (k+1)).filter λe=>e.1.2.2.1==c.1).map (·.1),(((W.take (k+1)).filter λe=>e.1.2.2.1==c.1).map (·.2),l))) (AO (λo=>?_) (λE_=>AB ?_)) λr hr=>An.next ⟨k+1,rfl,d,hr⟩ d!
  rw[AD,m,AD];refine AA (AZ w!) λZ_ R=>AA (AZ w!) λv7 S=>AB ?_;grind;grind
 apply (K.filter _).imp_of_mem;intro x y I J n;have O:=eq_of_beq (BQ.1 I).2;have Q:=eq_of_beq (BQ.1 J).2;rcases n with q|⟨_,q⟩;omega;exact q;intro e;rw[BQ,w e,beq_iff_eq];refine⟨by rw[BT];exact Cl (EK _ _) N,λq G=>?_⟩;obtain⟨e,o,rfl⟩:=Bs.1 G;have⟨q1,q2⟩:=BQ.1 o;have⟨f,_,g,_,z,_⟩:=h.mem ((w e).1 q1);have i:=eq_of_beq q2;have b:=g.2.2.2;rw[i]at b;have:=b.uniq h.vb.1 ⟨k,k1,rfl⟩;exact⟨g.2.2.1,z,o!⟩
def V6(rs:S AQ)(l:Ac)(m:Y):Prop:=(∃r∈rs,r.1<=m/\m<=r.2.1)\/(l.1<=m/\m<=l.1+W l.2.1-1)
def yC{l}{m:Y}(h:Dh l):JH (l,m)=Z (τ (l.1<=m/\m<=l.1+W l.2.1-1)):=by have a:=h.1;have b:=h.2.1;have d:=h.2.2.1;unfold JH;dsimp[O];rw[AY];by_cases c:l.1<=m<;>grind
theorem AFP{L:List EN}{p m:Int}{a:List AQ}{E_:List Int}{l:Ac}(h:Src L p a)(w:Dh l)(hm:0<=m/\m<=2199023255552):An (Rh ((a,E_,l),m)) λv=>m-1<=v/\v<=2199023255552/\(∀q,m<=q->q<=v->V6 a l q)/\(v=m-1->¬V6 a l m):=by
 have X_:=w.1;have Y:=w.2.1;have Z_:=w.2.2.1;refine AA (P:=λv=>m-1<=v/\v<=2199023255552/\(∀q,m<=q->q<=v->V6 a l q)/\∀r∈a,r.1<=m->m<=r.2.1->m<=v) ?_ λv5 K=>?_
 ·refine CQ (λ(s:Int×Int)=>0<=s.2/\s.2<=θ a/\m-1<=s.1/\s.1<=2199023255552/\(∀q,m<=q->q<=s.1->V6 a l q)/\∀r∈a.take s.2.toNat,r.1<=m->m<=r.2.1->m<=s.1) (λs=>((θ a:Int)-s.2).toNat) ⟨Ae _,d!,by dsimp only;rw[AY];omega,by dsimp only;rw[AY];omega,λq q1 q2=>by dsimp only at q2;rw[AY]at q2;omega,λr hr=>by simp at hr⟩ ?_;rintro⟨b,k⟩ ⟨y,R,i,j,n,D_⟩;dsimp only at y R i j n D_;have Q:=h.1;unfold Us;dsimp[len];refine AC (λu=>?_) (λu=>An.done ⟨i,j,n,by rw[BM o!]at D_;exact D_⟩);rw[AY (x:=k+1)];refine AA (AI y u) λo e=>?_;have W:a.take (k+1).toNat=a.take k.toNat++[o]:=by rw[show(k+1).toNat=k.toNat+1 by omega,Ck,e.1];rfl
  have hr:=(h.2 o e.2).1.1;have keep:∀t,b<=t->(o.1<=m->m<=o.2.1->m<=t)->∀r∈a.take (k+1).toNat,r.1<=m->m<=r.2.1->m<=t:=λt hb C r O q1 q2=>by grind[List.mem_singleton]
  refine AC (λN=>?_) (λB=>An.next ⟨d!,d!,i,j,n,keep b (Ae _) λq=>O! q B⟩ d!);refine AA (AI y u) λF z=>?_;have I:F=o:=by grind[Option.some.inj]
  subst I;refine AA (P:=λv=>m-1<=v/\v<=2199023255552/\(∀q,m<=q->q<=v->V6 a l q)/\b<=v/\(m<=F.2.1->m<=v)) ?_ λV c=>An.next ⟨d!,d!,c.1,c.2.1,c.2.2.1,keep V c.2.2.2.1 λ_=>c.2.2.2.2⟩ d!
  refine AC (λg=>AA (AI y u) λH A=>AB ?_) (λg=>AB ⟨i,j,n,Ae _,λq=>O! q g⟩);have J:H=F:=by grind[Option.some.inj]
  subst J;have G:=hr.2.2.1;split;exact⟨o!,o!,λq q1 q2=>.inl ⟨H,e.2,o!,q2⟩,o!,id⟩;exact⟨i,j,n,Ae _,λq=>o!⟩
 rw[yC w,AD];dsimp[len];have⟨e,z,A,c⟩:=K;refine AA (P:=λv=>m-1<=v/\v<=2199023255552/\(∀q,m<=q->q<=v->V6 a l q)/\(v=m-1->¬V6 a l m)) ?_ λv7 M=>AB M;refine AC (λf=>AB ?_) (λf=>AB ⟨e,z,A,λC d=>?_⟩);rw[AY (x:=l.1+θ l.2.1),AY];split;exact⟨o!,o!,λq q1 q2=>.inr o!,λC=>o!⟩;exact⟨e,z,A,λC=>o!⟩;rcases d with⟨r,S,T,U⟩|d;have:=c r S T U;omega;exact f d
def ADG{L}{p i j:Y}{a}{c:S Y}{l}(h:Src L p a)(n:Dh l)(k:0<=i)(m:j<=1099511627776)(f:i<=j):An (Kb ((a,c,l),i,j)) λb=>b=E↔∀q,i<q->q<=j->V6 a l q:=by
 refine AA (P:=λr=>(r=.inl X/\∃q,i<q/\q<=j/\¬V6 a l q)\/(r=.inr ()/\∀q,i<q->q<=j->V6 a l q)) ?_ λr hr=>?_
 ·refine CQ (λs=>i<=s/\s<=2199023255552/\∀q,i<q->q<=s->V6 a l q) (λs=>(j-s).toNat) ⟨Ae _,d!,λq q1 q2=>by dsimp only at q2;omega⟩ (λs d=>?_);have⟨o,t,g⟩:=d;unfold Lh;dsimp only;refine AC (λe=>?_) (λe=>k? (.inr ⟨rfl,λq q1 q2=>g q q1 o!⟩));grind[AY,AA,AFP,AO,k?,y!]
 grind[BF,AB,Ay]
def ACK{a:AJ}{l}{d:Y}{M:S NE}(h:∀e,e∈M↔e∈DE a/\e.1.2.2.1=d)(m:Y):V6 (M.map (·.1)) l m↔iB a l d m:=by constructor;rintro(⟨r,i,j⟩|q);obtain⟨e,g,rfl⟩:=Bs.1 i;have⟨b,c⟩:=(h e).1 g;exact .inr ⟨e,b,c,j⟩;exact .inl q;rintro(q|⟨e,b,c,f⟩);exact .inr q;exact .inl ⟨e.1,Tp ((h e).2 ⟨b,c⟩),f⟩
def AAR{r:AQ}{p:Y}(h:VR r):An (Pt (r,p)) λv=>v=r.2.2.2.2.2.filter λe=>e.2.2.2.2.2.2.1.1==p:=by have m:=h.1.2.2.2.2.2.2.2.2;refine AA YX λn f=>AP (λa=>absurd (f.2 h) (by simp[a])) (λ_=>AA (P:=λv=>v=r.2.2.2.2.2.filter λe=>e.2.2.2.2.2.2.1.1==p) ?_ λv j=>AB j);refine CQ (λ(s:Y×R EN)=>0<=s.1/\s.1<=r.2.2.2.2.2.length/\s.2=(r.2.2.2.2.2.take s.1.toNat).filter λe=>e.2.2.2.2.2.2.1.1==p) (λs=>((r.2.2.2.2.2.length:Y)-s.1).toNat) ⟨Ae _,d!,q!⟩ ?_;rintro⟨s,A⟩ ⟨b,k,d⟩;dsimp only at b k d;unfold SU;dsimp[O];refine AC (λa=>?_) (λa=>An.done (by rw[d,BM o!]));refine AA (AI b a) λo g=>?_;have i:=mX (p:=λe:EN=>e.2.2.2.2.2.2.1.1==p) b g.1;have c:=pG (l:=r.2.2.2.2.2) (p:=λe:EN=>e.2.2.2.2.2.2.1.1==p) b;rw[<-d]at c;rw[AY];grind[AA,An.next,AO,AI,AZ,AB,Option.some.inj]
def AAt{L:List EN}{p i j:Int}{c:List AQ}(V:Uq L)(h:Src L p c):An (Jt (c,p,i,j)) λr=>θ r<=1048576/\∀y,y∈r↔∃q∈c,y∈q.2.2.2.2.2/\y.2.2.2.2.2.2.1.1=p/\i<y.1/\y.1<=j:=by
 have W:=h.1;refine AA (P:=λr=>θ r<=1048576/\∀y,y∈r↔∃q∈c,y∈q.2.2.2.2.2/\y.2.2.2.2.2.2.1.1=p/\i<y.1/\y.1<=j) ?_ λr hr=>AB hr;refine CQ (λ(s:List EN×Int)=>0<=s.2/\s.2<=θ c/\θ s.1<=4096*s.2/\∀y,y∈s.1↔∃q∈c.take s.2.toNat,y∈q.2.2.2.2.2/\y.2.2.2.2.2.2.1.1=p/\i<y.1/\y.1<=j) (λs=>((θ c:Int)-s.2).toNat) ⟨Ae _,d!,q!,λy=>q!⟩ ?_;rintro⟨A,k⟩ ⟨M,X_,Y,n⟩;dsimp only at M X_ Y n;unfold LA;dsimp[len];refine AC (λK=>?_) (λK=>An.done ⟨o!,λy=>by rw[n y,BM o!]⟩);refine AA (AI M K) λu I=>?_;have⟨H,S,g3,g4⟩:=h.2 u I.2;have hl:=H.1.2.2.2.2.2.2.2.2;refine AA (AAR H) λa C=>?_;have G:=EK (λe:EN=>e.2.2.2.2.2.2.1.1==p) u.2.2.2.2.2;rw[<-C]at G;have D_:∀y∈A,y∈L:=λy f=>by have⟨q,q1,q2,_⟩:=(n y).1 f;exact(((h.2 q (F9 q1)).2.1.mem y).1 q2).1
 have g:∀y∈a,y∈L:=λy f=>by rw[C]at f;exact((S.mem y).1 (BQ.1 f).1).1
 refine AA (P:=λr=>θ r<=θ A+θ a/\∀y,y∈r↔y∈A\/(y∈a/\i<y.1/\y.1<=j)) ?_ λr hr=>?_
 ·refine CQ (λ(s:List EN×Int)=>0<=s.2/\s.2<=θ a/\θ s.1<=θ A+s.2/\∀y,y∈s.1↔y∈A\/(y∈a.take s.2.toNat/\i<y.1/\y.1<=j)) (λs=>((θ a:Int)-s.2).toNat) ⟨Ae _,d!,d!,λy=>q!⟩ ?_;rintro⟨B,m⟩ ⟨o,Z_,j2,t⟩;dsimp only at o Z_ j2 t;unfold LB;dsimp[len];refine AC (λb=>?_) (λb=>An.done ⟨o!,λy=>by rw[t y,BM o!]⟩);refine AA (AI o b) λv l=>?_;rw[AY (x:=m+1)];have z:a.take (m+1).toNat=a.take m.toNat++[v]:=by rw[show(m+1).toNat=m.toNat+1 by omega,Ck,l.1];rfl
  have d:¬(i<v.1/\v.1<=j)->∀y,y∈B↔y∈A\/(y∈a.take (m+1).toNat/\i<y.1/\y.1<=j):=λhn y=>by grind[List.mem_singleton]
  refine AC (λE_=>?_) (λE_=>An.next ⟨d!,d!,d!,d λq=>o!⟩ d!);refine AA (AI o b) λN T=>?_;have Q:N=v:=by have:=T.1;rw[l.1]at this;exact(BY this).symm
  subst Q;refine AA (P:=λr=>θ r<=θ B+1/\∀y,y∈r↔y∈A\/(y∈a.take (m+1).toNat/\i<y.1/\y.1<=j)) ?_ λr hr=>An.next ⟨d!,d!,by have:=hr.1;dsimp only;omega,hr.2⟩ d!
  refine AC (λF=>?_) (λF=>AB ⟨o!,d λq=>o!⟩);refine AA (AI o b) λO U=>?_;have R:O=N:=by have:=U.1;rw[l.1]at this;exact(BY this).symm
  subst R;refine AA (oY V (λy f=>?_) (g O l.2) o!) λv7 J=>AB ⟨J.1,λy=>?_⟩;rcases(t y).1 f with q|q;exact D_ y q;exact g y (F9 q.1);rw[J.2 y,t y,z,Ak,A5];constructor;rintro((q|⟨q1,q2⟩)|q);exact .inl q;exact .inr ⟨.inl q1,q2⟩;exact .inr ⟨.inr q,by rw[q];omega⟩;rintro(q|⟨q1|q1,q2⟩);exact .inl (.inl q);exact .inl (.inr ⟨q1,q2⟩);exact .inr q1
 ·rw[AY];refine An.next ⟨d!,d!,by have:=hr.1;dsimp only;omega,λy=>?_⟩ d!
  dsimp only;have z:c.take (k+1).toNat=c.take k.toNat++[u]:=by rw[show(k+1).toNat=k.toNat+1 by omega,Ck,I.1];rfl
  rw[hr.2 y,n y,z,C,BQ,J!];constructor;rintro(⟨q,q1,q2⟩|⟨⟨q1,q2⟩,q3⟩);exact⟨q,GU _ q1,q2⟩;exact⟨u,NU _ (A5.2 rfl),q1,q2,q3⟩;rintro⟨q,q1,q2,q3,q4⟩;rcases Ak.1 q1 with w|w;exact .inl ⟨q,w,q2,q3,q4⟩;rw[A5.1 w]at q2;exact .inr ⟨⟨q2,q3⟩,q4⟩
def zt{l:Ac}{p i j:Y}(h:Dh l):An (Pv (l,p,i,j)) λr=>r=l.2.1.filter (HY p i j):=by
 have z:=h.2.2.1;refine AA (P:=λr=>r=l.2.1.filter (HY p i j)) ?_ λr hr=>AB hr;refine CQ (λ(q:Y×R EN)=>0<=q.1/\q.1<=θ l.2.1/\q.2=(l.2.1.take q.1.toNat).filter (HY p i j)) (λq=>((θ l.2.1:Y)-q.1).toNat) ⟨Ae _,d!,q!⟩ (λq v=>?_);have⟨q1,q2,q3⟩:=v;unfold SY;dsimp[O];refine AC (λo=>?_) (λo=>An.done (by rw[q3,BM o!]));refine AA (AI q1 o) λs t=>?_;have k:=mX (p:=HY p i j) q1 t.1;have f:=pG (l:=l.2.1) (p:=HY p i j) q1;rw[<-q3]at f;rw[AY (x:=q.1+1)];have m:HY p i j s=η->An (δ (Step.next (q.1+1,q.2)):Option (Step (Y×R EN) (R EN))) (MU (λ(q:Y×R EN)=>0<=q.1/\q.1<=θ l.2.1/\q.2=(l.2.1.take q.1.toNat).filter (HY p i j)) (λq=>((θ l.2.1:Y)-q.1).toNat) ((θ l.2.1:Y)-q.1).toNat λr=>r=l.2.1.filter (HY p i j)):=λw=>An.next ⟨d!,d!,by dsimp only;rw[k,w,q3];simp⟩ d!
 refine AA CT λn u=>?_;have e:hY s=n:=by grind[hY]
 refine AK (λa=>?_) (λa=>m (by unfold HY;rw[e,a];rfl));refine AO (λc=>?_) (λc=>m (by unfold HY;rw[beq_eq_false_iff_ne.2 c];simp));refine AC (λb=>?_) (λb=>m (by unfold HY;rw[F! b];simp));refine AA (P:=λr=>r=(l.2.1.take (q.1+1).toNat).filter (HY p i j)) ?_ λy d=>An.next ⟨d!,d!,d⟩ d!
 refine AC (λg=>?_) (λg=>AB ?_);grind[AA,AZ,AB,HY];grind[HY]
def AE5{a:R AQ}{m:Y}(h:θ a<=256):An (LC (a,m)) λ_=>M:=by refine AA (P:=λ_=>M) ?_ λr _=>BH (λu _=>AB trivial) (λu _=>AB trivial);refine CQ (λ(s:Y)=>0<=s/\s<=θ a) (λs=>((θ a:Y)-s).toNat) ⟨Ae _,o!⟩ (λs d=>?_);have⟨c,e⟩:=d;unfold Mq;dsimp[O];refine AC (λb=>?_) (λ_=>An.done trivial);rw[AY];refine AA (AI c b) λf _=>AC (λ_=>AA (AI c b) λg _=>AC (λ_=>An.done trivial) (λ_=>An.next o! o!)) (λ_=>An.next o! o!)
def AII{l:R EN}{e:EN}(h:θ l<=16777216):An (Im (l,e)) λ_=>M:=by refine AA (P:=λ_=>M) ?_ λr _=>BH (λu _=>AB trivial) (λu _=>AB trivial);refine CQ (λ(s:Y)=>0<=s/\s<=θ l) (λs=>((θ l:Y)-s).toNat) ⟨Ae _,o!⟩ (λs a=>?_);have⟨c,d⟩:=a;unfold Pu;dsimp[O];refine AC (λb=>?_) (λ_=>An.done trivial);rw[AY];exact AA (AI c b) λf _=>AK (λ_=>An.done trivial) (λ_=>An.next o! o!)
def AGZ{L A B:List EN}{m:List AQ}{l:Ac}(Q:Uq L)(v:Dh l)(N:∀y∈A,y∈L)(O:∀y∈B,y∈L)(q:θ m<=256)(K:θ A<=1048576)(M:θ B<=4096):An (MQ (m,l,A,B)) λr=>r.2=ζ->θ r.1<=1052672/\∀y,y∈r.1↔y∈A\/y∈B:=by
 refine AA (AZ w!) λz p=>?_;have h:=p.1;rw[B5]at h;dsimp only at h;subst z;refine AA (P:=λr=>(∃u,r=.inl u/\u.2=η)\/∃C,r=.inr C/\θ C<=θ A+θ B/\∀y,y∈C↔y∈A\/y∈B) ?_ λr hr=>?_
 ·refine CQ (λ(s:List EN×Y)=>0<=s.2/\s.2<=θ B/\θ s.1<=θ A+s.2/\∀y,y∈s.1↔y∈A\/y∈B.take s.2.toNat) (λs=>((θ B:Y)-s.2).toNat) ⟨Ae _,d!,d!,λy=>q!⟩ ?_;rintro⟨C,k⟩ ⟨c,i,w,j⟩;dsimp only at c i w j;unfold N4;dsimp[len];refine AC (λa=>?_) (λa=>An.done (.inr ⟨C,rfl,o!,λy=>by rw[j y,BM o!]⟩));refine AA (AI c a) λG o=>AA (AE5 q) λR _=>?_;rw[AY (x:=k+1)];have J:B.take (k+1).toNat=B.take k.toNat++[G]:=by rw[show(k+1).toNat=k.toNat+1 by omega,Ck,o.1];rfl
  have f:∀d,B[k.toNat]?=δ d/\d∈B->An (σ (Cf (C,d)) λH=>δ (Step.next (H.1,k+1)):Option (Step (List EN×Y) ((List EN×Bool)⊕List EN))) (MU (λ(s:List EN×Y)=>0<=s.2/\s.2<=θ B/\θ s.1<=θ A+s.2/\∀y,y∈s.1↔y∈A\/y∈B.take s.2.toNat) (λs=>((θ B:Y)-s.2).toNat) ((θ B:Y)-k).toNat λr=>(∃u,r=.inl u/\u.2=η)\/∃C,r=.inr C/\θ C<=θ A+θ B/\∀y,y∈C↔y∈A\/y∈B):=λd g=>by grind[Option.some.inj,AA,oY,List.mem_of_mem_take,An.next,List.mem_singleton]
  refine AC (λ_=>AA (AI c a) λS _=>AA (AII o!) λT _=>AP (λ_=>An.done (.inl ⟨_,rfl,rfl⟩)) (λ_=>AA (AI c a) λd g=>f d g)) (λ_=>AA (AI c a) λd g=>f d g)
 ·rcases hr with⟨u,rfl,b⟩|⟨C,rfl,I,n⟩;exact BF (AB λe=>by rw[b]at e;cases e)
  ·refine Ay (AA (P:=λr=>∀u,r=.inl u->u.2=η) ?_ λr hr=>BH (λu b=>AB λe=>by rw[hr u b]at e;cases e) (λu b=>AB λ_=>⟨d!,n⟩));refine CQ (λ(s:Y)=>0<=s/\s<=θ A) (λs=>((θ A:Y)-s).toNat) ⟨Ae _,o!⟩ (λs t=>?_);have⟨c,i⟩:=t;unfold N5;dsimp[len];refine AC (λa=>?_) (λ_=>An.done λu b=>by cases b);rw[AY];refine AA (AI c a) λD_ _=>?_;rw[yC v,AD];exact AC (λ_=>AA (AI c a) λE_ _=>AA (AII o!) λF _=>AP (λ_=>An.done λu b=>by cases b;rfl) (λ_=>An.next o! o!)) (λ_=>An.next o! o!)
def AIh{L:List EN}{a:AJ}{l:Ac}{p i j:Int}(hN:Ge L)(hA:AR L a)(t:O6 L l)(hj:j<=1099511627776):An (Ft (a,l,p,i,j)) λr=>r.2=0->r.1=L.filter (HY p i j):=by
 have G:=t.sorted;have hU:Uq L:=λx hx y E_ K=>Vl (by refine II.2 ((RF).2 (G.imp λh=>?_));omega) hx E_ K;refine AA AHj λv0 h0=>AL (λH=>AB λo=>O! o H) (λo=>?_);have⟨p0,p1,i0,ij⟩:=h0 o;refine AA (vX hA ⟨p0,p1⟩) λv1 h1=>?_;obtain⟨M,lo,hh,a0,rfl,ap,hM,z⟩:=h1;dsimp only at z;refine AA (ADG z t.vl i0 hj ij) λv2 h2=>AP (λ_=>AB n!) (λJ=>?_);have al:=h2.1 J;refine AA (AAt hU z) λv3 X_=>AA (zt t.vl) λv4 Y=>?_;have Z_:∀y∈v3,y∈L:=λy E_=>by have⟨q,q1,q2,_⟩:=(X_.2 y).1 E_;exact(((z.2 q q1).2.1.mem y).1 q2).1
 have ad:∀y∈v4,y∈L:=λy E_=>by rw[Y]at E_;exact((t.tail y).1 (BQ.1 E_).1).1
 have A:θ v4<=4096:=by rw[Y];exact Cl (EK _ _) t.vl.2.2.1
 refine AA (AGZ hU t.vl Z_ ad z.1 X_.1 A) λc h5=>AP (λ_=>AB n!) (λht=>?_);have⟨u1,u2⟩:=h5 ht;have w:∀y,y∈c.1↔y∈L.filter (HY p i j):=λy=>by rw[u2 y,X_.2 y,Y,BQ,BQ];constructor;rintro(⟨q,q1,q2,q3,q4,q5⟩|⟨q1,q2⟩);have:=((z.2 q q1).2.1.mem y).1 q2;refine⟨this.1,?_⟩;unfold HY;rw[this.2.1,beq_iff_eq.2 q3,G! (show y.1>i from q4),G! q5];rfl;exact⟨((t.tail y).1 q1).1,q2⟩;rintro⟨q1,q2⟩;have hw:=q2;unfold HY at hw;simp[Ba,K!,J!]at hw;have⟨w1,w2,w3,w4⟩:=hw;rcases al y.1 w3 w4 with⟨r,T,r2,r3⟩|⟨T,r2⟩;have⟨_,g2,g3,g4⟩:=z.2 r T;exact .inl ⟨r,T,(g2.mem y).2 ⟨q1,w1,o!,o!,r2,r3⟩,w2,w3,w4⟩;exact .inr ⟨(t.tail y).2 ⟨q1,T,r2⟩,q2⟩
 refine AA (P:=λr=>(∀u,r=.inl u->u.2=13)/\(r=.inr ()->∀(k:Nat)(e f:EN),c.1[k]?=δ e->c.1[k+1]?=δ f->f.2.2.2.2.1=e.1)) ?_ λr hr=>BH (λu B=>AB λo=>by rw[hr.1 u B]at o;cases o) (λu B=>AB λ_=>?_)
 ·refine CQ (λ(s:Int)=>0<=s/\s<=θ c.1/\∀(k:Nat)(e f:EN),(k:Int)+1<s->c.1[k]?=δ e->c.1[k+1]?=δ f->f.2.2.2.2.1=e.1) (λs=>((θ c.1:Int)-s).toNat) ⟨Ae _,o!,λk e f n=>o!⟩ (λs hI=>?_);have⟨s0,s1,s2⟩:=hI;unfold Qd;dsimp[len];have F:∀u:List EN×Int,u=([],13)->(∀v,(Sum.inl u:(List EN×Int)⊕Unit)=.inl v->v.2=13)/\((Sum.inl u:(List EN×Int)⊕Unit)=.inr ()->∀(k:Nat)(e f:EN),c.1[k]?=δ e->c.1[k+1]?=δ f->f.2.2.2.2.1=e.1):=λu B=>⟨λv hv=>by cases hv;rw[B],λh=>by cases h⟩
  refine AC (λH=>?_) (λH=>An.done ⟨λu B=>(by cases B),λ_ k e f n g=>s2 k e f (by have:=Cs g;omega) n g⟩);rw[AY (x:=s+1)];have Q:0<s->An (σ (ix c.1 s) λR=>σ (ix c.1 (wi (s-1))) λS=>bif (R.2.2.2.2.1 !=S.1)then δ (.done (.inl ([],13)))else δ (.next (s+1)):Option (Step Int ((List EN×Int)⊕Unit))) (MU (λ(s:Int)=>0<=s/\s<=θ c.1/\∀(k:Nat)(e f:EN),(k:Int)+1<s->c.1[k]?=δ e->c.1[k+1]?=δ f->f.2.2.2.2.1=e.1) (λs=>((θ c.1:Int)-s).toNat) ((θ c.1:Int)-s).toNat λr=>(∀u,r=.inl u->u.2=13)/\(r=.inr ()->∀(k:Nat)(e f:EN),c.1[k]?=δ e->c.1[k+1]?=δ f->f.2.2.2.2.1=e.1)):=λD_=>by
   rw[AY];refine AA (AI s0 H) λR V=>AA (AI) λS W=>AL (λ_=>An.done (F _ rfl)) (λK=>An.next ⟨o!,o!,λk e f n N g=>?_⟩ o!);by_cases ao:(k:Int)+1<s;exact s2 k e f ao N g;have ek:k+1=s.toNat:=o!
   have U:(s-1).toNat=k:=o!
   rw[ek,V.1]at g;have:=W.1;rw[U,N]at this;rw[<-BY g,BY this];exact K
  apply AO<;>intro hs
  ·refine AA (AI s0 H) λv7 g7=>AC (λ_=>An.done (F _ rfl)) (λ_=>AC (λD_=>O! D_ o!) (λ_=>An.next ⟨o!,o!,λk e f n=>o!⟩ o!))
  exact AC (λD_=>Q D_) (λD_=>O! D_ o!)
 subst B;dsimp only;have I:=hr.2 rfl;refine Uy ?_ (G.filter _) w;have O:∀e∈c.1,e.2.2.2.2.1<e.1:=λe K=>by have⟨k,n⟩:=Eg.1 (BQ.1 ((w e).1 K)).1;exact(hN k e n).2.2.2.2.2.2.1
 have step:∀(d k:Nat)(e f:EN),c.1[k]?=δ e->c.1[k+1+d]?=δ f->e.1<f.1:=by
  intro d;induction d with
  |zero=>intro k e f n C;have:=I k e f n C;have:=O f (BO C);omega
  |succ d ih=>intro k e f n C;have ax:=Cs C;have hg:c.1[k+1+d]?=δ (c.1[k+1+d]' o!):=Au o!;have a:=ih k e _ n hg;have b:=I (k+1+d) _ f hg C;have:=O f (BO C);omega
 rw[EL];intro k m n hm ar;obtain⟨d,rfl⟩:∃d,m=k+1+d:=⟨m-(k+1),o!⟩
 exact step d k _ _ (Au n) (Au hm)
def yz{x:AS}{a:R AE}(q:OKs x a)(d:θ a<=4096):NM (x,a)=δ (a.foldl upd x,0):=by
 suffices t:An (NM (x,a)) λr=>r=(a.foldl upd x,0) by obtain⟨r,hr,rfl⟩:=t;exact hr
 generalize v:a.foldl upd x=y;refine AA (P:=λr=>∃z,r=.inr (y,z)) ?_ λr hr=>?_
 ·refine CQ (λ(s:Y×AS×AS)=>∃A B,a=A++B/\s.1=θ A/\OKs s.2.1 B/\B.foldl upd s.2.1=y) (λ(s:Y×AS×AS)=>((θ a:Y)-s.1).toNat) ⟨[],a,rfl,rfl,q,v⟩ ?_;rintro⟨i,x,z⟩ ⟨A,B,rfl,g,h,c⟩;dsimp only at g h c;subst g;unfold Uv;dsimp[O];rw[Aa]at d;refine AC (λb=>?_) (λb=>An.done ?_)
  ·obtain _|⟨e,B⟩:=B;simp at b;have u:ix (A++e::B) (θ A:Y)=δ e:=by unfold ix;rw[C! o!,CR,Cn (Al _),G5];rfl
   have⟨⟨j,f,k,l,m,n⟩,o⟩:=h;have p:e.2.2.2.2.1<e.1:=f.2.2.2.2.2.1;rw[u,AD,F! o!,A!,AD,ABy j f k l m n,AD,AY (x:=(θ A:Y)+1)];refine AL (λb=>O! rfl b) (λ_=>An.next ⟨A++[e],B,q!,q!,o,c⟩ d!)
  obtain _|⟨e,B⟩:=B;exact⟨z,by rw[<-c];rfl⟩;simp at b;omega
 grind[Ay,AB]
def AEG{n}{L}{a}{l}{p:Y}{j k:U}(t:LI n L)(b:Ge L)(h:AR L a)(f:O6 L l)(e:j<=k)(v:k<=W L)(m:0<=p/\p<a.2.1)(d:p<64):An (H8 (st (L.take j) p,a,l,(k:Y))) λr=>r.2=0->r.1=st (L.take k) p:=by have i:=f.len;have w:=Ry b p j;have u:=W8 (b.take j) p;rw[BP]at u;refine AA O7 λx o=>AP (λc=>O! (o.2 h.vb) (by simp[c])) (λ_=>AA Bb λy q=>AP (λc=>O! (q.2 f.vl) (by simp[c])) (λ_=>?_));rw[Yk ((Xc b ⟨m.1,d⟩ (by omega:W L<=1099511627776)) j),AD];refine AL (O! rfl ·) (λ_=>?_);dsimp only;rw[Jg,Sf,F! o!,A!];refine AA (AIh b h f o!) λz s=>AL (λc=>AB λg=>O! g c) (λg=>?_);rw[s g,show BZ (L.take j) p=(((BZ (L.take j) p).toNat:U):Y) by omega,tU b o!,iC b (j:=j) o! (Uw b),yz (rO b t ⟨m.1,d⟩ o! j k e) (by have:=EK (aR p) ((L.take k).drop j);rw[C5,BP]at this;omega),<-af e,AD];exact AB λ_=>rfl
def AHt{A t:Bd}{b:UInt8}:six (A++b::t) (W A:Y)=Z (b.toNat:Y):=by grind[six]
def AHg{x}(h:Hh x):An (Ai (Gz (IL x)) (0,(x.1,x.2.1,GK.all (X,[])),0,0,GK.all (X,[]))) λr=>∃z,r=.inr (x,z):=by
 have y:=eD h;refine CQ (λs=>0<=s.1/\s.1<=16/\s.2.1.1=x.1/\s.2.1.2.1=x.2.1/\∀j:Fin 16,s.2.1.2.2 j=if(j.val:Y)<s.1 then x.2.2 j else(X,[])) (λs=>(16-s.1).toNat) ⟨Ae _,u!,rfl,rfl,λj=>by rw[D! d!];rfl⟩ ?_;rintro⟨i,⟨p,n,a⟩,z⟩ ⟨l,J,C,hn,g⟩;dsimp only at l J C hn g;subst C hn;unfold Gz;dsimp only;refine AC (λk=>?_) (λk=>k? ⟨z,?_⟩)
 ·rw[AY (x:=i*13),AY (x:=12+i*13),AY (x:=12+i*13+1),AY (x:=i+1)];have⟨N,D_⟩:=nO (a:=x.2.2) (i:=i.toNat) o!;have⟨A,r,t,M⟩:=wb h (i:=i.toNat) o!;have b:=h.cl i.toNat
  generalize G:cl x.2.2 i.toNat=c at*;have B:W A+(13+W r)=256:=by have:=y;rw[t,Aa,Aa,dz b.1]at this;exact this
  have f:six (IL x) (12+i*13)=Z (if c.1=E then(W c.2:Y)else 255):=by have q:=b.1;have e:XM c=UInt8.ofNat ((if c.1=E then(W c.2:Y)else 255)%256).toNat::(c.2++kE (12-W c.2)):=rfl;rw[t,show(12+i*13:Y)=(W A:Y) by omega,e,EW,AHt,fu];apply E! Z;split<;>omega
  rw[f,AD];have E_:∀m:GK 16 Cj,(∀j:Fin 16,m j=if(j.val:Y)<i+1 then x.2.2 j else(X,[]))->An (Z (Step.next (i+1,(x.1,x.2.1,m),z)):V (Step (Y×AS×AS) ((Y×AS)⊕(AS×AS)))) (MU (λs=>0<=s.1/\s.1<=16/\s.2.1.1=x.1/\s.2.1.2.1=x.2.1/\∀j:Fin 16,s.2.1.2.2 j=if(j.val:Y)<s.1 then x.2.2 j else(X,[])) (λs=>(16-s.1).toNat) (16-i).toNat λr=>∃z,r=.inr (x,z)):=λm o=>y! ⟨d!,d!,rfl,rfl,o⟩ d!
  by_cases d:c.1=E;have q:=b.1;rw[C! d,AY (x:=(W c.2:Y)),beq_eq_false_iff_ne.2 o!,A!,F! o!,A!,AY];have⟨s,I,u⟩:=CW (s:=IL x) (lo:=12+i*13+1) (hi:=12+i*13+1+(W c.2:Y)) o! o! (by rw[y];omega);have w:s=c.2:=by
   rw[u.1,t];have K:(12+i*13+1).toNat=W A+1:=o!
   have L:(12+i*13+1+(W c.2:Y)).toNat-(12+i*13+1).toNat=W c.2:=o!
   grind[List.drop_drop,List.drop_left,XM,t?,List.drop_left',Az,List.take_left]
  rw[I,w,AD];have⟨v,F,_⟩:=De (a:=a) l k;rw[F,AD,AD];exact E_ _ (AB8 g ⟨l,k⟩ λH=>D_.symm.trans (Da d rfl));rw[D! d,AY,beq_iff_eq.2 rfl,B!];exact E_ _ (zG g ⟨l,k⟩ λH=>D_.symm.trans (Da (by simpa using d) (b.2.resolve_left d)))
 refine E! Sum.inr (Da (Da rfl (Da rfl (funext λj=>?_))) rfl);exact(g j).trans (C! o!)
def yb{a t:Bd}{n k:Y}(h:(W a:Y)+W t<=2199023255552)(b:1<=k)(d:k<=8)(e:k<=W t)(g:t.take (ο k)=C4 n (ο k))(hn:0<=n)(f:n<256^ο k)(c:n<9223372036854775808):A2 (a++t,(W a:Y),k)=Z (n,0):=by grind[kH,ABf]
theorem ADi{x}(h:Hh x)(hn:x.2.1≠0):Em (IL x)=Z (x,0):=by
 have b:=eD h;have p:=h.2.1;have q:=h.2.2.2.1;unfold Em;have⟨o,q1,e⟩:=CW (s:=IL x) (lo:=0) (hi:=8) g! g! (by rw[b];decide);have⟨l,q2,f⟩:=CW (s:=IL x) (lo:=248) (hi:=256) g! g! (by rw[b];decide);have⟨m,q3,g⟩:=CW (s:=IL x) (lo:=0) (hi:=244) g! g! (by rw[b];decide);have i:l=C4 x.2.1 8:=by rw[f.1];show List.take 8 (List.drop 248 (IL x))=_;rw[pF h,BM (by rw[Az];exact Al _)]
 have j:m=LQ x:=g.1.trans (by show List.take 244 (IL x)=_;unfold IL;exact Fi (HF h));have c:=aS (LQ x);have q4:A2 (IL x,244,4)=Z (QA (LQ x),0):=by have:=yb (a:=LQ x) (t:=C4 (QA (LQ x)) 4++C4 x.2.1 8) (n:=QA (LQ x)) (k:=4) (by simp only[Aa,Az,HF h];decide) g! g! (by simp only[Aa,Az];decide) (Fi (Az _ _)) o! (by simp[Int.reduceToNat];omega) o!;rw[HF h]at this;exact this
 have q5:A2 (IL x,8,4)=Z (x.1,0):=by have:=yb (a:=C4 x.2.1 8) (t:=C4 x.1 4++(PY x.2.2 16++(kE 24++(C4 (QA (LQ x)) 4++C4 x.2.1 8)))) (n:=x.1) (k:=4) (by simp only[Aa,Az,JZ h,kE,Hi];omega) g! g! (by simp[Aa,Az];omega) (by exact Fi (Az _ _)) h.1 (by simp[Int.reduceToNat];omega) o!;grind[Az,IL,LQ,t?]
 have q6:A2 (IL x,0,8)=Z (x.2.1,0):=yb (a:=[]) (t:=IL x) (n:=x.2.1) (k:=8) (by rw[b];decide) g! g! (by rw[b];decide) VN h.2.2.1 (by simp[Int.reduceToNat];omega) o!;obtain⟨v,d,z,rfl⟩:=AHg h;rw[(by simp[O];omega:O (IL x)=256),H!,A!,tJ,AD,beq_eq_false_iff_ne.2 (ACO h hn),A!,q1,AD,q2,AD,e.1.trans VN,i,H!,A!,q4,AD,q3,AD,j,xc (by rw[HF h];decide),AD,show ι .u32 (QA (LQ x))=QA (LQ x) by rw[xT];omega,H!,A!,q6,AD,q5,AD,d,AD,nt,Yk h,AD,H!,H!];rfl
theorem AFh{x}(h:Hh x)(a:x.2.1=0->x=(x.1,0,GK.all (X,[]))):Co (eC x,x.1)=Z (x,0):=by have b:=h.1;have c:=h.2.1;unfold Co eC;dsimp only;rw[F! o!,A!,F! o!,A!];by_cases hn:x.2.1=0;rw[C! hn];rw[(by grind[Em,kE,List.length_replicate,tJ,p?]:Em (kE 256)=Z ((0,0,GK.all (X,[])),7)),AD];exact E! (λq=>Z (q,(0:Y))) (a hn).symm;grind[ADi,p?]
def rX{L}(h:Ge L)(a:W L<=1099511627776){p:Y}(b:0<=p/\p<64){k}:Co (eC (st (L.take k) p),p)=Z (st (L.take k) p,0):=by grind[AFh,Xc,ACo,Sf]
def AKp{A p R:Bd}(h:(W A:Y)+W p+W R<=1099511627776)(a:W p<=8392):Bk (A++(HZ p++R),(W A:Y))=Z (p,(W A:Y)+8+W p,0):=by grind[To,n?,EQ,kJ]
theorem lX(L:S EN)(n:U):O (img L n)=n:=by grind[I4]
theorem pw{L:R EN}(h:Ge L)(j:θ L<=1099511627776){s:Y}{n k:U}(c:1<=s/\s<=1073741824)(hn:1<=n/\n<=64):ET (s,(n:Y),img (L.take k) n)=δ ζ:=by
 suffices c:An (ET (s,(n:Y),img (L.take k) n)) λr=>r=ζ by obtain⟨r,hr,rfl⟩:=c;exact hr
 unfold ET;dsimp only;rw[F! o!,A!,F! o!,A!,F! o!,A!,F! o!,A!];refine AA (P:=λr=>r=.inr ()) ?_ λr hr=>by rw[hr];exact Ay (AB rfl)
 refine CQ (λ(s:Y)=>0<=s/\s<=n) (λs=>((n:Y)-s).toNat) ⟨Ae _,o!⟩ (λi g=>?_);have⟨d,m⟩:=g;unfold TX;dsimp only;rw[lX];refine AC (λa=>?_) (λ_=>An.done rfl);have e:An (δ (Step.next (wi (i+1))):Option (Step Y (N⊕Unit))) (MU (λ(s:Y)=>0<=s/\s<=n) (λs=>((n:Y)-s).toNat) ((n:Y)-i).toNat λr=>r=.inr ()):=by grind[AY,An.next]
 have f:(Xf (st (L.take k) i)).1=i:=Sf _ _;rw[cR d a,AD,f,F! o!,A!,F! o!,A!];have b:Co ((Xf (st (L.take k) i)).2.2,i)=δ (st (L.take k) i,0):=rX h j ⟨d,o!⟩;refine AC (λl=>?_) (λ_=>?_);rw[AY,cR o! o!,AD,show(Xf (st (L.take k) (i-1))).1=i-1 from Sf _ _,F! o!,A!,b,AD];exact AL (λa=>O! rfl a) (λ_=>AL (λa=>O! rfl a) (λ_=>e));rw[b,AD];exact AL (λa=>O! rfl a) (λ_=>AL (λa=>O! rfl a) (λ_=>e))
def ACr{L:R EN}(h:Ge L)(a:L.length<=1099511627776){s:Y}{n k:U}(b:1<=s/\s<=1073741824)(hn:1<=n/\n<=64):JJ (s,((n:Y),img (L.take k) n))=some true:=by grind[JJ,pw,lX]
def AEw{L}(h:Ge L)(d:W L<=1099511627776){s i:Y}{n k:U}(e:1<=s/\s<=1073741824)(hn:1<=n/\n<=64)(c:0<=i/\i<n):H7 ((c! s n L k),i)=Z (Xf (st (L.take k) i),E):=by
 suffices a:An (H7 ((c! s n L k),i)) λr=>r=(Xf (st (L.take k) i),E) by obtain⟨r,hr,rfl⟩:=a;exact hr
 refine AA (P:=λr=>r=.inl (E,Xf (st (L.take k) i))) ?_ λr hr=>by rw[hr];exact BF (AB rfl)
 refine CQ (λt=>0<=t.1/\t.1<=i) (λt=>(i-t.1).toNat) ⟨Ae _,c.1⟩ ?_;rintro⟨t,z⟩ ⟨b,f⟩;dsimp only at b f;unfold Ut;dsimp only;rw[lX,G! o!,B!,pw h d e hn,AD,B!,cR b o!,AD,show(Xf (st (L.take k) t)).1=t from Sf _ _];grind[AO,p?,k?,AY,y!]
def AFa{L}(h:Ge L)(a:W L<=1099511627776){s i:Y}{n k:U}(c:1<=s/\s<=1073741824)(hn:1<=n/\n<=64)(b:0<=i/\i<n):J5 ((c! s n L k),i)=Z (st (L.take k) i,0):=by unfold J5;dsimp only;rw[pw h a c hn,AD,Bn,A!,AEw h a c hn b,AD];dsimp only;rw[Bn,A!,show Co ((Xf (st (L.take k) i)).2.2,i)=Z (st (L.take k) i,0)from rX h a ⟨b.1,o!⟩];rfl
def AED{n:Y}{L:List EN}{a:AJ}{l:Ac}{w s:Y}{m j k:Nat}(H:LI n L)(e:Ge L)(y:AR L a)(q:O6 L l)(f:j<=k)(I:k<=θ L)(R:(m:Y)=a.2.1)(hn:1<=m/\m<=64)(x:1<=w/\w<=1073741824):An (NK ((w,(m:Y),img (L.take j) m),a,l,s,(k:Y))) λr=>r.2=0->1<=s/\s<=1073741824/\r.1=(s,(m:Y),img (L.take k) m):=by
 have A:=q.len;have J:=λp h=>Xc e (p:=p) h (by omega:θ L<=1099511627776);unfold NK;rw[ACr e o! x hn,AD,Bn,A!];refine AA O7 λS o=>AP (λd=>O! (o.2 y.vb) (by simp[d])) (λ_=>AA Bb λT D_=>AP (λd=>O! (D_.2 q.vl) (by simp[d])) (λ_=>?_));dsimp only;refine AC (λ_=>AB n!) (λM=>AC (λ_=>AB n!) (λN=>AC (λ_=>AB n!) (λO=>AC (λ_=>AB n!) (λQ=>AA (P:=λr=>(∀u,r=.inl u->u.1≠0)/\∀u,r=.inr u->(u.1,u.2.1,u.2.2.1)=(img (L.take k) m,s,(m:Y))) ?_ λr hr=>BH (λu b=>AB λc=>O! c (hr.1 u b)) (λu b=>AB λ_=>⟨o!,o!,?_⟩)))))
 ·refine CQ (λ(t:Y×List Cy×Y×Y×Aq)=>0<=t.1/\t.1<=m/\∃z,t.2=(img (L.take k) t.1.toNat,s,(m:Y),z)) (λt=>((m:Y)-t.1).toNat) ⟨Ae _,d!,_,rfl⟩ ?_;rintro⟨i,t⟩ ⟨g,K,z,B⟩;dsimp only at g K B;subst B;unfold Uu;dsimp only;rw[lX];refine AC (λd=>?_) (λd=>An.done ⟨λu b=>(by cases b),λu b=>(by cases b;rw[show i.toNat=m by omega])⟩);have C:(Xf (st (L.take j) i)).1=i:=Sf _ _;rw[cR g d,AD,C,AFa e o! x hn ⟨g,d⟩,AD];refine AA (AEG H e y q f I ⟨g,o!⟩ o!) λU E_=>AL (λd=>An.done ⟨λu b=>(by cases b;exact d),λu b=>(by cases b)⟩) (λc=>?_);rw[E_ c];refine AA (P:=λv=>v=Xf (st (L.take k) i)) ?_ λV F=>AA (AZ (by rw[I4];simp;omega)) λW G=>?_;refine AC (λh=>?_) (λh=>AB ?_);grind[Yk,AB,Xf,eC];rw[Jg]at h;have q1:=Rx e i j k f;have q2:=Ry e i j;grind[ml]
  ·rw[AY];refine An.next ⟨d!,d!,z,?_⟩ d!
   dsimp only;rw[G.1,F,show(i+1).toNat=i.toNat+1 by omega,zj,JW g]
 have:=hr.2 u b;dsimp only;have q1:=E! (·.1) this;have q2:=E! (·.2.1) this;have q3:=E! (·.2.2) this;dsimp only at q1 q2 q3;rw[q1,q2,q3]
def py(c:Cy):Bd:=C4 c.1 2++c.2.2
def tD(cs:S Cy):Bd:=cs.flatMap λc=>HZ (py c)
def nR(x:Aq):Bd:=[80,77,73,77]++(C4 x.1 4++(C4 x.2.1 2++C4 (W x.2.2:Y) 2))
def encI(x:Aq):Bd:=HZ (nR x)++tD x.2.2
def tN(x:Aq):(nR x).length=12:=by grind[nR,n?,Az,List.length_cons,List.length_nil]
theorem pC{x}(h:Hh x):(eC x).length=256:=by grind[eC,kE,List.length_replicate,eD]
def xr{L}(h:Ge L)(b:W L<=1099511627776){k n:U}(hn:n<=64){c:Cy}(a:c∈img (L.take k) n):(py c).length=258:=by grind[List.mem_iff_getElem?,Cs,I4,rC,Option.some.inj,py,Xf,n?,Az,pC,Xc]
theorem iI{a:S Cy}(h:∀c∈a,(py c).length=258):(tD a).length=266*W a:=by induction a<;>grind[tD,HZ,py,n?,EQ,List.length_cons]
def AAi{L:R EN}(h:Ge L)(m:L.length<=1099511627776){s:Y}{n k:U}(y:1<=s/\s<=1073741824)(hn:1<=n/\n<=64):Ic (s,((n:Y),img (L.take k) n))=some (encI (s,((n:Y),img (L.take k) n)),0):=by
 suffices o:An (Ic (s,((n:Y),img (L.take k) n))) λr=>r=(encI (s,((n:Y),img (L.take k) n)),0) by obtain⟨r,hr,rfl⟩:=o;exact hr
 have j: ∀c∈img (L.take k) n,(py c).length=258:=λc d=>xr h m hn.2 d;unfold Ic;rw[pw h m y hn,AD,Bn,cond_false];refine AA (od q! g!) λE_ q=>AA (od (by rw[q];simp[Az]) g!) λF w=>AA (od (by rw[w,q];simp[Az]) g!) λB D_=>?_;rw[(by grind[nR,List.append_assoc,Int.reduceToNat]:B=nR (s,((n:Y),img (L.take k) n))),cj (by rw[tN];decide),AD];refine AA (P:=λr=>r=encI (s,((n:Y),img (L.take k) n))) ?_ λr hr=>AB (by rw[hr]);refine CQ (λ(t:Bd×Y)=>0<=t.2/\t.2<=n/\t.1=HZ (nR (s,((n:Y),img (L.take k) n)))++tD ((img (L.take k) n).take t.2.toNat)) (λt=>((n:Y)-t.2).toNat) ⟨Ae _,d!,by simp[tD]⟩ ?_;rintro⟨t,i⟩ ⟨e,z,u⟩;dsimp only at e z u;subst u;unfold Sa;dsimp only;rw[lX];refine AC (λd=>?_) (λd=>An.done (by rw[BM (l:=img (L.take k) n) (by rw[I4];omega)];rfl));have a:=rC (L:=L.take k) (n:=n) (i:=i.toNat) o!;rw[JW e]at a;rw[cR e d,AD,AD,AY];have x:(tD ((img (L.take k) n).take i.toNat)).length<=17024:=by grind[iI,List.mem_of_mem_take,List.length_take,I4]
 have b:=j _ (BO a);have g:(Xf (st (L.take k) i)).2.2.length=256:=pC (Xc h ⟨e,o!⟩ m k);refine AA (od q! g!) λG p=>AA (CN (by rw[p,B5,Az,g];decide)) λC v=>?_;rw[(by rw[v.1,p];rfl:C=py (Xf (st (L.take k) i))),cj (by rw[b];decide),AD];refine AA (CN (by rw[Aa,EQ,EQ,tN,b];omega)) λA f=>An.next ⟨d!,d!,?_⟩ d!
 dsimp only;rw[f.1,show(i+1).toNat=i.toNat+1 by omega,Ck,a,A3];grind[tD,Option.toList_some]
def ACd{a t:Bd}{n k:Y}(h:(W a:Y)+W t<=2199023255552)(b:1<=k)(d:k<=8)(e:k<=W t)(g:t.take (ο k)=C4 n (ο k))(hn:0<=n)(f:n<256^ο k)(c:n<9223372036854775808):Bg (a++t,(W a:Y),k)=Z n:=by unfold Bg;rw[yb h b d e g hn f c];rfl
theorem AAh{L:List EN}(h:Ge L)(B:θ L<=1099511627776){s:Int}{n k:Nat}(N:1<=s/\s<=1073741824)(hn:1<=n/\n<=64):Fu (encI (s,(n:Int),img (L.take k) n))=δ ((s,(n:Int),img (L.take k) n),0):=by
 suffices E_:An (Fu (encI (s,(n:Int),img (L.take k) n))) λr=>r=((s,(n:Int),img (L.take k) n),0) by obtain⟨r,hr,rfl⟩:=E_;exact hr
 have f:∀c∈img (L.take k) n,(py c).length=258:=λc m=>xr h B hn.2 m;have u:(tD (img (L.take k) n)).length=266*n:=by rw[iI f,I4]
 have b:=tN (s,(n:Int),img (L.take k) n);have D_:(encI (s,(n:Int),img (L.take k) n)).length=20+266*n:=by unfold encI;rw[Aa,EQ,b,u]
 have Y:Bk (encI (s,(n:Int),img (L.take k) n),0)=δ (nR (s,(n:Int),img (L.take k) n),20,0):=by have:=AKp (A:=[]) (p:=nR (s,(n:Int),img (L.take k) n)) (R:=tD (img (L.take k) n)) (by rw[b,u,Bi];omega) (by rw[b];decide);rw[b]at this;exact this
 unfold Fu;rw[Y,AD];dsimp only;have y:nR (s,(n:Int),img (L.take k) n)=[80,77,73,77]++(C4 s 4++(C4 (n:Int) 2++C4 (n:Int) 2)):=by unfold nR;dsimp only;rw[I4]
 have S:Bg (nR (s,(n:Int),img (L.take k) n),4,4)=δ s:=by rw[y];exact ACd (a:=[80,77,73,77]) (t:=C4 s 4++(C4 (n:Int) 2++C4 (n:Int) 2)) (n:=s) (k:=4) (by simp only[Aa,Az];decide) g! g! (by simp only[Aa,Az];decide) (Fi (Az _ _)) o! (by simp[Int.reduceToNat];omega) o!
 have T:Bg (nR (s,(n:Int),img (L.take k) n),8,2)=δ (n:Int):=by rw[y,<-A3];exact ACd (a:=[80,77,73,77]++C4 s 4) (t:=C4 (n:Int) 2++C4 (n:Int) 2) (n:=n) (k:=2) (by simp only[Aa,Az];decide) g! g! (by simp only[Aa,Az];decide) (Fi (Az _ _)) o! (by simp[Int.reduceToNat];omega) o!
 have U:Bg (nR (s,(n:Int),img (L.take k) n),10,2)=δ (n:Int):=by rw[y,<-A3,<-A3];exact ACd (a:=[80,77,73,77]++C4 s 4++C4 (n:Int) 2) (t:=C4 (n:Int) 2) (n:=n) (k:=2) (by simp only[Aa,Az];decide) g! g! (by simp only[Az];decide) (BM (by rw[Az];decide)) o! (by simp[Int.reduceToNat];omega) o!
 obtain⟨Z_,q1,W⟩:=CW (s:=nR (s,(n:Int),img (L.take k) n)) (lo:=0) (hi:=4) g! g! (by rw[b];decide);have X_:Z_=[80,77,73,77]:=W.1.trans (by rw[y];rfl);rw[H!,A!,show(len (nR (s,(n:Int),img (L.take k) n)) !=12)=η by unfold len;rw[b];rfl,A!,q1,Option.bind_some,X_,H!,A!,S,Option.bind_some,T,Option.bind_some,U,Option.bind_some,F! o!,A!];refine AA (P:=λr=>∃z,r=.inr (20+266*(n:Int),img (L.take k) n,s,(n:Int),z)) ?_ λr hr=>?_
 ·refine CQ (λ(t:Int×Int×List Cy×Int×Int×Aq)=>0<=t.2.1/\t.2.1<=n/\t.1=20+266*t.2.1/\∃z,t.2.2=((img (L.take k) n).take t.2.1.toNat,s,(n:Int),z)) (λt=>((n:Int)-t.2.1).toNat) ⟨Ae _,d!,d!,_,rfl⟩ ?_;rintro⟨I,i,t⟩ ⟨x,Q,j,z,G⟩;dsimp only at x Q j G;subst G j;unfold SZ;dsimp only;refine AC (λm=>?_) (λm=>An.done ⟨z,by rw[show i=n by omega,BM (l:=img (L.take k) n) (by rw[I4];omega)]⟩);have d:=rC (L:=L.take k) (n:=n) (i:=i.toNat) o!;rw[JW x]at d;have e:=f _ (BO d);have g:img (L.take k) n=(img (L.take k) n).take i.toNat++(Xf (st (L.take k) i)::(img (L.take k) n).drop (i.toNat+1)):=by
   have v:=Cs d;conv=>lhs;rw[<-DG i.toNat (img (L.take k) n),OQ v]
   rw[Au v]at d;rw[BY d]
  have H:(HZ (nR (s,(n:Int),img (L.take k) n))++tD ((img (L.take k) n).take i.toNat)).length=20+266*i.toNat:=by rw[Aa,EQ,b,iI λc m=>f c (F9 m),BP,I4];omega
  have lr:(tD ((img (L.take k) n).drop (i.toNat+1))).length<=17024:=by rw[iI λc m=>f c (Q8 m),C5,I4];omega
  have M:encI (s,(n:Int),img (L.take k) n)=(HZ (nR (s,(n:Int),img (L.take k) n))++tD ((img (L.take k) n).take i.toNat))++(HZ (py (Xf (st (L.take k) i)))++tD ((img (L.take k) n).drop (i.toNat+1))):=by
   conv=>lhs;unfold encI;dsimp only;arg 2;rw[g]
   unfold tD;rw[We,Ii,A3]
  have O:Bk (encI (s,(n:Int),img (L.take k) n),20+266*i)=δ (py (Xf (st (L.take k) i)),20+266*(i+1),0):=by have:=AKp (A:=HZ (nR (s,(n:Int),img (L.take k) n))++tD ((img (L.take k) n).take i.toNat)) (p:=py (Xf (st (L.take k) i))) (R:=tD ((img (L.take k) n).drop (i.toNat+1))) (by rw[H,e];omega) (by rw[e];decide);rw[<-M,H,e]at this;rw[show(20+266*i:Int)=((20+266*i.toNat:Nat):Int) by omega,this];refine E! (λw=>δ (py (Xf (st (L.take k) i)),w,(0:Int))) ?_;omega
  have q:(eC (st (L.take k) i)).length=256:=pC (Xc h ⟨x,o!⟩ B k);have F:py (Xf (st (L.take k) i))=C4 i 2++eC (st (L.take k) i):=by unfold py Xf;rw[Sf]
  have V:Bg (py (Xf (st (L.take k) i)),0,2)=δ i:=by rw[F];exact ACd (a:=[]) (t:=C4 i 2++eC (st (L.take k) i)) (n:=i) (k:=2) (by rw[Aa,Az,q];decide) g! g! (by rw[Aa,Az,q];decide) (Fi (Az _ _)) x (by simp[Int.reduceToNat];omega) o!
  obtain⟨w1,J,K⟩:=CW (s:=py (Xf (st (L.take k) i))) (lo:=2) (hi:=258) g! g! (by rw[e];decide);have w2:w1=eC (st (L.take k) i):=by rw[K.1,F];show List.take 256 (List.drop 2 (C4 i 2++eC (st (L.take k) i)))=_;rw[mK (Az _ _),BM o!]
  have o:len (py (Xf (st (L.take k) i)))=258:=by unfold len;rw[e];rfl
  rw[O,AD];dsimp only;rw[H!,A!,o,H!,A!,J,AD,V,AD,w2,rX h B ⟨x,o!⟩,AD];refine AA (AZ (by rw[BP,I4];simp;omega)) λad C=>?_;rw[AY];refine An.next ⟨d!,d!,rfl,z,?_⟩ d!
  dsimp only;rw[C.1,show(i+1).toNat=i.toNat+1 by omega,Ck,d];unfold Xf;rw[Sf];rfl
 obtain⟨z,rfl⟩:=hr;apply Ay;dsimp only;rw[show((20+266*(n:Int)) !=len (encI (s,(n:Int),img (L.take k) n)))=η by unfold len;rw[D_];simp,A!,pw h B N hn,Option.bind_some,Bool.not_true,A!];exact AB rfl
def PI(L:R EN)(d:Y)(m:U)(x:Aq):Prop:=∃j:U,(j:Y)<=d/\1<=x.1/\x.1<=1073741824/\x=(x.1,(m:Y),img (L.take j) m)
def FI(L:S EN)(d:Y)(m:U)(f:Am):Prop:=∃x,PI L d m x/\f.2.2=encI x
def AD5{L:R EN}(h:Ge L)(c:θ L<=1099511627776){d:Y}{m:U}(hn:1<=m/\m<=64){x:Aq}(a:PI L d m x):An (Kn x) λf=>FI L d m f:=by have⟨j,i,e,g,b⟩:=id a;have:=AAi h c (k:=j) ⟨e,g⟩ hn;rw[<-b]at this;unfold Kn;rw[this,AD];exact AB ⟨x,a,rfl⟩
def AEB{n:Int}{L:List EN}{b:AT}{a:AJ}{l:Ac}{m:Nat}(O:CX b)(N:LI n L)(o:Ge L)(M:AR L a)(z:O6 L l)(w:0<=l.2.2/\l.2.2<=L.length)(Q:(m:Int)=a.2.1)(hn:1<=m/\m<=64):An (Ly b ((m:Int),(a,l))) λr=>CX r.2/\r.1.length<=8/\ ∀f∈r.1,FI L l.2.2 m f:=by
 have A:=z.len;have V:PI L l.2.2 m (1,((m:Int),img [] m)):=⟨0,w.1,d!,d!,rfl⟩
 unfold Ly;rw[AFJ hn.2,AD];refine AA (Ah O g!) λv1 H=>?_;have⟨E_,_,_⟩:=H;refine AA (P:=λh=>h.length<=1/\ ∀f∈h,FI L l.2.2 m f) ?_ λv3 v=>?_;refine AC (λ_=>AA (AD5 o o! hn V) λf hf=>AB ⟨q!,λg y=>?_⟩) (λ_=>AB ⟨q!,λg y=>by simp at y⟩);grind[List.mem_singleton]
 ·refine AA (P:=λr=>CX r.2.1/\r.1.length<=8/\ ∀f∈r.1,FI L l.2.2 m f) ?_ λr hr=>AB hr;refine CQ (λ(s:Int×Int×List Am×AT×Aq)=>0<=s.1/\s.1<=l.2.2/\2<=s.2.1/\s.2.1<=4/\s.2.2.1.length<=s.2.1/\(∀f∈s.2.2.1,FI L l.2.2 m f)/\CX s.2.2.2.1/\1<=s.2.2.2.2.1/\s.2.2.2.2.1<=1073741824/\s.2.2.2.2=(s.2.2.2.2.1,((m:Int),img (L.take s.1.toNat) m))) (λs=>(4-s.2.1).toNat) ⟨Ae _,w.1,d!,d!,by have:=v.1;dsimp only;omega,v.2,E_,d!,d!,rfl⟩ ?_;rintro⟨t,i,h,c,x⟩ ⟨W,X_,T,U,G,e,u,B,C,D_⟩;dsimp only at W X_ T U G e u B C D_;unfold TD;dsimp only;refine AA (Ah u g!) λY I=>?_;have⟨q,m5,n5⟩:=I;rw[AY (x:=2+Y.1)];refine AC (λhc=>?_) (λ_=>An.done ⟨q,d!,e⟩);rw[AY (x:=l.2.2-t),AY (x:=l.2.2-t+1)];refine AA (Ah q o!) λd J=>?_;have⟨F,m6,n6⟩:=J;rw[AY (x:=t+d.1),D_];rw[(by omega:t+d.1=(((t+d.1).toNat:Nat):Int))];refine AA (AED (s:=i) N o M z (j:=t.toNat) (k:=(t+d.1).toNat) o! o! Q hn ⟨B,C⟩) λZ_ K=>AL (λ_=>An.done ⟨F,d!,e⟩) (λS=>?_);have⟨y1,y2,p⟩:=K S;have R:PI L l.2.2 m Z_.1:=⟨(t+d.1).toNat,o!,by rw[p];exact y1,by rw[p];exact y2,by rw[p]⟩
  refine AA (AD5 o o! hn R) λv8 h8=>AA (AZ w!) λv9 h9=>?_;rw[AY (x:=i+1)];grind[An.next,List.length_singleton,Int.toNat_natCast,List.mem_singleton]
def yV{a t:Bd}{n k:Y}(h:(W a:Y)+W t<=2199023255552)(b:1<=k)(d:k<=8)(e:k<=W t)(g:t.take (ο k)=C4 n (ο k))(hn:0<=n)(f:n<256^ο k)(c:n<9223372036854775808):B0 (a++t,(W a:Y),k)=Z (n,0):=by grind[YV,ABf]
def AIR{A p R:Bd}(h:(W A:Y)+W p+W R<=1099511627776)(a:W p<=8392):Dq (A++(HZ p++R),(W A:Y))=Z (p,(W A:Y)+8+W p,0):=by grind[XY,n?,EQ,kJ]
theorem AAE{L:List EN}(h:Ge L)(E_:θ L<=1099511627776){s:Int}{n k:Nat}(T:1<=s/\s<=1073741824)(hn:1<=n/\n<=64):IR (encI (s,(n:Int),img (L.take k) n))=δ ((s,(n:Int),img (L.take k) n),0):=by
 suffices H:An (IR (encI (s,(n:Int),img (L.take k) n))) λr=>r=((s,(n:Int),img (L.take k) n),0) by obtain⟨r,hr,rfl⟩:=H;exact hr
 have g:∀c∈img (L.take k) n,(py c).length=258:=λc u=>xr h E_ hn.2 u;have y:(tD (img (L.take k) n)).length=266*n:=by rw[iI g,I4]
 have b:=tN (s,(n:Int),img (L.take k) n);have G:(encI (s,(n:Int),img (L.take k) n)).length=20+266*n:=by unfold encI;rw[Aa,EQ,b,y]
 have u0:Dq (encI (s,(n:Int),img (L.take k) n),0)=δ (nR (s,(n:Int),img (L.take k) n),20,0):=by have:=AIR (A:=[]) (p:=nR (s,(n:Int),img (L.take k) n)) (R:=tD (img (L.take k) n)) (by rw[b,y,Bi];omega) (by rw[b];decide);rw[b]at this;exact this
 unfold IR;rw[u0,AD];dsimp only;have D_:nR (s,(n:Int),img (L.take k) n)=[80,77,73,77]++(C4 s 4++(C4 (n:Int) 2++C4 (n:Int) 2)):=by unfold nR;dsimp only;rw[I4]
 have W:B0 (nR (s,(n:Int),img (L.take k) n),4,4)=δ (s,0):=by rw[D_];exact yV (a:=[80,77,73,77]) (t:=C4 s 4++(C4 (n:Int) 2++C4 (n:Int) 2)) (n:=s) (k:=4) (by simp only[Aa,Az];decide) g! g! (by simp only[Aa,Az];decide) (Fi (Az _ _)) o! (by simp[Int.reduceToNat];omega) o!
 have X_:B0 (nR (s,(n:Int),img (L.take k) n),8,2)=δ ((n:Int),0):=by rw[D_,<-A3];exact yV (a:=[80,77,73,77]++C4 s 4) (t:=C4 (n:Int) 2++C4 (n:Int) 2) (n:=n) (k:=2) (by simp only[Aa,Az];decide) g! g! (by simp only[Aa,Az];decide) (Fi (Az _ _)) o! (by simp[Int.reduceToNat];omega) o!
 have Y:B0 (nR (s,(n:Int),img (L.take k) n),10,2)=δ ((n:Int),0):=by rw[D_,<-A3,<-A3];exact yV (a:=[80,77,73,77]++C4 s 4++C4 (n:Int) 2) (t:=C4 (n:Int) 2) (n:=n) (k:=2) (by simp only[Aa,Az];decide) g! g! (by simp only[Az];decide) (BM (by rw[Az];decide)) o! (by simp[Int.reduceToNat];omega) o!
 have S:FL (nR (s,(n:Int),img (L.take k) n),([80,77,73,77]:List UInt8))=δ ζ:=by obtain⟨v,q,r⟩:=CW (s:=nR (s,(n:Int),img (L.take k) n)) (lo:=0) (hi:=4) g! g! (by rw[b];decide);have e:v=[80,77,73,77]:=r.1.trans (by rw[D_];rfl);unfold FL El;rw[G! (by simp only[len,b];decide),B!];show σ (σ (R4 (nR (s,(n:Int),img (L.take k) n)) 0 4) _) _=_;rw[q,e];rfl
 rw[H!,A!,show(len (nR (s,(n:Int),img (L.take k) n)) !=12)=η by unfold len;rw[b];rfl,A!,S,Option.bind_some,Bool.not_true,A!,W,Option.bind_some,X_,Option.bind_some,Y,Option.bind_some,F! d!,A!];refine AA (P:=λr=>∃z,r=.inr (20+266*(n:Int),img (L.take k) n,s,(n:Int),z)) ?_ λr hr=>?_
 ·refine CQ (λ(t:Int×Int×List Cy×Int×Int×Aq)=>0<=t.2.1/\t.2.1<=n/\t.1=20+266*t.2.1/\∃z,t.2.2=((img (L.take k) n).take t.2.1.toNat,s,(n:Int),z)) (λt=>((n:Int)-t.2.1).toNat) ⟨Ae _,d!,d!,_,rfl⟩ ?_;rintro⟨M,i,t⟩ ⟨C,V,o,z,J⟩;dsimp only at C V o J;subst J o;unfold aX;dsimp only;refine AC (λu=>?_) (λu=>An.done ⟨z,by rw[show i=n by omega,BM (l:=img (L.take k) n) (by rw[I4];omega)]⟩);have d:=rC (L:=L.take k) (n:=n) (i:=i.toNat) o!;rw[JW C]at d;have f:=g _ (BO d);have j:img (L.take k) n=(img (L.take k) n).take i.toNat++(Xf (st (L.take k) i)::(img (L.take k) n).drop (i.toNat+1)):=by
   have B:=Cs d;conv=>lhs;rw[<-DG i.toNat (img (L.take k) n),OQ B]
   rw[Au B]at d;rw[BY d]
  have K:(HZ (nR (s,(n:Int),img (L.take k) n))++tD ((img (L.take k) n).take i.toNat)).length=20+266*i.toNat:=by rw[Aa,EQ,b,iI λc u=>g c (F9 u),BP,I4];omega
  have lr:(tD ((img (L.take k) n).drop (i.toNat+1))).length<=17024:=by rw[iI λc u=>g c (Q8 u),C5,I4];omega
  have Q:encI (s,(n:Int),img (L.take k) n)=(HZ (nR (s,(n:Int),img (L.take k) n))++tD ((img (L.take k) n).take i.toNat))++(HZ (py (Xf (st (L.take k) i)))++tD ((img (L.take k) n).drop (i.toNat+1))):=by
   conv=>lhs;unfold encI;dsimp only;arg 2;rw[j]
   unfold tD;rw[We,Ii,A3]
  have U:Dq (encI (s,(n:Int),img (L.take k) n),20+266*i)=δ (py (Xf (st (L.take k) i)),20+266*(i+1),0):=by have:=AIR (A:=HZ (nR (s,(n:Int),img (L.take k) n))++tD ((img (L.take k) n).take i.toNat)) (p:=py (Xf (st (L.take k) i))) (R:=tD ((img (L.take k) n).drop (i.toNat+1))) (by rw[K,f];omega) (by rw[f];decide);rw[<-Q,K,f]at this;rw[show(20+266*i:Int)=((20+266*i.toNat:Nat):Int) by omega,this];refine E! (λw=>δ (py (Xf (st (L.take k) i)),w,(0:Int))) ?_;omega
  have x:(eC (st (L.take k) i)).length=256:=pC (Xc h ⟨C,o!⟩ E_ k);have I:py (Xf (st (L.take k) i))=C4 i 2++eC (st (L.take k) i):=by unfold py Xf;rw[Sf]
  have Z_:B0 (py (Xf (st (L.take k) i)),0,2)=δ (i,0):=by rw[I];exact yV (a:=[]) (t:=C4 i 2++eC (st (L.take k) i)) (n:=i) (k:=2) (by rw[Aa,Az,x];decide) g! g! (by rw[Aa,Az,x];decide) (Fi (Az _ _)) C (by simp[Int.reduceToNat];omega) o!
  have m:len (py (Xf (st (L.take k) i)))=258:=by unfold len;rw[f];rfl
  obtain⟨w1,N,O⟩:=CW (s:=py (Xf (st (L.take k) i))) (lo:=2) (hi:=258) g! g! (by rw[f];decide);have w2:w1=eC (st (L.take k) i):=by rw[O.1,I];show List.take 256 (List.drop 2 (C4 i 2++eC (st (L.take k) i)))=_;rw[mK (Az _ _),BM o!]
  have rc:Rw (py (Xf (st (L.take k) i)))=δ (Xf (st (L.take k) i)):=by unfold Rw;rw[m,N,AD,Z_,AD,w2];dsimp only;rw[ur h E_ ⟨C,o!⟩];unfold Xf;rw[Sf];rfl
  rw[U,AD];dsimp only;rw[H!,A!,m,H!,A!,rc,AD];refine AA (AZ (by rw[BP,I4];simp;omega)) λad F=>?_;rw[AY];refine An.next ⟨d!,d!,rfl,z,?_⟩ d!
  dsimp only;rw[F.1,show(i+1).toNat=i.toNat+1 by omega,Ck,d];rfl
 obtain⟨z,rfl⟩:=hr;apply Ay;dsimp only;rw[F! (by unfold len;rw[G];omega),A!,fU h E_ T hn,Option.bind_some,Bool.not_true,A!];exact AB rfl
def z7{b:Type}(n k:Y)(v:b):∀m:R (Y×b),Lk k (Qf n v m)=if k=n then δ v else Lk k m
 |[]=>by simp only[Qf,Lk];by_cases h:k=n;rw[C! h,h,L!,B!];rw[D! h,beq_eq_false_iff_ne.2 (PP h),A!]
 |p::r=>by simp only[Qf];by_cases a:p.1=n;rw[beq_iff_eq.2 a,B!];simp only[Lk];by_cases h:k=n;rw[C! h,h,L!,B!];rw[D! h,beq_eq_false_iff_ne.2 (PP h),A!,a,beq_eq_false_iff_ne.2 (PP h),A!];rw[beq_eq_false_iff_ne.2 a,A!];simp only[Lk];rw[z7 n k v r];by_cases h:p.1=k;rw[beq_iff_eq.2 h,B!,B!,D! (by rw[<-h];exact a)];rw[beq_eq_false_iff_ne.2 h,A!,A!]
theorem yU{L:R EN}(h:Ge L)(c:θ L<=1099511627776){d:Y}{m:U}(hn:1<=m/\m<=64){x:Aq}(a:PI L d m x):IR (encI x)=δ (x,0):=by have⟨j,b,e,f,g⟩:=a;grind[AAE]
def FB(D:Bd->Option (Aq×Y))(L:R EN)(d:Y)(m:U)(f:Am):Prop:=FI L d m f\/An (D f.2.2) λr=>r.2≠0
def y8(L:R EN)(d:Y)(m:U)(fs:R Am)(n:U)(f:Am)(x:Aq):Prop:=f.1=2/\(∀(k:U)(g:Am),k<n->fs[k]?=δ g->g.1=2->g.2.1≠f.2.1)/\PI L d m x/\f.2.2=encI x/\x.1=f.2.1
def Sv(L:R EN)(d:Y)(m:U)(fs:R Am)(n:U)(x:Aq):Prop:=∃(i:U)(f:Am),i<n/\fs[i]?=δ f/\y8 L d m fs i f x
def Sv.step{L:R EN}{d:Y}{m:U}{b:R Am}{n:U}{f:Am}(e:b[n]?=δ f)(x:Aq):Sv L d m b (n+1) x↔Sv L d m b n x\/y8 L d m b n f x:=by constructor;rintro⟨i,g,k,a,c⟩;by_cases j:i=n;subst j;rw[e]at a;cases a;exact .inr c;exact .inl ⟨i,g,o!,a,c⟩;rintro(⟨i,g,k,a⟩|h);exact⟨i,g,o!,a⟩;exact⟨n,f,o!,e,h⟩
theorem lD{L:R EN}(h:Ge L)(a:θ L<=1099511627776){d:Y}{m:U}(hn:1<=m/\m<=64){x y:Aq}(b:PI L d m x)(c:PI L d m y)(e:encI x=encI y):x=y:=by grind[yU,Prod.ext_iff,Option.some.inj]
def Sv.uniq{L:R EN}(h:Ge L)(A:θ L<=1099511627776){d:Y}{m:U}(hn:1<=m/\m<=64){a:R Am}{n:U}{x y:Aq}(b:Sv L d m a n x)(c:Sv L d m a n y)(e:x.1=y.1):x=y:=by have⟨i,f,_,w,k,l,o,p,q⟩:=b;have⟨j,g,_,z,r,s,t,u,v⟩:=c;grind[Nat.lt_trichotomy,lD]
def AB6(L:R EN)(d:Y)(m:U)(fs:R Am)(s:Y×R (Y×N)×R Aq):Prop:=∃n:U,s.1=n/\n<=θ fs/\θ s.2.2<=n/\(∀id,Option.getD (Lk id s.2.1) η=ζ↔∃(k:U)(g:Am),k<n/\fs[k]?=δ g/\g.1=2/\g.2.1=id)/\∀x,x∈s.2.2↔Sv L d m fs n x
def rR{L:List EN}(h:Ge L)(A:θ L<=1099511627776){d:Int}{m:Nat}(hn:1<=m/\m<=64){a:List Am}(h8:θ a<=8)(S:∀f∈a,FB IR L d m f):An (Kh a) λr=>θ r<=8/\∀x,x∈r↔Sv L d m a (θ a) x:=by
 unfold Kh;refine AA (P:=λr=>θ r.2<=8/\∀x,x∈r.2↔Sv L d m a (θ a) x) ?_ λv V=>?_
 ·refine CQ (AB6 L d m a) (λs=>((θ a:Int)-s.1).toNat) ⟨0,rfl,BV _,Al _,λid=>⟨λq=>(by cases q),λ⟨k,g,k0,_⟩=>O! k0 (Nat.not_lt_zero _)⟩,λx=>⟨λq=>(by cases q),λ⟨k,g,k0,_⟩=>O! k0 (Nat.not_lt_zero _)⟩⟩ ?_;rintro⟨_,t,o⟩ ⟨n,rfl,n1,W,E_,K⟩;dsimp only at W E_ K;unfold Y6;dsimp[len];refine AC (λO=>?_) (λO=>An.done ⟨d!,by rw[show θ a=n by omega];exact K⟩);rw[AY (x:=(n:Int)+1)];refine AA (AI o! O) λc M=>?_;have l:=M.1;rw[CR]at l;have same:(∀x,¬y8 L d m a n c x)->(c.1=2->∃(k:Nat)(g:Am),k<n/\a[k]?=δ g/\g.1=2/\g.2.1=c.2.1)->An (δ (Step.next ((n:Int)+1,t,o)):Option (Step (Int×List (Int×Bool)×List Aq) (List (Int×Bool)×List Aq))) (MU (AB6 L d m a) (λs=>((θ a:Int)-s.1).toNat) ((θ a:Int)-n).toNat λr=>θ r.2<=8/\∀x,x∈r.2↔Sv L d m a (θ a) x):=λe U=>by
   refine An.next ⟨n+1,rfl,o!,d!,λid=>?_,λx=>?_⟩ d!
   dsimp only;rw[E_ id];refine⟨λ⟨k,g,k0,k1⟩=>⟨k,g,o!,k1⟩,λ⟨k,g,k0,k1,u,w⟩=>?_⟩;by_cases p:k=n<;>grind;simp_all[Sv.step]
  refine AL (λz=>same (λx q=>z q.1) λq=>O! q z) (λz=>AK (λF=>?_) (λF=>?_));have⟨k,g,k0,k1,u,w⟩:=(E_ c.2.1).1 F;exact same (λx q=>q.2.1 k g k0 k1 u w) λ_=>⟨k,g,k0,k1,u,w⟩
  have i:∀(k:Nat)(g:Am),k<n->a[k]?=δ g->g.1=2->g.2.1≠c.2.1:=λk g k0 k1 u w=>by rw[(E_ c.2.1).2 ⟨k,g,k0,k1,u,w⟩]at F;cases F
  have Q:∀G,θ G<=n+1->(∀x,x∈G↔x∈o\/y8 L d m a n c x)->An (δ (Step.next ((n:Int)+1,Qf c.2.1 ζ t,G)):Option (Step (Int×List (Int×Bool)×List Aq) (List (Int×Bool)×List Aq))) (MU (AB6 L d m a) (λs=>((θ a:Int)-s.1).toNat) ((θ a:Int)-n).toNat λr=>θ r.2<=8/\∀x,x∈r.2↔Sv L d m a (θ a) x):=λG H T=>by
   refine An.next ⟨n+1,rfl,o!,H,λid=>?_,λx=>?_⟩ d!
   dsimp only;rw[z7];by_cases b:id=c.2.1;rw[C! b];exact⟨λ_=>⟨n,c,o!,l,z,b.symm⟩,λ_=>rfl⟩;rw[D! b,E_ id];refine⟨λ⟨k,g,k0,k1⟩=>⟨k,g,o!,k1⟩,λ⟨k,g,k0,k1,u,w⟩=>?_⟩;by_cases p:k=n<;>grind;dsimp only;rw[Sv.step l,T x,K x]
  have ε:(∀x,¬y8 L d m a n c x)->An (δ (Step.next ((n:Int)+1,Qf c.2.1 ζ t,o)):Option (Step (Int×List (Int×Bool)×List Aq) (List (Int×Bool)×List Aq))) (MU (AB6 L d m a) (λs=>((θ a:Int)-s.1).toNat) ((θ a:Int)-n).toNat λr=>θ r.2<=8/\∀x,x∈r.2↔Sv L d m a (θ a) x):=λe=>Q o o! λx=>⟨.inl,λq=>q.elim id λq=>O! q (e x)⟩
  rcases S _ M.2 with⟨x,D_,p⟩|e;have⟨j,hj,Y,Z_,xe⟩:=id D_;have C:=AH3 h A (k:=j) ⟨Y,Z_⟩ hn;rw[<-xe]at C;rw[p,yU h A hn D_,AD];dsimp only;rw[L!,B!,C,AD,B!];refine AO (λb=>?_) (λb=>ε λy I=>b ?_);refine AA (AZ w!) λX_ N=>Q X_ (by rw[N.1];simp;omega) λy=>?_;rw[N.1,Ak,A5];refine⟨λq=>q.imp id λq=>by rw[q];exact⟨z,i,D_,p,b⟩,λq=>q.imp id λq=>lD h A hn q.2.2.1 D_ (q.2.2.2.1.symm.trans p)⟩;rw[<-lD h A hn I.2.2.1 D_ (I.2.2.2.1.symm.trans p)];exact I.2.2.2.2;have B:∀x,¬y8 L d m a n c x:=λx q=>by have⟨r,hr,J⟩:=e;rw[q.2.2.2.1,yU h A hn q.2.2.1]at hr;cases hr;exact J rfl
  exact AA e λv2 R=>AO (λJ=>O! J R) (λ_=>ε B)
 refine AA (AHx o!) λr hr=>?_;rw[cg hr,B!];exact AB ⟨by have:=hr.length_eq;omega,λx=>by rw[hr.mem_iff];exact V.2 x⟩
end Go.Pm
