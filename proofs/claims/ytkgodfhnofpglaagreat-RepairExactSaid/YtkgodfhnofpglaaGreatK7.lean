/- Texts of wip, joined and shortened by wip/tools/pack.py; nothing is assumed. -/
import Derived.Test.YtkgodfhnofpglaaGreatK6
import Derived.Sort.AssemblyPlain
import Derived.KernelRfl
noncomputable section
set_option linter.all false
set_option maxHeartbeats 400000
open Option renaming some->D
open List renaming length->Z
open Go renaming Ψ->E
open Bool renaming false->X
open Bool renaming true->A
open Go renaming Ω->W
open Option renaming some->δ,bind->σ
open Bool renaming true->ζ,false->η
open List renaming length->θ,replicate->ς
open Go.IntKind renaming wrap->ι
open BitVec renaming ofInt->κ,toNat->π
open Sum renaming elim->ν
open Nat renaming beq->ξ
open Int renaming toNat->ο
open Decidable renaming decide->τ
open _root_ renaming Int->U,Nat->Y,True->z,cond->S
open Go.Ab renaming len->V
namespace Go.Pm
open Go Go.Ab
abbrev EN:=AE
def AAj(x y:U):Du (x,y)=D (if x<y then-1 else if x>y then 1 else 0):=by unfold Du Fb;simp only[H!,AD,A!];by_cases a:x<y;simp[a];by_cases b:x>y;simp[a,b];simp[a,b]
theorem oK{x:U}(h:0<=x/\x<=1099511627776:=by omega):wi x=x:=Aa
theorem wip{i:Y}(h:i<=16777216:=by omega):wi ((i:U)+1)=((i+1:Y):U):=by grind[oK]
def wim{i:Y}(h:i<=16777216:=by omega):wi ((i:U)-1)=(i:U)-1:=by grind[Aa]
def bl8(n:Y):Y:=if n=0 then 0 else if n<2 then 1 else if n<4 then 2 else if n<8 then 3 else if n<16 then 4 else if n<32 then 5 else if n<64 then 6 else if n<128 then 7 else 8
def qD{n:Y}(h:n<256):bl8 n<=8/\(1<=n->2^bl8 n<=2*n):=by grind[bl8]
def T8:Bc:=(List.range 256).map λn=>UInt8.ofNat (bl8 n)
def ALE{n:Y}(h:n<256):six T8 (n:U)=D ((bl8 n:Y):U):=by have a:=(qD h).1;unfold six T8;simp[h];omega
noncomputable def Lz(x:U):W U:=
 σ ((
   S (τ (x>=4294967296)) (D ((Int.fdiv x (2^(min (ο 32) 64))),32))<|D (x,0)):(W (U×U))) λv0=>
 σ ((
   S (τ (v0.1>=65536)) (D ((Int.fdiv v0.1 (2^(min (ο 16) 64))),wi (v0.2+16)))<|D v0):(W (U×U))) λv1=>
 σ ((
   S (τ (v1.1>=256)) (D ((Int.fdiv v1.1 (2^(min (ο 8) 64))),wi (v1.2+8)))<|D v1):(W (U×U))) λv2=>
 σ (six T8 (ι .u8 v2.1)) λv3=>
 D (wi (v2.2+(wi v3)))
def AJx:Q1=Lz:=h!
def AK1(n:Y):Int.fdiv (n:U) (2^(min (ο 16) 64))=((n/65536:Y):U):=by grind[ο,Int.fdiv_eq_ediv_of_nonneg]
def fd8(n:Y):Int.fdiv (n:U) (2^(min (ο 8) 64))=((n/256:Y):U):=by grind[ο,Int.fdiv_eq_ediv_of_nonneg]
def xL{y s:Y}(h:y<256)(c:s<=64):(σ (six T8 (ι .u8 (y:U))) λa=>D (wi ((s:U)+(wi a))))=D ((s+bl8 y:Y):U):=by have b:=(qD h).1;rw[AHz,show(y:U)%256=(y:U) by omega,ALE h,AD,oK (x:=((bl8 y:Y):U)),oK];exact E! D o!
def ABk{x:Y}(h:x<=16777216):∃r:Y,Q1 (x:U)=D (r:U)/\r<=32/\(1<=x->2^r<=2*x):=by
 rw[AJx];unfold Lz;have c:τ ((x:U)>=4294967296)=X:=w!
 rw[c,A!,AD];by_cases f:x>=65536;have:τ (((x:U),(0:U)).1>=65536)=A:=w!
 have e:wi (((x:U),(0:U)).2+16)=((16:Y):U):=by show wi (0+16)=_;decide
 rw[this,B!,AD,e,AK1];by_cases g:x/65536>=256;have:τ (((((x/65536:Y):U),((16:Y):U)):U×U).1>=256)=A:=w!
 have e:wi (((((x/65536:Y):U),((16:Y):U)):U×U).2+8)=((24:Y):U):=by show wi (((16:Y):U)+8)=_;decide
 rw[this,B!,AD,e,fd8];have a:x/65536/256<256:=o!
 have b:=qD a;refine⟨_,xL a o!,o!,λ_=>?_⟩;grind[Nat.pow_add];have:τ (((((x/65536:Y):U),((16:Y):U)):U×U).1>=256)=X:=w!
 rw[this,A!,AD];have a:x/65536<256:=o!
 have b:=qD a;refine⟨_,xL a o!,o!,λ_=>?_⟩;grind[Nat.pow_add];have:τ (((x:U),(0:U)).1>=65536)=X:=w!
 rw[this,A!,AD];by_cases g:x>=256;have:τ (((x:U),(0:U)).1>=256)=A:=w!
 have e:wi (((x:U),(0:U)).2+8)=((8:Y):U):=by show wi (0+8)=_;decide
 rw[this,B!,AD,e,fd8];have a:x/256<256:=o!
 have b:=qD a;refine⟨_,xL a o!,o!,λ_=>?_⟩;grind[Nat.pow_add];have:τ (((x:U),(0:U)).1>=256)=X:=w!
 rw[this,A!,AD];have a:x<256:=o!
 have b:=qD a;refine⟨_,xL (s:=0) a o!,o!,λd=>?_⟩;have:=b.2 d;rw[Dg];omega
def CP(B:Y):Prop:=z
def CPa(B:Y):CP B:=P!
def PT{α:Type}(T:Prop)(o:W α)(Q:α->Prop):Prop:=(T->∃r,o=D r)/\∀r,o=D r->Q r
section
variable {α β γ:Type}{T:Prop}
def PT.some{r:α}{Q:α->Prop}(h:Q r):PT T (.some r) Q:=⟨λ_=>⟨r,rfl⟩,λs e=>q!⟩
def kY{o}{Q:α->Prop}(h:An o Q):PT T o Q:=by obtain⟨r,rfl,h⟩:=h;exact PT.some h
def PT.bind{o}{k:α->W β}{P:α->Prop}{Q:β->Prop}(h:PT T o P)(a:∀r,P r->PT T (k r) Q):PT T (σ o k) Q:=by
 cases o with
 |none=>exact⟨λt=>(by have⟨r,h⟩:=h.1 t;cases h),λr e=>(by cases e)⟩
 |some r=>exact a r (h.2 r rfl)
def PT.cond{c:Bool}{a b}{Q:α->Prop}(d:c=A->PT T a Q)(e:c=X->PT T b Q):PT T (S c a<|b) Q:=q!
def PT.dec{p:Prop}{_:Decidable p}{a b}{Q:α->Prop}(c:p->PT T a Q)(d:¬p->PT T b Q):PT T (S (decide p) a<|b) Q:=q!
def bR{n m:Y}{a b:W α}{Q:α->Prop}(e:n=m)(h:PT T a Q):PT T (S (ξ n m) a<|b) Q:=t!
end
def Zu{x:List Az×U×Bool×C3}{s:U×List Az}(h:0<=s.1/\s.1<=Z x.1/\Z x.1<=16777216/\Z s.2<=s.1):An (Ak (O4 x) s) λr=>Z r<=Z x.1:=by
 refine AY (λ(s:Int×List Az)=>0<=s.1/\s.1<=Z x.1/\Z x.1<=16777216/\Z s.2<=s.1) (λs=>((Z x.1:U)-s.1).toNat) h (λs b=>?_);unfold O4;exact x!
def LA{x:E Az×U×Bool×C3}(h:Z x.1<=16777216):An (Gp x) λr=>Z r<=Z x.1:=by
 unfold Gp;exact x!
def Zr{x:BB×U}{s:U}(h:0<=s/\s<=Z x.1.1/\(Z x.1.1:U)<=16777216/\0<=x.2/\x.2<Z x.1.2):An (Ak (O0 x) s) λr=>z:=by
 refine AY (λ(s:Int)=>0<=s/\s<=Z x.1.1/\(Z x.1.1:U)<=16777216/\0<=x.2/\x.2<Z x.1.2) (λs=>((Z x.1.1:U)-s).toNat) h (λs a=>?_);unfold O0;exact x!
def Zs{x:BB×U}{s:U}(h:0<=s/\s<=x.2/\(x.2:U)<=16777216/\0<=x.2/\x.2<Z x.1.2):An (Ak (O1 x) s) λr=>z:=by
 refine AY (λs=>0<=s/\s<=x.2/\(x.2:U)<=16777216/\0<=x.2/\x.2<Z x.1.2) (λs=>((x.2:U)-s).toNat) h (λs a=>?_);unfold O1;exact x!
def iC{x:BB×U}(h:Z x.1.1<=4096/\Z x.1.2<=4096)(b:0<=x.2/\x.2<Z x.1.2):An (NO x) λr=>z:=by
 unfold NO;exact x!
def Zt{x:List Az×Az}{s:Bool×U×List Az}(h:0<=s.2.1/\s.2.1<=Z x.1/\Z x.1<=4096/\Z s.2.2<=s.2.1+1/\(s.1=X->(Z s.2.2:U)<=s.2.1)):An (Ak (O3 x) s) λr=>Z r.2<=Z x.1+1/\(r.1=X->Z r.2<=Z x.1):=by
 refine AY (λ(s:Bool×Int×List Az)=>0<=s.2.1/\s.2.1<=Z x.1/\Z x.1<=4096/\Z s.2.2<=s.2.1+1/\(s.1=X->(Z s.2.2:U)<=s.2.1)) (λs=>((Z x.1:U)-s.2.1).toNat) h (λs c=>?_);unfold O3;repeat' with_reducible first|intro a|apply AC|apply AP|apply AK|(apply BJ;try dsimp only)|apply Bk|apply B7|apply AB|(apply AA (Vb);intro r hr)|(refine AO ?_ (AI ?_ ?_);rintro r ⟨hr,f⟩)|(refine AO ?_ (Ac ?_);rintro r ⟨hr,d,b⟩)
 all_goals try (have e:=Aa (x:=s.2.1+1))
 all_goals (first|omega|grind)
def iD{x:E Az×Az}(h:Z x.1<=4096):An (NP x) λr=>Z r<=Z x.1+1:=by
 unfold NP;exact x!
def YA{B:Y}(i:B<=2000){s:U×BB}(h:0<=s.1/\s.1<=Z s.2.2/\Z s.2.1+Z s.2.2<=B):An (Ak SY s) λr=>Z r.1+Z r.2<=B:=by refine AY (λs=>0<=s.1/\s.1<=s.2.2.length/\Z s.2.1+Z s.2.2<=B) (λs=>Z s.2.2*3000+((Z s.2.2:U)-s.1).toNat) h (λs d=>?_);have⟨b,e,c⟩:=d;refine AC (λa=>?_) (λa=>AB c);simp[V]at a;refine AA (iC d! ⟨b,a⟩) λv _=>AA (P:=λv:U×BB=>(v=s)\/(v.1= -1/\Z v.2.1<=Z s.2.1+1/\Z v.2.2+1=Z s.2.2)) ?_ λm g=>?_;refine AM (λ_=>?_) (y? (.inl rfl));refine AA (AI b a) λj _=>AA (iD d!) λk c=>AA (Bd o! b) λl f=>?_;grind[Aa,AA,Bd,Ac,AB];grind[AB,Aa]
def Jo{B:Y}{x:BB}(a:B<=2000)(h:Z x.1+Z x.2<=B):An (GA x) λr=>Z r.1+Z r.2<=B:=by exact AA (YA a ⟨k!,k!,h⟩) λr hr=>AB hr
def Gi.of{x:BB}{B:Y}(a:B<=2000)(h:Z x.1+Z x.2<=B):Gi x:=⟨by omega,by omega⟩
def Gi.nil:Gi (([],[]):BB):=⟨k!,k!⟩
def Mv{x:BB×U}(h:Gi x.1):An (IE x) λr=>Gi r:=by refine AA (Fi h) λv d=>AP (y? h) (λc=>?_);have g:=d c;refine AA (LA h.1) λa e=>AA (LA h.2) λb f=>AA (Jo (B:=1024) g! ?_) λr hr=>AB (Gi.of g! hr);grind[aa]
def bd{x:BB×U}(h:Gi x.1):An (P0 x) λr=>Gi r:=by refine AA (Fi h) λv c=>AP (y? h) (λa=>?_);have e:=c a;refine AA (LA h.2) λb d=>AA (Jo (B:=1024) g! ?_) λr hr=>AB (Gi.of g! hr);grind[aa]
def Va{x:BB×U×C3}(h:Gi x.1):An (NN x) λr=>Gi r:=by refine AA (Fi h) λv c=>AP (y? h) (λa=>?_);have e:=c a;refine AA (LA h.1) λb d=>AA (Jo (B:=1024) g! ?_) λr hr=>AB (Gi.of g! hr);grind[aa]
def Xk{x:BB×U}{s:U×Az}(h:0<=s.1/\s.1<=Z x.1.2/\Z x.1.2<=16777216):An (Ak (Lw x) s) λr=>z:=by
 refine AY (λ(s:Int×Az)=>0<=s.1/\s.1<=Z x.1.2/\Z x.1.2<=16777216) (λs=>((Z x.1.2:U)-s.1).toNat) h (λs b=>?_);unfold Lw;exact x!
def JC{x:BB×U}(h:Gi x.1):An (Fj x) λr=>r.2=A->aa x.1:=by
 unfold Fj;exact x!
def Y9{x:BB×Az}{s:U}(h:0<=s/\s<=Z x.1.2/\(Z x.1.2:U)<=16777216/\Z x.1.1<=16777216):An (Ak (N7 x) s) λr=>∀u,r=.inl u->0<=u/\u<=Z x.1.2:=by
 refine AY (λ(s:Int)=>0<=s/\s<=Z x.1.2/\(Z x.1.2:U)<=16777216/\Z x.1.1<=16777216) (λs=>((Z x.1.2:U)-s).toNat) h (λs a=>?_);unfold N7;exact x!
def eR{x:BB×Az}(h:Gi x.1):An (JP x) λr=>0<=r/\r<=Z x.1.2:=by
 unfold JP;exact x!
def Zq{x:BB×Az}(h:Gi x.1):An (Oz x) λr=>Gi r.1:=by refine AA (Fi h) λv o=>AP (y? Gi.nil) (λl=>?_);have n:=o l;unfold aa at n;refine AA O2 λ_ _=>AP (y? Gi.nil) (λ_=>AA (JC h) λz _=>?_);apply AM<;>intro m;simp_all[AM,AB,Gi.nil];refine AM (y? h) (λ_=>AA (Ip h.1) λ_ _=>AM (y? h) (λ_=>AM (y? Gi.nil) (λ_=>AA (eR h) λp e=>AA (Bd o! e.1 e.2) λq j=>AA (Bd e.1 b! i!) λs a=>?_)));have f:=a.2;simp[V]at f;refine AA (Ac w!) λt b=>?_;have g:=b.2.1;simp at g;refine AA (Ac w!) λu c=>?_;have i:=c.2.1;simp at i;refine AA (Ac o!) λw k=>AA (Jo (B:=1025) g! d!) λy d=>AA (Ip d!) λ_ _=>AB (Gi.of g! d)
def Zx{x:List U×U}{s:Bool×U×List U}(h:0<=s.2.1/\s.2.1<=Z x.1/\Z x.1<=4096/\Z s.2.2<=s.2.1+1/\(s.1=X->(Z s.2.2:U)<=s.2.1)):An (Ak (Ox x) s) λr=>Z r.2<=Z x.1+1/\(r.1=X->Z r.2<=Z x.1):=by
 refine AY (λ(s:Bool×Int×List Int)=>0<=s.2.1/\s.2.1<=Z x.1/\Z x.1<=4096/\Z s.2.2<=s.2.1+1/\(s.1=X->(Z s.2.2:U)<=s.2.1)) (λs=>((Z x.1:U)-s.2.1).toNat) h (λs b=>?_);unfold Ox;repeat' with_reducible first|intro a|apply AC|apply AP|apply AK|apply AM|(apply BJ;try dsimp only)|apply Bk|apply B7|apply AB|(refine AO ?_ (AI ?_ ?_);rintro r ⟨hr,g⟩)|(refine AO ?_ (Ac ?_);rintro r ⟨hr,f,d⟩)
 all_goals try dsimp[V]at*
 all_goals try (have e:=Aa (x:=s.2.1+1))
 all_goals try (have c:=b.2.2.2.2 v!)
 all_goals (try simp[BW,Be,Bool.true_eq_false,false_implies,and_true]at*)
 all_goals first|omega|grind
def P4{x:E U×U}(h:Z x.1<=4096):An (Fw x) λr=>Z r<=Z x.1+1:=by
 unfold Fw;exact x!
def Xl{x:BB}{s:List U×U}(h:0<=s.2/\s.2<=Z x.2/\Z x.2<=4096/\Z s.1<=s.2):An (Ak (Lx x) s) λr=>Z r<=Z x.2:=by
 refine AY (λ(s:List Int×Int)=>0<=s.2/\s.2<=Z x.2/\Z x.2<=4096/\Z s.1<=s.2) (λs=>((Z x.2:U)-s.2).toNat) h (λs b=>?_);unfold Lx;exact x!
def Zw{x}(h:Gi x):An (Ka x) λr=>Z r<=4096:=by
 unfold Ka;exact x!
theorem be{x:BB×U}{b}{s:List U×U}(h:0<=s.2/\s.2<=Z x.1.1/\Z x.1.1<=1024/\Z s.1<=s.2):An (Ak (P1 x b) s) λr=>Z r<=Z x.1.1:=by
 refine AY (λ(s:List Int×Int)=>0<=s.2/\s.2<=Z x.1.1/\Z x.1.1<=1024/\Z s.1<=s.2) (λs=>((Z x.1.1:U)-s.2).toNat) h (λs c=>?_);unfold P1;exact x!
theorem bf{x:BB×U}{b}{s:List U×U}(h:0<=s.2/\s.2<=Z x.1.2/\Z x.1.2<=1024/\Z s.1<=s.2+1024):An (Ak (P2 x b) s) λr=>Z r<=4096:=by
 refine AY (λ(s:List Int×Int)=>0<=s.2/\s.2<=Z x.1.2/\Z x.1.2<=1024/\Z s.1<=s.2+1024) (λs=>((Z x.1.2:U)-s.2).toNat) h (λs c=>?_);unfold P2;exact x!
def MS{x:BB×U}(h:Gi x.1):An (I0 x) λr=>Z r<=4096:=by unfold I0;refine AA (JC h) λc b=>AP (y? k!) (λa=>?_);grind[aa,AA,be,bf,AB]
theorem Q2{x:BB×List U×U}{a:List U}{s:U}(h:0<=s/\s<=Z a/\(Z a:U)<=16777216/\1<=Z x.2.1/\Z x.2.1<=4096):An (Ak (Mw x a) s) λr=>∀u,r=.inl u->u=x.2.1:=by
 refine AY (λ(s:Int)=>0<=s/\s<=Z a/\(Z a:U)<=16777216/\1<=Z x.2.1/\Z x.2.1<=4096) (λs=>((Z a:U)-s).toNat) h (λs c=>?_);unfold Mw;exact x!
def YB{x:BB×List U×U}{b}{s:Bool×U}(h:0<=s.2/\s.2<=Z x.2.1/\Z x.2.1<=4096):An (Ak (Mx x b) s) λr=>z:=by
 refine AY (λ(s:Bool×Int)=>0<=s.2/\s.2<=Z x.2.1/\Z x.2.1<=4096) (λs=>((Z x.2.1:U)-s.2).toNat) h (λs c=>?_);unfold Mx;exact x!
def AGo(d:Y){x:BB×List U×U}(h:Gi x.1)(o:1<=Z x.2.1)(A_:(Z x.2.1:U)+d=x.2.2)(p:x.2.2<=4096):An (pB FE (d+1) x) λr=>Z r<=4096:=by
 induction d generalizing x with
 |zero=>show An (FE _ x) _;unfold FE;have e:=Aa (x:=(Z x.2.1:U)-1);refine AA (AI (by simp[V];rw[e];omega) (by simp[V];rw[e];omega)) λv _=>AA (MS h) λm f=>AQ (λ_=>?_) (λc=>O! b! c);refine AA (Q2 ⟨k!,k!,o!,o,o!⟩) λr hr=>BA (λu a=>AB (by rw[hr u a];omega)) (λ_ _=>AB k!)
 |succ d t=>show An (FE _ x) _;unfold FE;have e:=Aa (x:=(Z x.2.1:U)-1);refine AA (AI (by simp[V];rw[e];omega) (by simp[V];rw[e];omega)) λv _=>AA (MS h) λm f=>AQ (λ_=>?_) (λ_=>?_);grind[AA,Q2,BA,AB];refine AA (P:=λr=>∀u,r=.inl u->Z u<=4096) ?_ λr hr=>BA (λu a=>AB (hr u a)) (λ_ _=>AB k!);refine AY (λ(s:Int)=>0<=s/\s<=Z m) (λs=>((Z m:U)-s).toNat) (s:=(0:U)) ⟨g!,o!⟩ (λs q=>?_);unfold SZ;have b:=Aa (x:=s+1);refine AC (λc=>?_) (y? (λu a=>by cases a));simp[V]at c;refine AA (AI q.1 c) λB _=>AA (YB ⟨k!,k!,o!⟩) λw _=>AM (y? ⟨by rw[b];omega,by rw[b];omega⟩) (λ_=>AA (Ac w!) λy g=>?_);have k:=g.2.1;simp[Be]at k;refine AA (Ac w!) λn i=>?_;have l:=i.2.1;simp[BW,Be]at l;refine AA (t (x:=(x.1,n,x.2.2)) h d! d! p) λz j=>AC (y? λu a=>by cases a;exact j) (y? ⟨by rw[b];omega,by rw[b];omega⟩)
def bg{x:BB×E U×U}(h:Gi x.1)(a:1<=Z x.2.1)(d:(Z x.2.1:U)<=x.2.2)(b:x.2.2<=4096):An (P3 x) λr=>z:=by have⟨r,hr,_⟩:=AGo (x.2.2-Z x.2.1).toNat h a o! b;have⟨s,c⟩:=gw hr;exact⟨s,c,P!⟩
def eS{x:BB×U}(h:Gi x.1):An (MR x) λr=>z:=by unfold MR;refine AA (P:=λ_=>z) ?_ λr _=>BA (λ_ _=>AB trivial) (λ_ _=>AB trivial);refine AY (λs=>1<=s/\s<=4097) (λs=>(4097-s).toNat) ⟨g!,g!⟩ (λs d=>?_);unfold TN;have a:=Aa (x:=s+1);refine AA (Zw h) λe c=>AC (λb=>?_) (y? trivial);simp[V]at b;refine AA (bg h k! (by show(1:U)<=s;omega) (by show s<=4096;omega)) λf _=>AC (y? trivial) (y? ⟨by rw[a];omega,by rw[a];omega⟩)
def CI(b:D2):Prop:=Z b.1<=1099511627776/\0<=b.2.1/\b.2.1<=Z b.1
def OP{b}{x:U}(h:CI b)(c:0<=x/\x<=8):An (BT b x) λr=>CI r.2/\(x<=4->0<=r.1/\r.1<4294967296):=by
 unfold BT;unfold CI at*
 exact x!
def Oy{b}{x:U}(h:CI b)(d:0<=x/\x<=4294967296):An (C8 b x) λr=>CI r.2:=by
 unfold C8;unfold CI at*
 exact x!
def XK{b}{x}(h:CI b):An (Cy b x) λr=>CI r.2:=by
 unfold Cy;exact x!
theorem bY{x:Bc}(h:Z x<=1099511627776):An (ER x) λr=>r.2=0->KD r.1:=by
 unfold ER;have b:CI (x,0,0):=⟨h,k!,k!⟩
 exact x!
def Xm{x:Bc×List U}{s:Bc×U}(h:0<=s.2/\s.2<=Z x.2/\Z x.2<=16777216/\Z x.1<=1073741824/\(Z s.1:U)<=Z x.1+8*s.2):An (Ak (Ly x) s) λr=>(Z r:U)<=Z x.1+8*Z x.2:=by
 refine AY (λ(s:Bc×Int)=>0<=s.2/\s.2<=Z x.2/\Z x.2<=16777216/\Z x.1<=1073741824/\(Z s.1:U)<=Z x.1+8*s.2) (λs=>((Z x.2:U)-s.2).toNat) h (λs b=>?_);unfold Ly;exact x!
def Z0{x:Bc×E U}(h:Z x.2<=16777216/\Z x.1<=1073741824):An (IG x) λr=>(Z r:U)<=Z x.1+8*Z x.2:=by
 unfold IG;exact x!
def YG{x:List Ar}{s:Bc×U}(h:0<=s.2/\s.2<=Z x/\Zd x/\(Z s.1:U)<=10+40000*s.2):An (Ak (Mz x) s) λr=>(Z r:U)<=10+40000*Z x:=by
 refine AY (λ(s:Bc×Int)=>0<=s.2/\s.2<=Z x/\Zd x/\(Z s.1:U)<=10+40000*s.2) (λs=>((Z x:U)-s.2).toNat) h (λs c=>?_);unfold Mz;have⟨e,f,⟨b,a⟩,g⟩:=c;repeat' with_reducible first|intro d|apply AC|apply AM|apply AB|(refine AO ?_ (Dq ?_);intro r hr)|(refine AO ?_ (Z0 ?_);intro r hr)|(refine AO ?_ (AI ?_ ?_);rintro r ⟨hr,i⟩)
 all_goals try (have j:=a _ _ v!)
 all_goals try unfold VTx at*
 all_goals dsimp[V]at*
 all_goals first|omega|(refine⟨⟨?_,?_,⟨b,a⟩,?_⟩,?_⟩<;>(simp (disch:=omega) only[Aa];omega))|grind
def TT{x}:An (LD x) λr=>Z r.1<=16777216:=by
 unfold LD;exact x!
def CJ(b:CK):Prop:=Z b.1<=1099511627776/\0<=b.2.1/\b.2.1<=Z b.1
def Gf{b}{x:U}(h:CJ b)(c:0<=x/\x<=8):An (Co b x) λr=>CJ r.2/\(x<=2->0<=r.1/\r.1<65536):=by
 unfold Co;unfold CJ at*
 exact x!
def Vd  {s:U×List U×CK}(h:0<=s.1/\s.1+Z s.2.1<=65536/\CJ s.2.2):An (Ak (Jf) s) λr=>CJ r.2/\Z r.1<=65536:=by
 refine AY (λ(s:Int×List Int×CK)=>0<=s.1/\s.1+Z s.2.1<=65536/\CJ s.2.2) (·.1.toNat) h (λs c=>?_);unfold Jf;exact x!
def XL{b}{x:U}(h:CJ b)(a:0<=x/\x<=2):An (GZ b x) λr=>CJ r.2:=by
 unfold GZ;exact x!
def YF  {s:U×List Ar×CK}(h:0<=s.1/\s.1+Z s.2.1<=65536/\CJ s.2.2):An (Ak (My) s) λr=>CJ r.2/\Z r.1<=65536:=by
 refine AY (λ(s:Int×List Ar×CK)=>0<=s.1/\s.1+Z s.2.1<=65536/\CJ s.2.2) (·.1.toNat) h (λs c=>?_);unfold My;exact x!
def TS{x:Bc}(h:Z x<=1099511627776):An (LC x) λr=>Z r.1<=65536/\(r.2=0->Zd r.1):=by
 unfold LC;have b:CJ (x,0,X):=⟨h,k!,k!⟩
 exact x!
def YE{x:Bz}{s:Bc×U}(h:0<=s.2/\s.2<=Z x/\Z x<=64/\(Z s.1:U)<=10+24*s.2):An (Ak (JE x) s) λr=>Z r<=2000:=by
 refine AY (λ(s:Bc×Int)=>0<=s.2/\s.2<=Z x/\Z x<=64/\(Z s.1:U)<=10+24*s.2) (λs=>((Z x:U)-s.2).toNat) h (λs b=>?_);unfold JE;exact x!
def TR{x}:An (Ir x) λr=>Z r.1<=2000:=by
 unfold Ir;exact x!
def YD{x:Bc}{a:U×U}{s:U×List Bb}(h:0<=s.1/\s.1<=a.1/\a.1<=65536/\Z x<=1099511627776/\Z s.2<=s.1):An (Ak (JD x a) s) λr=>Z r<=65536:=by
 refine AY (λ(s:Int×List Bb)=>0<=s.1/\s.1<=a.1/\a.1<=65536/\Z x<=1099511627776/\Z s.2<=s.1) (λs=>(a.1-s.1).toNat) h (λs d=>?_);unfold JD;exact x!
def TQ{x:Bc}(h:Z x<=1099511627776):An (E4 x) λr=>(r.2=0->nO r.1)/\Z r.1<=65536:=by
 unfold E4;exact x!
def Rh{x:Cg}{s:U}(h:0<=s/\s<=Z x.2.2.1/\(Z x.2.2.1:U)<=16777216):An (Ak (OH x) s) λr=>r≠.inl A:=by
 refine AY (λ(s:Int)=>0<=s/\s<=Z x.2.2.1/\(Z x.2.2.1:U)<=16777216) (λs=>((Z x.2.2.1:U)-s).toNat) h (λs b=>?_);unfold OH;exact x!
def tT(x:Cg):Prop:=1<=x.1/\x.1<=64/\Zd x.2.2.1/\nO x.2.2.2.2/\Z x.2.2.2.2=x.1
def O8{x:Cg}(h:Z x.2.2.2.1<=16777216):An (Hd x) λr=>r=A->tT x:=by
 unfold Hd tT
 exact x!
def YJ{x:Cg}{s:Bc×U}(h:0<=s.2/\s.2<=Z x.2.2.2.1/\Z x.2.2.2.1<=16777216/\(Z s.1:U)<=100000000+24*s.2):An (Ak (JG x) s) λr=>Z r<=1073741824:=by
 refine AY (λ(s:Bc×Int)=>0<=s.2/\s.2<=Z x.2.2.2.1/\Z x.2.2.2.1<=16777216/\(Z s.1:U)<=100000000+24*s.2) (λs=>((Z x.2.2.2.1:U)-s.2).toNat) h (λs b=>?_);unfold JG;exact x!
def bq{x:Cg}(h:Z x.2.2.2.1<=16777216):An (G8 x) λr=>Z r.1<=2147483648:=by
 unfold G8;exact x!
def TP(l:E Ar):Y:=(l.map λt=>Z t.2.2.2.2.1+1).sum
theorem AIn{l:E Ar}{i:Y}{o n:Ar}(h:l[i]?=D o):TP (l.set i n)+Z o.2.2.2.2.1=TP l+Z n.2.2.2.2.1:=by
 induction l generalizing i with
 |nil=>simp at h
 |cons t r a=>
  cases i with
  |zero=>simp at h;subst h;simp[TP];omega
  |succ i=>have:=a (i:=i) (by simpa using h);simp[TP,List.set_cons_succ,Bs,WS]at*;omega
def vy{l:E Ar}{id:U}:TP (l.filter λt=>t.1 !=id)<=TP l:=by
 induction l with
 |nil=>simp
 |cons t r a=>simp[UI];split;simp[TP,Bs,WS]at*;omega;simp[TP,Bs,WS]at*;omega
def xP{l:E Ar}{id:U}{i:Y}{t:Ar}(h:l[i]?=D t)(a:t.1=id):TP (l.filter λt=>t.1 !=id)<TP l:=by
 induction l generalizing i with
 |nil=>simp at h
 |cons u r b=>
  have q:=vy (l:=r) (id:=id);cases i with
  |zero=>simp at h;subst h;simp[UI,a,H!,Qd,if_false];simp[TP,Bs,WS]at*;omega
  |succ i=>have:=b (i:=i) (by simpa using h);simp[UI];split<;>(simp[TP,Bs,WS]at*;omega)
def ZC{x:List Ar×U}{s:U×List Ar}(h:0<=s.1/\s.1<=Z x.1/\Z x.1<=64/\Z s.2=s.1):An (Ak (N9 x) s) λr=>Z r<=Z x.1:=by
 refine AY (λ(s:Int×List Ar)=>0<=s.1/\s.1<=Z x.1/\Z x.1<=64/\Z s.2=s.1) (λs=>((Z x.1:U)-s.1).toNat) h (λs c=>?_);unfold N9;exact x!
def Ud{x}:An (JR x) λr=>r.2=0->Z r.1=Z x.1+1/\Z r.1<=64:=by
 unfold JR;exact x!
def ADf(l:E Ar)(id:U):E Ar:=l.filter λt=>t.1 !=id
theorem pY(l:E Ar)(id:U):(ADf l id).length<=Z l:=EP _ _
theorem AHe(l:E Ar)(id:U):TP (ADf l id)<=TP l:=vy
theorem AHf{l:E Ar}{id:U}{i:Y}{t:Ar}(h:l[i]?=D t)(a:t.1=id):TP (ADf l id)<TP l:=xP h a
def mH{a:Type}{l:E a}{n:U}{p:a->Bool}{x:a}(b:0<=n)(c:l[ο n]?=D x):(l.take (n+1).toNat).filter p=(l.take (ο n)).filter p++(if p x=A then [x]else []):=by
 have e:(n+1).toNat=ο n+1:=o!
 grind[List.take_add_one,Option.toList_some]
def o9{a:Type}{l:E a}{n:U}{p:a->Bool}(b:0<=n):(((l.take (ο n)).filter p).length:U)<=n:=by grind[List.length_filter_le,r?]
def YH{x:List Ar×U}{s:U×List Ar}(h:0<=s.1/\s.1<=Z x.1/\Z x.1<=16777216/\s.2=(x.1.take s.1.toNat).filter (λt=>t.1 !=x.2)):An (Ak (M0 x) s) λr=>r=x.1.filter λt=>t.1 !=x.2:=by
 refine AY (λ(s:Int×List Ar)=>0<=s.1/\s.1<=Z x.1/\Z x.1<=16777216/\s.2=(x.1.take s.1.toNat).filter (·.1 !=x.2)) (λs=>((Z x.1:U)-s.1).toNat) h (λs f=>?_);unfold M0;have⟨b,i,e,c⟩:=f;have a:=o9 (l:=x.1) (p:=λt:Ar=>t.1 !=x.2) b;rw[<-c]at a;repeat' with_reducible first|intro d|apply AC|apply AK|apply AM|(apply BJ;try dsimp only)|apply Bk|apply B7|apply AB|(refine AO ?_ (AI ?_ ?_);rintro r ⟨hr,k⟩)|(refine AO ?_ (Ac ?_);rintro r ⟨hr,j,g⟩)
 all_goals dsimp[V]at*
 all_goals first|omega|(rw[(Aa (x:=s.1+1))];refine⟨⟨o!,o!,e,?_⟩,o!⟩;rw[mH b v!];grind)|(rw[c,BN o!])|(simp;omega)
def Jq{x:E Ar×U}(h:Z x.1<=16777216):An (G7 x) λr=>r=ADf x.1 x.2:=by
 unfold G7 ADf
 exact x!
def OB{x:Ar}(h:Z x.2.2.2.2.1<=16777216):An (Iu x) λr=>r.1=x.1/\r.2.2.2.2=x.2.2.2.2:=by
 unfold Iu;exact x!
def MX{x:E Ar×U×Ar}(h:Z x.1<=16777216)(a:0<=x.2.1/\x.2.1<Z x.1):An (I2 x) λr=>r=x.1.set x.2.1.toNat x.2.2:=by unfold I2;refine AA (Ac (by simpa using h)) λr hr=>?_;have⟨hr,b,_⟩:=hr;rw[Bt]at hr;subst hr;refine AA (AI a.1 a.2) λ_ _=>AA (AI a.1 a.2) λ_ _=>AB rfl
def Sb{x:List Ar×AE}{a:Ar}{s:U×List U}(h:0<=s.1/\s.1<=Z a.2.2.2.2.1/\Z a.2.2.2.2.1<=4096/\Z s.2<=s.1):An (Ak (O7 x a) s) λr=>Z r<=Z a.2.2.2.2.1:=by
 refine AY (λ(s:Int×List Int)=>0<=s.1/\s.1<=Z a.2.2.2.2.1/\Z a.2.2.2.2.1<=4096/\Z s.2<=s.1) (λs=>((Z a.2.2.2.2.1:U)-s.1).toNat) h (λs d=>?_);unfold O7;exact x!
def jx(l:E Ar)(id:U):Prop:=∃(j:Y)(t:Ar),l[j]?=D t/\t.1=id
theorem jx.set{l:E Ar}{i:Y}{n:Ar}{id:U}(h:i<Z l)(hn:n.1=id):jx (l.set i n) id:=⟨i,n,by rw[HU h],hn⟩
def ABl(l:E Ar)(kind tx:U)(m:E Ar):Prop:=Z m<=Z l/\(tx=0->m=l)/\(tx≠0->kind≠1->(kind≠4->TP m<TP l)/\TP m<=TP l)/\(tx≠0->kind=4->jx m tx)
def iH{x}:An (Gq x) λr=>r.2=0->ABl x.1 x.2.2.1 x.2.2.2.1 r.1:=by
 unfold Gq;repeat' with_reducible first|intro a|apply AC|apply AP|apply AQ|apply AK|apply AM|(apply BJ;try dsimp only)|apply Bk|apply B7|apply Nt|(apply BC;try dsimp only)|(apply A3;try dsimp only)|(apply BA<;>(intro u c;try subst c))|apply AB|(apply AA (ED);intro r hr)|(apply AA (CY);intro r hr)|(refine AO ?_ (It ?_);intro r hr)|(refine AO ?_ (Sb ?_);intro r hr)|(refine AO ?_ (Jq ?_);intro r hr)|(refine AO ?_ (OB ?_);intro r hr)|(refine AO ?_ (MX ?_ ?_);intro r hr)|(refine AO ?_ (AI ?_ ?_);rintro r ⟨hr,f⟩)|(refine AO ?_ (Ac ?_);rintro r ⟨hr,e,b⟩)
 all_goals dsimp[V]at*
 all_goals first|omega|(intro d;exact O! d g!)|(unfold Zd VTx at*;(first|omega|grind[ABl,AIn,AHf,AHe,pY,List.length_set,jx.set]))
variable {B:Int->Prop}
def TU{x}:An (Is x) λr=>r.2=0->Zd x.1/\0<=r.1/\r.1<Z x.1:=by
 unfold Is;exact x!
def iI{x}:An (NS x) λr=>r.2=0->Z r.1<=64:=by
 unfold NS;repeat' with_reducible first|intro a|apply AQ|apply AK|apply AM|apply AB|(apply AA (TU);intro r hr)|(refine AO ?_ (MX ?_ ?_);intro r hr)|(refine AO ?_ (AI ?_ ?_);rintro r ⟨hr,e⟩)|(refine AO ?_ (Ac ?_);rintro r ⟨hr,d,b⟩)
 all_goals try dsimp[V]at*
 all_goals first|omega|(intro c;exact O! c v!)|grind[Zd,VTx,List.length_set]
def iG{x}:An (NR x) λr=>r.2=0->Z r.1<=64:=by
 unfold NR;repeat' with_reducible first|intro a|apply AC|apply AK|apply AM|apply AB|(apply AA (TU);intro r hr)|(refine AO ?_ (OB ?_);intro r hr)|(refine AO ?_ (MX ?_ ?_);intro r hr)|(refine AO ?_ (AI ?_ ?_);rintro r ⟨hr,e⟩)|(refine AO ?_ (Ac ?_);rintro r ⟨hr,b,c⟩)|(refine AO ?_ (Bd ?_ ?_ ?_);rintro r ⟨hr,b⟩)
 all_goals try dsimp[V]at*
 all_goals first|omega|(intro d;exact O! d v!)|grind[Zd,VTx,List.length_set,Aa]
def jn{x:Bz×U×Bb}(h:Z x.1<=16777216)(a:0<=x.2.1/\x.2.1<Z x.1):An (OV x) λr=>r=x.1.set x.2.1.toNat x.2.2:=by unfold OV;refine AA (Ac (by simpa using h)) λr hr=>?_;have⟨hr,b,_⟩:=hr;rw[Bt]at hr;subst hr;refine AA (AI a.1 a.2) λ_ _=>AA (AI a.1 a.2) λ_ _=>AB rfl
def Vc{x}:An (IF x) λr=>r.2=0->Z r.1=Z x.1/\(x.2.2.1≠7->r.1=x.1)/\(x.2.2.1=7->0<=x.2.2.2.2.2.2.2.1.1/\∃w,x.1[x.2.2.2.2.2.2.2.1.1.toNat]?=D w/\r.1=x.1.set x.2.2.2.2.2.2.2.1.1.toNat ((if x.2.2.2.2.2.2.1>w.1 then x.2.2.2.2.2.2.1 else w.1),w.2)):=by
 unfold IF;refine AA Gd λv i=>AP (λa=>AB n!) (λa=>AA CY λl k=>AP (λa=>AB n!) (λf=>AK (λa=>AB λ_=>⟨rfl,λ_=>rfl,λe=>O! e a⟩) (λd=>?_)));have i:KD x.2:=q!
 have c:0<=x.2.2.2.2.2.2.2.1.1:=by grind[KD,SI,Pe,Qu]
 refine AC (λa=>AB n!) (λg=>?_);simp[V]at g;refine AA (AI c) λw j=>AA (jn (by have:=(by grind:nO x.1).2;dsimp only;omega) ⟨c,d!⟩) λu h=>AB λ_=>?_;subst h;exact⟨k!,λe=>O! d e,λ_=>⟨c,w,j.1,rfl⟩⟩
def LG{x:AU×U}(h:SB x.1):An (E6 x) λr=>Br x.1=D A->KP x.1.1 x.1.2.2.1.2.1 x.1.2.2.2.1.2.1 x.1.2.2.2.2.2.2.2 x.1.2.2.2.2.2.2.1->0<=x.2->x.2<x.1.1->r=Bn x.1.2.2.1.2.1 x.2:=by unfold E6;refine EM (CQ h) λv u t=>AP (λa=>AB λe=>?_) (λa=>?_);rw[u,a]at e;cases e;refine AC (λa=>AB λ_ _ p=>O! p o!) (λp=>AC (λa=>AB λ_ _ _ q=>O! q o!) (λq=>AA JQ λg s=>AM (λa=>AB λ_ c d j=>?_) (λk=>?_)));have⟨_,_,_,e,f,n,b⟩:=s.1 a;have:=(c x.2 d j).1 f n (by rw[b];exact e);rw[b]at this;rw[this];exact KB _ _;refine AA (Ke h) λl o=>AM (λa=>AB λ_ c d j=>(c x.2 d j).2.1 _ (o.1 a).1 (o.1 a).2) (λm=>AA (AI o! (by have:=(t a).2.2.2.2.2.2.2;omega)) λr hr=>AB λ_ c d j=>?_);exact((c x.2 d j).2.2 r hr.1).2 (o.2 m) λf n e=>by have⟨i,w⟩:=Dk n;exact O! ⟨i,f,w,e⟩ (s.2 k (t a).2.2.2.1)
def LX(a b:Ad):Prop:=b.1=a.1/\a.2.2<=b.2.2/\∃t,b.2.1=a.2.1++t
def LX.refl(a:Ad):LX a a:=⟨rfl,Ag _,[],k!⟩
def LX.trans{a b c}(h:LX a b)(g:LX b c):LX a c:=by have⟨i,k,t,j⟩:=h;have⟨d,f,u,e⟩:=g;exact⟨d.trans i,lY k f,t++u,by rw[e,j,A2]⟩
def LX.get{a b}(h:LX a b){i:Y}{e:AE}(f:a.2.1[i]?=D e):b.2.1[i]?=D e:=by have⟨c,_,t,d⟩:=h;grind[List.getElem?_append_left,Nat.lt_or_ge,u?]
def AKo(k:AU)(z:AE)(m:AU):Prop:=
 ∃e,m.2.2.1.2.1=k.2.2.1.2.1++[e]/\e.1=k.2.2.1.1+Z k.2.2.1.2.1/\e.2.1=z.2.1/\e.2.2.2.2.2=z.2.2.2.2.2/\
  (KP k.1 k.2.2.1.2.1 k.2.2.2.1.2.1 k.2.2.2.2.2.2.2 k.2.2.2.2.2.2.1->(e.2.1=1\/e.2.1=2)->0<=e.2.2.2.2.2.2.1.1->e.2.2.2.2.2.2.1.1<k.1->e.2.2.2.2.1=Bn k.2.2.1.2.1 e.2.2.2.2.2.2.1.1)/\
  (z.2.1≠7->m.2.2.2.2.2.2.1=k.2.2.2.2.2.2.1)/\
  (z.2.1=7->0<=z.2.2.2.2.2.2.1.1/\∃w,k.2.2.2.2.2.2.1[z.2.2.2.2.2.2.1.1.toNat]?=D w/\m.2.2.2.2.2.2.1=k.2.2.2.2.2.2.1.set z.2.2.2.2.2.2.1.1.toNat ((if z.2.2.2.2.2.1>w.1 then z.2.2.2.2.2.1 else w.1),w.2))
def AAJ(k:AU)(z:AE)(m:AU):Prop:=
 m.1=k.1/\LX k.2.2.1 m.2.2.1/\Dc m.2.2.1/\m.2.2.2.1=k.2.2.2.1/\m.2.2.2.2.1=k.2.2.2.2.1/\ABl k.2.2.2.2.2.1 z.2.1 z.2.2.1 m.2.2.2.2.2.1/\m.2.2.2.2.2.2.2=k.2.2.2.2.2.2.2/\SB m/\AKo k z m
def GS{x:AU×AE}(h:SB x.1):An (Ek x) λr=>r.2.2=0->VK x.1/\AAJ x.1 x.2 r.1/\r.2.1=x.1.2.2.1.1+Z x.1.2.2.1.2.1:=by
 unfold Ek;refine EM (CQ h) λv q E=>AP (λa=>AB n!) (λa=>?_);have n:=E a;rw[a]at q;refine AA (P:=λs=>(∃u,s=.inl u/\u.2.1≠0)\/∃u,s=.inr u/\u.1.2.1=x.2.2.1/\u.1.2.2.1=x.2.2.2.1/\u.1.2.2.2.2.2=x.2.2.2.2.2.2) ?_ λs D_=>?_
 ·repeat' with_reducible first|intro a|apply AC|apply AP|apply AK|apply AM|(apply BJ;try dsimp only)|apply Bk|apply B7|apply Nt|(apply BC;try dsimp only)|(apply A3;try dsimp only)|(apply BA<;>(intro u b;try subst b))|apply AB|(refine AO ?_ (GC ?_);intro r hr)|(refine AO ?_ (AI ?_ ?_);rintro r ⟨hr,N⟩)
  all_goals ((try dsimp[V]at*);(try first|omega|assumption|grind[Aa,SB]))
 rcases D_ with⟨u,rfl,b⟩|⟨u,rfl,b⟩;exact BC (AB λc=>O! c b);apply A3;refine AA (CA) λO A_=>AA (P:=λv:AE=>v.2.1=x.2.2.1/\v.2.2.1=x.2.2.2.1/\v.2.2.2.2.2=x.2.2.2.2.2.2/\(KP x.1.1 x.1.2.2.1.2.1 x.1.2.2.2.1.2.1 x.1.2.2.2.2.2.2.2 x.1.2.2.2.2.2.2.1->(v.2.1=1\/v.2.1=2)->0<=v.2.2.2.2.2.2.1.1->v.2.2.2.2.2.2.1.1<x.1.1->v.2.2.2.2.1=Bn x.1.2.2.1.2.1 v.2.2.2.2.2.2.1.1)) ?_ λt d=>?_;refine AM (λa=>?_) (λa=>AB ⟨b.1,b.2.1,b.2.2,λ_ n=>O! (A_.2 n) (by simp[a])⟩);exact AA (LG h) λw F=>AB ⟨b.1,b.2.1,b.2.2,λo _ G H=>F q o G H⟩;refine AA (bc) λi B=>AK (λa=>AB (O! · a)) (λa=>?_);have⟨a1,a2,a3,a4,a5,a6⟩:=B a;dsimp only at a2 a3 a4 a5 a6;refine AA (HZ) λp e=>AA (iH) λI l=>AK (λa=>AB (O! · a)) (λf=>AA (Vc) λJ m=>AK (λa=>AB (O! · a)) (λg=>AB λ_=>⟨n,?_⟩))
 have L:=a2.1;have M:Z i.1.2.1=Z x.1.2.2.1.2.1+1:=by rw[a3];simp
 have⟨K,y,k,z⟩:=e.1 (e.2 a1 d! d!);dsimp only at y k z;have C:p.1=(i.2.1,t.2):=by
  have:(i.2.1-i.1.1).toNat=Z x.1.2.2.1.2.1:=o!
  rw[this,a3]at k;simpa using k.symm
 have hn:=l f;have j:=(m g).2;rw[C]at hn j;dsimp only at hn j;rw[d.1,d.2.1]at hn;rw[d.1,d.2.2.1]at j;exact⟨⟨rfl,⟨a4,Int.le_of_eq a6.symm,_,a3⟩,a1,rfl,rfl,hn,rfl,⟨h.1,by have:=hn.1;have:=h.2.1;dsimp only at*;omega,h.2.2⟩,(i.2.1,t.2),a3,a5,d.1,d.2.2.1,d.2.2.2,j⟩,a5⟩
def AAJ.ki{k m}{z}(h:AAJ k z m)(b:KI B k)(a:z.2.1≠1/\z.2.1≠2/\z.2.1≠6/\z.2.1≠7/\z.2.1≠8):KI B m:=by obtain⟨a1,_,_,a4,_,_,a7,_,e,c,g,d,i,j,f,l⟩:=h;unfold KI;rw[a1,a4,a7,c,f a.2.2.2.1];rw[<-d]at a;exact⟨b.1.app ⟨λh=>o!,λh=>o!,λh=>by omega,by omega⟩,b.2.1.app ⟨a.1,a.2.1⟩,b.2.2⟩
def AAJ.sk{k m}{z}(h:AAJ k z m)(a:SK B k)(b:z.2.1≠1/\z.2.1≠2/\z.2.1≠6/\z.2.1≠7/\z.2.1≠8):SK B m:=h.2.2.2.2.2.2.2.1.sk (h.ki a.ki b)
end Go.Pm
namespace Go.Pm
open Go Go.Ab
def DI(d:Bv):Prop:=Z d.1<=64/\(∀(i:Y)(s:Bc),d.1[i]?=D s->Z s=256)/\d.2.2.1=[]/\d.2.2.2.2=[]
def X9{x:U}{s:U×List Bc}(h:0<=s.1/\s.1<=x/\x<=64/\Z s.2=s.1/\∀(i:Y)(t:Bc),s.2[i]?=D t->t=Ew (ς (ο 256) 0)):An (Ak (Mu x) s) λr=>(Z r:U)=x/\∀(i:Y)(t:Bc),r[i]?=D t->t=Ew (ς (ο 256) 0):=by
 refine AY (λ(s:Int×List Bc)=>0<=s.1/\s.1<=x/\x<=64/\Z s.2=s.1/\∀(i:Y)(t:Bc),s.2[i]?=D t->t=Ew (ς (ο 256) 0)) (λs=>(x-s.1).toNat) h (λs c=>?_);unfold Mu;have⟨f,g,a,j,b⟩:=c;have k:(Ew (ς (ο 256) 0)).length=256:=by rw[ND,H4];rfl
 repeat' with_reducible first|apply AC<;>intro d|apply AM<;>intro d|apply AB|(refine AO ?_ (Ac ?_);rintro r ⟨hr,l,e⟩)
 all_goals first|omega|(generalize Ew (List.replicate (Int.toNat 256) 0)=bs at*;simp;omega)|(generalize Ew (List.replicate (Int.toNat 256) 0)=bs at*;rw[(Aa (x:=s.1+1))];refine⟨⟨by omega,by omega,a,by grind,?_⟩,by omega⟩;grind)|(exact⟨by omega,b⟩)
def TL{x:U}(h:0<=x/\x<=64):An (Py x) λr=>(Z r:U)=x/\∀(i:Y)(t:Bc),r[i]?=D t->t=Ew (ς (ο 256) 0):=by exact AA (X9 ⟨Ag _,h.1,h.2,rfl,λi t a=>by simp at a⟩) λr hr=>AB hr
def jg{x}:An (Kx x) λr=>r.2=0->DI r.1/\Z r.1.1=x/\∀(i:Y)(t:Bc),r.1.1[i]?=D t->t=Ew (ς (ο 256) 0):=by refine AC (λb=>AB n!) (λb=>AC (λb=>AB n!) (λc=>AA (TL o!) λr hr=>AB λ_=>⟨⟨d!,λi t d=>?_,rfl,rfl⟩,hr⟩));rw[hr.2 i t d,ND,H4];rfl
def eO{x}:An (MO x) λr=>z:=by
 unfold MO;exact x!
def Y2{x:Bv}{s:U}(h:0<=s/\s<=Z x.1/\(Z x.1:U)<=16777216):An (Ak (Nw x) s) λr=>r≠.inl A:=by
 refine AY (λ(s:Int)=>0<=s/\s<=Z x.1/\(Z x.1:U)<=16777216) (λs=>((Z x.1:U)-s).toNat) h (λs b=>?_);unfold Nw;exact x!
def Y3{x:Bv}{s:U}(h:0<=s/\s<=Z x.2.2.1/\(Z x.2.2.1:U)<=16777216):An (Ak (Nx x) s) λr=>r≠.inl A:=by
 refine AY (λ(s:Int)=>0<=s/\s<=Z x.2.2.1/\(Z x.2.2.1:U)<=16777216) (λs=>((Z x.2.2.1:U)-s).toNat) h (λs b=>?_);unfold Nx;exact x!
def Y4{x:Bv}{s:U}(h:0<=s/\s<=Z x.2.2.2.2/\(Z x.2.2.2.2:U)<=16777216):An (Ak (Ny x) s) λr=>r≠.inl A:=by
 refine AY (λ(s:Int)=>0<=s/\s<=Z x.2.2.2.2/\(Z x.2.2.2.2:U)<=16777216) (λs=>((Z x.2.2.2.2:U)-s).toNat) h (λs b=>?_);unfold Ny;exact x!
def eM{x:Bv}(h:Z x.2.2.1<=16777216):An (MN x) λr=>r=A->1<=Z x.1/\Z x.1<=64:=by
 unfold MN;exact x!
def N2{x:Bv×U}(h:Z x.1.2.2.1<=16777216):An (G4 x) λr=>r=0->0<=x.2/\x.2<Z x.1.1/\Z x.1.1<=64:=by
 unfold G4;exact x!
def Xj{x:List U×U}{s:U×List U}(h:0<=s.1/\s.1<=Z x.1/\Z x.1<=16777216/\Z s.2<=s.1):An (Ak (Lv x) s) λr=>Z r<=Z x.1:=by
 refine AY (λ(s:Int×List Int)=>0<=s.1/\s.1<=Z x.1/\Z x.1<=16777216/\Z s.2<=s.1) (λs=>((Z x.1:U)-s.1).toNat) h (λs c=>?_);unfold Lv;exact x!
def SX{x:E U×U}(h:Z x.1<=16777216):An (Fh x) λr=>Z r<=Z x.1:=by
 unfold Fh;exact x!
def bX{x:List U×U}{s:U}(h:0<=s/\s<=Z x.1/\(Z x.1:U)<=16777216):An (Ak (Pz x) s) λr=>z:=by
 refine AY (λ(s:Int)=>0<=s/\s<=Z x.1/\(Z x.1:U)<=16777216) (λs=>((Z x.1:U)-s).toNat) h (λs b=>?_);unfold Pz;exact x!
def jh{x:E U×U}(h:Z x.1<=16777216):An (OS x) λr=>z:=by
 unfold OS;exact x!
def hW{x:Bv×U}(h:DI x.1):An (NK x) λr=>r.2=0->Z r.1=256/\0<=x.2/\x.1.1[x.2.toNat]?=D r.1:=by
 unfold NK;exact x!
def DI.set{d}{l:E Bc}{i}{t:Bc}{u:E U}{w:U}{b:Bool}(h:DI d)(c:l=d.1)(n:Z t=256)(e:Z u<=([]:E U).length):DI (Es l i t,w,u,b,[]):=by subst c;have⟨a,f,g,k⟩:=h;refine⟨by simpa[Es]using a,λj s m=>?_,fX.1 (by simpa using e),rfl⟩;grind[Es]
def hY{x:Bv×U×Bc×U}(h:DI x.1):An (Ra x) λr=>r.2=0->DI r.1/\∃o,0<=x.2.1/\x.1.1[x.2.1.toNat]?=D o/\r.1.1=Es x.1.1 x.2.1 (x.2.2.1.take x.2.2.2.toNat++o.drop x.2.2.2.toNat):=by
 have⟨C,s,n,t⟩:=h;refine AA (N2 (by dsimp only;rw[n];simp)) λF i=>AK (λg=>AB (O! · g)) (λg=>AC (y? n!) (λc0=>AC (y? n!) (λB=>AK (y? n!) (λv=>?_))));have⟨b,c,E⟩:=i g;simp only[V]at v;refine AA (Ac w!) λw j=>AA (Ac (by rw[n];simp)) λz k=>AA (Ac (by rw[t];simp)) λA_ m=>?_;have j:w=x.1.1:=q!
 have k:z=[]:=q!
 have m:A_=[]:=q!
 subst j k m;refine AA (Bx (Ag _)) λG e=>AA (AI b c) λH _=>AA (AI b c) λq p=>?_;have D_:=s _ _ p.1;refine AA (Bx o! i! (by simp[V])) λI f=>AA (CR (by simp only[V]at f;omega)) λJ u=>AA (AI b c) λ_ _=>AA (AI b c) λ_ _=>AA (SX k!) λy d=>AB λ_=>⟨h.set rfl (by simp only[V]at f;omega) d,q,b,p.1,?_⟩
 dsimp only;rw[u.1,e.1,f.1,BN (l:=q.drop _) (by simp[V])];simp
def whole{l:E Bc}{i:Y}{s o a b r:Bc}(h:V s=256)(f:∀(i:Y)(s:Bc),l[i]?=D s->Z s=256)(hr:r=a++b)(c:a=List.take (ο 256-ο 0) (List.drop (ο 0) s))(d:b=List.take ((V o).toNat-ο 256) (List.drop (ο 256) o))(g:l[i]?=D o):r=s:=by have j:=f _ _ g;have e:List.drop (ο 256) o=[]:=lj (by simp only[Int.reduceToNat];omega);simp only[V]at h;rw[hr,c,d,e,List.take_nil,DR];exact BN w!
def eN{x:Bv×U×Bc}(h:DI x.1):An (Qp x) λr=>r.2=0->DI r.1/\0<=x.2.1/\r.1.1=Es x.1.1 x.2.1 x.2.2:=by
 have⟨B,o,i,j⟩:=h;refine AA (N2 (by dsimp only;rw[i];simp)) λC g=>AK (λb=>AB (O! · b)) (λb=>AK (λb=>AB n!) (λd=>AQ (λb=>AB n!) (λq=>AA (Ac w!) λy t=>AA (Ac (by rw[i];simp)) λz u=>AA (Ac (by rw[j];simp)) λA_ v=>?_)));have l:y=x.1.1:=q!
 have m:z=[]:=q!
 have n:A_=[]:=q!
 subst l m n;have l1:∀s,s.1=0->Ak (Nz x) s=D s.2:=λs e=>by rw[Df];unfold Nz;rw[j,e];rfl
 rw[l1 _ rfl];apply BJ;have l2:∀a s,a.1=[]->s.2.1=0->Ak (N0 x a) s=D (s.1,(s.2.2.2.2.2.2.1,(s.2.2.2.2.2.1,s.2.2.2.2.2.2.2))):=λa s f e=>by rw[Df];unfold N0;rw[f,e];rfl
 have w:∀a s,a.1=[]->s.1=0->Ak (N1 a) s=D (s.2.2.2.2.2.1,s.2.2.2.2.1,s.2.2.2.2.2.2):=λa s f e=>by rw[Df];unfold N1;rw[f,e];rfl
 rw[l2 _ _ rfl rfl];repeat' with_reducible first|apply AC<;>intro b|apply AP<;>intro b|apply AQ<;>intro b|apply AK<;>intro b|apply AM<;>intro b|(apply BJ;try dsimp only)|apply Bk|apply B7|apply AB|(rw[w _ _ rfl rfl];apply BJ;dsimp only)|(refine AO ?_ (SX ?_);intro r hr)|(refine AO ?_ (AI ?_ ?_);rintro r ⟨hr,q⟩)|(refine AO ?_ (Ac ?_);rintro r ⟨hr,k,p⟩)|(refine AO ?_ (CR ?_);rintro r ⟨hr,k⟩)|(refine AO ?_ (Bx ?_ ?_ ?_);rintro r ⟨hr,k⟩)
 all_goals first|omega|(simp;done)|(intro c;exact absurd c (by decide))|(exact λ_=>⟨h.set rfl (by grind) hr,(g (by assumption)).1,congrArg (Es _ _) (whole d o (by assumption) (by assumption) (by assumption) (by assumption))⟩)|(cases b;done)|grind
def DC(p:B4):Y:=p.2.1.countP λf=>f.2.1
def UC(p:B4):Y:=p.2.1.countP λf=>f.2.2.2
def AAk{a:Type}{l:E a}{i:Y}{o n:a}{q:a->Bool}(h:l[i]?=D o):(l.set i n).countP q+(if q o=A then 1 else 0)=l.countP q+(if q n=A then 1 else 0):=q!
theorem MV{x:B4×U×BK}(h:Z x.1.2.1<=16777216)(a:0<=x.2.1/\x.2.1<Z x.1.2.1):An (I1 x) λr=>r=(x.1.1,x.1.2.1.set x.2.1.toNat x.2.2,x.1.2.2):=by refine AA (Ac (by simpa using h)) λr hr=>?_;have⟨hr,b,_⟩:=hr;subst hr;refine AA (AI a.1 a.2) λ_ _=>AA (AI a.1 a.2) λ_ _=>AB rfl
def core(f:BK):AT×Bool×U:=(f.1,f.2.1,f.2.2.1)
def CF(l:E BK):E (AT×Bool×U):=l.map core
def AIW{l:E BK}{i:Y}{f g:BK}(h:l[i]?=D f)(a:core g=core f):CF (l.set i g)=CF l:=by unfold CF;apply Jc;grind
theorem tN{l m}(h:CF m=CF l){i:Y}{f:BK}(a:m[i]?=D f):∃g,l[i]?=D g/\core g=core f:=by
 have:(CF m)[i]?=D (core f):=by unfold CF;rw[List.getElem?_map,a];rfl
 rw[h]at this;unfold CF at this;grind
def AIV{l m}(h:CF m=CF l):Z m=Z l:=by have:=E! Z h;simpa[CF]using this
def ABh{p}:DC p=(CF p.2.1).countP λc=>c.2.1:=by unfold DC CF;rw[List.countP_map];rfl
theorem K2.congr{l m}{n}(h:CF m=CF l)(d:K2 l n):K2 m n:=by refine⟨λi f r b=>?_,λi j f g c s b q=>?_⟩;have⟨g,a,o⟩:=tN h b;have:=d.1 i g r a;grind[core,pk];have⟨e,a,o⟩:=tN h b;have⟨k,p,t⟩:=tN h q;have:=d.2 i j e k c s a p;grind[core]
def QJ.uniq{p}(h:QJ p){i j:Y}{f g:BK}(a:p.2.1[i]?=D f)(b:p.2.1[j]?=D g)(e:f.1.1=g.1.1):f=g:=by have c:=h.2.2.2.2.2.2;grind
def YC{c:List (AT×Bool×U)}{z:U}{s:B4}(h:c=CF s.2.1/\z=s.1/\0<=s.2.2/\s.2.2<Z s.2.1/\Z s.2.1<=64):An (Ak Sa s) λr=>c=CF r.2.1/\z=r.1/\0<=r.2.2/\r.2.2<Z r.2.1/\Z r.2.1<=64:=by
 refine AY (λs=>c=CF s.2.1/\z=s.1/\0<=s.2.2/\s.2.2<s.2.1.length/\Z s.2.1<=64) UC h (λs n=>?_);have⟨k,l,i,j,m⟩:=n;refine AA (AI i j) λf q=>AM (λo=>?_) (λo=>AB ⟨k,l,i,j,m⟩);refine AA (AI i j) λd t=>?_;have e:d=f:=q!
 subst e;refine AA (MV d! ⟨i,j⟩) λp u=>?_;subst u;refine AQ (λv=>?_) (λv=>AB ?_);grind;rw[(Aa (x:=s.2.2+1))];refine⟨⟨?_,l,(Int.tmod_nonneg (V (s.2.1.set s.2.2.toNat (d.1,d.2.1,d.2.2.1,X))) (a:=s.2.2+1) o!),(Int.tmod_lt_of_pos (s.2.2+1) (b:=V (s.2.1.set s.2.2.toNat (d.1,d.2.1,d.2.2.1,X))) w!),by rw[Yj];exact m⟩,?_⟩;rw[k];exact(AIW (g:=(d.1,d.2.1,d.2.2.1,X)) q.1 rfl).symm;unfold UC;grind
def bi{x}:An (P5 x) λr=>(r.2.2=0->QJ x/\QJ r.1/\CF r.1.2.1=CF x.2.1/\oJ r.1 r.2.1)/\(QJ x->Z x.2.1≠0->r.2.2=0):=by refine AA Ei λv k=>AP (λc=>AB ⟨n!,λh _=>?_⟩) (λc=>?_);grind;have b:=k.1 c;have j:=b;have⟨n,o,q,l,s,t⟩:=b;refine AQ (λa=>AB ⟨n!,λ_ h=>O! a (by simpa[V]using h)⟩) (λa=>?_);simp only[V]at a;refine AA (YC ⟨rfl,rfl,l,o!⟩) λp b=>?_;have⟨d,u,e,g,w⟩:=b;refine AA (AI e g) λf i=>?_;have m:=AIV d;refine AB ⟨λ_=>⟨j,⟨d!,d!,d!,e,.inr g,?_⟩,d.symm,_,f,i.1,rfl⟩,λ_ _=>rfl⟩;grind[K2.congr]
def iE{x}:An (NQ x) λr=>QJ x.1->∀(i:Y)(f:BK),x.1.2.1[i]?=D f->f.1.1=x.2->f.2.1=X->(∀g∈r.1.2.1,g∈x.1.2.1)/\∀g∈x.1.2.1,g.2.1=A->g∈r.1.2.1:=by
 unfold NQ;refine AA Ei λv A_=>AP (λn=>AB λo=>O! (A_.2 o) (by simp[n])) (λn=>?_);have o:=A_.1 n;have T:=o.2.1;have U_:=o.2.2.1;refine AA (G6 o!) λi G=>?_;have⟨R,J,K,L⟩:=G;refine AC (λn=>AB λ_ j f p e _=>O! ⟨j,f,p,e⟩ (L n)) (λH=>?_);have⟨k,I,t⟩:=K o!;refine AA (AI o! J) λw Q=>?_;have B:w=k:=by grind[Option.some.inj]
 subst B;refine AM (λu=>AB λ_ j f p e l=>?_) (λu=>?_);have:=o.uniq p I (by rw[e,t]);subst this;rw[u]at l;cases l;have O:=Aa (x:=i+1);refine AA (Bd) λa C=>AA (Bd o! b! i!) λb D_=>?_;have S:=C.2;have M:=D_.2;simp[len]at M;refine AA (Ac (by rw[Be];omega)) λc s=>?_;have N:=s.2.1;rw[Be]at N;refine AA (Ac o!) λd E=>?_;have q:∀(j:Y)(f:BK),x.1.2.1[j]?=D f->f.1.1=x.2->f.2.1=X->(∀g∈d,g∈x.1.2.1)/\∀g∈x.1.2.1,g.2.1=A->g∈d:=by intro j f p e l;refine⟨λg y=>?_,λg y F=>?_⟩;grind[List.mem_of_mem_take,List.mem_of_mem_drop];have⟨m,z⟩:=Dk y;rw[(by grind[List.take_of_length_le,List.length_drop]:d=x.1.2.1.take i.toNat++x.1.2.1.drop (i.toNat+1)),Ah];rcases RP m i.toNat with h|h|h;exact .inl (BP (i:=m) (by rw[KK h];exact z));grind[Option.some.inj];exact .inr (BP (i:=m-(i.toNat+1)) (by rw[KJ];rw[show i.toNat+1+(m-(i.toNat+1))=m by omega];exact z))
 refine AA (P:=λ_=>True) (AC (y? trivial) (y? trivial)) λV _=>AA (P:=λ_=>True) (AC (y? trivial) (y? trivial)) λW _=>AB λ_=>q
theorem eU{x}:An (Qq x) λr=>r.2=0->QJ x.1/\DC r.1<=DC x.1/\(∀(i:Y)(f:BK),x.1.2.1[i]?=D f->f.1.1=x.2.1->f.2.1=A->f.1.2.1=x.2.2->DC r.1<DC x.1)/\(∀g∈r.1.2.1,∃f∈x.1.2.1,f.1.1=g.1.1/\f.1=g.1)/\∀f∈x.1.2.1,f.1.1≠x.2.1->f∈r.1.2.1:=by
 refine AA Ei λv C=>AP (λb=>AB n!) (λb=>?_);have l:=C.1 b;have J:=l.2.2.1;have I:=l.2.1;refine AA (G6 d!) λi B=>?_;have⟨G,D_,E,H⟩:=B;refine AC (λb=>AB n!) (λb=>?_);have⟨f,c,d⟩:=E o!;refine AA (AI o! D_) λg z=>?_;have e:g=f:=q!
 subst e;refine AC (λb=>AB n!) (λA_=>AP (λs=>AB (λ_=>⟨l,Ao _,λj k m a h _=>?_,λg z=>⟨g,z,rfl,rfl⟩,λf c _=>c⟩)) (λs=>?_));have:=l.uniq m c (by rw[a,d]);subst this;rw[s]at h;cases h;refine AA (P:=λn:BK=>(g.1.2.1=x.2.2->n.2.1=X)/\n.1=g.1) ?_ λn hn=>?_
 ·repeat' with_reducible first|intro b|apply AC|apply AP|apply AQ|apply AM|(apply BJ;try dsimp only)|apply Bk|apply B7|apply AB|(refine AO ?_ (AI ?_ ?_);rintro r ⟨hr,F⟩)
  all_goals grind
 ·refine AA (MV (by dsimp only;omega) ⟨by dsimp only;omega,by dsimp only;omega⟩) λp y=>?_;subst y;refine AB λ_=>?_;have u:=AAk (q:=λf:BK=>f.2.1) (n:=n) c;rw[s]at u;refine⟨l,?_,λj k m a h t=>?_,ACU c hn.2,λk m w=>yQ c k m (by rw[d];exact w)⟩;unfold DC;dsimp only;simp at u;split at u<;>omega;have:=l.uniq m c (by rw[a,d]);subst this;rw[hn.1 t]at u;unfold DC;dsimp only;simp at u;omega
def ZX(c:BitVec 32):BitVec 32:=if c.getLsbD 0=A then(c>>>1)^^^2197175160#32 else c>>>1
def nz:Y->BitVec 32->BitVec 32
 |0,c=>c
 |n+1,c=>ZX (nz n c)
def j9(c:BitVec 32)(b:UInt8):BitVec 32:=nz 8 (c^^^BitVec.ofNat 32 b.toNat)
def AGr(s:Bc):BitVec 32:=4294967295#32^^^s.foldl j9 4294967295#32
def QR(s:Bc):U:=((AGr s).toNat:U)
def jO{a b:BitVec 32}(h:a^^^b=0#32):a=b:=t!
def ADn(a b:BitVec 32):ZX (a^^^b)=ZX a^^^ZX b:=by
 unfold ZX;rw[BitVec.getLsbD_xor,BitVec.ushiftRight_xor_distrib];cases a.getLsbD 0<;>cases b.getLsbD 0<;>simp;grind;grind;have:a>>>1^^^2197175160#32^^^(b>>>1^^^2197175160#32)=(a>>>1^^^b>>>1)^^^(2197175160#32^^^2197175160#32):=by ac_rfl
 grind
theorem xq:∀n(a b:BitVec 32),nz n (a^^^b)=nz n a^^^nz n b
 |0,a,b=>rfl
 |n+1,a,b=>by rw[nz,nz,nz,xq n,ADn]
def ABe{c}(h:ZX c=0#32):c=0#32:=by
 unfold ZX at h;by_cases b:c.getLsbD 0=A;rw[C! b]at h;have a:(c>>>1).getLsbD 31=(2197175160#32).getLsbD 31:=by rw[(jO h)]
 rw[BitVec.getLsbD_ushiftRight]at a;simp_all;rw[D! b]at h;apply pp;intro i d;cases i with
 |zero=>grind
 |succ j=>
  have a:(c>>>1).getLsbD j=(0#32).getLsbD j:=by rw[h]
  grind
def zR:∀n{c},nz n c=0#32->c=0#32
 |0,c,h=>h
 |n+1,c,h=>zR n (ABe h)
def ACF{n}{a b}(h:nz n a=nz n b):a=b:=by refine jO (zR n ?_);rw[xq,h,cT]
def AGl{a b}{x}(h:j9 a x=j9 b x):a=b:=by have c:=ACF h;simp_all
def AGm{a}{x y}(h:j9 a x=j9 a y):x=y:=by
 have:a^^^(a^^^BitVec.ofNat 32 x.toNat)=a^^^(a^^^BitVec.ofNat 32 y.toNat):=by rw[(ACF h)]
 rw[<-lT,cT,lU,<-lT,cT,lU]at this;have b:=E! π this;rw[cR,cR]at b;have c:=x.toNat_lt;have d:=y.toNat_lt;exact UInt8.toNat_inj.1 o!
def AEr:∀(s:Bc){a b},s.foldl j9 a=s.foldl j9 b->a=b
 |[],a,b,h=>h
 |x::r,a,b,h=>AGl (AEr r h)
def AGs{u v:Bc}{x y:UInt8}(h:QR (u++x::v)=QR (u++y::v)):x=y:=by
 unfold QR at h;have a:AGr (u++x::v)=AGr (u++y::v):=BitVec.eq_of_toNat_eq o!;unfold AGr at a;rw[YU,YU,YV,YV]at a;have b:∀p q:BitVec 32,4294967295#32^^^p=4294967295#32^^^q->p=q:=λp q c=>by
  have:4294967295#32^^^(4294967295#32^^^p)=4294967295#32^^^(4294967295#32^^^q):=by rw[c]
  rwa[<-lT,cT,lU,<-lT,cT,lU]at this
 exact AGm (AEr v (b _ _ a))
def aJ(s:Bc):0<=QR s/\QR s<4294967296:=by unfold QR;omega
theorem bvI(c:BitVec 32):κ 32 (c.toNat:U)=c:=q!
theorem w32(c:BitVec 32):ι .u32 (c.toNat:U)=(c.toNat:U):=by rw[xH];omega
theorem fdN(c:BitVec 32)(k:Y)(a:k<=32):Int.fdiv (c.toNat:U) (2^(min (ο (k:U)) 32))=((c>>>k).toNat:U):=by rw[show min (ο (k:U)) 32=k by omega,lX _ (by exact_mod_cast BS (2^k)),BitVec.toNat_ushiftRight,Nat.shiftRight_eq_div_pow];grind
theorem fd1(c:BitVec 32):Int.fdiv (c.toNat:U) (2^(min (ο 1) 32))=((c>>>1).toNat:U):=by grind[fdN]
def fd4(c:BitVec 32):Int.fdiv (c.toNat:U) (2^(min (ο 4) 32))=((c>>>4).toNat:U):=by grind[fdN]
theorem AHI(c:BitVec 32):((ι .u32 (((π ((κ 32 (c.toNat:U))&&&(κ 32 1))):Y):U))==1)=c.getLsbD 0:=by grind[bvI,w32,BitVec.toNat_and,κ]
def AIQ(c:BitVec 32):(S ((ι .u32 (((π ((κ 32 (c.toNat:U))&&&(κ 32 1))):Y):U))==1) (D (ι .u32 (((π ((κ 32 (Int.fdiv (c.toNat:U) (2^(min (ο 1) 32))))^^^(κ 32 2197175160))):Y):U)))<|D (Int.fdiv (c.toNat:U) (2^(min (ο 1) 32))):W U)=D ((ZX c).toNat:U):=by grind[AHI,fd1,bvI,w32,ZX]
def AJf(c:BitVec 32):Ak Io ((c.toNat:U),0)=D ((nz 8 c).toNat:U):=by
 have key:An (Ak Io ((c.toNat:U),0)) λr=>r=((nz 8 c).toNat:U):=by refine AY (λs=>0<=s.2/\s.2<=8/\s.1=((nz s.2.toNat c).toNat:U)) (λs=>(8-s.2).toNat) ⟨Ag _,d!,rfl⟩ ?_;rintro⟨g,a⟩ ⟨e,f,b⟩;dsimp only at e f b;subst b;refine AC (λd=>?_) (λd=>AB (by rw[show a.toNat=8 by omega]));rw[AIQ,AD,Aa];refine AB ⟨⟨o!,o!,?_⟩,o!⟩;rw[show(a+1).toNat=a.toNat+1 by omega];rfl
 obtain⟨r,hr,rfl⟩:=key;exact hr
def AEV(c:BitVec 32)(b:UInt8):ι .u32 (((π ((κ 32 (c.toNat:U))^^^(κ 32 (ι .u32 (b.toNat:U))))):Y):U)=((c^^^BitVec.ofNat 32 b.toNat).toNat:U):=by grind[ι,xH,bvI,w32]
def AFw{x:Bc}{i:U}(a:0<=i)(c:i<Z x):∃b:UInt8,six x i=D (b.toNat:U)/\x.take (i+1).toNat=x.take (ο i)++[b]:=by obtain⟨k,rfl⟩:=Et a;refine⟨x[k],?_,?_⟩;grind[six];simp_all
def xO{x:Bc}(h:Z x<=2199023255552):FX x=D (QR x):=by
 have key:An (Ak (Im x) (4294967295,0)) λr=>r=((x.foldl j9 4294967295#32).toNat:U):=by refine AY (λ(s:Int×Int)=>0<=s.2/\s.2<=Z x/\s.1=(((x.take s.2.toNat).foldl j9 4294967295#32).toNat:U)) (λs=>((Z x:U)-s.2).toNat) ⟨Ag _,d!,rfl⟩ ?_;rintro⟨i,j⟩ ⟨c,e,d⟩;dsimp only at c e d;subst d;unfold Im;simp only[V];refine AC (λa=>?_) (λa=>AB (by rw[BN o!]));have⟨b,f,g⟩:=AFw c a;rw[f,AD,AEV,AJf,AD,Aa];refine AB ⟨⟨o!,o!,?_⟩,o!⟩;rw[g,YU];rfl
 obtain⟨r,hr,rfl⟩:=key;unfold FX;rw[hr,AD,bvI];rw[show(κ 32 (if(X=A)then(-1)else(if(X=A)then((2^(32-1))-1)else((2^32)-1))))=4294967295#32 by decide,w32];rfl
def AK5{d:BitVec 32}(b:d.getLsbD 0=X)(c:d.getLsbD 1=X)(f:d.getLsbD 2=X)(g:d.getLsbD 3=X):nz 4 d=d>>>4:=by
 have st:∀e:BitVec 32,e.getLsbD 0=X->ZX e=e>>>1:=λe a=>by unfold ZX;rw[D! (by rw[a];decide)]
 show ZX (ZX (ZX (ZX d)))=_;grind
def AJF(c:BitVec 32):(c>>>4)^^^nz 4 (c&&&15#32)=nz 4 c:=by
 have d:c=(c&&& ~~~15#32)^^^(c&&&15#32):=by apply pp;intro i a;rw[BitVec.getLsbD_xor,BitVec.getLsbD_and,BitVec.getLsbD_and,BitVec.getLsbD_not];grind
 have e:nz 4 (c&&& ~~~15#32)=c>>>4:=by
  have z:∀i,i<4->(c&&& ~~~15#32).getLsbD i=X:=λi a=>by
   have:i=0\/i=1\/i=2\/i=3:=o!
   grind
  rw[AK5 (z 0 g!) (z 1 g!) (z 2 g!) (z 3 g!)];apply pp;intro i a;have b:(15#32).getLsbD (4+i)=X:=by show(15#32).toNat.testBit (4+i)=X;grind
  grind
 grind[xq]
def AJc(c:BitVec 32):Ak MI ((c.toNat:U),0)=D ((nz 4 c).toNat:U):=by
 have key:An (Ak MI ((c.toNat:U),0)) λr=>r=((nz 4 c).toNat:U):=by refine AY (λs=>0<=s.2/\s.2<=4/\s.1=((nz s.2.toNat c).toNat:U)) (λs=>(4-s.2).toNat) ⟨Ag _,d!,rfl⟩ ?_;rintro⟨g,a⟩ ⟨e,f,b⟩;dsimp only at e f b;subst b;refine AC (λd=>?_) (λd=>AB (by rw[show a.toNat=4 by omega]));rw[AIQ,AD,Aa];refine AB ⟨⟨o!,o!,?_⟩,o!⟩;rw[show(a+1).toNat=a.toNat+1 by omega];rfl
 obtain⟨r,hr,rfl⟩:=key;exact hr
def AD5(t:Fin (15+1)->(Ty.int IntKind.u32).D):Prop:=∀j:Fin 16,t j=((nz 4 (BitVec.ofNat 32 j.val)).toNat:U)
def AKW:An (Lr ()) AD5:=by refine AA (P:=AD5) ?_ λr hr=>AB hr;refine AY (λs=>0<=s.1/\s.1<=16/\∀j:Fin 16,(j.val:U)<s.1->s.2 j=((nz 4 (BitVec.ofNat 32 j.val)).toNat:U)) (λs=>(16-s.1).toNat) ⟨Ag _,g!,λj b=>O! b d!⟩ ?_;rintro⟨h,i⟩ ⟨c,g,d⟩;refine AC (λa=>?_) (λa=>AB λj=>d j (by have:=j.isLt;omega));obtain⟨k,rfl⟩:=Et c;rw[(by grind[xH,BitVec.toNat_ofNat]:ι .u32 (k:U)=((BitVec.ofNat 32 k).toNat:U)),AJc,AD];refine AA (Ch o! o!) λl e=>AA (Ch o! o!) λm f=>AB ?_;grind[Aa,W6]
def AF6{t:Fin (15+1)->(Ty.int IntKind.u32).D}(b:AD5 t)(c:BitVec 32):HF t (ι .u32 (((π ((κ 32 (c.toNat:U))&&&(κ 32 15))):Y):U))=D ((nz 4 (c&&&15#32)).toNat:U):=by
 rw[bvI,show κ 32 15=15#32 by decide,w32];have a:(c&&&15#32).toNat<16:=by exact Nat.lt_succ_of_le Nat.and_le_right
 unfold HF;rw[dif_pos o!];refine E! D ((b ⟨(c&&&15#32).toNat,a⟩).trans ?_);grind
def AKK(c:BitVec 32):ι .u32 (((π ((κ 32 (Int.fdiv (c.toNat:U) (2^(min (ο 4) 32))))^^^(κ 32 ((nz 4 (c&&&15#32)).toNat:U)))):Y):U)=((nz 4 c).toNat:U):=by rw[fd4,bvI,bvI,AJF,w32]
def ACE:∀m n c,nz m (nz n c)=nz (m+n) c
 |0,n,c=>by rw[nz,Dg]
 |m+1,n,c=>by rw[nz,ACE m n,Nat.succ_add];rfl
def yD{x:Bc}(h:Z x<=2199023255552):PR x=D (QR x):=by
 unfold PR;have⟨t,f,a⟩:=AKW;rw[f,AD];have key:An (Ak (VT x t) (4294967295,0)) λr=>r=((x.foldl j9 4294967295#32).toNat:U):=by refine AY (λ(s:Int×Int)=>0<=s.2/\s.2<=Z x/\s.1=(((x.take s.2.toNat).foldl j9 4294967295#32).toNat:U)) (λs=>((Z x:U)-s.2).toNat) ⟨Ag _,d!,rfl⟩ ?_;rintro⟨k,l⟩ ⟨d,g,e⟩;dsimp only at d g e;subst e;unfold VT;simp only[V];refine AC (λc=>?_) (λc=>AB (by rw[BN o!]));have⟨b,i,j⟩:=AFw d c;rw[i,AD,AEV,AF6 a,AD,AD,AKK,AF6 a,AD,AD,AKK,Aa];refine AB ⟨⟨o!,o!,?_⟩,o!⟩;rw[j,YU,ACE];rfl
 obtain⟨r,hr,rfl⟩:=key;rw[hr,AD,bvI];rw[show(κ 32 (if(X=A)then(-1)else(if(X=A)then((2^(32-1))-1)else((2^32)-1))))=4294967295#32 by decide,w32];rfl
def jt(n:Y):Bc:=ς n 0
def XH(c:Cr):Bc:=DB (if c.1=A then(Z c.2:U)else 255) 1++(c.2++jt (12-Z c.2))
def cl(a:Ge 16 Cr)(i:Y):Cr:=(HF a i).getD (X,[])
def Pu(a:Ge 16 Cr)(k:Y):Bc:=(List.range k).flatMap λi=>XH (cl a i)
def Ll(x:AT):Bc:=DB x.2.1 8++(DB x.1 4++(Pu x.2.2 16++jt 24))
def Ij(x:AT):Bc:=Ll x++(DB (QR (Ll x)) 4++DB x.2.1 8)
def nA{a}{i:Y}(h:i<16):HF a (i:U)=D (cl a i)/\cl a i=a ⟨i,h⟩:=by
 have e:HF a (i:U)=D (a ⟨i,h⟩):=by unfold HF;rw[dif_pos o!];rfl
 unfold cl;rw[e];exact⟨rfl,rfl⟩
theorem RU(a:Ge 16 Cr)(k:Y):Pu a (k+1)=Pu a k++XH (cl a k):=by unfold Pu;rw[List.range_succ,WY,H8,qA,DR]
def dp{c:Cr}(h:Z c.2<=12):(XH c).length=13:=by unfold XH jt;rw[AV,AV,A0,H4];omega
def Eb.cl{x}(h:Eb x)(i:Y):Fs (cl x.2.2 i):=by rcases A1 i 16 with a|a;rw[(nA a).2];exact(h.2.2.2.2 _).1;unfold Go.Pm.cl HF;rw[dif_neg o!];exact⟨g!,.inr rfl⟩
theorem Jd{x:AT}(h:Eb x):∀k:Y,(Pu x.2.2 k).length=13*k
 |0=>rfl
 |k+1=>by rw[RU,AV,Jd h k,dp (h.cl k).1];omega
def HV{x}(h:Eb x):(Ll x).length=244:=by unfold Ll jt;simp only[AV,A0,Jd h,H4]
theorem Yz{x}(h:Eb x):(Ij x).length=256:=by unfold Ij;simp only[AV,A0,HV h]
def VN{x}:(Ij x).take 8=DB x.2.1 8:=by unfold Ij Ll;rw[A2,F6 (A0 _ _)]
def o8{x}(h:Eb x):(Ij x).drop 248=DB x.2.1 8:=by unfold Ij;rw[<-A2,lm (by rw[AV,HV h,A0])]
def mw(n:Y):Ew (ς n 0)=jt n:=by unfold Ew jt;rw[List.map_replicate];rfl
def yW{x:U}(h:0<=x/\x<=16777216):HX x=D (jt (ο x)):=by unfold HX Go.Ab.mk;rw[C! ⟨h.1,Ag _,h.2⟩,AD,mw]
def oN{s:Bc}{n k:U}(h:Z s<=1099511627776)(a:1<=k/\k<=8):An (Aq (s,n,k)) λr=>r=s++DB n (ο k):=⟨_,IW h a.1 a.2,rfl⟩
def oL{x}(h:Eb x):Cm x=D 0:=by have⟨a,g,c⟩:=JB (x:=x);have⟨b,i,d⟩:=KX (x:=x);have e:a=A:=c.2 ⟨h.1,h.2.1,h.2.2.1,h.2.2.2.1⟩;have f:b=A:=d.2 h.2.2.2.2;unfold Cm;rw[g,e,AD,i,f];rfl
theorem Yc{x}(h:Eb x):Cn x=D (Ij x,0):=by
 suffices g:An (Cn x) λr=>r=(Ij x,0) by obtain⟨r,hr,rfl⟩:=g;exact hr
 unfold Cn;rw[oL h,AD];refine AK (O! rfl ·) λ_=>AA (oN g! g!) λL p=>AA (oN (by rw[p];simp[A0]) g!) λG z=>?_;have w:G=DB x.2.1 8++DB x.1 4:=by rw[z,p];rfl
 refine AA (P:=λr=>r=DB x.2.1 8++(DB x.1 4++Pu x.2.2 16)) ?_ λf d=>?_
 ·refine CV (λs=>0<=s.2/\s.2<=16/\s.1=DB x.2.1 8++(DB x.1 4++Pu x.2.2 s.2.toNat)) (λs=>(16-s.2).toNat) ⟨Ag _,u!,by rw[w];simp[Pu]⟩ ?_;rintro⟨s,i⟩ ⟨u,C,g⟩;dsimp only at u C g;subst g;unfold SV;dsimp only;refine AC (λb=>?_) (λb=>k? (by rw[show i.toNat=16 by omega]));have⟨t,K⟩:=nA (a:=x.2.2) (i:=i.toNat) o!;rw[Iz u]at t;have b:=(h.cl i.toNat).1;simp only[t,AD,Aa (x:=i+1)];have J:(DB x.2.1 8++(DB x.1 4++Pu x.2.2 i.toNat)).length<=300:=by simp only[AV,A0,Jd h];omega
  refine AA (P:=λv=>v=if(cl x.2.2 i.toNat).1=A then((cl x.2.2 i.toNat).2.length:U)else 255) ?_ λM A_=>?_;exact AM (λb=>AB (C! b).symm) (λb=>AB (D! (by rw[b];decide)).symm);refine AA (oN o! g!) λN q=>?_;have y:wi (12-V (cl x.2.2 i.toNat).2)=((12-(cl x.2.2 i.toNat).2.length:Y):U):=by rw[Aa i!];simp only[V];omega
  rw[y,yW o!,AD,DF];refine AA (CR (by simp only[jt,H4];omega)) λn c=>?_;have D_:Z n<=24:=by rw[c.2];simp only[jt,H4];omega
  refine AA (CR (by rw[q,AV,A0];simp only[Int.reduceToNat];omega)) λF k=>y! ⟨d!,d!,?_⟩ d!
  dsimp only;rw[k.1,c.1,q,A_,show(i+1).toNat=i.toNat+1 by omega,RU];simp only[XH,A2,Int.reduceToNat]
 have E:Z f=220:=by rw[d];simp only[AV,A0,Jd h]
 rw[show wi (244-V f)=24 by rw[Aa i!];simp only[V];omega,yW g!,AD];refine AA (CR (by simp only[jt,H4,Int.reduceToNat];omega)) λo l=>?_;have j:o=Ll x:=by rw[l.1,d];simp only[Ll,A2,Int.reduceToNat]
 rw[j,xO (by rw[HV h];decide),AD];have B:=aJ (Ll x);rw[Aa];refine AA (oN (by rw[HV h];decide) g!) λH e=>AA (oN (by rw[e,AV,HV h,A0];decide) g!) λI m=>AB ?_;rw[m,e];simp only[Ij,A2,Int.reduceToNat]
def ACy{c d}(e:Fs c)(f:Fs d)(h:XH c=XH d):c=d:=by obtain⟨g,l⟩:=c;obtain⟨i,m⟩:=d;obtain⟨j,b⟩:=EO h (by rw[A0,A0]);have l1:=e.1;have l2:=f.1;dsimp only at l1 l2;have a:=YM (k:=1) g! ⟨λ_=>by dsimp only;split<;>omega,by dsimp only;split<;>omega,by dsimp only;split<;>omega⟩ ⟨λ_=>by dsimp only;split<;>omega,by dsimp only;split<;>omega,by dsimp only;split<;>omega⟩ j;dsimp only at a b;cases g<;>cases i;have:=e.2;have:=f.2;simp_all;exfalso;simp at a;omega;exfalso;simp at a;omega;simp at a;exact Di rfl (EO b o!).1
def uB{x y}(a:Eb x)(b:Eb y):∀k:Y,Pu x.2.2 k=Pu y.2.2 k->∀i,i<k->cl x.2.2 i=cl y.2.2 i
 |0,_=>λi c=>O! c o!
 |k+1,h=>by rw[RU,RU]at h;obtain⟨d,e⟩:=EO h (by rw[Jd a,Jd b]);intro i c;by_cases f:i=k;subst f;exact ACy (a.cl i) (b.cl i) e;exact uB a b k d i o!
def AEm{x y}(a:Eb x)(b:Eb y)(h:Ij x=Ij y):x=y:=by obtain⟨h,_⟩:=EO h (by rw[HV a,HV b]);obtain⟨c,h⟩:=EO h (by rw[A0,A0]);obtain⟨d,h⟩:=EO h (by rw[A0,A0]);obtain⟨e,_⟩:=EO h (by rw[Jd a,Jd b]);have f:=a.1;have g:=a.2.1;have j:=a.2.2.1;have k:=a.2.2.2.1;have l:=b.1;have m:=b.2.1;have n:=b.2.2.1;have o:=b.2.2.2.1;refine Di (YM g! ⟨λ_=>by omega,by omega,by omega⟩ ⟨λ_=>by omega,by omega,by omega⟩ d) (Di (YM g! ⟨λ_=>by omega,by omega,by omega⟩ ⟨λ_=>by omega,by omega,by omega⟩ c) (funext λi=>?_));have:=uB a b 16 e i.val i.isLt;rw[(nA i.isLt).2,(nA i.isLt).2]at this;exact this
def TK{x}:An (Cn x) λr=>r.2=0->Eb x/\r.1=Ij x:=by have⟨v,b,h⟩:=Ov (x:=x);by_cases a:v=0;exact⟨_,Yc (h a),λ_=>⟨h a,rfl⟩⟩;unfold Cn;rw[b,AD];exact AK (y? λe=>O! e a) (O! · a)
theorem sy:JL ()=D (jt 256):=by unfold JL;rw[yW g!];rfl
def X8{x:Bc}{s:U×AT×AT}(h:0<=s.1/\s.1<=16/\Z x=256):An (Ak (HD x) s) λr=>∀u,r=.inl u->u.1=4:=by
 refine AY (λs=>0<=s.1/\s.1<=16/\Z x=256) (λs=>(16-s.1).toNat) h (λs e=>?_);unfold HD;obtain⟨g,i,j⟩:=e;have b:=Aa (x:=s.1*13);have c:=Aa (x:=12+s.1*13);have d:=Aa (x:=12+s.1*13+1);rw[b,c,d];repeat' with_reducible first|intro a|apply AC|apply AQ|apply AM|apply AB|(refine AO ?_ (Ch ?_ ?_);intro r hr)|(refine AO ?_ (Bx ?_ ?_ ?_);rintro r ⟨hr,f⟩)|(refine AO ?_ (R7 ?_ ?_);rintro r ⟨hr,f⟩)
 all_goals try dsimp only[V]at*
 all_goals first|omega|grind[Aa]
def bW{x:Bc}(h:Z x<=1099511627776):An (Ez x) λr=>(r.2=0->Eb r.1/\x=Ij r.1/\x≠jt 256)/\(r.2=7->x=jt 256):=by
 unfold Ez;rw[sy,AD];repeat' with_reducible first|intro b|apply AQ|apply AK|apply AM|(apply BC;try dsimp only)|(apply A3;try dsimp only)|(apply BA<;>(intro u c;try subst c))|apply AB|(refine AO ?_ (Cl ?_);intro r hr)|(refine AO ?_ (Qo ?_);intro r hr)|(refine AO ?_ (X8 ?_);intro r hr)|(apply AA (TK);intro r hr)|(refine AO ?_ (Bx ?_ ?_ ?_);rintro r ⟨hr,d⟩)
 all_goals try dsimp only[V]at*
 all_goals first|trivial|omega|(exact⟨n!,n!⟩)|grind
def jf{x}:An (C0 x) λr=>r=(x,0,Ge.all (X,[])):=by
 unfold C0;exact x!
def Rd(s:Bc)(p:U)(q:AT):Prop:=q.1=p/\((s=jt 256/\q=(p,0,Ge.all (X,[])))\/(Eb q/\s=Ij q/\s≠jt 256))
def Lu{x:Bc×U}(h:Z x.1<=1099511627776):An (Ci x) λr=>r.2=0->Rd x.1 x.2 r.1:=by refine AC (y? n!) (λ_=>AC (y? n!) (λ_=>AA (bW h) λv c=>AQ (λd=>?_) (λ_=>AQ (λf=>AK (y? n!) (λb=>AB λa=>⟨b,.inr (c.1 a)⟩)) (λhn=>AB λa=>O! a hn))));exact AA jf λw e=>AB λ_=>by rw[e];exact⟨rfl,.inl ⟨c.2 d,rfl⟩⟩
def eW{x:Bz×U×U×Bc}(h:Z x.2.2.2<=1099511627776):An (MW x) λr=>r.2=0->Rd x.2.2.2 x.2.1 r.1:=by
 unfold MW;repeat' with_reducible first|intro a|apply AC|apply AP|apply AK|apply AM|apply AB|(apply AA (Gd);intro r hr)|(refine AO ?_ (Lu ?_);intro r hr)|(refine AO ?_ (AI ?_ ?_);rintro r ⟨hr,c⟩)
 all_goals try dsimp only[V]at*
 all_goals first|assumption|omega|(intro b;exact O! b v!)|(intro b;exact O! b g!)|(intro _;exact hr v!)|grind
def Ua{x}:An (GR x) λr=>(r.2=0->Pe x.2/\HF x.1.2.2 x.2.2.1=D x.2.2.2.1)/\(Pe x.2->x.2.1=x.1.1->HF x.1.2.2 x.2.2.1=D x.2.2.2.1->r=((x.1.1,x.1.2.1,W6 x.1.2.2 x.2.2.1 x.2.2.2.2),0)):=by unfold GR;refine AA Ow λv g=>AP (λe=>AB ⟨n!,λh=>O! (g.2 h) (by simp[e])⟩) (λe=>?_);have b:=g.1 e;refine AK (λe=>AB ⟨n!,λ_ h=>O! h e⟩) (λj=>?_);obtain⟨c,i,_⟩:=Ch (a:=x.1.2.2) b.2.2.1 b.2.2.2.1;rw[i];refine BJ (BJ (AM (λd=>AB ⟨n!,λ_ _ h=>?_⟩) (λd=>BJ (BJ (AB ⟨λ_=>⟨b,?_⟩,λ_ _ _=>rfl⟩)))));rw[BL h]at d;simp at d;obtain⟨k,l⟩:=c;simp at d;rw[d.1,d.2]
def ABg{x}{e}(h:Eb x)(d:KD e)(f:e.2.1=1\/e.2.1=2)(b:e.2.2.2.2.2.2.1.1=x.1)(g:e.2.2.2.2.1=x.2.1)(c:HF x.2.2 e.2.2.2.2.2.2.1.2.1=D e.2.2.2.2.2.2.1.2.2.1):GV (x,e)=D (upd x e,0):=by
 suffices i:An (GV (x,e)) λr=>r=(upd x e,0) by obtain⟨r,hr,rfl⟩:=i;exact hr
 have a:Pe e.2.2.2.2.2.2.1:=by grind[KD,SI]
 refine AA CY λv j=>AP (λa=>O! (j.2 d) (by simp[a])) (λ_=>AA CA λw k=>AP (λa=>O! (k.2 f) (by simp[a])) (λ_=>?_));rw[oL h];refine BJ (AK (O! rfl ·) (λ_=>AK (O! b ·) (λ_=>AK (O! g ·) (λ_=>AA Ua λr hr=>?_))));rw[hr.2 a b c];exact AK (O! rfl ·) (y? rfl)
def eQ{x:AE×E AE}(h:Z x.2<=16777215):An (MQ x) λr=>r=x.1::x.2:=by
 unfold MQ;exact x!
def HS(L:E AE):Prop:=∀(i:Y)(e:AE),L[i]?=D e->e.1=1+i/\KD e
def Dc.num{l}(h:Dc l)(a:l.1=1):HS l.2.1:=λi e b=>by have:=h.2.2.2.2.2 i e b;rw[a]at this;exact this
def HS.take{L}(h:HS L)(k:Y):HS (L.take k):=λi e a=>h i e q!
def fQ{L:E AE}{k:Y}(h:k<Z L):L.take (k+1)=L.take k++[L[k]]:=by rw[Ca,Au h];rfl
def HS.at{L}(h:HS L){k:Y}(a:k<Z L):L[k].1=1+k/\KD L[k]:=h k _ (Au a)
def ik{L}(h:HS L)(p:U):Bn L p<=Z L:=by
 have:=pE (p:=p) (b:=Z L+1) L 0 o! λe c=>by have⟨i,a⟩:=Dk c;have:=(h i e a).1;have:=Ce a;omega
 unfold Bn;omega
def R9{L}(h:HS L)(p:U)(j:Y):∀k:Y,j<=k->Bn (L.take j) p<=Bn (L.take k) p
 |0,hj=>by rw[show j=0 by omega];exact Ag _
 |k+1,hj=>by by_cases e:j=k+1;rw[e];exact Ag _;have c:=R9 h p j k o!;by_cases a:k<Z L;rw[fQ a,QG];have b:=ik (h.take k) p;have d:=(h.at a).1;rw[BU]at b;split<;>omega;rw[BN (l:=L) (i:=k+1) o!];rwa[BN (l:=L) (i:=k) o!]at c
def xr{L}(h:HS L){p}{i:Y}{e:AE}(a:L[i]?=D e)(c:dr p e=A){k:Y}(d:i<k):e.1<=Bn (L.take k) p:=by have b:=Ce a;have:=R9 h p (i+1) k d;rw[fQ b,QG,(BL ((Au b).symm.trans a):L[i]=e),C! c]at this;exact this
def wq{L}(h:HS L){p}{j k}(g:Bn (L.take j) p=Bn (L.take k) p):((L.take k).drop j).filter (dr p)=[]:=by refine List.filter_eq_nil_iff.2 λe f d=>?_;obtain⟨i,a⟩:=Dk f;rw[KJ]at a;have b:=Ce a;rw[BU]at b;rw[KK o!]at a;have:=xr h a d (k:=k) o!;have c:=ik (h.take j) p;have:=(h _ _ a).1;rw[BU]at c;omega
def vT(L:E AE){j k:Y}(h:j<=k):L.take k=L.take j++(L.take k).drop j:=by
 conv=>lhs;rw[<-C4 j (L.take k)]
 rw[Li,RQ h]
def mQ{L:E AE}{p}{j k:Y}(h:j<=k):st (L.take k) p=(((L.take k).drop j).filter (dr p)).foldl upd (st (L.take j) p):=by
 conv=>lhs;rw[vT L h]
 exact ACW _ _ _
theorem mP{L}(h:HS L){p}{j k}(b:Bn (L.take j) p=Bn (L.take k) p):st (L.take j) p=st (L.take k) p:=by rcases Nat.le_total j k with a|a;rw[mQ a,wq h b];rfl;rw[mQ a,wq h b.symm];rfl
def tE{L}(h:HS L){p:U}:∀{k},0<Bn (L.take k) p->∃(i:Y)(e:AE),i<k/\L[i]?=D e/\dr p e=A/\(i:U)+1=Bn (L.take k) p
 |0,hk=>O! hk (by simp[Bn])
 |k+1,hk=>by by_cases b:k<Z L;rw[fQ b,QG]at hk⊢;by_cases a:dr p L[k]=A;rw[C! a];exact⟨k,L[k],o!,Au b,a,by have:=(h.at b).1;omega⟩;rw[D! a]at hk⊢;obtain⟨i,e,d,r⟩:=tE h hk;exact⟨i,e,o!,r⟩;rw[BN (l:=L) (i:=k+1) o!]at hk⊢;rw[<-BN (l:=L) (i:=k) o!]at hk;obtain⟨i,e,d,f,g,c⟩:=tE h hk;rw[BN (l:=L) (i:=k) o!]at c;exact⟨i,e,o!,f,g,c⟩
def YL{L}(h:HS L)(p:U)(k:Y):0<=Bn (L.take k) p:=R9 h p 0 k (BS _)
def YX{L}(h:HS L){p}{k}:Bn (L.take (Bn (L.take k) p).toNat) p=Bn (L.take k) p:=by
 have f:=YL h p k;by_cases d:Bn (L.take k) p=0;rw[d];rfl;obtain⟨i,e,g,a,c,hn⟩:=tE h (by omega:0<Bn (L.take k) p);have b:(Bn (L.take k) p).toNat=i+1:=o!
 have:=xr h a c (k:=i+1) o!;have:=ik (h.take (i+1)) p;have:=(h i e a).1;rw[b];rw[BU]at*;omega
theorem X2{L}(h:HS L){p:U}(b:0<=p/\p<64)(d:Z L<=1099511627776):∀k:Y,Eb (st (L.take k) p)
 |0=>⟨b.1,b.2,Ag 0,(by decide:(0:U)<=1099511627776),λi=>⟨⟨BS 12,.inr rfl⟩,λ_=>rfl⟩⟩
 |k+1=>by
  have a:=X2 h b d k;by_cases c:k<Z L;rw[fQ c,ABd];split;rename_i m;have⟨g,j⟩:=h.at c;have e:Pe L[k].2.2.2.2.2.2.1:=by grind[KD,SI,dr]
  refine⟨a.1,a.2.1,by show 0<=L[k].1;omega,by show L[k].1<=_;omega,λi=>⟨?_,λf=>?_⟩⟩;show Fs (W6 _ _ _ i);unfold W6;split;exact e.2.2.2.2.2;exact(a.2.2.2.2 i).1;have:L[k].1=0:=f;omega;exact a;rw[BN (l:=L) (i:=k+1) o!];rwa[BN (l:=L) (i:=k) o!]at a
def OKs:AT->E AE->Prop
 |_,[]=>z
 |x,e::r=>(Eb x/\KD e/\(e.2.1=1\/e.2.1=2)/\e.2.2.2.2.2.2.1.1=x.1/\e.2.2.2.2.1=x.2.1/\HF x.2.2 e.2.2.2.2.2.2.1.2.1=D e.2.2.2.2.2.2.1.2.2.1)/\OKs (upd x e) r
def OKs.snoc:∀{x}{l}{e:AE},OKs x l->OKs (l.foldl upd x) [e]->OKs x (l++[e])
 |_,[],_,_,h=>h
 |_,_::_,_,h,g=>⟨h.1,OKs.snoc h.2 g⟩
def xz{n}{L}(h:HS L)(g:LI n L){p:U}(o:0<=p/\p<64)(m:Z L<=1099511627776)(j:Y):∀k:Y,j<=k->OKs (st (L.take j) p) (((L.take k).drop j).filter (dr p))
 |0,hj=>by rw[show j=0 by omega];exact trivial
 |k+1,hj=>by
  by_cases e:j=k+1;rw[e,LZ (by rw[BU];omega)];exact trivial;have c:=xz h g o m j k o!;by_cases b:k<Z L;rw[fQ b,pz (by rw[BU];omega),Gx,UI,lq];split;rename_i q;refine c.snoc ⟨?_,P!⟩;rw[<-mQ o!];have r:=g k _ (Au b);have a:(L[k].2.1=1\/L[k].2.1=2)/\L[k].2.2.2.2.2.2.1.1=p:=by simpa[dr]using q
  have⟨d,f,_⟩:=r.1 a.1;rw[a.2]at d f;exact⟨X2 h o m k,(h.at b).2,a.1,by rw[a.2,Rw],by rw[d,KB],f⟩;rw[DR];exact c;rw[BN (l:=L) (i:=k+1) o!];rwa[BN (l:=L) (i:=k) o!]at c
def o6{L}(h:HS L){p}{m j k:Y}(l:m<=j)(n:Bn (L.take m) p=Bn (L.take j) p):((L.take k).drop m).filter (dr p)=((L.take k).drop j).filter (dr p):=by rw[<-C4 (j-m) ((L.take k).drop m),Gx,Od,show m+(j-m)=j by omega];refine(E! (· ++_) (List.filter_eq_nil_iff.2 λe g f=>?_)).trans (Bt _);obtain⟨i,a⟩:=Dk g;have c:=Ce a;rw[BU]at c;rw[KK o!,KJ]at a;have b:=Ce a;rw[BU]at b;rw[KK o!]at a;have:=xr h a f (k:=j) o!;have d:=ik (h.take m) p;have:=(h _ _ a).1;rw[BU]at d;omega
def AJT{n}{l}(t:Dc l)(C:l.1=1)(I:LI n l.2.1){p:U}(T:0<=p/\p<64){j k:Y}(A_:Bn (l.2.1.take j) p<=Bn (l.2.1.take k) p):An (Rb (l,p,Bn (l.2.1.take k) p,Bn (l.2.1.take j) p)) λr=>r=(((l.2.1.take k).drop j).filter (dr p),0):=by
 have b:=t.num C;have O:=YL b p k;have Q:=YL b p j;have R:=t.2.2.1;refine AA BZ λv B=>AP (λa=>O! (B.2 t) (by simp[a])) (λ_=>AC (O! · d!) (λ_=>AC (O! · d!) (λ_=>AC (O! · d!) (λ_=>AC (O! · d!) (λ_=>AA (P:=λr=>r=.inr (((l.2.1.take k).drop j).filter (dr p),Bn (l.2.1.take j) p)) ?_ λr hr=>?_)))))
 ·refine CV (λs=>∃m:Y,m<=k/\s=(((l.2.1.take k).drop m).filter (dr p),Bn (l.2.1.take m) p)/\Bn (l.2.1.take j) p<=s.2) (·.2.toNat) ⟨k,Ao _,by rw[LZ (by rw[BU];omega)];rfl,A_⟩ ?_;rintro s ⟨m,S,rfl,x⟩;unfold Uc;dsimp only at x⊢;refine AC (λa=>?_) (λa=>k? ?_)
  ·obtain⟨i,e,K,q,o,J⟩:=tE b (by omega:0<Bn (l.2.1.take m) p);have z:=Ce q;have c:(e.2.1=1\/e.2.1=2)/\e.2.2.2.2.2.2.1.1=p:=by simpa[dr]using o
   refine AA HZ λg D_=>?_;have F:=D_.2 t d! d!;have⟨_,_,u,_⟩:=D_.1 F;dsimp only at u;rw[C,show(Bn (l.2.1.take m) p-1).toNat=i by omega,q]at u;rw[F,<-BL u];refine AK (O! rfl ·) (λ_=>AA CA λw N=>AP (λa=>O! (N.2 c.1) (by simp[a])) (λ_=>AK (O! c.2 ·) (λ_=>?_)));have y:=EP (dr p) ((l.2.1.take k).drop m);rw[DO,BU]at y;have d:=((I i e q).1 c.1).1;rw[c.2]at d;have E:=YX b (p:=p) (k:=m);rw[show(Bn (l.2.1.take m) p).toNat=i+1 by omega]at E;have L:=YX b (p:=p) (k:=j);have M:=R9 b p (Bn (l.2.1.take j) p).toNat i o!;refine AA (eQ d!) λf H=>y! ⟨i,o!,?_,d!⟩ (by dsimp only;rw[d];have:=ik (b.take i) p;rw[BU]at this;omega)
   rw[d,H,<-o6 b (m:=i+1) (j:=m) o! E,KH (l:=l.2.1.take k) (i:=i) (by rw[BU];omega),UI];have G:(l.2.1.take k)[i]'(by rw[BU];omega)=e:=by rw[fW];exact BL ((Au z).symm.trans q)
   rw[G,C! o]
  have e:Bn (l.2.1.take m) p=Bn (l.2.1.take j) p:=o!
  rw[e];rcases Nat.le_total m j with h|h;rw[o6 b h e];rw[o6 b h e.symm]
 subst hr;exact A3 (AC (O! · d!) (y? rfl))
def AIi{n}{l}(f:Dc l)(C:l.1=1)(F:LI n l.2.1){p:U}(t:0<=p/\p<64){j k:Y}:An (Rl (l,st (l.2.1.take j) p,Bn (l.2.1.take k) p)) λr=>r=(if Bn (l.2.1.take j) p<=Bn (l.2.1.take k) p then st (l.2.1.take k) p else st (l.2.1.take j) p,0):=by
 generalize G:(if Bn (l.2.1.take j) p<=Bn (l.2.1.take k) p then st (l.2.1.take k) p else st (l.2.1.take j) p)=y;have d:=f.num C;have S:=YL d p k;have T:=f.2.2.1;have q:=X2 d t o!;suffices Q:An (Rm (l,st (l.2.1.take j) p,Bn (l.2.1.take k) p)) λr=>r.1=y/\r.2.2=0 from AA Q λr hr=>AB (by rw[hr.1,hr.2]);refine AA (P:=λr=>∃b:Ψ AE,r=(b,0)/\Z b<=4096/\OKs (st (l.2.1.take j) p) b/\b.foldl upd (st (l.2.1.take j) p)=y) ?_ λr hr=>?_;refine AA BZ λv w=>AP (λa=>O! (w.2 f) (by simp[a])) (λ_=>?_);rw[oL (q j)];refine BJ (AK (λa=>O! rfl a) (λ_=>AC (λa=>O! a d!) (λ_=>AC (λa=>AB ?_) (λa=>?_))));rw[KB]at a;refine⟨[],rfl,k!,P!,?_⟩;rw[<-G];split;exact mP d (by dsimp only at a;omega);rfl;rw[KB]at a;have c:j<=k:=by rcases Nat.le_total j k with h|h;exact h;have:=R9 d p k j h;dsimp only at a;omega
 have e:((st (l.2.1.take j) p).1,Bn (l.2.1.take k) p,(st (l.2.1.take j) p).2.1)=(p,Bn (l.2.1.take k) p,Bn (l.2.1.take j) p):=by rw[Rw,KB]
 dsimp only at e⊢;rw[e];refine AA (AJT f C F t (by dsimp only at a;omega)) λr hr=>AB ⟨_,hr,?_,xz d F t o! j k c,by rw[<-G,C! (by dsimp only at a;omega)];exact(mQ c).symm⟩;have o:=EP (dr p) ((l.2.1.take k).drop j);rw[DO,BU]at o;omega
 ·obtain⟨b,rfl,m,O,u⟩:=hr;refine AK (λa=>O! rfl a) (λ_=>AA (P:=λr=>∃z,r=.inr (y,z)) ?_ λr hr=>?_)
  ·refine CV (λ(s:Int×AT×AT)=>∃A_ B,b=A_++B/\s.1=Z A_/\OKs s.2.1 B/\B.foldl upd s.2.1=y) (λs=>((Z b:U)-s.1).toNat) ⟨[],b,rfl,rfl,O,u⟩ ?_;rintro⟨i,x,z⟩ ⟨A_,B,rfl,D_,E,g⟩;dsimp only at D_ E g;subst D_;unfold Uf;dsimp only[V];rw[AV]at m;refine AC (λa=>?_) (λa=>k? ?_)
   ·obtain _|⟨e,B⟩:=B;simp at a;have R:ix (A_++e::B) (Z A_:U)=D e:=by unfold ix;rw[C! o!,DF,Cu (Ao _),HG];rfl
    obtain⟨⟨H,I,J,K,L,M⟩,N⟩:=E;rw[R,AD,ABg H I J K L M,AD,Aa (x:=(Z A_:U)+1)];refine AK (O! rfl ·) (λ_=>y! ⟨A_++[e],B,k!,k!,N,g⟩ d!)
   obtain _|⟨e,B⟩:=B;exact⟨z,by rw[<-g];rfl⟩;simp at a;omega
  obtain⟨z,rfl⟩:=hr;exact A3 (AB ⟨rfl,rfl⟩)
variable {B:Int->Prop}
def KS(B:U->Prop)(k m:AU):Prop:=m.1=k.1/\LX k.2.2.1 m.2.2.1/\Dc m.2.2.1/\m.2.2.2.2.1=k.2.2.2.2.1/\m.2.2.2.2.2.1=k.2.2.2.2.2.1/\SK B m
def KS.refl{k}(h:SK B k)(a:Dc k.2.2.1):KS B k k:=⟨rfl,LX.refl _,a,rfl,rfl,h⟩
def KS.trans{a b c}(h:KS B a b)(g:KS B b c):KS B a c:=⟨g.1.trans h.1,h.2.1.trans g.2.1,g.2.2.1,g.2.2.2.1.trans h.2.2.2.1,g.2.2.2.2.1.trans h.2.2.2.2.1,g.2.2.2.2.2⟩
def LX.of{a b:Ad}(h:b.1=a.1)(g:b.2.1=a.2.1)(d:a.2.2<=b.2.2):LX a b:=⟨h,d,[],by rw[g,DR]⟩
def KI.of{k m:AU}(h:KI B k)(a:m.1=k.1)(b:m.2.2.1.2.1=k.2.2.1.2.1)(c:m.2.2.2.1=k.2.2.2.1)(d:m.2.2.2.2.2.2=k.2.2.2.2.2.2):KI B m:=by unfold KI;rw[a,b,c,d];exact h
def tP{x:Ad×U}(h:Dc x.1)(c:x.2<=x.1.1+Z x.1.2.1-1):An (Ee x) λr=>r.2=0:=by refine AA BZ λv d=>AP (λa=>?_) (λ_=>?_);grind;refine AA E2 λe b=>?_;rw[h.last]at b;exact AC (O! · o!) (y? rfl)
def Kc{x:AU×U}(h:SK B x.1)(c:Dc x.1.2.2.1):An (GU x) λr=>KS B x.1 r/\r.2.2.2.1=x.1.2.2.2.1/\(x.2<=x.1.2.2.1.1+Z x.1.2.2.1.2.1-1->x.2<=r.2.2.1.2.2):=by unfold GU;refine AA F9 λv d=>?_;have d:=d c;refine AA (KZ.and (tP c (by dsimp only;split<;>omega))) λw a=>?_;have⟨i,e,j,k,f⟩:=a.1 a.2;refine Bk (AQ (λb=>AB ⟨⟨rfl,LX.of j e k,i,rfl,rfl,SB.sk h.sb (h.ki.of rfl e rfl rfl)⟩,rfl,λg=>?_⟩) (O! a.2 ·));dsimp only at f⊢;split at f<;>omega
def Z1{x:AU×U×U}(h:SK B x.1)(p:∃f∈x.1.2.2.2.1.2.1,f.1.1=x.2.1/\f.1.2.1=x.2.2):An (Kf x) λr=>r.2=0->VK x.1/\KS B x.1 r.1/\DC r.1.2.2.2.1<=DC x.1.2.2.2.1/\∀(i:Y)(f:BK),x.1.2.2.2.1.2.1[i]? =some f->f.1.1=x.2.1->f.2.1=true->f.1.2.1=x.2.2->DC r.1.2.2.2.1<DC x.1.2.2.2.1:=by
 unfold Kf;refine AA (CQ h.sb) λv O=>?_;refine AP (λb=>AB n!) (λb=>?_);have A_:=O b;refine AC (λb=>AB n!) (λ_=>?_);refine AC (λb=>AB n!) (λ_=>?_);refine AC (λb=>AB n!) (λ_=>?_);refine AA F9 λ_ _=>AC (λb=>AB n!) (λ_=>?_);refine AA GB λi L=>AA (P:=λs=>(∃u,s=.inl u/\u.1≠0)\/ ∃u,s= .inr u/\(DC u.1<=DC x.1.2.2.2.1/\ ∀(i:Nat) (f:BK),x.1.2.2.2.1.2.1[i]? =some f->f.1.1=x.2.1->f.2.1=true->f.1.2.1=x.2.2->DC u.1<DC x.1.2.2.2.1)/\(∀g∈u.1.2.1,∃f∈x.1.2.2.2.1.2.1,f.1.1=g.1.1/\f.1=g.1)/\ ∀f∈x.1.2.2.2.1.2.1,f.1.1≠x.2.1->f∈u.1.2.1) ?_ λs N=>?_
 ·refine AC (λb=>?_) (λb=>AB (.inr ⟨_,rfl,⟨Ao _,λj f M q _ _=>absurd (L.2.2.2 A_.2.2.2.1 ⟨j,f,M,q⟩) b⟩,λg K=>⟨g,K,rfl,rfl⟩,λf n _=>n⟩));grind[AA,eU,AK,AB]
 ·rcases N with⟨u,rfl,t⟩|⟨u,rfl,t,m,y⟩
  ·exact BC (AB λc=>absurd c t)
  ·refine A3 ?_;refine AA (GS h.sb) λa J=>?_;refine AK (λb=>AB (λc=>absurd c b)) (λb=>AB λ_=>?_);have⟨_,⟨a1,a2,a3,a4,a5,a6,a7,a8,e,E,Q,F,o,R,S,G⟩,_⟩:=J b;have⟨f,n,H,I⟩:=p;have⟨U_,w,C,D_⟩:=G rfl;have T:=h.ki.2.2 f n;have d:=congrArg (λz=>z.2.1) ((h.ki.2.1 x.2.1 o! o!).1 f n H);rw[KB]at d;refine⟨A_,⟨a1,a2,a3,a5,a6.2.1 rfl,a8.1,a8.2.1,a8.2.2,?_⟩,t⟩;unfold KI;dsimp only at F o C D_⊢;rw[a1,a7,E,D_];have k:=E! (·.1) o;have l:=congrArg (λz=>z.2.1.1) o;dsimp only at k l;refine⟨h.ki.1.app ⟨λh=>by omega,λ_=>?_,λh=>by omega,by omega⟩,(h.ki.2.1.written o! o! o! m y C).app o!,h.ki.2.2.sub m⟩;rw[k,l,<-I];exact d
def iJ{x}(h:SK B x):An (NT x) λr=>r.2.2.2=0->VK x/\KS B x r.1/\(r.2.2.1=A->DC r.1.2.2.2.1=DC x.2.2.2.1/\∃(i:Y)(f:BK),r.1.2.2.2.1.2.1[i]?=D f/\f.1=r.2.1/\f.2.1=A/\r.2.1.2.1<=r.1.2.2.1.2.2):=by
 unfold NT;refine AA (CQ h.sb) λv M=>AP (λn=>AB n!) (λn=>?_);have c:=M n;refine AC (λn=>AB (λ_=>⟨c,KS.refl h c.2.2.1,λt=>by cases t⟩)) (λm=>AA bi λw D_=>?_);have⟨_,F,O,P⟩:=D_.1 (D_.2 c.2.2.2.1 (by have:=c.2.2.2.1.1;simp[V]at m;omega));have G:∀g∈w.1.2.1,∃f∈x.2.2.2.1.2.1,core g=core f:=λg b=>by grind[List.getElem?_of_mem,tN,List.mem_of_getElem?]
 have H:∀f∈x.2.2.2.1.2.1,∃g∈w.1.2.1,core g=core f:=λf l=>by grind[List.getElem?_of_mem,tN,List.mem_of_getElem?]
 have u:∀{f g},core f=core g->f.1=g.1/\f.2.1=g.2.1:=λe=>⟨E! (·.1) e,E! (·.2.1) e⟩
 have k1:∀g∈w.1.2.1,∃f∈x.2.2.2.1.2.1,f.1.1=g.1.1/\f.1=g.1:=λg b=>by have⟨f,l,e⟩:=G g b;exact⟨f,l,by rw[(u e).1],by rw[(u e).1]⟩
 have N:∀f∈x.2.2.2.1.2.1,f.2.1=A->∃g∈w.1.2.1,g.1.1=f.1.1/\g.2.1=A:=λf l y=>by have⟨g,b,e⟩:=H f l;exact⟨g,b,by rw[(u e).1],by rw[(u e).2,y]⟩
 refine AA GB λi A_=>?_;have E:=A_.2.2.2 F P;refine AA (AI E A_.2.1) λf l=>?_;have a:KI B (x.1,x.2.1,x.2.2.1,w.1,x.2.2.2.2):=⟨h.ki.1,h.ki.2.1.frames k1 N,h.ki.2.2.sub k1⟩
 apply AP<;>intro n;have⟨_,L,o,J⟩:=A_.2.2.1 E;have K:L=f:=by have:=l.1;rw[o]at this;exact BL this
 subst K;refine AA iE λd y=>AB λ_=>⟨c,⟨rfl,LX.refl _,c.2.2.1,rfl,rfl,h.1,h.2.1,h.2.2.1,?_⟩,λt=>by cases t⟩
 have⟨C,I⟩:=y F _ _ o J n;exact⟨h.ki.1,a.2.1.frames (λg b=>⟨g,C g b,rfl,rfl⟩) (λg b s=>⟨g,I g b s,rfl,s⟩),a.2.2.sub λg b=>⟨g,C g b,rfl,rfl⟩⟩;refine AA (Kc (SB.sk ⟨h.1,h.2.1,h.2.2.1⟩ a) c.2.2.1) λk j=>AB λ_=>⟨c,j.1,λ_=>⟨?_,i.toNat,f,?_,rfl,n,j.2.2 ?_⟩⟩
 rw[j.2.1,ABh,ABh,O];rw[j.2.1];exact l.1;have q:=BP l.1;have p:=a.2.2 f q;have:=E! (·.2.1) ((a.2.1 f.1.1 p.1 p.2.1).1 f q rfl);dsimp only at this⊢;rw[this,KB];have:=mI c.2.2.1 f.1.1;omega
def AIh(P:E AE)(p:U)(s:Bc):Prop:=s=jt 256\/∃j:Y,s=Ij (st (P.take j) p)
def dead(s:Bc):Prop:=s≠jt 256/\∀q,Eb q->s≠Ij q
def DP(B:U->Prop)(P:E AE)(d:Bv):Prop:=DI d/\∀(i:Y)(s:Bc),d.1[i]?=D s->(B i->AIh P i s)/\(B i\/dead s)
def dl(l:Ad):E AE:=l.2.1.take l.2.2.toNat
def DJ(B:U->Prop)(l:Ad)(d:Bv):Prop:=l.1=1/\DP B (dl l) d
def DP.up{P Q:E AE}{d}{m}(h:DP B P d)(e:P=Q.take m):DP B Q d:=⟨h.1,λi s a=>⟨λb=>by rcases(h.2 i s a).1 b with q|⟨j,q⟩;exact .inl q;rw[e,Li]at q;exact .inr ⟨_,q⟩,(h.2 i s a).2⟩⟩
def DJ.up{a b}{d}(h:DJ B a d)(g:LX a b):DJ B b d:=by obtain⟨c,f,t,e⟩:=g;refine⟨c.trans h.1,h.2.up (m:=min a.2.2.toNat (Z a.2.1)) ?_⟩;unfold dl;rw[e,Li,RQ o!,fe o!,Nat.min_comm,<-Li,BN (l:=a.2.1.take _) (by rw[BU];omega)]
def AF1{L}(h:HS L){p d:U}(f:Bn L p<=d):st (L.take (ο d)) p=st L p:=by
 have e:=If (l:=L);have a:=YX h (p:=p) (k:=Z L);rw[e]at a;have b:=R9 h p (Bn L p).toNat (ο d) o!
 have c:Bn (L.take (ο d)) p<=Bn L p:=by rcases Nat.le_total (ο d) (Z L)with q|q;have:=R9 h p _ _ q;rwa[e]at this;rw[BN q];exact Ag _
 have:=mP h (p:=p) (j:=ο d) (k:=Z L) (by rw[e];omega);rwa[e]at this
def Uh{x:AZ×AU×AT}(h:SK B x.2.1)(A_:Dc x.2.1.2.2.1)(l:DJ B x.2.1.2.2.1 x.1.2)(n:∃f∈x.2.1.2.2.2.1.2.1,f.1=x.2.2)(y:x.2.2.2.1<=x.2.1.2.2.1.2.2):An (Mi x) λr=>r.2=0->KS B x.2.1 r.1.1/\DJ B r.1.1.2.2.1 r.1.2/\DC r.1.1.2.2.2.1<=DC x.2.1.2.2.2.1/\((∃(i:Y)(f:BK),x.2.1.2.2.2.1.2.1[i]?=D f/\f.1=x.2.2/\f.2.1=A)->DC r.1.1.2.2.2.1<DC x.2.1.2.2.2.1):=by
 have⟨f,m,b⟩:=n;have a:=h.ki.2.2 f m;have c:=(h.ki.2.1 f.1.1 a.1 a.2.1).1 f m rfl;refine EM TK λv G _=>AA (eN l.2.1) λw L=>AK (λd=>AB (O! · d)) (λd=>AA (Z1 h ⟨f,m,by rw[b],by rw[b]⟩) λu K=>AK (λd=>AB (O! · d)) (λq=>AB λ_=>?_));have⟨D_,E,M,N⟩:=K q;have⟨O,P,F⟩:=L d;refine⟨E,DJ.up ⟨l.1,O,λi s j=>?_⟩ E.2.1,M,λ⟨i,g,H,t,I⟩=>N i g H (by rw[t]) I (by rw[t])⟩;have C:=A_.num l.1;have k:=X2 C (p:=f.1.1) ⟨a.1,by have:=D_.2.1;have:=D_.1;dsimp only at*;omega⟩ (by have:=A_.2.2.1;omega) (Z x.2.1.2.2.1.2.1);rw[If,<-c,b]at k;rw[Yc k]at G;dsimp only at F j;rw[F]at j;by_cases J:i=x.2.2.1.toNat
 subst J;have e:s=Ij x.2.2:=by unfold Es at j;grind
 rw[b]at a c;rw[show((x.2.2.1.toNat:Y):U)=x.2.2.1 by omega];refine⟨λ_=>.inr ⟨(dl x.2.1.2.2.1).length,?_⟩,.inl a.2.2.2⟩;rw[If,e];unfold dl;rw[AF1 C (by have:=E! (·.2.1) c;rw[KB]at this;omega),<-c];exact l.2.2 i s (by unfold Es at j;rwa[List.getElem?_set_ne o!]at j)
def SvR(B:U->Prop)(s r:AZ):Prop:=KS B s.1 r.1/\DJ B r.1.2.2.1 r.2
def iR{x:AZ}(h:SK B x.1)(l:Dc x.1.2.2.1)(k:DJ B x.1.2.2.1 x.2):An (NY x) λr=>r.2=0->SvR B x r.1:=by unfold NY;refine AA (P:=λr=>r.1=0->SvR B x r.2) ?_ λr hr=>AB hr;refine AY (SvR B x ·.1) (DC ·.1.1.2.2.2.1) ⟨KS.refl h l,k⟩ (λs c=>?_);unfold Ug;refine AA (iJ c.1.2.2.2.2.2) λv m=>AK (λa=>AB (O! · a)) (λa=>?_);have⟨A_,b,q⟩:=m a;refine AP (λa=>AB (λ_=>⟨c.1.trans b,c.2.up b.2.1⟩)) (λd=>?_);have⟨z,i,f,g,j,o,p⟩:=q d;refine AA (Uh b.2.2.2.2.2 b.2.2.1 (c.2.up b.2.1) ⟨f,BP g,j⟩ p) λw n=>AK (λa=>AB (O! · a)) (λa=>AB ?_);have⟨t,u,C,y⟩:=n a;exact⟨⟨(c.1.trans b).trans t,u⟩,by have:=y ⟨i,f,g,j,o⟩;dsimp only at*;omega⟩
def YI{x:AU×AT}{s:U×List Al}(h:0<=s.1/\s.1<=Z x.1.2.2.2.2.2.2.2/\Z x.1.2.2.2.2.2.2.2<=16777216/\s.2=(x.1.2.2.2.2.2.2.2.take s.1.toNat).filter (λd=>d.1 !=x.2.1)):An (Ak (M1 x) s) λr=>r=x.1.2.2.2.2.2.2.2.filter λd=>d.1 !=x.2.1:=by refine AY (λ(s:Int×List Al)=>0<=s.1/\s.1<=Z x.1.2.2.2.2.2.2.2/\Z x.1.2.2.2.2.2.2.2<=16777216/\s.2=(x.1.2.2.2.2.2.2.2.take s.1.toNat).filter (·.1 !=x.2.1)) (λs=>((Z x.1.2.2.2.2.2.2.2:U)-s.1).toNat) h (λs j=>?_);have⟨b,q,g,i⟩:=j;unfold M1;refine AC (λf=>?_) (λf=>AB ?_);simp[V]at f;have m:=o9 (l:=x.1.2.2.2.2.2.2.2) (p:=λd=>d.1 !=x.2.1) b;rw[<-i]at m;refine AA (AI b f) λv o=>?_;have e:=Aa (x:=s.1+1);have n:=mH (p:=λd:Al=>d.1 !=x.2.1) b o.1;refine AA (P:=λa=>a=(x.1.2.2.2.2.2.2.2.take (s.1+1).toNat).filter (·.1 !=x.2.1)) ?_ λa c=>AB ⟨⟨d!,d!,g,by dsimp only;rw[c,e]⟩,d!⟩;refine AM (λk=>?_) (λk=>AB ?_);grind[AA,AI,Option.some.inj,Ac,AB];grind;grind[List.take_of_length_le]
def bk{x:AU×AT}(h:SK B x.1)(L:Br x.1=D A->x.2=st x.1.2.2.1.2.1 x.2.1/\B x.2.1):An (LH x) λr=>r.2=0->KS B x.1 r.1/\oJ r.1.2.2.2.1 x.2.1:=by
 unfold LH;refine EM (CQ h.sb) λv O hv=>AP (λg=>AB n!) (λg=>?_);have K:=hv g;rw[g]at O;refine AC (λg=>AB n!) (λx0=>AC (λg=>AB n!) (λx1=>AA (LG h.sb) λy1 al=>AC (λg=>AB n!) (λx2=>AA (LG h.sb) λy2 ao=>AC (λg=>AB n!) (λx3=>?_))));have⟨R,Q⟩:=L O;refine AA Ei λv3 _=>AP (λg=>AB n!) (λ_=>AA Ov λv4 _=>AK (λg=>?_) (λ_=>?_));grind[AK,AB];have p2:=K.2.2.2.1.2.1;have p3:=K.2.2.2.1.2.2.1;refine AA (G6 d!) λi I=>AC (λg=>AB n!) (λA_=>?_);have A_:=I.2.2.2 o!;refine AQ (λg=>AB n!) (λ_=>AA (Ac w!) λv8 C=>?_);have⟨C,Z,_⟩:=C;rw[Bt]at C;subst C;refine AA (Ac w!) λc n=>?_;have⟨n,o,_⟩:=n;have q:c[θ c-1]?=D (x.2,X,0,A):=by rw[n];simp
 have hn:(θ c:U)-1=((θ c-1:Nat):U):=by simp at o;omega
 have e:=Aa (x:=(θ c:U)-1) (by simp at o;omega);have k:∀f∈x.1.2.2.2.1.2.1,f.1.1≠x.2.1:=λf H e=>by have⟨i,I⟩:=Dk H;exact A_ ⟨i,f,I,e⟩
 refine AA (Ke h.sb) λt w=>AA (P:=λv:Ψ BK×AU×U×U×U×U×U×U=>(∃(i:Nat)(f:BK),v.1[i]?=D f/\f.1.1=x.2.1)/\(v.2.1.1=x.1.1/\v.2.1.2.2.1=x.1.2.2.1/\v.2.1.2.2.2.2.1=x.1.2.2.2.2.1/\v.2.1.2.2.2.2.2.1=x.1.2.2.2.2.2.1/\SB v.2.1/\v.2.1.2.2.2.2.2.2.1=x.1.2.2.2.2.2.2.1)/\KP x.1.1 x.1.2.2.1.2.1 v.1 v.2.1.2.2.2.2.2.2.2 x.1.2.2.2.2.2.2.1/\FD B x.1.1 v.1 v.2.1.2.2.2.2.2.2.2) ?_ λa0 m=>?_
 ·refine AM (λs=>?_) (λs=>AB ⟨⟨_,_,q,rfl⟩,⟨rfl,rfl,rfl,rfl,h.sb,rfl⟩,?_,?_⟩);rotate_left 1;rw[n];exact h.ki.2.1.supply R k rfl (.inr ⟨rfl,w.2 s,rfl⟩);rw[n];exact h.ki.2.2.supply (p:=x.2.1) o! o! Q rfl (λd y=>y) (w.2 s);rw[hn]at e;simp only[len,hn,e];have z:θ c-1<θ c:=by simp at o;omega
  refine AA (AI) λap W=>AA (AI) λj X_=>?_;have V:j.1=x.2:=by grind[s?,Option.some.inj]
  have ad:(Es c ((θ c-1:Nat):U) (j.1,A,j.2.2)).length=θ c:=by simp[Es]
  refine AA (AI) λar Y=>AA (AI) λa F=>?_;have l:a.1=x.2:=by grind[s?,Es,List.getElem?_set_self,Option.some.inj]
  refine AA (YI ⟨k!,k!,h.2.2.1,k!⟩) λax G=>?_;have u:a.2.1=A:=by have:=F.1;simp[DF,Es]at this;rw[HU z]at this;rw[<-BL this]
  have N:Es (Es c ((θ c-1:Nat):U) (j.1,A,j.2.2)) ((θ c-1:Nat):U) (a.1,a.2.1,t.1.2.1,a.2.2.2)=x.1.2.2.2.1.2.1++[(a.1,a.2.1,t.1.2.1,a.2.2.2)]:=by simp[Es,DF,Yk,(by rw[n];simp:θ c-1=θ x.1.2.2.2.1.2.1)];rw[n,Tq _ _ (Ao _)];simp
  subst G;refine AB ⟨⟨θ c-1,(a.1,a.2.1,t.1.2.1,a.2.2.2),?_,by rw[l]⟩,⟨rfl,rfl,rfl,rfl,⟨h.1,h.2.1,C5 (EP _ _) h.2.2.1⟩,rfl⟩,?_,?_⟩;simp[Es,DF];rw[HU (by simpa using z)];rw[N];exact h.ki.2.1.supply R k l (.inl ⟨u,rfl⟩);rw[N];exact h.ki.2.2.supply (p:=x.2.1) o! o! Q (by rw[l]) (λd y=>(BG.1 y).1) (λd y=>by simpa using(BG.1 y).2)
 have⟨i,f,H,J⟩:=m.1;have⟨M,D_,S,T,E,U_⟩:=m.2.1;refine AB λ_=>⟨⟨M,by dsimp only;rw[D_];exact LX.refl _,by dsimp only;rw[D_];exact K.2.2.1,S,T,E.1,E.2.1,E.2.2,?_⟩,i,f,H,J⟩
 unfold KI;dsimp only;rw[M,D_,U_];exact⟨h.ki.1,m.2.2⟩
def AJv{x:AU×U}(h:Br x.1=D X):E6 x=D 0:=by unfold E6;rw[h];rfl
def Rd.st{P}{p}{s}{q}(h:Rd s p q)(d:AIh P p s)(e:∀j,Eb (st (P.take j) p)):∃j:Y,q=Go.Pm.st (P.take j) p:=by obtain⟨_,⟨_,h⟩|⟨a,b,c⟩⟩:=h;exact⟨0,h⟩;rcases d with q|⟨j,q⟩;exact O! q c;exact⟨j,AEm a (e j) (b.symm.trans q)⟩
def II{x:AZ×U}(h:SK B x.1.1)(g:DJ B x.1.1.2.2.1 x.1.2):An (FO x) λr=>r.2=0->SvR B x.1 r.1/\oJ r.1.1.2.2.2.1 x.2:=by
 unfold FO;refine AA (CQ h.sb) λv X_=>AP (λa=>AB n!) (λa=>?_);have s:=X_ a;refine AC (λa=>AB n!) (λp0=>AC (λa=>AB n!) (λp1=>AA GB λi W=>AC (λa=>AB λ_=>⟨⟨KS.refl h s.2.2.1,g⟩,?_⟩) (λ_=>?_)));have⟨_,f,V,C⟩:=W.2.2.1 a;exact⟨_,f,V,C⟩;refine AA (iR h s.2.2.1 g) λo Q=>AK (λa=>AB (O! · a)) (λw=>?_);have⟨t,m⟩:=Q w;have n:=t.2.2.2.2.2;have F:=t.2.2.1;have k1:=s.1;have k2:=s.2.1;have H:0<=x.2/\x.2<64:=o!
 have M:=F.num m.1;have h4:=F.2.2.1;refine AA (hW m.2.1) λv3 R=>AK (λa=>AB (O! · a)) (λy=>?_);have⟨g1,g2,O⟩:=R y;have⟨b,u,_⟩:=CQ n.sb;refine AA (P:=λr=>∃k:Nat,r=Bn (o.1.1.2.2.1.2.1.take k) x.2/\(b=A->k=θ o.1.1.2.2.1.2.1)) ?_ λv4 ⟨k,D_,E⟩=>?_;cases b with
 |false=>exact⟨_,AJv u,0,rfl,λU_=>by cases U_⟩
 |true=>exact(LG n.sb).mono λr hr=>⟨_,by rw[If];exact hr u n.ki.2.1 H.1 (by have:=t.1;dsimp only at this⊢;omega),λ_=>rfl⟩
 refine AA (eW d!) λv5 e=>AK (λa=>AB (O! · a)) (λz=>?_);have e:=e z;dsimp only at e;have d:=m.2.2 _ _ O;rw[show((x.2.toNat:Nat):U)=x.2 by omega]at d;have L:B x.2:=d.2.resolve_right λg=>by obtain⟨_,⟨q,_⟩|⟨Y,Z,_⟩⟩:=e;exact g.1 q;exact g.2 _ Y Z
 have I:=X2 M H o!;obtain⟨j,p⟩:=e.st (d.1 L) λj=>by unfold dl;rw[Li];exact I _
 unfold dl at p;rw[Li]at p;generalize min j o.1.1.2.2.1.2.2.toNat=j' at p;rw[p,D_];refine AA (AIi F m.1 n.ki.1 H) λv6 S=>?_;subst S;refine AK (O! rfl ·) (λ_=>AA (bk n λK=>?_) λv7 T=>?_);rw[u]at K;have l:=E (BL K);have G:Bn (o.1.1.2.2.1.2.1.take j') x.2<=Bn (o.1.1.2.2.1.2.1.take k) x.2:=by rcases Nat.le_total j' k with q|q;exact R9 M _ _ _ q;rw[BN o!,l,If];exact Ag _
 dsimp only;rw[C! G,l,If,Rw];exact⟨rfl,L⟩;refine AK (λa=>AB (O! · a)) (λA_=>AB λ_=>?_);have⟨N,J⟩:=T A_;refine⟨⟨t.trans N,m.up N.2.1⟩,?_⟩;dsimp only at J;split at J<;>rwa[Rw]at J
def KL(B:U->Prop)(k m:AU):Prop:=m.1=k.1/\LX k.2.2.1 m.2.2.1/\SK B m/\Dc m.2.2.1
theorem KL.refl{k}(h:SK B k)(a:Dc k.2.2.1):KL B k k:=⟨rfl,LX.refl _,h,a⟩
def KL.trans{a b c}(h:KL B a b)(g:KL B b c):KL B a c:=⟨g.1.trans h.1,h.2.1.trans g.2.1,g.2.2⟩
def KS.kl{a b}(h:KS B a b):KL B a b:=⟨h.1,h.2.1,h.2.2.2.2.2,h.2.2.1⟩
def AAJ.kl{a b}{z}(h:AAJ a z b)(c:SK B a)(d:z.2.1≠1/\z.2.1≠2/\z.2.1≠6/\z.2.1≠7/\z.2.1≠8):KL B a b:=⟨h.1,h.2.1,h.sk c d,h.2.2.1⟩
def SK.locks{k}{l}(h:SK B k)(a:Gi l):SK B (k.1,k.2.1,k.2.2.1,k.2.2.2.1,l,k.2.2.2.2.2):=⟨a,h.2⟩
def QJ.idx{p}(h:QJ p){i j:Y}{f g:BK}(a:p.2.1[i]?=D f)(b:p.2.1[j]?=D g)(e:g.1.1=f.1.1):j=i:=by have l1:=Ce a;have l2:=Ce b;rcases RP i j with q|q|q;exact O! e.symm (h.2.2.2.2.2.2 i j f g q o! a b);exact q.symm;exact O! e (h.2.2.2.2.2.2 j i g f q o! b a)
def jl{x}:An (OT x) λr=>(∀g∈r.2.1,∃f∈x.1.2.1,f.1.1=g.1.1/\f.1=g.1)/\∀f∈x.1.2.1,f.2.1=A->∃g∈r.2.1,g.1.1=f.1.1/\g.2.1=A:=by unfold OT;refine AA GB λv b=>AC (y? ⟨λg k=>⟨g,k,rfl,rfl⟩,λf a h=>⟨f,a,rfl,h⟩⟩) (λm=>?_);have d:=b.2.2.1 o!;have o:=d.1.2.1;have p:=d.1.2.2.1;refine AA (AI o! b.2.1) λl c=>AA (MV d! ⟨d!,b.2.1⟩) λr hr=>AB ?_;subst hr;refine⟨ACU c.1 rfl,λf a j=>?_⟩;by_cases e:f.1.1=l.1.1;have⟨i,n⟩:=Dk a;grind[Option.some.inj,List.mem_of_getElem?,List.getElem?_set_self,Ce];exact⟨f,yQ c.1 f a e,rfl,j⟩
def bh{x}:An (LB x) λr=>r.2=0->QJ x.1/\∃(i:Y)(f g:BK),x.1.2.1[i]?=D f/\f.1.1=x.2.1/\r.1.2.1=x.1.2.1.set i g/\g.1=x.2/\g.2.1=A:=by unfold LB;refine AA Ei λv c=>AP (y? n!) (λb=>?_);have h:=(c.1 b).2.1;have j:=(c.1 b).2.2.1;refine AA Ov λ_ _=>AK (λb=>AB λa=>O! a b) (λ_=>AA (G6 d!) λi d=>AC (y? n!) (λb=>AA (AI o! d.2.1) λk e=>AC (y? n!) (λ_=>AA (P:=λ_=>z) (AP (y? trivial) (y? trivial)) λl _=>?_)));grind[AA,MV,AB,Option.some.inj]
def KD.cell{e}(h:KD e):0<=e.2.2.2.2.2.2.1.2.1/\e.2.2.2.2.2.2.1.2.1<16:=by have a:=h.2.2.2.2.2.2.2.2;grind[SI,Pe,Qu]
def KI.same{k}(h:KI B k){f g:BK}(a:f∈k.2.2.2.1.2.1)(b:g∈k.2.2.2.1.2.1)(e:g.1.1=f.1.1):g.1=f.1:=by have hr:=h.2.2 f a;rw[(h.2.1 f.1.1 hr.1 hr.2.1).1 g b e];exact((h.2.1 f.1.1 hr.1 hr.2.1).1 f a rfl).symm
def WE{x:AU×AE}(h:SK B x.1)(L:Dc x.1.2.2.1)(b:0<=x.2.2.2.2.2.2.2.1.2.1/\x.2.2.2.2.2.2.2.1.2.1<16)(t:x.2.2.1=1\/x.2.2.1=2)(hp:QJ x.1.2.2.2.1)(ad:oJ x.1.2.2.2.1 x.2.2.2.2.2.2.2.1.1)(G:∀f∈x.1.2.2.2.1.2.1,f.1.1=x.2.2.2.2.2.2.2.1.1->HF f.1.2.2 x.2.2.2.2.2.2.2.1.2.1=D x.2.2.2.2.2.2.2.1.2.2.1):An (K0 x) λr=>KL B x.1 r.1/\(r.2=0->ABl x.1.2.2.2.2.2.1 x.2.2.1 x.2.2.2.1 r.1.2.2.2.2.2.1):=by
 unfold K0;refine AA (GS h.sb) λv hv=>AK (λb=>AB ⟨KL.refl h L,λt=>O! t b⟩) (λN=>?_);have⟨_,l,c⟩:=hv N;refine AA JQ λE S=>AA (Ch b.1 b.2) λ_ _=>AA (Ch b.1 b.2) λ_ _=>AA bh λv4 Z=>AK (λb=>AB ⟨KL.refl h L,λt=>O! t b⟩) (λO=>AB ⟨⟨l.1,l.2.1,?_,l.2.2.1⟩,λ_=>l.2.2.2.2.2.1⟩);have F:=l.2.2.2.2.2.2.2.1;have⟨_,i,f,g,s,a,d,o,J⟩:=Z O;have⟨_,_,_,_,_,_,a7,_,e,T,P,U_,C,V,W,e7⟩:=l;have A_:E.2=A:=by cases q:E.2<;>grind
 have u:E.1.1=x.2.2.2.2.2.2.2.1.1:=(S.1 A_).2.2.2.1;have w:e.2.2.2.2.2.2.1.1=x.2.2.2.2.2.2.2.1.1:=E! (·.2.1.1) C;have hr:=h.ki.2.2 f (BP s);dsimp only at s a d o c;refine⟨F.1,F.2.1,F.2.2,?_⟩;have y:e.2.1=1\/e.2.1=2:=by rw[U_];exact t
 have p:∀n:U,n≠1->n≠2->e.2.1≠n:=λn n1 n2 q=>by rcases y with D_|D_<;>rw[q]at D_;exact n1 D_;exact n2 D_
 unfold KI;dsimp only;rw[l.1,a7,T,W (by rcases t with q|q<;>rw[q]<;>decide),d];have K:g.1.1=f.1.1:=by rw[o,a]
 have m:=BP s;have I:=(h.ki.2.1 f.1.1 hr.1 hr.2.1).1 f m rfl;have M:E.1=f.1:=by have⟨_,_,_,_,f',H,Q⟩:=S.1 A_;rw[<-Q];exact h.ki.same m H (by rw[Q,a])
 have R:e.2.2.2.2.2.2.1.2.1=x.2.2.2.2.2.2.2.1.2.1:=E! (·.2.1.2.1) C;have Y:e.2.2.2.2.2.2.1.2.2.1=x.2.2.2.2.2.2.2.1.2.2.1:=E! (·.2.1.2.2.1) C;have X_:e.2.2.2.2.2.2.1.2.2.2=x.2.2.2.2.2.2.2.1.2.2.2:=E! (·.2.1.2.2.2) C;refine⟨h.ki.1.app ⟨λq=>⟨V h.ki.2.1 q (by rw[w,<-u,<-a];exact hr.1) (by rw[w,<-u,<-a];exact hr.2.1),by rw[R,Y,w,<-u,<-a,<-I];exact G f m (by rw[a,u]),by rw[w,<-u,<-a];exact hr.2.1⟩,λq=>O! q (p 7 g! g!),λq=>O! q (p 6 g! g!),p 8 g! g!⟩,?_,h.ki.2.2.set s K⟩;refine h.ki.2.1.change h.ki.2.2 y s (by rw[a,u,w]) (by rw[o,M,c,<-P];unfold upd;rw[R,X_]) J (λj k hj q=>hp.idx s hj q) ?_;rw[P];exact mI L _
theorem B9{x}:An (BM x) λr=>r.1=5:=by grind[BM,AB]
theorem jv{x}:An (BM x) λr=>r.1=5/\r.2.2.2.2=x:=by grind[BM,AB]
theorem AEp{l:List Ar}{id}(h:Z l<=16777216)(m:jx l id):An (E5 (l,id)) λr=>0<=r/\r<Z l:=by
 unfold E5;refine AA (P:=λr=>∃u:U,r=.inl u/\0<=u/\u<Z l) ?_ λr hr=>?_;refine AY (λ(s:Int)=>0<=s/\s<=Z l/\∀(j:Y)(t:Ar),j<s->l[j]?=D t->t.1≠id) (λs=>((Z l:U)-s).toNat) ⟨Ag _,o!,λj t b=>O! b o!⟩ (λs k=>?_);obtain⟨g,p,i⟩:=k;unfold Kb;have e:=Aa (x:=s+1);apply AC<;>intro d;simp only[V]at d;refine AA (AI g d) λq a=>AQ (y? ⟨s,rfl,g,d⟩) (λc=>AB ?_);dsimp only at c;rw[e];refine⟨⟨o!,o!,λj t b f=>?_⟩,o!⟩;by_cases n:(j:U)=s;have:s.toNat=j:=o!
 rw[this]at a;rw[f]at a;have:=BL a.1;rw[this];exact c;exact i j t o! f;obtain⟨j,t,b,f⟩:=m;have:=Ce b;simp only[V]at d;exact O! f (i j t o! b);obtain⟨u,rfl,o⟩:=hr;exact BC (AB o)
def tO{l:E Ar}{id}(h:Z l<=16777216)(a:jx l id):An (Cj (l,id)) λr=>0<=r/\r<Z l:=by grind[Cj,AA,AEp,AB]
def bo{x:AU×U}(h:SK B x.1)(k:Dc x.1.2.2.1)(j:jx x.1.2.2.2.2.2.1 x.2):An (LK x) λr=>KL B x.1 r.1/\(r.2.1=1\/r.2.1=5):=by unfold LK;refine AA (tO h.2.1 j) λo c=>AA (AI c.1 c.2) λp _=>AA (P:=λs=>(∃u,s=.inl u/\KL B x.1 u.1)\/∃u,s=.inr u/\KL B x.1 u.1/\(u.2.1=1\/u.2.1=5)) ?_ λs l=>?_;refine AQ (λ_=>?_) (λ_=>?_);refine AA (Jq h.2.1) λq d=>AB (.inl ⟨_,rfl,rfl,LX.refl _,⟨h.1,?_,h.2.2⟩,k⟩);have:=pY x.1.2.2.2.2.2.1 x.2;have e:=h.2.1;dsimp only at*;rw[d];omega;refine AA (GS h.sb) λt f=>AK (λn=>?_) (λm=>?_);grind[AA,B9,AB,KL.refl];have b:=(f m).2.1.kl h u!;refine AA (Kc b.2.2.1 b.2.2.2) λv g=>AB (.inl ⟨_,rfl,b.trans g.1.kl⟩);rcases l with⟨u,rfl,a⟩|⟨u,rfl,a⟩;apply BC;refine AA (Mv a.2.2.1.1) λw i=>AB ⟨⟨a.1,a.2.1,a.2.2.1.locks i,a.2.2.2⟩,.inl rfl⟩;exact A3 (AB a)
def Xn{x}{a:Ar}{s:U}(h:0<=s/\s<=Z a.2.2.2.2.1/\(Z a.2.2.2.2.1:U)<=16777216):An (Ak (L3 x a) s) λr=>z:=by
 refine AY (λ(s:Int)=>0<=s/\s<=Z a.2.2.2.2.1/\(Z a.2.2.2.2.1:U)<=16777216) (λs=>((Z a.2.2.2.2.1:U)-s).toNat) h (λs c=>?_);unfold L3;exact x!
def AIm{l:E Ar}{i:Y}{t:Ar}(h:l[i]?=D t):Z t.2.2.2.2.1<TP l:=by
 induction l generalizing i with
 |nil=>simp at h
 |cons a r b=>
  unfold TP;rw[Bs,WS];cases i with
  |zero=>simp at h;rw[h];omega
  |succ i=>have:=b (i:=i) (by simpa using h);unfold TP at this;omega
def AJ0{l:E Ar}(h:∀(i:Y)(t:Ar),l[i]?=D t->Z t.2.2.2.2.1<=4096):TP l<=Z l*4097:=by
 induction l with
 |nil=>simp[TP]
 |cons a r c=>have d:=h 0 a k!;have e:=c (λi t b=>h (i+1) t (by simpa using b));unfold TP at*;grind[List.length_cons]
def Zd.tp{l}(h:Zd l):TP l<=262208:=by have:=AJ0 (l:=l) (λi t a=>(h.2 i t a).1);have:=h.1;omega
def Z2{x:AU×U×C3}(h:Z x.1.2.2.2.2.2.1<=16777216)(d:TP x.1.2.2.2.2.2.1<=262208)(c:jx x.1.2.2.2.2.2.1 x.2.1):An (Kg x) λr=>z:=by unfold Kg;refine AA (tO h c) λe a=>AA (AI a.1 a.2) λf b=>?_;have:=AIm b.1;refine AA (Xn ⟨Ag _,o!⟩) λr _=>?_;grind[BA,AB]
def Ue{x:AU×U×U}(h:SK B x.1)(z:Dc x.1.2.2.1)(A_:Zd x.1.2.2.2.2.2.1)(p:x.2.1≠0)(y:jx x.1.2.2.2.2.2.1 x.2.1):An (JS x) λr=>KL B x.1 r.1/\(r.2.1=x.2.2\/r.2.1=5):=by
 unfold JS;refine AA (bd h.1) λL c=>AA (tO h.2.1 y) λM n=>AA (AI n.1 n.2) λN _=>AQ (λ_=>?_) (λ_=>?_);refine AA (Jq h.2.1) λO t=>AA (Mv c) λQ u=>AB ⟨⟨rfl,LX.refl _,⟨u,?_,h.2.2⟩,z⟩,.inl rfl⟩;have:=pY x.1.2.2.2.2.2.1 x.2.1;have q:=h.2.1;dsimp only at*;rw[t];omega;refine AA (GS (h.locks c).sb) λf v=>AK (λi=>?_) (λC=>?_);grind[AA,B9,AB,KL.refl];have j:=(v C).2.1;have o:=j.2.2.2.2.2.1;have K:=(o.2.2.1 p (by show(4:U)≠1;decide)).2;have D_:=A_.tp;have b:KL B x.1 f.1:=⟨j.1,j.2.1,(j.kl (h.locks c) u!).2.2⟩
 refine AA (P:=λr=>KL B x.1 r) ?_ λr hr=>AB ⟨hr,.inl rfl⟩;refine AY (λ(s:Int×AU)=>0<=s.1/\s.1<=Z f.1.2.2.2.2.1.1/\KL B x.1 s.2/\s.2.2.2.2.2.2.1=f.1.2.2.2.2.2.1) (λs=>((Z f.1.2.2.2.2.1.1:U)-s.1).toNat) (s:=((0:U),f.1)) ⟨Ag _,d!,b,rfl⟩ (λs w=>?_);have⟨m,J,a,d⟩:=w;unfold TW;have I:=b.2.2.1.1.1;refine AC (λi=>?_) (y? a);simp[V]at i;have e:=Aa (x:=s.1+1);refine AA (AI m i) λR _=>AQ (λ_=>?_) (y? ⟨⟨d!,d!,a,d⟩,d!⟩);refine AA (AI m i) λS _=>AA (Z2 (by dsimp only;rw[d];exact b.2.2.1.2.1) (by dsimp only at*;rw[d];omega) (by dsimp only;rw[d];exact(o.2.2.2 p rfl))) λE _=>AA (P:=λk=>KL B x.1 k/\k.2.2.2.2.2.1=f.1.2.2.2.2.2.1) ?_ λH g=>AB ⟨⟨d!,d!,g.1,g.2⟩,d!⟩;refine AP (λ_=>?_) (y? ⟨a,d⟩);refine AA (AI m i) λF _=>AA (Va a.2.2.1.1) λG l=>AB ⟨⟨a.1,a.2.1,a.2.2.1.locks l,a.2.2.2⟩,d⟩
def bj{x}:An (LF x) λr=>r=0->x.2.1=4\/x.2.1=5\/x.2.1=6\/x.2.1=7\/(0<=x.2.2.2.1/\x.2.2.2.1<16):=by unfold LF;refine AA (P:=λv=>z) (AM (y? trivial) (λ_=>AA (P:=λ_=>z) (AM (y? trivial) (y? trivial)) λ_ _=>AB trivial)) λi _=>AA (P:=λs=>(∃u,s=.inl u/\u=1)\/∃u,s=.inr u/\(x.2.1=4\/x.2.1=5\/x.2.1=6\/x.2.1=7\/(0<=x.2.2.2.1/\x.2.2.2.1<16))) ?_ λs c=>?_;refine AM (λ_=>?_) (λ_=>?_);refine AC (y? (.inl ⟨_,rfl,rfl⟩)) (λ_=>AC (y? (.inl ⟨_,rfl,rfl⟩)) (λ_=>AC (y? (.inl ⟨_,rfl,rfl⟩)) (λe=>AC (y? (.inl ⟨_,rfl,rfl⟩)) (λf=>AA (P:=λ_=>z) (AM (y? trivial) (y? trivial)) λj _=>AB (.inr ⟨_,rfl,?_⟩)))));omega;refine AA (P:=λs=>(∃u,s=.inl u/\u=1)\/∃u,s=.inr u/\(x.2.1=4\/x.2.1=5\/x.2.1=6\/x.2.1=7)) ?_ λs c=>?_;refine AQ (λh=>?_) (λ_=>?_);refine AC (y? (.inl ⟨_,rfl,rfl⟩)) (λ_=>AC (y? (.inl ⟨_,rfl,rfl⟩)) (y? (.inr ⟨_,rfl,o!⟩)));refine AA (P:=λb=>b=A->x.2.1=4\/x.2.1=5\/x.2.1=6) ?_ λk g=>?_;grind[AQ,AB,AA];simp_all[AM,AB];grind[BC,AB,A3];rcases c with⟨u,rfl,d⟩|⟨u,rfl,d⟩;grind[BC,AB];apply A3;refine AP (y? n!) (λ_=>AC (y? n!) (y? λ_=>d))
def Ve{x}:An (J4 x) λr=>z:=by unfold J4;refine AQ (y? trivial) (λ_=>AA (P:=λ_=>z) (AM (y? trivial) (y? trivial)) λv _=>AM (y? trivial) (y? trivial))
def Z3{x:AU×U×C7}(h:SK B x.1):An (Kh x) λr=>r=0->VK x.1/\jx x.1.2.2.2.2.2.1 x.2.1/\(x.2.2.1=4\/x.2.2.1=5\/x.2.2.1=6\/x.2.2.1=7\/(0<=x.2.2.2.2.1/\x.2.2.2.2.1<16)):=by
 unfold Kh;refine AA (CQ h.sb) λv j=>AP (y? n!) (λb=>AA (GC h.2.1) λk e=>AC (y? n!) (λg=>AA (AI o! e.2.1) λl _=>AK (y? n!) (λ_=>AA bj λm f=>AK (λb=>AB λa=>O! a b) (λc=>AA (JC h.1) λn _=>AA Ve λo _=>?_))));have q:(0:U)=0->VK x.1/\jx x.1.2.2.2.2.2.1 x.2.1/\(x.2.2.1=4\/x.2.2.1=5\/x.2.2.1=6\/x.2.2.1=7\/(0<=x.2.2.2.2.1/\x.2.2.2.2.1<16)):=λ_=>by have⟨t,i,d⟩:=e.2.2 o!;exact⟨j b,⟨_,t,i,d⟩,f c⟩
 refine AM (λ_=>?_) (y? q);refine AK (λ_=>?_) (y? q);refine AP (y? n!) (λ_=>AP (y? n!) (y? q))
def bn{x:AU×U×C7}(h:SK B x.1)(k:Dc x.1.2.2.1)(n:QJ x.1.2.2.2.1)(a:0<=x.2.2.2.2.1/\x.2.2.2.2.1<16):An (LJ x) λr=>KL B x.1 r.1/\(r.2.1=1\/r.2.1=3\/r.2.1=5)/\(r.2.1=3->r.2.2.2.1=x.2.2.2.1/\¬oJ x.1.2.2.2.1 x.2.2.2.1/\r.1=x.1):=by unfold LJ;have t:=KL.refl h k;refine AA JQ λy m=>AP (λa=>AB ⟨t,.inr (.inl rfl),λ_=>⟨rfl,m.2 a n,rfl⟩⟩) (λd=>AQ (λ_=>?_) (λ_=>?_));refine AA jl λz l=>AA (Ch a.1 a.2) λ_ _=>AA (Ch a.1 a.2) λ_ _=>AB ⟨⟨rfl,LX.refl _,⟨h.1,h.2.1,h.2.2.1,h.ki.1,h.ki.2.1.frames l.1 l.2,h.ki.2.2.sub l.1⟩,k⟩,(.inl rfl),λs=>O! s (by show(1:U)≠3;decide)⟩;refine AA (Ch a.1 a.2) λ_ _=>EM (Ch a.1 a.2) λu o _=>AA (P:=λv:CZ=>v.1=x.2.2.2.1/\v.2.1=x.2.2.2.2.1/\v.2.2.1=u) (AM (y? ⟨rfl,rfl,rfl⟩) (y? ⟨rfl,rfl,rfl⟩)) λA_ b=>?_;have⟨_,_,j,i,f,p,c⟩:=m.1 d;refine AA (WE h k (by dsimp only;rw[b.2.1];exact a) (.inl rfl) n (by dsimp only;rw[b.1];exact j) λg q e=>?_) λC w=>?_;dsimp only at e⊢;rw[b.2.1,b.2.2,h.ki.same p q (by rw[e,b.1,c,i]),c];exact o;grind[AA,AK,B9,AB]
theorem er{x}:An (Mb x) λr=>z:=by unfold Mb;refine AQ (y? trivial) (λa=>?_);simp only[V]at a;exact AA (AI (Ag _)) λ_ _=>AB trivial
def jp{x:AU×U}(h:SK B x.1):An (OW x) λr=>z:=by unfold OW;refine AA (MS h.1) λa _=>?_;grind[AA,er,AB]
def kj{x:AU×Int×C7}(h:SK B x.1)(i:Dc x.1.2.2.1):An (P6 x) λr=>KL B x.1 r.1/\(r.2.1=3->r.2.2.2.1=x.2.2.2.1/\¬oJ x.1.2.2.2.1 x.2.2.2.1/\r.1.2.2.2.1=x.1.2.2.2.1)/\(r.2.1=2\/r.2.1=3->r.1.2.2.2.2.2.1=x.1.2.2.2.2.2.1):=by
 unfold P6;have q:=KL.refl h i;refine AA (Z3 h) λX I=>AK (λ_=>?_) (λd=>?_);exact AA B9 λY V=>AB ⟨q,λd=>by dsimp only at d;omega,λ_=>rfl⟩;obtain⟨u,s,F⟩:=I d;have G:x.2.1≠0:=by obtain⟨j,t,M,W⟩:=s;have:=(u.2.2.2.2.2.1.2 j t M).2.2;omega
 refine AQ (λ_=>?_) (λT=>?_);exact AA (bo h i s) λZ w=>AB ⟨w.1,λd=>by have:=w.2;omega,λd=>by have:=w.2;omega⟩;refine AQ (λ_=>?_) (λU=>?_);refine AA (Ue h i u.2.2.2.2.2.1 G s) λv3 E=>AB ?_;have y:=E.2;dsimp only at y;exact⟨E.1,λd=>o!,λd=>o!⟩;refine AA (P:=λb=>b=ζ↔x.2.2.1=6\/x.2.2.1=7) ?_ λv4 J=>?_;refine AQ (λp=>AB (by simp[p])) (λp=>AB (by simp[p]));refine AM (λ_=>?_) (λk=>?_);refine AA iI λv5 z=>AA (P:=λv=>v.2=0->θ v.1<=64) ?_ λv7 K=>?_;exact AM (λ_=>AA iG λv6 p=>AB p) (y? z);refine AK (λ_=>?_) (λd=>AB ⟨⟨rfl,LX.refl _,⟨h.1,?_,h.2.2⟩,i⟩,λd=>O! d (by show(1:Int)≠3;decide),λd=>O! d (by show¬((1:Int)=2\/(1:Int)=3);decide)⟩);exact AA B9 λS L=>AB ⟨q,λd=>by dsimp only at d;omega,λ_=>rfl⟩;have:=K d;dsimp only;omega;have g:0<=x.2.2.2.2.1/\x.2.2.2.2.1<16:=by
  have:¬(x.2.2.1=6\/x.2.2.1=7):=λh=>by rw[J.2 h]at k;cases k
  omega
 refine AA Ve λv9 _=>AA (Zq h.1) λC l=>AK (λ_=>?_) (λ_=>?_);exact AA B9 λS L=>AB ⟨q,λd=>by dsimp only at d;omega,λ_=>rfl⟩;have f:=h.locks l;have H:∀m,KL B (x.1.1,x.1.2.1,x.1.2.2.1,x.1.2.2.2.1,C.1,x.1.2.2.2.2.2) m->KL B x.1 m:=λm A=>⟨A.1,A.2.1,A.2.2⟩
 refine AM (λ_=>?_) (λ_=>?_);refine AA (bn f i u.2.2.2.1 g) λN e=>AQ (λz=>AB ⟨q,λd=>by dsimp only at d;omega,λ_=>rfl⟩) (y? ⟨H _ e.1,λd=>?_,λd=>?_⟩);obtain⟨a,b,c⟩:=e.2.2 d;exact⟨a,b,by rw[c]⟩;have D:=e.2.1;obtain⟨a,b,c⟩:=e.2.2 o!;rw[c];refine AA (eS l) λO _=>AC (λ_=>?_) (λ_=>?_);refine AA (Ue f i u.2.2.2.2.2.1 G s) λQ n=>?_;have o:=n.2;dsimp only at o;exact AQ (λz=>AB ⟨q,λd=>by dsimp only at d;omega,λ_=>rfl⟩) (y? ⟨H _ n.1,λd=>o!,λd=>o!⟩);exact AA (jp f) λR _=>AB ⟨⟨rfl,LX.refl _,f,i⟩,λd=>O! d (by show(2:Int)≠3;decide),λ_=>rfl⟩
def RTx(l:E Ar)(id:U)(t:Ar):Prop:=∃v,Cj (l,id)=D v/\0<=v/\l[v.toNat]?=D t/\t.1=id
def RTx.uniq{l}{id}{t u}(h:RTx l id t)(g:RTx l id u):u=t:=by have⟨v,e,f,i,j⟩:=h;have⟨w,a,b,c,d⟩:=g;grind[Option.some.inj]
def NX(k:AU)(id:U)(e:AE):Prop:=∃t lsn,RTx k.2.2.2.2.2.1 id t/\t.2.2.2.2.1[Z t.2.2.2.2.1-1]?=D lsn/\k.2.2.1.2.1[(lsn-k.2.2.1.1).toNat]?=D e
def NX.uniq{k m}{id}{e f}(h:NX k id e)(g:NX m id f)(o:m.2.2.2.2.2.1=k.2.2.2.2.2.1)(c:LX k.2.2.1 m.2.2.1):f=e:=by have⟨t,n,i,j,l⟩:=h;have⟨u,w,a,b,d⟩:=g;rw[o]at a;have:=i.uniq a;subst this;rw[j]at b;cases b;have:=c.get l;rw[c.1]at d;grind[Option.some.inj]
def JF{x:AU×U}(h:SK B x.1):An (Fl x) λr=>r.2=0->VK x.1/\RTx x.1.2.2.2.2.2.1 x.2 r.1/\Z r.1.2.2.2.2.1<=4096/\r.1.1≠0:=by
 unfold Fl;refine AA (CQ h.sb) λv i=>AP (y? n!) (λf=>?_);have c:=i f;refine EM (GC h.2.1) λj e d=>AC (y? n!) (λg=>AA (AI o! d.2.1) λk _=>AQ (y? n!) (λ_=>AA (AI o! d.2.1) λl b=>AB λ_=>⟨c,⟨j,e,o!,b.1,?_⟩,(c.2.2.2.2.2.1.2 _ _ b.1).1,?_⟩))
 grind[Option.some.inj];have:=(c.2.2.2.2.2.1.2 _ _ b.1).2.2;dsimp only;omega
def iL{x:AU×U}(h:SK B x.1):An (IH x) λr=>r.2=A->VK x.1/\NX x.1 x.2 r.1/\KD r.1:=by
 unfold IH;refine AA (JF h) λc f=>AK (y? λa=>by cases a) (λa=>?_);have⟨k,hr,o,_⟩:=f a;refine AQ (y? λa=>by cases a) (λj=>?_);simp only[V]at j;rw[(Aa (x:=V c.1.2.2.2.2.1-1) b!)];refine AA (AI b! b!) λp _=>AC (y? λa=>by cases a) (λ_=>AA (AI b! b!) λl g=>AA HZ λq i=>AB λa=>?_);have⟨d,m,e,n⟩:=i.1 (by simpa using a);refine⟨k,⟨c.1,l,hr,?_,e⟩,d⟩;have b:=g.1;have:(V c.1.2.2.2.2.1-1).toNat=Z c.1.2.2.2.2.1-1:=i!
 rw[this]at b;exact b
def km{x:AU×Ar×C3×U}(h:Z x.2.1.2.2.2.2.1<=16777216)(c:0<=x.2.2.2/\x.2.2.2<=Z x.2.1.2.2.2.2.1):An (P7 x) λr=>r.2=A->KD r.1/\r.1.2.2.2.2.2.2.1.1=x.2.2.1.1:=by unfold P7;rw[(Aa (x:=x.2.2.2-1))];refine AA (P:=λr=>∀u,r=.inl u->u.1=A->KD u.2/\u.2.2.2.2.2.2.2.1.1=x.2.2.1.1) ?_ λr hr=>BA (λu a=>AB (hr u a)) (λ_ _=>AB λb=>by cases b);refine AY (λ(s:Int×AE)=> -1<=s.1/\s.1<Z x.2.1.2.2.2.2.1) (λs=>(s.1+1).toNat) d! (λs d=>?_);unfold WF;rw[(Aa (x:=s.1-1))];refine AC (λe=>?_) (y? λu a=>by cases a);grind[AA,AI,HZ,AQ,AB]
def TX{x:AU×U×C3}(h:SK B x.1):An (LL x) λr=>r.2=A->VK x.1/\KD r.1/\r.1.2.2.2.2.2.2.1.1=x.2.2.1:=by refine AA (JF h) λf b=>AK (y? λa=>by cases a) (λa=>AK (y? λa=>by cases a) (λ_=>?_));have⟨d,_,e,_⟩:=b a;exact AA (km d! ⟨by simp[V],by simp[V]⟩) λg c=>AB λa=>⟨d,c a⟩
def Zp{x}:An (KY x) λr=>r=(x.1,x.2.1,x.2.2.2,x.2.2.1):=by grind[KY,AB]
def Vg{x:AU×Ar×AE}(h:SK B x.1)(t:Dc x.1.2.2.1)(u:QJ x.1.2.2.2.1)(A_:KD x.2.2)(v:x.2.1.1≠0):An (Gr x) λr=>KL B x.1 r.1/\(r.2.1=3->r.2.2.2.1=x.2.2.2.2.2.2.2.2.1.1/\¬oJ x.1.2.2.2.1 x.2.2.2.2.2.2.2.2.1.1/\r.1=x.1)/\(r.2.1≠3->r.2.1≠5->r.2.2.1≠0/\TP r.1.2.2.2.2.2.1<TP x.1.2.2.2.2.2.1)/\(r.2.1=5->r.2.2.2.2.2≠0):=by unfold Gr;have F:=KL.refl h t;refine AA JQ λG i=>AP (λl=>AB ⟨F,λ_=>⟨rfl,i.2 l u,rfl⟩,λa=>O! rfl a,λa=>O! a (by show(3:U)≠5;decide)⟩) (λc=>AA Zp λH w=>?_);subst w;refine AA Ua λI j=>AK (λl=>?_) (λo=>?_);grind[AA,jv,AB];refine AA (WE h t A_.cell (.inr rfl) u (i.1 c).2.2.1 λg D_ e=>by have⟨_,_,_,m,f,C,d⟩:=i.1 c;rw[h.ki.same C D_ (by rw[e,d,m]),d];exact(j.1 o).2) λp q=>AK (λl=>?_) (λa=>?_);grind[AA,jv,AB];have E:=(q.2 a).2.2.1 v (by show(2:U)≠1;decide);have n:=E.1 (by show(2:U)≠4;decide);have b:KL B x.1 p.1:=q.1;refine AA (P:=λk=>KL B x.1 k/\k.2.2.2.2.2.1=p.1.2.2.2.2.2.1) ?_ λM s=>AB ⟨s.1,λa=>O! a (by show(1:U)≠3;decide),λ_ _=>⟨v,by rw[s.2];exact n⟩,λa=>O! a (by show(1:U)≠5;decide)⟩;refine AM (λ_=>?_) (y? ⟨b,rfl⟩);refine AA (TX b.2.2.1) λJ _=>AA (P:=λk=>KL B x.1 k/\k.2.2.2.2.2.1=p.1.2.2.2.2.2.1) ?_ λL z=>AB z;refine AP (λ_=>?_) (y? ⟨b,rfl⟩);exact AA (Va b.2.2.1.1) λK y=>AB ⟨⟨b.1,b.2.1,b.2.2.1.locks y,b.2.2.2⟩,rfl⟩
def Vf{x:AU×U}(h:SK B x.1)(m:Dc x.1.2.2.1):An (J5 x) λr=>KL B x.1 r.1/\(r.2.1=3->∃e,NX x.1 x.2 e/\r.2.2.2.1=e.2.2.2.2.2.2.1.1/\¬oJ x.1.2.2.2.1 e.2.2.2.2.2.2.1.1)/\(r.2.1≠3->r.2.1≠5->TP r.1.2.2.2.2.2.1<TP x.1.2.2.2.2.2.1)/\(r.2.1=5->r.2.2.2.2.2≠0):=by
 unfold J5;have D_:=KL.refl h m;refine AA (JF h) λA_ q=>AK (λi=>?_) (λd=>?_);grind[AA,jv,AB];have⟨y,hr,n,o⟩:=q d;have f:An (σ (IH x) λk=>
  S (!k.2) (σ (BM 14) λC=>
   D (x.1,C))<|σ (Gr (x.1,A_.1,k.1)) λp=>
  D p) λr=>KL B x.1 r.1/\(r.2.1=3->∃e,NX x.1 x.2 e/\r.2.2.2.1=e.2.2.2.2.2.2.1.1/\¬oJ x.1.2.2.2.1 e.2.2.2.2.2.2.1.1)/\(r.2.1≠3->r.2.1≠5->TP r.1.2.2.2.2.2.1<TP x.1.2.2.2.2.2.1)/\(r.2.1=5->r.2.2.2.2.2≠0):=by
  refine AA (iL h) λk u=>AP (λ_=>?_) (λi=>?_);grind[AA,jv,AB];have⟨_,hn,w⟩:=u i;refine AA (Vg h m y.2.2.2.1 w o) λp g=>AB ⟨g.1,λd=>?_,λa b=>(g.2.2.1 a b).2,g.2.2.2⟩;have⟨a,b,_⟩:=g.2.1 d;exact⟨_,hn,a,b⟩
 refine AQ (λ_=>?_) (λ_=>f);refine AQ (λ_=>?_) (λ_=>f);refine AA (GS h.sb) λE s=>AK (λi=>?_) (λd=>?_);grind[AA,jv,AB];have l:=(s d).2.1;have z:=(l.2.2.2.2.2.1.2.2.1 (by have⟨v,_,_,_,j⟩:=hr;rw[<-j];exact o) (by show(5:U)≠1;decide)).1 (by show(5:U)≠4;decide);have c:=l.kl h u!;exact AA (Mv c.2.2.1.1) λF t=>AB ⟨⟨c.1,c.2.1,c.2.2.1.locks t,c.2.2.2⟩,λd=>O! d (by show(1:U)≠3;decide),λ_ _=>z,λd=>O! d (by show(1:U)≠5;decide)⟩
def iK{x:AU×U×C3}(h:SK B x.1)(f:Dc x.1.2.2.1):An (NU x) λr=>KL B x.1 r.1/\(r.2.1=3->r.2.2.2.1=x.2.2.1/\¬oJ x.1.2.2.2.1 x.2.2.1/\r.1=x.1)/\(r.2.1≠3->r.2.1≠5->r.2.2.1≠0->TP r.1.2.2.2.2.2.1<TP x.1.2.2.2.2.2.1):=by unfold NU;have o:=KL.refl h f;refine AA (JF h) λp i=>AK (λ_=>?_) (λc=>?_);grind[AA,B9,AB];have⟨m,hr,g,n⟩:=i c;refine AK (λ_=>?_) (λ_=>?_);grind[AA,B9,AB];refine AA (TX h) λq j=>AP (y? ⟨o,λc=>O! c (by show(1:U)≠3;decide),λ_ _ c=>O! rfl c⟩) (λk=>?_);have⟨_,l,e⟩:=j k;refine AA (Vg h f m.2.2.2.1 l n) λs d=>AB ⟨d.1,λc=>?_,λa b _=>(d.2.2.1 a b).2⟩;have:=d.2.1 c;dsimp only at this;rw[e]at this;exact this
def Sd{x:AZ×U}(h:SK B x.1.1):An (Ej x) λr=>z:=by unfold Ej;refine AA (GC h.2.1) λc a=>AC (λb=>?_) (y? trivial);grind[AA,AI,AB]
def SR(B:U->Prop)(x s:AZ):Prop:=KL B x.1 s.1/\DJ B s.1.2.2.1 s.2
def SR.trans{a b c}(h:SR B a b)(g:SR B b c):SR B a c:=⟨h.1.trans g.1,g.2⟩
def SvR.sr{a b}(h:SvR B a b):SR B a b:=⟨h.1.kl,h.2⟩
open Classical in
noncomputable def flag(p:Prop):Y:=if p then 1 else 0
theorem AB6(p:Prop):flag p<=1:=by unfold flag;split<;>omega
def xh{p:Prop}(h:p):flag p=1:=by unfold flag;rw[C! h]
def xg{p:Prop}(h:¬p):flag p=0:=by grind[flag]
def ZL{x:AZ×U}(h:SK B x.1.1)(C:Dc x.1.1.2.2.1)(A_:DJ B x.1.1.2.2.1 x.1.2):An (FF x) λr=>r.2=0->SR B x.1 r.1:=by unfold FF;refine AA (CQ h.sb) λv E=>AP (y? n!) (λm=>AA (GC h.2.1) λH _=>AC (y? n!) (λ_=>AA (P:=λr=>(∀u,r=.inl u->u.1≠0)/\∀u,r=.inr u->SR B x.1 u.1) ?_ λr hr=>BA (λu a=>AB λb=>O! b (hr.1 u a)) (λu a=>AB λ_=>hr.2 u a)));refine AY (SR B x.1 ·.1) (λs=>2*TP s.1.1.2.2.2.2.2.1+flag (∃e,NX s.1.1 x.2 e/\¬oJ s.1.1.2.2.2.1 e.2.2.2.2.2.2.1.1)) ⟨KL.refl h C,A_⟩ (λs c=>?_);unfold Q3;have d:=c.1.2.2;refine AA (Sd d.1) λI _=>AM (λ_=>?_) (y? ⟨λu a=>(by cases a),λu a=>(by cases a;exact c)⟩);refine AA (Vf d.1 d.2) λJ z=>?_;have⟨k1,D_,F,G⟩:=z;apply AQ<;>intro i;grind[AB];refine AA (P:=λr=>(∃u,r=.inl u/\u.1≠0)\/∃u,r=.inr u/\SR B s.1 u.1/\2*TP u.1.1.2.2.2.2.2.1+flag (∃e,NX u.1.1 x.2 e/\¬oJ u.1.1.2.2.2.1 e.2.2.2.2.2.2.1.1)<2*TP s.1.1.2.2.2.2.2.1+flag (∃e,NX s.1.1 x.2 e/\¬oJ s.1.1.2.2.2.1 e.2.2.2.2.2.2.1.1)) ?_ λr hr=>?_;apply AQ<;>intro o;have⟨e,k,p,q⟩:=D_ o;refine AA (II d.1 c.2) λK i=>AK (λm=>AB (.inl ⟨_,rfl,m⟩)) (λb=>AB (.inr ⟨_,rfl,(i b).1.sr,?_⟩));have⟨l,g⟩:=i b;have n:=l.1.2.2.2.2.1;rw[xh (⟨e,k,q⟩:∃e,NX s.1.1 x.2 e/\¬oJ s.1.1.2.2.2.1 e.2.2.2.2.2.2.1.1),xg,n];dsimp only;omega;rintro⟨f,t,y⟩;have:=k.uniq t n l.1.2.1;subst this;dsimp only at g;rw[p]at g;exact y g;refine AB (.inr ⟨_,rfl,⟨k1,c.2.up k1.2.1⟩,?_⟩);grind[AB6,oJ];rcases hr with⟨u,rfl,a⟩|⟨u,rfl,a⟩;refine BC (AB ⟨λw j=>?_,λw j=>(by cases j)⟩);cases j;exact a;exact A3 (AB ⟨c.trans a.1,a.2⟩)
def kq{x:AZ×U×C7}(h:SK B x.1.1)(K:Dc x.1.1.2.2.1)(J:DJ B x.1.1.2.2.1 x.1.2):An (QA x) λr=>SR B x.1 r.1/\(r.2.1=2->r.1.1.2.2.2.2.2.1=x.1.1.2.2.2.2.2.1):=by
 unfold QA;refine AA (P:=λr=>SR B x.1 r.1/\(r.2.1=2->r.1.1.2.2.2.2.2.1=x.1.1.2.2.2.2.2.1)) ?_ λr hr=>AB hr;refine AY (λs=>SR B x.1 s.1/\s.1.1.2.2.2.2.2.1=x.1.1.2.2.2.2.2.1) (λs=>flag (¬oJ s.1.1.2.2.2.1 x.2.2.2.1)) ⟨⟨KL.refl h K,J⟩,rfl⟩ (λs l=>?_);obtain⟨l,o⟩:=l;have y:=l.1.2.2;unfold WJ;refine AA (kj y.1 y.2) λf E=>?_;obtain⟨k1,L,z⟩:=E;have j:SR B x.1 (f.1,s.1.2):=⟨l.1.trans k1,l.2.up k1.2.1⟩
 have g:=k1.2.2;apply AQ<;>intro q;obtain⟨a,b,c⟩:=L q;have d:=z (.inr q);refine AA (II g.1 j.2) λT F=>AK (λ_=>?_) (λi=>AB ?_);refine AA B9 λU_ R=>AB ⟨j,λ_=>?_⟩;dsimp only at*;rw[d,o];obtain⟨t,v⟩:=F i;refine⟨⟨j.trans t.sr,?_⟩,?_⟩;have:=t.1.2.2.2.2.1;dsimp only at*;rw[this,d,o];dsimp only at*;rw[xh b,xg];omega;intro hn;rw[a]at v;exact hn v;have k:∀(Q:Step (AZ×(AZ×Bh)) (AZ×Bh)->Prop),(∀r:AZ×Bh,SR B x.1 r.1/\(r.2.1=2->r.1.1.2.2.2.2.2.1=x.1.1.2.2.2.2.2.1)->Q (.done r))->∀c:U,c≠2->f.2.1=c->An (σ (Ej ((f.1,s.1.2),x.2.1)) λA_=>
  σ ((
    bif A_ then
     σ (FF ((f.1,s.1.2),x.2.1)) λn=>
     bif (n.2 !=0)then
      σ (BM n.2) λC=>
      D (.inl ((f.1,s.1.2),C))
     else
     D (.inr (n.1,s.2))
    else
    D (.inr ((f.1,s.1.2),s.2))):(W ((AZ×Bh)⊕(AZ×(AZ×Bh))))) λO=>
  ν (λM=>D (Step.done M))
  (λN=>D (.done (N.1,f.2))) O) Q:=by
  intro Q w c S I;refine AA (Sd g.1) λA_ _=>AA (P:=λr=>(∃u,r=.inl u/\SR B x.1 u.1/\u.2.1=5)\/∃u,r=.inr u/\SR B x.1 u.1) ?_ λr hr=>?_;refine AM (λ_=>?_) (y? (.inr ⟨_,rfl,j⟩));refine AA (ZL g.1 g.2 j.2) λn G=>AK (λ_=>?_) (λi=>AB (.inr ⟨_,rfl,j.trans (G i)⟩));exact AA B9 λC H=>AB (.inl ⟨_,rfl,j,H⟩);rcases hr with⟨u,rfl,m⟩|⟨u,rfl,m⟩;exact BC (AB (w _ ⟨m.1,λi=>by have:=m.2;omega⟩));exact A3 (AB (w _ ⟨m,λi=>by dsimp only at i;omega⟩))
 have e:SR B x.1 (f.1,s.1.2)/\(f.2.1=2->f.1.2.2.2.2.2.1=x.1.1.2.2.2.2.2.1):=⟨j,λi=>by rw[z (.inl i),o]⟩
 refine AQ (λD_=>k _ (λr hr=>hr) 4 g! D_) (λ_=>AQ (λp=>?_) (y? e));refine AQ (λ_=>k _ (λr hr=>hr) 1 g! p) (λ_=>AQ (λ_=>k _ (λr hr=>hr) 1 g! p) (y? e))
def eY{x}(h:SK B x)(d:Dc x.2.2.1):An (MZ x) λr=>r.2.2=0->KL B x r.1:=by unfold MZ;refine AA (CQ h.sb) λv e=>AP (y? n!) (λb=>AC (y? n!) (λ_=>AA Ud λf c=>AK (λb=>AB λa=>O! a b) (λa=>AB λ_=>⟨rfl,LX.refl _,⟨h.1,?_,h.2.2⟩,d⟩)));have:=(c a).2;dsimp only;omega
def fE{x:AZ}(h:SK B x.1)(e:Dc x.1.2.2.1)(d:DJ B x.1.2.2.1 x.2):An (Mf x) λr=>r.2.2=0->SR B x r.1:=by unfold Mf;refine AA (eY h e) λf b=>AK (λc=>AB λa=>O! a c) (λa=>AB λ_=>⟨b a,d.up (b a).2.1⟩)
def ej{x:AU×U}(h:SK B x.1)(n:Dc x.1.2.2.1):An (Ma x) λr=>r.2.2=0->KL B x.1 r.1/\QJ x.1.2.2.2.1/\oJ x.1.2.2.2.1 x.2/\(∃f∈r.1.2.2.2.1.2.1,f.1=r.2.1)/\r.2.1.2.1<=r.1.2.2.1.2.2:=by
 unfold Ma;refine AA (CQ h.sb) λv q=>AP (y? n!) (λp=>AA JQ λs o=>AP (y? n!) (λj=>?_));have⟨a,b,c,d,e⟩:=o.1 j;refine AA (Kc h n) λt i=>AB λ_=>⟨i.1.kl,a,c,by dsimp only;rw[i.2.1];exact e,i.2.2 ?_⟩
 have⟨f,m,k⟩:=e;have g:=h.ki.2.2 f m;have:=E! (·.2.1) ((h.ki.2.1 f.1.1 g.1 g.2.1).1 f m rfl);have:=mI n f.1.1;rw[KB,k]at*;dsimp only;omega
def fG{x:AZ×U}(h:SK B x.1.1)(j:Dc x.1.1.2.2.1)(i:DJ B x.1.1.2.2.1 x.1.2):An (Mh x) λr=>r.2=0->SR B x.1 r.1:=by unfold Mh;refine AA (ej h j) λn l=>AK (λm=>AB λe=>O! e m) (λe=>?_);have⟨a,b,c,d,k⟩:=l e;refine AA GB λo f=>AA (AI (f.2.2.2 b c) f.2.1) λp _=>AP (y? λ_=>⟨KL.refl h j,i⟩) (λ_=>AA (Uh a.2.2.1 a.2.2.2 (i.up a.2.1) d k) λq g=>AB λe=>⟨a.trans (g e).1.kl,(g e).2.1⟩)
end Go.Pm
namespace Go.Pm
open Go Go.Ab
def HM(p:Bc):Bc:=DB (Z p:U) 4++(p++DB (QR (DB (Z p:U) 4++p)) 4)
theorem DY(p:Bc):(HM p).length=Z p+8:=by grind[HM,n?,A0]
theorem cM{p:Bc}(h:Z p<=8392):Dp p=D (HM p):=by
 unfold Dp;simp only[V];rw[F! o!,A!,IW k! g! g!,AD,Bt];have b:(DB (Z p:U) 4++p).length=Z p+4:=by grind[n?,A0]
 rw[(by grind[sapp,A0]:sapp (DB (Z p:U) (ο 4)) p=D (DB (Z p:U) 4++p)),AD,xO o!,AD];have a:=aJ (DB (Z p:U) 4++p);rw[Aa,IW o! g! g!,AD,A2];rfl
def UF(al:Y)(t:Bc):Bc×U×U:=
 if Z t<4 then([],0,5)else
 if rd (t.take 4)>8392 then([],0,2)else
 if(Z t:U)<rd (t.take 4)+8 then([],0,5)else
 if rd ((t.drop (4+(rd (t.take 4)).toNat)).take 4)≠QR (t.take (4+(rd (t.take 4)).toNat))then([],0,3)else
 ((t.drop 4).take (rd (t.take 4)).toNat,(al:U)+8+rd (t.take 4),0)
def rd4{t:Bc}(h:4<=Z t):0<=rd (t.take 4)/\rd (t.take 4)<4294967296:=by
 have a:(t.take 4).length=4:=by rw[BU];omega
 have:=(ABL (l:=t.take 4) o!).1 o!;rw[a]at this;exact this
theorem Pd{a t:Bc}(h:(Z a:U)+Z t<=2199023255552):Bg (a++t,(Z a:U))=D (UF (Z a) t):=by
 have b:V (a++t)=(Z a:U)+Z t:=by grind[n?]
 have o:((a++t).length:U)=(Z a:U)+Z t:=b;unfold Bg UF;dsimp only;rw[F! o!,A!,F! o!,A!,jw h g! g!];by_cases g:Z t<4;rw[D! o!,C! g];rfl;rw[C! o!,D! g,AD,show ο 4=4 from rfl];have⟨p,w⟩:=rd4 (t:=t) o!;generalize hn:rd (t.take 4)=n at*;obtain⟨m,rfl⟩:=Et p;rw[show((0:U) !=0)=X by decide,A!];by_cases d:(m:U)>8392;rw[G! d,B!,C! d];rw[F! d,A!,D! d,b,Aa,Aa];by_cases i:(Z t:U)<(m:U)+8;rw[G! o!,B!,C! i];rw[F! o!,A!,D! i,DF];have f:wi (wi ((Z a:U)+4)+(m:U))=((a++t.take (4+m)).length:U):=by rw[Aa (x:=(Z a:U)+4),Aa,AV,BU];omega
 have j:a++t=(a++t.take (4+m))++t.drop (4+m):=by rw[A2,C4]
 have s:((t.drop (4+m)).length:U)=Z t-(4+m):=by rw[DO];omega
 have c:((a++t.take (4+m)).length:U)=Z a+4+m:=by rw[AV,BU];omega
 have l:A4 (a++t,wi (wi ((Z a:U)+4)+(m:U)),4)=D (rd ((t.drop (4+m)).take 4),0):=by
  rw[f];conv=>lhs;rw[j]
  rw[jw o! g! g!,C! o!];rfl
 have q:SH (a++t) (Z a:U) (wi (wi ((Z a:U)+4)+(m:U)))=D (t.take (4+m)):=by unfold SH;rw[f,C! o!,c,DF,Rz,show((Z a:U)+4+m).toNat-Z a=4+m by omega]
 have r:SH (a++t) (wi ((Z a:U)+4)) (wi (wi ((Z a:U)+4)+(m:U)))=D ((t.drop 4).take m):=by unfold SH;rw[f,Aa (x:=(Z a:U)+4),C! o!,c,show((Z a:U)+4).toNat=Z a+4 by omega,YT,LZ o!,Bt,Tr,show((Z a:U)+4+m).toNat-(Z a+4)=m by omega]
 rw[l,AD,q,AD,xO (by rw[BU];omega),AD,r];have⟨u,v⟩:=rd4 (t:=t.drop (4+m)) o!;have k:ι .u32 (rd ((t.drop (4+m)).take 4))=rd ((t.drop (4+m)).take 4):=by rw[xH];omega
 rw[k];by_cases e:rd ((t.drop (4+m)).take 4)=QR (t.take (4+m));rw[D! (by simp[e]),e,H!,A!,AD,Aa (x:=(Z a:U)+8),Aa];rw[C! e,bne_iff_ne.2 e,B!]
theorem AFP{x:Bc}{i:U}(a:0<=i)(h:i>Z x):B5 (x,i,4)=D (0,5):=by grind[B5]
theorem Ru{a t:Bc}(h:(Z a:U)+Z t<=2199023255552):De (a++t,(Z a:U))=D (UF (Z a) t):=by
 have f:V (a++t)=(Z a:U)+Z t:=by grind[n?]
 have p:((a++t).length:U)=(Z a:U)+Z t:=f;unfold De UF;dsimp only;rw[F! o!,A!,F! o!,A!,YN h g! g!];by_cases i:Z t<4;rw[D! o!,C! i];rfl;rw[C! o!,D! i,AD,show ο 4=4 from rfl];have⟨q,w⟩:=rd4 (t:=t) o!;generalize hn:rd (t.take 4)=n at*;obtain⟨m,rfl⟩:=Et q;rw[show((0:U) !=0)=X by decide,A!];by_cases d:(m:U)>8392;rw[G! d,B!,C! d];rw[F! d,A!,D! d];have k:wi (wi ((Z a:U)+4)+(m:U))=(Z a:U)+4+m:=by grind[Aa]
 by_cases j:(Z t:U)<(m:U)+8;rw[C! j];have:B5 (a++t,wi (wi ((Z a:U)+4)+(m:U)),4)=D (0,5):=by
  rw[k];by_cases v:(Z a:U)+4+m>(a++t).length;grind[AFP];have c:(Z a:U)+4+m=((a++t.take (4+m)).length:U):=by grind[n?,r?]
  have g:a++t=(a++t.take (4+m))++t.drop (4+m):=by rw[A2,C4]
  grind[List.length_drop,YN]
 rw[this];rfl;rw[D! j,DF];have c:wi (wi ((Z a:U)+4)+(m:U))=((a++t.take (4+m)).length:U):=by grind[n?,r?]
 have g:a++t=(a++t.take (4+m))++t.drop (4+m):=by rw[A2,C4]
 have u:((t.drop (4+m)).length:U)=Z t-(4+m):=by rw[DO];omega
 have b:((a++t.take (4+m)).length:U)=Z a+4+m:=by rw[AV,BU];omega
 have l:B5 (a++t,wi (wi ((Z a:U)+4)+(m:U)),4)=D (rd ((t.drop (4+m)).take 4),0):=by
  rw[c];conv=>lhs;rw[g]
  rw[YN o! g! g!,C! o!];rfl
 have r:SH (a++t) (Z a:U) (wi (wi ((Z a:U)+4)+(m:U)))=D (t.take (4+m)):=by unfold SH;rw[c,C! o!,b,DF,Rz,show((Z a:U)+4+m).toNat-Z a=4+m by omega]
 have s:SH (a++t) (wi ((Z a:U)+4)) (wi (wi ((Z a:U)+4)+(m:U)))=D ((t.drop 4).take m):=by unfold SH;rw[c,Aa (x:=(Z a:U)+4),C! o!,b,show((Z a:U)+4).toNat=Z a+4 by omega,YT,LZ o!,Bt,Tr,show((Z a:U)+4+m).toNat-(Z a+4)=m by omega]
 rw[l,AD,show(((rd ((t.drop (4+m)).take 4),(0:U)):U×U).2 !=0)=X from rfl,A!,r,AD,yD (by rw[BU];omega),AD,s];have o:=aJ (t.take (4+m));rw[Aa (x:=QR (t.take (4+m)))];by_cases e:rd ((t.drop (4+m)).take 4)=QR (t.take (4+m));rw[D! (by simp[e]),e,H!,A!,AD,k,Aa];refine E! D (Di rfl (Di ?_ rfl));dsimp only;omega;rw[C! e,bne_iff_ne.2 e,B!]
def oP{a}{t}(h:(UF a t).2.2=0):(UF a t).1.length<=8392/\(∃c,t=HM (UF a t).1++c)/\(UF a t).2.1=(a:U)+8+(UF a t).1.length:=by
 unfold UF at h⊢;by_cases j:Z t<4;rw[C! j]at h;exact O! h g!;rw[D! j]at h⊢;obtain⟨q,r⟩:=rd4 (t:=t) o!;by_cases k:rd (t.take 4)>8392;rw[C! k]at h;exact O! h g!;rw[D! k]at h⊢;by_cases o:(Z t:U)<rd (t.take 4)+8;rw[C! o]at h;exact O! h g!;rw[D! o]at h⊢;by_cases b:rd ((t.drop (4+(rd (t.take 4)).toNat)).take 4)≠QR (t.take (4+(rd (t.take 4)).toNat));rw[C! b]at h;exact O! h g!;rw[D! b]at h⊢;have b:=lW.1 b;dsimp only;have e:(t.take 4).length=4:=by rw[BU];omega
 have g:DB (rd (t.take 4)) 4=t.take 4:=by have:=xt (l:=t.take 4) o!;rwa[e]at this
 generalize hn:rd (t.take 4)=n at*;obtain⟨m,rfl⟩:=Et q;rw[DF]at b⊢;have i:((t.drop 4).take m).length=m:=by rw[BU,DO];omega
 refine⟨o!,?_,o!⟩;have p:t.take (4+m)=DB (m:U) 4++(t.drop 4).take m:=by rw[List.take_add,g]
 have f:((t.drop (4+m)).take 4).length=4:=by rw[BU,DO];omega
 have d:DB (QR (t.take (4+m))) 4=(t.drop (4+m)).take 4:=by rw[<-b];have:=xt (l:=(t.drop (4+m)).take 4) o!;rwa[f]at this
 refine⟨t.drop (4+m+4),?_⟩;unfold HM;rw[i,<-p,d,<-A2,<-p];conv=>lhs;rw[<-C4 (4+m) t,<-C4 4 (t.drop (4+m)),Od]
 rw[A2]
theorem jy{c}{p a:Bc}(h:Z p<=8392):UF c (HM p++a)=(p,(c:U)+8+Z p,0):=by
 have d:cN 4 (Z p:U):=⟨λ_=>⟨o!,by rw[show(256:U)^4=4294967296 by decide];omega⟩,o!⟩
 have e:=aJ (DB (Z p:U) 4++p);have b:cN 4 (QR (DB (Z p:U) 4++p)):=⟨λ_=>⟨o!,by rw[show(256:U)^4=4294967296 by decide];omega⟩,o!⟩
 unfold UF;rw[(by grind[HM,t?,List.take_left',A0]:(HM p++a).take 4=DB (Z p:U) 4),rE g! d,DF,(by grind[HM,t?,List.take_left',n?,A0]:(HM p++a).take (4+Z p)=DB (Z p:U) 4++p),(by grind[HM,t?,List.drop_left',n?,A0]:(HM p++a).drop (4+Z p)=DB (QR (DB (Z p:U) 4++p)) 4++a),(by grind[HM,t?,List.drop_left',A0]:(HM p++a).drop 4=p++(DB (QR (DB (Z p:U) 4++p)) 4++a)),(by rw[AV,(DY p)]:(HM p++a).length=Z p+8+Z a),D! o!,D! o!,D! o!,F6 (A0 _ _),rE g! b,D! k!,F6 rfl]
def VL(c:Cr):Bc:=S c.1 (DB (Z c.2:U) 1++c.2)<|DB 255 1
def B6(e:AE):Bc:=
 DB e.1 8++(DB e.2.1 1++(DB e.2.2.1 4++(DB e.2.2.2.1 8++(DB e.2.2.2.2.1 8++(DB e.2.2.2.2.2.1 8++(DB e.2.2.2.2.2.2.1.1 4++(DB e.2.2.2.2.2.2.1.2.1 1++
 (VL e.2.2.2.2.2.2.1.2.2.1++(VL e.2.2.2.2.2.2.1.2.2.2++(DB (Z e.2.2.2.2.2.2.2:U) 4++e.2.2.2.2.2.2.2))))))))))
theorem kT{c}(h:Fs c):(VL c).length<=13:=by
 unfold VL;cases c.1 with
 |true=>rw[B!,AV,A0];have:=h.1;omega
 |false=>grind[A0]
def ABu{s:Bc}{c:Cr}(h:Z s<=1099511627776)(a:Z c.2<=8192):Gm (s,c)=D (s++VL c):=by grind[Gm,VL,Bool.not_false,IW,Bool.not_true,sapp,DB,ο,n?,A0,t?]
def KD.cells{e}(h:KD e):Fs e.2.2.2.2.2.2.1.2.2.1/\Fs e.2.2.2.2.2.2.1.2.2.2/\Z e.2.2.2.2.2.2.2<=8192/\cN 8 e.1/\cN 1 e.2.1/\cN 4 e.2.2.1/\cN 8 e.2.2.2.1/\cN 8 e.2.2.2.2.1/\cN 8 e.2.2.2.2.2.1/\cN 4 e.2.2.2.2.2.2.1.1/\cN 1 e.2.2.2.2.2.2.1.2.1:=by
 have⟨a1,a2,a3,a4,a5,a6,a7,a8,j⟩:=h;have k:∀n:U,0<=n->n<=1099511627776->cN 8 n:=λn l m=>⟨n!,o!⟩
 have p:∀n:U,0<=n->n<=1073741824->cN 4 n:=λn l m=>⟨λ_=>by rw[show(256:U)^4=4294967296 by decide];omega,o!⟩
 have o:∀n:U,0<=n->n<=255->cN 1 n:=λn l m=>⟨λ_=>by rw[show(256:U)^1=256 by decide];omega,o!⟩
 have z:Fs (X,[]):=⟨g!,.inr rfl⟩
 refine and_assoc.1 (and_assoc.1 ⟨?_,k _ o! o!,?_⟩);rcases j with⟨k1,f,d,g,c,a⟩|⟨k1,f,d,g,c,a,i,b⟩|⟨k1,f,d,g,c,a,i,b⟩|⟨k1,f,d,g,c,a,i⟩|j;exact⟨⟨a.2.2.2.2.1,a.2.2.2.2.2⟩,by rw[d];decide⟩;exact⟨⟨b.2.2.2.2.1,b.2.2.2.2.2⟩,by rw[c];decide⟩;rw[c,a];exact⟨⟨z,z⟩,g!⟩;rw[a];exact⟨⟨z,z⟩,i⟩;have⟨k1,f,d,g,c,a,i,b⟩:=j;rw[i,b];exact⟨⟨z,z⟩,g!⟩;have q:1<=e.2.1/\e.2.1<=8/\0<=e.2.2.1/\e.2.2.1<=1073741824/\0<=e.2.2.2.2.2.2.1.1/\e.2.2.2.2.2.2.1.1<64/\0<=e.2.2.2.2.2.2.1.2.1/\e.2.2.2.2.2.2.1.2.1<16:=by rcases j with⟨k1,f,d,g,c,a⟩|⟨k1,f,d,g,c,a,i,b⟩|⟨k1,f,d,g,c,a,i,b⟩|⟨k1,f,d,g,c,a,i⟩|j;have:=a.1;have:=a.2.1;have:=a.2.2.1;have:=a.2.2.2.1;omega;have:=b.1;have:=b.2.1;have:=b.2.2.1;have:=b.2.2.2.1;omega;grind[Qu];grind[Qu];grind[Qu]
 exact⟨o _ o! o!,p _ o! o!,k _ o! o!,k _ o! o!,k _ o! o!,p _ o! o!,o _ o! o!⟩
theorem TE{e}(h:KD e):(B6 e).length<=8392:=by have⟨a,b,c,_⟩:=h.cells;grind[kT,B6,n?,A0]
theorem rK{e}(h:KD e):F8 e=D (B6 e,0):=by have⟨c,d,i,_⟩:=h.cells;have l1:=kT c;have l2:=kT d;have⟨b,f,g⟩:=CY (x:=e);have a:b=A:=g.2 h;subst a;unfold F8;rw[f,AD,CE,A!];rw[IW k! g! g!,AD,Bt];rw[IW (by simp only[AV,A0];simp only[Int.reduceToNat];omega) g! g!,AD];rw[IW (by simp only[AV,A0];simp only[Int.reduceToNat];omega) g! g!,AD];rw[IW (by simp only[AV,A0];simp only[Int.reduceToNat];omega) g! g!,AD];rw[IW (by simp only[AV,A0];simp only[Int.reduceToNat];omega) g! g!,AD];rw[IW (by simp only[AV,A0];simp only[Int.reduceToNat];omega) g! g!,AD];rw[IW (by simp only[AV,A0];simp only[Int.reduceToNat];omega) g! g!,AD];rw[IW (by simp only[AV,A0];simp only[Int.reduceToNat];omega) g! g!,AD];rw[ABu (by simp only[AV,A0];simp only[Int.reduceToNat];omega) (by have:=c.1;omega),AD];rw[ABu (by simp only[AV,A0];simp[Int.reduceToNat];omega) (by have:=d.1;omega),AD];rw[IW (by simp only[AV,A0];simp[Int.reduceToNat];omega) g! g!,AD];unfold sapp;rw[C! (by simp only[AV,A0];simp[Int.reduceToNat];omega),AD];simp[A2];rfl
def CS(x p:Bc)(c:Bc×U×U):Prop:=c.1=x/\(c.2.2=0->∃rest,x=p++rest/\c.2.1=Z p)
def tQ{t:Bc}{k:Y}(h:k<=Z t)(a:k<=8):cN k (rd (t.take k))/\DB (rd (t.take k)) k=t.take k:=by grind[r?,ABL,xt]
def cK{x p}{c}{k:Y}(h:CS x p c)(o:Z x<=1099511627776)(u:1<=k)(m:k<=8):An (BT c (k:U)) λr=>CS x (p++DB r.1 k) r.2/\(r.2.2.2=0->cN k r.1)/\(c.2.2≠0->r=(0,c)):=by have⟨s,l,e⟩:=c;have⟨g,i⟩:=h;dsimp only at g i;subst g;unfold BT;refine AK (λd=>AB ⟨⟨rfl,λb=>O! b d⟩,λb=>O! b d,λ_=>rfl⟩) (λd=>?_);dsimp only at d;subst d;have⟨a,hr,n⟩:=i rfl;subst hr n;rw[AV]at o;rw[jw o! o! o!];by_cases j:(k:U)<=Z a;rw[C! j,AD,DF];have⟨q,v⟩:=tQ (t:=a) (k:=k) o! m;rw[show((0:U) !=0)=X by decide,A!];refine AB ⟨⟨rfl,λ_=>⟨a.drop k,?_,?_⟩⟩,λ_=>q,λf=>O! rfl f⟩;grind[t?,List.take_append_drop];grind[Aa,n?,A0];rw[D! j,AD];rw[show((5:U) !=0)=A by decide,B!];exact AB ⟨⟨rfl,λb=>O! (show(5:U)=0 from b) g!⟩,λb=>O! (show(5:U)=0 from b) g!,λf=>O! rfl f⟩
def AFj{x p}{c}{n:U}(h:CS x p c)(k:Z x<=1099511627776)(hn:c.2.2=0->0<=n/\n<4294967296):An (C8 c n) λr=>CS x (p++r.1) r.2/\(r.2.2.2=0->(Z r.1:U)=n/\c.2.2=0):=by have⟨s,g,e⟩:=c;have⟨d,f⟩:=h;dsimp only at d f hn;subst d;unfold C8;by_cases j:e=0;subst j;have⟨a,hr,i⟩:=f rfl;have⟨l,q⟩:=hn rfl;subst hr i;obtain⟨m,rfl⟩:=Et l;rw[AV]at k;rw[show((0:U) !=0)=X by decide,A!];simp only[V];rw[show wi (((p++a).length:U)-(Z p:U))=Z a by rw[AV,Aa];omega];by_cases o:(m:U)<=Z a;rw[F! o!,A!];rw[(by grind[Aa,SH,n?,List.drop_left]:SH (p++a) (wi (wi ((Z p:U)+(m:U))-(m:U))) (wi ((Z p:U)+(m:U)))=D (a.take m)),AD];refine AB ⟨⟨rfl,λ_=>⟨a.drop m,?_,?_⟩⟩,λ_=>⟨?_,by first|rfl|trivial⟩⟩;grind[t?,List.take_append_drop];grind[Aa,n?,r?];grind[r?];rw[G! o!,B!];exact AB ⟨⟨rfl,λb=>O! (show(5:U)=0 from b) g!⟩,λb=>O! (show(5:U)=0 from b) g!⟩;grind[AB]
def AFg{x p}{c}(h:CS x p c)(i:Z x<=1099511627776):An (Cy c ()) λr=>CS x (p++VL r.1) r.2/\(r.2.2.2=0->Fs r.1):=by unfold Cy;refine AA (cK (k:=1) h i g! g!) λv n=>?_;have⟨⟨f,j⟩,q,y⟩:=n;refine AK (λd=>AB ⟨⟨f,λb=>O! b d⟩,λb=>O! b d⟩) (λd=>?_);have⟨e,hr,g⟩:=j d;have m:=(q d).1 g!;rw[show(256:U)^1=256 by decide]at m;refine AQ (λa=>AB ⟨⟨f,λ_=>⟨e,?_,?_⟩⟩,λ_=>⟨BS _,.inr rfl⟩⟩) (λa=>?_);dsimp only;rw[a]at hr;exact hr;dsimp only;rw[a]at g;exact g;refine AC (y? ⟨⟨f,λb=>O! (show(4:U)=0 from b) g!⟩,λb=>O! (show(4:U)=0 from b) g!⟩) (λl=>?_);refine AA (AFj (x:=x) (p:=p++DB v.1 1) ⟨f,j⟩ i (λ_=>o!)) λw o=>AB ?_;have⟨⟨s,z⟩,t⟩:=o;refine⟨⟨s,λb=>?_⟩,λb=>?_⟩;grind[VL,DB,t?];dsimp only at b⊢;have⟨u,_⟩:=t b;exact⟨d!,.inl rfl⟩
def ZU{x p a:Bc}{n}{k}(e:x=p++(DB n k++a))(d:Z x<=1099511627776)(b:1<=k)(c:k<=8)(hn:cN k n):BT (x,(Z p:U),0) (k:U)=D (n,x,((p++DB n k).length:U),0):=by grind[Z,n?,A0,BT,jw,s?,List.take_left',rE,Aa]
theorem AFi{x p w a:Bc}(c:x=p++(w++a))(d:Z x<=1099511627776):C8 (x,(Z p:U),0) (Z w:U)=D (w,x,((p++w).length:U),0):=by
 have b:=E! Z c;simp[AV]at b;unfold C8;dsimp only;rw[show((0:U) !=0)=X by decide,A!];simp only[V];rw[show τ ((Z w:U)>wi ((Z x:U)-(Z p:U)))=X from F! (by rw[Aa];omega),A!];have e:SH x (wi (wi ((Z p:U)+(Z w:U))-(Z w:U))) (wi ((Z p:U)+(Z w:U)))=D w:=by rw[Aa (x:=(Z p:U)+(Z w:U)),Aa];unfold SH;rw[C! o!,c,show((Z p:U)+(Z w:U)-(Z w:U)).toNat=Z p by omega,Rz,show((Z p:U)+(Z w:U)).toNat-Z p=Z w by omega,Yl]
 grind[Aa,n?]
def AFf{x p a:Bc}{c}(e:x=p++(VL c++a))(i:Z x<=1099511627776)(k:Fs c):Cy (x,(Z p:U),0) ()=D (c,x,((p++VL c).length:U),0):=by
 have⟨b,d⟩:=c;have⟨j,f⟩:=k;dsimp only at j f;unfold Cy;cases b with
 |false=>
  have l:d=[]:=by rcases f with h|h;cases h;exact h
  subst l;rw[(rfl:VL (X,[])=DB 255 1)]at e⊢;rw[show(1:U)=((1:Y):U)from rfl,ZU e i g! g! ⟨λ_=>g!,g!,g!⟩];rfl
 |true=>have g:VL (A,d)=DB (Z d:U) 1++d:=rfl;rw[g,A2]at e;rw[g];rw[show(1:U)=((1:Y):U)from rfl,ZU e i g! g! ⟨λ_=>by rw[show(256:U)^1=256 by decide];omega,o!⟩,AD];grind[AFi,t?]
def AJZ{x:Bc}(a:Z x<=1099511627776):An (ER x) λr=>r.2=0->x=B6 r.1/\Fs r.1.2.2.2.2.2.2.1.2.2.1/\Fs r.1.2.2.2.2.2.2.1.2.2.2/\cN 4 (Z r.1.2.2.2.2.2.2.2:Int)/\C1 r.1=δ ζ:=by
 unfold ER;have J:CS x [] (x,0,0):=⟨rfl,λ_=>⟨x,rfl,rfl⟩⟩
 refine AA (cK (k:=8) J a g! g!) λP z=>AA (cK (k:=1) z.1 a g! g!) λQ A=>AA (cK (k:=4) A.1 a g! g!) λR B=>AA (cK (k:=8) B.1 a g! g!) λS C=>AA (cK (k:=8) C.1 a g! g!) λT D=>AA (cK (k:=8) D.1 a g! g!) λU E=>AA (cK (k:=4) E.1 a g! g!) λV F=>AA (cK (k:=1) F.1 a g! g!) λW G=>EM (AFg G.1 a) λs N p=>EM (AFg p.1 a) λt y q=>AA (cK (k:=4) q.1 a g! g!) λl b=>AA (AFj (n:=l.1) b.1 a (λc=>?_)) λK f=>?_;have:=(b.2.1 c).1 g!;rw[show(256:Int)^4=4294967296 by decide]at this;exact this;refine AK (λi=>AB λc=>O! c i) (λi=>AK (y? n!) (λH=>EM (CY) λL j _=>AP (y? n!) (λI=>AB λ_=>?_)));subst I;obtain⟨g,d⟩:=f.2 i;have m:t.2.2.2=0:=Qe λe=>by have:=b.2.2 e;rw[this]at d;exact e d
 have v:=q.2 m;have M:s.2.2.2=0:=Qe λe=>by
  have:t=((X,[]),s.2):=by have:=y;unfold Cy BT at this;rw[bne_iff_ne.2 e,B!,AD,bne_iff_ne.2 e,B!]at this;injection this with this;exact this.symm
  rw[this]at m;exact e m
 have u:=p.2 M;obtain⟨h,o,O⟩:=f.1.2 i;have hr:h=[]:=by simp only[len]at H;have w:=E! Z o;rw[AV]at w;exact Eu o!
 subst hr;refine⟨?_,u,v,?_,j⟩;rw[o];unfold B6;dsimp only;rw[g];simp only[A2,Bt,DR];dsimp only;rw[g];exact b.2.1 d
def AFh{e}(h:KD e):ER (B6 e)=δ (e,0):=by
 obtain⟨s,t,H,w,y,z,A,B,C,D,E⟩:=h.cells;have I:=TE h;have g:cN 4 (Z e.2.2.2.2.2.2.2:U):=⟨λ_=>by rw[show(256:U)^4=4294967296 by decide];omega,o!⟩
 have a:B6 e=[]++(DB e.1 8++(DB e.2.1 1++(DB e.2.2.1 4++(DB e.2.2.2.1 8++(DB e.2.2.2.2.1 8++(DB e.2.2.2.2.2.1 8++(DB e.2.2.2.2.2.2.1.1 4++(DB e.2.2.2.2.2.2.1.2.1 1++
 (VL e.2.2.2.2.2.2.1.2.2.1++(VL e.2.2.2.2.2.2.1.2.2.2++(DB (Z e.2.2.2.2.2.2.2:U) 4++(e.2.2.2.2.2.2.2++[])))))))))))):=by rw[DR];rfl
 generalize B6 e=x at*;have i:BT (x,((0:U)),0) 8=_:=ZU (p:=[]) (k:=8) a o! g! g! w;rw[Bt]at i;rw[Bt]at a;have j:=ZU (k:=1) a o! g! g! y;rw[<-A2]at a;have l:=ZU (k:=4) a o! g! g! z;rw[<-A2]at a;have m:=ZU (k:=8) a o! g! g! A;rw[<-A2]at a;have n:=ZU (k:=8) a o! g! g! B;rw[<-A2]at a;have o:=ZU (k:=8) a o! g! g! C;rw[<-A2]at a;have q:=ZU (k:=4) a o! g! g! D;rw[<-A2]at a;have r:=ZU (k:=1) a o! g! g! E;rw[<-A2]at a;have F:=AFf a o! s;rw[<-A2]at a;have G:=AFf a o! t;rw[<-A2]at a;have c:=ZU (k:=4) a o! g! g! g;rw[<-A2]at a;have d:=AFi a o!;rw[DR]at a;rw[<-a]at d;unfold ER;rw[i,AD];rw[show((1:Y):U)=1 from rfl]at j r;rw[show((4:Y):U)=4 from rfl]at l q c;rw[show((8:Y):U)=8 from rfl]at m n o;rw[j,AD,l,AD,m,AD,n,AD,o,AD,q,AD,r,AD,F,AD,G,AD,c,AD,d,AD];obtain⟨b,u,v⟩:=CY (x:=e);have f:b=ζ:=v.2 h;subst f;dsimp only[V];rw[show((0:U) !=0)=X by decide,A!,H!,A!];rw[show(e.1,e.2.1,e.2.2.1,e.2.2.2.1,e.2.2.2.2.1,e.2.2.2.2.2.1,(e.2.2.2.2.2.2.1.1,e.2.2.2.2.2.2.1.2.1,e.2.2.2.2.2.2.1.2.2.1,e.2.2.2.2.2.2.1.2.2.2),e.2.2.2.2.2.2.2)=e from rfl,u,AD,CE,A!]
def K5(l:E AE):Bc:=(l.map λe=>HM (B6 e)).flatten
theorem TG(l:E AE)(e:AE):K5 (l++[e])=K5 l++HM (B6 e):=by unfold K5;grind
theorem pF(e:AE)(l:E AE):K5 (e::l)=HM (B6 e)++K5 l:=rfl
def tB{l:E AE}(h:∀e∈l,KD e):(K5 l).length<=8400*Z l:=by
 induction l with
 |nil=>exact Ao _
 |cons e r b=>have c:=b λx a=>h x (As.2 (.inr a));have d:=TE (h e (As.2 (.inl rfl)));rw[pF,AV,DY,BW];omega
def ADD{x p a:Bc}{at_:U}{k:Y}(c:x=p++a)(e:at_=Z p)(l:Z x≤1099511627776)(j:1≤k)(f:k≤8)(g:k≤Z a):
  ∃n b,A4 (x,at_,(k:U))=D (n,0)/\B5 (x,at_,(k:U))=D (n,0)/\x=(p++DB n k)++b/\cN k n/\Z b+k=Z a:=by
 have d:=E! Z c;rw[AV]at d;obtain⟨h,i⟩:=tQ (t:=a) g f;refine⟨rd (a.take k),a.drop k,?_,?_,?_,h,?_⟩;rw[c,e,jw o! o! o!,C! o!,DF];rw[c,e,YN o! o! o!,C! o!,DF];rw[i,A2,C4];exact c;rw[DO];omega
def kv{x p rest:Bc}{at_ n:U}{k}(a:x=p++(DB n k++rest))(d:at_=Z p)(f:Z x≤1099511627776)(e:1≤k)(c:k≤8)(hn:cN k n):
  A4 (x,at_,(k:U))=D (n,0)/\B5 (x,at_,(k:U))=D (n,0):=by
 have b:=E! Z a;simp only[AV,A0]at b;refine⟨?_,?_⟩;rw[a,d,jw (by rw[AV,A0];omega) o! o!,C! (by rw[AV,A0];omega),DF,F6 (A0 _ _),rE c hn];rw[a,d,YN (by rw[AV,A0];omega) o! o!,C! (by rw[AV,A0];omega),DF,F6 (A0 _ _),rE c hn]
def VDs(l:E Al)(p:U):Prop:=∀(i:Y)(d:Al),l[i]?=D d->((i:U)<=d.1/\d.1<p/\1<=d.2.1/\d.2.1<=d.2.2/\d.2.2<=1099511627776)/\∀f,0<i->l[i-1]?=D f->f.1<d.1
def VIs(x:Bz):Prop:=1<=Z x/\Z x<=64/\∀r∈x,(0<=r.1/\r.1<=1099511627776)/\(0<=r.2.1/\r.2.1<=1099511627776)/\0<=r.2.2/\r.2.2<=1099511627776
def VDs.len{l}{p}(h:VDs l p)(b:p<=64):Z l<=64:=by refine Qe λa=>?_;have:=(h (Z l-1) _ (Au o!)).1;omega
def ALI{l:List Al}{p:U}(A_:Z l<=16777216):An (Fk (l,p)) λr=>r=A->VDs l p:=by
 refine AA (P:=λr=>r=.inl X\/(r=.inr ()/\VDs l p)) ?_ λr hr=>?_
 ·refine CV (λ(s:Int)=>0<=s/\s<=Z l/\∀(i:Y)(d:Al),(i:U)<s->l[i]?=D d->((i:U)<=d.1/\d.1<p/\1<=d.2.1/\d.2.1<=d.2.2/\d.2.2<=1099511627776)/\∀f,0<i->l[i-1]?=D f->f.1<d.1) (λs=>((Z l:U)-s).toNat) ⟨Ag _,o!,λi d y=>o!⟩ (λs w=>?_);have⟨t,B,m⟩:=w;unfold HQ;dsimp[V];refine AC (λn=>?_) (λn=>k? (.inr ⟨rfl,λi d a=>m i d (by have:=Ce a;omega) a⟩));obtain⟨k,rfl⟩:=Et t;refine AA (AI t n) λv g=>?_;have g:=g.1;rw[DF]at g;refine AC (λ_=>k? (.inl rfl)) (λC=>AC (λ_=>k? (.inl rfl)) (λD_=>AC (λ_=>k? (.inl rfl)) (λE=>AC (λ_=>k? (.inl rfl)) (λF=>AC (λ_=>k? (.inl rfl)) (λG=>?_)))));rw[Aa (x:=(k:U)+1)];have b:((k:U)<=v.1/\∀f,0<k->l[k-1]?=D f->f.1<v.1)->∀(i:Y)(d:Al),(i:U)<(k:U)+1->l[i]?=D d->((i:U)<=d.1/\d.1<p/\1<=d.2.1/\d.2.1<=d.2.2/\d.2.2<=1099511627776)/\∀f,0<i->l[i-1]?=D f->f.1<d.1:=λq i d y a=>by by_cases h:i=k;subst h;rw[g]at a;cases a;exact⟨⟨q.1,o!⟩,q.2⟩;exact m i d o! a
  refine AC (λe=>?_) (λe=>y! ⟨o!,o!,b ⟨o!,λf u=>O! u o!⟩⟩ o!);rw[Aa (x:=(k:U)-1)];refine AA (AI) λz c=>?_;have c:=c.1;rw[show((k:U)-1).toNat=k-1 by omega]at c;refine AC (λ_=>k? (.inl rfl)) (λH=>?_);have j:=(m (k-1) z o! c).1.1;refine y! ⟨o!,o!,b ⟨o!,λf _ o=>?_⟩⟩ o!
  rw[c]at o;cases o;omega
 grind[BC,AB,A3]
def AFA{x}:An (HH x) λr=>r=A->0<=x/\x<=1099511627776:=by refine AC (λh=>AB λa=>⟨o!,N! a⟩) (y? λa=>by cases a)
def AJi{x}:An (EH x) λr=>r=A->VIs x:=by
 refine AC (y? λa=>by cases a) (λd=>AC (y? λa=>by cases a) (λe=>?_));simp[V]at d e;refine AA (P:=λr=>r=.inl X\/(r=.inr ()/\VIs x)) ?_ λr hr=>?_
 ·refine CV (λ(s:Int)=>0<=s/\s<=Z x/\∀r∈x.take s.toNat,(0<=r.1/\r.1<=1099511627776)/\(0<=r.2.1/\r.2.1<=1099511627776)/\0<=r.2.2/\r.2.2<=1099511627776) (λs=>((Z x:U)-s).toNat) ⟨Ag _,o!,λr hr=>by simp at hr⟩ (λs g=>?_);have⟨i,p,c⟩:=g;unfold Jp;dsimp[V];refine AC (λb=>?_) (λb=>k? (.inr ⟨rfl,o!,o!,by rw[BN o!]at c;exact c⟩));refine AA (AI i b) λv h=>AA AFA λj m=>AP (λ_=>k? (.inl rfl)) (λq=>AA AFA λk n=>AP (λ_=>k? (.inl rfl)) (λt=>AA AFA λl o=>AP (λ_=>k? (.inl rfl)) (λu=>?_)));rw[Aa (x:=s+1)];have f:∀r∈x.take (s+1).toNat,(0<=r.1/\r.1<=1099511627776)/\(0<=r.2.1/\r.2.1<=1099511627776)/\0<=r.2.2/\r.2.2<=1099511627776:=λr hr=>by rw[show(s+1).toNat=s.toNat+1 by omega,Ca,h.1]at hr;grind
  grind[AQ,y!,AK,k?]
 grind[BC,AB,A3]
def VCk(c:Cg):Prop:=1<=c.1/\c.1<=64/\1<=c.2.1/\c.2.1<=1073741825/\VDs c.2.2.2.1 c.1/\VIs c.2.2.2.2/\Z c.2.2.2.2=c.1
def AKy{c:Cg}(d:Z c.2.2.2.1<=16777216):An (Hd c) λr=>r=A->VCk c:=by refine AC (y? λa=>by cases a) (λf=>AC (y? λa=>by cases a) (λg=>AC (y? λa=>by cases a) (λh=>AC (y? λa=>by cases a) (λi=>AA ED λo b=>AP (y? λa=>by cases a) (λe=>AA (ALI d) λp j=>AP (y? λa=>by cases a) (λl=>AA AJi λq k=>AP (y? λa=>by cases a) (λm=>AK (y? λa=>by cases a) (λn=>AA (Rh ⟨Ag _,o!,by have:=(b e).1;omega⟩) λr hr=>?_))))))));grind[VCk,BA,AB]
def dB(d:Al):Bc:=DB d.1 1++(DB d.2.1 8++DB d.2.2 8)
def rB(r:Bb):Bc:=DB r.1 8++(DB r.2.1 8++DB r.2.2 8)
def wN(l:E Al):Bc:=(l.map dB).flatten
def sS(l:E Bb):Bc:=(l.map rB).flatten
def AI3(d:Al):(dB d).length=17:=rfl
def AJY(r:Bb):(rB r).length=24:=rfl
def AEj(l:E Al)(d:Al):wN (l++[d])=wN l++dB d:=by grind[wN,List.flatten_append]
def AFs(l:E Bb)(d:Bb):sS (l++[d])=sS l++rB d:=by grind[sS,List.flatten_append]
def y9(l:E Al)(d:Al):wN (d::l)=dB d++wN l:=rfl
theorem zx(l:E Bb)(d:Bb):sS (d::l)=rB d++sS l:=rfl
theorem mG:∀l:E Al,(wN l).length=17*Z l
 |[]=>rfl
 |d::l=>by rw[y9,AV,AI3,mG l,BW];omega
theorem tJ:∀l:E Bb,(sS l).length=24*Z l
 |[]=>rfl
 |d::l=>by rw[zx,AV,AJY,tJ l,BW];omega
def i8r{n:U}(a:0<=n)(b:n<=1099511627776):cN 8 n:=⟨n!,o!⟩
def i1r{n:U}(a:0<=n)(b:n<256):cN 1 n:=⟨λ_=>q!,o!⟩
def i2r{n:U}(a:0<=n)(b:n<65536):cN 2 n:=⟨λ_=>q!,o!⟩
def i4r{n:U}(a:0<=n)(b:n<4294967296):cN 4 n:=⟨λ_=>q!,o!⟩
def AG2{x}(h:VIs x):An (Ir x) λr=>r.1=DB (Z x:U) 2++sS x\/r.1=[]:=by
 have⟨c,d,e⟩:=h;refine AA AJi λi b=>AP (y? (.inr rfl)) (λ_=>?_);rw[IW k! g! g!,AD,Bt];refine AA (P:=λr=>r=DB (Z x:U) 2++sS x) (CV (λs=>∃k:Y,k<=Z x/\s=(DB (Z x:U) 2++sS (x.take k),(k:U))) (Z x-·.2.toNat) ⟨0,BS _,by simp[sS]⟩ ?_) λr hr=>AB (.inl hr);rintro s ⟨k,f,rfl⟩;unfold JE;dsimp[V];refine AC (λa=>?_) (λa=>k? q!);have g:(DB (Z x:U) 2++sS (x.take k)).length<=2000:=by grind[n?,A0,tJ,r?]
 rw[(by unfold ix;rw[C! o!,s?,m? o!]:ix x (k:U)=D x[k]),p?,IW o! g! g!,p?,p?,IW (by rw[n?,A0];simp only[Int.reduceToNat];omega) g! g!,p?,p?,IW (by rw[n?,n?,A0,A0];simp only[Int.reduceToNat];omega) g! g!,p?,Aa];refine y! ⟨k+1,o!,?_⟩ o!
 rw[(by simp_all:x.take (k+1)=x.take k++[x[k]]),AFs];simp only[A2];exact Di rfl o!
def AGx{x}(h:VIs x):An (E4 (DB (Z x:U) 2++sS x)) λr=>r.2=0->r.1=x:=by
 have⟨w,y,m⟩:=h;have B:(DB (Z x:U) 2++sS x).length=2+24*Z x:=by rw[AV,A0,tJ]
 unfold E4;have d:=(kv (x:=DB (Z x:U) 2++sS x) (p:=[]) (rest:=sS x) (at_:=0) (k:=2) (n:=(Z x:U)) rfl rfl o! g! g! (i2r o! o!)).1;rw[show(((2:Y)):U)=2 from rfl]at d;rw[d,AD];have t:wi (V (DB (Z x:U) 2++sS x)-2)=24*(Z x:U):=by grind[Aa]
 have u:wi (24*((Z x:U),(0:U)).1)=24*(Z x:U):=Aa q!;rw[show((((Z x:U),(0:U)):U×U).2 !=0)=X from rfl,A!,F! o!,A!,F! o!,A!];refine AA (P:=λr=>r=x) ?_ λr hr=>?_
 ·refine CV (λs=>∃k:Y,k<=Z x/\s=((k:U),x.take k)) (Z x-·.1.toNat) ⟨0,BS _,rfl⟩ ?_;rintro s ⟨k,A_,rfl⟩;unfold JD;dsimp only;refine AC (λq=>?_) (λq=>k? (by rw[BN o!]));have b:k<Z x:=o!
  have a:(sS (x.take k)).length=24*k:=by grind[tJ,r?]
  have c:DB (Z x:U) 2++sS x=(DB (Z x:U) 2++sS (x.take k))++(DB x[k].1 8++(DB x[k].2.1 8++(DB x[k].2.2 8++sS (x.drop (k+1))))):=by rw[(by grind[zx,List.drop_eq_getElem_cons,sS,List.flatten_append,List.take_append_drop]:sS x=sS (x.take k)++(rB x[k]++sS (x.drop (k+1))))];unfold rB;simp[A2]
  have⟨i,j,l⟩:=m x[k] (KM b);have e:=(kv (at_:=2+24*(k:U)) (k:=8) c (by rw[AV,A0,a];omega) o! g! g! (i8r i.1 i.2)).1;rw[<-A2]at c;have f:=(kv (at_:=10+24*(k:U)) (k:=8) c (by simp[AV,A0,a];omega) o! g! g! (i8r j.1 j.2)).1;rw[<-A2]at c;have g:=(kv (at_:=18+24*(k:U)) (k:=8) c (by simp[AV,A0,a];omega) o! g! g! (i8r l.1 l.2)).1;rw[show(((8:Y)):U)=8 from rfl]at e f g;rw[Aa (x:=24*(k:U)),Aa (x:=2+24*(k:U)),Aa (x:=10+24*(k:U)),Aa (x:=18+24*(k:U)),e,AD,f,AD,g,AD,Aa (x:=(k:U)+1)];refine AA (Ac (by rw[BU];simp;omega)) λC o=>y! ⟨k+1,b,?_⟩ d!
  rw[o.1,(by simp_all:x.take (k+1)=x.take k++[x[k]])];exact Di d! rfl
 subst hr;exact AA AJi λD_ z=>AP (y? λv=>O! (show(28:U)=0 from v) g!) (y? λ_=>rfl)
def AG3{c:Cg}(l:Z c.2.2.2.1<=16777216):An (G8 c) λr=>Z r.1<=8192->r.1=[]\/(VCk c/\∃b g:Bc,r.1=DB c.1 2++(DB c.2.1 4++(DB (Z b:U) 4++(b++(DB (Z c.2.2.2.1:U) 1++(wN c.2.2.2.1++g)))))/\(g=DB (Z c.2.2.2.2:U) 2++sS c.2.2.2.2\/g=[])):=by
 unfold G8;refine AA (AKy l) λB n=>AP (y? λ_=>.inl rfl) (λe=>?_);have m:=n e;have⟨a1,a2,a3,a4,a5,a6,a7⟩:=id m;have t:=a5.len a2;refine AA TT λx z=>?_;rw[IW k! g! g!,AD,Bt,IW (by rw[A0];decide) g! g!,AD,IW (by simp only[AV,A0];decide) g! g!,AD];refine AA (CR (by simp[AV,A0,Int.reduceToNat];omega)) λj q=>?_;have w:=q.2;simp[AV,A0,Int.reduceToNat]at w;dsimp[V];rw[IW o! g! g!,AD];refine AA (P:=λr=>r=j++(DB (Z c.2.2.2.1:U) 1++wN c.2.2.2.1)) ?_ λh o=>?_
 ·refine CV (λs=>∃k:Y,k<=Z c.2.2.2.1/\s=(j++(DB (Z c.2.2.2.1:U) 1++wN (c.2.2.2.1.take k)),(k:U))) (Z c.2.2.2.1-·.2.toNat) ⟨0,BS _,by simp[wN]⟩ ?_;rintro s ⟨k,A_,rfl⟩;unfold JG;dsimp[V];refine AC (λe=>?_) (λe=>k? q!);have a:k<Z c.2.2.2.1:=o!
  have u:ix c.2.2.2.1 (k:U)=D c.2.2.2.1[k]:=by unfold ix;rw[C! o!,s?,m? a]
  have l:(j++(DB (Z c.2.2.2.1:U) 1++wN (c.2.2.2.1.take k))).length<=100000000:=by grind[n?,A0,mG,r?]
  rw[u,AD,IW o! g! g!,AD,AD,IW (by rw[AV,A0];simp only[Int.reduceToNat];omega) g! g!,AD,AD,IW (by rw[AV,AV,A0,A0];simp only[Int.reduceToNat];omega) g! g!,AD,Aa];refine y! ⟨k+1,a,?_⟩ q!
  have f:c.2.2.2.1.take (k+1)=c.2.2.2.1.take k++[c.2.2.2.1[k]]:=t!
  rw[f,AEj];unfold dB;grind[t?,Prod.ext]
 refine AA (TR.and (AG2 a6)) λi d=>?_;have v:Z h<=100000000:=by grind[n?,A0,mG]
 refine AA (CR o!) λy p=>AB λ_=>.inr ⟨m,x.1,i.1,?_,d.2⟩;grind[t?]
def AGy{c}(Q:VCk c){b l s:Bc}(J:s=DB c.1 2++(DB c.2.1 4++(DB (θ b:U) 4++(b++(DB (θ c.2.2.2.1:U) 1++(wN c.2.2.2.1++l))))))(X_:θ s≤8192)(v:l=DB (θ c.2.2.2.2:U) 2++sS c.2.2.2.2∨l=[]):
  An (DZ s) λr=>r.2=0->r.1.1=c.1/\r.1.2.2.2.1=c.2.2.2.1/\r.1.2.2.2.2=c.2.2.2.2:=by
 obtain⟨a1,a2,a3,a4,a5,a6,a7⟩:=id Q;have O:=a5.len a2;have d:=J;have y:=E! θ J;simp only[AV,A0,mG]at y;have F:=(kv (x:=s) (p:=[]) (at_:=0) (k:=2) (n:=c.1) (show s=[]++(DB c.1 2++_)from d) rfl o! g! g! (i2r o! o!)).1;have G:=(kv (at_:=2) (k:=4) (n:=c.2.1) d (by rw[A0];rfl) o! g! g! (i4r o! o!)).1;rw[<-A2]at d;have H:=(kv (at_:=6) (k:=4) (n:=(θ b:U)) d (by rw[AV,A0,A0];rfl) o! g! g! (i4r o! o!)).1;rw[<-A2,<-A2]at d;have I:=(kv (at_:=10+(θ b:U)) (k:=1) (n:=(θ c.2.2.2.1:U)) d (by simp only[AV,A0];omega) o! g! g! (i1r o! o!)).1;rw[<-A2]at d;rw[show(((2:Nat)):U)=2 from rfl]at F;rw[show(((4:Nat)):U)=4 from rfl]at G H;rw[show(((1:Nat)):U)=1 from rfl]at I;have w:((((DB c.1 2++DB c.2.1 4)++DB (θ b:U) 4)++b)++DB (θ c.2.2.2.1:U) 1).length=11+θ b:=by simp only[AV,A0];omega
 generalize V:(((DB c.1 2++DB c.2.1 4)++DB (θ b:U) 4)++b)++DB (θ c.2.2.2.1:U) 1=P at d w;unfold DZ;rw[F,AD,G,AD,H,AD];dsimp only[len];rw[show((0:U) !=0)=X by decide,A!,Aa (x:=(θ s:U)-10),F! o!,A!,Aa (x:=10+(θ b:U))];refine AA (Bx g!) λv3 L=>?_;rw[I,AD];dsimp only;rw[show((0:U) !=0)=X by decide,A!,Aa (x:=(θ s:U)-(10+(θ b:U))),Aa (x:=(θ s:U)-(10+(θ b:U))-1),Aa (x:=17*(θ c.2.2.2.1:U)),F! o!,A!,Aa (x:=10+(θ b:U)+1)];refine AA (P:=λr=>r=((θ P:U)+17*θ c.2.2.2.1,c.2.2.2.1,c.1,c.2.1,[],[])) ?_ λR m=>?_
 ·refine CV (λq=>∃k:Nat,k<=θ c.2.2.2.1/\q=((θ P:U)+17*k,(k:U),c.2.2.2.1.take k,c.1,c.2.1,[],[])) (θ c.2.2.2.1-·.2.1.toNat) ⟨0,BS _,?_⟩ ?_;refine Di ?_ rfl;dsimp only;omega;rintro q ⟨k,W,rfl⟩;unfold M2;dsimp only;refine AC (λN=>?_) (λN=>k? (by rw[BN o!,show k=θ c.2.2.2.1 by omega]));have e:k<θ c.2.2.2.1:=o!
  have z:wN c.2.2.2.1=wN (c.2.2.2.1.take k)++(dB c.2.2.2.1[k]++wN (c.2.2.2.1.drop (k+1))):=by rw[<-y9,<-KH e];unfold wN;rw[<-List.flatten_append,<-Kp,C4]
  have f:(wN (c.2.2.2.1.take k)).length=17*k:=by rw[mG,BU];omega
  have i:s=(P++wN (c.2.2.2.1.take k))++(DB c.2.2.2.1[k].1 1++(DB c.2.2.2.1[k].2.1 8++(DB c.2.2.2.1[k].2.2 8++(wN (c.2.2.2.1.drop (k+1))++l)))):=by rw[d,z];unfold dB;simp only[A2]
  obtain⟨Y,Z,q3,q4,q5⟩:=(a5 k _ (Au e)).1;have C:=(kv (at_:=(θ P:U)+17*k) (k:=1) i (by rw[AV,f];omega) o! g! g! (i1r o! o!)).1;rw[<-A2]at i;have D_:=(kv (at_:=(θ P:U)+17*k+1) (k:=8) i (by simp only[AV,A0,f];omega) o! g! g! (i8r o! o!)).1;rw[<-A2]at i;have E:=(kv (at_:=(θ P:U)+17*k+9) (k:=8) i (by simp only[AV,A0,f];omega) o! g! g! (i8r o! o!)).1;rw[show(((1:Nat)):U)=1 from rfl]at C;rw[show(((8:Nat)):U)=8 from rfl]at D_ E;rw[C,AD,Aa (x:=(θ P:U)+17*k+1),D_,AD,Aa (x:=(θ P:U)+17*k+9),E,AD,Aa (x:=(θ P:U)+17*k+17),Aa (x:=(k:U)+1)];refine AA (Ac (by rw[BU];simp;omega)) λv5 M=>y! ⟨k+1,e,?_⟩ d!
  have B:c.2.2.2.1.take (k+1)=c.2.2.2.1.take k++[c.2.2.2.1[k]]:=by rw[Ca,Au e];rfl
  rw[M.1,B];refine Di ?_ (Di ?_ rfl);dsimp only;omega;dsimp only;omega
 subst m;refine AA (TS (by rw[L.1,BU,DO];omega)) λS _=>AK (λg=>AB λh=>O! h g) (λ_=>?_);dsimp only;have A_:SH s ((θ P:U)+17*(θ c.2.2.2.1:U)) (θ s:U)=D l:=by
  unfold SH;rw[C! o!,d,<-A2];have u:(P++wN c.2.2.2.1).length=((θ P:U)+17*(θ c.2.2.2.1:U)).toNat:=by rw[AV,mG];omega
  rw[<-u,Rz,BN (by rw[AV];omega)]
 rw[A_,AD];rcases v with rfl|rfl;refine AA ((TQ o!).and (AGx a6)) λT o=>AK (λg=>AB λh=>O! h g) (λj=>AA (O8 d!) λU_ _=>AP (y? λh=>O! (show(24:U)=0 from h) g!) (y? λ_=>⟨rfl,rfl,o.2 j⟩));have K:E4 []=D ([],5):=by unfold E4;have:=jw (a:=[]) (t:=[]) (k:=2) g! g! g!;rw[DR,D! g!]at this;rw[show((([]:Bc).length:Nat):U)=0 from rfl]at this;rw[this];rfl
 rw[K,AD];exact AB λh=>O! (show(5:U)=0 from h) g!
variable {B:Int->Prop}
def eV{x}:An (MU x) λr=>Z r<=64/\(∀d∈r,∃f∈x.2.1,f.1.1=d.1/\d.2.2=f.1.2.1)/\(QJ x->∀f∈x.2.1,f.2.1=A->0<=f.1.1->f.1.1<64->∃d∈r,d.1=f.1.1):=by
 unfold MU;refine AA Ei λv B=>AP (λm=>AB ⟨k!,k!,λo=>O! (B.2 o) (by simp[m])⟩) (λm=>?_);have o:=B.1 m;have R:=o.2.1;have S:=o.2.2.1;refine AA (P:=λr=>Z r<=64/\(∀d∈r,∃f∈x.2.1,f.1.1=d.1/\d.2.2=f.1.2.1)/\∀f∈x.2.1,f.2.1=A->0<=f.1.1->f.1.1<64->∃d∈r,d.1=f.1.1) ?_ λr hr=>AB ⟨hr.1,hr.2.1,λ_=>hr.2.2⟩;refine CV (λ(s:Int×List Al)=>0<=s.1/\s.1<=64/\Z s.2<=s.1/\(∀d∈s.2,∃f∈x.2.1,f.1.1=d.1/\d.2.2=f.1.2.1)/\∀f∈x.2.1,f.2.1=A->0<=f.1.1->f.1.1<s.1->∃d∈s.2,d.1=f.1.1) (λs=>(64-s.1).toNat) ⟨Ag _,u!,k!,k!,λf _ _ i k=>O! k d!⟩ (λs I=>?_);have⟨k,O,Q,p,q⟩:=I;unfold TO;rw[(Aa (x:=s.1+1))];refine AC (λm=>?_) (λm=>k? ⟨o!,p,λf h c i k=>q f h c i o!⟩);refine AA (G6 d!) λL b=>AC (λa=>?_) (λa=>y! ⟨d!,d!,d!,p,λf h c i k=>?_⟩ d!)
 ·have⟨g,A_,t⟩:=b.2.2.1 a;have D_:∀w,x.2.1[L.toNat]?=D w->w=g:=λw C=>by rw[A_]at C;exact(BL C).symm
  refine AA (AI a b.2.1) λM y=>?_;have E:=D_ M y.1;subst E;refine AA (P:=λl=>Z l<=Z s.2+1/\(∀d∈l,∃f∈x.2.1,f.1.1=d.1/\d.2.2=f.1.2.1)/\∀f∈x.2.1,f.2.1=A->0<=f.1.1->f.1.1<s.1+1->∃d∈l,d.1=f.1.1) ?_ λV H=>y! ⟨d!,d!,d!,H.2⟩ d!
  refine AM (λn=>?_) (λn=>AB ⟨o!,p,λf h c i k=>?_⟩);refine AA (AI a b.2.1) λT _=>AA (AI a b.2.1) λN z=>?_;have F:=D_ N z.1;subst F;refine AA (Ac w!) λU_ G=>AB ⟨?_,λd c=>?_,λf h c i k=>?_⟩;grind;grind;rw[G.1];by_cases e:f.1.1<s.1;have⟨d,J,K⟩:=q f h c i e;grind[List.mem_append_left];exact⟨_,Kq _ (Ax.2 rfl),d!⟩;by_cases e:f.1.1<s.1;exact q f h c i e;have⟨j,u⟩:=Dk h;have:=o.uniq u A_ (by dsimp only at t;omega);subst this;rw[n]at c;cases c
 by_cases e:f.1.1<s.1;grind;have⟨j,u⟩:=Dk h;exact O! ⟨j,f,u,by dsimp only at k⊢;omega⟩ (b.2.2.2 o!)
def kp{x}(h:SK B x):An (P9 x) λr=>r.2=0->θ r.1.2.2.2.1<=16777216/\r.1.1=x.1/\yX x.1 x.2.2.1.2.1 r.1.2.2.2.1 r.1.2.2.2.2:=by
 unfold P9;refine AA (CQ h.sb) λv hv=>AP (y? n!) (λo=>?_);have J:=hv o;have ad:=J.2.1;have⟨al,n,H⟩:=h.ki;refine AA (P:=λr=>θ r.1<=16777216/\r.2=(x.1,x.2.1,x.2.2.2.2.2.1,x.2.2.2.2.2.2.1)/\(∀d∈r.1,d.2.2=Bn x.2.2.1.2.1 d.1)/\∀p,0<=p->p<x.1->(∀d∈r.1,d.1≠p)->(∀d∈x.2.2.2.2.2.2.2,d.1≠p)/\∀f∈x.2.2.2.1.2.1,f.1.1=p->f.2.1=X) ?_ λr hr=>AB λ_=>⟨hr.1,by rw[hr.2.1],λp g i=>⟨λd a e=>by rw[hr.2.2.1 d a,e],λw D_=>?_⟩⟩
 rotate_left 1;dsimp only at D_;rw[hr.2.1]at D_;have⟨_,_,c⟩:=n p g i;exact⟨(c w D_).1,λa=>(c w D_).2 (hr.2.2.2 p g i a).1 (hr.2.2.2 p g i a).2⟩;refine CV (λ(s:Int×List Al×Int×Int×List Ar×Bz)=>0<=s.1/\s.1<=x.1/\θ s.2.1<=65*s.1/\s.2.2=(x.1,x.2.1,x.2.2.2.2.2.1,x.2.2.2.2.2.2.1)/\(∀d∈s.2.1,d.2.2=Bn x.2.2.1.2.1 d.1)/\∀p,0<=p->p<s.1->(∀d∈s.2.1,d.1≠p)->(∀d∈x.2.2.2.2.2.2.2,d.1≠p)/\∀f∈x.2.2.2.1.2.1,f.1.1=p->f.2.1=X) (λs=>(x.1-s.1).toNat) ⟨Ag _,by have:=J.1;dsimp only;omega,k!,rfl,k!,λp g i=>O! i d!⟩ (λs hI=>?_);have⟨h1,h2,h3,S,T,b⟩:=hI;unfold WG;have e:=Aa (x:=s.1+1);rw[e];refine AC (λo=>?_) (λ_=>k? ⟨o!,S,T,λp g i=>b p g o!⟩);refine AA (Ke h.sb) λv2 y=>AA (P:=λl=>θ l.1<=θ s.2.1+1/\l.2=s.2.2/\(∀d∈l.1,d.2.2=Bn x.2.2.1.2.1 d.1)/\(∀d∈s.2.1,d∈l.1)/\((∀d∈l.1,d.1≠s.1)->∀d∈x.2.2.2.2.2.2.2,d.1≠s.1)) ?_ λX_ F=>?_;refine AM (λm=>AA (Ac w!) λv6 b=>AB ?_) (λm=>AB ⟨o!,rfl,T,λd a=>a,λ_=>y.2 m⟩);have⟨q1,N⟩:=y.1 m;have K:=b.2.1;simp at K;refine⟨d!,rfl,λd a=>?_,λd a=>by dsimp only;rw[b.1];exact F4 _ a,λhn=>O! N (hn _ (by dsimp only;rw[b.1];exact Kq _ (Ax.2 rfl)))⟩;dsimp only at a;rw[b.1,Ah]at a;rcases a with a|a;grind;rw[Ax]at a;subst a;exact(n _ (by dsimp only at N;omega) (by dsimp only at N;omega)).2.1 _ q1 rfl;have⟨a1,a2,a3,a4,a5⟩:=F;refine AA eV λE L=>?_;have⟨b1,Z,b3⟩:=L;refine AA (P:=λl=>θ l.1<=θ s.2.1+65/\l.2=s.2.2/\(∀d∈l.1,d.2.2=Bn x.2.2.1.2.1 d.1)/\(∀d∈X_.1,d∈l.1)/\∀d∈E,d.1=s.1->d∈l.1) ?_ λao k=>y! ⟨d!,d!,d!,by dsimp only;rw[k.2.1,S],k.2.2.1,λp g i hn=>?_⟩ d!
 rotate_left 1;have⟨_,_,_,O,c5⟩:=k;dsimp only at i hn;by_cases u:p<s.1;exact b p g u λd a=>hn d (O d (a4 d a));have ep:p=s.1:=o!
 subst ep;refine⟨a5 λd a=>hn d (O d a),λf C R=>?_⟩;cases hb:f.2.1 with
 |false=>rfl
 |true=>have⟨d,G,q⟩:=b3 J.2.2.2.1 f C hb o! o!;exact O! (q.trans R) (hn d (c5 d G (q.trans R)))
 refine CV (λ(t:Int×List Al×Int×Int×List Ar×Bz)=>0<=t.1/\t.1<=θ E/\θ t.2.1<=θ s.2.1+1+t.1/\t.2.2=s.2.2/\(∀d∈t.2.1,d.2.2=Bn x.2.2.1.2.1 d.1)/\(∀d∈X_.1,d∈t.2.1)/\∀(j:Nat)(d:Al),(j:U)<t.1->E[j]?=D d->d.1=s.1->d∈t.2.1) (λt=>((θ E:U)-t.1).toNat) ⟨Ag _,d!,d!,a2,a3,λd a=>a,λj d I=>O! I d!⟩ (λt hJ=>?_);have⟨j1,j2,j3,V,M,W,j7⟩:=hJ;unfold WH;have e2:=Aa (x:=t.1+1);rw[e2];refine AC (λo=>?_) (λo=>k? ⟨o!,V,M,W,λd a Q=>?_⟩);rotate_left 1;grind[List.getElem?_of_mem,Ce];simp[len]at o;refine AA (AI j1 o) λY z=>AA (P:=λl=>θ l.1<=θ t.2.1+1/\l.2=t.2.2/\(∀d∈l.1,d.2.2=Bn x.2.2.1.2.1 d.1)/\(∀d∈t.2.1,d∈l.1)/\(Y.1=s.1->Y∈l.1)) ?_ λv9 A_=>y! ⟨d!,d!,d!,A_.2.1.trans V,A_.2.2.1,λd a=>A_.2.2.2.1 d (W d a),λj d I a Q=>?_⟩ d!
 rotate_left 1;dsimp only at I;by_cases u:(j:U)<t.1;grind;have:j=t.1.toNat:=o!
 subst this;rw[z.1]at a;have:=BL a;subst this;exact A_.2.2.2.2 Q;refine AQ (λU_=>AA (Ac w!) λv6 b=>AB ?_) (λU_=>AB ⟨o!,rfl,M,λd a=>a,λe=>O! e U_⟩);have K:=b.2.1;simp at K;refine⟨d!,rfl,λd a=>?_,λd a=>by dsimp only;rw[b.1];exact F4 _ a,λ_=>by dsimp only;rw[b.1];exact Kq _ (Ax.2 rfl)⟩;dsimp only at a;rw[b.1,Ah]at a;rcases a with a|a;exact M d a;rw[Ax]at a;subst a;have⟨f,C,f1,f2⟩:=Z d z.2;have hr:=H f C;rw[f2,(n d.1 o! o!).1 f C f1,KB]
theorem AGz:∃c e,DZ []=D (c,e)/\e≠0:=⟨(0,0,[],[],[]),5,h!,g!⟩
def iM{x}(h:SK B x):An (Rg x) λr=>r.2.2=0->KL B x r.1:=by
 refine AA (kp h) λO u=>AK (λb=>AB λa=>O! a b) (λa=>?_);have⟨o,N,C⟩:=u a;refine AA ((bq o).and (AG3 o)) λG j=>AC (y? n!) (λf=>?_);simp[V]at f;have d:∀c,DZ G.1=D (c,0)->c.1=x.1->yX x.1 x.2.2.1.2.1 c.2.2.2.1 c.2.2.2.2:=by intro c b _;rcases j.2 o! with e|⟨g,F,M,A_,i⟩;grind[AGz,Option.some.inj];have⟨_,D_,E⟩:=(AGy g A_ o! i).get b rfl;rw[D_,E];exact C
 refine AA (GS h.sb) λP v=>AK (λb=>AB λa=>O! a b) (λa=>?_);have⟨_,⟨a1,a2,a3,a4,a5,a6,a7,a8,e,k,s,t,l,K,m,L⟩,w⟩:=v a;dsimp only at a1 a2 a4 a7 k s t l m w;have y:=a2.1;refine AA (KZ.and (tP a3 q!)) λQ n=>AB λ_=>?_;have⟨H,p,I,J,_⟩:=n.1 n.2;refine⟨a1,a2.trans (LX.of I p J),⟨a8.1,a8.2.1,a8.2.2,?_⟩,H⟩;unfold KI;rw[a1,a4,a7,p,k,m g!];refine⟨h.ki.1.app ⟨λq=>o!,λq=>o!,λ_=>?_,o!⟩,h.ki.2.1.app o!,h.ki.2.2⟩;rw[(E! (·.2.2) l)];exact d
def Xp{x:AZ}(h:SK B x.1)(d:DJ B x.1.2.2.1 x.2):An (L5 x) λr=>r.2.2=0->SR B x r.1:=by exact AA (iM h) λe b=>AK (λc=>AB λa=>O! a c) (λa=>AB λ_=>⟨b a,d.up (b a).2.1⟩)
end Go.Pm
namespace Go.Pm
open Go Go.Ab
theorem bp{x:Bc}(h:Z x<=1099511627776):An (DZ x) λr=>r.2=0->tT r.1/\Z r.1.2.2.2.1<=65536:=by unfold DZ;refine AA (Cl h) λO _=>AA (Cl h) λQ _=>AA (Cl h) λc w=>AK (λa=>AB n!) (λj=>?_);have⟨a1,a2,a3,_⟩:=w j;have a4:=a3 q!;dsimp only at a1 a2;rw[(Aa (x:=V x-10) q!)];refine AC (λa=>AB n!) (λa=>?_);simp[V]at a;rw[(Aa (x:=10+c.1))];refine AA (Bx g!) λR y=>AA (Cl h) λd z=>AK (λa=>AB n!) (λk=>?_);have⟨o,p,q,t⟩:=z k;have G:=q q!;have H:=t q!;dsimp only at o p;rw[(Aa (x:=V x-(10+c.1)) q!)];rw[(Aa (x:=V x-(10+c.1)-1) q!)];rw[(Aa (x:=17*d.1))];refine AC (λa=>AB n!) (λi=>?_);simp[V]at i;rw[(Aa (x:=10+c.1+1))];refine AA (P:=λr=>r.1=10+c.1+1+17*d.1/\Z r.2.1<=65536) ?_ λB e=>?_;refine AY (λ(s:Int×Int×List Al×Int×Int×List Ar×Bz)=>0<=s.2.1/\s.2.1<=d.1/\s.1=10+c.1+1+17*s.2.1/\Z s.2.2.1<=s.2.1) (λs=>(d.1-s.2.1).toNat) ⟨Ag _,q!,q!,k!⟩ (λs A_=>?_);have⟨J,K,L,M⟩:=A_;unfold M2;refine AC (λa=>AA (Cl h) λ_ _=>AA (Cl h) λ_ _=>AA (Cl h) λ_ _=>AA (Ac w!) λS I=>?_) (λa=>AB ⟨q!,q!⟩);grind[List.length_cons,List.length_nil,Aa,AB];have N:=y.2;refine AA (TS o!) λC u=>AK (λa=>AB λb=>O! b a) (λm=>AA (Bx o! b! i!) λD_ f=>?_);have l:=f.2;simp[V]at l;exact AA (TQ o!) λE v=>AK (λa=>AB λb=>O! b a) (λn=>AA (O8 d!) λF g=>AP (λa=>AB n!) (λa=>AB λ_=>⟨g a,e.2⟩))
def KD.data{e}(h:KD e):Z e.2.2.2.2.2.2.2<=8192:=by have a:=h.2.2.2.2.2.2.2.2;grind[SI]
def br{x}:An (P8 x) λr=>r.2.2=A->(tT r.1/\Z r.1.2.2.2.1<=65536)/\∃(i:Y)(e:AE),x.2.1[i]?=D e/\e.2.1=6/\e.1=r.2.1/\DZ e.2.2.2.2.2.2.2=D (r.1,0):=by
 refine AA BZ λv j=>AP (y? λc=>by cases c) (λa=>?_);have f:=j.1 a;have g:=f.2.2.1;have e:=Aa (x:=V x.2.1-1) q!;refine AA (P:=λr=>∀u,r=.inl u->(tT u.2.2/\Z u.2.2.2.2.2.1<=65536)/\∃(i:Y)(e:AE),x.2.1[i]?=D e/\e.2.1=6/\e.1=u.1/\DZ e.2.2.2.2.2.2.2=D (u.2.2,0)) ?_ λr hr=>BA (λu b=>AB λ_=>hr u b) (λ_ _=>AB λc=>by cases c);refine AY (λ(s:Int×Cg)=> -1<=s.1/\s.1<Z x.2.1) (λs=>(s.1+1).toNat) ⟨q!,q!⟩ (λs d=>?_);unfold Sc;rw[(Aa (x:=s.1-1))];refine AC (λa=>?_) (y? λu b=>by cases b);have k:((-1<=s.1-1/\s.1-1<Z x.2.1)/\(s.1-1+1).toNat<(s.1+1).toNat):=o!
 refine AA (AI a d.2) λo l=>AK (y? k) (λm=>AA (AI a d.2) λp h=>?_);have n:=(f.2.2.2.2.2 _ _ h.1).2.data;grind[EM,bp,AQ,AA,AI,AB]
def DG2(x:E Al×AE)(l:E Al):Prop:=∀d∈l,(d.1=x.2.2.2.2.2.2.2.1.1/\d.2.2=x.2.1)\/(d.1≠x.2.2.2.2.2.2.2.1.1/\d∈x.1)
def DG1(x:E Al×AE)(l:E Al):Prop:=∀d∈l,∃c∈x.1,c.1=d.1/\c.2.2=d.2.2
def DK(x:E Al×AE)(i:U)(l:E Al):Prop:=∀(j:Y)(d:Al),(j:U)<i->x.1[j]?=D d->d.1≠x.2.2.2.2.2.2.2.1.1->d∈l
def DG2.snoc{x}{l m:E Al}{d:Al}(h:DG2 x l)(e:m=l++[d])(b:(d.1=x.2.2.2.2.2.2.2.1.1/\d.2.2=x.2.1)\/(d.1≠x.2.2.2.2.2.2.2.1.1/\d∈x.1)):DG2 x m:=by subst e;intro c a;rcases Ah.1 a with a|a;exact h c a;grind
def DG1.snoc{x}{l m:E Al}{d:Al}(h:DG1 x l)(e:m=l++[d])(b:∃c∈x.1,c.1=d.1/\c.2.2=d.2.2):DG1 x m:=by subst e;intro c a;rcases Ah.1 a with a|a;exact h c a;grind
def DK.snoc{x}{l m:E Al}{d:Al}{i}(h:DK x i l)(e:m=l++[d]):DK x i m:=λj c b a hn=>by rw[e];exact F4 _ (h j c b a hn)
def DK.next{x}{l}{v:Al}{i k:U}(h:DK x i l)(d:0<=i)(f:k=i+1)(m:x.1[ο i]?=D v)(g:v.1≠x.2.2.2.2.2.2.2.1.1->v∈l):DK x k l:=λj c e b hn=>by by_cases a:(j:U)<i;exact h j c a b hn;grind
def ZJ{x:List Al×AE}{s:Bool×U×List Al}(o:x.2.2.1=7)(h:0<=s.2.1/\s.2.1<=Z x.1/\Z x.1<=1000000/\Z s.2.2<=s.2.1+1/\(s.1=X->(Z s.2.2:U)<=s.2.1)/\DG1 x s.2.2/\DK x s.2.1 s.2.2):An (Ak (GN x) s) λr=>(Z r.2<=Z x.1+1/\(r.1=X->Z r.2<=Z x.1))/\DG1 x r.2/\DK x (Z x.1) r.2:=by
 refine AY (λ(s:Bool×Int×List Al)=>0<=s.2.1/\s.2.1<=Z x.1/\Z x.1<=1000000/\Z s.2.2<=s.2.1+1/\(s.1=X->(Z s.2.2:U)<=s.2.1)/\DG1 x s.2.2/\DK x s.2.1 s.2.2) (λs=>((Z x.1:U)-s.2.1).toNat) h (λs i=>?_);have⟨g,t,v,w,b,c,f⟩:=i;unfold GN;repeat' with_reducible first|intro a|apply AC|apply AP|apply AQ|apply AM|(apply BJ;try dsimp only)|apply Bk|apply B7|apply Nt|(apply BC;try dsimp only)|(apply A3;try dsimp only)|(apply BA<;>(intro u l;try subst l))|apply AB|(apply AA (CA);intro r hr)|(refine AO ?_ (AI ?_ ?_);rintro r ⟨hr,q⟩)|(refine AO ?_ (Ac ?_);rintro r ⟨hr,p,k⟩)
 all_goals try dsimp[V]at*
 all_goals try (have e:=Aa (x:=s.2.1+1))
 all_goals try (have m:=b v!)
 all_goals (try simp only[BW,Be]at*)
 all_goals first
  |omega
  |exact⟨⟨o!,λh=>by have:=b h;omega⟩,c,λj d n=>f j d o!⟩
  |(exfalso;grind;done)
  |(refine⟨⟨o!,o!,o!,o!,by first|(intro h;have:=b h;omega)|(intro h;cases h),?_,?_⟩,o!⟩
    first|exact c|exact c.snoc v! (by refine⟨_,v!,?_,?_⟩<;>rfl)
    ·first|exact f.next g e v! (O! v! ·)|exact(f.snoc v!).next g e v! (by first|(intro hn;exact O! v! hn)|(intro _;subst_vars;simp)))
def ZK{x:List Al×AE}{s:Bool×U×List Al}(q:x.2.2.1=1\/x.2.2.1=2)(h:0<=s.2.1/\s.2.1<=Z x.1/\Z x.1<=1000000/\Z s.2.2<=s.2.1+1/\(s.1=X->(Z s.2.2:U)<=s.2.1)/\DG2 x s.2.2/\DK x s.2.1 s.2.2/\(s.1=A->∃d∈s.2.2,d.1=x.2.2.2.2.2.2.2.1.1)):An (Ak (GN x) s) λr=>(Z r.2<=Z x.1+1/\(r.1=X->Z r.2<=Z x.1))/\DG2 x r.2/\DK x (Z x.1) r.2/\(r.1=A->∃d∈r.2,d.1=x.2.2.2.2.2.2.2.1.1):=by
 refine AY (λ(s:Bool×Int×List Al)=>0<=s.2.1/\s.2.1<=Z x.1/\Z x.1<=1000000/\Z s.2.2<=s.2.1+1/\(s.1=X->(Z s.2.2:U)<=s.2.1)/\DG2 x s.2.2/\DK x s.2.1 s.2.2/\(s.1=A->∃d∈s.2.2,d.1=x.2.2.2.2.2.2.2.1.1)) (λs=>((Z x.1:U)-s.2.1).toNat) h (λs l=>?_);have⟨i,w,y,z,c,a,f,k⟩:=l;unfold GN;repeat' with_reducible first|intro b|apply AC|apply AP|apply AQ|apply AM|(apply BJ;try dsimp only)|apply Bk|apply B7|apply Nt|(apply BC;try dsimp only)|(apply A3;try dsimp only)|(apply BA<;>(intro u n;try subst n))|apply AB|(apply AA (CA);intro r hr)|(refine AO ?_ (AI ?_ ?_);rintro r ⟨hr,v⟩)|(refine AO ?_ (Ac ?_);rintro r ⟨hr,t,m⟩)
 all_goals try dsimp[V]at*
 all_goals try (have e:=Aa (x:=s.2.1+1))
 all_goals try (have o:=c v!)
 all_goals (try simp only[BW,Be]at*)
 all_goals first
  |omega
  |exact⟨⟨o!,λh=>by have:=c h;omega⟩,a,λj d p=>f j d o!,k⟩
  |(exfalso;grind;done)
  |(refine⟨⟨o!,o!,o!,o!,by first|(intro h;have:=c h;omega)|(intro h;cases h)|trivial,?_,?_,?_⟩,o!⟩
    first|exact a.snoc v! (by exact .inl ⟨v!,rfl⟩)|exact a.snoc v! (by exact .inr ⟨v!,v!⟩)|refine DG2.snoc (DG2.snoc a v! (by exact .inl ⟨rfl,rfl⟩)) v! (by exact .inr ⟨o!,v!⟩)
    ·first|exact(f.snoc v!).next i e v! (by first|(intro hn;exact O! v! hn)|(intro _;subst_vars;simp))|exact((f.snoc v!).snoc v!).next i e v! (by intro _;subst_vars;simp)
    first|(intro h;refine(k h).elim λd g=>⟨d,by subst_vars;simp[g.1],g.2⟩)|(intro _;subst_vars;refine⟨_,Kq _ (Ax.2 rfl),?_⟩;assumption)|(intro _;subst_vars;refine⟨_,F4 _ (Kq _ (Ax.2 rfl)),?_⟩;rfl))
def fA{x:E Al×AE}(h:Z x.1<=1000000):An (He x) λr=>Z r<=Z x.1+1/\(¬(x.2.2.1=1\/x.2.2.1=2)->x.2.2.1≠7->r=x.1)/\(x.2.2.1=7->DG1 x r/\DK x (Z x.1) r)/\(x.2.2.1=1\/x.2.2.1=2->DG2 x r/\DK x (Z x.1) r/\∃d∈r,d.1=x.2.2.2.2.2.2.2.1.1):=by
 refine AA CA λB m=>AP (λb=>?_) (λb=>?_);have i:¬(x.2.2.1=1\/x.2.2.1=2):=λq=>by rw[m.2 q]at b;cases b
 refine AK (λhn=>AB ⟨o!,λ_ _=>rfl,λe=>O! e hn,λq=>O! q i⟩) (λo=>AA (ZJ o ⟨Ag _,q!,h,k!,k!,by simp[DG1],λj d g=>O! g q!⟩) λv f=>AP (λp=>AA CA λs n=>AA (P:=λl=>l=v.2) (AM (λa=>O! (n.1 a) i) (y? rfl)) λl c=>AB ?_) (y? ⟨f.1.1,λ_ q=>O! o q,λ_=>f.2,λq=>O! q i⟩));grind;have k:=m.1 b;refine AA (ZK k ⟨Ag _,q!,h,k!,k!,by simp[DG2],λj d g=>O! g q!,λq=>by cases q⟩) λv f=>?_;have⟨⟨s,z⟩,t,u,A_⟩:=f;refine AP (λp=>AA CA λw n=>AA (P:=λl=>l=v.2++[(x.2.2.2.2.2.2.2.1.1,x.2.1,x.2.1)]) (AM (λa=>?_) (λa=>?_)) λl c=>AB ?_) (λy=>AB ⟨s,λq=>O! k q,λq=>O! q o!,λ_=>⟨t,u,A_ y⟩⟩);grind[AA,Ac,AB];grind;have:=z p;refine⟨q!,λq=>O! k q,λq=>O! q o!,λ_=>⟨t.snoc c (.inl ⟨rfl,rfl⟩),u.snoc c,_,by rw[c];exact Kq _ (Ax.2 rfl),rfl⟩⟩
def yX.other{n}{L}{D}{R}{e:AE}(h:yX n L D R)(a:¬(e.2.1=1\/e.2.1=2)):yX n (L++[e]) D R:=by
 intro p b c;have:dr p e=X:=by simp only[not_or]at a;simp[dr,a.1,a.2]
 rw[QG,this,D! g!];exact h p b c
def yX.change{n}{L}{D_ r}{R}{e:AE}(h:yX n L D_ R)(v:e.2.1=1\/e.2.1=2)(o:∀p,Bn L p<e.1)(k:DG2 (D_,e) r)(m:DK (D_,e) (Z D_) r)(u:∃d∈r,d.1=e.2.2.2.2.2.2.1.1):yX n (L++[e]) r R:=by intro p s t;have⟨a,b⟩:=h p s t;rw[QG,(by grind[dr]:dr p e=(e.2.2.2.2.2.2.1.1==p))];by_cases i:e.2.2.2.2.2.2.1.1=p;rw[beq_iff_eq.2 i,C! rfl];refine⟨λd f c=>?_,λw g=>⟨by have:=(b w g).1;have:=o p;omega,λhn=>?_⟩⟩;rcases k d f with q|q;grind;grind;grind;rw[beq_eq_false_iff_ne.2 i,D! g!];refine⟨λd f c=>?_,λw g=>⟨(b w g).1,λhn=>(b w g).2 λd f c=>?_⟩⟩;rcases k d f with q|q;grind;exact a d q.2 c;have⟨j,l⟩:=Dk f;exact hn d (m j d (by have:=Ce l;omega) l (λq=>i (q.symm.trans c))) c
def yX.index{n}{L}{D_ r}{R}{e:AE}{w:Bb}(h:yX n L D_ R)(A_:e.2.1=7)(B:e.2.2.2.2.2.1=Bn L e.2.2.2.2.2.2.1.1)(y:0≤e.2.2.2.2.2.2.1.1)(k:DG1 (D_,e) r)(l:DK (D_,e) (Z D_) r)(C:R[e.2.2.2.2.2.2.1.1.toNat]?=D w):
  yX n (L++[e]) r (R.set e.2.2.2.2.2.2.1.1.toNat ((if e.2.2.2.2.2.1>w.1 then e.2.2.2.2.2.1 else w.1),w.2)):=by
 refine yX.other ?_ o!;intro p s t;have⟨a,b⟩:=h p s t;refine⟨λd g f=>?_,λu i=>?_⟩;have⟨c,z,v,x⟩:=k d g;grind;by_cases o:e.2.2.2.2.2.2.1.1=p;grind;rw[Dl o!]at i;refine⟨(b u i).1,λhn=>(b u i).2 λd g f=>?_⟩;have⟨j,m⟩:=Dk g;exact hn d (l j d q! m (λq=>o (q.symm.trans f))) f
def vp{n:U}{L:E AE}{D_ r:E Al}{R:E Bb}{q:Bz×U}{e:AE}(h:yX n L D_ R)(l:EOK n L e)(m:∀p,Bn L p<e.1)
  (j:Z r<=Z D_+1/\(¬(e.2.1=1\/e.2.1=2)->e.2.1≠7->r=D_)/\(e.2.1=7->DG1 (D_,e) r/\DK (D_,e) (Z D_) r)/\(e.2.1=1\/e.2.1=2->DG2 (D_,e) r/\DK (D_,e) (Z D_) r/\∃d∈r,d.1=e.2.2.2.2.2.2.1.1))
  (k:q.2=0->Z q.1=Z R/\(e.2.1≠7->q.1=R)/\(e.2.1=7->0<=e.2.2.2.2.2.2.1.1/\∃w,R[e.2.2.2.2.2.2.1.1.toNat]?=D w/\q.1=R.set e.2.2.2.2.2.2.1.1.toNat ((if e.2.2.2.2.2.1>w.1 then e.2.2.2.2.2.1 else w.1),w.2)))
  (t:q.2=0):yX n (L++[e]) r q.1:=by
 have⟨_,g,f,c⟩:=j;have⟨_,u,v⟩:=k t;by_cases b:e.2.1=7;have⟨i,w,s,o⟩:=v b;rw[o];exact h.index b (l.2.1 b) i (f b).1 (f b).2 s;rw[u b];by_cases a:e.2.1=1\/e.2.1=2;exact h.change a m (c a).1 (c a).2.1 (c a).2.2;rw[g a b];exact h.other a
variable {B:Int->Prop}
def HL(l:E Ar):Prop:=Z l<=64/\∀t∈l,Z t.2.2.2.2.1<=4097
def Zd.hl{l}(h:Zd l):HL l:=⟨h.1,λt b=>by have⟨i,a⟩:=Eo.1 b;have:=(h.2 i t a).1;omega⟩
def HL.set{l}{i}{n:Ar}(h:HL l)(hn:Z n.2.2.2.2.1<=4097):HL (l.set i n):=⟨by rw[Yj];exact h.1,λt a=>by rcases Ph a with q|q;exact h.2 t q;rw[q];exact hn⟩
def HL.rm{l}{id}(h:HL l):HL (ADf l id):=⟨by have:=pY l id;have:=h.1;omega,λt a=>h.2 t (BG.1 a).1⟩
def Zd.lens{l}{i:Y}{t:Ar}(h:Zd l)(a:l[i]?=D t):Z t.2.2.2.2.1<=4096:=(h.2 i t a).1
def AGR{x}:An (Gq x) λr=>r.2=0->HL r.1:=by refine AA ED λz j=>AP (λb=>AB n!) (λb=>?_);have c:=j b;have n:=c.1;refine AA CY λA_ y=>AP (λb=>AB n!) (λ_=>AQ (λb=>AB λ_=>c.hl) (λp=>AA (It q!) λB g=>AC (λb=>AB n!) (λo=>AA (AI o! g.2.1) λC m=>?_)));have f:=c.lens m.1;refine AK (λb=>AB n!) (λ_=>AA (P:=λs=>(∃u,s=.inl u/\Z u.2.2.2.2.1<=4097)\/∃u,s=.inr u/\(u.2=0->HL u.1)) ?_ λs h=>?_);refine AQ (λ_=>?_) (λ_=>?_);grind[AA,Ac,AB];refine AA (P:=λs=>(∃u,s=.inr u/\Z u.2.2.2.2.1<=4097)\/∃u,s=.inl u/\(u.2=0->HL u.1)) (AQ (λ_=>AA (Sb ⟨Ag _,q!,f,k!⟩) λq k=>AQ (y? (.inr ⟨_,rfl,n!⟩)) (y? (.inl ⟨_,rfl,q!⟩))) (λ_=>AQ (y? (.inl ⟨_,rfl,q!⟩)) (λ_=>AA (Jq q!) λt d=>AB (.inr ⟨_,rfl,λ_=>by rw[d];exact c.hl.rm⟩)))) λs h=>?_;grind[A3,AB,BC];rcases h with⟨u,rfl,i⟩|⟨u,rfl,i⟩;refine BC (AA (OB o!) λv l=>AA (MX q! ⟨q!,g.2.1⟩) λw e=>AB λ_=>?_);rw[e];exact c.hl.set q!;exact A3 (AB i)
def AN(n c:U)(L:E AE)(m:Y)(a:Cq):Prop:=a.1=n/\HL a.2.2.2.1/\Z a.2.2.2.2.2.1<=m/\a.2.2.1=c/\yX n L a.2.2.2.2.2.1 a.2.2.2.2.2.2
def iO{x:Cq×AE}{n c}{L:List AE}{m}(h:AN n c L m x.1)(f:m<=1000000)(d:EOK n L x.2)(e:∀p,Bn L p<x.2.1):An (NV x) λr=>r.2=0->AN n c (L++[x.2]) (m+1) r.1:=by
 unfold NV;have⟨a1,a2,a3,a5,a6⟩:=h;have a4:=a2.1;repeat' with_reducible first|apply AC<;>intro b|apply AK<;>intro b|apply AM<;>intro b|(apply BJ;try dsimp only)|apply Bk|apply B7|apply Nt|(apply BC;try dsimp only)|(apply A3;try dsimp only)|apply AB|(apply AA AGR;intro r hr)|(refine AO ?_ (GC ?_);intro r hr)|(apply AA (Ud);intro r hr)|(apply AA (Vc);intro r hr)|(apply AA (CA);intro r hr)|(refine AO ?_ (fA ?_);intro r hr)
 all_goals try dsimp[V]at*
 all_goals first|omega|(intro a;exact O! a v!)|(intro a;exact O! a g!)|(intro _;unfold AN;refine⟨by first|assumption|grind,q!,by first|omega|grind,by first|assumption|grind,?_⟩;exact vp a6 d e v! v! v!)|grind
def WD{x}:An (OU x) λr=>∀w∈r.1,w.1=0:=by refine AC (y? k!) (λ_=>AC (y? k!) (λ_=>?_));grind[AA,rp,AB]
def fC{x:Ad×U}(n:Dc x.1)(u:x.1.1=1)(m:LI x.2 x.1.2.1):An (Qr x) λr=>r.2=0->∃k:Y,k<=Z x.1.2.1/\AN x.2 k (x.1.2.1.take k) 65536 r.1:=by
 refine AA br λv j=>AP (λ_=>?_) (λb=>?_);refine AC (λb=>AB n!) (λ_=>AA WD λy l=>AB λ_=>⟨0,BS _,rfl,⟨k!,λt o=>by simp at o⟩,k!,rfl,λp _ _=>⟨k!,λw q=>by have:=l w (BP q);exact⟨by rw[this];exact Ag _,λ_=>this⟩⟩⟩)
 have⟨⟨d,f⟩,i,e,a,g,s,h⟩:=j b;refine AK (λb=>AB n!) (λhn=>AB λ_=>⟨i+1,Ce a,rfl,d.2.2.1.hl,f,?_,?_⟩);have:=(n.2.2.2.2.2 i e a).1;grind;rw[Ca,a];exact((m i e a).2.2.1 g _ h hn).other o!
def iN{x}:An (Fx x) λr=>z:=by exact AK (y? trivial) (λ_=>AK (y? trivial) (y? trivial))
def Z5{x:List Az×Az}{s:U}(h:0<=s/\s<=Z x.1/\(Z x.1:U)<=16777216):An (Ak (O9 x) s) λr=>0<=r/\r<=Z x.1:=by
 refine AY (λ(s:Int)=>0<=s/\s<=Z x.1/\(Z x.1:U)<=16777216) (λs=>((Z x.1:U)-s).toNat) h (λs a=>?_);unfold O9;exact x!
def iP{x:E Az×Az}(h:Z x.1<=1000000):An (Rk x) λr=>Z r<=Z x.1+1:=by
 refine AA (Z5 ⟨Ag _,o!⟩) λp c=>?_;have main:An (σ (Wp x.1 0 p) λa=>
 σ (Wp x.1 p (V x.1)) λb=>
 σ (app [] a) λd=>
 σ (app d ([x.2]:E (U×((U×U)×U)))) λe=>
 σ (app e b) λf=>
 D f) λr=>Z r<=Z x.1+1:=by refine AA (Bd (Ag _) c.1 c.2) λa g=>AA (Bd c.1 q! q!) λb i=>?_;grind[AA,Ac,AB]
 refine AC (λj=>?_) (λ_=>main);exact AA (AI c.1 j) λk _=>AM (y? o!) (λ_=>main)
def fB{x:Ad×List Ar}(h:HL x.2):An (Md x) λr=>Z r.1<=262208:=by unfold Md;have k:=h.1;refine AA (P:=λr=>(∀u,r=.inl u->Z u.1<=262208)/\∀u,r=.inr u->Z u<=262208) ?_ λr hr=>BA (λu a=>AB (hr.1 u a)) (λu a=>AB (hr.2 u a));refine AY (λ(s:List Az×Int)=>0<=s.2/\s.2<=Z x.2/\Z s.1<=4097*s.2) (λs=>((Z x.2:U)-s.2).toNat) ⟨Ag _,q!,k!⟩ (λs d=>?_);have⟨f,m,n⟩:=d;unfold TY;rw[(Aa (x:=s.2+1))];refine AC (λb=>?_) (y? ⟨λu a=>(by cases a),λu a=>q!⟩);simp[V]at b;have⟨t,i,j⟩:=AI (l:=x.2) f b;have v:=h.2 t j.2;refine AA (P:=λr=>(∀u,r=.inl u->Z u.1<=262208)/\∀u,r=.inr u->Z u<=4097*(s.2+1)) ?_ λr hr=>?_;refine AY (λ(q:List Az×Int)=>0<=q.2/\q.2<=Z t.2.2.2.2.1/\Z q.1<=4097*s.2+q.2) (λq=>((Z t.2.2.2.2.1:U)-q.2).toNat) ⟨Ag _,q!,q!⟩ (λq e=>?_);have⟨g,o,p⟩:=e;unfold TZ;rw[i];apply BJ;rw[(Aa (x:=q.2+1))];refine AC (λb=>?_) (y? ⟨λu a=>(by cases a),λu a=>q!⟩);simp[V]at b;refine BJ (AA (AI g b) λw _=>AA HZ λy _=>AK (y? ⟨λu a=>q!,λu a=>(by cases a)⟩) (λ_=>AK (y? ⟨λu a=>(by cases a;simp),λu a=>(by cases a)⟩) (λ_=>BJ (AK (y? ⟨λu a=>(by cases a;simp),λu a=>(by cases a)⟩) (λ_=>AA (iP q!) λz c=>AB ?_)))));dsimp only at c;exact⟨⟨q!,o!,d!⟩,o!⟩;grind[BA,AB]
def Z4{x:Ad×U}(c:Dc x.1)(S:x.1.1=1)(L:LI x.2 x.1.2.1):An (Ki x) λr=>r.2=0->r.1.1=x.2/\HL r.1.2.2.2.1/\θ r.1.2.2.2.2.1<=262208/\θ r.1.2.2.2.2.2.1<=70000/\yX x.2 x.1.2.1 r.1.2.2.2.2.2.1 r.1.2.2.2.2.2.2:=by
 unfold Ki;refine AA BZ λv V=>AP (y? n!) (λa=>?_);have U_:=V.1 a;have M:=U_.2.2.1;refine AC (y? n!) (λ_=>AC (y? n!) (λ_=>AA (fC c S L) λv1 N=>AK (λa=>AB λb=>O! b a) (λH=>?_)));have⟨k,T,Q⟩:=N H;refine AA (P:=λr=>(∀u,r=.inl u->u.1≠0)/\∀u,r=.inr u->AN x.2 k x.1.2.1 70000 u.1) ?_ λr hr=>BA (λu d=>AB λb=>O! b (hr.1 u d)) (λu d=>?_);refine AY (λ(s:Int×Cq×Cq)=>0<=s.1/\s.1<=θ x.1.2.1/\AN x.2 k (x.1.2.1.take (max k s.1.toNat)) (65536+s.1.toNat) s.2.1) (λs=>((θ x.1.2.1:U)-s.1).toNat) ⟨Ag _,d!,by simpa using Q⟩ (λs D_=>?_);have⟨o,W,f⟩:=D_;unfold Ri;have e:=Aa (x:=s.1+1);rw[e];refine AC (λa=>?_) (λ_=>AB ⟨λu d=>(by cases d),λu d=>?_⟩);simp[len]at a;have en:(s.1+1).toNat=s.1.toNat+1:=o!
 refine AA (AI o a) λv3 O=>?_;have n3:=(c.2.2.2.2.2 _ _ O.1).1;refine AC (λF=>AB ⟨⟨d!,d!,?_⟩,d!⟩) (λF=>?_);have⟨q,g,J,y,h⟩:=f;have z:max k (s.1+1).toNat=max k s.1.toNat:=o!
 exact⟨q,g,d!,y,by dsimp only;rw[z];exact h⟩;have y:=f.2.2.2.1;have z:max k s.1.toNat=s.1.toNat:=o!
 rw[z]at f;refine AA (AI o a) λv4 K=>?_;have n:x.1.2.1.take (max k (s.1+1).toNat)=x.1.2.1.take s.1.toNat++[v4]:=by grind[List.take_add_one]
 refine AA (iO f o! (L _ _ K.1) λp=>?_) λv5 h5=>?_;have n4:=(c.2.2.2.2.2 _ _ K.1).1;refine pE _ _ d! λe R=>?_;have⟨j,E⟩:=Dk R;have G:=Ce E;rw[BU]at G;rw[KK o!]at E;have:=(c.2.2.2.2.2 j e E).1;dsimp only;omega;grind[AK,AB];cases d;have⟨q,g,J,y,h⟩:=f;simp[len]at*;rw[BN o!]at h;exact⟨q,g,o!,y,h⟩;have⟨q,g,J,_,h⟩:=hr.2 u d;have X_:=g.1;refine AA (P:=λl=>HL l) ?_ λao m=>?_;refine AY (λ(s:Int×List Ar)=>0<=s.1/\s.1<=θ u.1.2.2.2.1/\θ s.2<=s.1/\∀t∈s.2,θ t.2.2.2.2.1<=4097) (λs=>((θ u.1.2.2.2.1:U)-s.1).toNat) ⟨Ag _,d!,k!,λt n=>by simp at n⟩ (λs D_=>?_);have⟨o,W,f,I⟩:=D_;unfold Rj;have e:=Aa (x:=s.1+1);rw[e];refine AC (λa=>?_) (y? ⟨o!,I⟩);simp[len]at a;refine AA (AI o a) λY _=>AA (P:=λl=>θ l<=θ s.2+1/\∀t∈l,θ t.2.2.2.2.1<=4097) ?_ λal i=>AB ⟨⟨d!,d!,by have:=i.1;dsimp only;omega,i.2⟩,d!⟩;refine AC (λ_=>AA (AI o a) λZ A_=>AA (Ac w!) λad B=>AB ⟨?_,λt n=>?_⟩) (y? ⟨o!,I⟩);grind;rw[B.1]at n;rcases Ah.1 n with w|w;exact I t w;simp at w;rw[w];exact g.2 _ A_.2;exact AA (fB m) λap C=>AK (λa=>AB λb=>O! b a) (λb=>AB λ_=>⟨q,m,C,J,h⟩)
def WC{x}:An (Kz x) λr=>r.1.2.1=[]:=by
 unfold Kz;exact x!
def fD{x:Ad×Cq×U}(t:Dc x.1)(h:HL x.2.1.2.2.2.1/\Z x.2.1.2.2.2.2.1<=262208/\Z x.2.1.2.2.2.2.2.1<=70000)(q:LI x.2.1.1 x.1.2.1)(e:yX x.2.1.1 x.1.2.1 x.2.1.2.2.2.2.2.1 x.2.1.2.2.2.2.2.2):An (Me x) λr=>r.2=0->r.1.1=x.2.1.1/\SK B r.1/\Dc r.1.2.2.1/\LX x.1 r.1.2.2.1:=by
 unfold Me;have⟨a1,a2,a3⟩:=h;have a4:=a1.1;refine AA WC λj f=>AK (y? n!) (λ_=>?_);have k:SK B (x.2.1.1,x.2.1.2.1,x.1,j.1,(x.2.1.2.2.2.2.1,[]),x.2.1.2.2.2.1,x.2.1.2.2.2.2.2.2,x.2.1.2.2.2.2.2.1):=⟨⟨q!,k!⟩,q!,q!,q,λp g i=>⟨q!,(e p g i).1,λw l=>⟨((e p g i).2 w l).1,λhn _=>((e p g i).2 w l).2 hn⟩⟩,by unfold FD;dsimp only;rw[f];simp⟩
 refine AA (CQ k.sb) λy _=>AP (y? n!) (λ_=>AA (P:=λr=>(∀u,r=.inl u->u.1≠0)/\∀u,r=.inr u->KL B (x.2.1.1,x.2.1.2.1,x.1,j.1,(x.2.1.2.2.2.2.1,[]),x.2.1.2.2.2.1,x.2.1.2.2.2.2.2.2,x.2.1.2.2.2.2.2.1) u.1) ?_ λr hr=>BA (λu a=>AB λb=>O! b (hr.1 u a)) (λu a=>AB λ_=>?_));refine AY (λ(s:Int×AU×AU)=>0<=s.1/\s.1<=Z x.2.1.2.2.2.1/\KL B (x.2.1.1,x.2.1.2.1,x.1,j.1,(x.2.1.2.2.2.2.1,[]),x.2.1.2.2.2.1,x.2.1.2.2.2.2.2.2,x.2.1.2.2.2.2.2.1) s.2.1) (λs=>((Z x.2.1.2.2.2.1:U)-s.1).toNat) ⟨Ag _,q!,KL.refl k t⟩ (λs o=>?_);have⟨m,v,d⟩:=o;unfold Ta;rw[(Aa (x:=s.1+1))];refine AC (λc=>?_) (y? ⟨λu a=>(by cases a),λu a=>q!⟩);simp[V]at c;refine AA (AI m c) λz _=>AQ (y? ⟨⟨q!,o!,d⟩,o!⟩) (λ_=>AA (AI m c) λA_ _=>AA (GS d.2.2.1.sb) λC n=>AK (λc=>AB ⟨λu a=>(by cases a;exact c),λu a=>(by cases a)⟩) (λb=>AB ⟨⟨o!,o!,d.trans ((n b).2.1.kl d.2.2.1 u!)⟩,o!⟩));have:=hr.2 u a;exact⟨this.1,this.2.2.1,this.2.2.2,this.2.1⟩
def iV{x:AZ×U×C3}(h:SK B x.1.1)(v:Dc x.1.1.2.2.1)(t:DJ B x.1.1.2.2.1 x.1.2):An (Na x) λr=>SR B x.1 r.1/\(r.2.1≠0->TP r.1.1.2.2.2.2.2.1<TP x.1.1.2.2.2.2.2.1):=by
 unfold Na;refine AA (P:=λr=>SR B x.1 r.2.2/\(r.1≠0->TP r.2.2.1.2.2.2.2.2.1<TP x.1.1.2.2.2.2.2.1)) ?_ λr hr=>AB hr;refine AY (λs=>SR B x.1 s.2.1/\TP s.2.1.1.2.2.2.2.2.1<=TP x.1.1.2.2.2.2.2.1/\(s.1≠0->TP s.2.1.1.2.2.2.2.2.1<TP x.1.1.2.2.2.2.2.1)) (λs=>2*TP s.2.1.1.2.2.2.2.2.1+flag (¬oJ s.2.1.1.2.2.2.1 x.2.2.1)) ⟨⟨KL.refl h v,t⟩,Ao _,λe=>O! rfl e⟩ (λs d=>?_);obtain⟨d,C,k⟩:=d;have l:=d.1.2.2;unfold Uj;refine AA (iK l.1 l.2) λD_ q=>?_;obtain⟨k1,w,y⟩:=q;refine AQ (y? ⟨d,k⟩) (λp=>AA (P:=λr=>(∃u,r=.inl u/\u.1=s.1/\u.2.2=s.2.1)\/∃u,r=.inr u/\SR B s.2.1 u.2.1/\(TP u.2.1.1.2.2.2.2.2.1<TP s.2.1.1.2.2.2.2.2.1\/(u.1=s.1/\TP u.2.1.1.2.2.2.2.2.1=TP s.2.1.1.2.2.2.2.2.1/\oJ u.2.1.1.2.2.2.1 x.2.2.1/\¬oJ s.2.1.1.2.2.2.1 x.2.2.1))) ?_ λr hr=>?_);apply AQ<;>intro m;obtain⟨a,b,c⟩:=w m;refine AA (II l.1 d.2) λE j=>AK (y? (.inl ⟨_,rfl,rfl,rfl⟩)) (λe=>AB (.inr ⟨_,rfl,(j e).1.sr,.inr ⟨rfl,?_,?_,b⟩⟩));have:=(j e).1.1.2.2.2.2.1;exact E! TP this;have:=(j e).2;rw[a]at this;exact this;refine AQ (y? (.inl ⟨_,rfl,rfl,rfl⟩)) (λc0=>AB (.inr ⟨_,rfl,⟨k1,d.2.up k1.2.1⟩,.inl (y m p c0)⟩));rcases hr with⟨u,rfl,g⟩|⟨u,rfl,g⟩;refine BC (AB ?_);dsimp only;rw[g.1,g.2];exact⟨d,k⟩;refine A3 (AB ?_);obtain⟨n,i⟩:=g;rcases i with i|⟨i,o,z,A_⟩;have f:=AB6 (¬oJ u.2.1.1.2.2.2.1 x.2.2.1);exact⟨⟨d.trans n,o!,λ_=>o!⟩,by first|omega|(dsimp only;omega)⟩;refine⟨⟨d.trans n,o!,λe=>by rw[o];exact k (by rw[<-i];exact e)⟩,?_⟩;try dsimp only
 rw[xh A_,xg (· z),o];omega
def Tb{x:AU×U}(h:SB x.1):An (Iv x) λr=>z:=by unfold Iv;refine AA (CQ h) λv c=>AA (P:=λ_=>z) ?_ λr _=>BA (λ_ _=>AB trivial) (λ_ _=>AB trivial);refine AM (λ_=>?_) (y? trivial);refine AA (GC h.2.1) λd a=>AC (λb=>?_) (y? trivial);refine AA (AI b a.2.1) λ_ _=>AQ (λ_=>?_) (y? trivial);exact AA (AI b a.2.1) λ_ _=>AB trivial
def Z7{x:AU}{s:U×List U}(h:0<=s.1/\s.1<=Z x.2.2.2.2.2.1/\Z x.2.2.2.2.2.1<=16777216/\Z s.2<=s.1/\SB x):An (Ak (PA x) s) λr=>z:=by
 refine AY (λ(s:Int×List Int)=>0<=s.1/\s.1<=Z x.2.2.2.2.2.1/\Z x.2.2.2.2.2.1<=16777216/\Z s.2<=s.1/\SB x) (λs=>((Z x.2.2.2.2.2.1:U)-s.1).toNat) h (λs c=>?_);unfold PA;exact x!
def iQ{x}(h:SK B x):An (NW x) λr=>z:=by unfold NW;exact AA (Z7 ⟨Ag _,d!,h.2.1,k!,h.sb⟩) λ_ _=>AB trivial
def Xo{x:AU×U}{c}{a:List U}{s:U×C3}(h:0<=s.1/\s.1<=Z a/\Z a<=16777216/\SB x.1):An (Ak (L4 x c a) s) λr=>z:=by
 refine AY (λ(s:Int×C3)=>0<=s.1/\s.1<=Z a/\Z a<=16777216/\SB x.1) (λs=>((Z a:U)-s.1).toNat) h (λs d=>?_);unfold L4;exact x!
def Z6{x:AU×U}(h:SK B x.1):An (Kj x) λr=>z:=by unfold Kj;refine AA (JC h.1) λb _=>AP (y? trivial) (λ_=>AA (MS h.1) λc a=>AA (Xo ⟨Ag _,d!,o!,h.sb⟩) λr _=>BA (λ_ _=>AB trivial) (λ_ _=>AB trivial))
def ku{x:AZ×U×C7}(h:SK B x.1.1)(k:Dc x.1.1.2.2.1)(j:DJ B x.1.1.2.2.1 x.1.2):An (QB x) λr=>SR B x.1 r.1:=by unfold QB;refine AA (P:=λr=>SR B x.1 r.1) ?_ λr hr=>AB hr;refine AY (SR B x.1 ·.1) (TP ·.1.1.2.2.2.2.2.1) ⟨KL.refl h k,j⟩ (λs c=>?_);have g:=c.1.2.2;unfold WK;refine AA (kq g.1 g.2 c.2) λm e=>?_;have b:=c.trans e.1;have a:=b.1.2.2;refine AK (y? b) (λi=>?_);have l:=e.2 i;refine AA (Z6 a.1) λn _=>AP (y? b) (λ_=>AA (iV a.1 a.2 b.2) λo f=>?_);have d:=b.trans f.1;refine AK (λ_=>?_) (λ_=>?_);exact AA B9 λp _=>AB d;refine AQ (y? d) (λc0=>AB ⟨d,?_⟩);have:=f.2 c0;dsimp only at*;rw[l]at this;exact this
def iU{x:AZ}(h:SK B x.1)(p:Dc x.1.2.2.1)(g:DJ B x.1.2.2.1 x.2):An (NZ x) λr=>r.2.2=0->SR B x r.1:=by
 unfold NZ;refine AA (CQ h.sb) λv J=>AP (y? n!) (λc=>AC (λc=>?_) (λ_=>?_));simp only[V]at c;refine AA (AI (Ag _) c) λL _=>AA (II h g) λM y=>AB λa=>(y a).1.sr;refine AA (iQ h) λH _=>AQ (y? λ_=>⟨KL.refl h p,g⟩) (λk=>?_);simp only[V]at k;refine AA (P:=λr=>r.2.1=0->SR B x r.2.2) ?_ λr hr=>AB hr;obtain⟨id,t,I⟩:=(AI (l:=H) (i:=0) (Ag _))
 refine AY (SR B x ·.1) (λs=>flag (∃e,NX s.1.1 id e/\¬oJ s.1.1.2.2.2.1 e.2.2.2.2.2.2.1.1)) ⟨KL.refl h p,g⟩ (λs b=>?_);have j:=b.1.2.2;unfold Ui;rw[t];apply BJ;refine AA (Vf j.1 j.2) λN A_=>?_;obtain⟨k1,C,K,D_⟩:=A_;refine AQ (λz=>AB λa=>O! a (D_ z)) (λ_=>AK (y? λ_=>⟨b.1.trans k1,b.2.up k1.2.1⟩) (λq=>?_));obtain⟨e,n,u,w⟩:=C q;refine AA (II j.1 b.2) λO o=>AK (λc=>AB λa=>O! a c) (λa=>AB ⟨b.trans (o a).1.sr,?_⟩);obtain⟨m,d⟩:=o a;have G:=m.1.2.2.2.2.1;rw[xh (⟨e,n,w⟩:∃e,NX s.1.1 id e/\¬oJ s.1.1.2.2.2.1 e.2.2.2.2.2.2.1.1),xg];omega;rintro⟨f,E,F⟩;have:=n.uniq E G m.1.2.1;subst this;dsimp only at d;rw[u]at d;exact F d
end Go.Pm
