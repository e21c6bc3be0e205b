/- Texts of wip, joined and shortened by wip/tools/pack.py; nothing is assumed. -/
import Derived.Test.YtdbincbpjobdpaaGreatK10
import Derived.KernelRfl
noncomputable section
set_option linter.all false
open Option renaming some->δ,none->ε,bind->σ
open Bool renaming true->ζ,false->η
open List renaming length->θ,replicate->ς
open Go.IntKind renaming wrap->ι
open BitVec renaming ofInt->κ,toNat->π
open Sum renaming elim->ν
open Nat renaming beq->ξ
open Int renaming toNat->ο
open Decidable renaming decide->τ
namespace Go.Pm
open Go Go.Ab
set_option maxHeartbeats 400000
variable {B:Int->Prop}
def RTx(l:List Am)(id:Int)(t:Am):Prop:=∃v,Cb (l,id)=δ v/\0<=v/\l[v.toNat]?=δ t/\t.1=id
def RTx.uniq{l:List Am}{id:Int}{t u:Am}(h:RTx l id t)(g:RTx l id u):u=t:=by have⟨v,e,f,i,j⟩:=h;have⟨w,a,b,c,d⟩:=g;grind[Option.some.inj]
def NX(k:AT)(id:Int)(e:AE):Prop:=∃t lsn,RTx k.2.2.2.2.2.1 id t/\t.2.2.2.2.1[θ t.2.2.2.2.1-1]?=δ lsn/\k.2.2.1.2.1[(lsn-k.2.2.1.1).toNat]?=δ e
def NX.uniq{k m:AT}{id:Int}{e f:AE}(h:NX k id e)(g:NX m id f)(o:m.2.2.2.2.2.1=k.2.2.2.2.2.1)(c:LX k.2.2.1 m.2.2.1):f=e:=by have⟨t,n,i,j,l⟩:=h;have⟨u,w,a,b,d⟩:=g;rw[o]at a;have:=i.uniq a;subst this;rw[j]at b;cases b;have:=c.get l;rw[c.1]at d;grind[Option.some.inj]
def Ic{x:AT×Int}(h:SK B x.1):As (FQ x) λr=>r.2=0->VK x.1/\RTx x.1.2.2.2.2.2.1 x.2 r.1/\θ r.1.2.2.2.2.1<=4096/\r.1.1≠0:=by
 unfold FQ;refine AA (CA h.sb) λv i=>AO (λ_=>AB n!) (λf=>?_);have c:=i f;refine D6 (Fh h.2.1) λj e d=>AC (λ_=>AB n!) (λg=>AA (AJ o! d.2.1) λk _=>AP (λ_=>AB n!) (λ_=>AA (AJ o! d.2.1) λl b=>AB λ_=>⟨c,⟨j,e,o!,b.1,?_⟩,(c.2.2.2.2.2.1.2 _ _ b.1).1,?_⟩))
 grind[Option.some.inj];have:=(c.2.2.2.2.2.1.2 _ _ b.1).2.2;dsimp only;omega
def gN{x:AT×Int}(h:SK B x.1):As (Hi x) λr=>r.2=ζ->VK x.1/\NX x.1 x.2 r.1/\L5 r.1:=by
 unfold Hi;refine AA (Ic h) λc f=>AL (λ_=>AB λa=>by cases a) (λa=>?_);have⟨k,hr,o,_⟩:=f a;refine AP (λ_=>AB λa=>by cases a) (λj=>?_);simp only[len]at j;rw[(AZ (x:=len c.1.2.2.2.2.1-1) (by simp[len];omega))];refine AA (AJ (by simp[len];omega) (by simp[len];omega)) λp _=>AC (λ_=>AB λa=>by cases a) (λ_=>AA (AJ (by simp[len];omega) (by simp[len];omega)) λl g=>AA G3 λq i=>AB λa=>?_);have⟨d,m,e,n⟩:=i.1 (by simpa using a);refine⟨k,⟨c.1,l,hr,?_,e⟩,d⟩;have b:=g.1;have:(len c.1.2.2.2.2.1-1).toNat=θ c.1.2.2.2.2.1-1:=i!
 rw[this]at b;exact b
def kI{x:AT×Am×Cs×Int}(h:θ x.2.1.2.2.2.2.1<=16777216)(c:0<=x.2.2.2/\x.2.2.2<=θ x.2.1.2.2.2.2.1):As (PA x) λr=>r.2=ζ->L5 r.1/\r.1.2.2.2.2.2.2.1.1=x.2.2.1.1:=by unfold PA;rw[(AZ (x:=x.2.2.2-1))];refine AA (P:=λr=>∀u,r=.inl u->u.1=ζ->L5 u.2/\u.2.2.2.2.2.2.2.1.1=x.2.2.1.1) ?_ λr hr=>BG (λu a=>AB (hr u a)) (λ_ _=>AB λb=>by cases b);refine AW (λ(s:Int×AE)=> -1<=s.1/\s.1<θ x.2.1.2.2.2.2.1) (λ(s:Int×AE)=>(s.1+1).toNat) d! (λs d=>?_);unfold VY;rw[(AZ (x:=s.1-1))];refine AC (λe=>?_) (λ_=>AB λu a=>by cases a);grind[AA,AJ,G3,AP,AB]
def Se{x:AT×Int×Cs}(h:SK B x.1):As (Kg x) λr=>r.2=ζ->VK x.1/\L5 r.1/\r.1.2.2.2.2.2.2.1.1=x.2.2.1:=by refine AA (Ic h) λf b=>AL (λ_=>AB λa=>by cases a) (λa=>AL (λ_=>AB λa=>by cases a) (λ_=>?_));have⟨d,_,e,_⟩:=b a;exact AA (kI d! ⟨by simp[len],by simp[len]⟩) λg c=>AB λa=>⟨d,c a⟩
def ZC{x:Du}:As (Jt x) λr=>r=(x.1,x.2.1,x.2.2.2,x.2.2.1):=by grind[Jt,AB]
def Us{x:AT×Am×AE}(h:SK B x.1)(t:Do x.1.2.2.1)(u:PN x.1.2.2.2.1)(A:L5 x.2.2)(v:x.2.1.1≠0):As (GN x) λr=>KL B x.1 r.1/\(r.2.1=3->r.2.2.2.1=x.2.2.2.2.2.2.2.2.1.1/\¬nU x.1.2.2.2.1 x.2.2.2.2.2.2.2.2.1.1/\r.1=x.1)/\(r.2.1≠3->r.2.1≠5->r.2.2.1≠0/\TP r.1.2.2.2.2.2.1<TP x.1.2.2.2.2.2.1)/\(r.2.1=5->r.2.2.2.2.2≠0):=by unfold GN;have F:=KL.refl h t;refine AA Ip λG i=>AO (λl=>AB ⟨F,λ_=>⟨rfl,i.2 l u,rfl⟩,λa=>N! rfl a,λa=>N! a (by show(3:Int)≠5;decide)⟩) (λc=>AA ZC λH w=>?_);subst w;refine AA Tq λI j=>AL (λl=>?_) (λo=>?_);grind[AA,jP,AB];refine AA (VX h t A.cell (.inr rfl) u (i.1 c).2.2.1 λg D e=>by have⟨_,_,_,m,f,C,d⟩:=i.1 c;rw[h.ki.same C D (by rw[e,d,m]),d];exact(j.1 o).2) λp q=>AL (λl=>?_) (λa=>?_);grind[AA,jP,AB];have E:=(q.2 a).2.2.1 v (by show(2:Int)≠1;decide);have n:=E.1 (by show(2:Int)≠4;decide);have b:KL B x.1 p.1:=q.1;refine AA (P:=λk=>KL B x.1 k/\k.2.2.2.2.2.1=p.1.2.2.2.2.2.1) ?_ λM s=>AB ⟨s.1,λa=>N! a (by show(1:Int)≠3;decide),λ_ _=>⟨v,by rw[s.2];exact n⟩,λa=>N! a (by show(1:Int)≠5;decide)⟩;refine AK (λ_=>?_) (λ_=>AB ⟨b,rfl⟩);refine AA (Se b.2.2.1) λJ _=>AA (P:=λk=>KL B x.1 k/\k.2.2.2.2.2.1=p.1.2.2.2.2.2.1) ?_ λL z=>AB z;refine AO (λ_=>?_) (λ_=>AB ⟨b,rfl⟩);exact AA (Ul b.2.2.1.1) λK y=>AB ⟨⟨b.1,b.2.1,b.2.2.1.locks y,b.2.2.2⟩,rfl⟩
def Ur{x:AT×Int}(h:SK B x.1)(m:Do x.1.2.2.1):As (Jb x) λr=>KL B x.1 r.1/\(r.2.1=3->∃e,NX x.1 x.2 e/\r.2.2.2.1=e.2.2.2.2.2.2.1.1/\¬nU x.1.2.2.2.1 e.2.2.2.2.2.2.1.1)/\(r.2.1≠3->r.2.1≠5->TP r.1.2.2.2.2.2.1<TP x.1.2.2.2.2.2.1)/\(r.2.1=5->r.2.2.2.2.2≠0):=by
 unfold Jb;have D:=KL.refl h m;refine AA (Ic h) λA q=>AL (λi=>?_) (λd=>?_);grind[AA,jP,AB];have⟨y,hr,n,o⟩:=q d;have f:As (σ (Hi x) λk=>
  bif (!k.2)then
   σ (BL 14) λC=>
   δ (x.1,C)
  else
  σ (GN (x.1,A.1,k.1)) λp=>
  δ p) λr=>KL B x.1 r.1/\(r.2.1=3->∃e,NX x.1 x.2 e/\r.2.2.2.1=e.2.2.2.2.2.2.1.1/\¬nU x.1.2.2.2.1 e.2.2.2.2.2.2.1.1)/\(r.2.1≠3->r.2.1≠5->TP r.1.2.2.2.2.2.1<TP x.1.2.2.2.2.2.1)/\(r.2.1=5->r.2.2.2.2.2≠0):=by
  refine AA (gN h) λk u=>AO (λ_=>?_) (λi=>?_);grind[AA,jP,AB];have⟨_,hn,w⟩:=u i;refine AA (Us h m y.2.2.2.1 w o) λp g=>AB ⟨g.1,λd=>?_,λa b=>(g.2.2.1 a b).2,g.2.2.2⟩;have⟨a,b,_⟩:=g.2.1 d;exact⟨_,hn,a,b⟩
 refine AP (λ_=>?_) (λ_=>f);refine AP (λ_=>?_) (λ_=>f);refine AA (F4 h.sb) λE s=>AL (λi=>?_) (λd=>?_);grind[AA,jP,AB];have l:=(s d).2.1;have z:=(l.2.2.2.2.2.1.2.2.1 (by have⟨v,_,_,_,j⟩:=hr;rw[<-j];exact o) (by show(5:Int)≠1;decide)).1 (by show(5:Int)≠4;decide);have c:=l.kl h u!;exact AA (MA c.2.2.1.1) λF t=>AB ⟨⟨c.1,c.2.1,c.2.2.1.locks t,c.2.2.2⟩,λd=>N! d (by show(1:Int)≠3;decide),λ_ _=>z,λd=>N! d (by show(1:Int)≠5;decide)⟩
def gM{x:AT×Int×Cs}(h:SK B x.1)(f:Do x.1.2.2.1):As (Mg x) λr=>KL B x.1 r.1/\(r.2.1=3->r.2.2.2.1=x.2.2.1/\¬nU x.1.2.2.2.1 x.2.2.1/\r.1=x.1)/\(r.2.1≠3->r.2.1≠5->r.2.2.1≠0->TP r.1.2.2.2.2.2.1<TP x.1.2.2.2.2.2.1):=by unfold Mg;have o:=KL.refl h f;refine AA (Ic h) λp i=>AL (λ_=>?_) (λc=>?_);grind[AA,B3,AB];have⟨m,hr,g,n⟩:=i c;refine AL (λ_=>?_) (λ_=>?_);grind[AA,B3,AB];refine AA (Se h) λq j=>AO (λ_=>AB ⟨o,λc=>N! c (by show(1:Int)≠3;decide),λ_ _ c=>N! rfl c⟩) (λk=>?_);have⟨_,l,e⟩:=j k;refine AA (Us h f m.2.2.2.1 l n) λs d=>AB ⟨d.1,λc=>?_,λa b _=>(d.2.2.1 a b).2⟩;have:=d.2.1 c;dsimp only at this;rw[e]at this;exact this
def Rh{x:AV×Int}(h:SK B x.1.1):As (ES x) λr=>True:=by unfold ES;refine AA (Fh h.2.1) λc a=>AC (λb=>?_) (λ_=>AB trivial);grind[AA,AJ,AB]
end Go.Pm
namespace Go.Pm
open Go Go.Ab
set_option maxHeartbeats 400000
variable {B:Int->Prop}
def SR(B:Int->Prop)(x s:AV):Prop:=KL B x.1 s.1/\DJ B s.1.2.2.1 s.2
def SR.trans{a b c:AV}(h:SR B a b)(g:SR B b c):SR B a c:=⟨h.1.trans g.1,g.2⟩
def SvR.sr{a b:AV}(h:SvR B a b):SR B a b:=⟨h.1.kl,h.2⟩
open Classical in
noncomputable def flag(p:Prop):Nat:=if p then 1 else 0
theorem ABQ(p:Prop):flag p<=1:=by unfold flag;split<;>omega
def w7{p:Prop}(h:p):flag p=1:=by unfold flag;rw[C! h]
def w6{p:Prop}(h:¬p):flag p=0:=by grind[flag]
def Yg{x:AV×Int}(h:SK B x.1.1)(C:Do x.1.1.2.2.1)(A:DJ B x.1.1.2.2.1 x.1.2):As (Ek x) λr=>r.2=0->SR B x.1 r.1:=by unfold Ek;refine AA (CA h.sb) λv E=>AO (λ_=>AB n!) (λm=>AA (Fh h.2.1) λH _=>AC (λ_=>AB n!) (λ_=>AA (P:=λr=>(∀u,r=.inl u->u.1≠0)/\∀u,r=.inr u->SR B x.1 u.1) ?_ λr hr=>BG (λu a=>AB λb=>N! b (hr.1 u a)) (λu a=>AB λ_=>hr.2 u a)));refine AW (λ(s:AV×AV)=>SR B x.1 s.1) (λ(s:AV×AV)=>2*TP s.1.1.2.2.2.2.2.1+flag (∃e,NX s.1.1 x.2 e/\¬nU s.1.1.2.2.2.1 e.2.2.2.2.2.2.1.1)) ⟨KL.refl h C,A⟩ (λs c=>?_);unfold QC;have d:=c.1.2.2;refine AA (Rh d.1) λI _=>AK (λ_=>?_) (λ_=>AB ⟨λu a=>(by cases a),λu a=>(by cases a;exact c)⟩);refine AA (Ur d.1 d.2) λJ z=>?_;have⟨k1,D,F,G⟩:=z;apply AP<;>intro i;grind[AB];refine AA (P:=λr=>(∃u,r=.inl u/\u.1≠0)\/∃u,r=.inr u/\SR B s.1 u.1/\2*TP u.1.1.2.2.2.2.2.1+flag (∃e,NX u.1.1 x.2 e/\¬nU u.1.1.2.2.2.1 e.2.2.2.2.2.2.1.1)<2*TP s.1.1.2.2.2.2.2.1+flag (∃e,NX s.1.1 x.2 e/\¬nU s.1.1.2.2.2.1 e.2.2.2.2.2.2.1.1)) ?_ λr hr=>?_;apply AP<;>intro o;have⟨e,k,p,q⟩:=D o;refine AA (Hj d.1 c.2) λK i=>AL (λm=>AB (.inl ⟨_,rfl,m⟩)) (λb=>AB (.inr ⟨_,rfl,(i b).1.sr,?_⟩));have⟨l,g⟩:=i b;have n:=l.1.2.2.2.2.1;rw[w7 (⟨e,k,q⟩:∃e,NX s.1.1 x.2 e/\¬nU s.1.1.2.2.2.1 e.2.2.2.2.2.2.1.1),w6,n];dsimp only;omega;rintro⟨f,t,y⟩;have:=k.uniq t n l.1.2.1;subst this;dsimp only at g;rw[p]at g;exact y g;refine AB (.inr ⟨_,rfl,⟨k1,c.2.up k1.2.1⟩,?_⟩);grind[ABQ,nU];rcases hr with⟨u,rfl,a⟩|⟨u,rfl,a⟩;refine BK (AB ⟨λw j=>?_,λw j=>(by cases j)⟩);cases j;exact a;exact A4 (AB ⟨c.trans a.1,a.2⟩)
def kK{x:AV×Int×Cw}(h:SK B x.1.1)(K:Do x.1.1.2.2.1)(J:DJ B x.1.1.2.2.1 x.1.2):As (PD x) λr=>SR B x.1 r.1/\(r.2.1=2->r.1.1.2.2.2.2.2.1=x.1.1.2.2.2.2.2.1):=by
 unfold PD;refine AA (P:=λr=>SR B x.1 r.1/\(r.2.1=2->r.1.1.2.2.2.2.2.1=x.1.1.2.2.2.2.2.1)) ?_ λr hr=>AB hr;refine AW (λ(s:AV×AV×BY)=>SR B x.1 s.1/\s.1.1.2.2.2.2.2.1=x.1.1.2.2.2.2.2.1) (λ(s:AV×AV×BY)=>flag (¬nU s.1.1.2.2.2.1 x.2.2.2.1)) ⟨⟨KL.refl h K,J⟩,rfl⟩ (λs l=>?_);obtain⟨l,o⟩:=l;have y:=l.1.2.2;unfold Vc;refine AA (kH y.1 y.2) λf E=>?_;obtain⟨k1,L,z⟩:=E;have j:SR B x.1 (f.1,s.1.2):=⟨l.1.trans k1,l.2.up k1.2.1⟩
 have g:=k1.2.2;apply AP<;>intro q;obtain⟨a,b,c⟩:=L q;have d:=z (.inr q);refine AA (Hj g.1 j.2) λT F=>AL (λ_=>?_) (λi=>AB ?_);refine AA B3 λU R=>AB ⟨j,λ_=>?_⟩;dsimp only at*;rw[d,o];obtain⟨t,v⟩:=F i;refine⟨⟨j.trans t.sr,?_⟩,?_⟩;have:=t.1.2.2.2.2.1;dsimp only at*;rw[this,d,o];dsimp only at*;rw[w7 b,w6];omega;intro hn;rw[a]at v;exact hn v;have k:∀(Q:Step (AV×(AV×BY)) (AV×BY)->Prop),(∀r:AV×BY,SR B x.1 r.1/\(r.2.1=2->r.1.1.2.2.2.2.2.1=x.1.1.2.2.2.2.2.1)->Q (.done r))->∀c:Int,c≠2->f.2.1=c->As (σ (ES ((f.1,s.1.2),x.2.1)) λA=>
  σ ((
    bif A then
     σ (Ek ((f.1,s.1.2),x.2.1)) λn=>
     bif (n.2 !=0)then
      σ (BL n.2) λC=>
      δ (.inl ((f.1,s.1.2),C))
     else
     δ (.inr (n.1,s.2))
    else
    δ (.inr ((f.1,s.1.2),s.2))):(Option ((AV×BY)⊕(AV×(AV×BY))))) λO=>
  ν (λM=>δ (Step.done M))
  (λN=>δ (.done (N.1,f.2))) O) Q:=by
  intro Q w c S I;refine AA (Rh g.1) λA _=>AA (P:=λr=>(∃u,r=.inl u/\SR B x.1 u.1/\u.2.1=5)\/∃u,r=.inr u/\SR B x.1 u.1) ?_ λr hr=>?_;refine AK (λ_=>?_) (λ_=>AB (.inr ⟨_,rfl,j⟩));refine AA (Yg g.1 g.2 j.2) λn G=>AL (λ_=>?_) (λi=>AB (.inr ⟨_,rfl,j.trans (G i)⟩));exact AA B3 λC H=>AB (.inl ⟨_,rfl,j,H⟩);rcases hr with⟨u,rfl,m⟩|⟨u,rfl,m⟩;exact BK (AB (w _ ⟨m.1,λi=>by have:=m.2;omega⟩));exact A4 (AB (w _ ⟨m,λi=>by dsimp only at i;omega⟩))
 have e:SR B x.1 (f.1,s.1.2)/\(f.2.1=2->f.1.2.2.2.2.2.1=x.1.1.2.2.2.2.2.1):=⟨j,λi=>by rw[z (.inl i),o]⟩
 refine AP (λD=>k _ (λr hr=>hr) 4 g! D) (λ_=>AP (λp=>?_) (λ_=>AB e));refine AP (λ_=>k _ (λr hr=>hr) 1 g! p) (λ_=>AP (λ_=>k _ (λr hr=>hr) 1 g! p) (λ_=>AB e))
def dX{x:AT}(h:SK B x)(d:Do x.2.2.1):As (Lh x) λr=>r.2.2=0->KL B x r.1:=by unfold Lh;refine AA (CA h.sb) λv e=>AO (λ_=>AB n!) (λb=>AC (λ_=>AB n!) (λ_=>AA Tu λf c=>AL (λb=>AB λa=>N! a b) (λa=>AB λ_=>⟨rfl,LX.refl _,⟨h.1,?_,h.2.2⟩,d⟩)));have:=(c a).2;dsimp only;omega
def dh{x:AV}(h:SK B x.1)(e:Do x.1.2.2.1)(d:DJ B x.1.2.2.1 x.2):As (Ln x) λr=>r.2.2=0->SR B x r.1:=by unfold Ln;refine AA (dX h e) λf b=>AL (λc=>AB λa=>N! a c) (λa=>AB λ_=>⟨b a,d.up (b a).2.1⟩)
def dY{x:AT×Int}(h:SK B x.1)(n:Do x.1.2.2.1):As (Li x) λr=>r.2.2=0->KL B x.1 r.1/\PN x.1.2.2.2.1/\nU x.1.2.2.2.1 x.2/\(∃f∈r.1.2.2.2.1.2.1,f.1=r.2.1)/\r.2.1.2.1<=r.1.2.2.1.2.2:=by
 unfold Li;refine AA (CA h.sb) λv q=>AO (λ_=>AB n!) (λp=>AA Ip λs o=>AO (λ_=>AB n!) (λj=>?_));have⟨a,b,c,d,e⟩:=o.1 j;refine AA (Jx h n) λt i=>AB λ_=>⟨i.1.kl,a,c,by dsimp only;rw[i.2.1];exact e,i.2.2 ?_⟩
 have⟨f,m,k⟩:=e;have g:=h.ki.2.2 f m;have:=E! (λz=>z.2.1) ((h.ki.2.1 f.1.1 g.1 g.2.1).1 f m rfl);have:=lP n f.1.1;rw[KB,k]at*;dsimp only;omega
def dj{x:AV×Int}(h:SK B x.1.1)(j:Do x.1.1.2.2.1)(i:DJ B x.1.1.2.2.1 x.1.2):As (Lq x) λr=>r.2=0->SR B x.1 r.1:=by unfold Lq;refine AA (dY h j) λn l=>AL (λm=>AB λe=>N! e m) (λe=>?_);have⟨a,b,c,d,k⟩:=l e;refine AA Fg λo f=>AA (AJ (f.2.2.2 b c) f.2.1) λp _=>AO (λ_=>AB λ_=>⟨KL.refl h j,i⟩) (λ_=>AA (Tz a.2.2.1 a.2.2.2 (i.up a.2.1) d k) λq g=>AB λe=>⟨a.trans (g e).1.kl,(g e).2.1⟩)
end Go.Pm
namespace Go.Pm
open Go Go.Ab
set_option maxHeartbeats 400000
def VDs(l:List Ah)(p:Int):Prop:=∀(i:Nat)(d:Ah),l[i]?=δ d->((i:Int)<=d.1/\d.1<p/\1<=d.2.1/\d.2.1<=d.2.2/\d.2.2<=1099511627776)/\∀f,0<i->l[i-1]?=δ f->f.1<d.1
def VIs(x:Bu):Prop:=1<=θ x/\θ x<=64/\∀r∈x,(0<=r.1/\r.1<=1099511627776)/\(0<=r.2.1/\r.2.1<=1099511627776)/\0<=r.2.2/\r.2.2<=1099511627776
def VDs.len{l:List Ah}{p:Int}(h:VDs l p)(b:p<=64):θ l<=64:=by refine TW λa=>?_;have:=(h (θ l-1) _ (Ar o!)).1;omega
def AKA{l:List Ah}{p:Int}(A:θ l<=16777216):As (FO (l,p)) λr=>r=ζ->VDs l p:=by
 refine AA (P:=λr=>r=.inl η\/(r=.inr ()/\VDs l p)) ?_ λr hr=>?_
 ·refine Cp (λ(s:Int)=>0<=s/\s<=θ l/\∀(i:Nat)(d:Ah),(i:Int)<s->l[i]?=δ d->((i:Int)<=d.1/\d.1<p/\1<=d.2.1/\d.2.1<=d.2.2/\d.2.2<=1099511627776)/\∀f,0<i->l[i-1]?=δ f->f.1<d.1) (λs=>((θ l:Int)-s).toNat) ⟨Af _,o!,λi d y=>o!⟩ (λs w=>?_);have⟨t,B,m⟩:=w;unfold Gx;dsimp[len];refine AC (λn=>?_) (λn=>As.done (.inr ⟨rfl,λi d a=>m i d (by have:=C1 a;omega) a⟩));obtain⟨k,rfl⟩:=EE t;refine AA (AJ t n) λv g=>?_;have g:=g.1;rw[Cz]at g;refine AC (λ_=>As.done (.inl rfl)) (λq1=>AC (λ_=>As.done (.inl rfl)) (λq2=>AC (λ_=>As.done (.inl rfl)) (λq3=>AC (λ_=>As.done (.inl rfl)) (λq4=>AC (λ_=>As.done (.inl rfl)) (λq5=>?_)))));rw[AZ (x:=(k:Int)+1)];have b:((k:Int)<=v.1/\∀f,0<k->l[k-1]?=δ f->f.1<v.1)->∀(i:Nat)(d:Ah),(i:Int)<(k:Int)+1->l[i]?=δ d->((i:Int)<=d.1/\d.1<p/\1<=d.2.1/\d.2.1<=d.2.2/\d.2.2<=1099511627776)/\∀f,0<i->l[i-1]?=δ f->f.1<d.1:=λq i d y a=>by by_cases h:i=k;subst h;rw[g]at a;cases a;exact⟨⟨q.1,o!⟩,q.2⟩;exact m i d o! a
  refine AC (λe=>?_) (λe=>As.next ⟨o!,o!,b ⟨o!,λf u=>N! u o!⟩⟩ o!);rw[AZ (x:=(k:Int)-1)];refine AA (AJ) λz c=>?_;have c:=c.1;rw[show((k:Int)-1).toNat=k-1 by omega]at c;refine AC (λ_=>As.done (.inl rfl)) (λq6=>?_);have j:=(m (k-1) z o! c).1.1;refine As.next ⟨o!,o!,b ⟨o!,λf _ o=>?_⟩⟩ o!
  rw[c]at o;cases o;omega
 grind[BK,AB,A4]
def AEG{x:Int}:As (Gr x) λr=>r=ζ->0<=x/\x<=1099511627776:=by refine AC (λh=>AB λa=>⟨o!,M! a⟩) (λ_=>AB λa=>by cases a)
def AIc{x:Bu}:As (D3 x) λr=>r=ζ->VIs x:=by
 refine AC (λ_=>AB λa=>by cases a) (λd=>AC (λ_=>AB λa=>by cases a) (λe=>?_));simp[len]at d e;refine AA (P:=λr=>r=.inl η\/(r=.inr ()/\VIs x)) ?_ λr hr=>?_
 ·refine Cp (λ(s:Int)=>0<=s/\s<=θ x/\∀r∈x.take s.toNat,(0<=r.1/\r.1<=1099511627776)/\(0<=r.2.1/\r.2.1<=1099511627776)/\0<=r.2.2/\r.2.2<=1099511627776) (λs=>((θ x:Int)-s).toNat) ⟨Af _,o!,λr hr=>by simp at hr⟩ (λs g=>?_);have⟨i,p,c⟩:=g;unfold JN;dsimp[len];refine AC (λb=>?_) (λb=>As.done (.inr ⟨rfl,o!,o!,by rw[BP o!]at c;exact c⟩));refine AA (AJ i b) λv h=>AA AEG λj m=>AO (λ_=>As.done (.inl rfl)) (λq=>AA AEG λk n=>AO (λ_=>As.done (.inl rfl)) (λt=>AA AEG λl o=>AO (λ_=>As.done (.inl rfl)) (λu=>?_)));rw[AZ (x:=s+1)];have f:∀r∈x.take (s+1).toNat,(0<=r.1/\r.1<=1099511627776)/\(0<=r.2.1/\r.2.1<=1099511627776)/\0<=r.2.2/\r.2.2<=1099511627776:=λr hr=>by rw[show(s+1).toNat=s.toNat+1 by omega,Co,h.1]at hr;grind
  grind[AP,As.next,AL,As.done]
 grind[BK,AB,A4]
def VCk(c:CZ):Prop:=1<=c.1/\c.1<=64/\1<=c.2.1/\c.2.1<=1073741825/\VDs c.2.2.2.1 c.1/\VIs c.2.2.2.2/\θ c.2.2.2.2=c.1
def AJr{c:CZ}(d:θ c.2.2.2.1<=16777216):As (G5 c) λr=>r=ζ->VCk c:=by refine AC (λ_=>AB λa=>by cases a) (λf=>AC (λ_=>AB λa=>by cases a) (λg=>AC (λ_=>AB λa=>by cases a) (λh=>AC (λ_=>AB λa=>by cases a) (λi=>AA Dz λo b=>AO (λ_=>AB λa=>by cases a) (λe=>AA (AKA d) λp j=>AO (λ_=>AB λa=>by cases a) (λl=>AA AIc λq k=>AO (λ_=>AB λa=>by cases a) (λm=>AL (λ_=>AB λa=>by cases a) (λn=>AA (Qm ⟨Af _,o!,by have:=(b e).1;omega⟩) λr hr=>?_))))))));grind[VCk,BG,AB]
def dB(d:Ah):BX:=C8 d.1 1++(C8 d.2.1 8++C8 d.2.2 8)
def rB(r:Bi):BX:=C8 r.1 8++(C8 r.2.1 8++C8 r.2.2 8)
def vU(l:List Ah):BX:=(l.map dB).flatten
def rI(l:List Bi):BX:=(l.map rB).flatten
def AHu(d:Ah):(dB d).length=17:=rfl
def AIS(r:Bi):(rB r).length=24:=rfl
def ADq(l:List Ah)(d:Ah):vU (l++[d])=vU l++dB d:=by grind[vU,List.flatten_append]
def AEr(l:List Bi)(d:Bi):rI (l++[d])=rI l++rB d:=by grind[rI,List.flatten_append]
def yP(l:List Ah)(d:Ah):vU (d::l)=dB d++vU l:=rfl
theorem zI(l:List Bi)(d:Bi):rI (d::l)=rB d++rI l:=rfl
theorem lL:∀l:List Ah,(vU l).length=17*θ l
 |[]=>rfl
 |d::l=>by rw[yP,AY,AHu,lL l,Ba];omega
theorem sF:∀l:List Bi,(rI l).length=24*θ l
 |[]=>rfl
 |d::l=>by rw[zI,AY,AIS,sF l,Ba];omega
def i8r{n:Int}(a:0<=n)(b:n<=1099511627776):bR 8 n:=⟨n!,o!⟩
def i1r{n:Int}(a:0<=n)(b:n<256):bR 1 n:=⟨λ_=>q!,o!⟩
def i2r{n:Int}(a:0<=n)(b:n<65536):bR 2 n:=⟨λ_=>q!,o!⟩
def i4r{n:Int}(a:0<=n)(b:n<4294967296):bR 4 n:=⟨λ_=>q!,o!⟩
def AF1{x:Bu}(h:VIs x):As (ID x) λr=>r.1=C8 (θ x:Int) 2++rI x\/r.1=[]:=by
 have⟨c,d,e⟩:=h;refine AA AIc λi b=>AO (λ_=>AB (.inr rfl)) (λ_=>?_);rw[Hq k! g! g!,AD,B4];refine AA (P:=λr=>r=C8 (θ x:Int) 2++rI x) (Cp (λ(s:BX×Int)=>∃k:Nat,k<=θ x/\s=(C8 (θ x:Int) 2++rI (x.take k),(k:Int))) (λs=>θ x-s.2.toNat) ⟨0,Bc _,by simp[rI]⟩ ?_) λr hr=>AB (.inl hr);rintro s ⟨k,f,rfl⟩;unfold Ib;dsimp[len];refine AC (λa=>?_) (λa=>As.done q!);have g:(C8 (θ x:Int) 2++rI (x.take k)).length<=2000:=by grind[List.length_append,A0,sF,List.length_take]
 rw[(by unfold ix;rw[C! o!,Int.toNat_natCast,List.getElem?_eq_getElem o!]:ix x (k:Int)=δ x[k]),Option.bind_some,Hq o! g! g!,Option.bind_some,Option.bind_some,Hq (by rw[List.length_append,A0];simp only[Int.reduceToNat];omega) g! g!,Option.bind_some,Option.bind_some,Hq (by rw[List.length_append,List.length_append,A0,A0];simp only[Int.reduceToNat];omega) g! g!,Option.bind_some,AZ];refine As.next ⟨k+1,o!,?_⟩ o!
 rw[(by simp_all:x.take (k+1)=x.take k++[x[k]]),AEr];simp only[A5];exact Ck rfl o!
def AFw{x:Bu}(h:VIs x):As (Ef (C8 (θ x:Int) 2++rI x)) λr=>r.2=0->r.1=x:=by
 have⟨t,u,i⟩:=h;have y:(C8 (θ x:Int) 2++rI x).length=2+24*θ x:=by rw[AY,A0,sF]
 unfold Ef;have d:=(kM (x:=C8 (θ x:Int) 2++rI x) (p:=[]) (rest:=rI x) (at_:=0) (k:=2) (n:=(θ x:Int)) rfl rfl o! g! g! (i2r o! o!)).1;rw[show(((2:Nat)):Int)=2 from rfl]at d;rw[d,AD];have m:wi (len (C8 (θ x:Int) 2++rI x)-2)=24*(θ x:Int):=by grind[AZ]
 have o:wi (24*((θ x:Int),(0:Int)).1)=24*(θ x:Int):=AZ q!;rw[show((((θ x:Int),(0:Int)):Int×Int).2 !=0)=η from rfl,A!,F! o!,A!,F! o!,A!];refine AA (P:=λr=>r=x) ?_ λr hr=>?_
 ·refine Cp (λ(s:Int×List Bi)=>∃k:Nat,k<=θ x/\s=((k:Int),x.take k)) (λs=>θ x-s.1.toNat) ⟨0,Bc _,rfl⟩ ?_;rintro s ⟨k,w,rfl⟩;unfold Ia;dsimp only;refine AC (λl=>?_) (λl=>As.done (by rw[BP o!]));have b:k<θ x:=o!
  have a:(rI (x.take k)).length=24*k:=by grind[sF,List.length_take]
  have c:C8 (θ x:Int) 2++rI x=(C8 (θ x:Int) 2++rI (x.take k))++(C8 x[k].1 8++(C8 x[k].2.1 8++(C8 x[k].2.2 8++rI (x.drop (k+1))))):=by rw[(by grind[zI,List.drop_eq_getElem_cons,rI,List.flatten_append,List.take_append_drop]:rI x=rI (x.take k)++(rB x[k]++rI (x.drop (k+1))))];unfold rB;simp[A5]
  have⟨q1,q2,q3⟩:=i x[k] (Jl b);have e:=(kM (at_:=2+24*(k:Int)) (k:=8) c (by rw[AY,A0,a];omega) o! g! g! (i8r q1.1 q1.2)).1;rw[<-A5]at c;have f:=(kM (at_:=10+24*(k:Int)) (k:=8) c (by simp[AY,A0,a];omega) o! g! g! (i8r q2.1 q2.2)).1;rw[<-A5]at c;have g:=(kM (at_:=18+24*(k:Int)) (k:=8) c (by simp[AY,A0,a];omega) o! g! g! (i8r q3.1 q3.2)).1;rw[show(((8:Nat)):Int)=8 from rfl]at e f g;rw[AZ (x:=24*(k:Int)),AZ (x:=2+24*(k:Int)),AZ (x:=10+24*(k:Int)),AZ (x:=18+24*(k:Int)),e,AD,f,AD,g,AD,AZ (x:=(k:Int)+1)];refine AA (Ad (by rw[BR];simp;omega)) λz j=>As.next ⟨k+1,b,?_⟩ d!
  rw[j.1,(by simp_all:x.take (k+1)=x.take k++[x[k]])];exact Ck d! rfl
 subst hr;exact AA AIc λA v=>AO (λ_=>AB λq=>N! (show(28:Int)=0 from q) g!) (λ_=>AB λ_=>rfl)
def AF2{c:CZ}(l:θ c.2.2.2.1<=16777216):As (Gd c) λr=>θ r.1<=8192->r.1=[]\/(VCk c/\∃b g:BX,r.1=C8 c.1 2++(C8 c.2.1 4++(C8 (θ b:Int) 4++(b++(C8 (θ c.2.2.2.1:Int) 1++(vU c.2.2.2.1++g)))))/\(g=C8 (θ c.2.2.2.2:Int) 2++rI c.2.2.2.2\/g=[])):=by
 unfold Gd;refine AA (AJr l) λB n=>AO (λ_=>AB λ_=>.inl rfl) (λe=>?_);have m:=n e;have⟨a1,a2,a3,a4,a5,a6,a7⟩:=id m;have t:=a5.len a2;refine AA Sb λx z=>?_;rw[Hq k! g! g!,AD,B4,Hq (by rw[A0];decide) g! g!,AD,Hq (by simp only[AY,A0];decide) g! g!,AD];refine AA (CE (by simp[AY,A0,Int.reduceToNat];omega)) λj q=>?_;have w:=q.2;simp[AY,A0,Int.reduceToNat]at w;dsimp[len];rw[Hq o! g! g!,AD];refine AA (P:=λr=>r=j++(C8 (θ c.2.2.2.1:Int) 1++vU c.2.2.2.1)) ?_ λh o=>?_
 ·refine Cp (λ(s:BX×Int)=>∃k:Nat,k<=θ c.2.2.2.1/\s=(j++(C8 (θ c.2.2.2.1:Int) 1++vU (c.2.2.2.1.take k)),(k:Int))) (λs=>θ c.2.2.2.1-s.2.toNat) ⟨0,Bc _,by simp[vU]⟩ ?_;rintro s ⟨k,A,rfl⟩;unfold Ie;dsimp[len];refine AC (λe=>?_) (λe=>As.done q!);have a:k<θ c.2.2.2.1:=o!
  have u:ix c.2.2.2.1 (k:Int)=δ c.2.2.2.1[k]:=by unfold ix;rw[C! o!,Int.toNat_natCast,List.getElem?_eq_getElem a]
  have l:(j++(C8 (θ c.2.2.2.1:Int) 1++vU (c.2.2.2.1.take k))).length<=100000000:=by grind[List.length_append,A0,lL,List.length_take]
  rw[u,AD,Hq o! g! g!,AD,AD,Hq (by rw[AY,A0];simp only[Int.reduceToNat];omega) g! g!,AD,AD,Hq (by rw[AY,AY,A0,A0];simp only[Int.reduceToNat];omega) g! g!,AD,AZ];refine As.next ⟨k+1,a,?_⟩ q!
  have f:c.2.2.2.1.take (k+1)=c.2.2.2.1.take k++[c.2.2.2.1[k]]:=t!
  rw[f,ADq];unfold dB;grind[List.append_assoc,Prod.ext]
 refine AA (SZ.and (AF1 a6)) λi d=>?_;have v:θ h<=100000000:=by grind[List.length_append,A0,lL]
 refine AA (CE o!) λy p=>AB λ_=>.inr ⟨m,x.1,i.1,?_,d.2⟩;grind[List.append_assoc]
def AFx{c:CZ}(Q:VCk c){b l s:BX}(J:s=C8 c.1 2++(C8 c.2.1 4++(C8 (θ b:Int) 4++(b++(C8 (θ c.2.2.2.1:Int) 1++(vU c.2.2.2.1++l))))))(X:θ s≤8192)(v:l=C8 (θ c.2.2.2.2:Int) 2++rI c.2.2.2.2∨l=[]):
  As (DE s) λr=>r.2=0->r.1.1=c.1/\r.1.2.2.2.1=c.2.2.2.1/\r.1.2.2.2.2=c.2.2.2.2:=by
 obtain⟨a1,a2,a3,a4,a5,a6,a7⟩:=id Q;have O:=a5.len a2;have d:=J;have y:=E! θ J;simp only[AY,A0,lL]at y;have F:=(kM (x:=s) (p:=[]) (at_:=0) (k:=2) (n:=c.1) (show s=[]++(C8 c.1 2++_)from d) rfl o! g! g! (i2r o! o!)).1;have G:=(kM (at_:=2) (k:=4) (n:=c.2.1) d (by rw[A0];rfl) o! g! g! (i4r o! o!)).1;rw[<-A5]at d;have H:=(kM (at_:=6) (k:=4) (n:=(θ b:Int)) d (by rw[AY,A0,A0];rfl) o! g! g! (i4r o! o!)).1;rw[<-A5,<-A5]at d;have I:=(kM (at_:=10+(θ b:Int)) (k:=1) (n:=(θ c.2.2.2.1:Int)) d (by simp only[AY,A0];omega) o! g! g! (i1r o! o!)).1;rw[<-A5]at d;rw[show(((2:Nat)):Int)=2 from rfl]at F;rw[show(((4:Nat)):Int)=4 from rfl]at G H;rw[show(((1:Nat)):Int)=1 from rfl]at I;have w:((((C8 c.1 2++C8 c.2.1 4)++C8 (θ b:Int) 4)++b)++C8 (θ c.2.2.2.1:Int) 1).length=11+θ b:=by simp only[AY,A0];omega
 generalize V:(((C8 c.1 2++C8 c.2.1 4)++C8 (θ b:Int) 4)++b)++C8 (θ c.2.2.2.1:Int) 1=P at d w;unfold DE;rw[F,AD,G,AD,H,AD];dsimp only[len];rw[show((0:Int) !=0)=η by decide,A!,AZ (x:=(θ s:Int)-10),F! o!,A!,AZ (x:=10+(θ b:Int))];refine AA (CY g!) λY L=>?_;rw[I,AD];dsimp only;rw[show((0:Int) !=0)=η by decide,A!,AZ (x:=(θ s:Int)-(10+(θ b:Int))),AZ (x:=(θ s:Int)-(10+(θ b:Int))-1),AZ (x:=17*(θ c.2.2.2.1:Int)),F! o!,A!,AZ (x:=10+(θ b:Int)+1)];refine AA (P:=λr=>r=((θ P:Int)+17*θ c.2.2.2.1,c.2.2.2.1,c.1,c.2.1,[],[])) ?_ λR m=>?_
 ·refine Cp (λ(q:Int×Int×List Ah×Int×Int×List Am×Bu)=>∃k:Nat,k<=θ c.2.2.2.1/\q=((θ P:Int)+17*k,(k:Int),c.2.2.2.1.take k,c.1,c.2.1,[],[])) (λq=>θ c.2.2.2.1-q.2.1.toNat) ⟨0,Bc _,?_⟩ ?_;refine Ck ?_ rfl;dsimp only;omega;rintro q ⟨k,W,rfl⟩;unfold MH;dsimp only;refine AC (λN=>?_) (λN=>As.done (by rw[BP o!,show k=θ c.2.2.2.1 by omega]));have e:k<θ c.2.2.2.1:=o!
  have z:vU c.2.2.2.1=vU (c.2.2.2.1.take k)++(dB c.2.2.2.1[k]++vU (c.2.2.2.1.drop (k+1))):=by rw[<-yP,<-TX e];unfold vU;rw[<-List.flatten_append,<-J7,Dr]
  have f:(vU (c.2.2.2.1.take k)).length=17*k:=by rw[lL,BR];omega
  have i:s=(P++vU (c.2.2.2.1.take k))++(C8 c.2.2.2.1[k].1 1++(C8 c.2.2.2.1[k].2.1 8++(C8 c.2.2.2.1[k].2.2 8++(vU (c.2.2.2.1.drop (k+1))++l)))):=by rw[d,z];unfold dB;simp only[A5]
  obtain⟨q1,q2,q3,q4,q5⟩:=(a5 k _ (Ar e)).1;have C:=(kM (at_:=(θ P:Int)+17*k) (k:=1) i (by rw[AY,f];omega) o! g! g! (i1r o! o!)).1;rw[<-A5]at i;have D:=(kM (at_:=(θ P:Int)+17*k+1) (k:=8) i (by simp only[AY,A0,f];omega) o! g! g! (i8r o! o!)).1;rw[<-A5]at i;have E:=(kM (at_:=(θ P:Int)+17*k+9) (k:=8) i (by simp only[AY,A0,f];omega) o! g! g! (i8r o! o!)).1;rw[show(((1:Nat)):Int)=1 from rfl]at C;rw[show(((8:Nat)):Int)=8 from rfl]at D E;rw[C,AD,AZ (x:=(θ P:Int)+17*k+1),D,AD,AZ (x:=(θ P:Int)+17*k+9),E,AD,AZ (x:=(θ P:Int)+17*k+17),AZ (x:=(k:Int)+1)];refine AA (Ad (by rw[BR];simp;omega)) λZ M=>As.next ⟨k+1,e,?_⟩ d!
  have B:c.2.2.2.1.take (k+1)=c.2.2.2.1.take k++[c.2.2.2.1[k]]:=by rw[Co,Ar e];rfl
  rw[M.1,B];refine Ck ?_ (Ck ?_ rfl);dsimp only;omega;dsimp only;omega
 subst m;refine AA (Sa (by rw[L.1,BR,C5];omega)) λS _=>AL (λg=>AB λh=>N! h g) (λ_=>?_);dsimp only;have A:R0 s ((θ P:Int)+17*(θ c.2.2.2.1:Int)) (θ s:Int)=δ l:=by
  unfold R0;rw[C! o!,d,<-A5];have u:(P++vU c.2.2.2.1).length=((θ P:Int)+17*(θ c.2.2.2.1:Int)).toNat:=by rw[AY,lL];omega
  rw[<-u,Q4,BP (by rw[AY];omega)]
 rw[A,AD];rcases v with rfl|rfl;refine AA ((SY o!).and (AFw a6)) λT o=>AL (λg=>AB λh=>N! h g) (λj=>AA (OE d!) λU _=>AO (λ_=>AB λh=>N! (show(24:Int)=0 from h) g!) (λ_=>AB λ_=>⟨rfl,rfl,o.2 j⟩));have K:Ef []=δ ([],5):=by unfold Ef;have:=jQ (a:=[]) (t:=[]) (k:=2) g! g! g!;rw[DN,D! g!]at this;rw[show((([]:BX).length:Nat):Int)=0 from rfl]at this;rw[this];rfl
 rw[K,AD];exact AB λh=>N! (show(5:Int)=0 from h) g!
variable {B:Int->Prop}
def dU{x:Bw}:As (Lc x) λr=>θ r<=64/\(∀d∈r,∃f∈x.2.1,f.1.1=d.1/\d.2.2=f.1.2.1)/\(PN x->∀f∈x.2.1,f.2.1=ζ->0<=f.1.1->f.1.1<64->∃d∈r,d.1=f.1.1):=by
 unfold Lc;refine AA ER λv B=>AO (λm=>AB ⟨k!,k!,λo=>N! (B.2 o) (by simp[m])⟩) (λm=>?_);have o:=B.1 m;have R:=o.2.1;have S:=o.2.2.1;refine AA (P:=λr=>θ r<=64/\(∀d∈r,∃f∈x.2.1,f.1.1=d.1/\d.2.2=f.1.2.1)/\∀f∈x.2.1,f.2.1=ζ->0<=f.1.1->f.1.1<64->∃d∈r,d.1=f.1.1) ?_ λr hr=>AB ⟨hr.1,hr.2.1,λ_=>hr.2.2⟩;refine Cp (λ(s:Int×List Ah)=>0<=s.1/\s.1<=64/\θ s.2<=s.1/\(∀d∈s.2,∃f∈x.2.1,f.1.1=d.1/\d.2.2=f.1.2.1)/\∀f∈x.2.1,f.2.1=ζ->0<=f.1.1->f.1.1<s.1->∃d∈s.2,d.1=f.1.1) (λ(s:Int×List Ah)=>(64-s.1).toNat) ⟨Af _,u!,k!,k!,λf _ _ i k=>N! k d!⟩ (λs I=>?_);have⟨k,O,Q,p,q⟩:=I;unfold SX;rw[(AZ (x:=s.1+1))];refine AC (λm=>?_) (λm=>As.done ⟨o!,p,λf h c i k=>q f h c i o!⟩);refine AA (Gb d!) λL b=>AC (λa=>?_) (λa=>As.next ⟨d!,d!,d!,p,λf h c i k=>?_⟩ d!)
 ·have⟨g,A,t⟩:=b.2.2.1 a;have D:∀w,x.2.1[L.toNat]?=δ w->w=g:=λw C=>by rw[A]at C;exact(Bg C).symm
  refine AA (AJ a b.2.1) λM y=>?_;have E:=D M y.1;subst E;refine AA (P:=λl=>θ l<=θ s.2+1/\(∀d∈l,∃f∈x.2.1,f.1.1=d.1/\d.2.2=f.1.2.1)/\∀f∈x.2.1,f.2.1=ζ->0<=f.1.1->f.1.1<s.1+1->∃d∈l,d.1=f.1.1) ?_ λV H=>As.next ⟨d!,d!,d!,H.2⟩ d!
  refine AK (λn=>?_) (λn=>AB ⟨o!,p,λf h c i k=>?_⟩);refine AA (AJ a b.2.1) λT _=>AA (AJ a b.2.1) λN z=>?_;have F:=D N z.1;subst F;refine AA (Ad w!) λU G=>AB ⟨?_,λd c=>?_,λf h c i k=>?_⟩;grind;grind;rw[G.1];by_cases e:f.1.1<s.1;have⟨d,J,K⟩:=q f h c i e;grind[List.mem_append_left];exact⟨_,Oh _ (BA.2 rfl),d!⟩;by_cases e:f.1.1<s.1;exact q f h c i e;have⟨j,u⟩:=DU h;have:=o.uniq u A (by dsimp only at t;omega);subst this;rw[n]at c;cases c
 by_cases e:f.1.1<s.1;grind;have⟨j,u⟩:=DU h;exact N! ⟨j,f,u,by dsimp only at k⊢;omega⟩ (b.2.2.2 o!)
def kJ{x:AT}(h:SK B x):As (PC x) λr=>r.2=0->θ r.1.2.2.2.1<=16777216/\r.1.1=x.1/\xn x.1 x.2.2.1.2.1 r.1.2.2.2.1 r.1.2.2.2.2:=by
 unfold PC;refine AA (CA h.sb) λv hv=>AO (λ_=>AB n!) (λo=>?_);have J:=hv o;have ad:=J.2.1;have⟨al,n,H⟩:=h.ki;refine AA (P:=λr=>θ r.1<=16777216/\r.2=(x.1,x.2.1,x.2.2.2.2.2.1,x.2.2.2.2.2.2.1)/\(∀d∈r.1,d.2.2=Bd x.2.2.1.2.1 d.1)/\∀p,0<=p->p<x.1->(∀d∈r.1,d.1≠p)->(∀d∈x.2.2.2.2.2.2.2,d.1≠p)/\∀f∈x.2.2.2.1.2.1,f.1.1=p->f.2.1=η) ?_ λr hr=>AB λ_=>⟨hr.1,by rw[hr.2.1],λp g i=>⟨λd a e=>by rw[hr.2.2.1 d a,e],λw D=>?_⟩⟩
 rotate_left 1;dsimp only at D;rw[hr.2.1]at D;have⟨_,_,c⟩:=n p g i;exact⟨(c w D).1,λa=>(c w D).2 (hr.2.2.2 p g i a).1 (hr.2.2.2 p g i a).2⟩;refine Cp (λ(s:Int×List Ah×Int×Int×List Am×Bu)=>0<=s.1/\s.1<=x.1/\θ s.2.1<=65*s.1/\s.2.2=(x.1,x.2.1,x.2.2.2.2.2.1,x.2.2.2.2.2.2.1)/\(∀d∈s.2.1,d.2.2=Bd x.2.2.1.2.1 d.1)/\∀p,0<=p->p<s.1->(∀d∈s.2.1,d.1≠p)->(∀d∈x.2.2.2.2.2.2.2,d.1≠p)/\∀f∈x.2.2.2.1.2.1,f.1.1=p->f.2.1=η) (λ(s:Int×List Ah×Int×Int×List Am×Bu)=>(x.1-s.1).toNat) ⟨Af _,by have:=J.1;dsimp only;omega,k!,rfl,k!,λp g i=>N! i d!⟩ (λs hI=>?_);have⟨h1,h2,h3,R,S,b⟩:=hI;unfold VZ;have e:=AZ (x:=s.1+1);rw[e];refine AC (λo=>?_) (λ_=>As.done ⟨o!,R,S,λp g i=>b p g o!⟩);refine AA (Jy h.sb) λv2 y=>AA (P:=λl=>θ l.1<=θ s.2.1+1/\l.2=s.2.2/\(∀d∈l.1,d.2.2=Bd x.2.2.1.2.1 d.1)/\(∀d∈s.2.1,d∈l.1)/\((∀d∈l.1,d.1≠s.1)->∀d∈x.2.2.2.2.2.2.2,d.1≠s.1)) ?_ λW F=>?_;refine AK (λm=>AA (Ad w!) λv6 b=>AB ?_) (λm=>AB ⟨o!,rfl,S,λd a=>a,λ_=>y.2 m⟩);have⟨q1,q2⟩:=y.1 m;have K:=b.2.1;simp at K;refine⟨d!,rfl,λd a=>?_,λd a=>by dsimp only;rw[b.1];exact HS _ a,λhn=>N! q2 (hn _ (by dsimp only;rw[b.1];exact Oh _ (BA.2 rfl)))⟩;dsimp only at a;rw[b.1,Ak]at a;rcases a with a|a;grind;rw[BA]at a;subst a;exact(n _ (by dsimp only at q2;omega) (by dsimp only at q2;omega)).2.1 _ q1 rfl;have⟨a1,a2,a3,a4,a5⟩:=F;refine AA dU λE L=>?_;have⟨b1,Y,Z⟩:=L;refine AA (P:=λl=>θ l.1<=θ s.2.1+65/\l.2=s.2.2/\(∀d∈l.1,d.2.2=Bd x.2.2.1.2.1 d.1)/\(∀d∈W.1,d∈l.1)/\∀d∈E,d.1=s.1->d∈l.1) ?_ λao k=>As.next ⟨d!,d!,d!,by dsimp only;rw[k.2.1,R],k.2.2.1,λp g i hn=>?_⟩ d!
 rotate_left 1;have⟨_,_,_,N,c5⟩:=k;dsimp only at i hn;by_cases u:p<s.1;exact b p g u λd a=>hn d (N d (a4 d a));have ep:p=s.1:=o!
 subst ep;refine⟨a5 λd a=>hn d (N d a),λf C Q=>?_⟩;cases hb:f.2.1 with
 |false=>rfl
 |true=>have⟨d,G,q⟩:=Z J.2.2.2.1 f C hb o! o!;exact N! (q.trans Q) (hn d (c5 d G (q.trans Q)))
 refine Cp (λ(t:Int×List Ah×Int×Int×List Am×Bu)=>0<=t.1/\t.1<=θ E/\θ t.2.1<=θ s.2.1+1+t.1/\t.2.2=s.2.2/\(∀d∈t.2.1,d.2.2=Bd x.2.2.1.2.1 d.1)/\(∀d∈W.1,d∈t.2.1)/\∀(j:Nat)(d:Ah),(j:Int)<t.1->E[j]?=δ d->d.1=s.1->d∈t.2.1) (λ(t:Int×List Ah×Int×Int×List Am×Bu)=>((θ E:Int)-t.1).toNat) ⟨Af _,d!,d!,a2,a3,λd a=>a,λj d I=>N! I d!⟩ (λt hJ=>?_);have⟨j1,j2,j3,U,M,V,j7⟩:=hJ;unfold Va;have e2:=AZ (x:=t.1+1);rw[e2];refine AC (λo=>?_) (λo=>As.done ⟨o!,U,M,V,λd a O=>?_⟩);rotate_left 1;grind[List.getElem?_of_mem,C1];simp[len]at o;refine AA (AJ j1 o) λX z=>AA (P:=λl=>θ l.1<=θ t.2.1+1/\l.2=t.2.2/\(∀d∈l.1,d.2.2=Bd x.2.2.1.2.1 d.1)/\(∀d∈t.2.1,d∈l.1)/\(X.1=s.1->X∈l.1)) ?_ λv9 A=>As.next ⟨d!,d!,d!,A.2.1.trans U,A.2.2.1,λd a=>A.2.2.2.1 d (V d a),λj d I a O=>?_⟩ d!
 rotate_left 1;dsimp only at I;by_cases u:(j:Int)<t.1;grind;have:j=t.1.toNat:=o!
 subst this;rw[z.1]at a;have:=Bg a;subst this;exact A.2.2.2.2 O;refine AP (λT=>AA (Ad w!) λv6 b=>AB ?_) (λT=>AB ⟨o!,rfl,M,λd a=>a,λe=>N! e T⟩);have K:=b.2.1;simp at K;refine⟨d!,rfl,λd a=>?_,λd a=>by dsimp only;rw[b.1];exact HS _ a,λ_=>by dsimp only;rw[b.1];exact Oh _ (BA.2 rfl)⟩;dsimp only at a;rw[b.1,Ak]at a;rcases a with a|a;exact M d a;rw[BA]at a;subst a;have⟨f,C,f1,f2⟩:=Y d z.2;have hr:=H f C;rw[f2,(n d.1 o! o!).1 f C f1,KB]
theorem AFy:∃c e,DE []=δ (c,e)/\e≠0:=⟨(0,0,[],[],[]),5,by kernel_rfl,g!⟩
def gO{x:AT}(h:SK B x):As (Ql x) λr=>r.2.2=0->KL B x r.1:=by
 refine AA (kJ h) λM u=>AL (λb=>AB λa=>N! a b) (λa=>?_);have⟨o,L,C⟩:=u a;refine AA ((aw o).and (AF2 o)) λE j=>AC (λ_=>AB n!) (λf=>?_);simp[len]at f;have d:∀c,DE E.1=δ (c,0)->c.1=x.1->xn x.1 x.2.2.1.2.1 c.2.2.2.1 c.2.2.2.2:=by intro c b _;rcases j.2 o! with e|⟨g,D,K,A,i⟩;grind[AFy,Option.some.inj];have⟨_,q2,q3⟩:=(AFx g A o! i).get b rfl;rw[q2,q3];exact C
 refine AA (F4 h.sb) λN v=>AL (λb=>AB λa=>N! a b) (λa=>?_);have⟨_,⟨a1,a2,a3,a4,a5,a6,a7,a8,e,k,s,t,l,I,m,J⟩,w⟩:=v a;dsimp only at a1 a2 a4 a7 k s t l m w;have y:=a2.1;refine AA (Ju.and (sO a3 q!)) λO n=>AB λ_=>?_;have⟨F,p,G,H,_⟩:=n.1 n.2;refine⟨a1,a2.trans (LX.of G p H),⟨a8.1,a8.2.1,a8.2.2,?_⟩,F⟩;unfold KI;rw[a1,a4,a7,p,k,m g!];refine⟨h.ki.1.app ⟨λq=>o!,λq=>o!,λ_=>?_⟩,h.ki.2.1.app o!,h.ki.2.2⟩;rw[(E! (λz=>z.2.2) l)];exact d
def Wz{x:AV}(h:SK B x.1)(d:DJ B x.1.2.2.1 x.2):As (K8 x) λr=>r.2.2=0->SR B x r.1:=by exact AA (gO h) λe b=>AL (λc=>AB λa=>N! a c) (λa=>AB λ_=>⟨b a,d.up (b a).2.1⟩)
end Go.Pm
namespace Go.Pm
open Go Go.Ab
set_option maxHeartbeats 400000
theorem av{x:BX}(h:θ x<=1099511627776):As (DE x) λr=>r.2=0->sV r.1/\θ r.1.2.2.2.1<=65536:=by unfold DE;refine AA (Cj h) λO _=>AA (Cj h) λQ _=>AA (Cj h) λc w=>AL (λa=>AB n!) (λj=>?_);have⟨a1,a2,a3,_⟩:=w j;have a4:=a3 q!;dsimp only at a1 a2;rw[(AZ (x:=len x-10) q!)];refine AC (λa=>AB n!) (λa=>?_);simp[len]at a;rw[(AZ (x:=10+c.1))];refine AA (CY g!) λR y=>AA (Cj h) λd z=>AL (λa=>AB n!) (λk=>?_);have⟨o,p,q,t⟩:=z k;have G:=q q!;have H:=t q!;dsimp only at o p;rw[(AZ (x:=len x-(10+c.1)) q!)];rw[(AZ (x:=len x-(10+c.1)-1) q!)];rw[(AZ (x:=17*d.1))];refine AC (λa=>AB n!) (λi=>?_);simp[len]at i;rw[(AZ (x:=10+c.1+1))];refine AA (P:=λr=>r.1=10+c.1+1+17*d.1/\θ r.2.1<=65536) ?_ λB e=>?_;refine AW (λ(s:Int×Int×List Ah×Int×Int×List Am×Bu)=>0<=s.2.1/\s.2.1<=d.1/\s.1=10+c.1+1+17*s.2.1/\θ s.2.2.1<=s.2.1) (λ(s:Int×Int×List Ah×Int×Int×List Am×Bu)=>(d.1-s.2.1).toNat) ⟨Af _,q!,q!,k!⟩ (λs A=>?_);have⟨J,K,L,M⟩:=A;unfold MH;refine AC (λa=>AA (Cj h) λ_ _=>AA (Cj h) λ_ _=>AA (Cj h) λ_ _=>AA (Ad w!) λS I=>?_) (λa=>AB ⟨q!,q!⟩);grind[List.length_cons,List.length_nil,AZ,AB];have N:=y.2;refine AA (Sa o!) λC u=>AL (λa=>AB λb=>N! b a) (λm=>AA (CY o! (by simp[len];omega) i!) λD f=>?_);have l:=f.2;simp[len]at l;exact AA (SY o!) λE v=>AL (λa=>AB λb=>N! b a) (λn=>AA (OE d!) λF g=>AO (λa=>AB n!) (λa=>AB λ_=>⟨g a,e.2⟩))
def L5.data{e:AE}(h:L5 e):θ e.2.2.2.2.2.2.2<=8192:=by have a:=h.2.2.2.2.2.2.2.2;grind[VE]
def ay{x:Aa}:As (PB x) λr=>r.2.2=ζ->(sV r.1/\θ r.1.2.2.2.1<=65536)/\∃(i:Nat)(e:AE),x.2.1[i]?=δ e/\e.2.1=6/\e.1=r.2.1/\DE e.2.2.2.2.2.2.2=δ (r.1,0):=by
 refine AA Bo λv j=>AO (λ_=>AB λc=>by cases c) (λa=>?_);have f:=j.1 a;have g:=f.2.2.1;have e:=AZ (x:=len x.2.1-1) q!;refine AA (P:=λr=>∀u,r=.inl u->(sV u.2.2/\θ u.2.2.2.2.2.1<=65536)/\∃(i:Nat)(e:AE),x.2.1[i]?=δ e/\e.2.1=6/\e.1=u.1/\DE e.2.2.2.2.2.2.2=δ (u.2.2,0)) ?_ λr hr=>BG (λu b=>AB λ_=>hr u b) (λ_ _=>AB λc=>by cases c);refine AW (λ(s:Int×CZ)=> -1<=s.1/\s.1<θ x.2.1) (λ(s:Int×CZ)=>(s.1+1).toNat) ⟨q!,q!⟩ (λs d=>?_);unfold Rg;rw[(AZ (x:=s.1-1))];refine AC (λa=>?_) (λ_=>AB λu b=>by cases b);have k:((-1<=s.1-1/\s.1-1<θ x.2.1)/\(s.1-1+1).toNat<(s.1+1).toNat):=o!
 refine AA (AJ a d.2) λo l=>AL (λ_=>AB k) (λm=>AA (AJ a d.2) λp h=>?_);have n:=(f.2.2.2.2.2 _ _ h.1).2.data;grind[D6,av,AP,AA,AJ,AB]
def DG2(x:List Ah×AE)(l:List Ah):Prop:=∀d∈l,(d.1=x.2.2.2.2.2.2.2.1.1/\d.2.2=x.2.1)\/(d.1≠x.2.2.2.2.2.2.2.1.1/\d∈x.1)
def DG1(x:List Ah×AE)(l:List Ah):Prop:=∀d∈l,∃c∈x.1,c.1=d.1/\c.2.2=d.2.2
def DK(x:List Ah×AE)(i:Int)(l:List Ah):Prop:=∀(j:Nat)(d:Ah),(j:Int)<i->x.1[j]?=δ d->d.1≠x.2.2.2.2.2.2.2.1.1->d∈l
def DG2.snoc{x:List Ah×AE}{l m:List Ah}{d:Ah}(h:DG2 x l)(e:m=l++[d])(b:(d.1=x.2.2.2.2.2.2.2.1.1/\d.2.2=x.2.1)\/(d.1≠x.2.2.2.2.2.2.2.1.1/\d∈x.1)):DG2 x m:=by subst e;intro c a;rcases Ak.1 a with a|a;exact h c a;grind
def DG1.snoc{x:List Ah×AE}{l m:List Ah}{d:Ah}(h:DG1 x l)(e:m=l++[d])(b:∃c∈x.1,c.1=d.1/\c.2.2=d.2.2):DG1 x m:=by subst e;intro c a;rcases Ak.1 a with a|a;exact h c a;grind
def DK.snoc{x:List Ah×AE}{l m:List Ah}{d:Ah}{i:Int}(h:DK x i l)(e:m=l++[d]):DK x i m:=λj c b a hn=>by rw[e];exact HS _ (h j c b a hn)
def DK.next{x:List Ah×AE}{l:List Ah}{v:Ah}{i k:Int}(h:DK x i l)(d:0<=i)(f:k=i+1)(m:x.1[i.toNat]?=δ v)(g:v.1≠x.2.2.2.2.2.2.2.1.1->v∈l):DK x k l:=λj c e b hn=>by by_cases a:(j:Int)<i;exact h j c a b hn;grind
def Ye{x:List Ah×AE}{s:Bool×Int×List Ah}(o:x.2.2.1=7)(h:0<=s.2.1/\s.2.1<=θ x.1/\θ x.1<=1000000/\θ s.2.2<=s.2.1+1/\(s.1=η->(θ s.2.2:Int)<=s.2.1)/\DG1 x s.2.2/\DK x s.2.1 s.2.2):As (Ai (Fu x) s) λr=>(θ r.2<=θ x.1+1/\(r.1=η->θ r.2<=θ x.1))/\DG1 x r.2/\DK x (θ x.1) r.2:=by
 refine AW (λ(s:Bool×Int×List Ah)=>0<=s.2.1/\s.2.1<=θ x.1/\θ x.1<=1000000/\θ s.2.2<=s.2.1+1/\(s.1=η->(θ s.2.2:Int)<=s.2.1)/\DG1 x s.2.2/\DK x s.2.1 s.2.2) (λ(s:Bool×Int×List Ah)=>((θ x.1:Int)-s.2.1).toNat) h (λs i=>?_);have⟨g,t,v,w,b,c,f⟩:=i;unfold Fu;repeat' with_reducible first|intro a|apply AC|apply AO|apply AP|apply AK|(apply BF;try dsimp only)|apply Bh|apply B0|apply Mz|(apply BK;try dsimp only)|(apply A4;try dsimp only)|(apply BG<;>(intro u l;try subst l))|apply AB|(apply AA (CK);intro r hr)|(refine AM ?_ (AJ ?_ ?_);rintro r ⟨hr,q⟩)|(refine AM ?_ (Ad ?_);rintro r ⟨hr,p,k⟩)
 all_goals try dsimp[len]at*
 all_goals try (have e:=AZ (x:=s.2.1+1))
 all_goals try (have m:=b v!)
 all_goals (try simp only[Ba,Bb]at*)
 all_goals first
  |omega
  |exact⟨⟨o!,λh=>by have:=b h;omega⟩,c,λj d n=>f j d o!⟩
  |(exfalso;grind;done)
  |(refine⟨⟨o!,o!,o!,o!,by first|(intro h;have:=b h;omega)|(intro h;cases h),?_,?_⟩,o!⟩
    first|exact c|exact c.snoc v! (by refine⟨_,v!,?_,?_⟩<;>rfl)
    ·first|exact f.next g e v! (λhn=>N! v! hn)|exact(f.snoc v!).next g e v! (by first|(intro hn;exact N! v! hn)|(intro _;subst_vars;simp)))
def Yf{x:List Ah×AE}{s:Bool×Int×List Ah}(q:x.2.2.1=1\/x.2.2.1=2)(h:0<=s.2.1/\s.2.1<=θ x.1/\θ x.1<=1000000/\θ s.2.2<=s.2.1+1/\(s.1=η->(θ s.2.2:Int)<=s.2.1)/\DG2 x s.2.2/\DK x s.2.1 s.2.2/\(s.1=ζ->∃d∈s.2.2,d.1=x.2.2.2.2.2.2.2.1.1)):As (Ai (Fu x) s) λr=>(θ r.2<=θ x.1+1/\(r.1=η->θ r.2<=θ x.1))/\DG2 x r.2/\DK x (θ x.1) r.2/\(r.1=ζ->∃d∈r.2,d.1=x.2.2.2.2.2.2.2.1.1):=by
 refine AW (λ(s:Bool×Int×List Ah)=>0<=s.2.1/\s.2.1<=θ x.1/\θ x.1<=1000000/\θ s.2.2<=s.2.1+1/\(s.1=η->(θ s.2.2:Int)<=s.2.1)/\DG2 x s.2.2/\DK x s.2.1 s.2.2/\(s.1=ζ->∃d∈s.2.2,d.1=x.2.2.2.2.2.2.2.1.1)) (λ(s:Bool×Int×List Ah)=>((θ x.1:Int)-s.2.1).toNat) h (λs l=>?_);have⟨i,w,y,z,c,a,f,k⟩:=l;unfold Fu;repeat' with_reducible first|intro b|apply AC|apply AO|apply AP|apply AK|(apply BF;try dsimp only)|apply Bh|apply B0|apply Mz|(apply BK;try dsimp only)|(apply A4;try dsimp only)|(apply BG<;>(intro u n;try subst n))|apply AB|(apply AA (CK);intro r hr)|(refine AM ?_ (AJ ?_ ?_);rintro r ⟨hr,v⟩)|(refine AM ?_ (Ad ?_);rintro r ⟨hr,t,m⟩)
 all_goals try dsimp[len]at*
 all_goals try (have e:=AZ (x:=s.2.1+1))
 all_goals try (have o:=c v!)
 all_goals (try simp only[Ba,Bb]at*)
 all_goals first
  |omega
  |exact⟨⟨o!,λh=>by have:=c h;omega⟩,a,λj d p=>f j d o!,k⟩
  |(exfalso;grind;done)
  |(refine⟨⟨o!,o!,o!,o!,by first|(intro h;have:=c h;omega)|(intro h;cases h)|trivial,?_,?_,?_⟩,o!⟩
    first|exact a.snoc v! (by exact .inl ⟨v!,rfl⟩)|exact a.snoc v! (by exact .inr ⟨v!,v!⟩)|refine DG2.snoc (DG2.snoc a v! (by exact .inl ⟨rfl,rfl⟩)) v! (by exact .inr ⟨o!,v!⟩)
    ·first|exact(f.snoc v!).next i e v! (by first|(intro hn;exact N! v! hn)|(intro _;subst_vars;simp))|exact((f.snoc v!).snoc v!).next i e v! (by intro _;subst_vars;simp)
    first|(intro h;refine(k h).elim λd g=>⟨d,by subst_vars;simp[g.1],g.2⟩)|(intro _;subst_vars;refine⟨_,Oh _ (BA.2 rfl),?_⟩;assumption)|(intro _;subst_vars;refine⟨_,HS _ (Oh _ (BA.2 rfl)),?_⟩;rfl))
def db{x:List Ah×AE}(h:θ x.1<=1000000):As (G6 x) λr=>θ r<=θ x.1+1/\(¬(x.2.2.1=1\/x.2.2.1=2)->x.2.2.1≠7->r=x.1)/\(x.2.2.1=7->DG1 x r/\DK x (θ x.1) r)/\(x.2.2.1=1\/x.2.2.1=2->DG2 x r/\DK x (θ x.1) r/\∃d∈r,d.1=x.2.2.2.2.2.2.2.1.1):=by
 refine AA CK λB m=>AO (λb=>?_) (λb=>?_);have i:¬(x.2.2.1=1\/x.2.2.1=2):=λq=>by rw[m.2 q]at b;cases b
 refine AL (λhn=>AB ⟨o!,λ_ _=>rfl,λe=>N! e hn,λq=>N! q i⟩) (λo=>AA (Ye o ⟨Af _,q!,h,k!,k!,by simp[DG1],λj d g=>N! g q!⟩) λv f=>AO (λp=>AA CK λs n=>AA (P:=λl=>l=v.2) (AK (λa=>N! (n.1 a) i) (λ_=>AB rfl)) λl c=>AB ?_) (λ_=>AB ⟨f.1.1,λ_ q=>N! o q,λ_=>f.2,λq=>N! q i⟩));grind;have k:=m.1 b;refine AA (Yf k ⟨Af _,q!,h,k!,k!,by simp[DG2],λj d g=>N! g q!,λq=>by cases q⟩) λv f=>?_;have⟨⟨s,z⟩,t,u,A⟩:=f;refine AO (λp=>AA CK λw n=>AA (P:=λl=>l=v.2++[(x.2.2.2.2.2.2.2.1.1,x.2.1,x.2.1)]) (AK (λa=>?_) (λa=>?_)) λl c=>AB ?_) (λy=>AB ⟨s,λq=>N! k q,λq=>N! q o!,λ_=>⟨t,u,A y⟩⟩);grind[AA,Ad,AB];grind;have:=z p;refine⟨q!,λq=>N! k q,λq=>N! q o!,λ_=>⟨t.snoc c (.inl ⟨rfl,rfl⟩),u.snoc c,_,by rw[c];exact Oh _ (BA.2 rfl),rfl⟩⟩
def xn.other{n:Int}{L:List AE}{D:List Ah}{R:List Bi}{e:AE}(h:xn n L D R)(a:¬(e.2.1=1\/e.2.1=2)):xn n (L++[e]) D R:=by
 intro p b c;have:cu p e=η:=by simp only[not_or]at a;simp[cu,a.1,a.2]
 rw[PL,this,D! g!];exact h p b c
def xn.change{n:Int}{L:List AE}{D r:List Ah}{R:List Bi}{e:AE}(h:xn n L D R)(v:e.2.1=1\/e.2.1=2)(o:∀p,Bd L p<e.1)(k:DG2 (D,e) r)(m:DK (D,e) (θ D) r)(u:∃d∈r,d.1=e.2.2.2.2.2.2.1.1):xn n (L++[e]) r R:=by intro p s t;have⟨a,b⟩:=h p s t;rw[PL,(by grind[cu]:cu p e=(e.2.2.2.2.2.2.1.1==p))];by_cases i:e.2.2.2.2.2.2.1.1=p;rw[beq_iff_eq.2 i,C! rfl];refine⟨λd f c=>?_,λw g=>⟨by have:=(b w g).1;have:=o p;omega,λhn=>?_⟩⟩;rcases k d f with q|q;grind;grind;grind;rw[beq_eq_false_iff_ne.2 i,D! g!];refine⟨λd f c=>?_,λw g=>⟨(b w g).1,λhn=>(b w g).2 λd f c=>?_⟩⟩;rcases k d f with q|q;grind;exact a d q.2 c;have⟨j,l⟩:=DU f;exact hn d (m j d (by have:=C1 l;omega) l (λq=>i (q.symm.trans c))) c
def xn.index{n:Int}{L:List AE}{D r:List Ah}{R:List Bi}{e:AE}{w:Bi}(h:xn n L D R)(A:e.2.1=7)(B:e.2.2.2.2.2.1=Bd L e.2.2.2.2.2.2.1.1)(y:0≤e.2.2.2.2.2.2.1.1)(k:DG1 (D,e) r)(l:DK (D,e) (θ D) r)(C:R[e.2.2.2.2.2.2.1.1.toNat]?=δ w):
  xn n (L++[e]) r (R.set e.2.2.2.2.2.2.1.1.toNat ((if e.2.2.2.2.2.1>w.1 then e.2.2.2.2.2.1 else w.1),w.2)):=by
 refine xn.other ?_ o!;intro p s t;have⟨a,b⟩:=h p s t;refine⟨λd g f=>?_,λu i=>?_⟩;have⟨c,z,v,x⟩:=k d g;grind;by_cases o:e.2.2.2.2.2.2.1.1=p;grind;rw[DW o!]at i;refine⟨(b u i).1,λhn=>(b u i).2 λd g f=>?_⟩;have⟨j,m⟩:=DU g;exact hn d (l j d q! m (λq=>o (q.symm.trans f))) f
def u5{n:Int}{L:List AE}{D r:List Ah}{R:List Bi}{q:Bu×Int}{e:AE}(h:xn n L D R)(l:EOK n L e)(m:∀p,Bd L p<e.1)
  (j:θ r<=θ D+1/\(¬(e.2.1=1\/e.2.1=2)->e.2.1≠7->r=D)/\(e.2.1=7->DG1 (D,e) r/\DK (D,e) (θ D) r)/\(e.2.1=1\/e.2.1=2->DG2 (D,e) r/\DK (D,e) (θ D) r/\∃d∈r,d.1=e.2.2.2.2.2.2.1.1))
  (k:q.2=0->θ q.1=θ R/\(e.2.1≠7->q.1=R)/\(e.2.1=7->0<=e.2.2.2.2.2.2.1.1/\∃w,R[e.2.2.2.2.2.2.1.1.toNat]?=δ w/\q.1=R.set e.2.2.2.2.2.2.1.1.toNat ((if e.2.2.2.2.2.1>w.1 then e.2.2.2.2.2.1 else w.1),w.2)))
  (t:q.2=0):xn n (L++[e]) r q.1:=by
 have⟨_,g,f,c⟩:=j;have⟨_,u,v⟩:=k t;by_cases b:e.2.1=7;have⟨i,w,s,o⟩:=v b;rw[o];exact h.index b (l.2.1 b) i (f b).1 (f b).2 s;rw[u b];by_cases a:e.2.1=1\/e.2.1=2;exact h.change a m (c a).1 (c a).2.1 (c a).2.2;rw[g a b];exact h.other a
variable {B:Int->Prop}
def HL(l:List Am):Prop:=θ l<=64/\∀t∈l,θ t.2.2.2.2.1<=4097
def Y0.hl{l:List Am}(h:Y0 l):HL l:=⟨h.1,λt b=>by have⟨i,a⟩:=FG.1 b;have:=(h.2 i t a).1;omega⟩
def HL.set{l:List Am}{i:Nat}{n:Am}(h:HL l)(hn:θ n.2.2.2.2.1<=4097):HL (l.set i n):=⟨by rw[Xz];exact h.1,λt a=>by rcases QV a with q|q;exact h.2 t q;rw[q];exact hn⟩
def HL.rm{l:List Am}{id:Int}(h:HL l):HL (ACq l id):=⟨by have:=oo l id;have:=h.1;omega,λt a=>h.2 t (BU.1 a).1⟩
def Y0.lens{l:List Am}{i:Nat}{t:Am}(h:Y0 l)(a:l[i]?=δ t):θ t.2.2.2.2.1<=4096:=(h.2 i t a).1
def AFQ{x:List Am×AE}:As (GM x) λr=>r.2=0->HL r.1:=by refine AA Dz λz j=>AO (λb=>AB n!) (λb=>?_);have c:=j b;have n:=c.1;refine AA CV λA y=>AO (λb=>AB n!) (λ_=>AP (λb=>AB λ_=>c.hl) (λp=>AA (IF q!) λB g=>AC (λb=>AB n!) (λo=>AA (AJ o! g.2.1) λC m=>?_)));have f:=c.lens m.1;refine AL (λb=>AB n!) (λ_=>AA (P:=λs=>(∃u,s=.inl u/\θ u.2.2.2.2.1<=4097)\/∃u,s=.inr u/\(u.2=0->HL u.1)) ?_ λs h=>?_);refine AP (λ_=>?_) (λ_=>?_);grind[AA,Ad,AB];refine AA (P:=λs=>(∃u,s=.inr u/\θ u.2.2.2.2.1<=4097)\/∃u,s=.inl u/\(u.2=0->HL u.1)) (AP (λ_=>AA (Rf ⟨Af _,q!,f,k!⟩) λq k=>AP (λ_=>AB (.inr ⟨_,rfl,n!⟩)) (λ_=>AB (.inl ⟨_,rfl,q!⟩))) (λ_=>AP (λ_=>AB (.inl ⟨_,rfl,q!⟩)) (λ_=>AA (JO q!) λt d=>AB (.inr ⟨_,rfl,λ_=>by rw[d];exact c.hl.rm⟩)))) λs h=>?_;grind[A4,AB,BK];rcases h with⟨u,rfl,i⟩|⟨u,rfl,i⟩;refine BK (AA (NI o!) λv l=>AA (Lf q! ⟨q!,g.2.1⟩) λw e=>AB λ_=>?_);rw[e];exact c.hl.set q!;exact A4 (AB i)
def AN(n c:Int)(L:List AE)(m:Nat)(a:Cf):Prop:=a.1=n/\HL a.2.2.2.1/\θ a.2.2.2.2.2.1<=m/\a.2.2.1=c/\xn n L a.2.2.2.2.2.1 a.2.2.2.2.2.2
def gQ{x:Cf×AE}{n c:Int}{L:List AE}{m:Nat}(h:AN n c L m x.1)(f:m<=1000000)(d:EOK n L x.2)(e: ∀p,Bd L p<x.2.1):As (Mh x) λr=>r.2=0->AN n c (L++[x.2]) (m+1) r.1:=by
 unfold Mh;have⟨a1,a2,a3,a5,a6⟩:=h;have a4:=a2.1;repeat' with_reducible first|apply AC<;>intro b|apply AL<;>intro b|apply AK<;>intro b|(apply BF;try dsimp only)|apply Bh|apply B0|apply Mz|(apply BK;try dsimp only)|(apply A4;try dsimp only)|apply AB|(apply AA AFQ;intro r hr)|(refine AM ?_ (Fh ?_);intro r hr)|(apply AA (Tu);intro r hr)|(apply AA (Un);intro r hr)|(apply AA (CK);intro r hr)|(refine AM ?_ (db ?_);intro r hr)
 all_goals try dsimp[len]at*
 all_goals first|omega|(intro a;exact absurd a v!)|(intro a;exact absurd a g!)|(intro _;unfold AN;refine⟨by first|assumption|grind,q!,by first|omega|grind,by first|assumption|grind,?_⟩;exact u5 a6 d e v! v! v!)|grind
def VW{x:Int}:As (Nc x) λr=>∀w∈r.1,w.1=0:=by refine AC (λ_=>AB k!) (λ_=>AC (λ_=>AB k!) (λ_=>?_));grind[AA,yV,AB]
def dd{x:Aa×Int}(n:Do x.1)(u:x.1.1=1)(m:LI x.2 x.1.2.1):As (Pv x) λr=>r.2=0->∃k:Nat,k<=θ x.1.2.1/\AN x.2 k (x.1.2.1.take k) 65536 r.1:=by
 refine AA ay λv j=>AO (λ_=>?_) (λb=>?_);refine AC (λb=>AB n!) (λ_=>AA VW λy l=>AB λ_=>⟨0,Bc _,rfl,⟨k!,λt o=>by simp at o⟩,k!,rfl,λp _ _=>⟨k!,λw q=>by have:=l w (BN q);exact⟨by rw[this];exact Af _,λ_=>this⟩⟩⟩)
 have⟨⟨d,f⟩,i,e,a,g,s,h⟩:=j b;refine AL (λb=>AB n!) (λhn=>AB λ_=>⟨i+1,C1 a,rfl,d.2.2.1.hl,f,?_,?_⟩);have:=(n.2.2.2.2.2 i e a).1;grind;rw[Co,a];exact((m i e a).2.2 g _ h hn).other o!
def gP{x:Av×Av}:As (FW x) λr=>True:=by exact AL (λ_=>AB trivial) (λ_=>AL (λ_=>AB trivial) (λ_=>AB trivial))
def ZT{x:List Av×Av}{s:Int}(h:0<=s/\s<=θ x.1/\(θ x.1:Int)<=16777216):As (Ai (OF x) s) λr=>0<=r/\r<=θ x.1:=by
 refine AW (λ(s:Int)=>0<=s/\s<=θ x.1/\(θ x.1:Int)<=16777216) (λ(s:Int)=>((θ x.1:Int)-s).toNat) h (λs a=>?_);unfold OF;exact x!
def gR{x:List Av×Av}(h:θ x.1<=1000000):As (Qp x) λr=>θ r<=θ x.1+1:=by
 refine AA (ZT ⟨Af _,o!⟩) λp c=>?_;have main:As (σ (W7 x.1 0 p) λa=>
 σ (W7 x.1 p (len x.1)) λb=>
 σ (app [] a) λd=>
 σ (app d ([x.2]:List (Int×((Int×Int)×Int)))) λe=>
 σ (app e b) λf=>
 δ f) λr=>θ r<=θ x.1+1:=by refine AA (Bn (Af _) c.1 c.2) λa g=>AA (Bn c.1 q! q!) λb i=>?_;grind[AA,Ad,AB]
 refine AC (λj=>?_) (λ_=>main);exact AA (AJ c.1 j) λk _=>AK (λ_=>AB o!) (λ_=>main)
def dc{x:Aa×List Am}(h:HL x.2):As (Ll x) λr=>θ r.1<=262208:=by unfold Ll;have k:=h.1;refine AA (P:=λr=>(∀u,r=.inl u->θ u.1<=262208)/\∀u,r=.inr u->θ u<=262208) ?_ λr hr=>BG (λu a=>AB (hr.1 u a)) (λu a=>AB (hr.2 u a));refine AW (λ(s:List Av×Int)=>0<=s.2/\s.2<=θ x.2/\θ s.1<=4097*s.2) (λ(s:List Av×Int)=>((θ x.2:Int)-s.2).toNat) ⟨Af _,q!,k!⟩ (λs d=>?_);have⟨f,m,n⟩:=d;unfold Sf;rw[(AZ (x:=s.2+1))];refine AC (λb=>?_) (λ_=>AB ⟨λu a=>(by cases a),λu a=>q!⟩);simp[len]at b;have⟨t,i,j⟩:=AJ (l:=x.2) f b;have v:=h.2 t j.2;refine AA (P:=λr=>(∀u,r=.inl u->θ u.1<=262208)/\∀u,r=.inr u->θ u<=4097*(s.2+1)) ?_ λr hr=>?_;refine AW (λ(q:List Av×Int)=>0<=q.2/\q.2<=θ t.2.2.2.2.1/\θ q.1<=4097*s.2+q.2) (λ(q:List Av×Int)=>((θ t.2.2.2.2.1:Int)-q.2).toNat) ⟨Af _,q!,q!⟩ (λq e=>?_);have⟨g,o,p⟩:=e;unfold Sg;rw[i];apply BF;rw[(AZ (x:=q.2+1))];refine AC (λb=>?_) (λ_=>AB ⟨λu a=>(by cases a),λu a=>q!⟩);simp[len]at b;refine BF (AA (AJ g b) λw _=>AA G3 λy _=>AL (λ_=>AB ⟨λu a=>q!,λu a=>(by cases a)⟩) (λ_=>AL (λ_=>AB ⟨λu a=>(by cases a;simp),λu a=>(by cases a)⟩) (λ_=>BF (AL (λ_=>AB ⟨λu a=>(by cases a;simp),λu a=>(by cases a)⟩) (λ_=>AA (gR q!) λz c=>AB ?_)))));dsimp only at c;exact⟨⟨q!,o!,d!⟩,o!⟩;grind[BG,AB]
def ZS{x:Aa×Int}(c:Do x.1)(M:x.1.1=1)(G:LI x.2 x.1.2.1):As (J2 x) λr=>r.2=0->r.1.1=x.2/\HL r.1.2.2.2.1/\θ r.1.2.2.2.2.1<=262208/\θ r.1.2.2.2.2.2.1<=70000/\xn x.2 x.1.2.1 r.1.2.2.2.2.2.1 r.1.2.2.2.2.2.2:=by
 unfold J2;refine AA Bo λv Q=>AO (λ_=>AB n!) (λa=>?_);have O:=Q.1 a;have H:=O.2.2.1;refine AC (λ_=>AB n!) (λ_=>AC (λ_=>AB n!) (λ_=>AA (dd c M G) λv1 I=>AL (λa=>AB λb=>N! b a) (λD=>?_)));have⟨k,N,K⟩:=I D;refine AA (P:=λr=>(∀u,r=.inl u->u.1≠0)/\∀u,r=.inr u->AN x.2 k x.1.2.1 70000 u.1) ?_ λr hr=>BG (λu d=>AB λb=>N! b (hr.1 u d)) (λu d=>?_);refine AW (λ(s:Int×Cf×Cf)=>0<=s.1/\s.1<=θ x.1.2.1/\AN x.2 k (x.1.2.1.take (max k s.1.toNat)) (65536+s.1.toNat) s.2.1) (λ(s:Int×Cf×Cf)=>((θ x.1.2.1:Int)-s.1).toNat) ⟨Af _,d!,by simpa using K⟩ (λs z=>?_);have⟨m,R,f⟩:=z;unfold Qn;have e:=AZ (x:=s.1+1);rw[e];refine AC (λa=>?_) (λ_=>AB ⟨λu d=>(by cases d),λu d=>?_⟩);simp[len]at a;have en:(s.1+1).toNat=s.1.toNat+1:=o!
 refine AA (AJ m a) λv3 J=>?_;have n3:=(c.2.2.2.2.2 _ _ J.1).1;refine AC (λB=>AB ⟨⟨d!,d!,?_⟩,d!⟩) (λB=>?_);have⟨q1,q2,q3,q4,q5⟩:=f;have n:max k (s.1+1).toNat=max k s.1.toNat:=o!
 exact⟨q1,q2,d!,q4,by dsimp only;rw[n];exact q5⟩;have q4:=f.2.2.2.1;have n:max k s.1.toNat=s.1.toNat:=o!
 rw[n]at f;refine AA (AJ m a) λZ F=>?_;have i:x.1.2.1.take (max k (s.1+1).toNat)=x.1.2.1.take s.1.toNat++[Z]:=by grind[List.take_add_one]
 refine AA (gQ f o! (G _ _ F.1) λp=>?_) λv5 h5=>?_;have n4:=(c.2.2.2.2.2 _ _ F.1).1;refine oK _ _ d! λe L=>?_;have⟨j,A⟩:=DU L;have C:=C1 A;rw[BR]at C;rw[Jk o!]at A;have:=(c.2.2.2.2.2 j e A).1;dsimp only;omega;grind[AL,AB];cases d;have⟨q1,q2,q3,q4,q5⟩:=f;simp[len]at*;rw[BP o!]at q5;exact⟨q1,q2,o!,q4,q5⟩;have⟨q1,q2,q3,_,q5⟩:=hr.2 u d;have S:=q2.1;refine AA (P:=λl=>HL l) ?_ λX h=>?_;refine AW (λ(s:Int×List Am)=>0<=s.1/\s.1<=θ u.1.2.2.2.1/\θ s.2<=s.1/\∀t∈s.2,θ t.2.2.2.2.1<=4097) (λ(s:Int×List Am)=>((θ u.1.2.2.2.1:Int)-s.1).toNat) ⟨Af _,d!,k!,λt i=>by simp at i⟩ (λs z=>?_);have⟨m,R,f,E⟩:=z;unfold Qo;have e:=AZ (x:=s.1+1);rw[e];refine AC (λa=>?_) (λ_=>AB ⟨o!,E⟩);simp[len]at a;refine AA (AJ m a) λT _=>AA (P:=λl=>θ l<=θ s.2+1/\∀t∈l,θ t.2.2.2.2.1<=4097) ?_ λW g=>AB ⟨⟨d!,d!,by have:=g.1;dsimp only;omega,g.2⟩,d!⟩;refine AC (λ_=>AA (AJ m a) λU o=>AA (Ad w!) λV q=>AB ⟨?_,λt i=>?_⟩) (λ_=>AB ⟨o!,E⟩);grind;rw[q.1]at i;rcases Ak.1 i with w|w;exact E t w;simp at w;rw[w];exact q2.2 _ o.2;exact AA (dc h) λY y=>AL (λa=>AB λb=>N! b a) (λb=>AB λ_=>⟨q1,h,y,q3,q5⟩)
def VV{x:Int}:As (KJ x) λr=>r.1.2.1=[]:=by
 unfold KJ;exact x!
def de{x:Aa×Cf×Int}(t:Do x.1)(h:HL x.2.1.2.2.2.1/\θ x.2.1.2.2.2.2.1<=262208/\θ x.2.1.2.2.2.2.2.1<=70000)(q:LI x.2.1.1 x.1.2.1)(e:xn x.2.1.1 x.1.2.1 x.2.1.2.2.2.2.2.1 x.2.1.2.2.2.2.2.2):As (Lm x) λr=>r.2=0->r.1.1=x.2.1.1/\SK B r.1/\Do r.1.2.2.1/\LX x.1 r.1.2.2.1:=by
 unfold Lm;have⟨a1,a2,a3⟩:=h;have a4:=a1.1;refine AA VV λj f=>AL (λ_=>AB n!) (λ_=>?_);have k:SK B (x.2.1.1,x.2.1.2.1,x.1,j.1,(x.2.1.2.2.2.2.1,[]),x.2.1.2.2.2.1,x.2.1.2.2.2.2.2.2,x.2.1.2.2.2.2.2.1):=⟨⟨q!,k!⟩,q!,q!,q,λp g i=>⟨q!,(e p g i).1,λw l=>⟨((e p g i).2 w l).1,λhn _=>((e p g i).2 w l).2 hn⟩⟩,by unfold FD;dsimp only;rw[f];simp⟩
 refine AA (CA k.sb) λy _=>AO (λ_=>AB n!) (λ_=>AA (P:=λr=>(∀u,r=.inl u->u.1≠0)/\∀u,r=.inr u->KL B (x.2.1.1,x.2.1.2.1,x.1,j.1,(x.2.1.2.2.2.2.1,[]),x.2.1.2.2.2.1,x.2.1.2.2.2.2.2.2,x.2.1.2.2.2.2.2.1) u.1) ?_ λr hr=>BG (λu a=>AB λb=>N! b (hr.1 u a)) (λu a=>AB λ_=>?_));refine AW (λ(s:Int×AT×AT)=>0<=s.1/\s.1<=θ x.2.1.2.2.2.1/\KL B (x.2.1.1,x.2.1.2.1,x.1,j.1,(x.2.1.2.2.2.2.1,[]),x.2.1.2.2.2.1,x.2.1.2.2.2.2.2.2,x.2.1.2.2.2.2.2.1) s.2.1) (λ(s:Int×AT×AT)=>((θ x.2.1.2.2.2.1:Int)-s.1).toNat) ⟨Af _,q!,KL.refl k t⟩ (λs o=>?_);have⟨m,v,d⟩:=o;unfold Sh;rw[(AZ (x:=s.1+1))];refine AC (λc=>?_) (λ_=>AB ⟨λu a=>(by cases a),λu a=>q!⟩);simp[len]at c;refine AA (AJ m c) λz _=>AP (λ_=>AB ⟨⟨q!,o!,d⟩,o!⟩) (λ_=>AA (AJ m c) λA _=>AA (F4 d.2.2.1.sb) λC n=>AL (λc=>AB ⟨λu a=>(by cases a;exact c),λu a=>(by cases a)⟩) (λb=>AB ⟨⟨o!,o!,d.trans ((n b).2.1.kl d.2.2.1 u!)⟩,o!⟩));have:=hr.2 u a;exact⟨this.1,this.2.2.1,this.2.2.2,this.2.1⟩
end Go.Pm
namespace Go.Pm
open Go Go.Ab
set_option maxHeartbeats 400000
variable {B:Int->Prop}
def gX{x:AV×Int×Cs}(h:SK B x.1.1)(p:Do x.1.1.2.2.1)(o:DJ B x.1.1.2.2.1 x.1.2):As (Ml x) λr=>SR B x.1 r.1/\(r.2.1≠0->TP r.1.1.2.2.2.2.2.1<TP x.1.1.2.2.2.2.2.1):=by
 unfold Ml;refine AA (P:=λr=>SR B x.1 r.2.2/\(r.1≠0->TP r.2.2.1.2.2.2.2.2.1<TP x.1.1.2.2.2.2.2.1)) ?_ λr hr=>AB hr;refine AW (λ(s:Int×AV×AV)=>SR B x.1 s.2.1/\TP s.2.1.1.2.2.2.2.2.1<=TP x.1.1.2.2.2.2.2.1/\(s.1≠0->TP s.2.1.1.2.2.2.2.2.1<TP x.1.1.2.2.2.2.2.1)) (λ(s:Int×AV×AV)=>2*TP s.2.1.1.2.2.2.2.2.1+flag (¬nU s.2.1.1.2.2.2.1 x.2.2.1)) ⟨⟨KL.refl h p,o⟩,An _,λe=>N! rfl e⟩ (λs d=>?_);obtain⟨d,v,j⟩:=d;have k:=d.1.2.2;unfold T1;refine AA (gM k.1 k.2) λw n=>?_;obtain⟨k1,q,t⟩:=n;refine AP (λ_=>AB ⟨d,j⟩) (λm=>AA (P:=λr=>(∃u,r=.inl u/\u.1=s.1/\u.2.2=s.2.1)\/∃u,r=.inr u/\SR B s.2.1 u.2.1/\(TP u.2.1.1.2.2.2.2.2.1<TP s.2.1.1.2.2.2.2.2.1\/(u.1=s.1/\TP u.2.1.1.2.2.2.2.2.1=TP s.2.1.1.2.2.2.2.2.1/\nU u.2.1.1.2.2.2.1 x.2.2.1/\¬nU s.2.1.1.2.2.2.1 x.2.2.1))) ?_ λr hr=>?_);apply AP<;>intro l;obtain⟨a,b,c⟩:=q l;refine AA (Hj k.1 d.2) λy i=>AL (λ_=>AB (.inl ⟨_,rfl,rfl,rfl⟩)) (λe=>AB (.inr ⟨_,rfl,(i e).1.sr,.inr ⟨rfl,?_,?_,b⟩⟩));have:=(i e).1.1.2.2.2.2.1;exact E! TP this;have:=(i e).2;rw[a]at this;exact this;refine AP (λ_=>AB (.inl ⟨_,rfl,rfl,rfl⟩)) (λc0=>AB (.inr ⟨_,rfl,⟨k1,d.2.up k1.2.1⟩,.inl (t l m c0)⟩));rcases hr with⟨u,rfl,g⟩|⟨u,rfl,g⟩;refine BK (AB ?_);dsimp only;rw[g.1,g.2];exact⟨d,j⟩;refine A4 (AB ?_);obtain⟨q1,q2⟩:=g;rcases q2 with q2|⟨q2,q3,q4,q5⟩;have f:=ABQ (¬nU u.2.1.1.2.2.2.1 x.2.2.1);exact⟨⟨d.trans q1,o!,λ_=>o!⟩,by first|omega|(dsimp only;omega)⟩;refine⟨⟨d.trans q1,o!,λe=>by rw[q3];exact j (by rw[<-q2];exact e)⟩,?_⟩;try dsimp only
 rw[w7 q5,w6 (λh=>h q4),q3];omega
def Si{x:AT×Int}(h:SB x.1):As (IH x) λr=>True:=by unfold IH;refine AA (CA h) λv c=>AA (P:=λ_=>True) ?_ λr _=>BG (λ_ _=>AB trivial) (λ_ _=>AB trivial);refine AK (λ_=>?_) (λ_=>AB trivial);refine AA (Fh h.2.1) λd a=>AC (λb=>?_) (λ_=>AB trivial);refine AA (AJ b a.2.1) λ_ _=>AP (λ_=>?_) (λ_=>AB trivial);exact AA (AJ b a.2.1) λ_ _=>AB trivial
def ZV{x:AT}{s:Int×List Int}(h:0<=s.1/\s.1<=θ x.2.2.2.2.2.1/\θ x.2.2.2.2.2.1<=16777216/\θ s.2<=s.1/\SB x):As (Ai (OG x) s) λr=>True:=by
 refine AW (λ(s:Int×List Int)=>0<=s.1/\s.1<=θ x.2.2.2.2.2.1/\θ x.2.2.2.2.2.1<=16777216/\θ s.2<=s.1/\SB x) (λ(s:Int×List Int)=>((θ x.2.2.2.2.2.1:Int)-s.1).toNat) h (λs c=>?_);unfold OG;exact x!
def gS{x:AT}(h:SK B x):As (Mi x) λr=>True:=by unfold Mi;exact AA (ZV ⟨Af _,d!,h.2.1,k!,h.sb⟩) λ_ _=>AB trivial
def Wy{x:AT×Int}{c:Av×Bool}{a:List Int}{s:Int×Cs}(h:0<=s.1/\s.1<=θ a/\θ a<=16777216/\SB x.1):As (Ai (K7 x c a) s) λr=>True:=by
 refine AW (λ(s:Int×Cs)=>0<=s.1/\s.1<=θ a/\θ a<=16777216/\SB x.1) (λ(s:Int×Cs)=>((θ a:Int)-s.1).toNat) h (λs d=>?_);unfold K7;exact x!
def ZU{x:AT×Int}(h:SK B x.1):As (J3 x) λr=>True:=by unfold J3;refine AA (IZ h.1) λb _=>AO (λ_=>AB trivial) (λ_=>AA (Lb h.1) λc a=>AA (Wy ⟨Af _,d!,o!,h.sb⟩) λr _=>BG (λ_ _=>AB trivial) (λ_ _=>AB trivial))
def kL{x:AV×Int×Cw}(h:SK B x.1.1)(k:Do x.1.1.2.2.1)(j:DJ B x.1.1.2.2.1 x.1.2):As (PE x) λr=>SR B x.1 r.1:=by unfold PE;refine AA (P:=λr=>SR B x.1 r.1) ?_ λr hr=>AB hr;refine AW (λ(s:AV×AV×BY)=>SR B x.1 s.1) (λ(s:AV×AV×BY)=>TP s.1.1.2.2.2.2.2.1) ⟨KL.refl h k,j⟩ (λs c=>?_);have g:=c.1.2.2;unfold Vd;refine AA (kK g.1 g.2 c.2) λm e=>?_;have b:=c.trans e.1;have a:=b.1.2.2;refine AL (λ_=>AB b) (λi=>?_);have l:=e.2 i;refine AA (ZU a.1) λn _=>AO (λ_=>AB b) (λ_=>AA (gX a.1 a.2 b.2) λo f=>?_);have d:=b.trans f.1;refine AL (λ_=>?_) (λ_=>?_);exact AA B3 λp _=>AB d;refine AP (λ_=>AB d) (λc0=>AB ⟨d,?_⟩);have:=f.2 c0;dsimp only at*;rw[l]at this;exact this
def gW{x:AV}(h:SK B x.1)(p:Do x.1.2.2.1)(g:DJ B x.1.2.2.1 x.2):As (Mk x) λr=>r.2.2=0->SR B x r.1:=by
 unfold Mk;refine AA (CA h.sb) λv H=>AO (λ_=>AB n!) (λc=>AC (λc=>?_) (λ_=>?_));simp only[len]at c;refine AA (AJ (Af _) c) λJ _=>AA (Hj h g) λK y=>AB λa=>(y a).1.sr;refine AA (gS h) λF _=>AP (λ_=>AB λ_=>⟨KL.refl h p,g⟩) (λk=>?_);simp only[len]at k;refine AA (P:=λr=>r.2.1=0->SR B x r.2.2) ?_ λr hr=>AB hr;obtain⟨id,t,G⟩:=(AJ (l:=F) (i:=0) (Af _))
 refine AW (λ(s:AV×AV)=>SR B x s.1) (λ(s:AV×AV)=>flag (∃e,NX s.1.1 id e/\¬nU s.1.1.2.2.2.1 e.2.2.2.2.2.2.1.1)) ⟨KL.refl h p,g⟩ (λs b=>?_);have j:=b.1.2.2;unfold T0;rw[t];apply BF;refine AA (Ur j.1 j.2) λL A=>?_;obtain⟨k1,C,I,D⟩:=A;refine AP (λz=>AB λa=>N! a (D z)) (λ_=>AL (λ_=>AB λ_=>⟨b.1.trans k1,b.2.up k1.2.1⟩) (λq=>?_));obtain⟨e,n,u,w⟩:=C q;refine AA (Hj j.1 b.2) λM o=>AL (λc=>AB λa=>N! a c) (λa=>AB ⟨b.trans (o a).1.sr,?_⟩);obtain⟨m,d⟩:=o a;have E:=m.1.2.2.2.2.1;rw[w7 (⟨e,n,w⟩:∃e,NX s.1.1 id e/\¬nU s.1.1.2.2.2.1 e.2.2.2.2.2.2.1.1),w6];omega;rintro⟨f,q1,q2⟩;have:=n.uniq q1 E m.1.2.1;subst this;dsimp only at d;rw[u]at d;exact q2 d
end Go.Pm
namespace Go.Pm
open Go Go.Ab
set_option maxHeartbeats 400000
def runN{S R:Type}(f:S->Option (Step S R)):Nat->S->Option R
 |0,_=>ε
 |n+1,s=>
  match f s with
  |some (.next s')=>runN f n s'
  |some (.done r)=>δ r
  |none=>ε
def xc{S R:Type}{f:S->Option (Step S R)}{r:R}:∀{n:Nat}{s:S},runN f n s=δ r->Ai f s=δ r
 |0,s,h=>by cases h
 |n+1,s,h=>by simp only[runN]at h;rw[HG];split at h;rename_i b e;rw[e];exact xc h;rename_i a e;rw[e];exact h;cases h
def UL:BX:=[80,77,76,71,1,0,0,0,0,0,0,0]
def AGW:Al (([80,77,76,71]:List UInt8),1,8)=δ UL:=by rw[(by kernel_rfl:Al (([80,77,76,71]:List UInt8),1,8)=σ (Ai (GY (([80,77,76,71]:List UInt8),1,8)) (([80,77,76,71]:List UInt8),0)) λa=>δ a),xc (n:=10) (r:=UL) (by kernel_rfl)];rfl
def AF7:Ay (UL,4,8)=δ (1,0):=by rw[(by kernel_rfl:Ay (UL,4,8)=σ (Ai (GX (UL,4,8)) (0,0)) λa=>δ (wi a,0)),xc (n:=10) (r:=1) (by kernel_rfl)];rfl
def nH(a b:List AE):KR (a++b)=KR a++KR b:=by grind[KR]
def AH0:MY 1=δ (Hd UL):=by unfold MY;rw[AGW,AD,bQ g!,AD]
def AF4{e:AE}(h:L5 e):Im e=δ (Hd (Bz e)):=by grind[Im,qS,bQ,SI]
def Do.ent{l:Aa}(h:Do l){e:AE}(a:e∈l.2.1):L5 e:=by have⟨k,b⟩:=FG.1 a;exact(h.2.2.2.2.2 k e b).2
def AFp{l:Aa}{a:Int}(h:Do l)(D:l.1=1):As (G2 (l,a)) λr=>∃m:Nat,r=Hd UL++(KR (l.2.1.take l.2.2.toNat)++(KR (l.2.1.drop l.2.2.toNat)).take m):=by
 have O:=h.2.2.1;have Q:=h.2.2.2.1;have R:=h.2.2.2.2.1;have b:∀k:List AE,(∀e∈k,e∈l.2.1)->(KR k).length<=8400*θ k:=λk w=>rk λe d=>h.ent (w e d);have⟨v,H,g⟩:=Bo (x:=l);have g:=g.2 h;subst g;unfold G2;dsimp only;rw[H,AD,CM,A!,D,AH0,AD];refine AA (P:=λr=>r=(Hd UL++KR (l.2.1.take l.2.2.toNat),KR (l.2.1.drop l.2.2.toNat))) ?_ λK o=>?_
 ·refine Cp (λ(s:BX×BX×Int)=>∃k:Nat,k<=θ l.2.1/\s=(Hd UL++KR ((l.2.1.take k).take l.2.2.toNat),KR ((l.2.1.take k).drop l.2.2.toNat),(k:Int))) (λs=>θ l.2.1-s.2.2.toNat) ⟨0,Bc _,by simp[KR]⟩ ?_;rintro s ⟨k,w,rfl⟩;unfold SU;dsimp[len];refine AC (λB=>?_) (λB=>As.done (by rw[BP (l:=l.2.1) (i:=k) o!]));have f:k<θ l.2.1:=o!
  have I:ix l.2.1 (k:Int)=δ l.2.1[k]:=by unfold ix;rw[C! o!,Int.toNat_natCast,List.getElem?_eq_getElem f]
  have j:=h.2.2.2.2.2 k _ (Ar f);have t:l.2.1.take (k+1)=l.2.1.take k++[l.2.1[k]]:=t!
  have E:(l.2.1.take k).length=k:=q!
  have y:(Hd UL++KR ((l.2.1.take k).take l.2.2.toNat)).length<=40000000:=by
   have:=b ((l.2.1.take k).take l.2.2.toNat) λe d=>GH (GH d);have c:(Hd UL).length=20:=by rw[Ep];rfl
   grind[List.length_append,List.length_take]
  have z:(KR ((l.2.1.take k).drop l.2.2.toNat)).length<=40000000:=q!
  have C:=SI j.2;rw[I,AD,AD,AD,AF4 j.2,AD,AD,AZ (x:=(k:Int)+1)];refine AA (P:=λr=>r=(Hd UL++KR ((l.2.1.take (k+1)).take l.2.2.toNat),KR ((l.2.1.take (k+1)).drop l.2.2.toNat))) ?_ λJ n=>?_;apply AC<;>intro S;have q:k+1<=l.2.2.toNat:=o!
  refine AA (CE (by rw[Ep];omega)) λN u=>AB ?_;grind[List.drop_of_length_le,List.length_take,List.take_of_length_le,SL,List.append_assoc];have q:l.2.2.toNat<=k:=o!
  refine AA (CE (by rw[Ep];omega)) λN u=>AB ?_;rw[u.1,t,eL o!,pH o!,SL]
  ·rw[n];exact As.next ⟨k+1,f,by rw[show(k:Int)+1=((k+1:Nat):Int) by omega]⟩ d!
 subst o;dsimp[len];have A:∃m:Nat,(if(((KR (l.2.1.drop l.2.2.toNat)).length:Int)<(if(0>a)then 0 else a))then((KR (l.2.1.drop l.2.2.toNat)).length:Int)else(if(0>a)then 0 else a))=(m:Int)/\m<=(KR (l.2.1.drop l.2.2.toNat)).length:=by refine⟨(if(((KR (l.2.1.drop l.2.2.toNat)).length:Int)<(if(0>a)then 0 else a))then((KR (l.2.1.drop l.2.2.toNat)).length:Int)else(if(0>a)then 0 else a)).toNat,?_,?_⟩;split<;>split<;>omega;split<;>split<;>omega
 have⟨m,F,G⟩:=A;rw[F];refine AA (CY (Af _)) λL c=>?_;have y:(Hd UL++KR (l.2.1.take l.2.2.toNat)).length<=40000000:=by
  have:=b (l.2.1.take l.2.2.toNat) λe d=>GH d;have c:(Hd UL).length=20:=by rw[Ep];rfl
  rw[AY];rw[BR]at this;omega
 have z:(KR (l.2.1.drop l.2.2.toNat)).length<=40000000:=by have:=b (l.2.1.drop l.2.2.toNat) λe d=>QU d;rw[C5]at this;omega
 refine AA (CE (by have:=c.2;omega)) λM p=>AB ⟨m,?_⟩;rw[p.1,c.1,A5];simp
def AIp{n:Nat}(h:n<=8392):bR 4 (n:Int):=⟨λ_=>q!,o!⟩
def AF6{p q s t:BX}(d:θ p<=8392)(e:θ q<=8392)(h:Hd p++s=Hd q++t):p=q/\s=t:=by
 have c:θ p=θ q:=by have a:=h;unfold Hd at a;simp at a;have:=(EY a (by rw[A0,A0])).1;have:=Xf g! (AIp d) (AIp e) this;omega
 have⟨b,f⟩:=EY h (by rw[Ep,Ep,c]);have g:=(EY b q!).2;grind[List.append_inj]
def AIC{b:List AE}{t y z:BX}{d:Nat}(hn:θ b<=4096)(D:∀(i:Nat)(e:AE),b[i]?=δ e->e.1=1+i/\L5 e)(G:t++y=KR b)(M:t=KR (b.take d)++z):As (JZ (Hd UL++t)) λr=>r.2=0->∃k:Nat,k<=θ b/\min d (θ b)<=k/\r.1=(1,b.take k,(k:Int)):=by
 have S:=rk (l:=b) λe A=>by obtain⟨k,m⟩:=FG.1 A;exact(D k e m).2
 have U:θ t<=40000000:=by have:=E! θ G;rw[AY]at this;omega
 have C:(Hd UL).length=20:=by rw[Ep];rfl
 have W:(Hd UL++t).length<=50000000:=by rw[AY];omega
 unfold JZ;have o:CQ (Hd UL++t,0)=δ (UL,20,0):=by refine(Vk (a:=[]) (t:=Hd UL++t) w!).trans (E! δ ?_);rw[mX g!];rfl
 rw[o,AD];dsimp only;rw[show((0:Int) !=0)=η by decide,A!,show(len UL !=12)=η by decide,A!,show R0 UL 0 4=δ [80,77,76,71]from rfl,AD,H!,A!,AF7,AD];dsimp only;rw[F! g!,A!,F! g!,A!,show wi ((1:Int)-1)=0 from rfl];refine AA (P:=λr=>∃k:Nat,k<=θ b/\min d (θ b)<=k/\((∃u,r=.inl u/\u.2=(1,b.take k,(k:Int)))\/∃u,r=.inr u/\(u.2.1,u.1,u.2.2.1)=(1,b.take k,(k:Int)))) ?_ λr hr=>?_
 ·refine Cp (λ(s:Int×List AE×Int×Int×Aa)=>∃(k:Nat)(z:Aa)(c:BX),k<=θ b/\s=(((Hd UL++KR (b.take k)).length:Int),b.take k,1,(k:Int),z)/\t=KR (b.take k)++c) (λs=>θ b-θ s.2.1) ⟨0,(0,[],0),t,Bc _,by simp[KR,C],by simp[KR]⟩ ?_;rintro s ⟨k,z,c,m,rfl,hr⟩;have E:(b.take k).length=k:=by rw[BR];omega
  have H:k<min d (θ b)->∃p R,θ p<=8392/\c=Hd p++R:=λn=>by
   have g:k<θ b:=o!
   have N:b.take d=b.take (k+1)++(b.take d).drop (k+1):=by
    conv=>lhs;rw[<-Dr (k+1) (b.take d)]
    rw[Kt,QY o!]
   have O:b.take (k+1)=b.take k++[b[k]]:=by rw[Co,Ar g];rfl
   rw[N,O,nH,SL,A5,A5]at M;exact⟨_,_,SI (D k _ (Ar g)).2,(EY (hr.symm.trans M) rfl).2⟩
  unfold Ts;dsimp only[len];refine AC (λQ=>?_) (λQ=>As.done ⟨k,m,Nat.le_of_not_lt λn=>?_,.inr ⟨_,rfl,rfl⟩⟩);rotate_left 1;omega;have w:Hd UL++t=(Hd UL++KR (b.take k))++c:=by rw[hr,A5]
  have F:=E! θ w;rw[@AY _ (Hd UL++KR (b.take k)) _]at F;have o:CQ (Hd UL++t,((Hd UL++KR (b.take k)).length:Int))=δ (UF (Hd UL++KR (b.take k)).length c):=by
   conv=>lhs;arg 1;rw[w]
   exact Vk o!
  rw[o,AD];refine AL (λB=>As.done ⟨k,m,Nat.le_of_not_lt λn=>?_,.inl ⟨_,rfl,rfl⟩⟩) (λB=>?_);obtain⟨p,R,T,V⟩:=H n;rw[V,mX T]at B;exact B rfl;obtain⟨X,⟨q,J⟩,Y⟩:=xw B;have j:KR b=KR (b.take k)++KR (b.drop k):=by rw[<-nH,Dr]
  have f:c++y=KR (b.drop k):=by rw[hr,A5,j]at G;exact(EY G rfl).2
  by_cases g:k<θ b
  ·have h:=D k _ (Ar g);rw[TX g,oL,J,A5]at f;obtain⟨I,Z⟩:=AF6 X (SI h.2) f;rw[I,AEh h.2,AD];dsimp only;rw[show((0:Int) !=0)=η by decide,A!,AZ (x:=(k:Int)+1),show(b[k].1 !=(k:Int)+1)=η by rw[h.1];exact bne_eq_false_iff_eq.2 o!,A!];have v:b.take (k+1)=b.take k++[b[k]]:=by rw[Co,Ar g];rfl
   refine AA (Ad (by rw[Ba,Bb];omega)) λv6 L=>As.next ⟨k+1,z,q,g,?_,?_⟩ ?_
   rw[L.1,Y,I,v,SL,<-A5,AY (bs:=Hd (Bz b[k])),Ep];refine Ck ?_ (Ck rfl (Ck rfl (Ck ?_ rfl)));dsimp only;omega;dsimp only;rw[h.1];omega;rw[hr,v,SL,A5,<-I,<-J];dsimp only;rw[L.2.1,E];simp only[Ba,Bb];omega
  exfalso;rw[Vq o!]at f;have K:=E! θ f;rw[J,AY,AY,Ep]at K;simp[KR]at K
 obtain⟨k,m,A,⟨u,rfl,o⟩|⟨u,rfl,o⟩⟩:=hr;exact BK (AB λ_=>⟨k,m,A,o⟩);exact A4 (AB λ_=>⟨k,m,A,o⟩)
variable {B:Int->Prop}
def CB(n:Int)(P:List AE)(s:BX):Prop:=∃es t y z,∃d:Nat,s=Hd UL++t/\t++y=KR es/\θ es<=4096/\Hs es/\LI n es/\P=es.take d/\t=KR (es.take d)++z
def yM{n a:Int}{l:Aa}(h:Do l)(b:l.1=1)(c:LI n l.2.1):As (G2 (l,a)) (CB n (dl l)):=by
 refine(AFp h b).mono λr ⟨m,hr⟩=>⟨l.2.1,_,(KR (l.2.1.drop l.2.2.toNat)).drop m,_,l.2.2.toNat,hr,?_,h.2.2.1,h.num b,c,rfl,rfl⟩
 rw[A5,Dr,<-nH,Dr]
def CB.open_{n:Int}{P:List AE}{s:BX}(h:CB n P s):As (JZ s) λr=>r.2=0->Do r.1/\r.1.1=1/\LI n r.1.2.1/\∃m,P=(dl r.1).take m:=by
 obtain⟨b,t,y,z,d,rfl,p,hn,c,g,rfl,j⟩:=h;refine(AIC hn c p j).mono λr hr u=>?_;obtain⟨k,v,o,e⟩:=hr u;rw[e];have w:(b.take k).length=k:=q!
 refine⟨⟨Af _,q!,q!,q!,d!,λi f l=>?_⟩,rfl,?_,min d (θ b),?_⟩;have:=c.take k i f l;exact this;rw[<-Dr k b]at g;exact g.pre;unfold dl;dsimp only;rw[Cz,Kt,Kt,QY (a:=min d (θ b)) o!,QY o];rcases Nat.le_total d (θ b) with q|q;rw[QY q];rw[Nat.min_eq_right q,BP q,HT]
def SQB(B:Int->Prop)(n:Int)(s:AV):Prop:=s.1.1=n/\SK B s.1/\Do s.1.2.2.1/\DJ B s.1.2.2.1 s.2
def SQ(n:Int)(s:AV):Prop:=∃B,SQB B n s
def SQB.sr{n:Int}{s r:AV}(h:SQB B n s)(g:SR B s r):SQ n r:=⟨B,g.1.1.trans h.1,g.1.2.2.1,g.1.2.2.2,g.2⟩
def gU{P:List AE}{x:Br×BX×Int×Int}(n:CB x.2.2.1 P x.2.1)(o:DP B P x.1):As (Qs x) λr=>r.2=0->SQ x.2.2.1 r.1:=by refine AA n.open_ λp j=>AL (λa=>AB λb=>N! b a) (λc=>?_);obtain⟨f,g,h,m,i⟩:=j c;refine AA (ZS f g h) λq k=>AL (λa=>AB λb=>N! b a) (λd=>?_);obtain⟨a1,a2,a3,a4,a5⟩:=k d;refine AA (de (B:=B) f ⟨a2,a3,a4⟩ q! q!) λs l=>AL (λa=>AB λb=>N! b a) (λe=>AB λ_=>?_);obtain⟨q1,q2,q3,q4⟩:=l e;exact⟨B,q1.trans a1,q2,q3,DJ.up ⟨g,o.up i⟩ q4⟩
def gV{P:List AE}{x:Br×BX×Int×Int}(b:CB x.2.2.1 P x.2.1)(c:DP B P x.1):As (Qt x) λr=>r.2=0->SQ x.2.2.1 r.1:=by exact AA (gU b c) λd a=>AB a
theorem AIa{n o:BX}{c:Nat}(hn:n.length=256)(p:o.length=256)(h:n.take 8=n.drop 248)(d:o.take 8=o.drop 248)(j:n.take 8=o.take 8->n=o)(b:(n.take c++o.drop c).take 8=(n.take c++o.drop c).drop 248):n.take c++o.drop c=n\/n.take c++o.drop c=o:=by
 have g: ∀i:Nat,(n.take c++o.drop c)[i]? =if i<c then n[i]? else o[i]? :=λi=>by grind
 have q: ∀{l:BX},l.take 8=l.drop 248-> ∀i:Nat,i<8->l[i]? =l[248+i]? :=λ{l} e i a=>by have:=congrArg (λl:BX=>l[i]?) e;rw[Jk a,Km]at this;exact this
 by_cases m:c<8;refine .inr (I6 λi=>?_);rw[g i];split;rename_i a;have:=q b i (by omega);rw[g,g,if_pos a,if_neg (by omega),<-q d i (by omega)]at this;exact this;rfl;refine .inl ?_;by_cases k:c<=248;have e:n=o:=j (I6 λi=>by by_cases a:i<8;have:=q b i a;rw[g,g,if_pos (by omega),if_neg (by omega),<-q d i a]at this;rw[Jk a,Jk a];exact this;rw[Cn (by rw[BR];omega),Cn (by rw[BR];omega)]);rw[e,Dr];refine I6 λi=>?_;rw[g i];split;rfl;rename_i a;by_cases f:i<256;have:=q b (i-248) (by omega);rw[g,g,if_pos (by omega),if_neg (by omega),show 248+(i-248)=i by omega,q h (i-248) (by omega),show 248+(i-248)=i by omega]at this;exact this.symm;rw[Cn (by omega),Cn (by omega)]
def AFE:(jN 256).take 8=(jN 256).drop 248:=g!
def DP.tear{P:List AE}{d t:Br}{p:Int}{o n m:BX}{c:Nat}(h:DP B P d)(z:0≤p)(f:B p)(E:DI t)(I:d.1[p.toNat]?=δ o)(H:m=n.take c++o.drop c)(F:t.1=Eo d.1 p m){x:AS}(r:HO x)(hn:n=H4 x)(D:AHZ P p n)(N:1≤x.2.1)
  (M:∀j,(st (P.take j) p).2.1=x.2.1->st (P.take j) p=x) (K:∀j,HO (st (P.take j) p)):∃A,DP A P t:=by
 have g:=(h.2 _ _ I).1 (by rw[I5 z];exact f);rw[I5 z]at g;have y:∀(i:Nat)(s:BX),i≠p.toNat->t.1[i]?=δ s->d.1[i]?=δ s:=λi s l a=>by rw[F]at a;unfold Eo at a;rwa [DW o!]at a
 have w:∀s:BX,t.1[p.toNat]?=δ s->s=m:=λs a=>by rw[F]at a;unfold Eo at a;grind
 by_cases b:dead m;refine⟨λj=>B j/\j≠p,E,λi s a=>?_⟩;by_cases l:i=p.toNat
 subst l;rw[w s a];exact⟨λf=>N! (I5 z) f.2,.inr b⟩;have:=h.2 i s (y i s l a);exact⟨λf=>this.1 f.1,this.2.imp_left λf=>⟨f,o!⟩⟩;have C:m.take 8=m.drop 248:=by by_cases L:m=jN 256;rw[L];exact AFE;by_cases J:∃q,HO q/\m=H4 q;obtain⟨q,q1,q2⟩:=J;rw[q2,Ua,oE q1];exact N! ⟨L,λq q1 q2=>J ⟨q,q1,q2⟩⟩ b
 have v:o.take 8=o.drop 248/\(n.take 8=o.take 8->n=o):=by rcases g with rfl|⟨j,rfl⟩;refine⟨AFE,λe=>?_⟩;rw[hn,Ua]at e;have:=Xf (k:=8) (n:=x.2.1) (m:=0) g! ⟨n!,by have:=r.2.2.1;omega,by have:=r.2.2.2.1;omega⟩ ⟨n!,g!,g!⟩ e;omega;refine⟨Ua.trans (oE (K j)).symm,λe=>?_⟩;rw[hn,Ua,Ua]at e;have G:=K j;have:=Xf (k:=8) g! ⟨n!,by have:=r.2.2.1;omega,by have:=r.2.2.2.1;omega⟩ ⟨n!,by have:=G.2.2.1;omega,by have:=G.2.2.2.1;omega⟩ e;rw[hn,M j this.symm]
 have u:=AIa (c:=c) (by rw[hn];exact cw r) (h.1.2.1 _ _ I) (by rw[hn,Ua,oE r]) v.1 v.2 (by rw[<-H];exact C);rw[<-H]at u;refine⟨B,E,λi s a=>?_⟩;by_cases l:i=p.toNat
 subst l;rw[w s a,I5 z];refine⟨λ_=>?_,.inl f⟩;rcases u with e|e<;>rw[e];exact D;exact g;exact h.2 i s (y i s l a)
def di{x:AV×Int×Int×Int}(h:SK B x.1.1)(D:Do x.1.1.2.2.1)(v:DJ B x.1.1.2.2.1 x.1.2):As (Lo x) λr=>∃A P,DP A P r.1/\CB x.1.1.1 P r.2:=by
 unfold Lo;refine AA Fg λi Q=>AC (λO=>?_) (λ_=>AA (yM D v.1 h.ki.1) λL E=>AB (⟨B,dl x.1.1.2.2.1,v.2,E⟩:∃A P,DP A P x.1.2/\CB x.1.1.1 P L));have⟨J,f,G,m⟩:=Q.2.2.1 O;obtain⟨g,M,Y,c⟩:=AJ O Q.2.1;have e:=Bg (Y.symm.trans G);subst e;dsimp only at M m c;rw[M];refine BF (AA (P:=λr:AT×Br=>(∃A,DP A (dl r.1.2.2.1) r.2)/\Do r.1.2.2.1/\r.1.2.2.1.1=1/\LI x.1.1.1 r.1.2.2.1.2.1) ?_ λv8 W=>?_);rotate_left 1;obtain⟨⟨A,R⟩,S,T,N⟩:=W;refine AA (yM S T N) λv9 X=>AB ?_;exact⟨A,dl v8.1.2.2.1,R,X⟩;refine AK (λF=>?_) (λ_=>?_);rotate_left 1;apply AB;exact⟨⟨B,v.2⟩,D,v.1,h.ki.1⟩;have⟨t,n,_⟩:=J.2.2.2.2.2.1 i.toNat g (by have:=C1 G;omega) G;have n:=n F;apply BF;rw[bP t];refine BF (BF (AA (Jx h D) λu a=>AA (gD v.2.1) λv6 U=>?_));have b:=v.up a.1.2.1;have q:=h.ki.2.2 g c;have K:=a.1.2.2.1.num b.1;have N:=a.1.2.2.1.2.2.1;have C:=a.1.2.2.2.2.2.ki;have s:g.1=st u.2.2.1.2.1 x.2.2.1:=by have:=(C.2.1 x.2.2.1 o! (by rw[a.1.1];dsimp only;omega)).1 g (by rw[a.2.1];exact c) m;exact this
 have I:=Ys K (p:=x.2.2.1) ⟨o!,by rw[<-m];exact t.2.1⟩ o!;have y:Bd u.2.2.1.2.1 x.2.2.1=g.1.2.1:=by rw[<-KB,<-s]
 have w:=a.2.2 (by have:=lP D g.1.1;have:=E! (λz=>z.2.1) ((h.ki.2.1 g.1.1 q.1 q.2.1).1 g c rfl);rw[KB]at this;dsimp only;omega);refine AA (P:=λd=>∃A,DP A (dl u.2.2.1) d) (AP (λZ=>AB ?_) (λ_=>AB ⟨B,b.2⟩)) λv7 V=>AB ⟨V,a.1.2.2.1,b.1,by have:=C.1;rw[a.1.1]at this;exact this⟩;obtain⟨t1,o,t2,t3,t4⟩:=U Z;refine b.2.tear t2 (by rw[<-m];exact q.2.2.2) t1 t3 rfl t4 t rfl ?_ o! (λj H=>?_) λj=>?_;refine .inr ⟨(dl u.2.2.1).length,?_⟩;rw[HT];unfold dl;dsimp only at w⊢;rw[AE1 K o!,<-s];unfold dl at H⊢;rw[Kt]at H⊢;rw[s,<-HT (l:=u.2.2.1.2.1)];rw[HT];have:=lY K (p:=x.2.2.1) (j:=min j u.2.2.1.2.2.toNat) (k:=θ u.2.2.1.2.1) (by rw[HT,y,<-H,KB]);rwa [HT]at this;unfold dl;rw[Kt];exact I _
def El{x:Int}:As (D8 x) λr=>True:=by exact AL (λ_=>AA B3 λ_ _=>AB trivial) (λ_=>AB trivial)
end Go.Pm
namespace Go.Pm
open Go Go.Ab
set_option maxHeartbeats 400000
def az{m:Nat}{c:AV×Bool}{s:Int×List Int×AV×Bool}(i:m<=16777216)(h:0<=s.1/\s.1<=m/\θ s.2.1=m/\s.2.2=c):As (Ai PF s) λr=>θ r.1=m/\r.2=c:=by refine AW (λ(s:Int×List Int×AV×Bool)=>0<=s.1/\s.1<=m/\θ s.2.1=m/\s.2.2=c) (λ(s:Int×List Int×AV×Bool)=>((m:Int)-s.1).toNat) h (λs g=>?_);obtain⟨b,j,d,f⟩:=g;unfold PF;have e:=AZ (x:=s.1+1);rw[e];refine AC (λa=>?_) (λ_=>AB ⟨d,f⟩);simp only[len]at a;refine AA (AJ b a) λ_ _=>AA (AJ b a) λ_ _=>AB ⟨⟨d!,d!,by simp[Eo,d],f⟩,d!⟩
def jF{n:Int}{x:AV×List Kr}(h:SQ n x.1):As (Ni x) λr=>SQ n r.1:=by
 unfold Ni;refine AA (P:=λr=>SQ n r.2.2.2.1) ?_ λr hr=>AB hr;refine AW (λ(s:Int×List BY×List Int×List I0×AV×Bool)=>0<=s.1/\s.1<=1000/\θ s.2.1<=s.1/\θ s.2.2.1<=s.1/\θ s.2.2.2.1<=s.1/\SQ n s.2.2.2.2.1) (λ(s:Int×List BY×List Int×List I0×AV×Bool)=>(1000-s.1).toNat) ⟨Af _,d!,k!,k!,k!,h⟩ (λs X=>?_);obtain⟨Z,i2,i3,i4,i5,o⟩:=X;obtain⟨B,i⟩:=id o;obtain⟨q1,q2,q3,q4⟩:=id i;unfold Ut;refine AC (λS=>?_) (λ_=>AB o);refine AC (λY=>?_) (λ_=>AB o);refine AO (λ_=>?_) (λ_=>AB o);simp only[len]at S;have e:=AZ (x:=s.1+1);have b:∀(v:BY)(t:List Int×List I0×AV×Bool),θ t.1<=s.1+1->θ t.2.1<=s.1+1->SQ n t.2.2.1->∀Q:Step (Int×(List BY×(List Int×(List I0×(AV×Bool))))) (List BY×(List Int×(List I0×(AV×Bool))))->Prop,(∀a:Int×List BY×List Int×List I0×AV×Bool,(0<=a.1/\a.1<=1000/\θ a.2.1<=a.1/\θ a.2.2.1<=a.1/\θ a.2.2.2.1<=a.1/\SQ n a.2.2.2.2.1)/\(1000-a.1).toNat<(1000-s.1).toNat->Q (.next a))->As (σ (app s.2.1 ([v]:List (Int×(Int×(Int×((Bool×BX)×Int)))))) λD=>δ (.next (wi (s.1+1),D,t))) Q:=by intro v t h1 O G Q I;refine AA (Ad w!) λD W=>AB (I _ ?_);have l7:=W.2.1;simp only[Ba,Bb]at l7;rw[e];exact⟨⟨d!,d!,d!,d!,d!,G⟩,d!⟩
 have same:∀(v:BY)(Q:Step (Int×(List BY×(List Int×(List I0×(AV×Bool))))) (List BY×(List Int×(List I0×(AV×Bool))))->Prop),(∀a:Int×List BY×List Int×List I0×AV×Bool,(0<=a.1/\a.1<=1000/\θ a.2.1<=a.1/\θ a.2.2.1<=a.1/\θ a.2.2.2.1<=a.1/\SQ n a.2.2.2.2.1)/\(1000-a.1).toNat<(1000-s.1).toNat->Q (.next a))->As (σ (app s.2.1 ([v]:List (Int×(Int×(Int×((Bool×BX)×Int)))))) λD=>δ (.next (wi (s.1+1),D,s.2.2))) Q:=λv Q I=>b v s.2.2 o! o! o Q I;refine AA (AJ Z S) λv1 _=>AP (λ_=>?_) (λ_=>?_);refine AA (dh q2 q3 q4) λv2 O=>AA (P:=λr=>θ r.1<=s.1+1/\r.2=s.2.2.2.2) ?_ λv4 R=>?_;refine AP (λ_=>?_) (λ_=>AB ⟨d!,rfl⟩);refine AA (Ad w!) λv3 G=>AB ⟨?_,rfl⟩;have:=G.2.1;simp at this;dsimp only;omega;refine AA (P:=λr=>SQ n r.1) ?_ λv5 V=>?_;refine AP (λf=>AB (i.sr (O f))) (λ_=>AB (by rw[R.2];exact o));refine AA El λv6 _=>b _ (v4.1,s.2.2.2.1,v5) R.1 d! V _ (λ_ h=>h);refine AP (λ_=>?_) (λ_=>?_);refine AC (λ_=>AA B3 λN _=>same _ _ (λ_ h=>h)) (λc1=>AC (λ_=>AA B3 λN _=>same _ _ (λ_ h=>h)) (λT=>?_));simp only[len]at T;have U:=AZ (x:=v1.2.1-1);rw[U];refine AA (AJ) λad _=>AA (AJ) λal _=>AP (λ_=>AA B3 λN _=>same _ _ (λ_ h=>h)) (λ_=>AA (AJ) λao _=>AA (AJ) λap _=>AA (kL q2 q3 q4) λJ E=>?_);have u:=i.sr E;refine AP (λ_=>same _ _ (λ_ h=>h)) (λ_=>AP (λ_=>?_) (λ_=>?_));refine AA (P:=λr=>θ r.1<=s.1+1/\SQ n r.2.1) ?_ λK y=>b _ (s.2.2.1,K) d! y.1 y.2 _ (λ_ h=>h);refine AP (λ_=>?_) (λ_=>AB ⟨d!,u⟩);refine AA Fe λar _=>AA (Ad w!) λax F=>AB ⟨?_,u⟩;have:=F.2.1;simp at this;dsimp only;omega;exact b _ (s.2.2.1,s.2.2.2.1,J.1,s.2.2.2.2.2) d! d! u _ (λ_ h=>h);refine AP (λ_=>?_) (λ_=>?_);refine AA (dj q2 q3 q4) λC j=>AA (P:=λr=>SQ n r.1) (AP (λf=>AB (i.sr (j f))) (λ_=>AB o)) λg d=>AA El λw _=>b _ (s.2.2.1,s.2.2.2.1,g) d! d! d _ (λ_ h=>h);refine AP (λ_=>?_) (λ_=>?_);refine AA (Wz q2 q4) λC j=>AA (P:=λr=>SQ n r.1) (AP (λf=>AB (i.sr (j f))) (λ_=>AB o)) λg d=>AA El λw _=>b _ (s.2.2.1,s.2.2.2.1,g) d! d! d _ (λ_ h=>h);refine AP (λ_=>?_) (λ_=>?_);refine AA Fe λa0 _=>AA Ju λa1 k=>AA (P:=λr=>SQ n r.1) (AP (λf=>AB ⟨B,q1,SB.sk q2.sb (q2.ki.of rfl (k f).2.1 rfl rfl),(k f).1,q4.up (LX.of (k f).2.2.1 (k f).2.1 (k f).2.2.2.1)⟩) (λ_=>AB o)) λg d=>AA El λw _=>b _ (s.2.2.1,s.2.2.2.1,g) d! d! d _ (λ_ h=>h);refine AP (λ_=>?_) (λ_=>?_);refine AA (di q2 q3 q4) λa2 ⟨A,P,z⟩=>AA (gV z.2 z.1) λL H=>AA (az (m:=θ s.2.2.1) (c:=s.2.2.2.2) o! ⟨Af _,d!,rfl,rfl⟩) λp q=>AL (λ_=>?_) (λf=>?_);refine AA El λM _=>b _ (p.1,s.2.2.2.1,p.2.1,ζ) (by have:=q.1;dsimp only;omega) d! (by dsimp only;rw[q.2];exact o) _ (λ_ h=>h);refine AA El λM _=>?_;have l:=H f;dsimp only at l;rw[q1]at l;exact b _ (p.1,s.2.2.2.1,L.1,p.2.2) (by have:=q.1;dsimp only;omega) d! l _ (λ_ h=>h);refine AP (λ_=>?_) (λ_=>?_);refine AA (gW q2 q3 q4) λC j=>AA (P:=λr=>SQ n r.1) (AP (λf=>AB (i.sr (j f))) (λ_=>AB o)) λg d=>AA El λw _=>b _ (s.2.2.1,s.2.2.2.1,g) d! d! d _ (λ_ h=>h);exact AA B3 λN _=>same _ _ (λ_ h=>h)
def CX(b:AU):Prop:=0<=b.2/\θ b.1<=16777216/\∀x∈b.1,0<=x/\x<256
def CX.step{b:AU}(h:CX b)(a:b.2<θ b.1):CX (b.1,wi (b.2+1)):=by have⟨a1,a2,a3⟩:=h;rw[(AZ (x:=b.2+1))];exact⟨d!,a2,a3⟩
def Vz{b:AU}(h:CX b):As (HK b 256) λr=>CX r.2/\0<=r.1/\r.1<256:=by unfold HK;refine AC (λ_=>AB ⟨h,Af _,by show(0:Int)<256;decide⟩) (λa=>?_);simp[len]at a;refine AC n! (λ_=>AA (AJ h.1) λc d=>?_);have⟨f,g⟩:=h.2.2 c d.2;have e:=AZ (x:=c);refine AC n! (λ_=>AP n! (λ_=>AB ⟨h.step o!,?_,?_⟩));grind[Int.tmod_nonneg];grind[Int.tmod_lt_of_pos]
theorem Ag{b:AU}{x:Int}(h:CX b)(j:x<=4611686018427387904):As (Aj b x) λr=>CX r.2/\0<=r.1/\(r.1=0\/r.1<x):=by unfold Aj;refine AC (λ_=>AB ⟨h,Af _,.inl rfl⟩) (λa=>?_);simp[len]at a;refine AC (λ_=>AB ⟨h,Af _,.inl rfl⟩) (λf=>AA (AJ h.1) λc e=>?_);have⟨d,g⟩:=h.2.2 c e.2;rw[(AZ (x:=c))];refine AC (λ_=>?_) (λ_=>?_);refine AA (Vz (h.step o!)) λk i=>?_;grind[AP,AB,AZ,Int.tmod_nonneg,Int.tmod_lt_of_pos];refine AP (λa=>N! a o!) (λ_=>AB ⟨h.step o!,pA _ d,.inr (o9 _ o!)⟩)
def XO{b:AU}{x:Unit}(h:CX b):As (IX b x) λr=>CX r.2:=by unfold IX;refine AA (Ag h g!) λt e=>AA (Ag e.1 g!) λu m=>AA (P:=λr=>CX r.2/\0<=r.1/\r.1<=14) ?_ λc f=>?_;grind[AP,AB,AA,Ag];have⟨d,a,k⟩:=f;refine AA (P:=λl:List Int=>θ l=0) ⟨_,C! ⟨Af _,a,o!⟩,k!⟩ λv n=>AA (P:=λr=>CX r.2) ?_ λw g=>AB g;refine AW (λ(s:Int×List Int×AU)=>0<=s.1/\s.1<=c.1/\θ s.2.1<=s.1/\CX s.2.2) (λ(s:Int×List Int×AU)=>(c.1-s.1).toNat) ⟨Af _,a,d!,d⟩ (λs i=>?_);have⟨o,p,q,j⟩:=i;unfold Pb;rw[(AZ (x:=s.1+1))];refine AC (λ_=>?_) (λ_=>AB j);grind[AA,Ag,Ad,AB,List.length_cons,List.length_nil]
theorem YK{b:AU}{x:Unit}(h:CX b):As (HB b x) λr=>CX r.2:=by unfold HB;refine AA (Ag h g!) λf a=>AP (λ_=>AA (Ag a.1 g!) λe c=>AB c.1) (λ_=>AP (λ_=>?_) (λ_=>AA (Ag a.1 g!) λe c=>AB c.1));refine AA (Ag a.1 g!) λg d=>?_;have:=d.2.2;refine AA (AJ d.2.1 w!) λ_ _=>?_;grind[AA,AJ,AB]
theorem WP{b:AU}{x:Int}(h:CX b)(u:x<=1099511627776):As (Ho b x) λr=>CX r.2:=by
 unfold Ho;refine AA (Ag h g!) λv a=>?_;have l:=a.2.2;refine AA (AJ a.2.1 w!) λ_ _=>AA (AJ a.2.1 w!) λw _=>AA (P:=λ_=>True) (AK (λ_=>AB trivial) (λ_=>AA (P:=λ_=>True) (AK (λ_=>AB trivial) (λ_=>AB trivial)) λ_ _=>AB trivial)) λy _=>AA (P:=λr=>CX r.1) ?_ λp e=>?_;refine AK (λ_=>?_) (λ_=>?_);refine AA (Ag a.1 o!) λz m=>AA (Ag m.1 g!) λA j=>AA (P:=λr=>CX r.1) ?_ λt i=>AB i;refine AK (λ_=>?_) (λ_=>AB j.1);refine AA (XO j.1) λc n=>?_;have k:0<=(if(12<(len c.1))then 12 else(len c.1))/\(if(12<(len c.1))then 12 else(len c.1))<=θ c.1:=by simp[len];split<;>omega
 exact AA (CY (Af _) k.1 k.2) λB _=>AB n;refine AA (P:=λr=>CX r.1) ?_ λt i=>AB i;exact AK (λ_=>AA (Ag a.1 g!) λo d=>AB d.1) (λ_=>AB a.1);refine AA (Ag e g!) λq f=>AA (P:=λr=>CX r.1) ?_ λs g=>AB g;refine AK (λ_=>?_) (λ_=>AB f.1);grind[AA,YK,AB]
theorem XP{b:AU}{x:Int×Int×Bool}(h:CX b)(f:0<=x.1/\x.1<=64/\x.2.1<=64):As (IY b x) λr=>CX r.2:=by unfold IY;rw[(AZ (x:=x.1+1))];refine AA (Ag h g!) λg a=>AA (P:=λ_=>True) (AK (λ_=>AB trivial) (λ_=>AB trivial)) λi _=>AK (λ_=>AB a.1) (λ_=>AK (λ_=>AA (Ag a.1 o!) λj c=>AB c.1) (λ_=>AK (λ_=>AB a.1) (λ_=>AK (λ_=>AB a.1) (λ_=>AA (P:=λs=>(∃u,s=.inl u/\CX u.1)\/∃u,s=.inr u/\CX u.1) ?_ λs e=>?_))));refine AK (λ_=>?_) (λ_=>AK (λ_=>AB (.inl ⟨_,rfl,a.1⟩)) (λ_=>AB (.inr ⟨_,rfl,a.1⟩)));refine AK (λ_=>?_) (λ_=>AB (.inr ⟨_,rfl,a.1⟩));refine AA (Ag a.1 g!) λk d=>?_;grind[AA,Ag,AB];grind[BK,AB,A4,AA,Ag,WP]
def U8{b:AU}{x:Int×Int×Bool}(h:CX b)(g:0<=x.1/\x.1<=64/\x.2.1<=1000/\ -1000<=x.2.1):As (Gw b x) λr=>CX r.2:=by unfold Gw;rw[(AZ (x:=x.2.1+1))];refine AA (Ag h o!) λk a=>?_;have c:=a.2.2;refine AA (P:=λr=>CX r.2) ?_ λl d=>AB d;refine AW (λ(s:Int×List Kr×AU)=>0<=s.1/\s.1+θ s.2.1<=1010/\CX s.2.2) (λ(s:Int×List Kr×AU)=>s.1.toNat) ⟨a.2.1,w!,a.1⟩ (λs e=>?_);have⟨i,j,f⟩:=e;unfold MW;rw[(AZ (x:=s.1-1))];refine AC (λ_=>?_) (λ_=>AB f);grind[AA,XP,Ad,AB,List.length_cons,List.length_nil]
variable {B:Int->Prop}
def u6:Do (1,[],0):=⟨g!,g!,k!,g!,k!,λi e h=>by simp at h⟩
def iy{x:Unit}:As (Gq x) λr=>r=(1,[],0):=by unfold Gq;exact AB rfl
def jD{x:Int×Int}(h:1<=x.1/\x.1<=64/\1<=x.2/\x.2<=64):As (Ng x) λr=>r.2=0/\r.1.1=x.1/\SK (λ_=>True) r.1/\Do r.1.2.2.1/\r.1.2.2.1.1=1:=by unfold Ng;refine AC (λa=>N! a o!) (λ_=>AC (λa=>N! a o!) (λ_=>AC (λa=>N! a o!) (λ_=>AC (λa=>N! a o!) (λ_=>AA VV λf c=>AA VW λg d=>AA iy λi b=>AB ⟨rfl,rfl,⟨⟨k!,k!⟩,k!,k!,?_⟩,?_⟩))));unfold KI FD;dsimp only;rw[c,b];refine⟨LI.nil _,λp _ _=>⟨k!,k!,λw e=>?_⟩,k!⟩;have:=d w (BN e);exact⟨by rw[this];exact Af _,λ_ _=>this⟩;dsimp only;rw[b];exact⟨u6,rfl⟩
def AFz{x:Int}(h:1<=x/\x<=64):As (KG x) λr=>r.2=0:=by unfold KG;refine AC (λa=>N! a o!) (λ_=>AC (λa=>N! a o!) (λ_=>AA (SS o!) λb _=>AB rfl))
def jE{x:Int×Int}(h:1<=x.1/\x.1<=64/\1<=x.2/\x.2<=64):As (Nh x) λr=>SQ x.1 r.1:=by unfold Nh;refine AA (jD h) λe a=>AL (λc=>N! a.1 c) (λ_=>AA ((iu).and (AFz ⟨h.1,h.2.1⟩)) λf b=>AL (λc=>N! b.2 c) (λ_=>AB ?_));exact⟨_,a.2.1,a.2.2.1,a.2.2.2.1,a.2.2.2.2,(b.1 b.2).1,λi s d=>⟨λ_=>.inl (((b.1 b.2).2.2 i s d).trans (mJ _)),.inl trivial⟩⟩
def V0{b:AU}{x:Int×Bool}(h:CX b)(c:x.1<=1000/\ -1000<=x.1):As (HM b x) λr=>CX r.2/\∃n,1<=n/\n<=4/\SQ n r.1:=by unfold HM;refine AA (Ag h g!) λl a=>AA (Ag a.1 g!) λm g=>?_;obtain⟨a1,a2,a3⟩:=a;obtain⟨d,o,p⟩:=g;have e:=AZ (x:=1+l.1);have f:=AZ (x:=1+m.1);rw[e,f];refine AA (jE d!) λq i=>AA (U8 d ⟨d!,d!,c.1,c.2⟩) λs j=>AA (jF i) λt k=>AB ⟨j,_,d!,d!,k⟩
def OU{b:AU}{x:Int×Bool}(h:CX b)(d:x.1<=1000/\ -1000<=x.1):As (Hp b x) λr=>CX r.2/\1<=r.1.1/\r.1.1<=4/\LI r.1.1 r.1.2.2.1.2.1/\Do r.1.2.2.1/\r.1.2.2.1.1=1:=by unfold Hp;refine AA (V0 h d) λg a=>AB ?_;obtain⟨c,n,e,f,_,q1,q2,q3,q4⟩:=a;exact⟨c,d!,d!,q2.ki.1,q3,q4.1⟩
def kG{b:AU}{x:Int}(h:CX b)(g:x<=1000/\ -1000<=x):As (K1 b x) λr=>CX r.2.2/\1<=r.1/\r.1<=4/\Do r.2.1/\∃n,LI n r.2.1.2.1:=by unfold K1;refine AA (OU h g) λk d=>?_;obtain⟨c,i,j,q2,q3,q4⟩:=d;refine AA Fe λl f=>?_;have e:=f q3;refine AA (Ju.and (sO q3 d!)) λm a=>AB ⟨c,i,j,(a.1 a.2).1,_,by have:=q2;rw[<-(a.1 a.2).2.1]at this;exact this⟩
end Go.Pm
namespace Go.Pm
open Go Go.Ab
set_option maxHeartbeats 400000
def If{x:Int×Int×Int×Int×Int}:As (Hl x) λr=>r=ζ↔1<=x.1/\x.1<=x.2.1/\x.2.1<=1099511627776/\0<=x.2.2.1/\x.2.2.1<=x.2.2.2.1/\x.2.2.2.1<64/\0<=x.2.2.2.2/\x.2.2.2.2<=8:=by
 unfold Hl;exact x!
theorem MI{x:AE×AE}:As (D0 x) λr=>True:=by
 unfold D0;exact x!
def QD{x:List AE×AE}{s:Int}(h:0<=s/\s<=θ x.1/\(θ x.1:Int)<=16777216):As (Ai (MK x) s) λr=>0<=r/\r<=θ x.1:=by
 refine AW (λ(s:Int)=>0<=s/\s<=θ x.1/\(θ x.1:Int)<=16777216) (λ(s:Int)=>((θ x.1:Int)-s).toNat) h (λs a=>?_);unfold MK;exact x!
theorem bC{x:List AE×AE}(h:θ x.1<=16777215):As (DF x) λr=>θ r.1<=θ x.1+1:=by
 refine AA (QD ⟨Af _,o!⟩) λp a=>?_;have main:As (σ (W7 x.1 0 p) λb=>
  σ (W7 x.1 p (len x.1)) λc=>
  σ (app [] b) λd=>
  σ (app d ([x.2]:List (Int×(Int×(Int×(Int×(Int×(Int×((Int×(Int×((Bool×BX)×(Bool×BX))))×BX))))))))) λe=>
  σ (app e c) λf=>
  δ (f,ζ)) λr=>θ r.1<=θ x.1+1:=by
  refine AA (Bn (Af _) a.1 a.2) λj g=>AA (Bn a.1 q! q!) λk i=>?_;grind[AA,Ad,AB]
 refine AC (λl=>?_) (λ_=>main);grind[AA,AJ,MI,AP,AB]
def Yh{x:AQ}{s:Int}(h:0<=s/\s<=x.2.2.2.2.2.length/\(x.2.2.2.2.2.length:Int)<=16777216):As (Ai (HC x) s) λr=>r≠ .inl true:=by
 refine AW (λ(s:Int)=>0<=s/\s<=x.2.2.2.2.2.length/\(x.2.2.2.2.2.length:Int)<=16777216) (λ(s:Int)=>((x.2.2.2.2.2.length:Int)-s).toNat) h (λs b=>?_);unfold HC;repeat' with_reducible first|intro a|apply AC|apply AO|apply AP|apply AL|apply AK|(apply BF;try dsimp only)|apply Bh|apply B0|(apply BK;try dsimp only)|(apply A4;try dsimp only)|apply AB|(apply AA (CV);intro r hr)|(apply AA (CK);intro r hr)|(apply AA (MI);intro r hr)|(refine AM ?_ (AJ ?_ ?_);rintro r ⟨hr,c⟩)
 all_goals ((try dsimp[len]at*);(try first|omega|assumption|grind[AZ]|((try simp (disch:=omega) only[AZ,ne_eq,Sum.inl.injEq,Sum.inr.injEq,reduceCtorEq,not_false_eq_true,Bool.not_eq_true,len,true_and,and_true,or_false,false_or,false_implies,implies_true]at*)<;>(try intros)<;>(try and_intros)<;>(try intros)<;>(first|omega|assumption|grind))))
def Zw(x:AQ):Prop:=1<=x.1/\x.1<=x.2.1/\x.2.1<=1099511627776/\0<=x.2.2.1/\x.2.2.1<=x.2.2.2.1/\x.2.2.2.1<64/\0<=x.2.2.2.2.1/\x.2.2.2.2.1<=8/\θ x.2.2.2.2.2<=4096
def OJ{x:AQ}:As (EL x) λr=>r=ζ->Zw x:=by refine AA If λe b=>AO (λ_=>AB λa=>by cases a) (λc=>?_);have hn:=b.1 c;refine AC (λ_=>AB λa=>by cases a) (λd=>?_);simp[len]at d;refine AA (Yh ⟨Af _,o!⟩) λr hr=>?_;grind[Zw,BG,AB]
def Ri{x:List AE×Int×Int×Int×Int×Int}{s:Int×AQ}(h:0<=s.1/\s.1<=θ x.1/\θ x.1<=16777215):As (Ai (OH x) s) λr=>∀u,r=.inl u->u.1≠0:=by
 refine AW (λ(s:Int×AQ)=>0<=s.1/\s.1<=θ x.1/\θ x.1<=16777215) (λ(s:Int×AQ)=>((θ x.1:Int)-s.1).toNat) h (λs b=>?_);unfold OH;exact x!
def Rj{a:Bool×Int×AQ}{b:AE}{s:Bool×Int}(h:0<=s.2/\s.2<=θ a.2.2.2.2.2.2.2/\θ a.2.2.2.2.2.2.2<=16777215):As (Ai (OI a b) s) λr=>True:=by
 refine AW (λ(s:Bool×Int)=>0<=s.2/\s.2<=θ a.2.2.2.2.2.2.2/\θ a.2.2.2.2.2.2.2<=16777215) (λ(s:Bool×Int)=>((θ a.2.2.2.2.2.2.2:Int)-s.2).toNat) h (λs c=>?_);unfold OI;exact x!
def gZ{x:List AE×Int×Int×Int×Int×Int}(h:θ x.1<=16777215):As (Jc x) λr=>r.2=0->Zw r.1:=by
 refine AA If λp _=>AO (λ_=>AB n!) (λ_=>AA (Ri ⟨Af _,q!,h⟩) λq g=>BG (λu e=>AB λa=>N! a (g u e)) (λu e=>AA (P:=λr=>θ r.2.2.2.2.2.2<=16777215) ?_ λl f=>?_));refine AW (λ(s:Bool×Int×AQ)=>0<=s.2.1/\s.2.1<=θ x.1/\θ s.2.2.2.2.2.2.2<=s.2.1) (λ(s:Bool×Int×AQ)=>((θ x.1:Int)-s.2.1).toNat) ⟨Af _,q!,k!⟩ (λs i=>?_);have⟨j,n,o⟩:=i;unfold J4;rw[(AZ (x:=s.2.1+1))];refine AC (λc=>?_) (λ_=>AB q!);simp[len]at c;have b:((0<=s.2.1+1/\s.2.1+1<=θ x.1/\θ s.2.2.2.2.2.2.2<=s.2.1+1)/\((θ x.1:Int)-(s.2.1+1)).toNat<((θ x.1:Int)-s.2.1).toNat):=⟨o!,o!⟩
 refine AA (AJ j c) λt _=>AA CK λv _=>AO (λ_=>AB b) (λ_=>AC (λ_=>AB b) (λ_=>AC (λ_=>AB b) (λ_=>AC (λ_=>AB b) (λ_=>AC (λ_=>AB b) (λ_=>AA (Rj ⟨Af _,q!,o!⟩) λk _=>?_)))));grind[AA,bC,AB];refine AK (λ_=>AB n!) (λ_=>AC (λ_=>AB n!) (λ_=>AA OJ λm d=>AO (λ_=>AB n!) (λc=>AB λ_=>d c)))
def gY{x:AQ}:As (Hk x) λr=>True:=by
 unfold Hk;exact x!
def bB{x:AQ}:As (Ge x) λr=>θ r.1<=1099511627776:=by refine AA OJ λk b=>AO (λ_=>AB k!) (λa=>?_);have h:=(b a).2.2.2.2.2.2.2.2;refine AA gY λl _=>AA Tp λm g=>AA (P:=λr:BX=>θ r<=1099511627776) ?_ λo c=>AB c;refine AW (λ(s:BX×Int)=>0<=s.2/\s.2<=θ x.2.2.2.2.2/\θ s.1<=8408*s.2+8408) (λ(s:BX×Int)=>((θ x.2.2.2.2.2:Int)-s.2).toNat) ⟨Af _,q!,q!⟩ (λs d=>?_);have⟨f,i,j⟩:=d;have e:=AZ (x:=s.2+1);refine AC (λa=>?_) (λ_=>AB o!);refine AA (AJ f a) λn _=>?_;grind[AA,ab,Tp,CE,AB]
def bD{x:BX×Int×Int}(h:θ x.1<=1099511627776):As (DG x) λr=>True:=by exact AA (Cj h) λ_ _=>AB trivial
def bA{x:BX}(h:θ x<=1099511627776):As (Fi x) λr=>r.2=0->Zw r.1:=by refine AA (RY h) λk n=>AL (λb=>AB λa=>N! a b) (λj=>AL (λ_=>AB n!) (λg=>?_));simp[len]at g;refine AA (CY (Af _) g!) λp _=>AL (λ_=>AB n!) (λ_=>?_);have hn:∀y,As (DG (k.1,y)) λ_=>True:=λy=>bD q!;refine AA (hn _) λq _=>AA (hn _) λt _=>AA (hn _) λv _=>AA (hn _) λw _=>AA (hn _) λz _=>AA (hn _) λA _=>AC (λ_=>AB n!) (λi=>AA (P:=λr=>∀u,r=.inl u->u.1≠0) ?_ λl d=>?_);refine AW (λ(s:Int×Int×List AE×Int×Int×Int×Int×Int×AQ)=>0<=s.2.1/\s.2.1<=4096/\θ s.2.2.1<=s.2.1) (λ(s:Int×Int×List AE×Int×Int×Int×Int×Int×AQ)=>(4096-s.2.1).toNat) ⟨Af _,q!,k!⟩ (λs o=>?_);have e:=AZ (x:=s.2.1+1);refine AC (λb=>?_) (λ_=>AB λu c=>by cases c);grind[AA,RY,AL,AB,aa,Ad,List.length_cons,List.length_nil];refine BG (λu c=>AB λa=>N! a (d u c)) (λu c=>AL (λ_=>AB n!) (λ_=>AA OJ λm f=>AO (λ_=>AB n!) (λb=>AB λ_=>f b)))
def SA(a:AI):Prop:=θ a.1<=16/\θ a.2.2.1<=16777216/\∀f∈a.2.2.1,θ f.2.2<=1099511627776
def VA(a:AI):Prop:=1<=a.2.1/\a.2.1<=64/\1<=θ a.1/\θ a.1<=16/\1<=a.2.2.2.1/\a.2.2.2.1<=1099511627777/\1<=a.2.2.2.2/\a.2.2.2.2<=1073741825/\θ a.2.2.1<=256
def bF{x:Int×List Int}:As (Fj x) λr=>r=ζ->1<=x.1/\x.1<=64/\1<=θ x.2/\θ x.2<=16:=by unfold Fj;refine AC (λ_=>AB λa=>by cases a) (λh=>AC (λ_=>AB λa=>by cases a) (λi=>AC (λ_=>AB λa=>by cases a) (λb=>AC (λ_=>AB λa=>by cases a) (λc=>?_))));simp only[len]at b c;refine AA (AJ (Af _)) λk _=>AL (λ_=>AB λa=>by cases a) (λ_=>AA (P:=λ_=>True) ?_ λr _=>?_);refine AW (λ(s:Int)=>1<=s/\s<=θ x.2) (λ(s:Int)=>((θ x.2:Int)-s).toNat) ⟨Af _,o!⟩ (λs j=>?_);unfold ML;have d:=AZ (x:=s-1);have f:=AZ (x:=s+1);rw[d,f];refine AC (λg=>?_) (λ_=>AB trivial);simp only[len]at g;refine AA (AJ) λ_ _=>AA (AJ) λ_ _=>AC (λ_=>AB trivial) (λ_=>AB ⟨o!,o!⟩);refine BG (λu _=>AB λ_=>o!) (λu _=>?_);have e:=AZ (x:=len x.2-1) i!;rw[e];exact AA (AJ i! i!) λl _=>AB λ_=>o!
def Yi{x:AI}{s:Int×Int}(h:0<=s.2/\s.2<=θ x.2.2.1/\θ x.2.2.1<=256):As (Ai (JR x) s) λr=>r≠.inl ζ:=by
 refine AW (λ(s:Int×Int)=>0<=s.2/\s.2<=θ x.2.2.1/\θ x.2.2.1<=256) (λ(s:Int×Int)=>((θ x.2.2.1:Int)-s.2).toNat) h (λs b=>?_);unfold JR;exact x!
def J5{x:AI}:As (C6 x) λr=>r=ζ->VA x:=by
 unfold C6;refine AA bF λi c=>AO (λ_=>AB λa=>by cases a) (λd=>?_);obtain⟨a1,a2,a3,a4⟩:=c d;refine AC (λ_=>AB λa=>by cases a) (λe=>AC (λ_=>AB λa=>by cases a) (λf=>AC (λ_=>AB λa=>by cases a) (λg=>AC (λ_=>AB λa=>by cases a) (λh=>AC (λ_=>AB λa=>by cases a) (λb=>?_)))));simp only[len]at b;refine AA (Yi ⟨Af _,d!,o!⟩) λr hr=>?_;have q:VA x:=⟨a1,a2,a3,a4,o!⟩
 exact BG (λu _=>AB λ_=>q) (λu _=>AB λ_=>q)
def T4{x:AI×Int}(h:θ x.1.1<=16)(a:0<=x.2/\x.2<θ x.1.1):As (Ey x) λr=>True:=by unfold Ey;have e:=AZ (x:=x.2+1);rw[e];refine AA (P:=λ_=>True) ?_ λd _=>AA (AJ a.1 a.2) λf _=>AB trivial;refine AC (λb=>?_) (λ_=>AB trivial);simp only[len]at b;exact AA (AJ o! b) λc _=>AB trivial
def Xd{x:AI×AQ}(h:θ x.1.1<=16):As (FY x) λr=> -1<=r/\r<16:=by
 unfold FY;refine AA (P:=λr=>∀u,r=.inl u->0<=u/\u<16) ?_ λr hr=>BG (λu a=>AB (by have:=hr u a;omega)) (λ_ _=>AB g!);refine AW (λ(s:Int)=>0<=s/\s<=θ x.1.1) (λ(s:Int)=>((θ x.1.1:Int)-s).toNat) ⟨Af _,o!⟩ (λs d=>?_);unfold HN;have e:=AZ (x:=s+1);rw[e];refine AC (λb=>?_) (λ_=>AB λu a=>by cases a);simp only[len]at b;have c:((0<=s+1/\s+1<=θ x.1.1)/\((θ x.1.1:Int)-(s+1)).toNat<((θ x.1.1:Int)-s).toNat):=⟨o!,o!⟩
 refine AA (T4 h ⟨d.1,b⟩) λf _=>AP (λ_=>?_) (λ_=>AB c);exact AP (λ_=>AB λu a=>by cases a;omega) (λ_=>AB c)
def bE{x:AI×Aq}(h:θ x.1.1<=16)(c:θ x.2.2.2<=1099511627776):As (DH x) λr=>0<=r.2->Zw r.1:=by unfold DH;refine AL (λ_=>AB n!) (λ_=>AA (bA c) λd b=>AL (λ_=>AB n!) (λa=>AA (Xd h) λe _=>AB λ_=>b a))
def W5{x:AQ×Int}{s:Int×List AE×Int×Int×Int×Int×Int}(h:0<=s.1/\s.1<=θ x.1.2.2.2.2.2/\θ x.1.2.2.2.2.2<=4096/\θ s.2.1<=s.1):As (Ai (K9 x) s) λr=>θ r.1<=4096:=by
 refine AW (λ(s:Int×List AE×Int×Int×Int×Int×Int)=>0<=s.1/\s.1<=θ x.1.2.2.2.2.2/\θ x.1.2.2.2.2.2<=4096/\θ s.2.1<=s.1) (λ(s:Int×List AE×Int×Int×Int×Int×Int)=>((θ x.1.2.2.2.2.2:Int)-s.1).toNat) h (λs c=>?_);unfold K9;exact x!
def Rm{x:AQ×Int}(h:θ x.1.2.2.2.2.2<=4096):As (FT x) λr=>θ r.2.2.2.2.2<=4096:=by unfold FT;refine AC (λ_=>AB h) (λ_=>AA (W5 ⟨Af _,d!,h,k!⟩) λb a=>AB a)
def Rl{x:AI×Aa×Int}{a:List AE}{s:Int×AI}(h:0<=s.1/\s.1<=θ a/\θ a<=4096):As (Ai (OK x a) s) λr=>∀u,r=.inl u->u.1≠0:=by
 refine AW (λ(s:Int×AI)=>0<=s.1/\s.1<=θ a/\θ a<=4096) (λ(s:Int×AI)=>((θ a:Int)-s.1).toNat) h (λs c=>?_);unfold OK;exact x!
def RL(l:List AQ):Prop:=∀r∈l,θ r.2.2.2.2.2<=4096
def Qw{a:List AQ×List Int×Int}{c:AQ×Int}{s:Int}(h:0<=s/\s<=θ a.1/\θ a.1<=16777215):As (Ai (HD a c) s) λr=>0<=r/\r<=θ a.1:=by refine AW (λ(s:Int)=>0<=s/\s<=θ a.1) (λ(s:Int)=>s.toNat) ⟨h.1,h.2.1⟩ (λs b=>?_);unfold HD;have d:=h.2.2;have e:=AZ (x:=s-1);rw[e];refine AC (λf=>?_) (λ_=>AB b);refine AA (AJ) λg _=>AC (λ_=>AB ⟨o!,o!⟩) (λ_=>AB b)
def Yj{x:AI}{B:Int×List AQ×List Int×List Bool}(h:VA x)(G:SA x)(V:0<=B.1):As (Ai (Em x B) ([],[],0)) λr=>θ r.2=θ r.1/\θ r.1<=256/\RL r.1:=by have a4:=h.2.2.2.1;have a9:=h.2.2.2.2.2.2.2.2;refine AW (λ(s:List AQ×List Int×Int)=>0<=s.2.2/\s.2.2<=θ x.2.2.1/\θ s.2.1=θ s.1/\θ s.1<=s.2.2/\RL s.1) (λ(s:List AQ×List Int×Int)=>((θ x.2.2.1:Int)-s.2.2).toNat) ⟨Af _,d!,rfl,k!,λr hr=>by simp at hr⟩ (λs E=>?_);obtain⟨z,W,A,X,f⟩:=E;unfold Em;have e:=AZ (x:=s.2.2+1);rw[e];refine AC (λm=>?_) (λ_=>AB ⟨A,d!,f⟩);simp only[len]at m;refine AA (AJ z m) λU C=>AA (bE a4 (G.2.2 U C.2)) λZ D=>AL (λ_=>AB ⟨⟨d!,d!,A,d!,f⟩,d!⟩) (λF=>?_);have n:=D o!;refine AA (Qw ⟨i!,i!,o!⟩) λv7 d=>AA (Bn (Af _) d.1 d.2) λv8 v=>AA (Bn d.1 i! i!) λv9 y=>?_;have Y:=v.2;have K:=y.2;simp only[len]at K;refine AA (Ad w!) λL a=>?_;have o:=a.2.1;simp only[Bb]at o;refine AA (Ad w!) λM b=>?_;have p:=b.2.1;simp only[Bb,Ba]at p;refine AA (Ad o!) λN c=>?_;have H:=c.2.1;refine AA (Bn (Af _) d.1) λO g=>?_;have I:=g.2;refine AA (AJ z m) λP _=>AA (Bn d.1 i! i!) λQ i=>?_;have q:=i.2;simp only[len]at q;refine AA (Ad w!) λR j=>?_;have t:=j.2.1;simp only[Bb]at t;refine AA (Ad w!) λS k=>?_;have u:=k.2.1;simp only[Bb,Ba]at u;refine AA (Ad o!) λT l=>AB ?_;have J:=l.2.1;refine⟨⟨d!,d!,d!,d!,λr hr=>?_⟩,d!⟩;dsimp only at hr;rw[c.1,b.1,a.1,v.1,y.1]at hr;rcases Ak.1 hr with w|w;rcases Ak.1 w with w|w;rw[B4]at w;exact f r (QU (GH w));simp at w;rw[w];exact n.2.2.2.2.2.2.2.2;exact f r (QU (GH w))
def T3(n:Int)(t:List AQ×List Int×List Bool):Prop:=θ t.2.1=θ t.1/\θ t.2.2=θ t.1/\θ t.1<=n/\RL t.1
def Yk{a:List AQ×List Int}{n:Int}{t:List AQ×List Int×List Bool}(h:θ a.2=θ a.1/\θ a.1<=256/\RL a.1)(hn:n<=100000)(z:T3 n t):As (Ai (En a) (0,0,t)) λr=>T3 (n+256) r:=by refine AW (λ(s:Int×Int×List AQ×List Int×List Bool)=>0<=s.2.1/\s.2.1<=θ a.1/\T3 (n+s.2.1) s.2.2) (λ(s:Int×Int×List AQ×List Int×List Bool)=>((θ a.1:Int)-s.2.1).toNat) ⟨Af _,d!,by simpa using z⟩ (λs y=>?_);obtain⟨d,K,q,u,L,k⟩:=y;obtain⟨I,J,v⟩:=h;unfold En;have e:=AZ (x:=s.2.1+1);rw[e];refine AC (λc=>?_) (λ_=>AB ⟨q,u,o!,k⟩);simp only[len]at c;refine AA (AJ d c) λA _=>AC (λ_=>AB ⟨⟨d!,d!,q,u,d!,k⟩,d!⟩) (λ_=>AA (AJ d c) λp f=>AA (AJ d) λB _=>AA (AJ d c) λC _=>AA (Rm (v p f.2)) λD g=>AA (Ad w!) λE b=>?_);have l:=b.2.1;simp only[Bb,Ba]at l;refine AA (Ad w!) λF i=>?_;have m:=i.2.1;simp only[Bb,Ba]at m;refine AA (Ad w!) λG j=>?_;have o:=j.2.1;simp only[Bb,Ba]at o;refine AA (AJ d c) λH _=>AB ?_;refine⟨⟨d!,d!,d!,d!,d!,λr hr=>?_⟩,d!⟩;dsimp only at hr;rw[b.1]at hr;rcases Ak.1 hr with w|w;exact k r w;simp at w;rw[w];exact g
def WQ{b:AU}{x:BX}(h:CX b)(I:θ x<=1099511627776):As (F8 b x) λr=>CX r.2/\θ r.1<=θ x+1:=by
 refine AP (λ_=>?_) (λg=>?_);refine AA (Ag h g!) λJ m=>AB ⟨m.1,?_⟩;rw[MP];simp;simp only[len]at g;refine AA (Ag h i!) λw n=>?_;obtain⟨k,a,l⟩:=n;simp only[len]at l;have e:=AZ (x:=w.1+1);refine AA (Ag k g!) λK f=>AP (λ_=>?_) (λ_=>?_);refine AA (CY (Af _) a) λL E=>AA (CY o! i! i!) λM q=>?_;have u:=q.2;simp only[len]at u;refine AA (CE o!) λN F=>AB ⟨f.1,?_⟩;grind;refine AP (λ_=>?_) (λ_=>?_);refine AA (Ag f.1 g!) λC s=>?_;have v:(Eu ([(ι .u8 C.1)]:List Int)).length=1:=by rw[MP];rfl
 refine AA (CE o!) λO G=>AB ⟨s.1,?_⟩;grind;refine AA (CY (Af _) a) λP H=>AA (RE a o!) λD _=>AA (CY o! i! i!) λy c=>AA (Ag f.1 g!) λj d=>?_;have i:=c.2;simp only[len]at i;generalize t:Eu ([(ι .u8 (((π ((κ 8 D)^^^(κ 8 (ι .u8 (wi (1+j.1)))))):Nat):Int))]:List Int)=B;have v:θ B=1:=by rw[<-t,MP];rfl
 refine AA (CE o!) λz o=>AA (CE o!) λA p=>AB ⟨d.1,?_⟩;grind
def ABx{x:Aa×Int}(h:Do x.1)(c:x.2=x.1.1+θ x.1.2.1-1):As (EK x) λr=>r.1.2.2=r.1.1+θ r.1.2.1-1/\r.1.1=x.1.1:=by refine AA Bo λv e=>AO (λa=>?_) (λ_=>?_);grind;refine AA Ee λf b=>?_;rw[h.last]at b;have d:=h.2.2.2.2.1;refine AC (λa=>N! a o!) (λ_=>AB ⟨?_,rfl⟩);grind
def zg{b:AU}{x:Int}(h:CX b)(f:x<=1000/\ -1000<=x):As (K1 b x) λr=>r.2.1.2.2=r.2.1.1+θ r.2.1.2.1-1/\r.2.1.1=1:=by refine AA (OU h f) λj d=>?_;obtain⟨c,g,i,q2,q3,q4⟩:=d;refine AA Fe λk e=>AA (ABx q3 (e q3)) λl a=>AB ⟨a.1,a.2.trans q4⟩
def iw{x:Aa×Int}(h:Do x.1)(p:x.1.2.2=x.1.1+θ x.1.2.1-1)(l:x.1.1<=x.2)(m:x.2<=x.1.2.2+1)(n:x.2<=1099511627776):As (KH x) λr=>r.2=0/\Do r.1/\r.1.1=x.2:=by obtain⟨a1,a2,a3,a4,a5,a6⟩:=id h;refine AA Bo λv q=>AO (λa=>?_) (λ_=>?_);grind;refine AC (λa=>N! a o!) (λ_=>AA Ee λf d=>?_);rw[h.last]at d;have g:=AZ (x:=f+1);have j:=AZ (x:=x.1.2.2+1);have k:=AZ (x:=x.2-x.1.1);refine AC (λa=>N! a o!) (λ_=>AC (λa=>N! a o!) (λ_=>AC (λa=>N! a o!) (λ_=>AA (Bn o! q! q!) λs b=>?_)));have l2:=b.2;simp only[len]at l2;refine AA (Ad w!) λt c=>AB ⟨rfl,?_,rfl⟩;refine⟨q!,q!,q!,q!,q!,λi e o=>?_⟩;grind
def Ris(l:List Int)(n:Int):Prop:=∀(i:Nat)(a b:Int),(i:Int)+1<n->l[i]?=δ a->l[i+1]?=δ b->a<b
def BD(n:Int)(l:List Int):Prop:=1<=n/\n<=64/\1<=θ l/\θ l<=16/\l[0]?=δ 0/\Ris l (θ l)/\∀a,l[θ l-1]?=δ a->a<n
def mq{x:Int×List Int}:As (Fj x) λr=>r=ζ↔BD x.1 x.2:=by
 unfold Fj;refine AC (λc=>AB ⟨λd=>(by cases d),λh=>(by have:=h.1;omega)⟩) (λL=>AC (λc=>AB ⟨λd=>(by cases d),λh=>(by have:=h.2.1;omega)⟩) (λM=>AC (λc=>AB ⟨λd=>(by cases d),λh=>(by have:=h.2.2.1;simp only[len]at c;omega)⟩) (λy=>AC (λc=>AB ⟨λd=>(by cases d),λh=>(by have:=h.2.2.2.1;simp only[len]at c;omega)⟩) (λz=>?_))));simp only[len]at y z;refine AA (AJ (Af _)) λQ E=>?_;have f:=E.1;refine AL (λc=>AB ⟨λd=>(by cases d),λh=>?_⟩) (λo=>?_);have:=h.2.2.2.2.1;simp only[Int.toNat_zero]at f;rw[f]at this;exact N! (Bg this) c;rw[o]at f;refine AA (P:=λr=>(r=.inl η/\¬Ris x.2 (θ x.2))\/(r=.inr ()/\Ris x.2 (θ x.2))) ?_ λr hr=>?_;refine AW (λ(s:Int)=>1<=s/\s<=θ x.2/\Ris x.2 s) (λ(s:Int)=>((θ x.2:Int)-s).toNat) ⟨Af _,o!,λi a b v=>N! v o!⟩ (λs G=>?_);obtain⟨N,O,w⟩:=G;unfold ML;have A:=AZ (x:=s-1);have B:=AZ (x:=s+1);rw[A,B];refine AC (λk=>?_) (λk=>AB (.inr ⟨rfl,?_⟩));simp only[len]at k;refine AA (AJ) λa j=>AA (AJ o! k) λb u=>?_;have t:(s-1).toNat+1=s.toNat:=o!
 refine AC (λJ=>AB (.inl ⟨rfl,λH=>?_⟩)) (λm=>AB ⟨⟨o!,o!,λi p q v n l=>?_⟩,o!⟩);have:=H (s-1).toNat a b o! j.1 (by rw[t];exact u.1);omega;by_cases I:(i:Int)+1<s;exact w i p q I n l;have C:i=(s-1).toNat:=o!
 subst C;rw[t]at l;rw[j.1]at n;rw[u.1]at l;have:=Bg n;have:=Bg l;omega;simp only[len]at k;have:s=θ x.2:=o!
 rw[<-this];exact w;rcases hr with⟨rfl,hr⟩|⟨rfl,hr⟩;exact BK (AB ⟨λd=>(by cases d),λh=>N! h.2.2.2.2.2.1 hr⟩);apply A4;have e:=AZ (x:=len x.2-1) i!;rw[e];refine AA (AJ i! i!) λK F=>AB ?_;have g:=F.1;have D:(len x.2-1).toNat=θ x.2-1:=i!
 rw[D]at g;rw[K!];refine⟨λm=>⟨o!,o!,o!,o!,f,hr,λa j=>?_⟩,λh=>h.2.2.2.2.2.2 K g⟩;rw[g]at j;have:=Bg j;omega
def BI(i:Int)(l:List Int):Prop:=1<=θ l/\θ l<=16/\l[0]?=δ 0/\Ris l (θ l)/\∀a,l[θ l-1]?=δ a->a<i
def BI.mono{i:Int}{l:List Int}(h:BI i l):BI (i+1) l:=⟨h.1,h.2.1,h.2.2.1,h.2.2.2.1,λa b=>by have:=h.2.2.2.2 a b;omega⟩
def BI.push{i:Int}{l m:List Int}(h:BI i l)(u:θ l<16)(r:m=l++[i]):BI (i+1) m:=by
 subst r;obtain⟨s,t,n,o,p⟩:=h;have g:(l++[i]).length=θ l+1:=k!
 refine⟨o!,o!,?_,λk a b q c d=>?_,λa c=>?_⟩;rw[CT o!];exact n;rw[g]at q;rw[CT o!]at c;by_cases f:k+1<θ l;rw[CT f]at d;exact o k a b o! c d;have j:k=θ l-1:=o!
 subst j;rw[Ci o!]at d;have e:θ l-1+1-θ l=0:=o!
 rw[e]at d;simp at d;have:=p a c;omega;rw[g]at c;rw[Ci o!]at c;have e:θ l+1-1-θ l=0:=o!
 rw[e]at c;simp at c;omega
def ABv{b:AU}{x:Int}(h:CX b)(d:1<=x/\x<=64):As (LQ b x) λr=>CX r.2/\BD x r.1:=by
 unfold LQ;refine AA (P:=λr=>CX r.2/\BD x r.1) ?_ λr hr=>AB hr;refine AW (λ(s:Int×List Int×AU)=>1<=s.1/\s.1<=x/\BI s.1 s.2.1/\CX s.2.2) (λ(s:Int×List Int×AU)=>(x-s.1).toNat) ⟨Af _,d.1,⟨k!,k!,k!,λi a b q=>N! q w!,λa o=>by simp at o;omega⟩,h⟩ (λs n=>?_);obtain⟨u,v,c,g⟩:=n;unfold SN;have e:=AZ (x:=s.1+1);rw[e];refine AC (λp=>?_) (λp=>AB ⟨g,?_⟩);refine AA (Ag g g!) λw f=>AP (λ_=>?_) (λ_=>AB ⟨⟨d!,d!,c.mono,f.1⟩,d!⟩);refine AA (P:=λl=>BI (s.1+1) l) ?_ λz m=>AB ⟨⟨d!,d!,m,f.1⟩,d!⟩;refine AC (λt=>?_) (λ_=>AB c.mono);simp only[len]at t;exact AA (Ad w!) λy k=>AB (c.push o! k.1);have j:s.1=x:=o!
 rw[j]at c;exact⟨d.1,d.2,c.1,c.2.1,c.2.2.1,c.2.2.2.1,c.2.2.2.2⟩
def FR(l:List Aq)(m n:Int):Prop:=(∀(i:Nat)(f:Aq),(i:Int)<n->l[i]?=δ f->0<f.2.1/\f.2.1<m)/\∀(i:Nat)(f g:Aq),(i:Int)+1<n->l[i]?=δ f->l[i+1]?=δ g->f.2.1<g.2.1
def VB(a:AI):Prop:=BD a.2.1 a.1/\1<=a.2.2.2.1/\a.2.2.2.1<=1099511627777/\1<=a.2.2.2.2/\a.2.2.2.2<=1073741825/\θ a.2.2.1<=256/\FR a.2.2.1 a.2.2.2.2 (θ a.2.2.1)
def WD{x:AI}:As (C6 x) λr=>r=ζ↔VB x:=by
 unfold C6;refine AA mq λU w=>AO (λj=>AB ⟨λb=>(by cases b),λh=>(by rw[w.2 h.1]at j;cases j)⟩) (λj=>?_);have H:=w.1 j;refine AC (λc=>AB ⟨λb=>(by cases b),λh=>(by have:=h.2.1;omega)⟩) (λN=>AC (λc=>AB ⟨λb=>(by cases b),λh=>(by have:=h.2.2.1;omega)⟩) (λO=>AC (λc=>AB ⟨λb=>(by cases b),λh=>(by have:=h.2.2.2.1;omega)⟩) (λQ=>AC (λc=>AB ⟨λb=>(by cases b),λh=>(by have:=h.2.2.2.2.1;omega)⟩) (λR=>AC (λc=>AB ⟨λb=>(by cases b),λh=>(by have:=h.2.2.2.2.2.1;simp only[len]at c;omega)⟩) (λA=>?_)))));simp only[len]at A;refine AA (P:=λr=>(r=.inl η/\¬FR x.2.2.1 x.2.2.2.2 (θ x.2.2.1))\/(r=.inr ()/\FR x.2.2.1 x.2.2.2.2 (θ x.2.2.1))) ?_ λr hr=>?_;refine AW (λ(s:Int×Int)=>0<=s.2/\s.2<=θ x.2.2.1/\FR x.2.2.1 x.2.2.2.2 s.2/\0<=s.1/\(s.2=0->s.1=0)/\∀f,0<s.2->x.2.2.1[(s.2-1).toNat]?=δ f->f.2.1=s.1) (λ(s:Int×Int)=>((θ x.2.2.1:Int)-s.2).toNat) ⟨Af _,d!,⟨λi f k=>N! k d!,λi f g k=>N! k d!⟩,Af _,λ_=>rfl,λf d=>N! d d!⟩ (λs G=>?_);obtain⟨q,S,t,T,L,z⟩:=G;unfold JR;have e:=AZ (x:=s.2+1);rw[e];refine AC (λj=>?_) (λj=>AB (.inr ⟨rfl,?_⟩));simp only[len]at j;refine AA (AJ q j) λu D=>?_;have a:=D.1;refine AC (λJ=>AB (.inl ⟨rfl,λn=>?_⟩)) (λK=>?_);by_cases b:s.2=0;have:=(n.1 s.2.toNat u o! a).1;have:=L b;omega;obtain⟨f,d⟩:∃f,x.2.2.1[(s.2-1).toNat]?=δ f:=⟨_,Ar o!⟩
 have m:(s.2-1).toNat+1=s.2.toNat:=o!
 have:=n.2 (s.2-1).toNat f u o! d (by rw[m];exact a);have:=z f o! d;omega;refine AA (AJ q j) λv E=>?_;have B:v=u:=by have:=E.1;rw[a]at this;exact(Bg this).symm
 subst B;refine AC (λI=>AB (.inl ⟨rfl,λn=>?_⟩)) (λy=>?_);have:=(n.1 s.2.toNat v o! a).2;omega;refine AA (AJ q j) λM F=>AB ?_;have C:M=v:=by have:=F.1;rw[a]at this;exact(Bg this).symm
 subst C;refine⟨⟨d!,d!,⟨λi f k d=>?_,λi f g k d p=>?_⟩,d!,λb=>N! b d!,λf _ d=>?_⟩,d!⟩;dsimp only at k;by_cases l:(i:Int)<s.2;exact t.1 i f l d;have o:i=s.2.toNat:=o!
 subst o;rw[a]at d;have:=Bg d;subst this;exact o!;dsimp only at k;by_cases l:(i:Int)+1<s.2;exact t.2 i f g l d p;have o:i=(s.2-1).toNat:=o!
 have m:i+1=s.2.toNat:=o!
 rw[m,a]at p;have:=Bg p;subst this;rw[o]at d;have:=z f o! d;omega;dsimp only at d⊢;have m:(s.2+1-1).toNat=s.2.toNat:=o!
 rw[m,a]at d;have:=Bg d;rw[this];simp only[len]at j;have:s.2=θ x.2.2.1:=o!
 rw[<-this];exact t;rcases hr with⟨rfl,hr⟩|⟨rfl,hr⟩;exact BK (AB ⟨λb=>(by cases b),λh=>N! h.2.2.2.2.2.2 hr⟩);exact A4 (AB ⟨λ_=>⟨H,o!,o!,o!,o!,o!,hr⟩,λ_=>rfl⟩)
set_option maxHeartbeats 1000000
def pp{x:Int}:As (H6 x) λr=>r=ζ↔0<=x/\x<64:=by
 unfold H6;exact x!
theorem dH{x:Du}:As (Nx x) λr=>r=ζ↔Oe x:=by
 unfold Nx Oe
 exact x!
def Kn{x:Int×AE}:As (Nz x) λr=>r=ζ↔0<=x.1/\x.1<x.2.1:=by
 unfold Nz;exact x!
def ti{x:Du}:As (MV x) λr=>r=ζ↔x=P2:=by grind[MV,P2,AB,Prod.ext_iff]
def oR{x:AE}:As (GR x) λr=>r=ζ:=by grind[GR,AB]
def oS{x:AE}:As (Sw x) λr=>r=ζ↔1<=x.2.2.2.2.2.1/\x.2.2.2.2.2.1<=x.2.2.2.1:=by
 unfold Sw;exact x!
def oT{x:Du}:As (Sx x) λr=>r=ζ↔0<=x.1/\x.1<64/\x.2=P2.2:=by
 unfold Sx P2;have⟨a,b,⟨c,d⟩,e,f⟩:=x;refine AK (λg=>?_) (λg=>AB ?_);refine AC (λh=>AB ?_) (λh=>AB ?_);simp at g;simp[g,h];try omega
 simp;try omega
 grind[Prod.ext_iff]
theorem KA{x:AE}:As (GQ x) λr=>L5 x->r=ζ:=by
 unfold GQ;refine AC (λi=>AB λh=>?_) (λs=>?_);have:=h.1;omega;refine AC (λi=>AB λh=>?_) (λt=>?_);have:=h.2.1;omega;refine AC (λi=>AB λh=>?_) (λu=>?_);have:=h.2.2.2.2.2.2.2.2;unfold VE at this;omega;refine AC (λi=>AB λh=>?_) (λv=>?_);have:=h.2.2.2.2.2.2.2.2;unfold VE at this;omega;refine AA Kn λw j=>AO (λi=>AB λh=>?_) (λn=>?_);rw[j.2 ⟨h.2.2.1,h.2.2.2.1⟩]at i;cases i;refine AA Kn λy k=>AO (λi=>AB λh=>?_) (λo=>?_);rw[k.2 ⟨h.2.2.2.2.1,h.2.2.2.2.2.1⟩]at i;cases i;refine AA Kn λz l=>AO (λi=>AB λh=>?_) (λp=>?_);rw[l.2 ⟨h.2.2.2.2.2.2.1,h.2.2.2.2.2.2.2.1⟩]at i;cases i;refine As.mono (P:=λr=>VE x->r=ζ) ?_ λr h q=>h q.2.2.2.2.2.2.2.2;clear j k l n o p;have⟨a,b,c,d,e,f,g,m⟩:=x;unfold VE;dsimp only at*;refine AC (λi=>N! i o!) (λk0=>?_);exact x!
def iJ{x:Aa}:As (Ch x) λr=>r=wi (wi (x.1+len x.2.1)-1):=by grind[Ch,AB]
def Gv{x:Aa}(h:Do x):As (HJ x) λr=>r=ζ:=by have⟨a1,a2,a3,a4,a5,a6⟩:=id h;unfold HJ;refine AC (λa=>N! a o!) (λ_=>AC (λa=>N! a o!) (λ_=>AC (λa=>N! a (by simp[len];omega)) (λ_=>?_)));rw[(AZ (x:=x.1-1))];refine AC (λa=>N! a o!) (λ_=>AA iJ λf b=>?_);rw[h.last]at b;refine AC (λa=>N! a o!) (λ_=>AA (P:=λr=>∃u,r=.inr u) ?_ λr hr=>?_);refine AW (λ(s:Int)=>0<=s/\s<=θ x.2.1) (λ(s:Int)=>((θ x.2.1:Int)-s).toNat) ⟨Af _,o!⟩ (λs c=>?_);have⟨d,e⟩:=c;unfold YJ;refine AC (λa=>?_) (λ_=>AB ⟨_,rfl⟩);grind[AA,AJ,AZ,AL,KA,AO,AB];grind[A4,AB]
def RI{x:Aa}(h:Do x):As (N0 x) λr=>r=x.1+θ x.2.1-1:=by unfold N0;refine AA (Gv h) λv c=>AO (λb=>?_) (λ_=>?_);rw[c]at b;cases b;refine AA iJ λd a=>AB ?_;rw[h.last]at a;exact a
def Fb{x:AI}(h:VB x):As (Fs x) λr=>r=true:=by
 obtain⟨⟨L,M,N,O,p,t,v⟩,a1,a2,a3,a4,a5,a6⟩:=id h;unfold Fs;refine AC (λa=>absurd a (by omega)) (λ_=>?_);refine AC (λa=>absurd a (by omega)) (λ_=>?_);refine AC (λa=>absurd a (by simp only[len];omega)) (λ_=>?_);refine AC (λa=>absurd a (by simp only[len];omega)) (λ_=>?_);refine AA (AJ (Af _)) λQ B=>?_;have b:=B.1;rw[show((0:Int).toNat)=0 from rfl,p]at b;injection b with b;refine AL (λa=>absurd b.symm a) (λ_=>?_);have w:=AZ (x:=len x.1-1) (by simp only[len];omega);rw[w];refine AA (AJ (by simp only[len];omega) (by simp only[len];omega)) λI C=>?_;have c:=C.1;have y:(len x.1-1).toNat=x.1.length-1:=by simp only[len];omega
 rw[y]at c;refine AC (λa=>absurd a (by have:=v I c;omega)) (λ_=>?_);refine AA (P:=λr=> ∃u,r= .inr u) ?_ λr hr=>?_;refine AW (λ(s:Int)=>1<=s/\s<=x.1.length) (λ(s:Int)=>((x.1.length:Int)-s).toNat) ⟨Af _,by omega⟩ (λs i=>?_);obtain⟨o,F⟩:=i;unfold XF;refine AC (λa=>?_) (λ_=>AB ⟨_,rfl⟩);simp only[len]at a;have z:=AZ (x:=s-1);have e:=AZ (x:=s+1);rw[z,e];refine AA (AJ) λJ D=>?_;refine AA (AJ (by omega) a) λK E=>?_
 have q:=t (s-1).toNat J K (by omega) D.1 (by have:(s-1).toNat+1=s.toNat:=by omega
                                              rw[this];exact E.1)
 refine AC (λa=>absurd a (by omega)) (λ_=>AB ⟨by omega,by omega⟩);obtain⟨u,rfl⟩:=hr;apply A4;refine AC (λa=>absurd a (by omega)) (λ_=>?_);refine AC (λa=>absurd a (by omega)) (λ_=>?_);refine AC (λa=>absurd a (by omega)) (λ_=>?_);refine AC (λa=>absurd a (by omega)) (λ_=>?_);refine AC (λa=>absurd a (by simp only[len];omega)) (λ_=>?_);refine AA (P:=λr=> ∃u,r= .inr u) ?_ λr hr=>?_;refine AW (λ(s:Int×Int)=>0<=s.2/\s.2<=x.2.2.1.length/\(s.2=0->s.1=0)/\ ∀f:Aq,0<s.2->x.2.2.1[(s.2-1).toNat]? =some f->s.1=f.2.1) (λ(s:Int×Int)=>((x.2.2.1.length:Int)-s.2).toNat) ⟨Af _,by dsimp only;omega,λ_=>rfl,λf m=>by dsimp only at m;omega⟩ (λs i=>?_);obtain⟨o,F,G,H⟩:=i;unfold XG;refine AC (λa=>?_) (λ_=>AB ⟨_,rfl⟩);simp only[len]at a;have e:=AZ (x:=s.2+1);rw[e];refine AA (AJ o a) λl g=>?_;have q1:=a6.1 s.2.toNat l (by omega) g.1;have q2:s.1<l.2.1:=by
  by_cases k:s.2=0;rw[G k];exact q1.1;have j:(s.2-1).toNat<x.2.2.1.length:=by omega
  have n:x.2.2.1[(s.2-1).toNat]? =some x.2.2.1[(s.2-1).toNat]:=Ar j
  have:=a6.2 (s.2-1).toNat _ l (by omega) n (by have:(s.2-1).toNat+1=s.2.toNat:=by omega
                                                rw[this];exact g.1)
  rw[H _ (by omega) n];exact this
 refine AC (λa=>absurd a (by omega)) (λ_=>?_);refine AC (λa=>absurd a (by have:=q1.2;omega)) (λ_=>AB ⟨⟨by dsimp only;omega,by dsimp only;omega,λk=>?_,λf m d=>?_⟩,by dsimp only;omega⟩);dsimp only at k;omega;dsimp only at d⊢;have A:(s.2+1-1).toNat=s.2.toNat:=by omega
 rw[A,g.1]at d;injection d with d;rw[d];obtain⟨u,rfl⟩:=hr;exact A4 (AB rfl)
def Zj{x:AI×Aa×Int×Int}(h:VB x.1)(c:Do x.2.1)(e:0<=x.2.2.1/\x.2.2.1<x.1.2.1/\0<=x.2.2.2):As (PY x) λr=>r=0:=by unfold PY;refine AA (Fb h) λv d=>AO (λa=>?_) (λ_=>?_);rw[d]at a;cases a;refine AA (Gv c) λf b=>AO (λa=>?_) (λ_=>?_);rw[b]at a;cases a;refine AC (λa=>N! a o!) (λ_=>AC (λa=>N! a o!) (λ_=>AC (λa=>N! a o!) (λ_=>AB rfl)))
def bJ{x p:BX}{c:BX×Int×Int}{k:Nat}(h:CS x p c)(o:θ x<=1099511627776)(q:1<=k)(m:k<=8):As (B6 c (k:Int)) λr=>CS x (p++C8 r.1 k) r.2/\(r.2.2.2=0->bR k r.1)/\(c.2.2≠0->r=(0,c)):=by obtain⟨s,i,e⟩:=c;obtain⟨j,l⟩:=h;subst j;refine AL (λd=>AB ⟨⟨rfl,λb=>N! b d⟩,λb=>N! b d,λ_=>rfl⟩) (λd=>?_);subst d;obtain⟨a,hr,n⟩:=l rfl;subst hr n;rw[AY]at o;rw[Xg o! o! o!];by_cases g:(k:Int)<=θ a;rw[C! g,AD,Cz];obtain⟨q1,q2⟩:=sQ (t:=a) (k:=k) o! m;refine AB ⟨⟨rfl,λ_=>⟨a.drop k,?_,?_⟩⟩,λ_=>q1,λf=>N! rfl f⟩;simp_all;dsimp only;rw[AZ,AY,A0];omega;rw[D! g,AD];exact AB ⟨⟨rfl,λb=>N! (show(5:Int)=0 from b) g!⟩,λb=>N! (show(5:Int)=0 from b) g!,λf=>N! rfl f⟩
def AEW{x p:BX}{c:BX×Int×Int}{n:Int}(h:CS x p c)(l:θ x<=1099511627776)(hn:c.2.2=0->0<=n/\n<4294967296):As (E6 c n) λr=>CS x (p++r.1) r.2/\(r.2.2.2=0->(θ r.1:Int)=n/\c.2.2=0):=by
 obtain⟨s,f,e⟩:=c;obtain⟨g,i⟩:=h;subst g;unfold E6;by_cases d:e=0;subst d;obtain⟨a,hr,j⟩:=i rfl;obtain⟨o,t⟩:=hn rfl;subst hr j;obtain⟨m,rfl⟩:=EE o;rw[AY]at l;rw[show wi (((p++a).length:Int)-(θ p:Int))=θ a by rw[AY,AZ];omega];by_cases q:(m:Int)<=θ a;rw[F! o!,A!,AD,show((0:Int) !=0)=η by decide,A!];have k:R0 (p++a) (wi (wi ((θ p:Int)+(m:Int))-(m:Int))) (wi ((θ p:Int)+(m:Int)))=δ (a.take m):=by rw[AZ (x:=(θ p:Int)+(m:Int)),AZ];unfold R0;rw[C! q!,show((θ p:Int)+(m:Int)-(m:Int)).toNat=θ p by omega,Q4,show((θ p:Int)+(m:Int)).toNat-θ p=m by omega]
 rw[k,AD];refine AB ⟨⟨rfl,λ_=>⟨a.drop m,?_,?_⟩⟩,λ_=>⟨?_,q!⟩⟩;simp_all;dsimp only;rw[AZ,AY,BR];omega;grind;rw[G! o!,B!,AD,show((5:Int) !=0)=ζ by decide,B!];exact AB ⟨⟨rfl,λb=>N! (show(5:Int)=0 from b) g!⟩,λb=>N! (show(5:Int)=0 from b) g!⟩;rw[beq_false_of_ne d,A!,bne_iff_ne.2 d,B!];exact AB ⟨⟨rfl,λb=>N! b d⟩,λb=>N! b d⟩
def AEU{x p:BX}{c:BX×Int×Int}(h:CS x p c)(j:θ x<=1099511627776):As (E5 c ()) λr=>CS x (p++UY r.1) r.2/\(r.2.2.2=0->Gt r.1):=by
 refine AA (bJ (k:=1) h j g! g!) λv o=>?_;obtain⟨⟨g,l⟩,s,z⟩:=o;refine AL (λd=>AB ⟨⟨g,λa=>N! a d⟩,λa=>N! a d⟩) (λd=>?_);obtain⟨f,hr,i⟩:=l d;have y:=(s d).1 g!;refine AP (λb=>AB ⟨⟨g,λ_=>⟨f,?_,?_⟩⟩,λ_=>⟨Bc _,.inr rfl⟩⟩) (λb=>?_);dsimp only;rw[b]at hr;exact hr;dsimp only;rw[b]at i;exact i;refine AC (λ_=>AB ⟨⟨g,λa=>N! (show(4:Int)=0 from a) g!⟩,λa=>N! (show(4:Int)=0 from a) g!⟩) (λn=>AA (AEW (x:=x) (p:=p++C8 v.1 1) ⟨g,l⟩ j (λ_=>o!)) λw q=>AB ?_);obtain⟨⟨t,A⟩,u⟩:=q;refine⟨⟨t,λa=>?_⟩,λa=>?_⟩;dsimp only at a⊢;obtain⟨m,_⟩:=u a;have e:UY (ζ,w.1)=C8 v.1 1++w.1:=by unfold UY;rw[B!,m]
 grind;dsimp only at a⊢;exact⟨q!,.inl rfl⟩
def Yo{x p a:BX}{n:Int}{k:Nat}(c:x=p++(C8 n k++a))(f:θ x<=1099511627776)(e:1<=k)(d:k<=8)(hn:bR k n):B6 (x,(θ p:Int),0) (k:Int)=δ (n,x,((p++C8 n k).length:Int),0):=by
 have b:=E! θ c;simp only[AY,A0]at b;unfold B6;dsimp only;rw[show((0:Int) !=0)=η by decide,A!];conv=>lhs;arg 1;rw[c]
 rw[Xg q! o! o!,C! q!,AD,Cz,Gn (A0 _ _),qN d hn];rw[AY,A0];rw[AZ];rfl
def AEV{x p w a:BX}(c:x=p++(w++a))(e:θ x<=1099511627776):E6 (x,(θ p:Int),0) (θ w:Int)=δ (w,x,((p++w).length:Int),0):=by
 have b:=E! θ c;simp at b;unfold E6;rw[show τ (wi ((θ x:Int)-(θ p:Int))<(θ w:Int))=η from F! (by rw[AZ];omega),A!];rw[AD,show((0:Int) !=0)=η by decide,A!];dsimp only;have d:R0 x (wi (wi ((θ p:Int)+(θ w:Int))-(θ w:Int))) (wi ((θ p:Int)+(θ w:Int)))=δ w:=by rw[AZ (x:=(θ p:Int)+(θ w:Int)),AZ];unfold R0;rw[C! o!,c,show((θ p:Int)+(θ w:Int)-(θ w:Int)).toNat=θ p by omega,Q4,show((θ p:Int)+(θ w:Int)).toNat-θ p=θ w by omega,X2]
 rw[d,AD,AZ,AY];rfl
def AET{x p a:BX}{c:Cg}(e:x=p++(UY c++a))(f:θ x<=1099511627776)(j:Gt c):E5 (x,(θ p:Int),0) ()=δ (c,x,((p++UY c).length:Int),0):=by
 obtain⟨b,d⟩:=c;obtain⟨h,i⟩:=j;dsimp only at h i;unfold E5;cases b with
 |false=>
  have k:d=[]:=q!
  subst k;rw[show(1:Int)=((1:Nat):Int)from rfl,Yo e f g! g! ⟨λ_=>g!,g!,g!⟩];rfl
 |true=>have g:UY (ζ,d)=C8 (θ d:Int) 1++d:=rfl;rw[g,A5]at e;rw[g];rw[show(1:Int)=((1:Nat):Int)from rfl,Yo e f g! g! ⟨λ_=>q!,o!⟩,AD];rw[show((0:Int) !=0)=η by decide,A!,show((θ d:Int)==255)=η by grind,A!,F! o!,A!];rw[AEV (by rw[e,A5]) f,AD,A5]
def AIH{x:BX}(a:θ x<=1099511627776):As (JX x) λr=>r.2=0->x=Bz r.1/\Gt r.1.2.2.2.2.2.2.1.2.2.1/\Gt r.1.2.2.2.2.2.2.1.2.2.2/\bR 4 (θ r.1.2.2.2.2.2.2.2:Int)/\GQ r.1=δ ζ:=by
 unfold JX;have I:CS x [] (x,0,0):=⟨rfl,λ_=>⟨x,rfl,rfl⟩⟩
 refine AA (bJ (k:=8) I a g! g!) λO y=>AA (bJ (k:=1) y.1 a g! g!) λP z=>AA (bJ (k:=4) z.1 a g! g!) λQ A=>AA (bJ (k:=8) A.1 a g! g!) λR B=>AA (bJ (k:=8) B.1 a g! g!) λS C=>AA (bJ (k:=8) C.1 a g! g!) λT D=>AA (bJ (k:=4) D.1 a g! g!) λU E=>AA (bJ (k:=1) E.1 a g! g!) λV F=>D6 (AEU F.1 a) λq M o=>D6 (AEU o.1 a) λs w p=>AA (bJ (k:=4) p.1 a g! g!) λj b=>AA (AEW (n:=j.1) b.1 a (λc=>?_)) λJ f=>?_;have:=(b.2.1 c).1 g!;rw[show(256:Int)^4=4294967296 by decide]at this;exact this;refine AL (λh=>AB λc=>N! c h) (λh=>AL (λ_=>AB n!) (λG=>D6 (KA) λK i _=>AO (λ_=>AB n!) (λH=>AB λ_=>?_)));subst H;obtain⟨q11,d⟩:=f.2 h;have l:s.2.2.2=0:=TW λe=>by have:=b.2.2 e;rw[this]at d;exact e d
 have u:=p.2 l;have L:q.2.2.2=0:=TW λe=>by
  have:s=((η,[]),q.2):=by have:=w;unfold E5 B6 at this;rw[bne_iff_ne.2 e,B!,AD,bne_iff_ne.2 e,B!]at this;injection this with this;exact this.symm
  rw[this]at l;exact e l
 have t:=o.2 L;obtain⟨g,m,N⟩:=f.1.2 h;have hr:g=[]:=by simp only[len]at G;have v:=E! θ m;rw[AY]at v;exact EZ o!
 subst hr;refine⟨?_,t,u,?_,i⟩;rw[m];unfold Bz;dsimp only;rw[q11];simp only[A5,B4,DN];dsimp only;rw[q11];exact b.2.1 d
def AIG{e:AE}(h:L5 e):JX (Bz e)=δ (e,0):=by
 obtain⟨s,t,H,w,y,z,A,B,C,D,E⟩:=h.cells;have I:=SI h;have g:bR 4 (θ e.2.2.2.2.2.2.2:Int):=⟨λ_=>by rw[show(256:Int)^4=4294967296 by decide];omega,o!⟩
 have a:Bz e=[]++(C8 e.1 8++(C8 e.2.1 1++(C8 e.2.2.1 4++(C8 e.2.2.2.1 8++(C8 e.2.2.2.2.1 8++(C8 e.2.2.2.2.2.1 8++(C8 e.2.2.2.2.2.2.1.1 4++(C8 e.2.2.2.2.2.2.1.2.1 1++
 (UY e.2.2.2.2.2.2.1.2.2.1++(UY e.2.2.2.2.2.2.1.2.2.2++(C8 (θ e.2.2.2.2.2.2.2:Int) 4++(e.2.2.2.2.2.2.2++[])))))))))))):=by rw[DN];rfl
 generalize Bz e=x at*;have i:B6 (x,((0:Int)),0) 8=_:=Yo (p:=[]) (k:=8) a o! g! g! w;rw[B4]at i;rw[B4]at a;have j:=Yo (k:=1) a o! g! g! y;rw[<-A5]at a;have l:=Yo (k:=4) a o! g! g! z;rw[<-A5]at a;have m:=Yo (k:=8) a o! g! g! A;rw[<-A5]at a;have n:=Yo (k:=8) a o! g! g! B;rw[<-A5]at a;have o:=Yo (k:=8) a o! g! g! C;rw[<-A5]at a;have q:=Yo (k:=4) a o! g! g! D;rw[<-A5]at a;have r:=Yo (k:=1) a o! g! g! E;rw[<-A5]at a;have F:=AET a o! s;rw[<-A5]at a;have G:=AET a o! t;rw[<-A5]at a;have c:=Yo (k:=4) a o! g! g! g;rw[<-A5]at a;have d:=AEV a o!;rw[DN]at a;rw[<-a]at d;unfold JX;rw[i,AD];rw[show((1:Nat):Int)=1 from rfl]at j r;rw[show((4:Nat):Int)=4 from rfl]at l q c;rw[show((8:Nat):Int)=8 from rfl]at m n o;rw[j,AD,l,AD,m,AD,n,AD,o,AD,q,AD,r,AD,F,AD,G,AD,c,AD,d,AD];obtain⟨b,u,v⟩:=KA (x:=e);have f:b=ζ:=v h;subst f;dsimp only[len];rw[show((0:Int) !=0)=η by decide,A!,H!,A!];rw[show(e.1,e.2.1,e.2.2.1,e.2.2.2.1,e.2.2.2.2.1,e.2.2.2.2.2.1,(e.2.2.2.2.2.2.1.1,e.2.2.2.2.2.2.1.2.1,e.2.2.2.2.2.2.1.2.2.1,e.2.2.2.2.2.2.1.2.2.2),e.2.2.2.2.2.2.2)=e from rfl,u,AD,CM,A!]
end Go.Pm
