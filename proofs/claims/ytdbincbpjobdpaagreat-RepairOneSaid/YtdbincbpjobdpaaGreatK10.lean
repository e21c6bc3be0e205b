/- Texts of wip, joined and shortened by wip/tools/pack.py; nothing is assumed. -/
import Derived.Test.YtdbincbpjobdpaaGreatK9
import Derived.KernelRfl
noncomputable section
set_option linter.all false
namespace Go.Pm
open Go Go.Ab
set_option maxHeartbeats 400000
variable {B:Int->Prop}
def RTx(l:List Am)(id:Int)(t:Am):Prop:= ∃v,Ca (l,id)=some v/\0<=v/\l[v.toNat]? =some t/\t.1=id
def RTx.uniq{l:List Am}{id:Int}{t u:Am}(h:RTx l id t)(g:RTx l id u):u=t:=by have⟨v,e,f,i,j⟩:=h;have⟨w,a,b,c,d⟩:=g;grind[Option.some.inj]
def NX(k:AS)(id:Int)(e:AE):Prop:= ∃t lsn,RTx k.2.2.2.2.2.1 id t/\t.2.2.2.2.1[t.2.2.2.2.1.length-1]? =some lsn/\k.2.2.1.2.1[(lsn-k.2.2.1.1).toNat]? =some e
def NX.uniq{k m:AS}{id:Int}{e f:AE}(h:NX k id e)(g:NX m id f)(o:m.2.2.2.2.2.1=k.2.2.2.2.2.1)(c:LX k.2.2.1 m.2.2.1):f=e:=by have⟨t,n,i,j,l⟩:=h;have⟨u,w,a,b,d⟩:=g;rw[o]at a;have:=i.uniq a;subst this;rw[j]at b;cases b;have:=c.get l;rw[c.1]at d;grind[Option.some.inj]
def IU{x:AS×Int}(h:SK B x.1):Aq (FM x) λr=>r.2=0->VK x.1/\RTx x.1.2.2.2.2.2.1 x.2 r.1/\r.1.2.2.2.2.1.length<=4096/\r.1.1≠0:=by
 unfold FM;refine AA (CC h.sb) λv i=>AO (λ_=>AB n!) (λf=>?_);have c:=i f;refine D5 (Fi h.2.1) λj e d=>AC (λ_=>AB n!) (λg=>AA (AI o! d.2.1) λk _=>AP (λ_=>AB n!) (λ_=>AA (AI o! d.2.1) λl b=>AB λ_=>⟨c,⟨j,e,o!,b.1,?_⟩,(c.2.2.2.2.2.1.2 _ _ b.1).1,?_⟩))
 grind[Option.some.inj];have:=(c.2.2.2.2.2.1.2 _ _ b.1).2.2;dsimp only;omega
def fW{x:AS×Int}(h:SK B x.1):Aq (HU x) λr=>r.2=true->VK x.1/\NX x.1 x.2 r.1/\Ln r.1:=by
 unfold HU;refine AA (IU h) λc f=>AJ (λ_=>AB λa=>by cases a) (λa=>?_);have⟨k,hr,o,_⟩:=f a;refine AP (λ_=>AB λa=>by cases a) (λj=>?_);simp only[len]at j;rw[(AY (x:=len c.1.2.2.2.2.1-1) (by simp[len];omega))];refine AA (AI (by simp[len];omega) (by simp[len];omega)) λp _=>AC (λ_=>AB λa=>by cases a) (λ_=>AA (AI (by simp[len];omega) (by simp[len];omega)) λl g=>AA Gy λq i=>AB λa=>?_);have⟨d,m,e,n⟩:=i.1 (by simpa using a);refine⟨k,⟨c.1,l,hr,?_,e⟩,d⟩;have b:=g.1;have:(len c.1.2.2.2.2.1-1).toNat=c.1.2.2.2.2.1.length-1:=i!
 rw[this]at b;exact b
def jJ{x:AS×Am×Cq×Int}(h:x.2.1.2.2.2.2.1.length<=16777216)(c:0<=x.2.2.2/\x.2.2.2<=x.2.1.2.2.2.2.1.length):Aq (Oy x) λr=>r.2=true->Ln r.1/\r.1.2.2.2.2.2.2.1.1=x.2.2.1.1:=by unfold Oy;rw[(AY (x:=x.2.2.2-1))];refine AA (P:=λr=> ∀u,r= .inl u->u.1=true->Ln u.2/\u.2.2.2.2.2.2.2.1.1=x.2.2.1.1) ?_ λr hr=>A9 (λu a=>AB (hr u a)) (λ_ _=>AB λb=>by cases b);refine AW (λ(s:Int×AE)=> -1<=s.1/\s.1<x.2.1.2.2.2.2.1.length) (λ(s:Int×AE)=>(s.1+1).toNat) d! (λs d=>?_);unfold VH;rw[(AY (x:=s.1-1))];refine AC (λe=>?_) (λ_=>AB λu a=>by cases a);grind[AA,AI,Gy,AP,AB]
def SO{x:AS×Int×Cq}(h:SK B x.1):Aq (KR x) λr=>r.2=true->VK x.1/\Ln r.1/\r.1.2.2.2.2.2.2.1.1=x.2.2.1:=by refine AA (IU h) λf b=>AJ (λ_=>AB λa=>by cases a) (λa=>AJ (λ_=>AB λa=>by cases a) (λ_=>?_));have⟨d,_,e,_⟩:=b a;exact AA (jJ d! ⟨by simp[len],by simp[len]⟩) λg c=>AB λa=>⟨d,c a⟩
def Ys{x:Ds}:Aq (Jc x) λr=>r=(x.1,(x.2.1,(x.2.2.2,x.2.2.1))):=by grind[Jc,AB]
def Ue{x:AS×Am×AE}(h:SK B x.1)(t:Do x.1.2.2.1)(u:PB x.1.2.2.2.1)(A:Ln x.2.2)(v:x.2.1.1≠0):Aq (GO x) λr=>KL B x.1 r.1/\(r.2.1=3->r.2.2.2.1=x.2.2.2.2.2.2.2.2.1.1/\ ¬mM x.1.2.2.2.1 x.2.2.2.2.2.2.2.2.1.1/\r.1=x.1)/\(r.2.1≠3->r.2.1≠5->r.2.2.1≠0/\TP r.1.2.2.2.2.2.1<TP x.1.2.2.2.2.2.1)/\(r.2.1=5->r.2.2.2.2.2≠0):=by unfold GO;have F:=KL.refl h t;refine AA Ig λG i=>AO (λl=>AB ⟨F,λ_=>⟨rfl,i.2 l u,rfl⟩,λa=>absurd rfl a,λa=>absurd a (by show(3:Int)≠5;decide)⟩) (λc=>AA Ys λH w=>?_);subst w;refine AA Tb λI j=>AJ (λl=>?_) (λo=>?_);grind[AA,iJ,AB];refine AA (VG h t A.cell (.inr rfl) u (i.1 c).2.2.1 λg D e=>by have⟨_,_,_,m,f,C,d⟩:=i.1 c;rw[h.ki.same C D (by rw[e,d,m]),d];exact(j.1 o).2) λp q=>AJ (λl=>?_) (λa=>?_);grind[AA,iJ,AB];have E:=(q.2 a).2.2.1 v (by show(2:Int)≠1;decide);have n:=E.1 (by show(2:Int)≠4;decide);have b:KL B x.1 p.1:=q.1;refine AA (P:=λk=>KL B x.1 k/\k.2.2.2.2.2.1=p.1.2.2.2.2.2.1) ?_ λM s=>AB ⟨s.1,λa=>absurd a (by show(1:Int)≠3;decide),λ_ _=>⟨v,by rw[s.2];exact n⟩,λa=>absurd a (by show(1:Int)≠5;decide)⟩;refine AL (λ_=>?_) (λ_=>AB ⟨b,rfl⟩);refine AA (SO b.2.2.1) λJ _=>AA (P:=λk=>KL B x.1 k/\k.2.2.2.2.2.1=p.1.2.2.2.2.2.1) ?_ λL z=>AB z;refine AO (λ_=>?_) (λ_=>AB ⟨b,rfl⟩);exact AA (UY b.2.2.1.1) λK y=>AB ⟨⟨b.1,b.2.1,b.2.2.1.locks y,b.2.2.2⟩,rfl⟩
def Ud{x:AS×Int}(h:SK B x.1)(m:Do x.1.2.2.1):Aq (JQ x) λr=>KL B x.1 r.1/\(r.2.1=3-> ∃e,NX x.1 x.2 e/\r.2.2.2.1=e.2.2.2.2.2.2.1.1/\ ¬mM x.1.2.2.2.1 e.2.2.2.2.2.2.1.1)/\(r.2.1≠3->r.2.1≠5->TP r.1.2.2.2.2.2.1<TP x.1.2.2.2.2.2.1)/\(r.2.1=5->r.2.2.2.2.2≠0):=by
 unfold JQ;have D:=KL.refl h m;refine AA (IU h) λA q=>AJ (λi=>?_) (λd=>?_);grind[AA,iJ,AB];have⟨y,hr,n,o⟩:=q d;have f:Aq (Option.bind (HU x) λk=>
  bif (!k.2)then
   Option.bind (BF 14) λC=>
   some (x.1,C)
  else
  Option.bind (GO (x.1,(A.1,k.1))) λp=>
  some p) λr=>KL B x.1 r.1/\(r.2.1=3-> ∃e,NX x.1 x.2 e/\r.2.2.2.1=e.2.2.2.2.2.2.1.1/\ ¬mM x.1.2.2.2.1 e.2.2.2.2.2.2.1.1)/\(r.2.1≠3->r.2.1≠5->TP r.1.2.2.2.2.2.1<TP x.1.2.2.2.2.2.1)/\(r.2.1=5->r.2.2.2.2.2≠0):=by
  refine AA (fW h) λk u=>AO (λ_=>?_) (λi=>?_);grind[AA,iJ,AB];have⟨_,hn,w⟩:=u i;refine AA (Ue h m y.2.2.2.1 w o) λp g=>AB ⟨g.1,λd=>?_,λa b=>(g.2.2.1 a b).2,g.2.2.2⟩;have⟨a,b,_⟩:=g.2.1 d;exact⟨_,hn,a,b⟩
 refine AP (λ_=>?_) (λ_=>f);refine AP (λ_=>?_) (λ_=>f);refine AA (F3 h.sb) λE s=>AJ (λi=>?_) (λd=>?_);grind[AA,iJ,AB];have l:=(s d).2.1;have z:=(l.2.2.2.2.2.1.2.2.1 (by have⟨v,_,_,_,j⟩:=hr;rw[<-j];exact o) (by show(5:Int)≠1;decide)).1 (by show(5:Int)≠4;decide);have c:=l.kl h u!;exact AA (Lw c.2.2.1.1) λF t=>AB ⟨⟨c.1,c.2.1,c.2.2.1.locks t,c.2.2.2⟩,λd=>absurd d (by show(1:Int)≠3;decide),λ_ _=>z,λd=>absurd d (by show(1:Int)≠5;decide)⟩
def fV{x:AS×Int×Cq}(h:SK B x.1)(f:Do x.1.2.2.1):Aq (MX x) λr=>KL B x.1 r.1/\(r.2.1=3->r.2.2.2.1=x.2.2.1/\ ¬mM x.1.2.2.2.1 x.2.2.1/\r.1=x.1)/\(r.2.1≠3->r.2.1≠5->r.2.2.1≠0->TP r.1.2.2.2.2.2.1<TP x.1.2.2.2.2.2.1):=by unfold MX;have o:=KL.refl h f;refine AA (IU h) λp i=>AJ (λ_=>?_) (λc=>?_);grind[AA,B3,AB];have⟨m,hr,g,n⟩:=i c;refine AJ (λ_=>?_) (λ_=>?_);grind[AA,B3,AB];refine AA (SO h) λq j=>AO (λ_=>AB ⟨o,λc=>absurd c (by show(1:Int)≠3;decide),λ_ _ c=>absurd rfl c⟩) (λk=>?_);have⟨_,l,e⟩:=j k;refine AA (Ue h f m.2.2.2.1 l n) λs d=>AB ⟨d.1,λc=>?_,λa b _=>(d.2.2.1 a b).2⟩;have:=d.2.1 c;dsimp only at this;rw[e]at this;exact this
def RV{x:AV×Int}(h:SK B x.1.1):Aq (ER x) λr=>True:=by unfold ER;refine AA (Fi h.2.1) λc a=>AC (λb=>?_) (λ_=>AB trivial);grind[AA,AI,AB]
end Go.Pm
namespace Go.Pm
open Go Go.Ab
set_option maxHeartbeats 400000
variable {B:Int->Prop}
def SR(B:Int->Prop)(x s:AV):Prop:=KL B x.1 s.1/\DJ B s.1.2.2.1 s.2
def SR.trans{a b c:AV}(h:SR B a b)(g:SR B b c):SR B a c:=⟨h.1.trans g.1,g.2⟩
def SvR.sr{a b:AV}(h:SvR B a b):SR B a b:=⟨h.1.kl,h.2⟩
open Classical in
noncomputable def flag(p:Prop):Nat:=if p then 1 else 0
theorem AAO(p:Prop):flag p<=1:=by unfold flag;split<;>omega
def vY{p:Prop}(h:p):flag p=1:=by unfold flag;rw[if_pos h]
def vX{p:Prop}(h: ¬p):flag p=0:=by grind[flag]
def YP{x:AV×Int}(h:SK B x.1.1)(C:Do x.1.1.2.2.1)(A:DJ B x.1.1.2.2.1 x.1.2):Aq (Eo x) λr=>r.2=0->SR B x.1 r.1:=by unfold Eo;refine AA (CC h.sb) λv E=>AO (λ_=>AB n!) (λm=>AA (Fi h.2.1) λH _=>AC (λ_=>AB n!) (λ_=>AA (P:=λr=>(∀u,r= .inl u->u.1≠0)/\ ∀u,r= .inr u->SR B x.1 u.1) ?_ λr hr=>A9 (λu a=>AB λb=>absurd b (hr.1 u a)) (λu a=>AB λ_=>hr.2 u a)));refine AW (λ(s:AV×AV)=>SR B x.1 s.1) (λ(s:AV×AV)=>2*TP s.1.1.2.2.2.2.2.1+flag (∃e,NX s.1.1 x.2 e/\ ¬mM s.1.1.2.2.2.1 e.2.2.2.2.2.2.1.1)) ⟨KL.refl h C,A⟩ (λs c=>?_);unfold Pz;have d:=c.1.2.2;refine AA (RV d.1) λI _=>AL (λ_=>?_) (λ_=>AB ⟨λu a=>(by cases a),λu a=>(by cases a;exact c)⟩);refine AA (Ud d.1 d.2) λJ z=>?_;have⟨k1,D,F,G⟩:=z;apply AP<;>intro i;grind[AB];refine AA (P:=λr=>(∃u,r= .inl u/\u.1≠0)\/ ∃u,r= .inr u/\SR B s.1 u.1/\2*TP u.1.1.2.2.2.2.2.1+flag (∃e,NX u.1.1 x.2 e/\ ¬mM u.1.1.2.2.2.1 e.2.2.2.2.2.2.1.1)<2*TP s.1.1.2.2.2.2.2.1+flag (∃e,NX s.1.1 x.2 e/\ ¬mM s.1.1.2.2.2.1 e.2.2.2.2.2.2.1.1)) ?_ λr hr=>?_;apply AP<;>intro o;have⟨e,k,p,q⟩:=D o;refine AA (HV d.1 c.2) λK i=>AJ (λm=>AB (.inl ⟨_,rfl,m⟩)) (λb=>AB (.inr ⟨_,rfl,(i b).1.sr,?_⟩));have⟨l,g⟩:=i b;have n:=l.1.2.2.2.2.1;rw[vY (⟨e,k,q⟩: ∃e,NX s.1.1 x.2 e/\ ¬mM s.1.1.2.2.2.1 e.2.2.2.2.2.2.1.1),vX,n];dsimp only;omega;rintro⟨f,t,y⟩;have:=k.uniq t n l.1.2.1;subst this;dsimp only at g;rw[p]at g;exact y g;refine AB (.inr ⟨_,rfl,⟨k1,c.2.up k1.2.1⟩,?_⟩);grind[AAO,mM];rcases hr with⟨u,rfl,a⟩|⟨u,rfl,a⟩;refine BL (AB ⟨λw j=>?_,λw j=>(by cases j)⟩);cases j;exact a;exact BA (AB ⟨c.trans a.1,a.2⟩)
def jL{x:AV×Int×Ct}(h:SK B x.1.1)(K:Do x.1.1.2.2.1)(J:DJ B x.1.1.2.2.1 x.1.2):Aq (O1 x) λr=>SR B x.1 r.1/\(r.2.1=2->r.1.1.2.2.2.2.2.1=x.1.1.2.2.2.2.2.1):=by
 unfold O1;refine AA (P:=λr=>SR B x.1 r.1/\(r.2.1=2->r.1.1.2.2.2.2.2.1=x.1.1.2.2.2.2.2.1)) ?_ λr hr=>AB hr;refine AW (λ(s:AV×AV×Ba)=>SR B x.1 s.1/\s.1.1.2.2.2.2.2.1=x.1.1.2.2.2.2.2.1) (λ(s:AV×AV×Ba)=>flag (¬mM s.1.1.2.2.2.1 x.2.2.2.1)) ⟨⟨KL.refl h K,J⟩,rfl⟩ (λs l=>?_);obtain⟨l,o⟩:=l;have y:=l.1.2.2;unfold VM;refine AA (jI y.1 y.2) λf E=>?_;obtain⟨k1,L,z⟩:=E;have j:SR B x.1 (f.1,s.1.2):=⟨l.1.trans k1,l.2.up k1.2.1⟩
 have g:=k1.2.2;apply AP<;>intro q;obtain⟨a,b,c⟩:=L q;have d:=z (.inr q);refine AA (HV g.1 j.2) λT F=>AJ (λ_=>?_) (λi=>AB ?_);refine AA B3 λU R=>AB ⟨j,λ_=>?_⟩;dsimp only at*;rw[d,o];obtain⟨t,v⟩:=F i;refine⟨⟨j.trans t.sr,?_⟩,?_⟩;have:=t.1.2.2.2.2.1;dsimp only at*;rw[this,d,o];dsimp only at*;rw[vY b,vX];omega;intro hn;rw[a]at v;exact hn v;have k: ∀(Q:Step (AV×(AV×Ba)) (AV×Ba)->Prop),(∀r:AV×Ba,SR B x.1 r.1/\(r.2.1=2->r.1.1.2.2.2.2.2.1=x.1.1.2.2.2.2.2.1)->Q (.done r))-> ∀c:Int,c≠2->f.2.1=c->Aq (Option.bind (ER ((f.1,s.1.2),x.2.1)) λA=>
  Option.bind ((
    bif A then
     Option.bind (Eo ((f.1,s.1.2),x.2.1)) λn=>
     bif (n.2 !=0)then
      Option.bind (BF n.2) λC=>
      some (.inl ((f.1,s.1.2),C))
     else
     some (.inr (n.1,s.2))
    else
    some (.inr ((f.1,s.1.2),s.2))):(Option ((AV×Ba)⊕ (AV×(AV×Ba))))) λO=>
  Sum.elim (λM=>some (Step.done M))
  (λN=>some (.done (N.1,f.2))) O) Q:=by
  intro Q w c S I;refine AA (RV g.1) λA _=>AA (P:=λr=>(∃u,r= .inl u/\SR B x.1 u.1/\u.2.1=5)\/ ∃u,r= .inr u/\SR B x.1 u.1) ?_ λr hr=>?_;refine AL (λ_=>?_) (λ_=>AB (.inr ⟨_,rfl,j⟩));refine AA (YP g.1 g.2 j.2) λn G=>AJ (λ_=>?_) (λi=>AB (.inr ⟨_,rfl,j.trans (G i)⟩));exact AA B3 λC H=>AB (.inl ⟨_,rfl,j,H⟩);rcases hr with⟨u,rfl,m⟩|⟨u,rfl,m⟩;exact BL (AB (w _ ⟨m.1,λi=>by have:=m.2;omega⟩));exact BA (AB (w _ ⟨m,λi=>by dsimp only at i;omega⟩))
 have e:SR B x.1 (f.1,s.1.2)/\(f.2.1=2->f.1.2.2.2.2.2.1=x.1.1.2.2.2.2.2.1):=⟨j,λi=>by rw[z (.inl i),o]⟩
 refine AP (λD=>k _ (λr hr=>hr) 4 g! D) (λ_=>AP (λp=>?_) (λ_=>AB e));refine AP (λ_=>k _ (λr hr=>hr) 1 g! p) (λ_=>AP (λ_=>k _ (λr hr=>hr) 1 g! p) (λ_=>AB e))
def cu{x:AS}(h:SK B x)(d:Do x.2.2.1):Aq (LU x) λr=>r.2.2=0->KL B x r.1:=by unfold LU;refine AA (CC h.sb) λv e=>AO (λ_=>AB n!) (λb=>AC (λ_=>AB n!) (λ_=>AA Tf λf c=>AJ (λb=>AB λa=>absurd a b) (λa=>AB λ_=>⟨rfl,LX.refl _,⟨h.1,?_,h.2.2⟩,d⟩)));have:=(c a).2;dsimp only;omega
def dE{x:AV}(h:SK B x.1)(e:Do x.1.2.2.1)(d:DJ B x.1.2.2.1 x.2):Aq (Lb x) λr=>r.2.2=0->SR B x r.1:=by unfold Lb;refine AA (cu h e) λf b=>AJ (λc=>AB λa=>absurd a c) (λa=>AB λ_=>⟨b a,d.up (b a).2.1⟩)
def cw{x:AS×Int}(h:SK B x.1)(n:Do x.1.2.2.1):Aq (LV x) λr=>r.2.2=0->KL B x.1 r.1/\PB x.1.2.2.2.1/\mM x.1.2.2.2.1 x.2/\(∃f∈r.1.2.2.2.1.2.1,f.1=r.2.1)/\r.2.1.2.1<=r.1.2.2.1.2.2:=by
 unfold LV;refine AA (CC h.sb) λv q=>AO (λ_=>AB n!) (λp=>AA Ig λs o=>AO (λ_=>AB n!) (λj=>?_));have⟨a,b,c,d,e⟩:=o.1 j;refine AA (Jg h n) λt i=>AB λ_=>⟨i.1.kl,a,c,by dsimp only;rw[i.2.1];exact e,i.2.2 ?_⟩
 have⟨f,m,k⟩:=e;have g:=h.ki.2.2 f m;have:=congrArg (λz=>z.2.1) ((h.ki.2.1 f.1.1 g.1 g.2.1).1 f m rfl);have:=kA n f.1.1;rw[K5,k]at*;dsimp only;omega
def dG{x:AV×Int}(h:SK B x.1.1)(j:Do x.1.1.2.2.1)(i:DJ B x.1.1.2.2.1 x.1.2):Aq (Ld x) λr=>r.2=0->SR B x.1 r.1:=by unfold Ld;refine AA (cw h j) λn l=>AJ (λm=>AB λe=>absurd e m) (λe=>?_);have⟨a,b,c,d,k⟩:=l e;refine AA Fh λo f=>AA (AI (f.2.2.2 b c) f.2.1) λp _=>AO (λ_=>AB λ_=>⟨KL.refl h j,i⟩) (λ_=>AA (Tj a.2.2.1 a.2.2.2 (i.up a.2.1) d k) λq g=>AB λe=>⟨a.trans (g e).1.kl,(g e).2.1⟩)
end Go.Pm
namespace Go.Pm
open Go Go.Ab
set_option maxHeartbeats 400000
def VDs(l:List Ag)(p:Int):Prop:= ∀(i:Nat) (d:Ag),l[i]? =some d->((i:Int)<=d.1/\d.1<p/\1<=d.2.1/\d.2.1<=d.2.2/\d.2.2<=1099511627776)/\ ∀f,0<i->l[i-1]? =some f->f.1<d.1
def VIs(x:Bu):Prop:=1<=x.length/\x.length<=64/\ ∀r∈x,(0<=r.1/\r.1<=1099511627776)/\(0<=r.2.1/\r.2.1<=1099511627776)/\0<=r.2.2/\r.2.2<=1099511627776
def VDs.len{l:List Ag}{p:Int}(h:VDs l p)(b:p<=64):l.length<=64:=by refine Qs λa=>?_;have:=(h (l.length-1) _ (Av o!)).1;omega
def AIv{l:List Ag}{p:Int}(A:l.length<=16777216):Aq (FL (l,p)) λr=>r=true->VDs l p:=by
 refine AA (P:=λr=>r= .inl false\/(r= .inr ()/\VDs l p)) ?_ λr hr=>?_
 ·refine Cn (λ(s:Int)=>0<=s/\s<=l.length/\ ∀(i:Nat) (d:Ag),(i:Int)<s->l[i]? =some d->((i:Int)<=d.1/\d.1<p/\1<=d.2.1/\d.2.1<=d.2.2/\d.2.2<=1099511627776)/\ ∀f,0<i->l[i-1]? =some f->f.1<d.1) (λs=>((l.length:Int)-s).toNat) ⟨Ae _,o!,λi d y=>o!⟩ (λs w=>?_);have⟨t,B,m⟩:=w;unfold Gs;dsimp[len];refine AC (λn=>?_) (λn=>Aq.done (.inr ⟨rfl,λi d a=>m i d (by have:=Cv a;omega) a⟩));obtain⟨k,rfl⟩:=EY t;refine AA (AI t n) λv g=>?_;have g:=g.1;rw[DG]at g;refine AC (λ_=>Aq.done (.inl rfl)) (λq1=>AC (λ_=>Aq.done (.inl rfl)) (λq2=>AC (λ_=>Aq.done (.inl rfl)) (λq3=>AC (λ_=>Aq.done (.inl rfl)) (λq4=>AC (λ_=>Aq.done (.inl rfl)) (λq5=>?_)))));rw[AY (x:=(k:Int)+1)];have b:((k:Int)<=v.1/\ ∀f,0<k->l[k-1]? =some f->f.1<v.1)-> ∀(i:Nat) (d:Ag),(i:Int)<(k:Int)+1->l[i]? =some d->((i:Int)<=d.1/\d.1<p/\1<=d.2.1/\d.2.1<=d.2.2/\d.2.2<=1099511627776)/\ ∀f,0<i->l[i-1]? =some f->f.1<d.1:=λq i d y a=>by by_cases h:i=k;subst h;rw[g]at a;cases a;exact⟨⟨q.1,o!⟩,q.2⟩;exact m i d o! a
  refine AC (λe=>?_) (λe=>Aq.next ⟨o!,o!,b ⟨o!,λf u=>absurd u o!⟩⟩ o!);rw[AY (x:=(k:Int)-1)];refine AA (AI) λz c=>?_;have c:=c.1;rw[show((k:Int)-1).toNat=k-1 by omega]at c;refine AC (λ_=>Aq.done (.inl rfl)) (λq6=>?_);have j:=(m (k-1) z o! c).1.1;refine Aq.next ⟨o!,o!,b ⟨o!,λf _ o=>?_⟩⟩ o!
  rw[c]at o;cases o;omega
 grind[BL,AB,BA]
def ADE{x:Int}:Aq (Gm x) λr=>r=true->0<=x/\x<=1099511627776:=by refine AC (λh=>AB λa=>⟨o!,of_decide_eq_true a⟩) (λ_=>AB λa=>by cases a)
def AHO{x:Bu}:Aq (D1 x) λr=>r=true->VIs x:=by
 refine AC (λ_=>AB λa=>by cases a) (λd=>AC (λ_=>AB λa=>by cases a) (λe=>?_));simp[len]at d e;refine AA (P:=λr=>r= .inl false\/(r= .inr ()/\VIs x)) ?_ λr hr=>?_
 ·refine Cn (λ(s:Int)=>0<=s/\s<=x.length/\ ∀r∈x.take s.toNat,(0<=r.1/\r.1<=1099511627776)/\(0<=r.2.1/\r.2.1<=1099511627776)/\0<=r.2.2/\r.2.2<=1099511627776) (λs=>((x.length:Int)-s).toNat) ⟨Ae _,o!,λr hr=>by simp at hr⟩ (λs g=>?_);have⟨i,p,c⟩:=g;unfold JB;dsimp[len];refine AC (λb=>?_) (λb=>Aq.done (.inr ⟨rfl,o!,o!,by rw[BO o!]at c;exact c⟩));refine AA (AI i b) λv h=>AA ADE λj m=>AO (λ_=>Aq.done (.inl rfl)) (λq=>AA ADE λk n=>AO (λ_=>Aq.done (.inl rfl)) (λt=>AA ADE λl o=>AO (λ_=>Aq.done (.inl rfl)) (λu=>?_)));rw[AY (x:=s+1)];have f: ∀r∈x.take (s+1).toNat,(0<=r.1/\r.1<=1099511627776)/\(0<=r.2.1/\r.2.1<=1099511627776)/\0<=r.2.2/\r.2.2<=1099511627776:=λr hr=>by rw[show(s+1).toNat=s.toNat+1 by omega,C3,h.1]at hr;grind
  grind[AP,Aq.next,AJ,Aq.done]
 grind[BL,AB,BA]
def VCk(c:CY):Prop:=1<=c.1/\c.1<=64/\1<=c.2.1/\c.2.1<=1073741825/\VDs c.2.2.2.1 c.1/\VIs c.2.2.2.2/\c.2.2.2.2.length=c.1
def AIb{c:CY}(d:c.2.2.2.1.length<=16777216):Aq (G0 c) λr=>r=true->VCk c:=by refine AC (λ_=>AB λa=>by cases a) (λf=>AC (λ_=>AB λa=>by cases a) (λg=>AC (λ_=>AB λa=>by cases a) (λh=>AC (λ_=>AB λa=>by cases a) (λi=>AA Dw λo b=>AO (λ_=>AB λa=>by cases a) (λe=>AA (AIv d) λp j=>AO (λ_=>AB λa=>by cases a) (λl=>AA AHO λq k=>AO (λ_=>AB λa=>by cases a) (λm=>AJ (λ_=>AB λa=>by cases a) (λn=>AA (QY ⟨Ae _,o!,by have:=(b e).1;omega⟩) λr hr=>?_))))))));grind[VCk,A9,AB]
def dB(d:Ag):BT:=Cy d.1 1++(Cy d.2.1 8++Cy d.2.2 8)
def rB(r:BX):BT:=Cy r.1 8++(Cy r.2.1 8++Cy r.2.2 8)
def uL(l:List Ag):BT:=(l.map dB).flatten
def qG(l:List BX):BT:=(l.map rB).flatten
def AGh(d:Ag):(dB d).length=17:=rfl
def AHE(r:BX):(rB r).length=24:=rfl
def ACm(l:List Ag)(d:Ag):uL (l++[d])=uL l++dB d:=by grind[uL,List.flatten_append]
def ADp(l:List BX)(d:BX):qG (l++[d])=qG l++rB d:=by grind[qG,List.flatten_append]
def w8(l:List Ag)(d:Ag):uL (d::l)=dB d++uL l:=rfl
theorem xv(l:List BX)(d:BX):qG (d::l)=rB d++qG l:=rfl
theorem jz: ∀l:List Ag,(uL l).length=17*l.length
 |[]=>rfl
 |d::l=>by rw[w8,Ac,AGh,jz l,Bn];omega
theorem qi: ∀l:List BX,(qG l).length=24*l.length
 |[]=>rfl
 |d::l=>by rw[xv,Ac,AHE,qi l,Bn];omega
def i8r{n:Int}(a:0<=n)(b:n<=1099511627776):au 8 n:=⟨n!,o!⟩
def i1r{n:Int}(a:0<=n)(b:n<256):au 1 n:=⟨λ_=>q!,o!⟩
def i2r{n:Int}(a:0<=n)(b:n<65536):au 2 n:=⟨λ_=>q!,o!⟩
def i4r{n:Int}(a:0<=n)(b:n<4294967296):au 4 n:=⟨λ_=>q!,o!⟩
def AEq{x:Bu}(h:VIs x):Aq (Hz x) λr=>r.1=Cy (x.length:Int) 2++qG x\/r.1=[]:=by
 have⟨c,d,e⟩:=h;refine AA AHO λi b=>AO (λ_=>AB (.inr rfl)) (λ_=>?_);rw[Hf k! g! g!,AD,Bw];refine AA (P:=λr=>r=Cy (x.length:Int) 2++qG x) (Cn (λ(s:BT×Int)=> ∃k:Nat,k<=x.length/\s=(Cy (x.length:Int) 2++qG (x.take k),(k:Int))) (λs=>x.length-s.2.toNat) ⟨0,Be _,by simp[qG]⟩ ?_) λr hr=>AB (.inl hr);rintro s ⟨k,f,rfl⟩;unfold IT;dsimp[len];refine AC (λa=>?_) (λa=>Aq.done q!);have g:(Cy (x.length:Int) 2++qG (x.take k)).length<=2000:=by grind[List.length_append,Ax,qi,List.length_take]
 rw[(by unfold ix;rw[if_pos o!,Int.toNat_natCast,List.getElem?_eq_getElem o!]:ix x (k:Int)=some x[k]),Option.bind_some,Hf o! g! g!,Option.bind_some,Option.bind_some,Hf (by rw[List.length_append,Ax];simp only[Int.reduceToNat];omega) g! g!,Option.bind_some,Option.bind_some,Hf (by rw[List.length_append,List.length_append,Ax,Ax];simp only[Int.reduceToNat];omega) g! g!,Option.bind_some,AY];refine Aq.next ⟨k+1,o!,?_⟩ o!
 rw[(by simp_all:x.take (k+1)=x.take k++[x[k]]),ADp];simp only[A0];exact DR rfl o!
def AEl{x:Bu}(h:VIs x):Aq (Ef (Cy (x.length:Int) 2++qG x)) λr=>r.2=0->r.1=x:=by
 have⟨t,u,i⟩:=h;have y:(Cy (x.length:Int) 2++qG x).length=2+24*x.length:=by rw[Ac,Ax,qi]
 unfold Ef;have d:=(jN (x:=Cy (x.length:Int) 2++qG x) (p:=[]) (rest:=qG x) (at_:=0) (k:=2) (n:=(x.length:Int)) rfl rfl o! g! g! (i2r o! o!)).1;rw[show(((2:Nat)):Int)=2 from rfl]at d;rw[d,AD];have m:wi (len (Cy (x.length:Int) 2++qG x)-2)=24*(x.length:Int):=by grind[AY]
 have o:wi (24*((x.length:Int),(0:Int)).1)=24*(x.length:Int):=AY q!;rw[show((((x.length:Int),(0:Int)):Int×Int).2 !=0)=false from rfl,cond_false,decide_eq_false o!,cond_false,decide_eq_false o!,cond_false];refine AA (P:=λr=>r=x) ?_ λr hr=>?_
 ·refine Cn (λ(s:Int×List BX)=> ∃k:Nat,k<=x.length/\s=((k:Int),x.take k)) (λs=>x.length-s.1.toNat) ⟨0,Be _,rfl⟩ ?_;rintro s ⟨k,w,rfl⟩;unfold IR;dsimp only;refine AC (λl=>?_) (λl=>Aq.done (by rw[BO o!]));have b:k<x.length:=o!
  have a:(qG (x.take k)).length=24*k:=by grind[qi,List.length_take]
  have c:Cy (x.length:Int) 2++qG x=(Cy (x.length:Int) 2++qG (x.take k))++(Cy x[k].1 8++(Cy x[k].2.1 8++(Cy x[k].2.2 8++qG (x.drop (k+1))))):=by rw[(by grind[xv,List.drop_eq_getElem_cons,qG,List.flatten_append,List.take_append_drop]:qG x=qG (x.take k)++(rB x[k]++qG (x.drop (k+1))))];unfold rB;simp[A0]
  have⟨q1,q2,q3⟩:=i x[k] (Ng b);have e:=(jN (at_:=2+24*(k:Int)) (k:=8) c (by rw[Ac,Ax,a];omega) o! g! g! (i8r q1.1 q1.2)).1;rw[<-A0]at c;have f:=(jN (at_:=10+24*(k:Int)) (k:=8) c (by simp[Ac,Ax,a];omega) o! g! g! (i8r q2.1 q2.2)).1;rw[<-A0]at c;have g:=(jN (at_:=18+24*(k:Int)) (k:=8) c (by simp[Ac,Ax,a];omega) o! g! g! (i8r q3.1 q3.2)).1;rw[show(((8:Nat)):Int)=8 from rfl]at e f g;rw[AY (x:=24*(k:Int)),AY (x:=2+24*(k:Int)),AY (x:=10+24*(k:Int)),AY (x:=18+24*(k:Int)),e,AD,f,AD,g,AD,AY (x:=(k:Int)+1)];refine AA (AZ (by rw[BQ];simp;omega)) λz j=>Aq.next ⟨k+1,b,?_⟩ d!
  rw[j.1,(by simp_all:x.take (k+1)=x.take k++[x[k]])];exact DR d! rfl
 subst hr;exact AA AHO λA v=>AO (λ_=>AB λq=>absurd (show(28:Int)=0 from q) g!) (λ_=>AB λ_=>rfl)
def AEr{c:CY}(l:c.2.2.2.1.length<=16777216):Aq (Gc c) λr=>r.1.length<=8192->r.1=[]\/(VCk c/\ ∃b g:BT,r.1=Cy c.1 2++(Cy c.2.1 4++(Cy (b.length:Int) 4++(b++(Cy (c.2.2.2.1.length:Int) 1++(uL c.2.2.2.1++g)))))/\(g=Cy (c.2.2.2.2.length:Int) 2++qG c.2.2.2.2\/g=[])):=by
 unfold Gc;refine AA (AIb l) λB n=>AO (λ_=>AB λ_=>.inl rfl) (λe=>?_);have m:=n e;have⟨a1,a2,a3,a4,a5,a6,a7⟩:=id m;have t:=a5.len a2;refine AA SL λx z=>?_;rw[Hf k! g! g!,AD,Bw,Hf (by rw[Ax];decide) g! g!,AD,Hf (by simp only[Ac,Ax];decide) g! g!,AD];refine AA (CE (by simp[Ac,Ax,Int.reduceToNat];omega)) λj q=>?_;have w:=q.2;simp[Ac,Ax,Int.reduceToNat]at w;dsimp[len];rw[Hf o! g! g!,AD];refine AA (P:=λr=>r=j++(Cy (c.2.2.2.1.length:Int) 1++uL c.2.2.2.1)) ?_ λh o=>?_
 ·refine Cn (λ(s:BT×Int)=> ∃k:Nat,k<=c.2.2.2.1.length/\s=(j++(Cy (c.2.2.2.1.length:Int) 1++uL (c.2.2.2.1.take k)),(k:Int))) (λs=>c.2.2.2.1.length-s.2.toNat) ⟨0,Be _,by simp[uL]⟩ ?_;rintro s ⟨k,A,rfl⟩;unfold IV;dsimp[len];refine AC (λe=>?_) (λe=>Aq.done q!);have a:k<c.2.2.2.1.length:=o!
  have u:ix c.2.2.2.1 (k:Int)=some c.2.2.2.1[k]:=by unfold ix;rw[if_pos o!,Int.toNat_natCast,List.getElem?_eq_getElem a]
  have l:(j++(Cy (c.2.2.2.1.length:Int) 1++uL (c.2.2.2.1.take k))).length<=100000000:=by grind[List.length_append,Ax,jz,List.length_take]
  rw[u,AD,Hf o! g! g!,AD,AD,Hf (by rw[Ac,Ax];simp only[Int.reduceToNat];omega) g! g!,AD,AD,Hf (by rw[Ac,Ac,Ax,Ax];simp only[Int.reduceToNat];omega) g! g!,AD,AY];refine Aq.next ⟨k+1,a,?_⟩ q!
  have f:c.2.2.2.1.take (k+1)=c.2.2.2.1.take k++[c.2.2.2.1[k]]:=t!
  rw[f,ACm];unfold dB;grind[List.append_assoc,Prod.ext]
 refine AA (SI.and (AEq a6)) λi d=>?_;have v:h.length<=100000000:=by grind[List.length_append,Ax,jz]
 refine AA (CE o!) λy p=>AB λ_=>.inr ⟨m,x.1,i.1,?_,d.2⟩;grind[List.append_assoc]
def AEm{c:CY}(Q:VCk c){b l s:BT}(J:s=Cy c.1 2++(Cy c.2.1 4++(Cy (b.length:Int) 4++(b++(Cy (c.2.2.2.1.length:Int) 1++(uL c.2.2.2.1++l))))))(X:s.length≤8192)(v:l=Cy (c.2.2.2.2.length:Int) 2++qG c.2.2.2.2∨l=[]):
  Aq (DA s) λr=>r.2=0->r.1.1=c.1/\r.1.2.2.2.1=c.2.2.2.1/\r.1.2.2.2.2=c.2.2.2.2:=by
 obtain⟨a1,a2,a3,a4,a5,a6,a7⟩:=id Q;have O:=a5.len a2;have d:=J;have y:=congrArg List.length J;simp only[Ac,Ax,jz]at y;have F:=(jN (x:=s) (p:=[]) (at_:=0) (k:=2) (n:=c.1) (show s=[]++(Cy c.1 2++_)from d) rfl o! g! g! (i2r o! o!)).1;have G:=(jN (at_:=2) (k:=4) (n:=c.2.1) d (by rw[Ax];rfl) o! g! g! (i4r o! o!)).1;rw[<-A0]at d;have H:=(jN (at_:=6) (k:=4) (n:=(b.length:Int)) d (by rw[Ac,Ax,Ax];rfl) o! g! g! (i4r o! o!)).1;rw[<-A0,<-A0]at d;have I:=(jN (at_:=10+(b.length:Int)) (k:=1) (n:=(c.2.2.2.1.length:Int)) d (by simp only[Ac,Ax];omega) o! g! g! (i1r o! o!)).1;rw[<-A0]at d;rw[show(((2:Nat)):Int)=2 from rfl]at F;rw[show(((4:Nat)):Int)=4 from rfl]at G H;rw[show(((1:Nat)):Int)=1 from rfl]at I;have w:((((Cy c.1 2++Cy c.2.1 4)++Cy (b.length:Int) 4)++b)++Cy (c.2.2.2.1.length:Int) 1).length=11+b.length:=by simp only[Ac,Ax];omega
 generalize V:(((Cy c.1 2++Cy c.2.1 4)++Cy (b.length:Int) 4)++b)++Cy (c.2.2.2.1.length:Int) 1=P at d w;unfold DA;rw[F,AD,G,AD,H,AD];dsimp only[len];rw[show((0:Int) !=0)=false by decide,cond_false,AY (x:=(s.length:Int)-10),decide_eq_false o!,cond_false,AY (x:=10+(b.length:Int))];refine AA (Bt g!) λY L=>?_;rw[I,AD];dsimp only;rw[show((0:Int) !=0)=false by decide,cond_false,AY (x:=(s.length:Int)-(10+(b.length:Int))),AY (x:=(s.length:Int)-(10+(b.length:Int))-1),AY (x:=17*(c.2.2.2.1.length:Int)),decide_eq_false o!,cond_false,AY (x:=10+(b.length:Int)+1)];refine AA (P:=λr=>r=((P.length:Int)+17*c.2.2.2.1.length,(c.2.2.2.1,(c.1,(c.2.1,([],[])))))) ?_ λR m=>?_
 ·refine Cn (λ(q:Int×Int×List Ag×Int×Int×List Am×Bu)=> ∃k:Nat,k<=c.2.2.2.1.length/\q=((P.length:Int)+17*k,((k:Int),(c.2.2.2.1.take k,(c.1,(c.2.1,([],[]))))))) (λq=>c.2.2.2.1.length-q.2.1.toNat) ⟨0,Be _,?_⟩ ?_;refine DR ?_ rfl;dsimp only;omega;rintro q ⟨k,W,rfl⟩;unfold L7;dsimp only;refine AC (λN=>?_) (λN=>Aq.done (by rw[BO o!,show k=c.2.2.2.1.length by omega]));have e:k<c.2.2.2.1.length:=o!
  have z:uL c.2.2.2.1=uL (c.2.2.2.1.take k)++(dB c.2.2.2.1[k]++uL (c.2.2.2.1.drop (k+1))):=by rw[<-w8,<-PX e];unfold uL;rw[<-List.flatten_append,<-Ki,DN]
  have f:(uL (c.2.2.2.1.take k)).length=17*k:=by rw[jz,BQ];omega
  have i:s=(P++uL (c.2.2.2.1.take k))++(Cy c.2.2.2.1[k].1 1++(Cy c.2.2.2.1[k].2.1 8++(Cy c.2.2.2.1[k].2.2 8++(uL (c.2.2.2.1.drop (k+1))++l)))):=by rw[d,z];unfold dB;simp only[A0]
  obtain⟨q1,q2,q3,q4,q5⟩:=(a5 k _ (Av e)).1;have C:=(jN (at_:=(P.length:Int)+17*k) (k:=1) i (by rw[Ac,f];omega) o! g! g! (i1r o! o!)).1;rw[<-A0]at i;have D:=(jN (at_:=(P.length:Int)+17*k+1) (k:=8) i (by simp only[Ac,Ax,f];omega) o! g! g! (i8r o! o!)).1;rw[<-A0]at i;have E:=(jN (at_:=(P.length:Int)+17*k+9) (k:=8) i (by simp only[Ac,Ax,f];omega) o! g! g! (i8r o! o!)).1;rw[show(((1:Nat)):Int)=1 from rfl]at C;rw[show(((8:Nat)):Int)=8 from rfl]at D E;rw[C,AD,AY (x:=(P.length:Int)+17*k+1),D,AD,AY (x:=(P.length:Int)+17*k+9),E,AD,AY (x:=(P.length:Int)+17*k+17),AY (x:=(k:Int)+1)];refine AA (AZ (by rw[BQ];simp;omega)) λZ M=>Aq.next ⟨k+1,e,?_⟩ d!
  have B:c.2.2.2.1.take (k+1)=c.2.2.2.1.take k++[c.2.2.2.1[k]]:=by rw[C3,Av e];rfl
  rw[M.1,B];refine DR ?_ (DR ?_ rfl);dsimp only;omega;dsimp only;omega
 subst m;refine AA (SJ (by rw[L.1,BQ,EH];omega)) λS _=>AJ (λg=>AB λh=>absurd h g) (λ_=>?_);dsimp only;have A:RD s ((P.length:Int)+17*(c.2.2.2.1.length:Int)) (s.length:Int)=some l:=by
  unfold RD;rw[if_pos o!,d,<-A0];have u:(P++uL c.2.2.2.1).length=((P.length:Int)+17*(c.2.2.2.1.length:Int)).toNat:=by rw[Ac,jz];omega
  rw[<-u,Qt,BO (by rw[Ac];omega)]
 rw[A,AD];rcases v with rfl|rfl;refine AA ((SH o!).and (AEl a6)) λT o=>AJ (λg=>AB λh=>absurd h g) (λj=>AA (N3 d!) λU _=>AO (λ_=>AB λh=>absurd (show(24:Int)=0 from h) g!) (λ_=>AB λ_=>⟨rfl,rfl,o.2 j⟩));have K:Ef []=some ([],5):=by unfold Ef;have:=iK (a:=[]) (t:=[]) (k:=2) g! g! g!;rw[C5,if_neg g!]at this;rw[show((([]:BT).length:Nat):Int)=0 from rfl]at this;rw[this];rfl
 rw[K,AD];exact AB λh=>absurd (show(5:Int)=0 from h) g!
variable {B:Int->Prop}
def cp{x:Bv}:Aq (LN x) λr=>r.length<=64/\(∀d∈r,∃f∈x.2.1,f.1.1=d.1/\d.2.2=f.1.2.1)/\(PB x-> ∀f∈x.2.1,f.2.1=true->0<=f.1.1->f.1.1<64-> ∃d∈r,d.1=f.1.1):=by
 unfold LN;refine AA EQ λv B=>AO (λm=>AB ⟨k!,k!,λo=>absurd (B.2 o) (by simp[m])⟩) (λm=>?_);have o:=B.1 m;have R:=o.2.1;have S:=o.2.2.1;refine AA (P:=λr=>r.length<=64/\(∀d∈r,∃f∈x.2.1,f.1.1=d.1/\d.2.2=f.1.2.1)/\ ∀f∈x.2.1,f.2.1=true->0<=f.1.1->f.1.1<64-> ∃d∈r,d.1=f.1.1) ?_ λr hr=>AB ⟨hr.1,hr.2.1,λ_=>hr.2.2⟩;refine Cn (λ(s:Int×List Ag)=>0<=s.1/\s.1<=64/\s.2.length<=s.1/\(∀d∈s.2,∃f∈x.2.1,f.1.1=d.1/\d.2.2=f.1.2.1)/\ ∀f∈x.2.1,f.2.1=true->0<=f.1.1->f.1.1<s.1-> ∃d∈s.2,d.1=f.1.1) (λ(s:Int×List Ag)=>(64-s.1).toNat) ⟨Ae _,u!,k!,k!,λf _ _ i k=>absurd k d!⟩ (λs I=>?_);have⟨k,O,Q,p,q⟩:=I;unfold SG;rw[(AY (x:=s.1+1))];refine AC (λm=>?_) (λm=>Aq.done ⟨o!,p,λf h c i k=>q f h c i o!⟩);refine AA (Ga d!) λL b=>AC (λa=>?_) (λa=>Aq.next ⟨d!,d!,d!,p,λf h c i k=>?_⟩ d!)
 ·have⟨g,A,t⟩:=b.2.2.1 a;have D: ∀w,x.2.1[L.toNat]? =some w->w=g:=λw C=>by rw[A]at C;exact(Bf C).symm
  refine AA (AI a b.2.1) λM y=>?_;have E:=D M y.1;subst E;refine AA (P:=λl=>l.length<=s.2.length+1/\(∀d∈l,∃f∈x.2.1,f.1.1=d.1/\d.2.2=f.1.2.1)/\ ∀f∈x.2.1,f.2.1=true->0<=f.1.1->f.1.1<s.1+1-> ∃d∈l,d.1=f.1.1) ?_ λV H=>Aq.next ⟨d!,d!,d!,H.2⟩ d!
  refine AL (λn=>?_) (λn=>AB ⟨o!,p,λf h c i k=>?_⟩);refine AA (AI a b.2.1) λT _=>AA (AI a b.2.1) λN z=>?_;have F:=D N z.1;subst F;refine AA (AZ w!) λU G=>AB ⟨?_,λd c=>?_,λf h c i k=>?_⟩;grind;grind;rw[G.1];by_cases e:f.1.1<s.1;have⟨d,J,K⟩:=q f h c i e;grind[List.mem_append_left];exact⟨_,Kj _ (A6.2 rfl),d!⟩;by_cases e:f.1.1<s.1;exact q f h c i e;have⟨j,u⟩:=Dn h;have:=o.uniq u A (by dsimp only at t;omega);subst this;rw[n]at c;cases c
 by_cases e:f.1.1<s.1;grind;have⟨j,u⟩:=Dn h;exact absurd ⟨j,f,u,by dsimp only at k⊢;omega⟩ (b.2.2.2 o!)
def jK{x:AS}(h:SK B x):Aq (O0 x) λr=>r.2=0->r.1.2.2.2.1.length<=16777216/\r.1.1=x.1/\wT x.1 x.2.2.1.2.1 r.1.2.2.2.1 r.1.2.2.2.2:=by
 unfold O0;refine AA (CC h.sb) λv hv=>AO (λ_=>AB n!) (λo=>?_);have J:=hv o;have ad:=J.2.1;have⟨al,n,H⟩:=h.ki;refine AA (P:=λr=>r.1.length<=16777216/\r.2=(x.1,(x.2.1,(x.2.2.2.2.2.1,x.2.2.2.2.2.2.1)))/\(∀d∈r.1,d.2.2=Bj x.2.2.1.2.1 d.1)/\ ∀p,0<=p->p<x.1->(∀d∈r.1,d.1≠p)->(∀d∈x.2.2.2.2.2.2.2,d.1≠p)/\ ∀f∈x.2.2.2.1.2.1,f.1.1=p->f.2.1=false) ?_ λr hr=>AB λ_=>⟨hr.1,by rw[hr.2.1],λp g i=>⟨λd a e=>by rw[hr.2.2.1 d a,e],λw D=>?_⟩⟩
 rotate_left 1;dsimp only at D;rw[hr.2.1]at D;have⟨_,_,c⟩:=n p g i;exact⟨(c w D).1,λa=>(c w D).2 (hr.2.2.2 p g i a).1 (hr.2.2.2 p g i a).2⟩;refine Cn (λ(s:Int×(List Ag)×Int×Int×(List Am)×Bu)=>0<=s.1/\s.1<=x.1/\s.2.1.length<=65*s.1/\s.2.2=(x.1,(x.2.1,(x.2.2.2.2.2.1,x.2.2.2.2.2.2.1)))/\(∀d∈s.2.1,d.2.2=Bj x.2.2.1.2.1 d.1)/\ ∀p,0<=p->p<s.1->(∀d∈s.2.1,d.1≠p)->(∀d∈x.2.2.2.2.2.2.2,d.1≠p)/\ ∀f∈x.2.2.2.1.2.1,f.1.1=p->f.2.1=false) (λ(s:Int×(List Ag)×Int×Int×(List Am)×Bu)=>(x.1-s.1).toNat) ⟨Ae _,by have:=J.1;dsimp only;omega,k!,rfl,k!,λp g i=>absurd i d!⟩ (λs hI=>?_);have⟨h1,h2,h3,R,S,b⟩:=hI;unfold VI;have e:=AY (x:=s.1+1);rw[e];refine AC (λo=>?_) (λ_=>Aq.done ⟨o!,R,S,λp g i=>b p g o!⟩);refine AA (Jh h.sb) λv2 y=>AA (P:=λl=>l.1.length<=s.2.1.length+1/\l.2=s.2.2/\(∀d∈l.1,d.2.2=Bj x.2.2.1.2.1 d.1)/\(∀d∈s.2.1,d∈l.1)/\((∀d∈l.1,d.1≠s.1)-> ∀d∈x.2.2.2.2.2.2.2,d.1≠s.1)) ?_ λW F=>?_;refine AL (λm=>AA (AZ w!) λv6 b=>AB ?_) (λm=>AB ⟨o!,rfl,S,λd a=>a,λ_=>y.2 m⟩);have⟨q1,q2⟩:=y.1 m;have K:=b.2.1;simp at K;refine⟨d!,rfl,λd a=>?_,λd a=>by dsimp only;rw[b.1];exact GI _ a,λhn=>absurd q2 (hn _ (by dsimp only;rw[b.1];exact Kj _ (A6.2 rfl)))⟩;dsimp only at a;rw[b.1,An]at a;rcases a with a|a;grind;rw[A6]at a;subst a;exact(n _ (by dsimp only at q2;omega) (by dsimp only at q2;omega)).2.1 _ q1 rfl;have⟨a1,a2,a3,a4,a5⟩:=F;refine AA cp λE L=>?_;have⟨b1,Y,Z⟩:=L;refine AA (P:=λl=>l.1.length<=s.2.1.length+65/\l.2=s.2.2/\(∀d∈l.1,d.2.2=Bj x.2.2.1.2.1 d.1)/\(∀d∈W.1,d∈l.1)/\ ∀d∈E,d.1=s.1->d∈l.1) ?_ λao k=>Aq.next ⟨d!,d!,d!,by dsimp only;rw[k.2.1,R],k.2.2.1,λp g i hn=>?_⟩ d!
 rotate_left 1;have⟨_,_,_,N,c5⟩:=k;dsimp only at i hn;by_cases u:p<s.1;exact b p g u λd a=>hn d (N d (a4 d a));have ep:p=s.1:=o!
 subst ep;refine⟨a5 λd a=>hn d (N d a),λf C Q=>?_⟩;cases hb:f.2.1 with
 |false=>rfl
 |true=>have⟨d,G,q⟩:=Z J.2.2.2.1 f C hb o! o!;exact absurd (q.trans Q) (hn d (c5 d G (q.trans Q)))
 refine Cn (λ(t:Int×(List Ag)×Int×Int×(List Am)×Bu)=>0<=t.1/\t.1<=E.length/\t.2.1.length<=s.2.1.length+1+t.1/\t.2.2=s.2.2/\(∀d∈t.2.1,d.2.2=Bj x.2.2.1.2.1 d.1)/\(∀d∈W.1,d∈t.2.1)/\ ∀(j:Nat) (d:Ag),(j:Int)<t.1->E[j]? =some d->d.1=s.1->d∈t.2.1) (λ(t:Int×(List Ag)×Int×Int×(List Am)×Bu)=>((E.length:Int)-t.1).toNat) ⟨Ae _,d!,d!,a2,a3,λd a=>a,λj d I=>absurd I d!⟩ (λt hJ=>?_);have⟨j1,j2,j3,U,M,V,j7⟩:=hJ;unfold VJ;have e2:=AY (x:=t.1+1);rw[e2];refine AC (λo=>?_) (λo=>Aq.done ⟨o!,U,M,V,λd a O=>?_⟩);rotate_left 1;grind[List.getElem?_of_mem,Cv];simp[len]at o;refine AA (AI j1 o) λX z=>AA (P:=λl=>l.1.length<=t.2.1.length+1/\l.2=t.2.2/\(∀d∈l.1,d.2.2=Bj x.2.2.1.2.1 d.1)/\(∀d∈t.2.1,d∈l.1)/\(X.1=s.1->X∈l.1)) ?_ λv9 A=>Aq.next ⟨d!,d!,d!,A.2.1.trans U,A.2.2.1,λd a=>A.2.2.2.1 d (V d a),λj d I a O=>?_⟩ d!
 rotate_left 1;dsimp only at I;by_cases u:(j:Int)<t.1;grind;have:j=t.1.toNat:=o!
 subst this;rw[z.1]at a;have:=Bf a;subst this;exact A.2.2.2.2 O;refine AP (λT=>AA (AZ w!) λv6 b=>AB ?_) (λT=>AB ⟨o!,rfl,M,λd a=>a,λe=>absurd e T⟩);have K:=b.2.1;simp at K;refine⟨d!,rfl,λd a=>?_,λd a=>by dsimp only;rw[b.1];exact GI _ a,λ_=>by dsimp only;rw[b.1];exact Kj _ (A6.2 rfl)⟩;dsimp only at a;rw[b.1,An]at a;rcases a with a|a;exact M d a;rw[A6]at a;subst a;have⟨f,C,f1,f2⟩:=Y d z.2;have hr:=H f C;rw[f2,(n d.1 o! o!).1 f C f1,K5]
theorem AEn: ∃c e,DA []=some (c,e)/\e≠0:=⟨(0,(0,([],([],[])))),5,by kernel_rfl,g!⟩
def fX{x:AS}(h:SK B x):Aq (QX x) λr=>r.2.2=0->KL B x r.1:=by
 refine AA (jK h) λM u=>AJ (λb=>AB λa=>absurd a b) (λa=>?_);have⟨o,L,C⟩:=u a;refine AA ((aX o).and (AEr o)) λE j=>AC (λ_=>AB n!) (λf=>?_);simp[len]at f;have d: ∀c,DA E.1=some (c,0)->c.1=x.1->wT x.1 x.2.2.1.2.1 c.2.2.2.1 c.2.2.2.2:=by intro c b _;rcases j.2 o! with e|⟨g,D,K,A,i⟩;grind[AEn,Option.some.inj];have⟨_,q2,q3⟩:=(AEm g A o! i).get b rfl;rw[q2,q3];exact C
 refine AA (F3 h.sb) λN v=>AJ (λb=>AB λa=>absurd a b) (λa=>?_);have⟨_,⟨a1,a2,a3,a4,a5,a6,a7,a8,e,k,s,t,l,I,m,J⟩,w⟩:=v a;dsimp only at a1 a2 a4 a7 k s t l m w;have y:=a2.1;refine AA (Jd.and (qq a3 q!)) λO n=>AB λ_=>?_;have⟨F,p,G,H,_⟩:=n.1 n.2;refine⟨a1,a2.trans (LX.of G p H),⟨a8.1,a8.2.1,a8.2.2,?_⟩,F⟩;unfold KI;rw[a1,a4,a7,p,k,m g!];refine⟨h.ki.1.app ⟨λq=>o!,λq=>o!,λ_=>?_⟩,h.ki.2.1.app o!,h.ki.2.2⟩;rw[(congrArg (λz=>z.2.2) l)];exact d
def We{x:AV}(h:SK B x.1)(d:DJ B x.1.2.2.1 x.2):Aq (Kz x) λr=>r.2.2=0->SR B x r.1:=by exact AA (fX h) λe b=>AJ (λc=>AB λa=>absurd a c) (λa=>AB λ_=>⟨b a,d.up (b a).2.1⟩)
end Go.Pm
namespace Go.Pm
open Go Go.Ab
set_option maxHeartbeats 400000
theorem aW{x:BT}(h:x.length<=1099511627776):Aq (DA x) λr=>r.2=0->qv r.1/\r.1.2.2.2.1.length<=65536:=by unfold DA;refine AA (Cc h) λO _=>AA (Cc h) λQ _=>AA (Cc h) λc w=>AJ (λa=>AB n!) (λj=>?_);have⟨a1,a2,a3,_⟩:=w j;have a4:=a3 q!;dsimp only at a1 a2;rw[(AY (x:=len x-10) q!)];refine AC (λa=>AB n!) (λa=>?_);simp[len]at a;rw[(AY (x:=10+c.1))];refine AA (Bt g!) λR y=>AA (Cc h) λd z=>AJ (λa=>AB n!) (λk=>?_);have⟨o,p,q,t⟩:=z k;have G:=q q!;have H:=t q!;dsimp only at o p;rw[(AY (x:=len x-(10+c.1)) q!)];rw[(AY (x:=len x-(10+c.1)-1) q!)];rw[(AY (x:=17*d.1))];refine AC (λa=>AB n!) (λi=>?_);simp[len]at i;rw[(AY (x:=10+c.1+1))];refine AA (P:=λr=>r.1=10+c.1+1+17*d.1/\r.2.1.length<=65536) ?_ λB e=>?_;refine AW (λ(s:Int×Int×List Ag×Int×Int×List Am×Bu)=>0<=s.2.1/\s.2.1<=d.1/\s.1=10+c.1+1+17*s.2.1/\s.2.2.1.length<=s.2.1) (λ(s:Int×Int×List Ag×Int×Int×List Am×Bu)=>(d.1-s.2.1).toNat) ⟨Ae _,q!,q!,k!⟩ (λs A=>?_);have⟨J,K,L,M⟩:=A;unfold L7;refine AC (λa=>AA (Cc h) λ_ _=>AA (Cc h) λ_ _=>AA (Cc h) λ_ _=>AA (AZ w!) λS I=>?_) (λa=>AB ⟨q!,q!⟩);grind[List.length_cons,List.length_nil,AY,AB];have N:=y.2;refine AA (SJ o!) λC u=>AJ (λa=>AB λb=>absurd b a) (λm=>AA (Bt o! (by simp[len];omega) i!) λD f=>?_);have l:=f.2;simp[len]at l;exact AA (SH o!) λE v=>AJ (λa=>AB λb=>absurd b a) (λn=>AA (N3 d!) λF g=>AO (λa=>AB n!) (λa=>AB λ_=>⟨g a,e.2⟩))
def Ln.data{e:AE}(h:Ln e):e.2.2.2.2.2.2.2.length<=8192:=by have a:=h.2.2.2.2.2.2.2.2;grind[Uy]
def aY{x:Ad}:Aq (Oz x) λr=>r.2.2=true->(qv r.1/\r.1.2.2.2.1.length<=65536)/\ ∃(i:Nat) (e:AE),x.2.1[i]? =some e/\e.2.1=6/\e.1=r.2.1/\DA e.2.2.2.2.2.2.2=some (r.1,0):=by
 refine AA Bc λv j=>AO (λ_=>AB λc=>by cases c) (λa=>?_);have f:=j.1 a;have g:=f.2.2.1;have e:=AY (x:=len x.2.1-1) q!;refine AA (P:=λr=> ∀u,r= .inl u->(qv u.2.2/\u.2.2.2.2.2.1.length<=65536)/\ ∃(i:Nat) (e:AE),x.2.1[i]? =some e/\e.2.1=6/\e.1=u.1/\DA e.2.2.2.2.2.2.2=some (u.2.2,0)) ?_ λr hr=>A9 (λu b=>AB λ_=>hr u b) (λ_ _=>AB λc=>by cases c);refine AW (λ(s:Int×CY)=> -1<=s.1/\s.1<x.2.1.length) (λ(s:Int×CY)=>(s.1+1).toNat) ⟨q!,q!⟩ (λs d=>?_);unfold RU;rw[(AY (x:=s.1-1))];refine AC (λa=>?_) (λ_=>AB λu b=>by cases b);have k:((-1<=s.1-1/\s.1-1<x.2.1.length)/\(s.1-1+1).toNat<(s.1+1).toNat):=o!
 refine AA (AI a d.2) λo l=>AJ (λ_=>AB k) (λm=>AA (AI a d.2) λp h=>?_);have n:=(f.2.2.2.2.2 _ _ h.1).2.data;grind[D5,aW,AP,AA,AI,AB]
def DG2(x:List Ag×AE)(l:List Ag):Prop:= ∀d∈l,(d.1=x.2.2.2.2.2.2.2.1.1/\d.2.2=x.2.1)\/(d.1≠x.2.2.2.2.2.2.2.1.1/\d∈x.1)
def DG1(x:List Ag×AE)(l:List Ag):Prop:= ∀d∈l,∃c∈x.1,c.1=d.1/\c.2.2=d.2.2
def DK(x:List Ag×AE)(i:Int)(l:List Ag):Prop:= ∀(j:Nat) (d:Ag),(j:Int)<i->x.1[j]? =some d->d.1≠x.2.2.2.2.2.2.2.1.1->d∈l
def DG2.snoc{x:List Ag×AE}{l m:List Ag}{d:Ag}(h:DG2 x l)(e:m=l++[d])(b:(d.1=x.2.2.2.2.2.2.2.1.1/\d.2.2=x.2.1)\/(d.1≠x.2.2.2.2.2.2.2.1.1/\d∈x.1)):DG2 x m:=by subst e;intro c a;rcases An.1 a with a|a;exact h c a;grind
def DG1.snoc{x:List Ag×AE}{l m:List Ag}{d:Ag}(h:DG1 x l)(e:m=l++[d])(b: ∃c∈x.1,c.1=d.1/\c.2.2=d.2.2):DG1 x m:=by subst e;intro c a;rcases An.1 a with a|a;exact h c a;grind
def DK.snoc{x:List Ag×AE}{l m:List Ag}{d:Ag}{i:Int}(h:DK x i l)(e:m=l++[d]):DK x i m:=λj c b a hn=>by rw[e];exact GI _ (h j c b a hn)
def DK.next{x:List Ag×AE}{l:List Ag}{v:Ag}{i k:Int}(h:DK x i l)(d:0<=i)(f:k=i+1)(m:x.1[i.toNat]? =some v)(g:v.1≠x.2.2.2.2.2.2.2.1.1->v∈l):DK x k l:=λj c e b hn=>by by_cases a:(j:Int)<i;exact h j c a b hn;grind
def YN{x:List Ag×AE}{s:Bool×Int×List Ag}(o:x.2.2.1=7)(h:0<=s.2.1/\s.2.1<=x.1.length/\x.1.length<=1000000/\s.2.2.length<=s.2.1+1/\(s.1=false->(s.2.2.length:Int)<=s.2.1)/\DG1 x s.2.2/\DK x s.2.1 s.2.2):Aq (Ah (Fv x) s) λr=>(r.2.length<=x.1.length+1/\(r.1=false->r.2.length<=x.1.length))/\DG1 x r.2/\DK x x.1.length r.2:=by
 refine AW (λ(s:Bool×Int×List Ag)=>0<=s.2.1/\s.2.1<=x.1.length/\x.1.length<=1000000/\s.2.2.length<=s.2.1+1/\(s.1=false->(s.2.2.length:Int)<=s.2.1)/\DG1 x s.2.2/\DK x s.2.1 s.2.2) (λ(s:Bool×Int×List Ag)=>((x.1.length:Int)-s.2.1).toNat) h (λs i=>?_);have⟨g,t,v,w,b,c,f⟩:=i;unfold Fv;repeat' with_reducible first|intro a|apply AC|apply AO|apply AP|apply AL|(apply BC;try dsimp only)|apply Bg|apply B0|apply Ms|(apply BL;try dsimp only)|(apply BA;try dsimp only)|(apply A9<;>(intro u l;try subst l))|apply AB|(apply AA (CM);intro r hr)|(refine AM ?_ (AI ?_ ?_);rintro r ⟨hr,q⟩)|(refine AM ?_ (AZ ?_);rintro r ⟨hr,p,k⟩)
 all_goals try dsimp[len]at*
 all_goals try (have e:=AY (x:=s.2.1+1))
 all_goals try (have m:=b v!)
 all_goals (try simp only[Bn,BV]at*)
 all_goals first
  |omega
  |exact⟨⟨o!,λh=>by have:=b h;omega⟩,c,λj d n=>f j d o!⟩
  |(exfalso;grind;done)
  |(refine⟨⟨o!,o!,o!,o!,by first|(intro h;have:=b h;omega)|(intro h;cases h),?_,?_⟩,o!⟩
    first|exact c|exact c.snoc v! (by refine⟨_,v!,?_,?_⟩<;>rfl)
    ·first|exact f.next g e v! (λhn=>absurd v! hn)|exact(f.snoc v!).next g e v! (by first|(intro hn;exact absurd v! hn)|(intro _;subst_vars;simp)))
def YO{x:List Ag×AE}{s:Bool×Int×List Ag}(q:x.2.2.1=1\/x.2.2.1=2)(h:0<=s.2.1/\s.2.1<=x.1.length/\x.1.length<=1000000/\s.2.2.length<=s.2.1+1/\(s.1=false->(s.2.2.length:Int)<=s.2.1)/\DG2 x s.2.2/\DK x s.2.1 s.2.2/\(s.1=true-> ∃d∈s.2.2,d.1=x.2.2.2.2.2.2.2.1.1)):Aq (Ah (Fv x) s) λr=>(r.2.length<=x.1.length+1/\(r.1=false->r.2.length<=x.1.length))/\DG2 x r.2/\DK x x.1.length r.2/\(r.1=true-> ∃d∈r.2,d.1=x.2.2.2.2.2.2.2.1.1):=by
 refine AW (λ(s:Bool×Int×List Ag)=>0<=s.2.1/\s.2.1<=x.1.length/\x.1.length<=1000000/\s.2.2.length<=s.2.1+1/\(s.1=false->(s.2.2.length:Int)<=s.2.1)/\DG2 x s.2.2/\DK x s.2.1 s.2.2/\(s.1=true-> ∃d∈s.2.2,d.1=x.2.2.2.2.2.2.2.1.1)) (λ(s:Bool×Int×List Ag)=>((x.1.length:Int)-s.2.1).toNat) h (λs l=>?_);have⟨i,w,y,z,c,a,f,k⟩:=l;unfold Fv;repeat' with_reducible first|intro b|apply AC|apply AO|apply AP|apply AL|(apply BC;try dsimp only)|apply Bg|apply B0|apply Ms|(apply BL;try dsimp only)|(apply BA;try dsimp only)|(apply A9<;>(intro u n;try subst n))|apply AB|(apply AA (CM);intro r hr)|(refine AM ?_ (AI ?_ ?_);rintro r ⟨hr,v⟩)|(refine AM ?_ (AZ ?_);rintro r ⟨hr,t,m⟩)
 all_goals try dsimp[len]at*
 all_goals try (have e:=AY (x:=s.2.1+1))
 all_goals try (have o:=c v!)
 all_goals (try simp only[Bn,BV]at*)
 all_goals first
  |omega
  |exact⟨⟨o!,λh=>by have:=c h;omega⟩,a,λj d p=>f j d o!,k⟩
  |(exfalso;grind;done)
  |(refine⟨⟨o!,o!,o!,o!,by first|(intro h;have:=c h;omega)|(intro h;cases h)|trivial,?_,?_,?_⟩,o!⟩
    first|exact a.snoc v! (by exact .inl ⟨v!,rfl⟩)|exact a.snoc v! (by exact .inr ⟨v!,v!⟩)|refine DG2.snoc (DG2.snoc a v! (by exact .inl ⟨rfl,rfl⟩)) v! (by exact .inr ⟨o!,v!⟩)
    ·first|exact(f.snoc v!).next i e v! (by first|(intro hn;exact absurd v! hn)|(intro _;subst_vars;simp))|exact((f.snoc v!).snoc v!).next i e v! (by intro _;subst_vars;simp)
    first|(intro h;refine(k h).elim λd g=>⟨d,by subst_vars;simp[g.1],g.2⟩)|(intro _;subst_vars;refine⟨_,Kj _ (A6.2 rfl),?_⟩;assumption)|(intro _;subst_vars;refine⟨_,GI _ (Kj _ (A6.2 rfl)),?_⟩;rfl))
def c7{x:List Ag×AE}(h:x.1.length<=1000000):Aq (G1 x) λr=>r.length<=x.1.length+1/\(¬(x.2.2.1=1\/x.2.2.1=2)->x.2.2.1≠7->r=x.1)/\(x.2.2.1=7->DG1 x r/\DK x x.1.length r)/\(x.2.2.1=1\/x.2.2.1=2->DG2 x r/\DK x x.1.length r/\ ∃d∈r,d.1=x.2.2.2.2.2.2.2.1.1):=by
 refine AA CM λB m=>AO (λb=>?_) (λb=>?_);have i: ¬(x.2.2.1=1\/x.2.2.1=2):=λq=>by rw[m.2 q]at b;cases b
 refine AJ (λhn=>AB ⟨o!,λ_ _=>rfl,λe=>absurd e hn,λq=>absurd q i⟩) (λo=>AA (YN o ⟨Ae _,q!,h,k!,k!,by simp[DG1],λj d g=>absurd g q!⟩) λv f=>AO (λp=>AA CM λs n=>AA (P:=λl=>l=v.2) (AL (λa=>absurd (n.1 a) i) (λ_=>AB rfl)) λl c=>AB ?_) (λ_=>AB ⟨f.1.1,λ_ q=>absurd o q,λ_=>f.2,λq=>absurd q i⟩));grind;have k:=m.1 b;refine AA (YO k ⟨Ae _,q!,h,k!,k!,by simp[DG2],λj d g=>absurd g q!,λq=>by cases q⟩) λv f=>?_;have⟨⟨s,z⟩,t,u,A⟩:=f;refine AO (λp=>AA CM λw n=>AA (P:=λl=>l=v.2++[(x.2.2.2.2.2.2.2.1.1,(x.2.1,x.2.1))]) (AL (λa=>?_) (λa=>?_)) λl c=>AB ?_) (λy=>AB ⟨s,λq=>absurd k q,λq=>absurd q o!,λ_=>⟨t,u,A y⟩⟩);grind[AA,AZ,AB];grind;have:=z p;refine⟨q!,λq=>absurd k q,λq=>absurd q o!,λ_=>⟨t.snoc c (.inl ⟨rfl,rfl⟩),u.snoc c,_,by rw[c];exact Kj _ (A6.2 rfl),rfl⟩⟩
def wT.other{n:Int}{L:List AE}{D:List Ag}{R:List BX}{e:AE}(h:wT n L D R)(a: ¬(e.2.1=1\/e.2.1=2)):wT n (L++[e]) D R:=by
 intro p b c;have:cE p e=false:=by simp only[not_or]at a;simp[cE,a.1,a.2]
 rw[O8,this,if_neg g!];exact h p b c
def wT.change{n:Int}{L:List AE}{D r:List Ag}{R:List BX}{e:AE}(h:wT n L D R)(v:e.2.1=1\/e.2.1=2)(o: ∀p,Bj L p<e.1)(k:DG2 (D,e) r)(m:DK (D,e) D.length r)(u: ∃d∈r,d.1=e.2.2.2.2.2.2.1.1):wT n (L++[e]) r R:=by intro p s t;have⟨a,b⟩:=h p s t;rw[O8,(by grind[cE]:cE p e=(e.2.2.2.2.2.2.1.1==p))];by_cases i:e.2.2.2.2.2.2.1.1=p;rw[beq_iff_eq.2 i,if_pos rfl];refine⟨λd f c=>?_,λw g=>⟨by have:=(b w g).1;have:=o p;omega,λhn=>?_⟩⟩;rcases k d f with q|q;grind;grind;grind;rw[beq_eq_false_iff_ne.2 i,if_neg g!];refine⟨λd f c=>?_,λw g=>⟨(b w g).1,λhn=>(b w g).2 λd f c=>?_⟩⟩;rcases k d f with q|q;grind;exact a d q.2 c;have⟨j,l⟩:=Dn f;exact hn d (m j d (by have:=Cv l;omega) l (λq=>i (q.symm.trans c))) c
def wT.index{n:Int}{L:List AE}{D r:List Ag}{R:List BX}{e:AE}{w:BX}(h:wT n L D R)(A:e.2.1=7)(B:e.2.2.2.2.2.1=Bj L e.2.2.2.2.2.2.1.1)(y:0≤e.2.2.2.2.2.2.1.1)(k:DG1 (D,e) r)(l:DK (D,e) D.length r)(C:R[e.2.2.2.2.2.2.1.1.toNat]? =some w):
  wT n (L++[e]) r (R.set e.2.2.2.2.2.2.1.1.toNat ((if e.2.2.2.2.2.1>w.1 then e.2.2.2.2.2.1 else w.1),w.2)):=by
 refine wT.other ?_ o!;intro p s t;have⟨a,b⟩:=h p s t;refine⟨λd g f=>?_,λu i=>?_⟩;have⟨c,z,v,x⟩:=k d g;grind;by_cases o:e.2.2.2.2.2.2.1.1=p;grind;rw[DU o!]at i;refine⟨(b u i).1,λhn=>(b u i).2 λd g f=>?_⟩;have⟨j,m⟩:=Dn g;exact hn d (l j d q! m (λq=>o (q.symm.trans f))) f
def tc{n:Int}{L:List AE}{D r:List Ag}{R:List BX}{q:Bu×Int}{e:AE}(h:wT n L D R)(l:EOK n L e)(m: ∀p,Bj L p<e.1)
  (j:r.length<=D.length+1/\(¬(e.2.1=1\/e.2.1=2)->e.2.1≠7->r=D)/\(e.2.1=7->DG1 (D,e) r/\DK (D,e) D.length r)/\(e.2.1=1\/e.2.1=2->DG2 (D,e) r/\DK (D,e) D.length r/\ ∃d∈r,d.1=e.2.2.2.2.2.2.1.1))
  (k:q.2=0->q.1.length=R.length/\(e.2.1≠7->q.1=R)/\(e.2.1=7->0<=e.2.2.2.2.2.2.1.1/\ ∃w,R[e.2.2.2.2.2.2.1.1.toNat]? =some w/\q.1=R.set e.2.2.2.2.2.2.1.1.toNat ((if e.2.2.2.2.2.1>w.1 then e.2.2.2.2.2.1 else w.1),w.2)))
  (t:q.2=0):wT n (L++[e]) r q.1:=by
 have⟨_,g,f,c⟩:=j;have⟨_,u,v⟩:=k t;by_cases b:e.2.1=7;have⟨i,w,s,o⟩:=v b;rw[o];exact h.index b (l.2.1 b) i (f b).1 (f b).2 s;rw[u b];by_cases a:e.2.1=1\/e.2.1=2;exact h.change a m (c a).1 (c a).2.1 (c a).2.2;rw[g a b];exact h.other a
variable {B:Int->Prop}
def HL(l:List Am):Prop:=l.length<=64/\ ∀t∈l,t.2.2.2.2.1.length<=4097
def Yg.hl{l:List Am}(h:Yg l):HL l:=⟨h.1,λt b=>by have⟨i,a⟩:=FZ.1 b;have:=(h.2 i t a).1;omega⟩
def HL.set{l:List Am}{i:Nat}{n:Am}(h:HL l)(hn:n.2.2.2.2.1.length<=4097):HL (l.set i n):=⟨by rw[dV];exact h.1,λt a=>by rcases OY a with q|q;exact h.2 t q;rw[q];exact hn⟩
def HL.rm{l:List Am}{id:Int}(h:HL l):HL (ABm l id):=⟨by have:=ng l id;have:=h.1;omega,λt a=>h.2 t (BW.1 a).1⟩
def Yg.lens{l:List Am}{i:Nat}{t:Am}(h:Yg l)(a:l[i]? =some t):t.2.2.2.2.1.length<=4096:=(h.2 i t a).1
def AEI{x:List Am×AE}:Aq (GN x) λr=>r.2=0->HL r.1:=by refine AA Dw λz j=>AO (λb=>AB n!) (λb=>?_);have c:=j b;have n:=c.1;refine AA CV λA y=>AO (λb=>AB n!) (λ_=>AP (λb=>AB λ_=>c.hl) (λp=>AA (H5 q!) λB g=>AC (λb=>AB n!) (λo=>AA (AI o! g.2.1) λC m=>?_)));have f:=c.lens m.1;refine AJ (λb=>AB n!) (λ_=>AA (P:=λs=>(∃u,s= .inl u/\u.2.2.2.2.1.length<=4097)\/ ∃u,s= .inr u/\(u.2=0->HL u.1)) ?_ λs h=>?_);refine AP (λ_=>?_) (λ_=>?_);grind[AA,AZ,AB];refine AA (P:=λs=>(∃u,s= .inr u/\u.2.2.2.2.1.length<=4097)\/ ∃u,s= .inl u/\(u.2=0->HL u.1)) (AP (λ_=>AA (RT ⟨Ae _,q!,f,k!⟩) λq k=>AP (λ_=>AB (.inr ⟨_,rfl,n!⟩)) (λ_=>AB (.inl ⟨_,rfl,q!⟩))) (λ_=>AP (λ_=>AB (.inl ⟨_,rfl,q!⟩)) (λ_=>AA (JC q!) λt d=>AB (.inr ⟨_,rfl,λ_=>by rw[d];exact c.hl.rm⟩)))) λs h=>?_;grind[BA,AB,BL];rcases h with⟨u,rfl,i⟩|⟨u,rfl,i⟩;refine BL (AA (M9 o!) λv l=>AA (LQ q! ⟨q!,g.2.1⟩) λw e=>AB λ_=>?_);rw[e];exact c.hl.set q!;exact BA (AB i)
def AN(n c:Int)(L:List AE)(m:Nat)(a:Cg):Prop:=a.1=n/\HL a.2.2.2.1/\a.2.2.2.2.2.1.length<=m/\a.2.2.1=c/\wT n L a.2.2.2.2.2.1 a.2.2.2.2.2.2
def fZ{x:Cg×AE}{n c:Int}{L:List AE}{m:Nat}(h:AN n c L m x.1)(f:m<=1000000)(d:EOK n L x.2)(e: ∀p,Bj L p<x.2.1):Aq (MY x) λr=>r.2=0->AN n c (L++[x.2]) (m+1) r.1:=by
 unfold MY;have⟨a1,a2,a3,a5,a6⟩:=h;have a4:=a2.1;repeat' with_reducible first|apply AC<;>intro b|apply AJ<;>intro b|apply AL<;>intro b|(apply BC;try dsimp only)|apply Bg|apply B0|apply Ms|(apply BL;try dsimp only)|(apply BA;try dsimp only)|apply AB|(apply AA AEI;intro r hr)|(refine AM ?_ (Fi ?_);intro r hr)|(apply AA (Tf);intro r hr)|(apply AA (Ua);intro r hr)|(apply AA (CM);intro r hr)|(refine AM ?_ (c7 ?_);intro r hr)
 all_goals try dsimp[len]at*
 all_goals first|omega|(intro a;exact absurd a v!)|(intro a;exact absurd a g!)|(intro _;unfold AN;refine⟨by first|assumption|grind,q!,by first|omega|grind,by first|assumption|grind,?_⟩;exact tc a6 d e v! v! v!)|grind
def VF{x:Int}:Aq (NT x) λr=> ∀w∈r.1,w.1=0:=by refine AC (λ_=>AB k!) (λ_=>AC (λ_=>AB k!) (λ_=>?_));grind[AA,xF,AB]
def dC{x:Ad×Int}(n:Do x.1)(u:x.1.1=1)(m:LI x.2 x.1.2.1):Aq (Pj x) λr=>r.2=0-> ∃k:Nat,k<=x.1.2.1.length/\AN x.2 k (x.1.2.1.take k) 65536 r.1:=by
 refine AA aY λv j=>AO (λ_=>?_) (λb=>?_);refine AC (λb=>AB n!) (λ_=>AA VF λy l=>AB λ_=>⟨0,Be _,rfl,⟨k!,λt o=>by simp at o⟩,k!,rfl,λp _ _=>⟨k!,λw q=>by have:=l w (BN q);exact⟨by rw[this];exact Ae _,λ_=>this⟩⟩⟩)
 have⟨⟨d,f⟩,i,e,a,g,s,h⟩:=j b;refine AJ (λb=>AB n!) (λhn=>AB λ_=>⟨i+1,Cv a,rfl,d.2.2.1.hl,f,?_,?_⟩);have:=(n.2.2.2.2.2 i e a).1;grind;rw[C3,a];exact((m i e a).2.2 g _ h hn).other o!
def fY{x:As×As}:Aq (FV x) λr=>True:=by exact AJ (λ_=>AB trivial) (λ_=>AJ (λ_=>AB trivial) (λ_=>AB trivial))
def Y8{x:List As×As}{s:Int}(h:0<=s/\s<=x.1.length/\(x.1.length:Int)<=16777216):Aq (Ah (N4 x) s) λr=>0<=r/\r<=x.1.length:=by
 refine AW (λ(s:Int)=>0<=s/\s<=x.1.length/\(x.1.length:Int)<=16777216) (λ(s:Int)=>((x.1.length:Int)-s).toNat) h (λs a=>?_);unfold N4;exact x!
def fa{x:List As×As}(h:x.1.length<=1000000):Aq (Qb x) λr=>r.length<=x.1.length+1:=by
 refine AA (Y8 ⟨Ae _,o!⟩) λp d=>?_;have a:Aq (Option.bind (YV x.1 0 p) λb=>
 Option.bind (YV x.1 p (len x.1)) λc=>
 Option.bind (app [] b) λe=>
 Option.bind (app e ([x.2]:List (Int×((Int×Int)×Int)))) λf=>
 Option.bind (app f c) λg=>
 some g) λr=>r.length<=x.1.length+1:=by refine AA (Bb (Ae _) d.1 d.2) λb i=>AA (Bb d.1 q! q!) λc j=>?_;grind[AA,AZ,AB]
 refine AC (λk=>?_) (λ_=>a);exact AA (AI d.1 k) λl _=>AL (λ_=>AB o!) (λ_=>a)
def dA{x:Ad×List Am}(h:HL x.2):Aq (LZ x) λr=>r.1.length<=262208:=by unfold LZ;have k:=h.1;refine AA (P:=λr=>(∀u,r= .inl u->u.1.length<=262208)/\ ∀u,r= .inr u->u.length<=262208) ?_ λr hr=>A9 (λu a=>AB (hr.1 u a)) (λu a=>AB (hr.2 u a));refine AW (λ(s:List As×Int)=>0<=s.2/\s.2<=x.2.length/\s.1.length<=4097*s.2) (λ(s:List As×Int)=>((x.2.length:Int)-s.2).toNat) ⟨Ae _,q!,k!⟩ (λs d=>?_);have⟨f,m,n⟩:=d;unfold SP;rw[(AY (x:=s.2+1))];refine AC (λb=>?_) (λ_=>AB ⟨λu a=>(by cases a),λu a=>q!⟩);simp[len]at b;have⟨t,i,j⟩:=AI (l:=x.2) f b;have v:=h.2 t j.2;refine AA (P:=λr=>(∀u,r= .inl u->u.1.length<=262208)/\ ∀u,r= .inr u->u.length<=4097*(s.2+1)) ?_ λr hr=>?_;refine AW (λ(q:List As×Int)=>0<=q.2/\q.2<=t.2.2.2.2.1.length/\q.1.length<=4097*s.2+q.2) (λ(q:List As×Int)=>((t.2.2.2.2.1.length:Int)-q.2).toNat) ⟨Ae _,q!,q!⟩ (λq e=>?_);have⟨g,o,p⟩:=e;unfold SS;rw[i];apply BC;rw[(AY (x:=q.2+1))];refine AC (λb=>?_) (λ_=>AB ⟨λu a=>(by cases a),λu a=>q!⟩);simp[len]at b;refine BC (AA (AI g b) λw _=>AA Gy λy _=>AJ (λ_=>AB ⟨λu a=>q!,λu a=>(by cases a)⟩) (λ_=>AJ (λ_=>AB ⟨λu a=>(by cases a;simp),λu a=>(by cases a)⟩) (λ_=>BC (AJ (λ_=>AB ⟨λu a=>(by cases a;simp),λu a=>(by cases a)⟩) (λ_=>AA (fa q!) λz c=>AB ?_)))));dsimp only at c;exact⟨⟨q!,o!,d!⟩,o!⟩;grind[A9,AB]
def Y7{x:Ad×Int}(c:Do x.1)(M:x.1.1=1)(G:LI x.2 x.1.2.1):Aq (Jl x) λr=>r.2=0->r.1.1=x.2/\HL r.1.2.2.2.1/\r.1.2.2.2.2.1.length<=262208/\r.1.2.2.2.2.2.1.length<=70000/\wT x.2 x.1.2.1 r.1.2.2.2.2.2.1 r.1.2.2.2.2.2.2:=by
 unfold Jl;refine AA Bc λv Q=>AO (λ_=>AB n!) (λa=>?_);have O:=Q.1 a;have H:=O.2.2.1;refine AC (λ_=>AB n!) (λ_=>AC (λ_=>AB n!) (λ_=>AA (dC c M G) λv1 I=>AJ (λa=>AB λb=>absurd b a) (λD=>?_)));have⟨k,N,K⟩:=I D;refine AA (P:=λr=>(∀u,r= .inl u->u.1≠0)/\ ∀u,r= .inr u->AN x.2 k x.1.2.1 70000 u.1) ?_ λr hr=>A9 (λu d=>AB λb=>absurd b (hr.1 u d)) (λu d=>?_);refine AW (λ(s:Int×Cg×Cg)=>0<=s.1/\s.1<=x.1.2.1.length/\AN x.2 k (x.1.2.1.take (max k s.1.toNat)) (65536+s.1.toNat) s.2.1) (λ(s:Int×Cg×Cg)=>((x.1.2.1.length:Int)-s.1).toNat) ⟨Ae _,d!,by simpa using K⟩ (λs z=>?_);have⟨m,R,f⟩:=z;unfold QZ;have e:=AY (x:=s.1+1);rw[e];refine AC (λa=>?_) (λ_=>AB ⟨λu d=>(by cases d),λu d=>?_⟩);simp[len]at a;have en:(s.1+1).toNat=s.1.toNat+1:=o!
 refine AA (AI m a) λv3 J=>?_;have n3:=(c.2.2.2.2.2 _ _ J.1).1;refine AC (λB=>AB ⟨⟨d!,d!,?_⟩,d!⟩) (λB=>?_);have⟨q1,q2,q3,q4,q5⟩:=f;have n:max k (s.1+1).toNat=max k s.1.toNat:=o!
 exact⟨q1,q2,d!,q4,by dsimp only;rw[n];exact q5⟩;have q4:=f.2.2.2.1;have n:max k s.1.toNat=s.1.toNat:=o!
 rw[n]at f;refine AA (AI m a) λZ F=>?_;have i:x.1.2.1.take (max k (s.1+1).toNat)=x.1.2.1.take s.1.toNat++[Z]:=by grind[List.take_add_one]
 refine AA (fZ f o! (G _ _ F.1) λp=>?_) λv5 h5=>?_;have n4:=(c.2.2.2.2.2 _ _ F.1).1;refine nE _ _ d! λe L=>?_;have⟨j,A⟩:=Dn L;have C:=Cv A;rw[BQ]at C;rw[JW o!]at A;have:=(c.2.2.2.2.2 j e A).1;dsimp only;omega;grind[AJ,AB];cases d;have⟨q1,q2,q3,q4,q5⟩:=f;simp[len]at*;rw[BO o!]at q5;exact⟨q1,q2,o!,q4,q5⟩;have⟨q1,q2,q3,_,q5⟩:=hr.2 u d;have S:=q2.1;refine AA (P:=λl=>HL l) ?_ λX h=>?_;refine AW (λ(s:Int×List Am)=>0<=s.1/\s.1<=u.1.2.2.2.1.length/\s.2.length<=s.1/\ ∀t∈s.2,t.2.2.2.2.1.length<=4097) (λ(s:Int×List Am)=>((u.1.2.2.2.1.length:Int)-s.1).toNat) ⟨Ae _,d!,k!,λt i=>by simp at i⟩ (λs z=>?_);have⟨m,R,f,E⟩:=z;unfold Qa;have e:=AY (x:=s.1+1);rw[e];refine AC (λa=>?_) (λ_=>AB ⟨o!,E⟩);simp[len]at a;refine AA (AI m a) λT _=>AA (P:=λl=>l.length<=s.2.length+1/\ ∀t∈l,t.2.2.2.2.1.length<=4097) ?_ λW g=>AB ⟨⟨d!,d!,by have:=g.1;dsimp only;omega,g.2⟩,d!⟩;refine AC (λ_=>AA (AI m a) λU o=>AA (AZ w!) λV q=>AB ⟨?_,λt i=>?_⟩) (λ_=>AB ⟨o!,E⟩);grind;rw[q.1]at i;rcases An.1 i with w|w;exact E t w;simp at w;rw[w];exact q2.2 _ o.2;exact AA (dA h) λY y=>AJ (λa=>AB λb=>absurd b a) (λb=>AB λ_=>⟨q1,h,y,q3,q5⟩)
def VE{x:Int}:Aq (J6 x) λr=>r.1.2.1=[]:=by
 unfold J6;exact x!
def dD{x:Ad×Cg×Int}(t:Do x.1)(h:HL x.2.1.2.2.2.1/\x.2.1.2.2.2.2.1.length<=262208/\x.2.1.2.2.2.2.2.1.length<=70000)(q:LI x.2.1.1 x.1.2.1)(e:wT x.2.1.1 x.1.2.1 x.2.1.2.2.2.2.2.1 x.2.1.2.2.2.2.2.2):Aq (La x) λr=>r.2=0->r.1.1=x.2.1.1/\SK B r.1/\Do r.1.2.2.1/\LX x.1 r.1.2.2.1:=by
 unfold La;have⟨a1,a2,a3⟩:=h;have a4:=a1.1;refine AA VE λj f=>AJ (λ_=>AB n!) (λ_=>?_);have k:SK B (x.2.1.1,(x.2.1.2.1,(x.1,(j.1,((x.2.1.2.2.2.2.1,[]),(x.2.1.2.2.2.1,(x.2.1.2.2.2.2.2.2,x.2.1.2.2.2.2.2.1))))))):=⟨⟨q!,k!⟩,q!,q!,q,λp g i=>⟨q!,(e p g i).1,λw l=>⟨((e p g i).2 w l).1,λhn _=>((e p g i).2 w l).2 hn⟩⟩,by unfold FD;dsimp only;rw[f];simp⟩
 refine AA (CC k.sb) λy _=>AO (λ_=>AB n!) (λ_=>AA (P:=λr=>(∀u,r= .inl u->u.1≠0)/\ ∀u,r= .inr u->KL B (x.2.1.1,(x.2.1.2.1,(x.1,(j.1,((x.2.1.2.2.2.2.1,[]),(x.2.1.2.2.2.1,(x.2.1.2.2.2.2.2.2,x.2.1.2.2.2.2.2.1))))))) u.1) ?_ λr hr=>A9 (λu a=>AB λb=>absurd b (hr.1 u a)) (λu a=>AB λ_=>?_));refine AW (λ(s:Int×AS×AS)=>0<=s.1/\s.1<=x.2.1.2.2.2.1.length/\KL B (x.2.1.1,(x.2.1.2.1,(x.1,(j.1,((x.2.1.2.2.2.2.1,[]),(x.2.1.2.2.2.1,(x.2.1.2.2.2.2.2.2,x.2.1.2.2.2.2.2.1))))))) s.2.1) (λ(s:Int×AS×AS)=>((x.2.1.2.2.2.1.length:Int)-s.1).toNat) ⟨Ae _,q!,KL.refl k t⟩ (λs o=>?_);have⟨m,v,d⟩:=o;unfold SU;rw[(AY (x:=s.1+1))];refine AC (λc=>?_) (λ_=>AB ⟨λu a=>(by cases a),λu a=>q!⟩);simp[len]at c;refine AA (AI m c) λz _=>AP (λ_=>AB ⟨⟨q!,o!,d⟩,o!⟩) (λ_=>AA (AI m c) λA _=>AA (F3 d.2.2.1.sb) λC n=>AJ (λc=>AB ⟨λu a=>(by cases a;exact c),λu a=>(by cases a)⟩) (λb=>AB ⟨⟨o!,o!,d.trans ((n b).2.1.kl d.2.2.1 u!)⟩,o!⟩));have:=hr.2 u a;exact⟨this.1,this.2.2.1,this.2.2.2,this.2.1⟩
end Go.Pm
namespace Go.Pm
open Go Go.Ab
set_option maxHeartbeats 400000
variable {B:Int->Prop}
def fi{x:AV×Int×Cq}(h:SK B x.1.1)(p:Do x.1.1.2.2.1)(o:DJ B x.1.1.2.2.1 x.1.2):Aq (Mc x) λr=>SR B x.1 r.1/\(r.2.1≠0->TP r.1.1.2.2.2.2.2.1<TP x.1.1.2.2.2.2.2.1):=by
 unfold Mc;refine AA (P:=λr=>SR B x.1 r.2.2/\(r.1≠0->TP r.2.2.1.2.2.2.2.2.1<TP x.1.1.2.2.2.2.2.1)) ?_ λr hr=>AB hr;refine AW (λ(s:Int×AV×AV)=>SR B x.1 s.2.1/\TP s.2.1.1.2.2.2.2.2.1<=TP x.1.1.2.2.2.2.2.1/\(s.1≠0->TP s.2.1.1.2.2.2.2.2.1<TP x.1.1.2.2.2.2.2.1)) (λ(s:Int×AV×AV)=>2*TP s.2.1.1.2.2.2.2.2.1+flag (¬mM s.2.1.1.2.2.2.1 x.2.2.1)) ⟨⟨KL.refl h p,o⟩,Ap _,λe=>absurd rfl e⟩ (λs d=>?_);obtain⟨d,v,j⟩:=d;have k:=d.1.2.2;unfold Tl;refine AA (fV k.1 k.2) λw n=>?_;obtain⟨k1,q,t⟩:=n;refine AP (λ_=>AB ⟨d,j⟩) (λm=>AA (P:=λr=>(∃u,r= .inl u/\u.1=s.1/\u.2.2=s.2.1)\/ ∃u,r= .inr u/\SR B s.2.1 u.2.1/\(TP u.2.1.1.2.2.2.2.2.1<TP s.2.1.1.2.2.2.2.2.1\/(u.1=s.1/\TP u.2.1.1.2.2.2.2.2.1=TP s.2.1.1.2.2.2.2.2.1/\mM u.2.1.1.2.2.2.1 x.2.2.1/\ ¬mM s.2.1.1.2.2.2.1 x.2.2.1))) ?_ λr hr=>?_);apply AP<;>intro l;obtain⟨a,b,c⟩:=q l;refine AA (HV k.1 d.2) λy i=>AJ (λ_=>AB (.inl ⟨_,rfl,rfl,rfl⟩)) (λe=>AB (.inr ⟨_,rfl,(i e).1.sr,.inr ⟨rfl,?_,?_,b⟩⟩));have:=(i e).1.1.2.2.2.2.1;exact congrArg TP this;have:=(i e).2;rw[a]at this;exact this;refine AP (λ_=>AB (.inl ⟨_,rfl,rfl,rfl⟩)) (λc0=>AB (.inr ⟨_,rfl,⟨k1,d.2.up k1.2.1⟩,.inl (t l m c0)⟩));rcases hr with⟨u,rfl,g⟩|⟨u,rfl,g⟩;refine BL (AB ?_);dsimp only;rw[g.1,g.2];exact⟨d,j⟩;refine BA (AB ?_);obtain⟨q1,q2⟩:=g;rcases q2 with q2|⟨q2,q3,q4,q5⟩;have f:=AAO (¬mM u.2.1.1.2.2.2.1 x.2.2.1);exact⟨⟨d.trans q1,o!,λ_=>o!⟩,by first|omega|(dsimp only;omega)⟩;refine⟨⟨d.trans q1,o!,λe=>by rw[q3];exact j (by rw[<-q2];exact e)⟩,?_⟩;try dsimp only
 rw[vY q5,vX (λh=>h q4),q3];omega
def SV{x:AS×Int}(h:SB x.1):Aq (H7 x) λr=>True:=by unfold H7;refine AA (CC h) λv c=>AA (P:=λ_=>True) ?_ λr _=>A9 (λ_ _=>AB trivial) (λ_ _=>AB trivial);refine AL (λ_=>?_) (λ_=>AB trivial);refine AA (Fi h.2.1) λd a=>AC (λb=>?_) (λ_=>AB trivial);refine AA (AI b a.2.1) λ_ _=>AP (λ_=>?_) (λ_=>AB trivial);exact AA (AI b a.2.1) λ_ _=>AB trivial
def ZA{x:AS}{s:Int×List Int}(h:0<=s.1/\s.1<=x.2.2.2.2.2.1.length/\x.2.2.2.2.2.1.length<=16777216/\s.2.length<=s.1/\SB x):Aq (Ah (N5 x) s) λr=>True:=by
 refine AW (λ(s:Int×List Int)=>0<=s.1/\s.1<=x.2.2.2.2.2.1.length/\x.2.2.2.2.2.1.length<=16777216/\s.2.length<=s.1/\SB x) (λ(s:Int×List Int)=>((x.2.2.2.2.2.1.length:Int)-s.1).toNat) h (λs c=>?_);unfold N5;exact x!
def fb{x:AS}(h:SK B x):Aq (MZ x) λr=>True:=by unfold MZ;exact AA (ZA ⟨Ae _,d!,h.2.1,k!,h.sb⟩) λ_ _=>AB trivial
def Wd{x:AS×Int}{c:As×Bool}{a:List Int}{s:Int×Cq}(h:0<=s.1/\s.1<=a.length/\a.length<=16777216/\SB x.1):Aq (Ah (Ky x c a) s) λr=>True:=by
 refine AW (λ(s:Int×Cq)=>0<=s.1/\s.1<=a.length/\a.length<=16777216/\SB x.1) (λ(s:Int×Cq)=>((a.length:Int)-s.1).toNat) h (λs d=>?_);unfold Ky;exact x!
def Y9{x:AS×Int}(h:SK B x.1):Aq (Jm x) λr=>True:=by unfold Jm;refine AA (IQ h.1) λb _=>AO (λ_=>AB trivial) (λ_=>AA (LM h.1) λc a=>AA (Wd ⟨Ae _,d!,o!,h.sb⟩) λr _=>A9 (λ_ _=>AB trivial) (λ_ _=>AB trivial))
def jM{x:AV×Int×Ct}(h:SK B x.1.1)(k:Do x.1.1.2.2.1)(j:DJ B x.1.1.2.2.1 x.1.2):Aq (O2 x) λr=>SR B x.1 r.1:=by unfold O2;refine AA (P:=λr=>SR B x.1 r.1) ?_ λr hr=>AB hr;refine AW (λ(s:AV×AV×Ba)=>SR B x.1 s.1) (λ(s:AV×AV×Ba)=>TP s.1.1.2.2.2.2.2.1) ⟨KL.refl h k,j⟩ (λs c=>?_);have g:=c.1.2.2;unfold VN;refine AA (jL g.1 g.2 c.2) λm e=>?_;have b:=c.trans e.1;have a:=b.1.2.2;refine AJ (λ_=>AB b) (λi=>?_);have l:=e.2 i;refine AA (Y9 a.1) λn _=>AO (λ_=>AB b) (λ_=>AA (fi a.1 a.2 b.2) λo f=>?_);have d:=b.trans f.1;refine AJ (λ_=>?_) (λ_=>?_);exact AA B3 λp _=>AB d;refine AP (λ_=>AB d) (λc0=>AB ⟨d,?_⟩);have:=f.2 c0;dsimp only at*;rw[l]at this;exact this
def fh{x:AV}(h:SK B x.1)(p:Do x.1.2.2.1)(g:DJ B x.1.2.2.1 x.2):Aq (Mb x) λr=>r.2.2=0->SR B x r.1:=by
 unfold Mb;refine AA (CC h.sb) λv H=>AO (λ_=>AB n!) (λc=>AC (λc=>?_) (λ_=>?_));simp only[len]at c;refine AA (AI (Ae _) c) λJ _=>AA (HV h g) λK y=>AB λa=>(y a).1.sr;refine AA (fb h) λF _=>AP (λ_=>AB λ_=>⟨KL.refl h p,g⟩) (λk=>?_);simp only[len]at k;refine AA (P:=λr=>r.2.1=0->SR B x r.2.2) ?_ λr hr=>AB hr;obtain⟨id,t,G⟩:=(AI (l:=F) (i:=0) (Ae _))
 refine AW (λ(s:AV×AV)=>SR B x s.1) (λ(s:AV×AV)=>flag (∃e,NX s.1.1 id e/\ ¬mM s.1.1.2.2.2.1 e.2.2.2.2.2.2.1.1)) ⟨KL.refl h p,g⟩ (λs b=>?_);have j:=b.1.2.2;unfold Tk;rw[t];apply BC;refine AA (Ud j.1 j.2) λL A=>?_;obtain⟨k1,C,I,D⟩:=A;refine AP (λz=>AB λa=>absurd a (D z)) (λ_=>AJ (λ_=>AB λ_=>⟨b.1.trans k1,b.2.up k1.2.1⟩) (λq=>?_));obtain⟨e,n,u,w⟩:=C q;refine AA (HV j.1 b.2) λM o=>AJ (λc=>AB λa=>absurd a c) (λa=>AB ⟨b.trans (o a).1.sr,?_⟩);obtain⟨m,d⟩:=o a;have E:=m.1.2.2.2.2.1;rw[vY (⟨e,n,w⟩: ∃e,NX s.1.1 id e/\ ¬mM s.1.1.2.2.2.1 e.2.2.2.2.2.2.1.1),vX];omega;rintro⟨f,q1,q2⟩;have:=n.uniq q1 E m.1.2.1;subst this;dsimp only at d;rw[u]at d;exact q2 d
end Go.Pm
namespace Go.Pm
open Go Go.Ab
set_option maxHeartbeats 400000
def runN{S R:Type}(f:S->Option (Step S R)):Nat->S->Option R
 |0,_=>none
 |n+1,s=>
  match f s with
  |some (.next s')=>runN f n s'
  |some (.done r)=>some r
  |none=>none
def wK{S R:Type}{f:S->Option (Step S R)}{r:R}: ∀{n:Nat} {s:S},runN f n s=some r->Ah f s=some r
 |0,s,h=>by cases h
 |n+1,s,h=>by simp only[runN]at h;rw[IB];split at h;rename_i b e;rw[e];exact wK h;rename_i a e;rw[e];exact h;cases h
def T2:BT:=[80,77,76,71,1,0,0,0,0,0,0,0]
def AFL:Al (([80,77,76,71]:List UInt8),(1,8))=some T2:=by rw[(by kernel_rfl:Al (([80,77,76,71]:List UInt8),(1,8))=Option.bind (Ah (GX (([80,77,76,71]:List UInt8),(1,8))) (([80,77,76,71]:List UInt8),0)) λa=>some a),wK (n:=10) (r:=T2) (by kernel_rfl)];rfl
def AEv:Az (T2,(4,8))=some (1,0):=by rw[(by kernel_rfl:Az (T2,(4,8))=Option.bind (Ah (GW (T2,(4,8))) (0,0)) λa=>some ((wi a),0)),wK (n:=10) (r:=1) (by kernel_rfl)];rfl
def ly(a b:List AE):KA (a++b)=KA a++KA b:=by grind[KA]
def AGn:MO 1=some (Gp T2):=by unfold MO;rw[AFL,AD,aq g!,AD]
def AEt{e:AE}(h:Ln e):Ie e=some (Gp (B4 e)):=by grind[Ie,pK,aq,R2]
def Do.ent{l:Ad}(h:Do l){e:AE}(a:e∈l.2.1):Ln e:=by have⟨k,b⟩:=FZ.1 a;exact(h.2.2.2.2.2 k e b).2
def AEe{l:Ad}{a:Int}(h:Do l)(D:l.1=1):Aq (Gx (l,a)) λr=> ∃m:Nat,r=Gp T2++(KA (l.2.1.take l.2.2.toNat)++(KA (l.2.1.drop l.2.2.toNat)).take m):=by
 have O:=h.2.2.1;have Q:=h.2.2.2.1;have R:=h.2.2.2.2.1;have b: ∀k:List AE,(∀e∈k,e∈l.2.1)->(KA k).length<=8400*k.length:=λk w=>qY λe d=>h.ent (w e d);have⟨v,H,g⟩:=Bc (x:=l);have g:=g.2 h;subst g;unfold Gx;dsimp only;rw[H,AD,Cw,cond_false,D,AGn,AD];refine AA (P:=λr=>r=(Gp T2++KA (l.2.1.take l.2.2.toNat),KA (l.2.1.drop l.2.2.toNat))) ?_ λK o=>?_
 ·refine Cn (λ(s:BT×BT×Int)=> ∃k:Nat,k<=l.2.1.length/\s=(Gp T2++KA ((l.2.1.take k).take l.2.2.toNat),(KA ((l.2.1.take k).drop l.2.2.toNat),(k:Int)))) (λs=>l.2.1.length-s.2.2.toNat) ⟨0,Be _,by simp[KA]⟩ ?_;rintro s ⟨k,w,rfl⟩;unfold SD;dsimp[len];refine AC (λB=>?_) (λB=>Aq.done (by rw[BO (l:=l.2.1) (i:=k) o!]));have f:k<l.2.1.length:=o!
  have I:ix l.2.1 (k:Int)=some l.2.1[k]:=by unfold ix;rw[if_pos o!,Int.toNat_natCast,List.getElem?_eq_getElem f]
  have j:=h.2.2.2.2.2 k _ (Av f);have t:l.2.1.take (k+1)=l.2.1.take k++[l.2.1[k]]:=t!
  have E:(l.2.1.take k).length=k:=q!
  have y:(Gp T2++KA ((l.2.1.take k).take l.2.2.toNat)).length<=40000000:=by
   have:=b ((l.2.1.take k).take l.2.2.toNat) λe d=>Fa (Fa d);have c:(Gp T2).length=20:=by rw[C8];rfl
   grind[List.length_append,List.length_take]
  have z:(KA ((l.2.1.take k).drop l.2.2.toNat)).length<=40000000:=q!
  have C:=R2 j.2;rw[I,AD,AD,AD,AEt j.2,AD,AD,AY (x:=(k:Int)+1)];refine AA (P:=λr=>r=(Gp T2++KA ((l.2.1.take (k+1)).take l.2.2.toNat),KA ((l.2.1.take (k+1)).drop l.2.2.toNat))) ?_ λJ n=>?_;apply AC<;>intro S;have q:k+1<=l.2.2.toNat:=o!
  refine AA (CE (by rw[C8];omega)) λN u=>AB ?_;grind[List.drop_of_length_le,List.length_take,List.take_of_length_le,R4,List.append_assoc];have q:l.2.2.toNat<=k:=o!
  refine AA (CE (by rw[C8];omega)) λN u=>AB ?_;rw[u.1,t,da o!,oE o!,R4]
  ·rw[n];exact Aq.next ⟨k+1,f,by rw[show(k:Int)+1=((k+1:Nat):Int) by omega]⟩ d!
 subst o;dsimp[len];have A: ∃m:Nat,(if(((KA (l.2.1.drop l.2.2.toNat)).length:Int)<(if(0>a)then 0 else a))then((KA (l.2.1.drop l.2.2.toNat)).length:Int)else(if(0>a)then 0 else a))=(m:Int)/\m<=(KA (l.2.1.drop l.2.2.toNat)).length:=by refine⟨(if(((KA (l.2.1.drop l.2.2.toNat)).length:Int)<(if(0>a)then 0 else a))then((KA (l.2.1.drop l.2.2.toNat)).length:Int)else(if(0>a)then 0 else a)).toNat,?_,?_⟩;split<;>split<;>omega;split<;>split<;>omega
 have⟨m,F,G⟩:=A;rw[F];refine AA (Bt (Ae _)) λL c=>?_;have y:(Gp T2++KA (l.2.1.take l.2.2.toNat)).length<=40000000:=by
  have:=b (l.2.1.take l.2.2.toNat) λe d=>Fa d;have c:(Gp T2).length=20:=by rw[C8];rfl
  rw[Ac];rw[BQ]at this;omega
 have z:(KA (l.2.1.drop l.2.2.toNat)).length<=40000000:=by have:=b (l.2.1.drop l.2.2.toNat) λe d=>Mm d;rw[EH]at this;omega
 refine AA (CE (by have:=c.2;omega)) λM p=>AB ⟨m,?_⟩;rw[p.1,c.1,A0];simp
def AHZ{n:Nat}(h:n<=8392):au 4 (n:Int):=⟨λ_=>q!,o!⟩
def AEu{p q s t:BT}(d:p.length<=8392)(e:q.length<=8392)(h:Gp p++s=Gp q++t):p=q/\s=t:=by
 have c:p.length=q.length:=by have a:=h;unfold Gp at a;simp at a;have:=(D7 a (by rw[Ax,Ax])).1;have:=XN g! (AHZ d) (AHZ e) this;omega
 have⟨b,f⟩:=D7 h (by rw[C8,C8,c]);have g:=(D7 b q!).2;grind[List.append_inj]
def AGz{b:List AE}{t y z:BT}{d:Nat}(hn:b.length<=4096)(D: ∀(i:Nat) (e:AE),b[i]? =some e->e.1=1+i/\Ln e)(G:t++y=KA b)(M:t=KA (b.take d)++z):Aq (JO (Gp T2++t)) λr=>r.2=0-> ∃k:Nat,k<=b.length/\min d b.length<=k/\r.1=(1,(b.take k,(k:Int))):=by
 have S:=qY (l:=b) λe A=>by obtain⟨k,m⟩:=FZ.1 A;exact(D k e m).2
 have U:t.length<=40000000:=by have:=congrArg List.length G;rw[Ac]at this;omega
 have C:(Gp T2).length=20:=by rw[C8];rfl
 have W:(Gp T2++t).length<=50000000:=by rw[Ac];omega
 unfold JO;have o:BZ (Gp T2++t,0)=some (T2,(20,0)):=by refine(OU (a:=[]) (t:=Gp T2++t) w!).trans (congrArg some ?_);rw[iM g!];rfl
 rw[o,AD];dsimp only;rw[show((0:Int) !=0)=false by decide,cond_false,show(len T2 !=12)=false by decide,cond_false,show RD T2 0 4=some [80,77,76,71]from rfl,AD,bne_self_eq_false,cond_false,AEv,AD];dsimp only;rw[decide_eq_false g!,cond_false,decide_eq_false g!,cond_false,show wi ((1:Int)-1)=0 from rfl];refine AA (P:=λr=> ∃k:Nat,k<=b.length/\min d b.length<=k/\((∃u,r= .inl u/\u.2=(1,(b.take k,(k:Int))))\/ ∃u,r= .inr u/\(u.2.1,(u.1,u.2.2.1))=(1,(b.take k,(k:Int))))) ?_ λr hr=>?_
 ·refine Cn (λ(s:Int×List AE×Int×Int×Ad)=> ∃(k:Nat) (z:Ad) (c:BT),k<=b.length/\s=(((Gp T2++KA (b.take k)).length:Int),(b.take k,(1,((k:Int),z))))/\t=KA (b.take k)++c) (λs=>b.length-s.2.1.length) ⟨0,(0,([],0)),t,Be _,by simp[KA,C],by simp[KA]⟩ ?_;rintro s ⟨k,z,c,m,rfl,hr⟩;have E:(b.take k).length=k:=by rw[BQ];omega
  have H:k<min d b.length-> ∃p R,p.length<=8392/\c=Gp p++R:=λn=>by
   have g:k<b.length:=o!
   have N:b.take d=b.take (k+1)++(b.take d).drop (k+1):=by
    conv=>lhs;rw[<-DN (k+1) (b.take d)]
    rw[Kl,QI o!]
   have O:b.take (k+1)=b.take k++[b[k]]:=by rw[C3,Av g];rfl
   rw[N,O,ly,R4,A0,A0]at M;exact⟨_,_,R2 (D k _ (Av g)).2,(D7 (hr.symm.trans M) rfl).2⟩
  unfold Td;dsimp only[len];refine AC (λQ=>?_) (λQ=>Aq.done ⟨k,m,Nat.le_of_not_lt λn=>?_,.inr ⟨_,rfl,rfl⟩⟩);rotate_left 1;omega;have w:Gp T2++t=(Gp T2++KA (b.take k))++c:=by rw[hr,A0]
  have F:=congrArg List.length w;rw[@Ac _ (Gp T2++KA (b.take k)) _]at F;have o:BZ (Gp T2++t,((Gp T2++KA (b.take k)).length:Int))=some (UF (Gp T2++KA (b.take k)).length c):=by
   conv=>lhs;arg 1;rw[w]
   exact OU o!
  rw[o,AD];refine AJ (λB=>Aq.done ⟨k,m,Nat.le_of_not_lt λn=>?_,.inl ⟨_,rfl,rfl⟩⟩) (λB=>?_);obtain⟨p,R,T,V⟩:=H n;rw[V,iM T]at B;exact B rfl;obtain⟨X,⟨q,J⟩,Y⟩:=mT B;have j:KA b=KA (b.take k)++KA (b.drop k):=by rw[<-ly,DN]
  have f:c++y=KA (b.drop k):=by rw[hr,A0,j]at G;exact(D7 G rfl).2
  by_cases g:k<b.length
  ·have h:=D k _ (Av g);rw[PX g,nF,J,A0]at f;obtain⟨I,Z⟩:=AEu X (R2 h.2) f;rw[I,ADf h.2,AD];dsimp only;rw[show((0:Int) !=0)=false by decide,cond_false,AY (x:=(k:Int)+1),show(b[k].1 !=(k:Int)+1)=false by rw[h.1];exact bne_eq_false_iff_eq.2 o!,cond_false];have v:b.take (k+1)=b.take k++[b[k]]:=by rw[C3,Av g];rfl
   refine AA (AZ (by rw[Bn,BV];omega)) λv6 L=>Aq.next ⟨k+1,z,q,g,?_,?_⟩ ?_
   rw[L.1,Y,I,v,R4,<-A0,Ac (bs:=Gp (B4 b[k])),C8];refine DR ?_ (DR rfl (DR rfl (DR ?_ rfl)));dsimp only;omega;dsimp only;rw[h.1];omega;rw[hr,v,R4,A0,<-I,<-J];dsimp only;rw[L.2.1,E];simp only[Bn,BV];omega
  exfalso;rw[VV o!]at f;have K:=congrArg List.length f;rw[J,Ac,Ac,C8]at K;simp[KA]at K
 obtain⟨k,m,A,⟨u,rfl,o⟩|⟨u,rfl,o⟩⟩:=hr;exact BL (AB λ_=>⟨k,m,A,o⟩);exact BA (AB λ_=>⟨k,m,A,o⟩)
variable {B:Int->Prop}
def CB(n:Int)(P:List AE)(s:BT):Prop:= ∃es t y z,∃d:Nat,s=Gp T2++t/\t++y=KA es/\es.length<=4096/\HF es/\LI n es/\P=es.take d/\t=KA (es.take d)++z
def wz{n a:Int}{l:Ad}(h:Do l)(b:l.1=1)(c:LI n l.2.1):Aq (Gx (l,a)) (CB n (dl l)):=by
 refine(AEe h b).mono λr ⟨m,hr⟩=>⟨l.2.1,_,(KA (l.2.1.drop l.2.2.toNat)).drop m,_,l.2.2.toNat,hr,?_,h.2.2.1,h.num b,c,rfl,rfl⟩
 rw[A0,DN,<-ly,DN]
def CB.open_{n:Int}{P:List AE}{s:BT}(h:CB n P s):Aq (JO s) λr=>r.2=0->Do r.1/\r.1.1=1/\LI n r.1.2.1/\ ∃m,P=(dl r.1).take m:=by
 obtain⟨b,t,y,z,d,rfl,p,hn,c,g,rfl,j⟩:=h;refine(AGz hn c p j).mono λr hr u=>?_;obtain⟨k,v,o,e⟩:=hr u;rw[e];have w:(b.take k).length=k:=q!
 refine⟨⟨Ae _,q!,q!,q!,d!,λi f l=>?_⟩,rfl,?_,min d b.length,?_⟩;have:=c.take k i f l;exact this;rw[<-DN k b]at g;exact g.pre;unfold dl;dsimp only;rw[DG,Kl,Kl,QI (a:=min d b.length) o!,QI o];rcases Nat.le_total d b.length with q|q;rw[QI q];rw[Nat.min_eq_right q,BO q,Hm]
def SQB(B:Int->Prop)(n:Int)(s:AV):Prop:=s.1.1=n/\SK B s.1/\Do s.1.2.2.1/\DJ B s.1.2.2.1 s.2
def SQ(n:Int)(s:AV):Prop:= ∃B,SQB B n s
def SQB.sr{n:Int}{s r:AV}(h:SQB B n s)(g:SR B s r):SQ n r:=⟨B,g.1.1.trans h.1,g.1.2.2.1,g.1.2.2.2,g.2⟩
def ff{P:List AE}{x:Bq×BT×Int×Int}(n:CB x.2.2.1 P x.2.1)(o:DP B P x.1):Aq (Qf x) λr=>r.2=0->SQ x.2.2.1 r.1:=by refine AA n.open_ λp j=>AJ (λa=>AB λb=>absurd b a) (λc=>?_);obtain⟨f,g,h,m,i⟩:=j c;refine AA (Y7 f g h) λq k=>AJ (λa=>AB λb=>absurd b a) (λd=>?_);obtain⟨a1,a2,a3,a4,a5⟩:=k d;refine AA (dD (B:=B) f ⟨a2,a3,a4⟩ q! q!) λs l=>AJ (λa=>AB λb=>absurd b a) (λe=>AB λ_=>?_);obtain⟨q1,q2,q3,q4⟩:=l e;exact⟨B,q1.trans a1,q2,q3,DJ.up ⟨g,o.up i⟩ q4⟩
def fg{P:List AE}{x:Bq×BT×Int×Int}(b:CB x.2.2.1 P x.2.1)(c:DP B P x.1):Aq (Qg x) λr=>r.2=0->SQ x.2.2.1 r.1:=by exact AA (ff b c) λd a=>AB a
theorem AHM{n o:BT}{c:Nat}(hn:n.length=256)(p:o.length=256)(h:n.take 8=n.drop 248)(d:o.take 8=o.drop 248)(j:n.take 8=o.take 8->n=o)(b:(n.take c++o.drop c).take 8=(n.take c++o.drop c).drop 248):n.take c++o.drop c=n\/n.take c++o.drop c=o:=by
 have g: ∀i:Nat,(n.take c++o.drop c)[i]? =if i<c then n[i]? else o[i]? :=λi=>by grind
 have q: ∀{l:BT},l.take 8=l.drop 248-> ∀i:Nat,i<8->l[i]? =l[248+i]? :=λ{l} e i a=>by have:=congrArg (λl:BT=>l[i]?) e;rw[JW a,KX]at this;exact this
 by_cases m:c<8;refine .inr (Iw λi=>?_);rw[g i];split;rename_i a;have:=q b i (by omega);rw[g,g,if_pos a,if_neg (by omega),<-q d i (by omega)]at this;exact this;rfl;refine .inl ?_;by_cases k:c<=248;have e:n=o:=j (Iw λi=>by by_cases a:i<8;have:=q b i a;rw[g,g,if_pos (by omega),if_neg (by omega),<-q d i a]at this;rw[JW a,JW a];exact this;rw[Cm (by rw[BQ];omega),Cm (by rw[BQ];omega)]);rw[e,DN];refine Iw λi=>?_;rw[g i];split;rfl;rename_i a;by_cases f:i<256;have:=q b (i-248) (by omega);rw[g,g,if_pos (by omega),if_neg (by omega),show 248+(i-248)=i by omega,q h (i-248) (by omega),show 248+(i-248)=i by omega]at this;exact this.symm;rw[Cm (by omega),Cm (by omega)]
def AD7:(iI 256).take 8=(iI 256).drop 248:=g!
def DP.tear{P:List AE}{d t:Bq}{p:Int}{o n m:BT}{c:Nat}(h:DP B P d)(z:0≤p)(f:B p)(E:DI t)(I:d.1[p.toNat]? =some o)(H:m=n.take c++o.drop c)(F:t.1=FT d.1 p m){x:AU}(r:F9 x)(hn:n=Hq x)(D:AGN P p n)(N:1≤x.2.1)
  (M: ∀j,(st (P.take j) p).2.1=x.2.1->st (P.take j) p=x) (K: ∀j,F9 (st (P.take j) p)): ∃A,DP A P t:=by
 have g:=(h.2 _ _ I).1 (by rw[IC z];exact f);rw[IC z]at g;have y: ∀(i:Nat) (s:BT),i≠p.toNat->t.1[i]? =some s->d.1[i]? =some s:=λi s l a=>by rw[F]at a;unfold FT at a;rwa [DU o!]at a
 have w: ∀s:BT,t.1[p.toNat]? =some s->s=m:=λs a=>by rw[F]at a;unfold FT at a;grind
 by_cases b:dead m;refine⟨λj=>B j/\j≠p,E,λi s a=>?_⟩;by_cases l:i=p.toNat
 subst l;rw[w s a];exact⟨λf=>absurd (IC z) f.2,.inr b⟩;have:=h.2 i s (y i s l a);exact⟨λf=>this.1 f.1,this.2.imp_left λf=>⟨f,o!⟩⟩;have C:m.take 8=m.drop 248:=by by_cases L:m=iI 256;rw[L];exact AD7;by_cases J: ∃q,F9 q/\m=Hq q;obtain⟨q,q1,q2⟩:=J;rw[q2,UO,my q1];exact absurd ⟨L,λq q1 q2=>J ⟨q,q1,q2⟩⟩ b
 have v:o.take 8=o.drop 248/\(n.take 8=o.take 8->n=o):=by rcases g with rfl|⟨j,rfl⟩;refine⟨AD7,λe=>?_⟩;rw[hn,UO]at e;have:=XN (k:=8) (n:=x.2.1) (m:=0) g! ⟨n!,by have:=r.2.2.1;omega,by have:=r.2.2.2.1;omega⟩ ⟨n!,g!,g!⟩ e;omega;refine⟨UO.trans (my (K j)).symm,λe=>?_⟩;rw[hn,UO,UO]at e;have G:=K j;have:=XN (k:=8) g! ⟨n!,by have:=r.2.2.1;omega,by have:=r.2.2.2.1;omega⟩ ⟨n!,by have:=G.2.2.1;omega,by have:=G.2.2.2.1;omega⟩ e;rw[hn,M j this.symm]
 have u:=AHM (c:=c) (by rw[hn];exact Xx r) (h.1.2.1 _ _ I) (by rw[hn,UO,my r]) v.1 v.2 (by rw[<-H];exact C);rw[<-H]at u;refine⟨B,E,λi s a=>?_⟩;by_cases l:i=p.toNat
 subst l;rw[w s a,IC z];refine⟨λ_=>?_,.inl f⟩;rcases u with e|e<;>rw[e];exact D;exact g;exact h.2 i s (y i s l a)
def dF{x:AV×Int×Int×Int}(h:SK B x.1.1)(D:Do x.1.1.2.2.1)(v:DJ B x.1.1.2.2.1 x.1.2):Aq (Lc x) λr=> ∃A P,DP A P r.1/\CB x.1.1.1 P r.2:=by
 unfold Lc;refine AA Fh λi Q=>AC (λO=>?_) (λ_=>AA (wz D v.1 h.ki.1) λL E=>AB (⟨B,dl x.1.1.2.2.1,v.2,E⟩: ∃A P,DP A P x.1.2/\CB x.1.1.1 P L));have⟨J,f,G,m⟩:=Q.2.2.1 O;obtain⟨g,M,Y,c⟩:=AI O Q.2.1;have e:=Bf (Y.symm.trans G);subst e;dsimp only at M m c;rw[M];refine BC (AA (P:=λr:AS×Bq=>(∃A,DP A (dl r.1.2.2.1) r.2)/\Do r.1.2.2.1/\r.1.2.2.1.1=1/\LI x.1.1.1 r.1.2.2.1.2.1) ?_ λv8 W=>?_);rotate_left 1;obtain⟨⟨A,R⟩,S,T,N⟩:=W;refine AA (wz S T N) λv9 X=>AB ?_;exact⟨A,dl v8.1.2.2.1,R,X⟩;refine AL (λF=>?_) (λ_=>?_);rotate_left 1;apply AB;exact⟨⟨B,v.2⟩,D,v.1,h.ki.1⟩;have⟨t,n,_⟩:=J.2.2.2.2.2.1 i.toNat g (by have:=Cv G;omega) G;have n:=n F;apply BC;rw[an t];refine BC (BC (AA (Jg h D) λu a=>AA (fM v.2.1) λv6 U=>?_));have b:=v.up a.1.2.1;have q:=h.ki.2.2 g c;have K:=a.1.2.2.1.num b.1;have N:=a.1.2.2.1.2.2.1;have C:=a.1.2.2.2.2.2.ki;have s:g.1=st u.2.2.1.2.1 x.2.2.1:=by have:=(C.2.1 x.2.2.1 o! (by rw[a.1.1];dsimp only;omega)).1 g (by rw[a.2.1];exact c) m;exact this
 have I:=Wt K (p:=x.2.2.1) ⟨o!,by rw[<-m];exact t.2.1⟩ o!;have y:Bj u.2.2.1.2.1 x.2.2.1=g.1.2.1:=by rw[<-K5,<-s]
 have w:=a.2.2 (by have:=kA D g.1.1;have:=congrArg (λz=>z.2.1) ((h.ki.2.1 g.1.1 q.1 q.2.1).1 g c rfl);rw[K5]at this;dsimp only;omega);refine AA (P:=λd=> ∃A,DP A (dl u.2.2.1) d) (AP (λZ=>AB ?_) (λ_=>AB ⟨B,b.2⟩)) λv7 V=>AB ⟨V,a.1.2.2.1,b.1,by have:=C.1;rw[a.1.1]at this;exact this⟩;obtain⟨t1,o,t2,t3,t4⟩:=U Z;refine b.2.tear t2 (by rw[<-m];exact q.2.2.2) t1 t3 rfl t4 t rfl ?_ o! (λj H=>?_) λj=>?_;refine .inr ⟨(dl u.2.2.1).length,?_⟩;rw[Hm];unfold dl;dsimp only at w⊢;rw[ADw K o!,<-s];unfold dl at H⊢;rw[Kl]at H⊢;rw[s,<-Hm (l:=u.2.2.1.2.1)];rw[Hm];have:=kH K (p:=x.2.2.1) (j:=min j u.2.2.1.2.2.toNat) (k:=u.2.2.1.2.1.length) (by rw[Hm,y,<-H,K5]);rwa [Hm]at this;unfold dl;rw[Kl];exact I _
def Ep{x:Int}:Aq (EB x) λr=>True:=by exact AJ (λ_=>AA B3 λ_ _=>AB trivial) (λ_=>AB trivial)
end Go.Pm
namespace Go.Pm
open Go Go.Ab
set_option maxHeartbeats 400000
def aZ{m:Nat}{c:AV×Bool}{s:Int×List Int×AV×Bool}(i:m<=16777216)(h:0<=s.1/\s.1<=m/\s.2.1.length=m/\s.2.2=c):Aq (Ah O3 s) λr=>r.1.length=m/\r.2=c:=by refine AW (λ(s:Int×List Int×AV×Bool)=>0<=s.1/\s.1<=m/\s.2.1.length=m/\s.2.2=c) (λ(s:Int×List Int×AV×Bool)=>((m:Int)-s.1).toNat) h (λs g=>?_);obtain⟨b,j,d,f⟩:=g;unfold O3;have e:=AY (x:=s.1+1);rw[e];refine AC (λa=>?_) (λ_=>AB ⟨d,f⟩);simp only[len]at a;refine AA (AI b a) λ_ _=>AA (AI b a) λ_ _=>AB ⟨⟨d!,d!,by simp[FT,d],f⟩,d!⟩
def iH{n:Int}{x:AV×List Kg}(h:SQ n x.1):Aq (NZ x) λr=>SQ n r.1:=by
 unfold NZ;refine AA (P:=λr=>SQ n r.2.2.2.1) ?_ λr hr=>AB hr;refine AW (λ(s:Int×List Ba×List Int×List Is×AV×Bool)=>0<=s.1/\s.1<=1000/\s.2.1.length<=s.1/\s.2.2.1.length<=s.1/\s.2.2.2.1.length<=s.1/\SQ n s.2.2.2.2.1) (λ(s:Int×List Ba×List Int×List Is×AV×Bool)=>(1000-s.1).toNat) ⟨Ae _,d!,k!,k!,k!,h⟩ (λs X=>?_);obtain⟨Z,i2,i3,i4,i5,o⟩:=X;obtain⟨B,i⟩:=id o;obtain⟨q1,q2,q3,q4⟩:=id i;unfold Uf;refine AC (λS=>?_) (λ_=>AB o);refine AC (λY=>?_) (λ_=>AB o);refine AO (λ_=>?_) (λ_=>AB o);simp only[len]at S;have e:=AY (x:=s.1+1);have b: ∀(v:Ba) (t:List Int×List Is×AV×Bool),t.1.length<=s.1+1->t.2.1.length<=s.1+1->SQ n t.2.2.1-> ∀Q:Step (Int×((List Ba)×((List Int)×((List Is)×(AV×Bool))))) ((List Ba)×((List Int)×((List Is)×(AV×Bool))))->Prop,(∀a:Int×List Ba×List Int×List Is×AV×Bool,(0<=a.1/\a.1<=1000/\a.2.1.length<=a.1/\a.2.2.1.length<=a.1/\a.2.2.2.1.length<=a.1/\SQ n a.2.2.2.2.1)/\(1000-a.1).toNat<(1000-s.1).toNat->Q (.next a))->Aq (Option.bind (app s.2.1 ([v]:List (Int×(Int×(Int×((Bool×BT)×Int)))))) λD=>some (.next ((wi (s.1+1)),(D,t)))) Q:=by intro v t h1 O G Q I;refine AA (AZ w!) λD W=>AB (I _ ?_);have l7:=W.2.1;simp only[Bn,BV]at l7;rw[e];exact⟨⟨d!,d!,d!,d!,d!,G⟩,d!⟩
 have same: ∀(v:Ba) (Q:Step (Int×((List Ba)×((List Int)×((List Is)×(AV×Bool))))) ((List Ba)×((List Int)×((List Is)×(AV×Bool))))->Prop),(∀a:Int×List Ba×List Int×List Is×AV×Bool,(0<=a.1/\a.1<=1000/\a.2.1.length<=a.1/\a.2.2.1.length<=a.1/\a.2.2.2.1.length<=a.1/\SQ n a.2.2.2.2.1)/\(1000-a.1).toNat<(1000-s.1).toNat->Q (.next a))->Aq (Option.bind (app s.2.1 ([v]:List (Int×(Int×(Int×((Bool×BT)×Int)))))) λD=>some (.next ((wi (s.1+1)),(D,s.2.2)))) Q:=λv Q I=>b v s.2.2 o! o! o Q I;refine AA (AI Z S) λv1 _=>AP (λ_=>?_) (λ_=>?_);refine AA (dE q2 q3 q4) λv2 O=>AA (P:=λr=>r.1.length<=s.1+1/\r.2=s.2.2.2.2) ?_ λv4 R=>?_;refine AP (λ_=>?_) (λ_=>AB ⟨d!,rfl⟩);refine AA (AZ w!) λv3 G=>AB ⟨?_,rfl⟩;have:=G.2.1;simp at this;dsimp only;omega;refine AA (P:=λr=>SQ n r.1) ?_ λv5 V=>?_;refine AP (λf=>AB (i.sr (O f))) (λ_=>AB (by rw[R.2];exact o));refine AA Ep λv6 _=>b _ (v4.1,(s.2.2.2.1,v5)) R.1 d! V _ (λ_ h=>h);refine AP (λ_=>?_) (λ_=>?_);refine AC (λ_=>AA B3 λN _=>same _ _ (λ_ h=>h)) (λc1=>AC (λ_=>AA B3 λN _=>same _ _ (λ_ h=>h)) (λT=>?_));simp only[len]at T;have U:=AY (x:=v1.2.1-1);rw[U];refine AA (AI) λad _=>AA (AI) λal _=>AP (λ_=>AA B3 λN _=>same _ _ (λ_ h=>h)) (λ_=>AA (AI) λao _=>AA (AI) λap _=>AA (jM q2 q3 q4) λJ E=>?_);have u:=i.sr E;refine AP (λ_=>same _ _ (λ_ h=>h)) (λ_=>AP (λ_=>?_) (λ_=>?_));refine AA (P:=λr=>r.1.length<=s.1+1/\SQ n r.2.1) ?_ λK y=>b _ (s.2.2.1,K) d! y.1 y.2 _ (λ_ h=>h);refine AP (λ_=>?_) (λ_=>AB ⟨d!,u⟩);refine AA Ff λar _=>AA (AZ w!) λax F=>AB ⟨?_,u⟩;have:=F.2.1;simp at this;dsimp only;omega;exact b _ (s.2.2.1,(s.2.2.2.1,(J.1,s.2.2.2.2.2))) d! d! u _ (λ_ h=>h);refine AP (λ_=>?_) (λ_=>?_);refine AA (dG q2 q3 q4) λC j=>AA (P:=λr=>SQ n r.1) (AP (λf=>AB (i.sr (j f))) (λ_=>AB o)) λg d=>AA Ep λw _=>b _ (s.2.2.1,(s.2.2.2.1,g)) d! d! d _ (λ_ h=>h);refine AP (λ_=>?_) (λ_=>?_);refine AA (We q2 q4) λC j=>AA (P:=λr=>SQ n r.1) (AP (λf=>AB (i.sr (j f))) (λ_=>AB o)) λg d=>AA Ep λw _=>b _ (s.2.2.1,(s.2.2.2.1,g)) d! d! d _ (λ_ h=>h);refine AP (λ_=>?_) (λ_=>?_);refine AA Ff λa0 _=>AA Jd λa1 k=>AA (P:=λr=>SQ n r.1) (AP (λf=>AB ⟨B,q1,SB.sk q2.sb (q2.ki.of rfl (k f).2.1 rfl rfl),(k f).1,q4.up (LX.of (k f).2.2.1 (k f).2.1 (k f).2.2.2.1)⟩) (λ_=>AB o)) λg d=>AA Ep λw _=>b _ (s.2.2.1,(s.2.2.2.1,g)) d! d! d _ (λ_ h=>h);refine AP (λ_=>?_) (λ_=>?_);refine AA (dF q2 q3 q4) λa2 ⟨A,P,z⟩=>AA (fg z.2 z.1) λL H=>AA (aZ (m:=s.2.2.1.length) (c:=s.2.2.2.2) o! ⟨Ae _,d!,rfl,rfl⟩) λp q=>AJ (λ_=>?_) (λf=>?_);refine AA Ep λM _=>b _ (p.1,(s.2.2.2.1,(p.2.1,true))) (by have:=q.1;dsimp only;omega) d! (by dsimp only;rw[q.2];exact o) _ (λ_ h=>h);refine AA Ep λM _=>?_;have l:=H f;dsimp only at l;rw[q1]at l;exact b _ (p.1,(s.2.2.2.1,(L.1,p.2.2))) (by have:=q.1;dsimp only;omega) d! l _ (λ_ h=>h);refine AP (λ_=>?_) (λ_=>?_);refine AA (fh q2 q3 q4) λC j=>AA (P:=λr=>SQ n r.1) (AP (λf=>AB (i.sr (j f))) (λ_=>AB o)) λg d=>AA Ep λw _=>b _ (s.2.2.1,(s.2.2.2.1,g)) d! d! d _ (λ_ h=>h);exact AA B3 λN _=>same _ _ (λ_ h=>h)
def CX(b:AT):Prop:=0<=b.2/\b.1.length<=16777216/\ ∀x∈b.1,0<=x/\x<256
def CX.step{b:AT}(h:CX b)(a:b.2<b.1.length):CX (b.1,wi (b.2+1)):=by have⟨a1,a2,a3⟩:=h;rw[(AY (x:=b.2+1))];exact⟨d!,a2,a3⟩
def Vh{b:AT}(h:CX b):Aq (HB b 256) λr=>CX r.2/\0<=r.1/\r.1<256:=by unfold HB;refine AC (λ_=>AB ⟨h,Ae _,by show(0:Int)<256;decide⟩) (λa=>?_);simp[len]at a;refine AC n! (λ_=>AA (AI h.1) λc d=>?_);have⟨f,g⟩:=h.2.2 c d.2;have e:=AY (x:=c);refine AC n! (λ_=>AP n! (λ_=>AB ⟨h.step o!,?_,?_⟩));grind[Int.tmod_nonneg];grind[Int.tmod_lt_of_pos]
theorem Af{b:AT}{x:Int}(h:CX b)(j:x<=4611686018427387904):Aq (Ai b x) λr=>CX r.2/\0<=r.1/\(r.1=0\/r.1<x):=by unfold Ai;refine AC (λ_=>AB ⟨h,Ae _,.inl rfl⟩) (λa=>?_);simp[len]at a;refine AC (λ_=>AB ⟨h,Ae _,.inl rfl⟩) (λf=>AA (AI h.1) λc e=>?_);have⟨d,g⟩:=h.2.2 c e.2;rw[(AY (x:=c))];refine AC (λ_=>?_) (λ_=>?_);refine AA (Vh (h.step o!)) λk i=>?_;grind[AP,AB,AY,Int.tmod_nonneg,Int.tmod_lt_of_pos];refine AP (λa=>absurd a o!) (λ_=>AB ⟨h.step o!,ny _ d,.inr (nw _ o!)⟩)
def W7{b:AT}{x:Unit}(h:CX b):Aq (IN b x) λr=>CX r.2:=by unfold IN;refine AA (Af h g!) λt e=>AA (Af e.1 g!) λu m=>AA (P:=λr=>CX r.2/\0<=r.1/\r.1<=14) ?_ λc f=>?_;grind[AP,AB,AA,Af];have⟨d,a,k⟩:=f;refine AA (P:=λl:List Int=>l.length=0) ⟨_,if_pos ⟨Ae _,a,o!⟩,k!⟩ λv n=>AA (P:=λr=>CX r.2) ?_ λw g=>AB g;refine AW (λ(s:Int×List Int×AT)=>0<=s.1/\s.1<=c.1/\s.2.1.length<=s.1/\CX s.2.2) (λ(s:Int×List Int×AT)=>(c.1-s.1).toNat) ⟨Ae _,a,d!,d⟩ (λs i=>?_);have⟨o,p,q,j⟩:=i;unfold PP;rw[(AY (x:=s.1+1))];refine AC (λ_=>?_) (λ_=>AB j);grind[AA,Af,AZ,AB,List.length_cons,List.length_nil]
theorem X4{b:AT}{x:Unit}(h:CX b):Aq (G5 b x) λr=>CX r.2:=by unfold G5;refine AA (Af h g!) λf a=>AP (λ_=>AA (Af a.1 g!) λe c=>AB c.1) (λ_=>AP (λ_=>?_) (λ_=>AA (Af a.1 g!) λe c=>AB c.1));refine AA (Af a.1 g!) λg d=>?_;have:=d.2.2;refine AA (AI d.2.1 w!) λ_ _=>?_;grind[AA,AI,AB]
theorem V3{b:AT}{x:Int}(h:CX b)(u:x<=1099511627776):Aq (Hd b x) λr=>CX r.2:=by
 unfold Hd;refine AA (Af h g!) λv a=>?_;have l:=a.2.2;refine AA (AI a.2.1 w!) λ_ _=>AA (AI a.2.1 w!) λw _=>AA (P:=λ_=>True) (AL (λ_=>AB trivial) (λ_=>AA (P:=λ_=>True) (AL (λ_=>AB trivial) (λ_=>AB trivial)) λ_ _=>AB trivial)) λy _=>AA (P:=λr=>CX r.1) ?_ λp e=>?_;refine AL (λ_=>?_) (λ_=>?_);refine AA (Af a.1 o!) λz m=>AA (Af m.1 g!) λA j=>AA (P:=λr=>CX r.1) ?_ λt i=>AB i;refine AL (λ_=>?_) (λ_=>AB j.1);refine AA (W7 j.1) λc n=>?_;have k:0<=(if(12<(len c.1))then 12 else(len c.1))/\(if(12<(len c.1))then 12 else(len c.1))<=c.1.length:=by simp[len];split<;>omega
 exact AA (Bt (Ae _) k.1 k.2) λB _=>AB n;refine AA (P:=λr=>CX r.1) ?_ λt i=>AB i;exact AL (λ_=>AA (Af a.1 g!) λo d=>AB d.1) (λ_=>AB a.1);refine AA (Af e g!) λq f=>AA (P:=λr=>CX r.1) ?_ λs g=>AB g;refine AL (λ_=>?_) (λ_=>AB f.1);grind[AA,X4,AB]
theorem W8{b:AT}{x:Int×Int×Bool}(h:CX b)(f:0<=x.1/\x.1<=64/\x.2.1<=64):Aq (IP b x) λr=>CX r.2:=by unfold IP;rw[(AY (x:=x.1+1))];refine AA (Af h g!) λg a=>AA (P:=λ_=>True) (AL (λ_=>AB trivial) (λ_=>AB trivial)) λi _=>AL (λ_=>AB a.1) (λ_=>AL (λ_=>AA (Af a.1 o!) λj c=>AB c.1) (λ_=>AL (λ_=>AB a.1) (λ_=>AL (λ_=>AB a.1) (λ_=>AA (P:=λs=>(∃u,s= .inl u/\CX u.1)\/ ∃u,s= .inr u/\CX u.1) ?_ λs e=>?_))));refine AL (λ_=>?_) (λ_=>AL (λ_=>AB (.inl ⟨_,rfl,a.1⟩)) (λ_=>AB (.inr ⟨_,rfl,a.1⟩)));refine AL (λ_=>?_) (λ_=>AB (.inr ⟨_,rfl,a.1⟩));refine AA (Af a.1 g!) λk d=>?_;grind[AA,Af,AB];grind[BL,AB,BA,AA,Af,V3]
def Uu{b:AT}{x:Int×Int×Bool}(h:CX b)(g:0<=x.1/\x.1<=64/\x.2.1<=1000/\ -1000<=x.2.1):Aq (Gr b x) λr=>CX r.2:=by unfold Gr;rw[(AY (x:=x.2.1+1))];refine AA (Af h o!) λk a=>?_;have c:=a.2.2;refine AA (P:=λr=>CX r.2) ?_ λl d=>AB d;refine AW (λ(s:Int×List Kg×AT)=>0<=s.1/\s.1+s.2.1.length<=1010/\CX s.2.2) (λ(s:Int×List Kg×AT)=>s.1.toNat) ⟨a.2.1,w!,a.1⟩ (λs e=>?_);have⟨i,j,f⟩:=e;unfold MM;rw[(AY (x:=s.1-1))];refine AC (λ_=>?_) (λ_=>AB f);grind[AA,W8,AZ,AB,List.length_cons,List.length_nil]
variable {B:Int->Prop}
def td:Do (1,([],0)):=⟨g!,g!,k!,g!,k!,λi e h=>by simp at h⟩
def gz{x:Unit}:Aq (Fw x) λr=>r=(1,([],0)):=by unfold Fw;exact AB rfl
def iE{x:Int×Int}(h:1<=x.1/\x.1<=64/\1<=x.2/\x.2<=64):Aq (NW x) λr=>r.2=0/\r.1.1=x.1/\SK (λ_=>True) r.1/\Do r.1.2.2.1/\r.1.2.2.1.1=1:=by unfold NW;refine AC (λa=>absurd a o!) (λ_=>AC (λa=>absurd a o!) (λ_=>AC (λa=>absurd a o!) (λ_=>AC (λa=>absurd a o!) (λ_=>AA VE λf c=>AA VF λg d=>AA gz λi b=>AB ⟨rfl,rfl,⟨⟨k!,k!⟩,k!,k!,?_⟩,?_⟩))));unfold KI FD;dsimp only;rw[c,b];refine⟨LI.nil _,λp _ _=>⟨k!,k!,λw e=>?_⟩,k!⟩;have:=d w (BN e);exact⟨by rw[this];exact Ae _,λ_ _=>this⟩;dsimp only;rw[b];exact⟨td,rfl⟩
def AEo{x:Int}(h:1<=x/\x<=64):Aq (J4 x) λr=>r.2=0:=by unfold J4;refine AC (λa=>absurd a o!) (λ_=>AC (λa=>absurd a o!) (λ_=>AA (SC o!) λb _=>AB rfl))
def iG{x:Int×Int}(h:1<=x.1/\x.1<=64/\1<=x.2/\x.2<=64):Aq (NY x) λr=>SQ x.1 r.1:=by unfold NY;refine AA (iE h) λe a=>AJ (λc=>absurd a.1 c) (λ_=>AA ((gv).and (AEo ⟨h.1,h.2.1⟩)) λf b=>AJ (λc=>absurd b.2 c) (λ_=>AB ?_));exact⟨_,a.2.1,a.2.2.1,a.2.2.2.1,a.2.2.2.2,(b.1 b.2).1,λi s d=>⟨λ_=>.inl (((b.1 b.2).2.2 i s d).trans (kj _)),.inl trivial⟩⟩
def Vi{b:AT}{x:Int×Bool}(h:CX b)(c:x.1<=1000/\ -1000<=x.1):Aq (HC b x) λr=>CX r.2/\ ∃n,1<=n/\n<=4/\SQ n r.1:=by unfold HC;refine AA (Af h g!) λl a=>AA (Af a.1 g!) λm g=>?_;obtain⟨a1,a2,a3⟩:=a;obtain⟨d,o,p⟩:=g;have e:=AY (x:=1+l.1);have f:=AY (x:=1+m.1);rw[e,f];refine AA (iG d!) λq i=>AA (Uu d ⟨d!,d!,c.1,c.2⟩) λs j=>AA (iH i) λt k=>AB ⟨j,_,d!,d!,k⟩
def OK{b:AT}{x:Int×Bool}(h:CX b)(d:x.1<=1000/\ -1000<=x.1):Aq (He b x) λr=>CX r.2/\1<=r.1.1/\r.1.1<=4/\LI r.1.1 r.1.2.2.1.2.1/\Do r.1.2.2.1/\r.1.2.2.1.1=1:=by unfold He;refine AA (Vi h d) λg a=>AB ?_;obtain⟨c,n,e,f,_,q1,q2,q3,q4⟩:=a;exact⟨c,d!,d!,q2.ki.1,q3,q4.1⟩
def jH{b:AT}{x:Int}(h:CX b)(g:x<=1000/\ -1000<=x):Aq (Kr b x) λr=>CX r.2.2/\1<=r.1/\r.1<=4/\Do r.2.1/\ ∃n,LI n r.2.1.2.1:=by unfold Kr;refine AA (OK h g) λk d=>?_;obtain⟨c,i,j,q2,q3,q4⟩:=d;refine AA Ff λl f=>?_;have e:=f q3;refine AA (Jd.and (qq q3 d!)) λm a=>AB ⟨c,i,j,(a.1 a.2).1,_,by have:=q2;rw[<-(a.1 a.2).2.1]at this;exact this⟩
end Go.Pm
namespace Go.Pm
open Go Go.Ab
set_option maxHeartbeats 400000
def IW{x:Int×Int×Int×Int×Int}:Aq (HX x) λr=>r=true↔1<=x.1/\x.1<=x.2.1/\x.2.1<=1099511627776/\0<=x.2.2.1/\x.2.2.1<=x.2.2.2.1/\x.2.2.2.1<64/\0<=x.2.2.2.2/\x.2.2.2.2<=8:=by
 unfold HX;exact x!
theorem L8{x:AE×AE}:Aq (Dx x) λr=>True:=by
 unfold Dx;exact x!
def P0{x:List AE×AE}{s:Int}(h:0<=s/\s<=x.1.length/\(x.1.length:Int)<=16777216):Aq (Ah (MA x) s) λr=>0<=r/\r<=x.1.length:=by
 refine AW (λ(s:Int)=>0<=s/\s<=x.1.length/\(x.1.length:Int)<=16777216) (λ(s:Int)=>((x.1.length:Int)-s).toNat) h (λs a=>?_);unfold MA;exact x!
theorem ac{x:List AE×AE}(h:x.1.length<=16777215):Aq (DB x) λr=>r.1.length<=x.1.length+1:=by
 refine AA (P0 ⟨Ae _,o!⟩) λp b=>?_;have a:Aq (Option.bind (YV x.1 0 p) λc=>
  Option.bind (YV x.1 p (len x.1)) λd=>
  Option.bind (app [] c) λe=>
  Option.bind (app e ([x.2]:List (Int×(Int×(Int×(Int×(Int×(Int×((Int×(Int×((Bool×BT)×(Bool×BT))))×BT))))))))) λf=>
  Option.bind (app f d) λg=>
  some (g,true)) λr=>r.1.length<=x.1.length+1:=by
  refine AA (Bb (Ae _) b.1 b.2) λk i=>AA (Bb b.1 q! q!) λl j=>?_;grind[AA,AZ,AB]
 refine AC (λm=>?_) (λ_=>a);grind[AA,AI,L8,AP,AB]
def YQ{x:AQ}{s:Int}(h:0<=s/\s<=x.2.2.2.2.2.length/\(x.2.2.2.2.2.length:Int)<=16777216):Aq (Ah (G6 x) s) λr=>r≠ .inl true:=by
 refine AW (λ(s:Int)=>0<=s/\s<=x.2.2.2.2.2.length/\(x.2.2.2.2.2.length:Int)<=16777216) (λ(s:Int)=>((x.2.2.2.2.2.length:Int)-s).toNat) h (λs b=>?_);unfold G6;repeat' with_reducible first|intro a|apply AC|apply AO|apply AP|apply AJ|apply AL|(apply BC;try dsimp only)|apply Bg|apply B0|(apply BL;try dsimp only)|(apply BA;try dsimp only)|apply AB|(apply AA (CV);intro r hr)|(apply AA (CM);intro r hr)|(apply AA (L8);intro r hr)|(refine AM ?_ (AI ?_ ?_);rintro r ⟨hr,c⟩)
 all_goals ((try dsimp[len]at*);(try first|omega|assumption|grind[AY]|((try simp (disch:=omega) only[AY,ne_eq,Sum.inl.injEq,Sum.inr.injEq,reduceCtorEq,not_false_eq_true,Bool.not_eq_true,len,true_and,and_true,or_false,false_or,false_implies,implies_true]at*)<;>(try intros)<;>(try and_intros)<;>(try intros)<;>(first|omega|assumption|grind))))
def aw(x:AQ):Prop:=1<=x.1/\x.1<=x.2.1/\x.2.1<=1099511627776/\0<=x.2.2.1/\x.2.2.1<=x.2.2.2.1/\x.2.2.2.1<64/\0<=x.2.2.2.2.1/\x.2.2.2.2.1<=8/\x.2.2.2.2.2.length<=4096
def N8{x:AQ}:Aq (EM x) λr=>r=true->aw x:=by refine AA IW λe b=>AO (λ_=>AB λa=>by cases a) (λc=>?_);have hn:=b.1 c;refine AC (λ_=>AB λa=>by cases a) (λd=>?_);simp[len]at d;refine AA (YQ ⟨Ae _,o!⟩) λr hr=>?_;grind[aw,A9,AB]
def RW{x:List AE×Int×Int×Int×Int×Int}{s:Int×AQ}(h:0<=s.1/\s.1<=x.1.length/\x.1.length<=16777215):Aq (Ah (N6 x) s) λr=> ∀u,r= .inl u->u.1≠0:=by
 refine AW (λ(s:Int×AQ)=>0<=s.1/\s.1<=x.1.length/\x.1.length<=16777215) (λ(s:Int×AQ)=>((x.1.length:Int)-s.1).toNat) h (λs b=>?_);unfold N6;exact x!
def RX{a:Bool×Int×AQ}{b:AE}{s:Bool×Int}(h:0<=s.2/\s.2<=a.2.2.2.2.2.2.2.length/\a.2.2.2.2.2.2.2.length<=16777215):Aq (Ah (N7 a b) s) λr=>True:=by
 refine AW (λ(s:Bool×Int)=>0<=s.2/\s.2<=a.2.2.2.2.2.2.2.length/\a.2.2.2.2.2.2.2.length<=16777215) (λ(s:Bool×Int)=>((a.2.2.2.2.2.2.2.length:Int)-s.2).toNat) h (λs c=>?_);unfold N7;exact x!
def fm{x:List AE×Int×Int×Int×Int×Int}(h:x.1.length<=16777215):Aq (JR x) λr=>r.2=0->aw r.1:=by
 refine AA IW λp _=>AO (λ_=>AB n!) (λ_=>AA (RW ⟨Ae _,q!,h⟩) λq g=>A9 (λu e=>AB λa=>absurd a (g u e)) (λu e=>AA (P:=λr=>r.2.2.2.2.2.2.length<=16777215) ?_ λl f=>?_));refine AW (λ(s:Bool×Int×AQ)=>0<=s.2.1/\s.2.1<=x.1.length/\s.2.2.2.2.2.2.2.length<=s.2.1) (λ(s:Bool×Int×AQ)=>((x.1.length:Int)-s.2.1).toNat) ⟨Ae _,q!,k!⟩ (λs i=>?_);have⟨j,n,o⟩:=i;unfold Jn;rw[(AY (x:=s.2.1+1))];refine AC (λc=>?_) (λ_=>AB q!);simp[len]at c;have b:((0<=s.2.1+1/\s.2.1+1<=x.1.length/\s.2.2.2.2.2.2.2.length<=s.2.1+1)/\((x.1.length:Int)-(s.2.1+1)).toNat<((x.1.length:Int)-s.2.1).toNat):=⟨o!,o!⟩
 refine AA (AI j c) λt _=>AA CM λv _=>AO (λ_=>AB b) (λ_=>AC (λ_=>AB b) (λ_=>AC (λ_=>AB b) (λ_=>AC (λ_=>AB b) (λ_=>AC (λ_=>AB b) (λ_=>AA (RX ⟨Ae _,q!,o!⟩) λk _=>?_)))));grind[AA,ac,AB];refine AL (λ_=>AB n!) (λ_=>AC (λ_=>AB n!) (λ_=>AA N8 λm d=>AO (λ_=>AB n!) (λc=>AB λ_=>d c)))
def fj{x:AQ}:Aq (HW x) λr=>True:=by
 unfold HW;exact x!
def ab{x:AQ}:Aq (Gd x) λr=>r.1.length<=1099511627776:=by refine AA N8 λk b=>AO (λ_=>AB k!) (λa=>?_);have h:=(b a).2.2.2.2.2.2.2.2;refine AA fj λl _=>AA Ta λm g=>AA (P:=λr:BT=>r.length<=1099511627776) ?_ λo c=>AB c;refine AW (λ(s:BT×Int)=>0<=s.2/\s.2<=x.2.2.2.2.2.length/\s.1.length<=8408*s.2+8408) (λ(s:BT×Int)=>((x.2.2.2.2.2.length:Int)-s.2).toNat) ⟨Ae _,q!,q!⟩ (λs d=>?_);have⟨f,i,j⟩:=d;have e:=AY (x:=s.2+1);refine AC (λa=>?_) (λ_=>AB o!);refine AA (AI f a) λn _=>?_;grind[AA,aJ,Ta,CE,AB]
def ae{x:BT×Int×Int}(h:x.1.length<=1099511627776):Aq (BR x) λr=>True:=by exact AA (Cc h) λ_ _=>AB trivial
def aa{x:BT}(h:x.length<=1099511627776):Aq (Fj x) λr=>r.2=0->aw r.1:=by refine AA (RN h) λk n=>AJ (λb=>AB λa=>absurd a b) (λj=>AJ (λ_=>AB n!) (λg=>?_));simp[len]at g;refine AA (Bt (Ae _) g!) λp _=>AJ (λ_=>AB n!) (λ_=>?_);have hn: ∀y,Aq (BR (k.1,y)) λ_=>True:=λy=>ae q!;refine AA (hn _) λq _=>AA (hn _) λt _=>AA (hn _) λv _=>AA (hn _) λw _=>AA (hn _) λz _=>AA (hn _) λA _=>AC (λ_=>AB n!) (λi=>AA (P:=λr=> ∀u,r= .inl u->u.1≠0) ?_ λl d=>?_);refine AW (λ(s:Int×Int×List AE×Int×Int×Int×Int×Int×AQ)=>0<=s.2.1/\s.2.1<=4096/\s.2.2.1.length<=s.2.1) (λ(s:Int×Int×List AE×Int×Int×Int×Int×Int×AQ)=>(4096-s.2.1).toNat) ⟨Ae _,q!,k!⟩ (λs o=>?_);have e:=AY (x:=s.2.1+1);refine AC (λb=>?_) (λ_=>AB λu c=>by cases c);grind[AA,RN,AJ,AB,aI,AZ,List.length_cons,List.length_nil];refine A9 (λu c=>AB λa=>absurd a (d u c)) (λu c=>AJ (λ_=>AB n!) (λ_=>AA N8 λm f=>AO (λ_=>AB n!) (λb=>AB λ_=>f b)))
def SA(a:AK):Prop:=a.1.length<=16/\a.2.2.1.length<=16777216/\ ∀f∈a.2.2.1,f.2.2.length<=1099511627776
def VA(a:AK):Prop:=1<=a.2.1/\a.2.1<=64/\1<=a.1.length/\a.1.length<=16/\1<=a.2.2.2.1/\a.2.2.2.1<=1099511627777/\1<=a.2.2.2.2/\a.2.2.2.2<=1073741825/\a.2.2.1.length<=256
def ag{x:Int×List Int}:Aq (Fk x) λr=>r=true->1<=x.1/\x.1<=64/\1<=x.2.length/\x.2.length<=16:=by unfold Fk;refine AC (λ_=>AB λa=>by cases a) (λh=>AC (λ_=>AB λa=>by cases a) (λi=>AC (λ_=>AB λa=>by cases a) (λb=>AC (λ_=>AB λa=>by cases a) (λc=>?_))));simp only[len]at b c;refine AA (AI (Ae _)) λk _=>AJ (λ_=>AB λa=>by cases a) (λ_=>AA (P:=λ_=>True) ?_ λr _=>?_);refine AW (λ(s:Int)=>1<=s/\s<=x.2.length) (λ(s:Int)=>((x.2.length:Int)-s).toNat) ⟨Ae _,o!⟩ (λs j=>?_);unfold MB;have d:=AY (x:=s-1);have f:=AY (x:=s+1);rw[d,f];refine AC (λg=>?_) (λ_=>AB trivial);simp only[len]at g;refine AA (AI) λ_ _=>AA (AI) λ_ _=>AC (λ_=>AB trivial) (λ_=>AB ⟨o!,o!⟩);refine A9 (λu _=>AB λ_=>o!) (λu _=>?_);have e:=AY (x:=len x.2-1) i!;rw[e];exact AA (AI i! i!) λl _=>AB λ_=>o!
def YR{x:AK}{s:Int×Int}(h:0<=s.2/\s.2<=x.2.2.1.length/\x.2.2.1.length<=256):Aq (Ah (JF x) s) λr=>r≠ .inl true:=by
 refine AW (λ(s:Int×Int)=>0<=s.2/\s.2<=x.2.2.1.length/\x.2.2.1.length<=256) (λ(s:Int×Int)=>((x.2.2.1.length:Int)-s.2).toNat) h (λs b=>?_);unfold JF;exact x!
def Jo{x:AK}:Aq (C4 x) λr=>r=true->VA x:=by
 unfold C4;refine AA ag λi c=>AO (λ_=>AB λa=>by cases a) (λd=>?_);obtain⟨a1,a2,a3,a4⟩:=c d;refine AC (λ_=>AB λa=>by cases a) (λe=>AC (λ_=>AB λa=>by cases a) (λf=>AC (λ_=>AB λa=>by cases a) (λg=>AC (λ_=>AB λa=>by cases a) (λh=>AC (λ_=>AB λa=>by cases a) (λb=>?_)))));simp only[len]at b;refine AA (YR ⟨Ae _,d!,o!⟩) λr hr=>?_;have q:VA x:=⟨a1,a2,a3,a4,o!⟩
 exact A9 (λu _=>AB λ_=>q) (λu _=>AB λ_=>q)
def Tn{x:AK×Int}(h:x.1.1.length<=16)(a:0<=x.2/\x.2<x.1.1.length):Aq (E0 x) λr=>True:=by unfold E0;have e:=AY (x:=x.2+1);rw[e];refine AA (P:=λ_=>True) ?_ λd _=>AA (AI a.1 a.2) λf _=>AB trivial;refine AC (λb=>?_) (λ_=>AB trivial);simp only[len]at b;exact AA (AI o! b) λc _=>AB trivial
def XL{x:AK×AQ}(h:x.1.1.length<=16):Aq (FX x) λr=> -1<=r/\r<16:=by
 unfold FX;refine AA (P:=λr=> ∀u,r= .inl u->0<=u/\u<16) ?_ λr hr=>A9 (λu a=>AB (by have:=hr u a;omega)) (λ_ _=>AB g!);refine AW (λ(s:Int)=>0<=s/\s<=x.1.1.length) (λ(s:Int)=>((x.1.1.length:Int)-s).toNat) ⟨Ae _,o!⟩ (λs d=>?_);unfold HD;have e:=AY (x:=s+1);rw[e];refine AC (λb=>?_) (λ_=>AB λu a=>by cases a);simp only[len]at b;have c:((0<=s+1/\s+1<=x.1.1.length)/\((x.1.1.length:Int)-(s+1)).toNat<((x.1.1.length:Int)-s).toNat):=⟨o!,o!⟩
 refine AA (Tn h ⟨d.1,b⟩) λf _=>AP (λ_=>?_) (λ_=>AB c);exact AP (λ_=>AB λu a=>by cases a;omega) (λ_=>AB c)
def af{x:AK×Au}(h:x.1.1.length<=16)(c:x.2.2.2.length<=1099511627776):Aq (DD x) λr=>0<=r.2->aw r.1:=by unfold DD;refine AJ (λ_=>AB n!) (λ_=>AA (aa c) λd b=>AJ (λ_=>AB n!) (λa=>AA (XL h) λe _=>AB λ_=>b a))
def Wf{x:AQ×Int}{s:Int×(List AE)×Int×Int×Int×Int×Int}(h:0<=s.1/\s.1<=x.1.2.2.2.2.2.length/\x.1.2.2.2.2.2.length<=4096/\s.2.1.length<=s.1):Aq (Ah (K0 x) s) λr=>r.1.length<=4096:=by
 refine AW (λ(s:Int×(List AE)×Int×Int×Int×Int×Int)=>0<=s.1/\s.1<=x.1.2.2.2.2.2.length/\x.1.2.2.2.2.2.length<=4096/\s.2.1.length<=s.1) (λ(s:Int×(List AE)×Int×Int×Int×Int×Int)=>((x.1.2.2.2.2.2.length:Int)-s.1).toNat) h (λs c=>?_);unfold K0;exact x!
def Ra{x:AQ×Int}(h:x.1.2.2.2.2.2.length<=4096):Aq (FN x) λr=>r.2.2.2.2.2.length<=4096:=by unfold FN;refine AC (λ_=>AB h) (λ_=>AA (Wf ⟨Ae _,d!,h,k!⟩) λb a=>AB a)
def RZ{x:AK×Ad×Int}{a:List AE}{s:Int×AK}(h:0<=s.1/\s.1<=a.length/\a.length<=4096):Aq (Ah (N9 x a) s) λr=> ∀u,r= .inl u->u.1≠0:=by
 refine AW (λ(s:Int×AK)=>0<=s.1/\s.1<=a.length/\a.length<=4096) (λ(s:Int×AK)=>((a.length:Int)-s.1).toNat) h (λs c=>?_);unfold N9;exact x!
def RL(l:List AQ):Prop:= ∀r∈l,r.2.2.2.2.2.length<=4096
def Qj{a:List AQ×List Int×Int}{c:AQ×Int}{s:Int}(h:0<=s/\s<=a.1.length/\a.1.length<=16777215):Aq (Ah (G7 a c) s) λr=>0<=r/\r<=a.1.length:=by refine AW (λ(s:Int)=>0<=s/\s<=a.1.length) (λ(s:Int)=>s.toNat) ⟨h.1,h.2.1⟩ (λs b=>?_);unfold G7;have d:=h.2.2;have e:=AY (x:=s-1);rw[e];refine AC (λf=>?_) (λ_=>AB b);refine AA (AI) λg _=>AC (λ_=>AB ⟨o!,o!⟩) (λ_=>AB b)
def YS{x:AK}{B:Int×List AQ×List Int×List Bool}(h:VA x)(G:SA x)(V:0<=B.1):Aq (Ah (Er x B) ([],([],0))) λr=>r.2.length=r.1.length/\r.1.length<=256/\RL r.1:=by have a4:=h.2.2.2.1;have a9:=h.2.2.2.2.2.2.2.2;refine AW (λ(s:List AQ×List Int×Int)=>0<=s.2.2/\s.2.2<=x.2.2.1.length/\s.2.1.length=s.1.length/\s.1.length<=s.2.2/\RL s.1) (λ(s:List AQ×List Int×Int)=>((x.2.2.1.length:Int)-s.2.2).toNat) ⟨Ae _,d!,rfl,k!,λr hr=>by simp at hr⟩ (λs E=>?_);obtain⟨z,W,A,X,f⟩:=E;unfold Er;have e:=AY (x:=s.2.2+1);rw[e];refine AC (λm=>?_) (λ_=>AB ⟨A,d!,f⟩);simp only[len]at m;refine AA (AI z m) λU C=>AA (af a4 (G.2.2 U C.2)) λZ D=>AJ (λ_=>AB ⟨⟨d!,d!,A,d!,f⟩,d!⟩) (λF=>?_);have n:=D o!;refine AA (Qj ⟨i!,i!,o!⟩) λv7 d=>AA (Bb (Ae _) d.1 d.2) λv8 v=>AA (Bb d.1 i! i!) λv9 y=>?_;have Y:=v.2;have K:=y.2;simp only[len]at K;refine AA (AZ w!) λL a=>?_;have o:=a.2.1;simp only[BV]at o;refine AA (AZ w!) λM b=>?_;have p:=b.2.1;simp only[BV,Bn]at p;refine AA (AZ o!) λN c=>?_;have H:=c.2.1;refine AA (Bb (Ae _) d.1) λO g=>?_;have I:=g.2;refine AA (AI z m) λP _=>AA (Bb d.1 i! i!) λQ i=>?_;have q:=i.2;simp only[len]at q;refine AA (AZ w!) λR j=>?_;have t:=j.2.1;simp only[BV]at t;refine AA (AZ w!) λS k=>?_;have u:=k.2.1;simp only[BV,Bn]at u;refine AA (AZ o!) λT l=>AB ?_;have J:=l.2.1;refine⟨⟨d!,d!,d!,d!,λr hr=>?_⟩,d!⟩;dsimp only at hr;rw[c.1,b.1,a.1,v.1,y.1]at hr;rcases An.1 hr with w|w;rcases An.1 w with w|w;rw[Bw]at w;exact f r (Mm (Fa w));simp at w;rw[w];exact n.2.2.2.2.2.2.2.2;exact f r (Mm (Fa w))
def T3(n:Int)(t:List AQ×List Int×List Bool):Prop:=t.2.1.length=t.1.length/\t.2.2.length=t.1.length/\t.1.length<=n/\RL t.1
def YT{a:List AQ×List Int}{n:Int}{t:List AQ×List Int×List Bool}(h:a.2.length=a.1.length/\a.1.length<=256/\RL a.1)(hn:n<=100000)(z:T3 n t):Aq (Ah (Es a) (0,(0,t))) λr=>T3 (n+256) r:=by refine AW (λ(s:Int×Int×List AQ×List Int×List Bool)=>0<=s.2.1/\s.2.1<=a.1.length/\T3 (n+s.2.1) s.2.2) (λ(s:Int×Int×List AQ×List Int×List Bool)=>((a.1.length:Int)-s.2.1).toNat) ⟨Ae _,d!,by simpa using z⟩ (λs y=>?_);obtain⟨d,K,q,u,L,k⟩:=y;obtain⟨I,J,v⟩:=h;unfold Es;have e:=AY (x:=s.2.1+1);rw[e];refine AC (λc=>?_) (λ_=>AB ⟨q,u,o!,k⟩);simp only[len]at c;refine AA (AI d c) λA _=>AC (λ_=>AB ⟨⟨d!,d!,q,u,d!,k⟩,d!⟩) (λ_=>AA (AI d c) λp f=>AA (AI d) λB _=>AA (AI d c) λC _=>AA (Ra (v p f.2)) λD g=>AA (AZ w!) λE b=>?_);have l:=b.2.1;simp only[BV,Bn]at l;refine AA (AZ w!) λF i=>?_;have m:=i.2.1;simp only[BV,Bn]at m;refine AA (AZ w!) λG j=>?_;have o:=j.2.1;simp only[BV,Bn]at o;refine AA (AI d c) λH _=>AB ?_;refine⟨⟨d!,d!,d!,d!,d!,λr hr=>?_⟩,d!⟩;dsimp only at hr;rw[b.1]at hr;rcases An.1 hr with w|w;exact k r w;simp at w;rw[w];exact g
def V4{b:AT}{x:BT}(h:CX b)(I:x.length<=1099511627776):Aq (F7 b x) λr=>CX r.2/\r.1.length<=x.length+1:=by
 refine AP (λ_=>?_) (λg=>?_);refine AA (Af h g!) λJ m=>AB ⟨m.1,?_⟩;rw[MG];simp;simp only[len]at g;refine AA (Af h i!) λw n=>?_;obtain⟨k,a,l⟩:=n;simp only[len]at l;have e:=AY (x:=w.1+1);refine AA (Af k g!) λK f=>AP (λ_=>?_) (λ_=>?_);refine AA (Bt (Ae _) a) λL E=>AA (Bt o! i! i!) λM q=>?_;have u:=q.2;simp only[len]at u;refine AA (CE o!) λN F=>AB ⟨f.1,?_⟩;grind;refine AP (λ_=>?_) (λ_=>?_);refine AA (Af f.1 g!) λC s=>?_;have v:(Ew ([(IntKind.wrap .u8 C.1)]:List Int)).length=1:=by rw[MG];rfl
 refine AA (CE o!) λO G=>AB ⟨s.1,?_⟩;grind;refine AA (Bt (Ae _) a) λP H=>AA (Q2 a o!) λD _=>AA (Bt o! i! i!) λy c=>AA (Af f.1 g!) λj d=>?_;have i:=c.2;simp only[len]at i;generalize t:Ew ([(IntKind.wrap .u8 (((BitVec.toNat ((BitVec.ofInt 8 D)^^^(BitVec.ofInt 8 (IntKind.wrap .u8 (wi (1+j.1)))))):Nat):Int))]:List Int)=B;have v:B.length=1:=by rw[<-t,MG];rfl
 refine AA (CE o!) λz o=>AA (CE o!) λA p=>AB ⟨d.1,?_⟩;grind
def AAu{x:Ad×Int}(h:Do x.1)(c:x.2=x.1.1+x.1.2.1.length-1):Aq (EL x) λr=>r.1.2.2=r.1.1+r.1.2.1.length-1/\r.1.1=x.1.1:=by refine AA Bc λv e=>AO (λa=>?_) (λ_=>?_);grind;refine AA Ee λf b=>?_;rw[h.last]at b;have d:=h.2.2.2.2.1;refine AC (λa=>absurd a o!) (λ_=>AB ⟨?_,rfl⟩);grind
def yU{b:AT}{x:Int}(h:CX b)(f:x<=1000/\ -1000<=x):Aq (Kr b x) λr=>r.2.1.2.2=r.2.1.1+r.2.1.2.1.length-1/\r.2.1.1=1:=by refine AA (OK h f) λj d=>?_;obtain⟨c,g,i,q2,q3,q4⟩:=d;refine AA Ff λk e=>AA (AAu q3 (e q3)) λl a=>AB ⟨a.1,a.2.trans q4⟩
def gy{x:Ad×Int}(h:Do x.1)(p:x.1.2.2=x.1.1+x.1.2.1.length-1)(l:x.1.1<=x.2)(m:x.2<=x.1.2.2+1)(n:x.2<=1099511627776):Aq (J5 x) λr=>r.2=0/\Do r.1/\r.1.1=x.2:=by obtain⟨a1,a2,a3,a4,a5,a6⟩:=id h;refine AA Bc λv q=>AO (λa=>?_) (λ_=>?_);grind;refine AC (λa=>absurd a o!) (λ_=>AA Ee λf d=>?_);rw[h.last]at d;have g:=AY (x:=f+1);have j:=AY (x:=x.1.2.2+1);have k:=AY (x:=x.2-x.1.1);refine AC (λa=>absurd a o!) (λ_=>AC (λa=>absurd a o!) (λ_=>AC (λa=>absurd a o!) (λ_=>AA (Bb o! q! q!) λs b=>?_)));have l2:=b.2;simp only[len]at l2;refine AA (AZ w!) λt c=>AB ⟨rfl,?_,rfl⟩;refine⟨q!,q!,q!,q!,q!,λi e o=>?_⟩;grind
def Ris(l:List Int)(n:Int):Prop:= ∀(i:Nat) (a b:Int),(i:Int)+1<n->l[i]? =some a->l[i+1]? =some b->a<b
def BD(n:Int)(l:List Int):Prop:=1<=n/\n<=64/\1<=l.length/\l.length<=16/\l[0]? =some 0/\Ris l l.length/\ ∀a,l[l.length-1]? =some a->a<n
def lV{x:Int×List Int}:Aq (Fk x) λr=>r=true↔BD x.1 x.2:=by
 unfold Fk;refine AC (λc=>AB ⟨λd=>(by cases d),λh=>(by have:=h.1;omega)⟩) (λL=>AC (λc=>AB ⟨λd=>(by cases d),λh=>(by have:=h.2.1;omega)⟩) (λM=>AC (λc=>AB ⟨λd=>(by cases d),λh=>(by have:=h.2.2.1;simp only[len]at c;omega)⟩) (λy=>AC (λc=>AB ⟨λd=>(by cases d),λh=>(by have:=h.2.2.2.1;simp only[len]at c;omega)⟩) (λz=>?_))));simp only[len]at y z;refine AA (AI (Ae _)) λQ E=>?_;have f:=E.1;refine AJ (λc=>AB ⟨λd=>(by cases d),λh=>?_⟩) (λo=>?_);have:=h.2.2.2.2.1;simp only[Int.toNat_zero]at f;rw[f]at this;exact absurd (Bf this) c;rw[o]at f;refine AA (P:=λr=>(r= .inl false/\ ¬Ris x.2 x.2.length)\/(r= .inr ()/\Ris x.2 x.2.length)) ?_ λr hr=>?_;refine AW (λ(s:Int)=>1<=s/\s<=x.2.length/\Ris x.2 s) (λ(s:Int)=>((x.2.length:Int)-s).toNat) ⟨Ae _,o!,λi a b v=>absurd v o!⟩ (λs G=>?_);obtain⟨N,O,w⟩:=G;unfold MB;have A:=AY (x:=s-1);have B:=AY (x:=s+1);rw[A,B];refine AC (λk=>?_) (λk=>AB (.inr ⟨rfl,?_⟩));simp only[len]at k;refine AA (AI) λa j=>AA (AI o! k) λb u=>?_;have t:(s-1).toNat+1=s.toNat:=o!
 refine AC (λJ=>AB (.inl ⟨rfl,λH=>?_⟩)) (λm=>AB ⟨⟨o!,o!,λi p q v n l=>?_⟩,o!⟩);have:=H (s-1).toNat a b o! j.1 (by rw[t];exact u.1);omega;by_cases I:(i:Int)+1<s;exact w i p q I n l;have C:i=(s-1).toNat:=o!
 subst C;rw[t]at l;rw[j.1]at n;rw[u.1]at l;have:=Bf n;have:=Bf l;omega;simp only[len]at k;have:s=x.2.length:=o!
 rw[<-this];exact w;rcases hr with⟨rfl,hr⟩|⟨rfl,hr⟩;exact BL (AB ⟨λd=>(by cases d),λh=>absurd h.2.2.2.2.2.1 hr⟩);apply BA;have e:=AY (x:=len x.2-1) i!;rw[e];refine AA (AI i! i!) λK F=>AB ?_;have g:=F.1;have D:(len x.2-1).toNat=x.2.length-1:=i!
 rw[D]at g;rw[decide_eq_true_eq];refine⟨λm=>⟨o!,o!,o!,o!,f,hr,λa j=>?_⟩,λh=>h.2.2.2.2.2.2 K g⟩;rw[g]at j;have:=Bf j;omega
def BI(i:Int)(l:List Int):Prop:=1<=l.length/\l.length<=16/\l[0]? =some 0/\Ris l l.length/\ ∀a,l[l.length-1]? =some a->a<i
def BI.mono{i:Int}{l:List Int}(h:BI i l):BI (i+1) l:=⟨h.1,h.2.1,h.2.2.1,h.2.2.2.1,λa b=>by have:=h.2.2.2.2 a b;omega⟩
def BI.push{i:Int}{l m:List Int}(h:BI i l)(u:l.length<16)(r:m=l++[i]):BI (i+1) m:=by
 subst r;obtain⟨s,t,n,o,p⟩:=h;have g:(l++[i]).length=l.length+1:=k!
 refine⟨o!,o!,?_,λk a b q c d=>?_,λa c=>?_⟩;rw[CT o!];exact n;rw[g]at q;rw[CT o!]at c;by_cases f:k+1<l.length;rw[CT f]at d;exact o k a b o! c d;have j:k=l.length-1:=o!
 subst j;rw[Cj o!]at d;have e:l.length-1+1-l.length=0:=o!
 rw[e]at d;simp at d;have:=p a c;omega;rw[g]at c;rw[Cj o!]at c;have e:l.length+1-1-l.length=0:=o!
 rw[e]at c;simp at c;omega
def AAt{b:AT}{x:Int}(h:CX b)(d:1<=x/\x<=64):Aq (LC b x) λr=>CX r.2/\BD x r.1:=by
 unfold LC;refine AA (P:=λr=>CX r.2/\BD x r.1) ?_ λr hr=>AB hr;refine AW (λ(s:Int×List Int×AT)=>1<=s.1/\s.1<=x/\BI s.1 s.2.1/\CX s.2.2) (λ(s:Int×List Int×AT)=>(x-s.1).toNat) ⟨Ae _,d.1,⟨k!,k!,k!,λi a b q=>absurd q w!,λa o=>by simp at o;omega⟩,h⟩ (λs n=>?_);obtain⟨u,v,c,g⟩:=n;unfold R7;have e:=AY (x:=s.1+1);rw[e];refine AC (λp=>?_) (λp=>AB ⟨g,?_⟩);refine AA (Af g g!) λw f=>AP (λ_=>?_) (λ_=>AB ⟨⟨d!,d!,c.mono,f.1⟩,d!⟩);refine AA (P:=λl=>BI (s.1+1) l) ?_ λz m=>AB ⟨⟨d!,d!,m,f.1⟩,d!⟩;refine AC (λt=>?_) (λ_=>AB c.mono);simp only[len]at t;exact AA (AZ w!) λy k=>AB (c.push o! k.1);have j:s.1=x:=o!
 rw[j]at c;exact⟨d.1,d.2,c.1,c.2.1,c.2.2.1,c.2.2.2.1,c.2.2.2.2⟩
def FR(l:List Au)(m n:Int):Prop:=(∀(i:Nat) (f:Au),(i:Int)<n->l[i]? =some f->0<f.2.1/\f.2.1<m)/\ ∀(i:Nat) (f g:Au),(i:Int)+1<n->l[i]? =some f->l[i+1]? =some g->f.2.1<g.2.1
def VB(a:AK):Prop:=BD a.2.1 a.1/\1<=a.2.2.2.1/\a.2.2.2.1<=1099511627777/\1<=a.2.2.2.2/\a.2.2.2.2<=1073741825/\a.2.2.1.length<=256/\FR a.2.2.1 a.2.2.2.2 a.2.2.1.length
theorem TG{x:AK}:Aq (C4 x) λr=>r=true↔VB x:=by
 unfold C4;refine AA lV λU w=>AO (λj=>AB ⟨λb=>(by cases b),λh=>(by rw[w.2 h.1]at j;cases j)⟩) (λj=>?_);have H:=w.1 j;refine AC (λc=>AB ⟨λb=>(by cases b),λh=>(by have:=h.2.1;omega)⟩) (λN=>AC (λc=>AB ⟨λb=>(by cases b),λh=>(by have:=h.2.2.1;omega)⟩) (λO=>AC (λc=>AB ⟨λb=>(by cases b),λh=>(by have:=h.2.2.2.1;omega)⟩) (λQ=>AC (λc=>AB ⟨λb=>(by cases b),λh=>(by have:=h.2.2.2.2.1;omega)⟩) (λR=>AC (λc=>AB ⟨λb=>(by cases b),λh=>(by have:=h.2.2.2.2.2.1;simp only[len]at c;omega)⟩) (λA=>?_)))));simp only[len]at A;refine AA (P:=λr=>(r= .inl false/\ ¬FR x.2.2.1 x.2.2.2.2 x.2.2.1.length)\/(r= .inr ()/\FR x.2.2.1 x.2.2.2.2 x.2.2.1.length)) ?_ λr hr=>?_;refine AW (λ(s:Int×Int)=>0<=s.2/\s.2<=x.2.2.1.length/\FR x.2.2.1 x.2.2.2.2 s.2/\0<=s.1/\(s.2=0->s.1=0)/\ ∀f,0<s.2->x.2.2.1[(s.2-1).toNat]? =some f->f.2.1=s.1) (λ(s:Int×Int)=>((x.2.2.1.length:Int)-s.2).toNat) ⟨Ae _,d!,⟨λi f k=>absurd k d!,λi f g k=>absurd k d!⟩,Ae _,λ_=>rfl,λf d=>absurd d d!⟩ (λs G=>?_);obtain⟨q,S,t,T,L,z⟩:=G;unfold JF;have e:=AY (x:=s.2+1);rw[e];refine AC (λj=>?_) (λj=>AB (.inr ⟨rfl,?_⟩));simp only[len]at j;refine AA (AI q j) λu D=>?_;have a:=D.1;refine AC (λJ=>AB (.inl ⟨rfl,λn=>?_⟩)) (λK=>?_);by_cases b:s.2=0;have:=(n.1 s.2.toNat u o! a).1;have:=L b;omega;obtain⟨f,d⟩: ∃f,x.2.2.1[(s.2-1).toNat]? =some f:=⟨_,Av o!⟩
 have m:(s.2-1).toNat+1=s.2.toNat:=o!
 have:=n.2 (s.2-1).toNat f u o! d (by rw[m];exact a);have:=z f o! d;omega;refine AA (AI q j) λv E=>?_;have B:v=u:=by have:=E.1;rw[a]at this;exact(Bf this).symm
 subst B;refine AC (λI=>AB (.inl ⟨rfl,λn=>?_⟩)) (λy=>?_);have:=(n.1 s.2.toNat v o! a).2;omega;refine AA (AI q j) λM F=>AB ?_;have C:M=v:=by have:=F.1;rw[a]at this;exact(Bf this).symm
 subst C;refine⟨⟨d!,d!,⟨λi f k d=>?_,λi f g k d p=>?_⟩,d!,λb=>absurd b d!,λf _ d=>?_⟩,d!⟩;dsimp only at k;by_cases l:(i:Int)<s.2;exact t.1 i f l d;have o:i=s.2.toNat:=o!
 subst o;rw[a]at d;have:=Bf d;subst this;exact o!;dsimp only at k;by_cases l:(i:Int)+1<s.2;exact t.2 i f g l d p;have o:i=(s.2-1).toNat:=o!
 have m:i+1=s.2.toNat:=o!
 rw[m,a]at p;have:=Bf p;subst this;rw[o]at d;have:=z f o! d;omega;dsimp only at d⊢;have m:(s.2+1-1).toNat=s.2.toNat:=o!
 rw[m,a]at d;have:=Bf d;rw[this];simp only[len]at j;have:s.2=x.2.2.1.length:=o!
 rw[<-this];exact t;rcases hr with⟨rfl,hr⟩|⟨rfl,hr⟩;exact BL (AB ⟨λb=>(by cases b),λh=>absurd h.2.2.2.2.2.2 hr⟩);exact BA (AB ⟨λ_=>⟨H,o!,o!,o!,o!,o!,hr⟩,λ_=>rfl⟩)
set_option maxHeartbeats 1000000
def ol{x:Int}:Aq (GJ x) λr=>r=true↔0<=x/\x<64:=by
 unfold GJ;exact x!
theorem cO{x:Ds}:Aq (Nl x) λr=>r=true↔OV x:=by
 unfold Nl OV
 exact x!
def KY{x:Int×AE}:Aq (Nn x) λr=>r=true↔0<=x.1/\x.1<x.2.1:=by
 unfold Nn;exact x!
def sD{x:Ds}:Aq (MK x) λr=>r=true↔x=Pq:=by grind[MK,Pq,AB,Prod.ext_iff]
def nL{x:AE}:Aq (GR x) λr=>r=true:=by grind[GR,AB]
def nM{x:AE}:Aq (Sh x) λr=>r=true↔1<=x.2.2.2.2.2.1/\x.2.2.2.2.2.1<=x.2.2.2.1:=by
 unfold Sh;exact x!
def nN{x:Ds}:Aq (Si x) λr=>r=true↔0<=x.1/\x.1<64/\x.2=Pq.2:=by
 unfold Si Pq;have⟨a,b,⟨c,d⟩,e,f⟩:=x;refine AL (λg=>?_) (λg=>AB ?_);refine AC (λh=>AB ?_) (λh=>AB ?_);simp at g;simp[g,h];try omega
 simp;try omega
 grind[Prod.ext_iff]
theorem Jw{x:AE}:Aq (GQ x) λr=>Ln x->r=true:=by
 unfold GQ;refine AC (λi=>AB λh=>?_) (λs=>?_);have:=h.1;omega;refine AC (λi=>AB λh=>?_) (λt=>?_);have:=h.2.1;omega;refine AC (λi=>AB λh=>?_) (λu=>?_);have:=h.2.2.2.2.2.2.2.2;unfold Uy at this;omega;refine AC (λi=>AB λh=>?_) (λv=>?_);have:=h.2.2.2.2.2.2.2.2;unfold Uy at this;omega;refine AA KY λw j=>AO (λi=>AB λh=>?_) (λn=>?_);rw[j.2 ⟨h.2.2.1,h.2.2.2.1⟩]at i;cases i;refine AA KY λy k=>AO (λi=>AB λh=>?_) (λo=>?_);rw[k.2 ⟨h.2.2.2.2.1,h.2.2.2.2.2.1⟩]at i;cases i;refine AA KY λz l=>AO (λi=>AB λh=>?_) (λp=>?_);rw[l.2 ⟨h.2.2.2.2.2.2.1,h.2.2.2.2.2.2.2.1⟩]at i;cases i;refine Aq.mono (P:=λr=>Uy x->r=true) ?_ λr h q=>h q.2.2.2.2.2.2.2.2;clear j k l n o p;have⟨a,b,c,d,e,f,g,m⟩:=x;unfold Uy;dsimp only at*;refine AC (λi=>absurd i o!) (λk0=>?_);exact x!
def gR{x:Ad}:Aq (Ci x) λr=>r=wi (wi (x.1+len x.2.1)-1):=by grind[Ci,AB]
def ML{x:Ad}(h:Do x):Aq (Jx x) λr=>r=true:=by have⟨a1,a2,a3,a4,a5,a6⟩:=id h;unfold Jx;refine AC (λa=>absurd a o!) (λ_=>AC (λa=>absurd a o!) (λ_=>AC (λa=>absurd a (by simp[len];omega)) (λ_=>?_)));rw[(AY (x:=x.1-1))];refine AC (λa=>absurd a o!) (λ_=>AA gR λf b=>?_);rw[h.last]at b;refine AC (λa=>absurd a o!) (λ_=>AA (P:=λr=> ∃u,r= .inr u) ?_ λr hr=>?_);refine AW (λ(s:Int)=>0<=s/\s<=x.2.1.length) (λ(s:Int)=>((x.2.1.length:Int)-s).toNat) ⟨Ae _,o!⟩ (λs c=>?_);have⟨d,e⟩:=c;unfold X2;refine AC (λa=>?_) (λ_=>AB ⟨_,rfl⟩);grind[AA,AI,AY,AJ,Jw,AO,AB];grind[BA,AB]
def Vg{x:Ad}(h:Do x):Aq (Np x) λr=>r=x.1+x.2.1.length-1:=by unfold Np;refine AA (ML h) λv c=>AO (λb=>?_) (λ_=>?_);rw[c]at b;cases b;refine AA gR λd a=>AB ?_;rw[h.last]at a;exact a
def Iz{x:AK}(h:VB x):Aq (HO x) λr=>r=true:=by
 obtain⟨⟨L,M,N,O,p,t,v⟩,a1,a2,a3,a4,a5,a6⟩:=id h;unfold HO;refine AC (λa=>absurd a (by omega)) (λ_=>?_);refine AC (λa=>absurd a (by omega)) (λ_=>?_);refine AC (λa=>absurd a (by simp only[len];omega)) (λ_=>?_);refine AC (λa=>absurd a (by simp only[len];omega)) (λ_=>?_);refine AA (AI (Ae _)) λQ B=>?_;have b:=B.1;rw[show((0:Int).toNat)=0 from rfl,p]at b;injection b with b;refine AJ (λa=>absurd b.symm a) (λ_=>?_);have w:=AY (x:=len x.1-1) (by simp only[len];omega);rw[w];refine AA (AI (by simp only[len];omega) (by simp only[len];omega)) λI C=>?_;have c:=C.1;have y:(len x.1-1).toNat=x.1.length-1:=by simp only[len];omega
 rw[y]at c;refine AC (λa=>absurd a (by have:=v I c;omega)) (λ_=>?_);refine AA (P:=λr=> ∃u,r= .inr u) ?_ λr hr=>?_;refine AW (λ(s:Int)=>1<=s/\s<=x.1.length) (λ(s:Int)=>((x.1.length:Int)-s).toNat) ⟨Ae _,by omega⟩ (λs i=>?_);obtain⟨o,F⟩:=i;unfold Wq;refine AC (λa=>?_) (λ_=>AB ⟨_,rfl⟩);simp only[len]at a;have z:=AY (x:=s-1);have e:=AY (x:=s+1);rw[z,e];refine AA (AI) λJ D=>?_;refine AA (AI (by omega) a) λK E=>?_
 have q:=t (s-1).toNat J K (by omega) D.1 (by have:(s-1).toNat+1=s.toNat:=by omega
                                              rw[this];exact E.1)
 refine AC (λa=>absurd a (by omega)) (λ_=>AB ⟨by omega,by omega⟩);obtain⟨u,rfl⟩:=hr;apply BA;refine AC (λa=>absurd a (by omega)) (λ_=>?_);refine AC (λa=>absurd a (by omega)) (λ_=>?_);refine AC (λa=>absurd a (by omega)) (λ_=>?_);refine AC (λa=>absurd a (by omega)) (λ_=>?_);refine AC (λa=>absurd a (by simp only[len];omega)) (λ_=>?_);refine AA (P:=λr=> ∃u,r= .inr u) ?_ λr hr=>?_;refine AW (λ(s:Int×Int)=>0<=s.2/\s.2<=x.2.2.1.length/\(s.2=0->s.1=0)/\ ∀f:Au,0<s.2->x.2.2.1[(s.2-1).toNat]? =some f->s.1=f.2.1) (λ(s:Int×Int)=>((x.2.2.1.length:Int)-s.2).toNat) ⟨Ae _,by dsimp only;omega,λ_=>rfl,λf m=>by dsimp only at m;omega⟩ (λs i=>?_);obtain⟨o,F,G,H⟩:=i;unfold Wr;refine AC (λa=>?_) (λ_=>AB ⟨_,rfl⟩);simp only[len]at a;have e:=AY (x:=s.2+1);rw[e];refine AA (AI o a) λl g=>?_;have q1:=a6.1 s.2.toNat l (by omega) g.1;have q2:s.1<l.2.1:=by
  by_cases k:s.2=0;rw[G k];exact q1.1;have j:(s.2-1).toNat<x.2.2.1.length:=by omega
  have n:x.2.2.1[(s.2-1).toNat]? =some x.2.2.1[(s.2-1).toNat]:=Av j
  have:=a6.2 (s.2-1).toNat _ l (by omega) n (by have:(s.2-1).toNat+1=s.2.toNat:=by omega
                                                rw[this];exact g.1)
  rw[H _ (by omega) n];exact this
 refine AC (λa=>absurd a (by omega)) (λ_=>?_);refine AC (λa=>absurd a (by have:=q1.2;omega)) (λ_=>AB ⟨⟨by dsimp only;omega,by dsimp only;omega,λk=>?_,λf m d=>?_⟩,by dsimp only;omega⟩);dsimp only at k;omega;dsimp only at d⊢;have A:(s.2+1-1).toNat=s.2.toNat:=by omega
 rw[A,g.1]at d;injection d with d;rw[d];obtain⟨u,rfl⟩:=hr;exact BA (AB rfl)
def ZO{x:AK×Ad×Int×Int}(h:VB x.1)(c:Do x.2.1)(e:0<=x.2.2.1/\x.2.2.1<x.1.2.1/\0<=x.2.2.2):Aq (PM x) λr=>r=0:=by unfold PM;refine AA (Iz h) λv d=>AO (λa=>?_) (λ_=>?_);rw[d]at a;cases a;refine AA (ML c) λf b=>AO (λa=>?_) (λ_=>?_);rw[b]at a;cases a;refine AC (λa=>absurd a o!) (λ_=>AC (λa=>absurd a o!) (λ_=>AC (λa=>absurd a o!) (λ_=>AB rfl)))
def ai{x p:BT}{c:BT×Int×Int}{k:Nat}(h:CS x p c)(o:x.length<=1099511627776)(q:1<=k)(m:k<=8):Aq (B6 c (k:Int)) λr=>CS x (p++Cy r.1 k) r.2/\(r.2.2.2=0->au k r.1)/\(c.2.2≠0->r=(0,c)):=by obtain⟨s,i,e⟩:=c;obtain⟨j,l⟩:=h;subst j;refine AJ (λd=>AB ⟨⟨rfl,λb=>absurd b d⟩,λb=>absurd b d,λ_=>rfl⟩) (λd=>?_);subst d;obtain⟨a,hr,n⟩:=l rfl;subst hr n;rw[Ac]at o;rw[XO o! o! o!];by_cases g:(k:Int)<=a.length;rw[if_pos g,AD,DG];obtain⟨q1,q2⟩:=qt (t:=a) (k:=k) o! m;refine AB ⟨⟨rfl,λ_=>⟨a.drop k,?_,?_⟩⟩,λ_=>q1,λf=>absurd rfl f⟩;simp_all;dsimp only;rw[AY,Ac,Ax];omega;rw[if_neg g,AD];exact AB ⟨⟨rfl,λb=>absurd (show(5:Int)=0 from b) g!⟩,λb=>absurd (show(5:Int)=0 from b) g!,λf=>absurd rfl f⟩
def ADU{x p:BT}{c:BT×Int×Int}{n:Int}(h:CS x p c)(l:x.length<=1099511627776)(hn:c.2.2=0->0<=n/\n<4294967296):Aq (E5 c n) λr=>CS x (p++r.1) r.2/\(r.2.2.2=0->(r.1.length:Int)=n/\c.2.2=0):=by
 obtain⟨s,f,e⟩:=c;obtain⟨g,i⟩:=h;subst g;unfold E5;by_cases d:e=0;subst d;obtain⟨a,hr,j⟩:=i rfl;obtain⟨o,t⟩:=hn rfl;subst hr j;obtain⟨m,rfl⟩:=EY o;rw[Ac]at l;rw[show wi (((p++a).length:Int)-(p.length:Int))=a.length by rw[Ac,AY];omega];by_cases q:(m:Int)<=a.length;rw[decide_eq_false o!,cond_false,AD,show((0:Int) !=0)=false by decide,cond_false];have k:RD (p++a) (wi (wi ((p.length:Int)+(m:Int))-(m:Int))) (wi ((p.length:Int)+(m:Int)))=some (a.take m):=by rw[AY (x:=(p.length:Int)+(m:Int)),AY];unfold RD;rw[if_pos q!,show((p.length:Int)+(m:Int)-(m:Int)).toNat=p.length by omega,Qt,show((p.length:Int)+(m:Int)).toNat-p.length=m by omega]
 rw[k,AD];refine AB ⟨⟨rfl,λ_=>⟨a.drop m,?_,?_⟩⟩,λ_=>⟨?_,q!⟩⟩;simp_all;dsimp only;rw[AY,Ac,BQ];omega;grind;rw[decide_eq_true o!,cond_true,AD,show((5:Int) !=0)=true by decide,cond_true];exact AB ⟨⟨rfl,λb=>absurd (show(5:Int)=0 from b) g!⟩,λb=>absurd (show(5:Int)=0 from b) g!⟩;rw[beq_false_of_ne d,cond_false,bne_iff_ne.2 d,cond_true];exact AB ⟨⟨rfl,λb=>absurd b d⟩,λb=>absurd b d⟩
def ADS{x p:BT}{c:BT×Int×Int}(h:CS x p c)(j:x.length<=1099511627776):Aq (E4 c ()) λr=>CS x (p++UM r.1) r.2/\(r.2.2.2=0->Fo r.1):=by
 refine AA (ai (k:=1) h j g! g!) λv o=>?_;obtain⟨⟨g,l⟩,s,z⟩:=o;refine AJ (λd=>AB ⟨⟨g,λa=>absurd a d⟩,λa=>absurd a d⟩) (λd=>?_);obtain⟨f,hr,i⟩:=l d;have y:=(s d).1 g!;refine AP (λb=>AB ⟨⟨g,λ_=>⟨f,?_,?_⟩⟩,λ_=>⟨Be _,.inr rfl⟩⟩) (λb=>?_);dsimp only;rw[b]at hr;exact hr;dsimp only;rw[b]at i;exact i;refine AC (λ_=>AB ⟨⟨g,λa=>absurd (show(4:Int)=0 from a) g!⟩,λa=>absurd (show(4:Int)=0 from a) g!⟩) (λn=>AA (ADU (x:=x) (p:=p++Cy v.1 1) ⟨g,l⟩ j (λ_=>o!)) λw q=>AB ?_);obtain⟨⟨t,A⟩,u⟩:=q;refine⟨⟨t,λa=>?_⟩,λa=>?_⟩;dsimp only at a⊢;obtain⟨m,_⟩:=u a;have e:UM (true,w.1)=Cy v.1 1++w.1:=by unfold UM;rw[cond_true,m]
 grind;dsimp only at a⊢;exact⟨q!,.inl rfl⟩
def YX{x p a:BT}{n:Int}{k:Nat}(c:x=p++(Cy n k++a))(f:x.length<=1099511627776)(e:1<=k)(d:k<=8)(hn:au k n):B6 (x,((p.length:Int),0)) (k:Int)=some (n,(x,(((p++Cy n k).length:Int),0))):=by
 have b:=congrArg List.length c;simp only[Ac,Ax]at b;unfold B6;dsimp only;rw[show((0:Int) !=0)=false by decide,cond_false];conv=>lhs;arg 1;rw[c]
 rw[XO q! o! o!,if_pos q!,AD,DG,Fb (Ax _ _),pE d hn];rw[Ac,Ax];rw[AY];rfl
def ADT{x p w a:BT}(c:x=p++(w++a))(e:x.length<=1099511627776):E5 (x,((p.length:Int),0)) (w.length:Int)=some (w,(x,(((p++w).length:Int),0))):=by
 have b:=congrArg List.length c;simp at b;unfold E5;rw[show decide (wi ((x.length:Int)-(p.length:Int))<(w.length:Int))=false from decide_eq_false (by rw[AY];omega),cond_false];rw[AD,show((0:Int) !=0)=false by decide,cond_false];dsimp only;have d:RD x (wi (wi ((p.length:Int)+(w.length:Int))-(w.length:Int))) (wi ((p.length:Int)+(w.length:Int)))=some w:=by rw[AY (x:=(p.length:Int)+(w.length:Int)),AY];unfold RD;rw[if_pos o!,c,show((p.length:Int)+(w.length:Int)-(w.length:Int)).toNat=p.length by omega,Qt,show((p.length:Int)+(w.length:Int)).toNat-p.length=w.length by omega,Xm]
 rw[d,AD,AY,Ac];rfl
def ADR{x p a:BT}{c:Ch}(e:x=p++(UM c++a))(f:x.length<=1099511627776)(j:Fo c):E4 (x,((p.length:Int),0)) ()=some (c,(x,(((p++UM c).length:Int),0))):=by
 obtain⟨b,d⟩:=c;obtain⟨h,i⟩:=j;dsimp only at h i;unfold E4;cases b with
 |false=>
  have k:d=[]:=q!
  subst k;rw[show(1:Int)=((1:Nat):Int)from rfl,YX e f g! g! ⟨λ_=>g!,g!,g!⟩];rfl
 |true=>have g:UM (true,d)=Cy (d.length:Int) 1++d:=rfl;rw[g,A0]at e;rw[g];rw[show(1:Int)=((1:Nat):Int)from rfl,YX e f g! g! ⟨λ_=>q!,o!⟩,AD];rw[show((0:Int) !=0)=false by decide,cond_false,show((d.length:Int)==255)=false by grind,cond_false,decide_eq_false o!,cond_false];rw[ADT (by rw[e,A0]) f,AD,A0]
def AG4{x:BT}(a:x.length<=1099511627776):Aq (JM x) λr=>r.2=0->x=B4 r.1/\Fo r.1.2.2.2.2.2.2.1.2.2.1/\Fo r.1.2.2.2.2.2.2.1.2.2.2/\au 4 (r.1.2.2.2.2.2.2.2.length:Int)/\GQ r.1=some true:=by
 unfold JM;have I:CS x [] (x,(0,0)):=⟨rfl,λ_=>⟨x,rfl,rfl⟩⟩
 refine AA (ai (k:=8) I a g! g!) λO y=>AA (ai (k:=1) y.1 a g! g!) λP z=>AA (ai (k:=4) z.1 a g! g!) λQ A=>AA (ai (k:=8) A.1 a g! g!) λR B=>AA (ai (k:=8) B.1 a g! g!) λS C=>AA (ai (k:=8) C.1 a g! g!) λT D=>AA (ai (k:=4) D.1 a g! g!) λU E=>AA (ai (k:=1) E.1 a g! g!) λV F=>D5 (ADS F.1 a) λq M o=>D5 (ADS o.1 a) λs w p=>AA (ai (k:=4) p.1 a g! g!) λj b=>AA (ADU (n:=j.1) b.1 a (λc=>?_)) λJ f=>?_;have:=(b.2.1 c).1 g!;rw[show(256:Int)^4=4294967296 by decide]at this;exact this;refine AJ (λh=>AB λc=>absurd c h) (λh=>AJ (λ_=>AB n!) (λG=>D5 (Jw) λK i _=>AO (λ_=>AB n!) (λH=>AB λ_=>?_)));subst H;obtain⟨q11,d⟩:=f.2 h;have l:s.2.2.2=0:=Qs λe=>by have:=b.2.2 e;rw[this]at d;exact e d
 have u:=p.2 l;have L:q.2.2.2=0:=Qs λe=>by
  have:s=((false,[]),q.2):=by have:=w;unfold E4 B6 at this;rw[bne_iff_ne.2 e,cond_true,AD,bne_iff_ne.2 e,cond_true]at this;injection this with this;exact this.symm
  rw[this]at l;exact e l
 have t:=o.2 L;obtain⟨g,m,N⟩:=f.1.2 h;have hr:g=[]:=by simp only[len]at G;have v:=congrArg List.length m;rw[Ac]at v;exact EZ o!
 subst hr;refine⟨?_,t,u,?_,i⟩;rw[m];unfold B4;dsimp only;rw[q11];simp only[A0,Bw,C5];dsimp only;rw[q11];exact b.2.1 d
def AG3{e:AE}(h:Ln e):JM (B4 e)=some (e,0):=by
 obtain⟨s,t,H,w,y,z,A,B,C,D,E⟩:=h.cells;have I:=R2 h;have g:au 4 (e.2.2.2.2.2.2.2.length:Int):=⟨λ_=>by rw[show(256:Int)^4=4294967296 by decide];omega,o!⟩
 have a:B4 e=[]++(Cy e.1 8++(Cy e.2.1 1++(Cy e.2.2.1 4++(Cy e.2.2.2.1 8++(Cy e.2.2.2.2.1 8++(Cy e.2.2.2.2.2.1 8++(Cy e.2.2.2.2.2.2.1.1 4++(Cy e.2.2.2.2.2.2.1.2.1 1++
 (UM e.2.2.2.2.2.2.1.2.2.1++(UM e.2.2.2.2.2.2.1.2.2.2++(Cy (e.2.2.2.2.2.2.2.length:Int) 4++(e.2.2.2.2.2.2.2++[])))))))))))):=by rw[C5];rfl
 generalize B4 e=x at*;have i:B6 (x,(((0:Int)),0)) 8=_:=YX (p:=[]) (k:=8) a o! g! g! w;rw[Bw]at i;rw[Bw]at a;have j:=YX (k:=1) a o! g! g! y;rw[<-A0]at a;have l:=YX (k:=4) a o! g! g! z;rw[<-A0]at a;have m:=YX (k:=8) a o! g! g! A;rw[<-A0]at a;have n:=YX (k:=8) a o! g! g! B;rw[<-A0]at a;have o:=YX (k:=8) a o! g! g! C;rw[<-A0]at a;have q:=YX (k:=4) a o! g! g! D;rw[<-A0]at a;have r:=YX (k:=1) a o! g! g! E;rw[<-A0]at a;have F:=ADR a o! s;rw[<-A0]at a;have G:=ADR a o! t;rw[<-A0]at a;have c:=YX (k:=4) a o! g! g! g;rw[<-A0]at a;have d:=ADT a o!;rw[C5]at a;rw[<-a]at d;unfold JM;rw[i,AD];rw[show((1:Nat):Int)=1 from rfl]at j r;rw[show((4:Nat):Int)=4 from rfl]at l q c;rw[show((8:Nat):Int)=8 from rfl]at m n o;rw[j,AD,l,AD,m,AD,n,AD,o,AD,q,AD,r,AD,F,AD,G,AD,c,AD,d,AD];obtain⟨b,u,v⟩:=Jw (x:=e);have f:b=true:=v h;subst f;dsimp only[len];rw[show((0:Int) !=0)=false by decide,cond_false,bne_self_eq_false,cond_false];rw[show(e.1,(e.2.1,(e.2.2.1,(e.2.2.2.1,(e.2.2.2.2.1,(e.2.2.2.2.2.1,((e.2.2.2.2.2.2.1.1,(e.2.2.2.2.2.2.1.2.1,(e.2.2.2.2.2.2.1.2.2.1,e.2.2.2.2.2.2.1.2.2.2))),e.2.2.2.2.2.2.2)))))))=e from rfl,u,AD,Cw,cond_false]
end Go.Pm
