/- Texts of wip, joined and shortened by wip/tools/pack.py; nothing is assumed. -/
import Derived.Test.YtdjfjcnheopcdaaGreatDoorK9
import Derived.KernelRfl
import Derived.Sort.AssemblyPlain
noncomputable section
set_option linter.all false
namespace Go.Pm
open Go Go.Ab
set_option maxHeartbeats 400000
variable {B:Int->Prop}
def RTx(l:List Ai)(id:Int)(t:Ai):Prop:= ∃v,CK (l,id)=some v/\0<=v/\l[v.toNat]? =some t/\t.1=id
def RTx.uniq{l:List Ai}{id:Int}{t u:Ai}(h:RTx l id t)(g:RTx l id u):u=t:=by have⟨v,e,f,i,j⟩:=h;have⟨w,a,b,c,d⟩:=g;grind[Option.some.inj]
def NX(k:AP)(id:Int)(e:AE):Prop:= ∃t lsn,RTx k.2.2.2.2.2.1 id t/\t.2.2.2.2.1[t.2.2.2.2.1.length-1]? =some lsn/\k.2.2.1.2.1[(lsn-k.2.2.1.1).toNat]? =some e
def NX.uniq{k m:AP}{id:Int}{e f:AE}(h:NX k id e)(g:NX m id f)(o:m.2.2.2.2.2.1=k.2.2.2.2.2.1)(c:LX k.2.2.1 m.2.2.1):f=e:=by have⟨t,n,i,j,l⟩:=h;have⟨u,w,a,b,d⟩:=g;rw[o]at a;have:=i.uniq a;subst this;rw[j]at b;cases b;have:=c.get l;rw[c.1]at d;grind[Option.some.inj]
def IT{x:AP×Int}(h:SK B x.1):Ar (E0 x) λr=>r.2=0->VK x.1/\RTx x.1.2.2.2.2.2.1 x.2 r.1/\r.1.2.2.2.2.1.length<=4096/\r.1.1≠0:=by
 unfold E0;refine AA (B6 h.sb) λv i=>AM (λ_=>AB n!) (λf=>?_);have c:=i f;refine D8 (FO h.2.1) λj e d=>AC (λ_=>AB n!) (λg=>AA (AI o! d.2.1) λk _=>AQ (λ_=>AB n!) (λ_=>AA (AI o! d.2.1) λl b=>AB λ_=>⟨c,⟨j,e,o!,b.1,?_⟩,(c.2.2.2.2.2.1.2 _ _ b.1).1,?_⟩))
 grind[Option.some.inj];have:=(c.2.2.2.2.2.1.2 _ _ b.1).2.2;dsimp only;omega
def iC{x:AP×Int}(h:SK B x.1):Ar (HQ x) λr=>r.2=true->VK x.1/\NX x.1 x.2 r.1/\ML r.1:=by
 unfold HQ;refine AA (IT h) λc f=>AK (λ_=>AB λa=>by cases a) (λa=>?_);have⟨k,hr,o,_⟩:=f a;refine AQ (λ_=>AB λa=>by cases a) (λj=>?_);simp only[len]at j;rw[(AX (x:=len c.1.2.2.2.2.1-1) (by simp[len];omega))];refine AA (AI (by simp[len];omega) (by simp[len];omega)) λp _=>AC (λ_=>AB λa=>by cases a) (λ_=>AA (AI (by simp[len];omega) (by simp[len];omega)) λl g=>AA Gt λq i=>AB λa=>?_);have⟨d,m,e,n⟩:=i.1 (by simpa using a);refine⟨k,⟨c.1,l,hr,?_,e⟩,d⟩;have b:=g.1;have:(len c.1.2.2.2.2.1-1).toNat=c.1.2.2.2.2.1.length-1:=i!
 rw[this]at b;exact b
def kj{x:AP×Ai×Cj×Int}(h:x.2.1.2.2.2.2.1.length<=16777216)(c:0<=x.2.2.2/\x.2.2.2<=x.2.1.2.2.2.2.1.length):Ar (PU x) λr=>r.2=true->ML r.1/\r.1.2.2.2.2.2.2.1.1=x.2.2.1.1:=by unfold PU;rw[(AX (x:=x.2.2.2-1))];refine AA (P:=λr=> ∀u,r= .inl u->u.1=true->ML u.2/\u.2.2.2.2.2.2.2.1.1=x.2.2.1.1) ?_ λr hr=>BA (λu a=>AB (hr u a)) (λ_ _=>AB λb=>by cases b);refine AV (λ(s:Int×AE)=> -1<=s.1/\s.1<x.2.1.2.2.2.2.1.length) (λ(s:Int×AE)=>(s.1+1).toNat) d! (λs d=>?_);unfold V6;rw[(AX (x:=s.1-1))];refine AC (λe=>?_) (λ_=>AB λu a=>by cases a);grind[AA,AI,Gt,AQ,AB]
def S1{x:AP×Int×Cj}(h:SK B x.1):Ar (KX x) λr=>r.2=true->VK x.1/\ML r.1/\r.1.2.2.2.2.2.2.1.1=x.2.2.1:=by refine AA (IT h) λf b=>AK (λ_=>AB λa=>by cases a) (λa=>AK (λ_=>AB λa=>by cases a) (λ_=>?_));have⟨d,_,e,_⟩:=b a;exact AA (kj d! ⟨by simp[len],by simp[len]⟩) λg c=>AB λa=>⟨d,c a⟩
def Zf{x:De}:Ar (Jk x) λr=>r=(x.1,(x.2.1,(x.2.2.2,x.2.2.1))):=by grind[Jk,AB]
def VX{x:AP×Ai×AE}(h:SK B x.1)(t:Dg x.1.2.2.1)(u:Pg x.1.2.2.2.1)(A:ML x.2.2)(v:x.2.1.1≠0):Ar (F7 x) λr=>KL B x.1 r.1/\(r.2.1=3->r.2.2.2.1=x.2.2.2.2.2.2.2.2.1.1/\ ¬na x.1.2.2.2.1 x.2.2.2.2.2.2.2.2.1.1/\r.1=x.1)/\(r.2.1≠3->r.2.1≠5->r.2.2.1≠0/\TP r.1.2.2.2.2.2.1<TP x.1.2.2.2.2.2.1)/\(r.2.1=5->r.2.2.2.2.2≠0):=by unfold F7;have F:=KL.refl h t;refine AA Ij λG i=>AM (λl=>AB ⟨F,λ_=>⟨rfl,i.2 l u,rfl⟩,λa=>absurd rfl a,λa=>absurd a (by show(3:Int)≠5;decide)⟩) (λc=>AA Zf λH w=>?_);subst w;refine AA UI λI j=>AK (λl=>?_) (λo=>?_);grind[AA,jr,AB];refine AA (V5 h t A.cell (.inr rfl) u (i.1 c).2.2.1 λg D e=>by have⟨_,_,_,m,f,C,d⟩:=i.1 c;rw[h.ki.same C D (by rw[e,d,m]),d];exact(j.1 o).2) λp q=>AK (λl=>?_) (λa=>?_);grind[AA,jr,AB];have E:=(q.2 a).2.2.1 v (by show(2:Int)≠1;decide);have n:=E.1 (by show(2:Int)≠4;decide);have b:KL B x.1 p.1:=q.1;refine AA (P:=λk=>KL B x.1 k/\k.2.2.2.2.2.1=p.1.2.2.2.2.2.1) ?_ λM s=>AB ⟨s.1,λa=>absurd a (by show(1:Int)≠3;decide),λ_ _=>⟨v,by rw[s.2];exact n⟩,λa=>absurd a (by show(1:Int)≠5;decide)⟩;refine AJ (λ_=>?_) (λ_=>AB ⟨b,rfl⟩);refine AA (S1 b.2.2.1) λJ _=>AA (P:=λk=>KL B x.1 k/\k.2.2.2.2.2.1=p.1.2.2.2.2.2.1) ?_ λL z=>AB z;refine AM (λ_=>?_) (λ_=>AB ⟨b,rfl⟩);exact AA (VQ b.2.2.1.1) λK y=>AB ⟨⟨b.1,b.2.1,b.2.2.1.locks y,b.2.2.2⟩,rfl⟩
def VW{x:AP×Int}(h:SK B x.1)(m:Dg x.1.2.2.1):Ar (JU x) λr=>KL B x.1 r.1/\(r.2.1=3-> ∃e,NX x.1 x.2 e/\r.2.2.2.1=e.2.2.2.2.2.2.1.1/\ ¬na x.1.2.2.2.1 e.2.2.2.2.2.2.1.1)/\(r.2.1≠3->r.2.1≠5->TP r.1.2.2.2.2.2.1<TP x.1.2.2.2.2.2.1)/\(r.2.1=5->r.2.2.2.2.2≠0):=by
 unfold JU;have D:=KL.refl h m;refine AA (IT h) λA q=>AK (λi=>?_) (λd=>?_);grind[AA,jr,AB];have⟨y,hr,n,o⟩:=q d;have f:Ar (Option.bind (HQ x) λk=>
  bif (!k.2)then
   Option.bind (BB 14) λC=>
   some (x.1,C)
  else
  Option.bind (F7 (x.1,(A.1,k.1))) λp=>
  some p) λr=>KL B x.1 r.1/\(r.2.1=3-> ∃e,NX x.1 x.2 e/\r.2.2.2.1=e.2.2.2.2.2.2.1.1/\ ¬na x.1.2.2.2.1 e.2.2.2.2.2.2.1.1)/\(r.2.1≠3->r.2.1≠5->TP r.1.2.2.2.2.2.1<TP x.1.2.2.2.2.2.1)/\(r.2.1=5->r.2.2.2.2.2≠0):=by
  refine AA (iC h) λk u=>AM (λ_=>?_) (λi=>?_);grind[AA,jr,AB];have⟨_,hn,w⟩:=u i;refine AA (VX h m y.2.2.2.1 w o) λp g=>AB ⟨g.1,λd=>?_,λa b=>(g.2.2.1 a b).2,g.2.2.2⟩;have⟨a,b,_⟩:=g.2.1 d;exact⟨_,hn,a,b⟩
 refine AQ (λ_=>?_) (λ_=>f);refine AQ (λ_=>?_) (λ_=>f);refine AA (Fk h.sb) λE s=>AK (λi=>?_) (λd=>?_);grind[AA,jr,AB];have l:=(s d).2.1;have z:=(l.2.2.2.2.2.1.2.2.1 (by have⟨v,_,_,_,j⟩:=hr;rw[<-j];exact o) (by show(5:Int)≠1;decide)).1 (by show(5:Int)≠4;decide);have c:=l.kl h u!;exact AA (Ly c.2.2.1.1) λF t=>AB ⟨⟨c.1,c.2.1,c.2.2.1.locks t,c.2.2.2⟩,λd=>absurd d (by show(1:Int)≠3;decide),λ_ _=>z,λd=>absurd d (by show(1:Int)≠5;decide)⟩
def iB{x:AP×Int×Cj}(h:SK B x.1)(f:Dg x.1.2.2.1):Ar (Mj x) λr=>KL B x.1 r.1/\(r.2.1=3->r.2.2.2.1=x.2.2.1/\ ¬na x.1.2.2.2.1 x.2.2.1/\r.1=x.1)/\(r.2.1≠3->r.2.1≠5->r.2.2.1≠0->TP r.1.2.2.2.2.2.1<TP x.1.2.2.2.2.2.1):=by unfold Mj;have o:=KL.refl h f;refine AA (IT h) λp i=>AK (λ_=>?_) (λc=>?_);grind[AA,Bx,AB];have⟨m,hr,g,n⟩:=i c;refine AK (λ_=>?_) (λ_=>?_);grind[AA,Bx,AB];refine AA (S1 h) λq j=>AM (λ_=>AB ⟨o,λc=>absurd c (by show(1:Int)≠3;decide),λ_ _ c=>absurd rfl c⟩) (λk=>?_);have⟨_,l,e⟩:=j k;refine AA (VX h f m.2.2.2.1 l n) λs d=>AB ⟨d.1,λc=>?_,λa b _=>(d.2.2.1 a b).2⟩;have:=d.2.1 c;dsimp only at this;rw[e]at this;exact this
def R5{x:AS×Int}(h:SK B x.1.1):Ar (EF x) λr=>True:=by unfold EF;refine AA (FO h.2.1) λc a=>AC (λb=>?_) (λ_=>AB trivial);grind[AA,AI,AB]
end Go.Pm
namespace Go.Pm
open Go Go.Ab
set_option maxHeartbeats 400000
variable {B:Int->Prop}
def SR(B:Int->Prop)(x s:AS):Prop:=KL B x.1 s.1/\DJ B s.1.2.2.1 s.2
def SR.trans{a b c:AS}(h:SR B a b)(g:SR B b c):SR B a c:=⟨h.1.trans g.1,g.2⟩
def SvR.sr{a b:AS}(h:SvR B a b):SR B a b:=⟨h.1.kl,h.2⟩
open Classical in
noncomputable def flag(p:Prop):Nat:=if p then 1 else 0
theorem ABW(p:Prop):flag p<=1:=by unfold flag;split<;>omega
def xJ{p:Prop}(h:p):flag p=1:=by unfold flag;rw[if_pos h]
def xI{p:Prop}(h: ¬p):flag p=0:=by grind[flag]
def ZC{x:AS×Int}(h:SK B x.1.1)(C:Dg x.1.1.2.2.1)(A:DJ B x.1.1.2.2.1 x.1.2):Ar (EY x) λr=>r.2=0->SR B x.1 r.1:=by unfold EY;refine AA (B6 h.sb) λv E=>AM (λ_=>AB n!) (λm=>AA (FO h.2.1) λH _=>AC (λ_=>AB n!) (λ_=>AA (P:=λr=>(∀u,r= .inl u->u.1≠0)/\ ∀u,r= .inr u->SR B x.1 u.1) ?_ λr hr=>BA (λu a=>AB λb=>absurd b (hr.1 u a)) (λu a=>AB λ_=>hr.2 u a)));refine AV (λ(s:AS×AS)=>SR B x.1 s.1) (λ(s:AS×AS)=>2*TP s.1.1.2.2.2.2.2.1+flag (∃e,NX s.1.1 x.2 e/\ ¬na s.1.1.2.2.2.1 e.2.2.2.2.2.2.1.1)) ⟨KL.refl h C,A⟩ (λs c=>?_);unfold QZ;have d:=c.1.2.2;refine AA (R5 d.1) λI _=>AJ (λ_=>?_) (λ_=>AB ⟨λu a=>(by cases a),λu a=>(by cases a;exact c)⟩);refine AA (VW d.1 d.2) λJ z=>?_;have⟨k1,D,F,G⟩:=z;apply AQ<;>intro i;grind[AB];refine AA (P:=λr=>(∃u,r= .inl u/\u.1≠0)\/ ∃u,r= .inr u/\SR B s.1 u.1/\2*TP u.1.1.2.2.2.2.2.1+flag (∃e,NX u.1.1 x.2 e/\ ¬na u.1.1.2.2.2.1 e.2.2.2.2.2.2.1.1)<2*TP s.1.1.2.2.2.2.2.1+flag (∃e,NX s.1.1 x.2 e/\ ¬na s.1.1.2.2.2.1 e.2.2.2.2.2.2.1.1)) ?_ λr hr=>?_;apply AQ<;>intro o;have⟨e,k,p,q⟩:=D o;refine AA (HS d.1 c.2) λK i=>AK (λm=>AB (.inl ⟨_,rfl,m⟩)) (λb=>AB (.inr ⟨_,rfl,(i b).1.sr,?_⟩));have⟨l,g⟩:=i b;have n:=l.1.2.2.2.2.1;rw[xJ (⟨e,k,q⟩: ∃e,NX s.1.1 x.2 e/\ ¬na s.1.1.2.2.2.1 e.2.2.2.2.2.2.1.1),xI,n];dsimp only;omega;rintro⟨f,t,y⟩;have:=k.uniq t n l.1.2.1;subst this;dsimp only at g;rw[p]at g;exact y g;refine AB (.inr ⟨_,rfl,⟨k1,c.2.up k1.2.1⟩,?_⟩);grind[ABW,na];rcases hr with⟨u,rfl,a⟩|⟨u,rfl,a⟩;refine BG (AB ⟨λw j=>?_,λw j=>(by cases j)⟩);cases j;exact a;exact A3 (AB ⟨c.trans a.1,a.2⟩)
def kp{x:AS×Int×Cn}(h:SK B x.1.1)(K:Dg x.1.1.2.2.1)(J:DJ B x.1.1.2.2.1 x.1.2):Ar (PX x) λr=>SR B x.1 r.1/\(r.2.1=2->r.1.1.2.2.2.2.2.1=x.1.1.2.2.2.2.2.1):=by
 unfold PX;refine AA (P:=λr=>SR B x.1 r.1/\(r.2.1=2->r.1.1.2.2.2.2.2.1=x.1.1.2.2.2.2.2.1)) ?_ λr hr=>AB hr;refine AV (λ(s:AS×AS×BT)=>SR B x.1 s.1/\s.1.1.2.2.2.2.2.1=x.1.1.2.2.2.2.2.1) (λ(s:AS×AS×BT)=>flag (¬na s.1.1.2.2.2.1 x.2.2.2.1)) ⟨⟨KL.refl h K,J⟩,rfl⟩ (λs l=>?_);obtain⟨l,o⟩:=l;have y:=l.1.2.2;unfold WA;refine AA (kh y.1 y.2) λf E=>?_;obtain⟨k1,L,z⟩:=E;have j:SR B x.1 (f.1,s.1.2):=⟨l.1.trans k1,l.2.up k1.2.1⟩
 have g:=k1.2.2;apply AQ<;>intro q;obtain⟨a,b,c⟩:=L q;have d:=z (.inr q);refine AA (HS g.1 j.2) λT F=>AK (λ_=>?_) (λi=>AB ?_);refine AA Bx λU R=>AB ⟨j,λ_=>?_⟩;dsimp only at*;rw[d,o];obtain⟨t,v⟩:=F i;refine⟨⟨j.trans t.sr,?_⟩,?_⟩;have:=t.1.2.2.2.2.1;dsimp only at*;rw[this,d,o];dsimp only at*;rw[xJ b,xI];omega;intro hn;rw[a]at v;exact hn v;have k: ∀(Q:Step (AS×(AS×BT)) (AS×BT)->Prop),(∀r:AS×BT,SR B x.1 r.1/\(r.2.1=2->r.1.1.2.2.2.2.2.1=x.1.1.2.2.2.2.2.1)->Q (.done r))-> ∀c:Int,c≠2->f.2.1=c->Ar (Option.bind (EF ((f.1,s.1.2),x.2.1)) λA=>
  Option.bind ((
    bif A then
     Option.bind (EY ((f.1,s.1.2),x.2.1)) λn=>
     bif (n.2 !=0)then
      Option.bind (BB n.2) λC=>
      some (.inl ((f.1,s.1.2),C))
     else
     some (.inr (n.1,s.2))
    else
    some (.inr ((f.1,s.1.2),s.2))):(Option ((AS×BT)⊕ (AS×(AS×BT))))) λO=>
  Sum.elim (λM=>some (Step.done M))
  (λN=>some (.done (N.1,f.2))) O) Q:=by
  intro Q w c S I;refine AA (R5 g.1) λA _=>AA (P:=λr=>(∃u,r= .inl u/\SR B x.1 u.1/\u.2.1=5)\/ ∃u,r= .inr u/\SR B x.1 u.1) ?_ λr hr=>?_;refine AJ (λ_=>?_) (λ_=>AB (.inr ⟨_,rfl,j⟩));refine AA (ZC g.1 g.2 j.2) λn G=>AK (λ_=>?_) (λi=>AB (.inr ⟨_,rfl,j.trans (G i)⟩));exact AA Bx λC H=>AB (.inl ⟨_,rfl,j,H⟩);rcases hr with⟨u,rfl,m⟩|⟨u,rfl,m⟩;exact BG (AB (w _ ⟨m.1,λi=>by have:=m.2;omega⟩));exact A3 (AB (w _ ⟨m,λi=>by dsimp only at i;omega⟩))
 have e:SR B x.1 (f.1,s.1.2)/\(f.2.1=2->f.1.2.2.2.2.2.1=x.1.1.2.2.2.2.2.1):=⟨j,λi=>by rw[z (.inl i),o]⟩
 refine AQ (λD=>k _ (λr hr=>hr) 4 g! D) (λ_=>AQ (λp=>?_) (λ_=>AB e));refine AQ (λ_=>k _ (λr hr=>hr) 1 g! p) (λ_=>AQ (λ_=>k _ (λr hr=>hr) 1 g! p) (λ_=>AB e))
def eC{x:AP}(h:SK B x)(d:Dg x.2.2.1):Ar (LW x) λr=>r.2.2=0->KL B x r.1:=by unfold LW;refine AA (B6 h.sb) λv e=>AM (λ_=>AB n!) (λb=>AC (λ_=>AB n!) (λ_=>AA UO λf c=>AK (λb=>AB λa=>absurd a b) (λa=>AB λ_=>⟨rfl,LX.refl _,⟨h.1,?_,h.2.2⟩,d⟩)));have:=(c a).2;dsimp only;omega
def eL{x:AS}(h:SK B x.1)(e:Dg x.1.2.2.1)(d:DJ B x.1.2.2.1 x.2):Ar (Ld x) λr=>r.2.2=0->SR B x r.1:=by unfold Ld;refine AA (eC h e) λf b=>AK (λc=>AB λa=>absurd a c) (λa=>AB λ_=>⟨b a,d.up (b a).2.1⟩)
def eD{x:AP×Int}(h:SK B x.1)(n:Dg x.1.2.2.1):Ar (LY x) λr=>r.2.2=0->KL B x.1 r.1/\Pg x.1.2.2.2.1/\na x.1.2.2.2.1 x.2/\(∃f∈r.1.2.2.2.1.2.1,f.1=r.2.1)/\r.2.1.2.1<=r.1.2.2.1.2.2:=by
 unfold LY;refine AA (B6 h.sb) λv q=>AM (λ_=>AB n!) (λp=>AA Ij λs o=>AM (λ_=>AB n!) (λj=>?_));have⟨a,b,c,d,e⟩:=o.1 j;refine AA (Jo h n) λt i=>AB λ_=>⟨i.1.kl,a,c,by dsimp only;rw[i.2.1];exact e,i.2.2 ?_⟩
 have⟨f,m,k⟩:=e;have g:=h.ki.2.2 f m;have:=congrArg (λz=>z.2.1) ((h.ki.2.1 f.1.1 g.1 g.2.1).1 f m rfl);have:=lq n f.1.1;rw[ME,k]at*;dsimp only;omega
def eN{x:AS×Int}(h:SK B x.1.1)(j:Dg x.1.1.2.2.1)(i:DJ B x.1.1.2.2.1 x.1.2):Ar (Lf x) λr=>r.2=0->SR B x.1 r.1:=by unfold Lf;refine AA (eD h j) λn l=>AK (λm=>AB λe=>absurd e m) (λe=>?_);have⟨a,b,c,d,k⟩:=l e;refine AA FN λo f=>AA (AI (f.2.2.2 b c) f.2.1) λp _=>AM (λ_=>AB λ_=>⟨KL.refl h j,i⟩) (λ_=>AA (UU a.2.2.1 a.2.2.2 (i.up a.2.1) d k) λq g=>AB λe=>⟨a.trans (g e).1.kl,(g e).2.1⟩)
end Go.Pm
namespace Go.Pm
open Go Go.Ab
set_option maxHeartbeats 400000
def VDs(l:List Ag)(p:Int):Prop:= ∀(i:Nat) (d:Ag),l[i]? =some d->((i:Int)<=d.1/\d.1<p/\1<=d.2.1/\d.2.1<=d.2.2/\d.2.2<=1099511627776)/\ ∀f,0<i->l[i-1]? =some f->f.1<d.1
def VIs(x:BV):Prop:=1<=x.length/\x.length<=64/\ ∀r∈x,(0<=r.1/\r.1<=1099511627776)/\(0<=r.2.1/\r.2.1<=1099511627776)/\0<=r.2.2/\r.2.2<=1099511627776
def VDs.len{l:List Ag}{p:Int}(h:VDs l p)(b:p<=64):l.length<=64:=by refine RX λa=>?_;have:=(h (l.length-1) _ (A4 o!)).1;omega
def AJx{l:List Ag}{p:Int}(A:l.length<=16777216):Ar (Ez (l,p)) λr=>r=true->VDs l p:=by
 refine AA (P:=λr=>r= .inl false\/(r= .inr ()/\VDs l p)) ?_ λr hr=>?_
 ·refine Cf (λ(s:Int)=>0<=s/\s<=l.length/\ ∀(i:Nat) (d:Ag),(i:Int)<s->l[i]? =some d->((i:Int)<=d.1/\d.1<p/\1<=d.2.1/\d.2.1<=d.2.2/\d.2.2<=1099511627776)/\ ∀f,0<i->l[i-1]? =some f->f.1<d.1) (λs=>((l.length:Int)-s).toNat) ⟨Ad _,o!,λi d y=>o!⟩ (λs w=>?_);have⟨t,B,m⟩:=w;unfold Gk;dsimp[len];refine AC (λn=>?_) (λn=>Ar.done (.inr ⟨rfl,λi d a=>m i d (by have:=DQ a;omega) a⟩));obtain⟨k,rfl⟩:=FF t;refine AA (AI t n) λv g=>?_;have g:=g.1;rw[Ct]at g;refine AC (λ_=>Ar.done (.inl rfl)) (λq1=>AC (λ_=>Ar.done (.inl rfl)) (λq2=>AC (λ_=>Ar.done (.inl rfl)) (λq3=>AC (λ_=>Ar.done (.inl rfl)) (λq4=>AC (λ_=>Ar.done (.inl rfl)) (λq5=>?_)))));rw[AX (x:=(k:Int)+1)];have b:((k:Int)<=v.1/\ ∀f,0<k->l[k-1]? =some f->f.1<v.1)-> ∀(i:Nat) (d:Ag),(i:Int)<(k:Int)+1->l[i]? =some d->((i:Int)<=d.1/\d.1<p/\1<=d.2.1/\d.2.1<=d.2.2/\d.2.2<=1099511627776)/\ ∀f,0<i->l[i-1]? =some f->f.1<d.1:=λq i d y a=>by by_cases h:i=k;subst h;rw[g]at a;cases a;exact⟨⟨q.1,o!⟩,q.2⟩;exact m i d o! a
  refine AC (λe=>?_) (λe=>Ar.next ⟨o!,o!,b ⟨o!,λf u=>absurd u o!⟩⟩ o!);rw[AX (x:=(k:Int)-1)];refine AA (AI) λz c=>?_;have c:=c.1;rw[show((k:Int)-1).toNat=k-1 by omega]at c;refine AC (λ_=>Ar.done (.inl rfl)) (λq6=>?_);have j:=(m (k-1) z o! c).1.1;refine Ar.next ⟨o!,o!,b ⟨o!,λf _ o=>?_⟩⟩ o!
  rw[c]at o;cases o;omega
 grind[BG,AB,A3]
def AD6{x:Int}:Ar (Ge x) λr=>r=true->0<=x/\x<=1099511627776:=by refine AC (λh=>AB λa=>⟨o!,of_decide_eq_true a⟩) (λ_=>AB λa=>by cases a)
def AHw{x:BV}:Ar (Dp x) λr=>r=true->VIs x:=by
 refine AC (λ_=>AB λa=>by cases a) (λd=>AC (λ_=>AB λa=>by cases a) (λe=>?_));simp[len]at d e;refine AA (P:=λr=>r= .inl false\/(r= .inr ()/\VIs x)) ?_ λr hr=>?_
 ·refine Cf (λ(s:Int)=>0<=s/\s<=x.length/\ ∀r∈x.take s.toNat,(0<=r.1/\r.1<=1099511627776)/\(0<=r.2.1/\r.2.1<=1099511627776)/\0<=r.2.2/\r.2.2<=1099511627776) (λs=>((x.length:Int)-s).toNat) ⟨Ad _,o!,λr hr=>by simp at hr⟩ (λs g=>?_);have⟨i,p,c⟩:=g;unfold JF;dsimp[len];refine AC (λb=>?_) (λb=>Ar.done (.inr ⟨rfl,o!,o!,by rw[BK o!]at c;exact c⟩));refine AA (AI i b) λv h=>AA AD6 λj m=>AM (λ_=>Ar.done (.inl rfl)) (λq=>AA AD6 λk n=>AM (λ_=>Ar.done (.inl rfl)) (λt=>AA AD6 λl o=>AM (λ_=>Ar.done (.inl rfl)) (λu=>?_)));rw[AX (x:=s+1)];have f: ∀r∈x.take (s+1).toNat,(0<=r.1/\r.1<=1099511627776)/\(0<=r.2.1/\r.2.1<=1099511627776)/\0<=r.2.2/\r.2.2<=1099511627776:=λr hr=>by rw[show(s+1).toNat=s.toNat+1 by omega,Ce,h.1]at hr;grind
  grind[AQ,Ar.next,AK,Ar.done]
 grind[BG,AB,A3]
def VCk(c:CI):Prop:=1<=c.1/\c.1<=64/\1<=c.2.1/\c.2.1<=1073741825/\VDs c.2.2.2.1 c.1/\VIs c.2.2.2.2/\c.2.2.2.2.length=c.1
def AJG{c:CI}(d:c.2.2.2.1.length<=16777216):Ar (Gv c) λr=>r=true->VCk c:=by refine AC (λ_=>AB λa=>by cases a) (λf=>AC (λ_=>AB λa=>by cases a) (λg=>AC (λ_=>AB λa=>by cases a) (λh=>AC (λ_=>AB λa=>by cases a) (λi=>AA Dl λo b=>AM (λ_=>AB λa=>by cases a) (λe=>AA (AJx d) λp j=>AM (λ_=>AB λa=>by cases a) (λl=>AA AHw λq k=>AM (λ_=>AB λa=>by cases a) (λm=>AK (λ_=>AB λa=>by cases a) (λn=>AA (RI ⟨Ad _,o!,by have:=(b e).1;omega⟩) λr hr=>?_))))))));grind[VCk,BA,AB]
def dB(d:Ag):BW:=C5 d.1 1++(C5 d.2.1 8++C5 d.2.2 8)
def rB(r:BX):BW:=C5 r.1 8++(C5 r.2.1 8++C5 r.2.2 8)
def ve(l:List Ag):BW:=(l.map dB).flatten
def rW(l:List BX):BW:=(l.map rB).flatten
def AHH(d:Ag):(dB d).length=17:=rfl
def AHl(r:BX):(rB r).length=24:=rfl
def ADf(l:List Ag)(d:Ag):ve (l++[d])=ve l++dB d:=by grind[ve,List.flatten_append]
def AEd(l:List BX)(d:BX):rW (l++[d])=rW l++rB d:=by grind[rW,List.flatten_append]
def yb(l:List Ag)(d:Ag):ve (d::l)=dB d++ve l:=rfl
theorem zU(l:List BX)(d:BX):rW (d::l)=rB d++rW l:=rfl
theorem lk: ∀l:List Ag,(ve l).length=17*l.length
 |[]=>rfl
 |d::l=>by rw[yb,Aa,AHH,lk l,Cu];omega
theorem sP: ∀l:List BX,(rW l).length=24*l.length
 |[]=>rfl
 |d::l=>by rw[zU,Aa,AHl,sP l,Cu];omega
def i8r{n:Int}(a:0<=n)(b:n<=1099511627776):ej 8 n:=⟨n!,o!⟩
def i1r{n:Int}(a:0<=n)(b:n<256):ej 1 n:=⟨λ_=>q!,o!⟩
def i2r{n:Int}(a:0<=n)(b:n<65536):ej 2 n:=⟨λ_=>q!,o!⟩
def i4r{n:Int}(a:0<=n)(b:n<4294967296):ej 4 n:=⟨λ_=>q!,o!⟩
def AFW{x:BV}(h:VIs x):Ar (Hy x) λr=>r.1=C5 (x.length:Int) 2++rW x\/r.1=[]:=by
 have⟨c,d,e⟩:=h;refine AA AHw λi b=>AM (λ_=>AB (.inr rfl)) (λ_=>?_);rw[HZ k! g! g!,AD,Cp];refine AA (P:=λr=>r=C5 (x.length:Int) 2++rW x) (Cf (λ(s:BW×Int)=> ∃k:Nat,k<=x.length/\s=(C5 (x.length:Int) 2++rW (x.take k),(k:Int))) (λs=>x.length-s.2.toNat) ⟨0,Bi _,by simp[rW]⟩ ?_) λr hr=>AB (.inl hr);rintro s ⟨k,f,rfl⟩;unfold IR;dsimp[len];refine AC (λa=>?_) (λa=>Ar.done q!);have g:(C5 (x.length:Int) 2++rW (x.take k)).length<=2000:=by grind[List.length_append,Aw,sP,List.length_take]
 rw[(by unfold ix;rw[if_pos o!,Int.toNat_natCast,List.getElem?_eq_getElem o!]:ix x (k:Int)=some x[k]),Option.bind_some,HZ o! g! g!,Option.bind_some,Option.bind_some,HZ (by rw[List.length_append,Aw];simp only[Int.reduceToNat];omega) g! g!,Option.bind_some,Option.bind_some,HZ (by rw[List.length_append,List.length_append,Aw,Aw];simp only[Int.reduceToNat];omega) g! g!,Option.bind_some,AX];refine Ar.next ⟨k+1,o!,?_⟩ o!
 rw[(by simp_all:x.take (k+1)=x.take k++[x[k]]),AEd];simp only[A6];exact DT rfl o!
def AFR{x:BV}(h:VIs x):Ar (ES (C5 (x.length:Int) 2++rW x)) λr=>r.2=0->r.1=x:=by
 have⟨t,u,i⟩:=h;have y:(C5 (x.length:Int) 2++rW x).length=2+24*x.length:=by rw[Aa,Aw,sP]
 unfold ES;have d:=(ku (x:=C5 (x.length:Int) 2++rW x) (p:=[]) (rest:=rW x) (at_:=0) (k:=2) (n:=(x.length:Int)) rfl rfl o! g! g! (i2r o! o!)).1;rw[show(((2:Nat)):Int)=2 from rfl]at d;rw[d,AD];have m:wi (len (C5 (x.length:Int) 2++rW x)-2)=24*(x.length:Int):=by grind[AX]
 have o:wi (24*((x.length:Int),(0:Int)).1)=24*(x.length:Int):=AX q!;rw[show((((x.length:Int),(0:Int)):Int×Int).2 !=0)=false from rfl,cond_false,decide_eq_false o!,cond_false,decide_eq_false o!,cond_false];refine AA (P:=λr=>r=x) ?_ λr hr=>?_
 ·refine Cf (λ(s:Int×List BX)=> ∃k:Nat,k<=x.length/\s=((k:Int),x.take k)) (λs=>x.length-s.1.toNat) ⟨0,Bi _,rfl⟩ ?_;rintro s ⟨k,w,rfl⟩;unfold IQ;dsimp only;refine AC (λl=>?_) (λl=>Ar.done (by rw[BK o!]));have b:k<x.length:=o!
  have a:(rW (x.take k)).length=24*k:=by grind[sP,List.length_take]
  have c:C5 (x.length:Int) 2++rW x=(C5 (x.length:Int) 2++rW (x.take k))++(C5 x[k].1 8++(C5 x[k].2.1 8++(C5 x[k].2.2 8++rW (x.drop (k+1))))):=by rw[(by grind[zU,List.drop_eq_getElem_cons,rW,List.flatten_append,List.take_append_drop]:rW x=rW (x.take k)++(rB x[k]++rW (x.drop (k+1))))];unfold rB;simp[A6]
  have⟨q1,q2,q3⟩:=i x[k] (Rc b);have e:=(ku (at_:=2+24*(k:Int)) (k:=8) c (by rw[Aa,Aw,a];omega) o! g! g! (i8r q1.1 q1.2)).1;rw[<-A6]at c;have f:=(ku (at_:=10+24*(k:Int)) (k:=8) c (by simp[Aa,Aw,a];omega) o! g! g! (i8r q2.1 q2.2)).1;rw[<-A6]at c;have g:=(ku (at_:=18+24*(k:Int)) (k:=8) c (by simp[Aa,Aw,a];omega) o! g! g! (i8r q3.1 q3.2)).1;rw[show(((8:Nat)):Int)=8 from rfl]at e f g;rw[AX (x:=24*(k:Int)),AX (x:=2+24*(k:Int)),AX (x:=10+24*(k:Int)),AX (x:=18+24*(k:Int)),e,AD,f,AD,g,AD,AX (x:=(k:Int)+1)];refine AA (Ac (by rw[BM];simp;omega)) λz j=>Ar.next ⟨k+1,b,?_⟩ d!
  rw[j.1,(by simp_all:x.take (k+1)=x.take k++[x[k]])];exact DT d! rfl
 subst hr;exact AA AHw λA v=>AM (λ_=>AB λq=>absurd (show(28:Int)=0 from q) g!) (λ_=>AB λ_=>rfl)
def AFX{c:CI}(j:c.2.2.2.1.length<=16777216):Ar (GR c) λr=>r.1.length<=8192->r.1=[]\/(VCk c/\ ∃txs f:BW,r.1=C5 c.1 2++(C5 c.2.1 4++(C5 (txs.length:Int) 4++(txs++(C5 (c.2.2.2.1.length:Int) 1++(ve c.2.2.2.1++f)))))/\(f=C5 (c.2.2.2.2.length:Int) 2++rW c.2.2.2.2\/f=[])):=by
 unfold GR;refine AA (AJG j) λA m=>AM (λ_=>AB λ_=>.inl rfl) (λd=>?_);have l:=m d;have⟨a1,a2,a3,a4,a5,a6,a7⟩:=id l;have q:=a5.len a2;refine AA Sy λw y=>?_;rw[HZ k! g! g!,AD,Cp,HZ (by rw[Aw];decide) g! g!,AD,HZ (by simp only[Aa,Aw];decide) g! g!,AD];refine AA (Cm (by simp[Aa,Aw,Int.reduceToNat];omega)) λi p=>?_;have v:=p.2;simp[Aa,Aw,Int.reduceToNat]at v;dsimp[len];rw[HZ o! g! g!,AD];refine AA (P:=λr=>r=i++(C5 (c.2.2.2.1.length:Int) 1++ve c.2.2.2.1)) ?_ λg n=>?_
 ·refine Cf (λ(s:BW×Int)=> ∃k:Nat,k<=c.2.2.2.1.length/\s=(i++(C5 (c.2.2.2.1.length:Int) 1++ve (c.2.2.2.1.take k)),(k:Int))) (λs=>c.2.2.2.1.length-s.2.toNat) ⟨0,Bi _,by simp[ve]⟩ ?_;rintro s ⟨k,z,rfl⟩;unfold IU;dsimp[len];refine AC (λd=>?_) (λd=>Ar.done q!);have a:k<c.2.2.2.1.length:=o!
  have t:ix c.2.2.2.1 (k:Int)=some c.2.2.2.1[k]:=by unfold ix;rw[if_pos o!,Int.toNat_natCast,List.getElem?_eq_getElem a]
  have j:(i++(C5 (c.2.2.2.1.length:Int) 1++ve (c.2.2.2.1.take k))).length<=100000000:=by grind[List.length_append,Aw,lk,List.length_take]
  rw[t,AD,HZ o! g! g!,AD,AD,HZ (by rw[Aa,Aw];simp only[Int.reduceToNat];omega) g! g!,AD,AD,HZ (by rw[Aa,Aa,Aw,Aw];simp only[Int.reduceToNat];omega) g! g!,AD,AX];refine Ar.next ⟨k+1,a,?_⟩ q!
  have e:c.2.2.2.1.take (k+1)=c.2.2.2.1.take k++[c.2.2.2.1[k]]:=t!
  rw[e,ADf];unfold dB;grind[List.append_assoc,Prod.ext]
 refine AA (Sw.and (AFW a6)) λh b=>?_;have u:g.length<=100000000:=by grind[List.length_append,Aw,lk]
 refine AA (Cm o!) λx o=>AB λ_=>.inr ⟨l,w.1,h.1,?_,b.2⟩;grind[List.append_assoc]
def AFS{c:CI}(O:VCk c){txs j s:BW}(I:s=C5 c.1 2++(C5 c.2.1 4++(C5 (txs.length:Int) 4++(txs++(C5 (c.2.2.2.1.length:Int) 1++(ve c.2.2.2.1++j))))))(W:s.length≤8192)(u:j=C5 (c.2.2.2.2.length:Int) 2++rW c.2.2.2.2∨j=[]):
  Ar (C3 s) λr=>r.2=0->r.1.1=c.1/\r.1.2.2.2.1=c.2.2.2.1/\r.1.2.2.2.2=c.2.2.2.2:=by
 obtain⟨a1,a2,a3,a4,a5,a6,a7⟩:=id O;have N:=a5.len a2;have b:=I;have w:=congrArg List.length I;simp only[Aa,Aw,lk]at w;have E:=(ku (x:=s) (p:=[]) (at_:=0) (k:=2) (n:=c.1) (show s=[]++(C5 c.1 2++_)from b) rfl o! g! g! (i2r o! o!)).1;have F:=(ku (at_:=2) (k:=4) (n:=c.2.1) b (by rw[Aw];rfl) o! g! g! (i4r o! o!)).1;rw[<-A6]at b;have G:=(ku (at_:=6) (k:=4) (n:=(txs.length:Int)) b (by rw[Aa,Aw,Aw];rfl) o! g! g! (i4r o! o!)).1;rw[<-A6,<-A6]at b;have H:=(ku (at_:=10+(txs.length:Int)) (k:=1) (n:=(c.2.2.2.1.length:Int)) b (by simp only[Aa,Aw];omega) o! g! g! (i1r o! o!)).1;rw[<-A6]at b;rw[show(((2:Nat)):Int)=2 from rfl]at E;rw[show(((4:Nat)):Int)=4 from rfl]at F G;rw[show(((1:Nat)):Int)=1 from rfl]at H;have v:((((C5 c.1 2++C5 c.2.1 4)++C5 (txs.length:Int) 4)++txs)++C5 (c.2.2.2.1.length:Int) 1).length=11+txs.length:=by simp only[Aa,Aw];omega
 generalize U:(((C5 c.1 2++C5 c.2.1 4)++C5 (txs.length:Int) 4)++txs)++C5 (c.2.2.2.1.length:Int) 1=P at b v;unfold C3;rw[E,AD,F,AD,G,AD];dsimp only[len];rw[show((0:Int) !=0)=false by decide,cond_false,AX (x:=(s.length:Int)-10),decide_eq_false o!,cond_false,AX (x:=10+(txs.length:Int))];refine AA (Co g!) λX K=>?_;rw[H,AD];dsimp only;rw[show((0:Int) !=0)=false by decide,cond_false,AX (x:=(s.length:Int)-(10+(txs.length:Int))),AX (x:=(s.length:Int)-(10+(txs.length:Int))-1),AX (x:=17*(c.2.2.2.1.length:Int)),decide_eq_false o!,cond_false,AX (x:=10+(txs.length:Int)+1)];refine AA (P:=λr=>r=((P.length:Int)+17*c.2.2.2.1.length,(c.2.2.2.1,(c.1,(c.2.1,([],[])))))) ?_ λQ l=>?_
 ·refine Cf (λ(q:Int×Int×List Ag×Int×Int×List Ai×BV)=> ∃k:Nat,k<=c.2.2.2.1.length/\q=((P.length:Int)+17*k,((k:Int),(c.2.2.2.1.take k,(c.1,(c.2.1,([],[]))))))) (λq=>c.2.2.2.1.length-q.2.1.toNat) ⟨0,Bi _,?_⟩ ?_;refine DT ?_ rfl;dsimp only;omega;rintro q ⟨k,V,rfl⟩;unfold L9;dsimp only;refine AC (λM=>?_) (λM=>Ar.done (by rw[BK o!,show k=c.2.2.2.1.length by omega]));have d:k<c.2.2.2.1.length:=o!
  have y:ve c.2.2.2.1=ve (c.2.2.2.1.take k)++(dB c.2.2.2.1[k]++ve (c.2.2.2.1.drop (k+1))):=by rw[<-yb,<-RY d];unfold ve;rw[<-List.flatten_append,<-M5,Da]
  have e:(ve (c.2.2.2.1.take k)).length=17*k:=by rw[lk,BM];omega
  have h:s=(P++ve (c.2.2.2.1.take k))++(C5 c.2.2.2.1[k].1 1++(C5 c.2.2.2.1[k].2.1 8++(C5 c.2.2.2.1[k].2.2 8++(ve (c.2.2.2.1.drop (k+1))++j)))):=by rw[b,y];unfold dB;simp only[A6]
  obtain⟨q1,q2,q3,q4,q5⟩:=(a5 k _ (A4 d)).1;have B:=(ku (at_:=(P.length:Int)+17*k) (k:=1) h (by rw[Aa,e];omega) o! g! g! (i1r o! o!)).1;rw[<-A6]at h;have C:=(ku (at_:=(P.length:Int)+17*k+1) (k:=8) h (by simp only[Aa,Aw,e];omega) o! g! g! (i8r o! o!)).1;rw[<-A6]at h;have D:=(ku (at_:=(P.length:Int)+17*k+9) (k:=8) h (by simp only[Aa,Aw,e];omega) o! g! g! (i8r o! o!)).1;rw[show(((1:Nat)):Int)=1 from rfl]at B;rw[show(((8:Nat)):Int)=8 from rfl]at C D;rw[B,AD,AX (x:=(P.length:Int)+17*k+1),C,AD,AX (x:=(P.length:Int)+17*k+9),D,AD,AX (x:=(P.length:Int)+17*k+17),AX (x:=(k:Int)+1)];refine AA (Ac (by rw[BM];simp;omega)) λY L=>Ar.next ⟨k+1,d,?_⟩ d!
  have A:c.2.2.2.1.take (k+1)=c.2.2.2.1.take k++[c.2.2.2.1[k]]:=by rw[Ce,A4 d];rfl
  rw[L.1,A];refine DT ?_ (DT ?_ rfl);dsimp only;omega;dsimp only;omega
 subst l;refine AA (Sx (by rw[K.1,BM,FY];omega)) λR _=>AK (λf=>AB λg=>absurd g f) (λ_=>?_);dsimp only;have z:Up s ((P.length:Int)+17*(c.2.2.2.1.length:Int)) (s.length:Int)=some j:=by
  unfold Up;rw[if_pos o!,b,<-A6];have o:(P++ve c.2.2.2.1).length=((P.length:Int)+17*(c.2.2.2.1.length:Int)).toNat:=by rw[Aa,lk];omega
  rw[<-o,RZ,BK (by rw[Aa];omega)]
 rw[z,AD];rcases u with rfl|rfl;refine AA ((Sv o!).and (AFR a6)) λS m=>AK (λf=>AB λg=>absurd g f) (λi=>AA (OU d!) λT _=>AM (λ_=>AB λg=>absurd (show(24:Int)=0 from g) g!) (λ_=>AB λ_=>⟨rfl,rfl,m.2 i⟩));have J:ES []=some ([],5):=by unfold ES;have:=js (a:=[]) (t:=[]) (k:=2) g! g! g!;rw[D4,if_neg g!]at this;rw[show((([]:BW).length:Nat):Int)=0 from rfl]at this;rw[this];rfl
 rw[J,AD];exact AB λg=>absurd (show(5:Int)=0 from g) g!
variable {B:Int->Prop}
def dx{x:BY}:Ar (LO x) λr=>r.length<=64/\(∀d∈r,∃f∈x.2.1,f.1.1=d.1/\d.2.2=f.1.2.1)/\(Pg x-> ∀f∈x.2.1,f.2.1=true->0<=f.1.1->f.1.1<64-> ∃d∈r,d.1=f.1.1):=by
 unfold LO;refine AA EE λv B=>AM (λm=>AB ⟨k!,k!,λo=>absurd (B.2 o) (by simp[m])⟩) (λm=>?_);have o:=B.1 m;have R:=o.2.1;have S:=o.2.2.1;refine AA (P:=λr=>r.length<=64/\(∀d∈r,∃f∈x.2.1,f.1.1=d.1/\d.2.2=f.1.2.1)/\ ∀f∈x.2.1,f.2.1=true->0<=f.1.1->f.1.1<64-> ∃d∈r,d.1=f.1.1) ?_ λr hr=>AB ⟨hr.1,hr.2.1,λ_=>hr.2.2⟩;refine Cf (λ(s:Int×List Ag)=>0<=s.1/\s.1<=64/\s.2.length<=s.1/\(∀d∈s.2,∃f∈x.2.1,f.1.1=d.1/\d.2.2=f.1.2.1)/\ ∀f∈x.2.1,f.2.1=true->0<=f.1.1->f.1.1<s.1-> ∃d∈s.2,d.1=f.1.1) (λ(s:Int×List Ag)=>(64-s.1).toNat) ⟨Ad _,u!,k!,k!,λf _ _ i k=>absurd k d!⟩ (λs I=>?_);have⟨k,O,Q,p,q⟩:=I;unfold Su;rw[(AX (x:=s.1+1))];refine AC (λm=>?_) (λm=>Ar.done ⟨o!,p,λf h c i k=>q f h c i o!⟩);refine AA (GP d!) λL b=>AC (λa=>?_) (λa=>Ar.next ⟨d!,d!,d!,p,λf h c i k=>?_⟩ d!)
 ·have⟨g,A,t⟩:=b.2.2.1 a;have D: ∀w,x.2.1[L.toNat]? =some w->w=g:=λw C=>by rw[A]at C;exact(Ba C).symm
  refine AA (AI a b.2.1) λM y=>?_;have E:=D M y.1;subst E;refine AA (P:=λl=>l.length<=s.2.length+1/\(∀d∈l,∃f∈x.2.1,f.1.1=d.1/\d.2.2=f.1.2.1)/\ ∀f∈x.2.1,f.2.1=true->0<=f.1.1->f.1.1<s.1+1-> ∃d∈l,d.1=f.1.1) ?_ λV H=>Ar.next ⟨d!,d!,d!,H.2⟩ d!
  refine AJ (λn=>?_) (λn=>AB ⟨o!,p,λf h c i k=>?_⟩);refine AA (AI a b.2.1) λT _=>AA (AI a b.2.1) λN z=>?_;have F:=D N z.1;subst F;refine AA (Ac w!) λU G=>AB ⟨?_,λd c=>?_,λf h c i k=>?_⟩;grind;grind;rw[G.1];by_cases e:f.1.1<s.1;have⟨d,J,K⟩:=q f h c i e;grind[List.mem_append_left];exact⟨_,M7 _ (BI.2 rfl),d!⟩;by_cases e:f.1.1<s.1;exact q f h c i e;have⟨j,u⟩:=Di h;have:=o.uniq u A (by dsimp only at t;omega);subst this;rw[n]at c;cases c
 by_cases e:f.1.1<s.1;grind;have⟨j,u⟩:=Di h;exact absurd ⟨j,f,u,by dsimp only at k⊢;omega⟩ (b.2.2.2 o!)
def km{x:AP}(h:SK B x):Ar (PW x) λr=>r.2=0->r.1.2.2.2.1.length<=16777216/\r.1.1=x.1/\xz x.1 x.2.2.1.2.1 r.1.2.2.2.1 r.1.2.2.2.2:=by
 unfold PW;refine AA (B6 h.sb) λv hv=>AM (λ_=>AB n!) (λo=>?_);have J:=hv o;have ad:=J.2.1;have⟨ag,n,H⟩:=h.ki;refine AA (P:=λr=>r.1.length<=16777216/\r.2=(x.1,(x.2.1,(x.2.2.2.2.2.1,x.2.2.2.2.2.2.1)))/\(∀d∈r.1,d.2.2=Bg x.2.2.1.2.1 d.1)/\ ∀p,0<=p->p<x.1->(∀d∈r.1,d.1≠p)->(∀d∈x.2.2.2.2.2.2.2,d.1≠p)/\ ∀f∈x.2.2.2.1.2.1,f.1.1=p->f.2.1=false) ?_ λr hr=>AB λ_=>⟨hr.1,by rw[hr.2.1],λp g i=>⟨λd a e=>by rw[hr.2.2.1 d a,e],λw D=>?_⟩⟩
 rotate_left 1;dsimp only at D;rw[hr.2.1]at D;have⟨_,_,c⟩:=n p g i;exact⟨(c w D).1,λa=>(c w D).2 (hr.2.2.2 p g i a).1 (hr.2.2.2 p g i a).2⟩;refine Cf (λ(s:Int×(List Ag)×Int×Int×(List Ai)×BV)=>0<=s.1/\s.1<=x.1/\s.2.1.length<=65*s.1/\s.2.2=(x.1,(x.2.1,(x.2.2.2.2.2.1,x.2.2.2.2.2.2.1)))/\(∀d∈s.2.1,d.2.2=Bg x.2.2.1.2.1 d.1)/\ ∀p,0<=p->p<s.1->(∀d∈s.2.1,d.1≠p)->(∀d∈x.2.2.2.2.2.2.2,d.1≠p)/\ ∀f∈x.2.2.2.1.2.1,f.1.1=p->f.2.1=false) (λ(s:Int×(List Ag)×Int×Int×(List Ai)×BV)=>(x.1-s.1).toNat) ⟨Ad _,by have:=J.1;dsimp only;omega,k!,rfl,k!,λp g i=>absurd i d!⟩ (λs hI=>?_);have⟨h1,h2,h3,R,S,b⟩:=hI;unfold V7;have e:=AX (x:=s.1+1);rw[e];refine AC (λo=>?_) (λ_=>Ar.done ⟨o!,R,S,λp g i=>b p g o!⟩);refine AA (Jp h.sb) λv2 y=>AA (P:=λl=>l.1.length<=s.2.1.length+1/\l.2=s.2.2/\(∀d∈l.1,d.2.2=Bg x.2.2.1.2.1 d.1)/\(∀d∈s.2.1,d∈l.1)/\((∀d∈l.1,d.1≠s.1)-> ∀d∈x.2.2.2.2.2.2.2,d.1≠s.1)) ?_ λW F=>?_;refine AJ (λm=>AA (Ac w!) λv6 b=>AB ?_) (λm=>AB ⟨o!,rfl,S,λd a=>a,λ_=>y.2 m⟩);have⟨q1,q2⟩:=y.1 m;have K:=b.2.1;simp at K;refine⟨d!,rfl,λd a=>?_,λd a=>by dsimp only;rw[b.1];exact Gb _ a,λhn=>absurd q2 (hn _ (by dsimp only;rw[b.1];exact M7 _ (BI.2 rfl)))⟩;dsimp only at a;rw[b.1,A1]at a;rcases a with a|a;grind;rw[BI]at a;subst a;exact(n _ (by dsimp only at q2;omega) (by dsimp only at q2;omega)).2.1 _ q1 rfl;have⟨a1,a2,a3,a4,a5⟩:=F;refine AA dx λE L=>?_;have⟨b1,Y,Z⟩:=L;refine AA (P:=λl=>l.1.length<=s.2.1.length+65/\l.2=s.2.2/\(∀d∈l.1,d.2.2=Bg x.2.2.1.2.1 d.1)/\(∀d∈W.1,d∈l.1)/\ ∀d∈E,d.1=s.1->d∈l.1) ?_ λal k=>Ar.next ⟨d!,d!,d!,by dsimp only;rw[k.2.1,R],k.2.2.1,λp g i hn=>?_⟩ d!
 rotate_left 1;have⟨_,_,_,N,c5⟩:=k;dsimp only at i hn;by_cases u:p<s.1;exact b p g u λd a=>hn d (N d (a4 d a));have ep:p=s.1:=o!
 subst ep;refine⟨a5 λd a=>hn d (N d a),λf C Q=>?_⟩;cases hb:f.2.1 with
 |false=>rfl
 |true=>have⟨d,G,q⟩:=Z J.2.2.2.1 f C hb o! o!;exact absurd (q.trans Q) (hn d (c5 d G (q.trans Q)))
 refine Cf (λ(t:Int×(List Ag)×Int×Int×(List Ai)×BV)=>0<=t.1/\t.1<=E.length/\t.2.1.length<=s.2.1.length+1+t.1/\t.2.2=s.2.2/\(∀d∈t.2.1,d.2.2=Bg x.2.2.1.2.1 d.1)/\(∀d∈W.1,d∈t.2.1)/\ ∀(j:Nat) (d:Ag),(j:Int)<t.1->E[j]? =some d->d.1=s.1->d∈t.2.1) (λ(t:Int×(List Ag)×Int×Int×(List Ai)×BV)=>((E.length:Int)-t.1).toNat) ⟨Ad _,d!,d!,a2,a3,λd a=>a,λj d I=>absurd I d!⟩ (λt hJ=>?_);have⟨j1,j2,j3,U,M,V,j7⟩:=hJ;unfold V8;have e2:=AX (x:=t.1+1);rw[e2];refine AC (λo=>?_) (λo=>Ar.done ⟨o!,U,M,V,λd a O=>?_⟩);rotate_left 1;grind[List.getElem?_of_mem,DQ];simp[len]at o;refine AA (AI j1 o) λX z=>AA (P:=λl=>l.1.length<=t.2.1.length+1/\l.2=t.2.2/\(∀d∈l.1,d.2.2=Bg x.2.2.1.2.1 d.1)/\(∀d∈t.2.1,d∈l.1)/\(X.1=s.1->X∈l.1)) ?_ λv9 A=>Ar.next ⟨d!,d!,d!,A.2.1.trans U,A.2.2.1,λd a=>A.2.2.2.1 d (V d a),λj d I a O=>?_⟩ d!
 rotate_left 1;dsimp only at I;by_cases u:(j:Int)<t.1;grind;have:j=t.1.toNat:=o!
 subst this;rw[z.1]at a;have:=Ba a;subst this;exact A.2.2.2.2 O;refine AQ (λT=>AA (Ac w!) λv6 b=>AB ?_) (λT=>AB ⟨o!,rfl,M,λd a=>a,λe=>absurd e T⟩);have K:=b.2.1;simp at K;refine⟨d!,rfl,λd a=>?_,λd a=>by dsimp only;rw[b.1];exact Gb _ a,λ_=>by dsimp only;rw[b.1];exact M7 _ (BI.2 rfl)⟩;dsimp only at a;rw[b.1,A1]at a;rcases a with a|a;exact M d a;rw[BI]at a;subst a;have⟨f,C,f1,f2⟩:=Y d z.2;have hr:=H f C;rw[f2,(n d.1 o! o!).1 f C f1,ME]
theorem AFT: ∃c e,C3 []=some (c,e)/\e≠0:=⟨(0,(0,([],([],[])))),5,by kernel_rfl,g!⟩
def iD{x:AP}(h:SK B x):Ar (RH x) λr=>r.2.2=0->KL B x r.1:=by
 refine AA (km h) λL u=>AK (λb=>AB λa=>absurd a b) (λa=>?_);have⟨o,K,C⟩:=u a;refine AA ((bf o).and (AFX o)) λD j=>AC (λ_=>AB n!) (λf=>?_);simp[len]at f;have d: ∀c,C3 D.1=some (c,0)->c.1=x.1->xz x.1 x.2.2.1.2.1 c.2.2.2.1 c.2.2.2.2:=by intro c b _;rcases j.2 o! with e|⟨g,txs,J,A,i⟩;grind[AFT,Option.some.inj];have⟨_,q2,q3⟩:=(AFS g A o! i).get b rfl;rw[q2,q3];exact C
 refine AA (Fk h.sb) λM v=>AK (λb=>AB λa=>absurd a b) (λa=>?_);have⟨_,⟨a1,a2,a3,a4,a5,a6,a7,a8,e,k,s,t,l,H,m,I⟩,w⟩:=v a;dsimp only at a1 a2 a4 a7 k s t l m w;have y:=a2.1;refine AA (Jl.and (sX a3 q!)) λN n=>AB λ_=>?_;have⟨E,p,F,G,_⟩:=n.1 n.2;refine⟨a1,a2.trans (LX.of F p G),⟨a8.1,a8.2.1,a8.2.2,?_⟩,E⟩;unfold KI;rw[a1,a4,a7,p,k,m g!];refine⟨h.ki.1.app ⟨λq=>o!,λq=>o!,λ_=>?_⟩,h.ki.2.1.app o!,h.ki.2.2⟩;rw[(congrArg (λz=>z.2.2) l)];exact d
def XX{x:AS}(h:SK B x.1)(d:DJ B x.1.2.2.1 x.2):Ar (K4 x) λr=>r.2.2=0->SR B x r.1:=by exact AA (iD h) λe b=>AK (λc=>AB λa=>absurd a c) (λa=>AB λ_=>⟨b a,d.up (b a).2.1⟩)
end Go.Pm
namespace Go.Pm
open Go Go.Ab
set_option maxHeartbeats 400000
theorem be{x:BW}(h:x.length<=1099511627776):Ar (C3 x) λr=>r.2=0->sm r.1/\r.1.2.2.2.1.length<=65536:=by unfold C3;refine AA (DD h) λO _=>AA (DD h) λQ _=>AA (DD h) λc w=>AK (λa=>AB n!) (λj=>?_);have⟨a1,a2,a3,_⟩:=w j;have a4:=a3 q!;dsimp only at a1 a2;rw[(AX (x:=len x-10) q!)];refine AC (λa=>AB n!) (λa=>?_);simp[len]at a;rw[(AX (x:=10+c.1))];refine AA (Co g!) λR y=>AA (DD h) λd z=>AK (λa=>AB n!) (λk=>?_);have⟨o,p,q,t⟩:=z k;have G:=q q!;have H:=t q!;dsimp only at o p;rw[(AX (x:=len x-(10+c.1)) q!)];rw[(AX (x:=len x-(10+c.1)-1) q!)];rw[(AX (x:=17*d.1))];refine AC (λa=>AB n!) (λi=>?_);simp[len]at i;rw[(AX (x:=10+c.1+1))];refine AA (P:=λr=>r.1=10+c.1+1+17*d.1/\r.2.1.length<=65536) ?_ λB e=>?_;refine AV (λ(s:Int×Int×List Ag×Int×Int×List Ai×BV)=>0<=s.2.1/\s.2.1<=d.1/\s.1=10+c.1+1+17*s.2.1/\s.2.2.1.length<=s.2.1) (λ(s:Int×Int×List Ag×Int×Int×List Ai×BV)=>(d.1-s.2.1).toNat) ⟨Ad _,q!,q!,k!⟩ (λs A=>?_);have⟨J,K,L,M⟩:=A;unfold L9;refine AC (λa=>AA (DD h) λ_ _=>AA (DD h) λ_ _=>AA (DD h) λ_ _=>AA (Ac w!) λS I=>?_) (λa=>AB ⟨q!,q!⟩);grind[List.length_cons,List.length_nil,AX,AB];have N:=y.2;refine AA (Sx o!) λC u=>AK (λa=>AB λb=>absurd b a) (λm=>AA (Co o! (by simp[len];omega) i!) λD f=>?_);have l:=f.2;simp[len]at l;exact AA (Sv o!) λE v=>AK (λa=>AB λb=>absurd b a) (λn=>AA (OU d!) λF g=>AM (λa=>AB n!) (λa=>AB λ_=>⟨g a,e.2⟩))
def ML.data{e:AE}(h:ML e):e.2.2.2.2.2.2.2.length<=8192:=by have a:=h.2.2.2.2.2.2.2.2;grind[Vq]
def bg{x:Ae}:Ar (PV x) λr=>r.2.2=true->(sm r.1/\r.1.2.2.2.1.length<=65536)/\ ∃(i:Nat) (e:AE),x.2.1[i]? =some e/\e.2.1=6/\e.1=r.2.1/\C3 e.2.2.2.2.2.2.2=some (r.1,0):=by
 refine AA Be λv j=>AM (λ_=>AB λc=>by cases c) (λa=>?_);have f:=j.1 a;have g:=f.2.2.1;have e:=AX (x:=len x.2.1-1) q!;refine AA (P:=λr=> ∀u,r= .inl u->(sm u.2.2/\u.2.2.2.2.2.1.length<=65536)/\ ∃(i:Nat) (e:AE),x.2.1[i]? =some e/\e.2.1=6/\e.1=u.1/\C3 e.2.2.2.2.2.2.2=some (u.2.2,0)) ?_ λr hr=>BA (λu b=>AB λ_=>hr u b) (λ_ _=>AB λc=>by cases c);refine AV (λ(s:Int×CI)=> -1<=s.1/\s.1<x.2.1.length) (λ(s:Int×CI)=>(s.1+1).toNat) ⟨q!,q!⟩ (λs d=>?_);unfold R4;rw[(AX (x:=s.1-1))];refine AC (λa=>?_) (λ_=>AB λu b=>by cases b);have k:((-1<=s.1-1/\s.1-1<x.2.1.length)/\(s.1-1+1).toNat<(s.1+1).toNat):=o!
 refine AA (AI a d.2) λo l=>AK (λ_=>AB k) (λm=>AA (AI a d.2) λp h=>?_);have n:=(f.2.2.2.2.2 _ _ h.1).2.data;grind[D8,be,AQ,AA,AI,AB]
def DG2(x:List Ag×AE)(l:List Ag):Prop:= ∀d∈l,(d.1=x.2.2.2.2.2.2.2.1.1/\d.2.2=x.2.1)\/(d.1≠x.2.2.2.2.2.2.2.1.1/\d∈x.1)
def DG1(x:List Ag×AE)(l:List Ag):Prop:= ∀d∈l,∃c∈x.1,c.1=d.1/\c.2.2=d.2.2
def DK(x:List Ag×AE)(i:Int)(l:List Ag):Prop:= ∀(j:Nat) (d:Ag),(j:Int)<i->x.1[j]? =some d->d.1≠x.2.2.2.2.2.2.2.1.1->d∈l
def DG2.snoc{x:List Ag×AE}{l m:List Ag}{d:Ag}(h:DG2 x l)(e:m=l++[d])(b:(d.1=x.2.2.2.2.2.2.2.1.1/\d.2.2=x.2.1)\/(d.1≠x.2.2.2.2.2.2.2.1.1/\d∈x.1)):DG2 x m:=by subst e;intro c a;rcases A1.1 a with a|a;exact h c a;grind
def DG1.snoc{x:List Ag×AE}{l m:List Ag}{d:Ag}(h:DG1 x l)(e:m=l++[d])(b: ∃c∈x.1,c.1=d.1/\c.2.2=d.2.2):DG1 x m:=by subst e;intro c a;rcases A1.1 a with a|a;exact h c a;grind
def DK.snoc{x:List Ag×AE}{l m:List Ag}{d:Ag}{i:Int}(h:DK x i l)(e:m=l++[d]):DK x i m:=λj c b a hn=>by rw[e];exact Gb _ (h j c b a hn)
def DK.next{x:List Ag×AE}{l:List Ag}{v:Ag}{i k:Int}(h:DK x i l)(d:0<=i)(f:k=i+1)(m:x.1[i.toNat]? =some v)(g:v.1≠x.2.2.2.2.2.2.2.1.1->v∈l):DK x k l:=λj c e b hn=>by by_cases a:(j:Int)<i;exact h j c a b hn;grind
def ZA{x:List Ag×AE}{s:Bool×Int×List Ag}(o:x.2.2.1=7)(h:0<=s.2.1/\s.2.1<=x.1.length/\x.1.length<=1000000/\s.2.2.length<=s.2.1+1/\(s.1=false->(s.2.2.length:Int)<=s.2.1)/\DG1 x s.2.2/\DK x s.2.1 s.2.2):Ar (AZ (Fe x) s) λr=>(r.2.length<=x.1.length+1/\(r.1=false->r.2.length<=x.1.length))/\DG1 x r.2/\DK x x.1.length r.2:=by
 refine AV (λ(s:Bool×Int×List Ag)=>0<=s.2.1/\s.2.1<=x.1.length/\x.1.length<=1000000/\s.2.2.length<=s.2.1+1/\(s.1=false->(s.2.2.length:Int)<=s.2.1)/\DG1 x s.2.2/\DK x s.2.1 s.2.2) (λ(s:Bool×Int×List Ag)=>((x.1.length:Int)-s.2.1).toNat) h (λs i=>?_);have⟨g,t,v,w,b,c,f⟩:=i;unfold Fe;repeat' with_reducible first|intro a|apply AC|apply AM|apply AQ|apply AJ|(apply A7;try dsimp only)|apply Bd|apply By|apply NC|(apply BG;try dsimp only)|(apply A3;try dsimp only)|(apply BA<;>(intro u l;try subst l))|apply AB|(apply AA (B8);intro r hr)|(refine AL ?_ (AI ?_ ?_);rintro r ⟨hr,q⟩)|(refine AL ?_ (Ac ?_);rintro r ⟨hr,p,k⟩)
 all_goals try dsimp[len]at*
 all_goals try (have e:=AX (x:=s.2.1+1))
 all_goals try (have m:=b v!)
 all_goals (try simp only[Cu,Ck]at*)
 all_goals first
  |omega
  |exact⟨⟨o!,λh=>by have:=b h;omega⟩,c,λj d n=>f j d o!⟩
  |(exfalso;grind;done)
  |(refine⟨⟨o!,o!,o!,o!,by first|(intro h;have:=b h;omega)|(intro h;cases h),?_,?_⟩,o!⟩
    first|exact c|exact c.snoc v! (by refine⟨_,v!,?_,?_⟩<;>rfl)
    ·first|exact f.next g e v! (λhn=>absurd v! hn)|exact(f.snoc v!).next g e v! (by first|(intro hn;exact absurd v! hn)|(intro _;subst_vars;simp)))
def ZB{x:List Ag×AE}{s:Bool×Int×List Ag}(p:x.2.2.1=1\/x.2.2.1=2)(h:0<=s.2.1/\s.2.1<=x.1.length/\x.1.length<=1000000/\s.2.2.length<=s.2.1+1/\(s.1=false->(s.2.2.length:Int)<=s.2.1)/\DG2 x s.2.2/\DK x s.2.1 s.2.2/\(s.1=true-> ∃d∈s.2.2,d.1=x.2.2.2.2.2.2.2.1.1)):Ar (AZ (Fe x) s) λr=>(r.2.length<=x.1.length+1/\(r.1=false->r.2.length<=x.1.length))/\DG2 x r.2/\DK x x.1.length r.2/\(r.1=true-> ∃d∈r.2,d.1=x.2.2.2.2.2.2.2.1.1):=by
 refine AV (λ(s:Bool×Int×List Ag)=>0<=s.2.1/\s.2.1<=x.1.length/\x.1.length<=1000000/\s.2.2.length<=s.2.1+1/\(s.1=false->(s.2.2.length:Int)<=s.2.1)/\DG2 x s.2.2/\DK x s.2.1 s.2.2/\(s.1=true-> ∃d∈s.2.2,d.1=x.2.2.2.2.2.2.2.1.1)) (λ(s:Bool×Int×List Ag)=>((x.1.length:Int)-s.2.1).toNat) h (λs k=>?_);have⟨i,v,w,y,c,a,f,i8⟩:=k;unfold Fe;repeat' with_reducible first|intro b|apply AC|apply AM|apply AQ|apply AJ|(apply A7;try dsimp only)|apply Bd|apply By|apply NC|(apply BG;try dsimp only)|(apply A3;try dsimp only)|(apply BA<;>(intro u m;try subst m))|apply AB|(apply AA (B8);intro r hr)|(refine AL ?_ (AI ?_ ?_);rintro r ⟨hr,t⟩)|(refine AL ?_ (Ac ?_);rintro r ⟨hr,q,l⟩)
 all_goals try dsimp[len]at*
 all_goals try (have e:=AX (x:=s.2.1+1))
 all_goals try (have n:=c v!)
 all_goals (try simp only[Cu,Ck]at*)
 all_goals first
  |omega
  |exact⟨⟨o!,λh=>by have:=c h;omega⟩,a,λj d o=>f j d o!,i8⟩
  |(exfalso;grind;done)
  |(refine⟨⟨o!,o!,o!,o!,by first|(intro h;have:=c h;omega)|(intro h;cases h)|trivial,?_,?_,?_⟩,o!⟩
    first|exact a.snoc v! (by exact .inl ⟨v!,rfl⟩)|exact a.snoc v! (by exact .inr ⟨v!,v!⟩)|refine DG2.snoc (DG2.snoc a v! (by exact .inl ⟨rfl,rfl⟩)) v! (by exact .inr ⟨o!,v!⟩)
    ·first|exact(f.snoc v!).next i e v! (by first|(intro hn;exact absurd v! hn)|(intro _;subst_vars;simp))|exact((f.snoc v!).snoc v!).next i e v! (by intro _;subst_vars;simp)
    first|(intro h;refine(i8 h).elim λd g=>⟨d,by subst_vars;simp[g.1],g.2⟩)|(intro _;subst_vars;refine⟨_,M7 _ (BI.2 rfl),?_⟩;assumption)|(intro _;subst_vars;refine⟨_,Gb _ (M7 _ (BI.2 rfl)),?_⟩;rfl))
def eG{x:List Ag×AE}(h:x.1.length<=1000000):Ar (Gw x) λr=>r.length<=x.1.length+1/\(¬(x.2.2.1=1\/x.2.2.1=2)->x.2.2.1≠7->r=x.1)/\(x.2.2.1=7->DG1 x r/\DK x x.1.length r)/\(x.2.2.1=1\/x.2.2.1=2->DG2 x r/\DK x x.1.length r/\ ∃d∈r,d.1=x.2.2.2.2.2.2.2.1.1):=by
 refine AA B8 λB m=>AM (λb=>?_) (λb=>?_);have i: ¬(x.2.2.1=1\/x.2.2.1=2):=λq=>by rw[m.2 q]at b;cases b
 refine AK (λhn=>AB ⟨o!,λ_ _=>rfl,λe=>absurd e hn,λq=>absurd q i⟩) (λo=>AA (ZA o ⟨Ad _,q!,h,k!,k!,by simp[DG1],λj d g=>absurd g q!⟩) λv f=>AM (λp=>AA B8 λs n=>AA (P:=λl=>l=v.2) (AJ (λa=>absurd (n.1 a) i) (λ_=>AB rfl)) λl c=>AB ?_) (λ_=>AB ⟨f.1.1,λ_ q=>absurd o q,λ_=>f.2,λq=>absurd q i⟩));grind;have k:=m.1 b;refine AA (ZB k ⟨Ad _,q!,h,k!,k!,by simp[DG2],λj d g=>absurd g q!,λq=>by cases q⟩) λv f=>?_;have⟨⟨s,z⟩,t,u,A⟩:=f;refine AM (λp=>AA B8 λw n=>AA (P:=λl=>l=v.2++[(x.2.2.2.2.2.2.2.1.1,(x.2.1,x.2.1))]) (AJ (λa=>?_) (λa=>?_)) λl c=>AB ?_) (λy=>AB ⟨s,λq=>absurd k q,λq=>absurd q o!,λ_=>⟨t,u,A y⟩⟩);grind[AA,Ac,AB];grind;have:=z p;refine⟨q!,λq=>absurd k q,λq=>absurd q o!,λ_=>⟨t.snoc c (.inl ⟨rfl,rfl⟩),u.snoc c,_,by rw[c];exact M7 _ (BI.2 rfl),rfl⟩⟩
def xz.other{n:Int}{L:List AE}{D:List Ag}{R:List BX}{e:AE}(h:xz n L D R)(a: ¬(e.2.1=1\/e.2.1=2)):xz n (L++[e]) D R:=by
 intro p b c;have:dO p e=false:=by simp only[not_or]at a;simp[dO,a.1,a.2]
 rw[Pe,this,if_neg g!];exact h p b c
def xz.change{n:Int}{L:List AE}{D r:List Ag}{R:List BX}{e:AE}(h:xz n L D R)(v:e.2.1=1\/e.2.1=2)(o: ∀p,Bg L p<e.1)(k:DG2 (D,e) r)(m:DK (D,e) D.length r)(u: ∃d∈r,d.1=e.2.2.2.2.2.2.1.1):xz n (L++[e]) r R:=by intro p s t;have⟨a,b⟩:=h p s t;rw[Pe,(by grind[dO]:dO p e=(e.2.2.2.2.2.2.1.1==p))];by_cases i:e.2.2.2.2.2.2.1.1=p;rw[beq_iff_eq.2 i,if_pos rfl];refine⟨λd f c=>?_,λw g=>⟨by have:=(b w g).1;have:=o p;omega,λhn=>?_⟩⟩;rcases k d f with q|q;grind;grind;grind;rw[beq_eq_false_iff_ne.2 i,if_neg g!];refine⟨λd f c=>?_,λw g=>⟨(b w g).1,λhn=>(b w g).2 λd f c=>?_⟩⟩;rcases k d f with q|q;grind;exact a d q.2 c;have⟨j,l⟩:=Di f;exact hn d (m j d (by have:=DQ l;omega) l (λq=>i (q.symm.trans c))) c
def xz.index{n:Int}{L:List AE}{D r:List Ag}{R:List BX}{e:AE}{w:BX}(h:xz n L D R)(A:e.2.1=7)(B:e.2.2.2.2.2.1=Bg L e.2.2.2.2.2.2.1.1)(y:0≤e.2.2.2.2.2.2.1.1)(k:DG1 (D,e) r)(l:DK (D,e) D.length r)(C:R[e.2.2.2.2.2.2.1.1.toNat]? =some w):
  xz n (L++[e]) r (R.set e.2.2.2.2.2.2.1.1.toNat ((if e.2.2.2.2.2.1>w.1 then e.2.2.2.2.2.1 else w.1),w.2)):=by
 refine xz.other ?_ o!;intro p s t;have⟨a,b⟩:=h p s t;refine⟨λd g f=>?_,λu i=>?_⟩;have⟨c,z,v,x⟩:=k d g;grind;by_cases o:e.2.2.2.2.2.2.1.1=p;grind;rw[Dw o!]at i;refine⟨(b u i).1,λhn=>(b u i).2 λd g f=>?_⟩;have⟨j,m⟩:=Di g;exact hn d (l j d q! m (λq=>o (q.symm.trans f))) f
def vF{n:Int}{L:List AE}{D r:List Ag}{R:List BX}{q:BV×Int}{e:AE}(h:xz n L D R)(l:EOK n L e)(m: ∀p,Bg L p<e.1)
  (j:r.length<=D.length+1/\(¬(e.2.1=1\/e.2.1=2)->e.2.1≠7->r=D)/\(e.2.1=7->DG1 (D,e) r/\DK (D,e) D.length r)/\(e.2.1=1\/e.2.1=2->DG2 (D,e) r/\DK (D,e) D.length r/\ ∃d∈r,d.1=e.2.2.2.2.2.2.1.1))
  (k:q.2=0->q.1.length=R.length/\(e.2.1≠7->q.1=R)/\(e.2.1=7->0<=e.2.2.2.2.2.2.1.1/\ ∃w,R[e.2.2.2.2.2.2.1.1.toNat]? =some w/\q.1=R.set e.2.2.2.2.2.2.1.1.toNat ((if e.2.2.2.2.2.1>w.1 then e.2.2.2.2.2.1 else w.1),w.2)))
  (t:q.2=0):xz n (L++[e]) r q.1:=by
 have⟨_,g,f,c⟩:=j;have⟨_,u,v⟩:=k t;by_cases b:e.2.1=7;have⟨i,w,s,o⟩:=v b;rw[o];exact h.index b (l.2.1 b) i (f b).1 (f b).2 s;rw[u b];by_cases a:e.2.1=1\/e.2.1=2;exact h.change a m (c a).1 (c a).2.1 (c a).2.2;rw[g a b];exact h.other a
variable {B:Int->Prop}
def HL(l:List Ai):Prop:=l.length<=64/\ ∀t∈l,t.2.2.2.2.1.length<=4097
def ZQ.hl{l:List Ai}(h:ZQ l):HL l:=⟨h.1,λt b=>by have⟨i,a⟩:=Iz.1 b;have:=(h.2 i t a).1;omega⟩
def HL.set{l:List Ai}{i:Nat}{n:Ai}(h:HL l)(hn:n.2.2.2.2.1.length<=4097):HL (l.set i n):=⟨by rw[fB];exact h.1,λt a=>by rcases WJ a with q|q;exact h.2 t q;rw[q];exact hn⟩
def HL.rm{l:List Ai}{id:Int}(h:HL l):HL (ACm l id):=⟨by have:=o9 l id;have:=h.1;omega,λt a=>h.2 t (Bk.1 a).1⟩
def ZQ.lens{l:List Ai}{i:Nat}{t:Ai}(h:ZQ l)(a:l[i]? =some t):t.2.2.2.2.1.length<=4096:=(h.2 i t a).1
def AE5{x:List Ai×AE}:Ar (F6 x) λr=>r.2=0->HL r.1:=by refine AA Dl λz j=>AM (λb=>AB n!) (λb=>?_);have c:=j b;have n:=c.1;refine AA CT λA y=>AM (λb=>AB n!) (λ_=>AQ (λb=>AB λ_=>c.hl) (λp=>AA (H4 q!) λB g=>AC (λb=>AB n!) (λo=>AA (AI o! g.2.1) λC m=>?_)));have f:=c.lens m.1;refine AK (λb=>AB n!) (λ_=>AA (P:=λs=>(∃u,s= .inl u/\u.2.2.2.2.1.length<=4097)\/ ∃u,s= .inr u/\(u.2=0->HL u.1)) ?_ λs h=>?_);refine AQ (λ_=>?_) (λ_=>?_);grind[AA,Ac,AB];refine AA (P:=λs=>(∃u,s= .inr u/\u.2.2.2.2.1.length<=4097)\/ ∃u,s= .inl u/\(u.2=0->HL u.1)) (AQ (λ_=>AA (R3 ⟨Ad _,q!,f,k!⟩) λq k=>AQ (λ_=>AB (.inr ⟨_,rfl,n!⟩)) (λ_=>AB (.inl ⟨_,rfl,q!⟩))) (λ_=>AQ (λ_=>AB (.inl ⟨_,rfl,q!⟩)) (λ_=>AA (JG q!) λt d=>AB (.inr ⟨_,rfl,λ_=>by rw[d];exact c.hl.rm⟩)))) λs h=>?_;grind[A3,AB,BG];rcases h with⟨u,rfl,i⟩|⟨u,rfl,i⟩;refine BG (AA (NY o!) λv l=>AA (LU q! ⟨q!,g.2.1⟩) λw e=>AB λ_=>?_);rw[e];exact c.hl.set q!;exact A3 (AB i)
def AN(n c:Int)(L:List AE)(m:Nat)(a:CV):Prop:=a.1=n/\HL a.2.2.2.1/\a.2.2.2.2.2.1.length<=m/\a.2.2.1=c/\xz n L a.2.2.2.2.2.1 a.2.2.2.2.2.2
def iG{x:CV×AE}{n c:Int}{L:List AE}{m:Nat}(h:AN n c L m x.1)(f:m<=1000000)(d:EOK n L x.2)(e: ∀p,Bg L p<x.2.1):Ar (Mk x) λr=>r.2=0->AN n c (L++[x.2]) (m+1) r.1:=by
 unfold Mk;have⟨a1,a2,a3,a5,a6⟩:=h;have a4:=a2.1;repeat' with_reducible first|apply AC<;>intro b|apply AK<;>intro b|apply AJ<;>intro b|(apply A7;try dsimp only)|apply Bd|apply By|apply NC|(apply BG;try dsimp only)|(apply A3;try dsimp only)|apply AB|(apply AA AE5;intro r hr)|(refine AL ?_ (FO ?_);intro r hr)|(apply AA (UO);intro r hr)|(apply AA (VT);intro r hr)|(apply AA (B8);intro r hr)|(refine AL ?_ (eG ?_);intro r hr)
 all_goals try dsimp[len]at*
 all_goals first|omega|(intro a;exact absurd a v!)|(intro a;exact absurd a g!)|(intro _;unfold AN;refine⟨by first|assumption|grind,q!,by first|omega|grind,by first|assumption|grind,?_⟩;exact vF a6 d e v! v! v!)|grind
theorem QF{x:Int}:Ar (J9 x) λr=> ∀w∈r.1,w.1=0:=by refine AC (λ_=>AB k!) (λ_=>AC (λ_=>AB k!) (λ_=>?_));grind[AA,ym,AB]
def eJ{x:Ae×Int}(n:Dg x.1)(u:x.1.1=1)(m:LI x.2 x.1.2.1):Ar (QG x) λr=>r.2=0-> ∃k:Nat,k<=x.1.2.1.length/\AN x.2 k (x.1.2.1.take k) 65536 r.1:=by
 refine AA bg λv j=>AM (λ_=>?_) (λb=>?_);refine AC (λb=>AB n!) (λ_=>AA QF λy l=>AB λ_=>⟨0,Bi _,rfl,⟨k!,λt o=>by simp at o⟩,k!,rfl,λp _ _=>⟨k!,λw q=>by have:=l w (BU q);exact⟨by rw[this];exact Ad _,λ_=>this⟩⟩⟩)
 have⟨⟨d,f⟩,i,e,a,g,s,h⟩:=j b;refine AK (λb=>AB n!) (λhn=>AB λ_=>⟨i+1,DQ a,rfl,d.2.2.1.hl,f,?_,?_⟩);have:=(n.2.2.2.2.2 i e a).1;grind;rw[Ce,a];exact((m i e a).2.2 g _ h hn).other o!
def iE{x:Ao×Ao}:Ar (E9 x) λr=>True:=by exact AK (λ_=>AB trivial) (λ_=>AK (λ_=>AB trivial) (λ_=>AB trivial))
def Zv{x:List Ao×Ao}{s:Int}(h:0<=s/\s<=x.1.length/\(x.1.length:Int)<=16777216):Ar (AZ (OV x) s) λr=>0<=r/\r<=x.1.length:=by
 refine AV (λ(s:Int)=>0<=s/\s<=x.1.length/\(x.1.length:Int)<=16777216) (λ(s:Int)=>((x.1.length:Int)-s).toNat) h (λs a=>?_);unfold OV;exact x!
def iH{x:List Ao×Ao}(h:x.1.length<=1000000):Ar (RL x) λr=>r.length<=x.1.length+1:=by
 refine AA (Zv ⟨Ad _,o!⟩) λp d=>?_;have a:Ar (Option.bind (br x.1 0 p) λb=>
 Option.bind (br x.1 p (len x.1)) λc=>
 Option.bind (app [] b) λe=>
 Option.bind (app e ([x.2]:List (Int×((Int×Int)×Int)))) λf=>
 Option.bind (app f c) λg=>
 some g) λr=>r.length<=x.1.length+1:=by refine AA (CU (Ad _) d.1 d.2) λb i=>AA (CU d.1 q! q!) λc j=>?_;grind[AA,Ac,AB]
 refine AC (λk=>?_) (λ_=>a);exact AA (AI d.1 k) λl _=>AJ (λ_=>AB o!) (λ_=>a)
def eH{x:Ae×List Ai}(h:HL x.2):Ar (Lb x) λr=>r.1.length<=262208:=by unfold Lb;have k:=h.1;refine AA (P:=λr=>(∀u,r= .inl u->u.1.length<=262208)/\ ∀u,r= .inr u->u.length<=262208) ?_ λr hr=>BA (λu a=>AB (hr.1 u a)) (λu a=>AB (hr.2 u a));refine AV (λ(s:List Ao×Int)=>0<=s.2/\s.2<=x.2.length/\s.1.length<=4097*s.2) (λ(s:List Ao×Int)=>((x.2.length:Int)-s.2).toNat) ⟨Ad _,q!,k!⟩ (λs d=>?_);have⟨f,m,n⟩:=d;unfold S2;rw[(AX (x:=s.2+1))];refine AC (λb=>?_) (λ_=>AB ⟨λu a=>(by cases a),λu a=>q!⟩);simp[len]at b;have⟨t,i,j⟩:=AI (l:=x.2) f b;have v:=h.2 t j.2;refine AA (P:=λr=>(∀u,r= .inl u->u.1.length<=262208)/\ ∀u,r= .inr u->u.length<=4097*(s.2+1)) ?_ λr hr=>?_;refine AV (λ(q:List Ao×Int)=>0<=q.2/\q.2<=t.2.2.2.2.1.length/\q.1.length<=4097*s.2+q.2) (λ(q:List Ao×Int)=>((t.2.2.2.2.1.length:Int)-q.2).toNat) ⟨Ad _,q!,q!⟩ (λq e=>?_);have⟨g,o,p⟩:=e;unfold S3;rw[i];apply A7;rw[(AX (x:=q.2+1))];refine AC (λb=>?_) (λ_=>AB ⟨λu a=>(by cases a),λu a=>q!⟩);simp[len]at b;refine A7 (AA (AI g b) λw _=>AA Gt λy _=>AK (λ_=>AB ⟨λu a=>q!,λu a=>(by cases a)⟩) (λ_=>AK (λ_=>AB ⟨λu a=>(by cases a;simp),λu a=>(by cases a)⟩) (λ_=>A7 (AK (λ_=>AB ⟨λu a=>(by cases a;simp),λu a=>(by cases a)⟩) (λ_=>AA (iH q!) λz c=>AB ?_)))));dsimp only at c;exact⟨⟨q!,o!,d!⟩,o!⟩;grind[BA,AB]
def Zu{x:Ae×Int}(c:Dg x.1)(M:x.1.1=1)(G:LI x.2 x.1.2.1):Ar (Jt x) λr=>r.2=0->r.1.1=x.2/\HL r.1.2.2.2.1/\r.1.2.2.2.2.1.length<=262208/\r.1.2.2.2.2.2.1.length<=70000/\xz x.2 x.1.2.1 r.1.2.2.2.2.2.1 r.1.2.2.2.2.2.2:=by
 unfold Jt;refine AA Be λv Q=>AM (λ_=>AB n!) (λa=>?_);have O:=Q.1 a;have H:=O.2.2.1;refine AC (λ_=>AB n!) (λ_=>AC (λ_=>AB n!) (λ_=>AA (eJ c M G) λv1 I=>AK (λa=>AB λb=>absurd b a) (λD=>?_)));have⟨k,N,K⟩:=I D;refine AA (P:=λr=>(∀u,r= .inl u->u.1≠0)/\ ∀u,r= .inr u->AN x.2 k x.1.2.1 70000 u.1) ?_ λr hr=>BA (λu d=>AB λb=>absurd b (hr.1 u d)) (λu d=>?_);refine AV (λ(s:Int×CV×CV)=>0<=s.1/\s.1<=x.1.2.1.length/\AN x.2 k (x.1.2.1.take (max k s.1.toNat)) (65536+s.1.toNat) s.2.1) (λ(s:Int×CV×CV)=>((x.1.2.1.length:Int)-s.1).toNat) ⟨Ad _,d!,by simpa using K⟩ (λs z=>?_);have⟨m,R,f⟩:=z;unfold RJ;have e:=AX (x:=s.1+1);rw[e];refine AC (λa=>?_) (λ_=>AB ⟨λu d=>(by cases d),λu d=>?_⟩);simp[len]at a;have en:(s.1+1).toNat=s.1.toNat+1:=o!
 refine AA (AI m a) λv3 J=>?_;have n3:=(c.2.2.2.2.2 _ _ J.1).1;refine AC (λB=>AB ⟨⟨d!,d!,?_⟩,d!⟩) (λB=>?_);have⟨q1,q2,q3,q4,q5⟩:=f;have n:max k (s.1+1).toNat=max k s.1.toNat:=o!
 exact⟨q1,q2,d!,q4,by dsimp only;rw[n];exact q5⟩;have q4:=f.2.2.2.1;have n:max k s.1.toNat=s.1.toNat:=o!
 rw[n]at f;refine AA (AI m a) λZ F=>?_;have i:x.1.2.1.take (max k (s.1+1).toNat)=x.1.2.1.take s.1.toNat++[Z]:=by grind[List.take_add_one]
 refine AA (iG f o! (G _ _ F.1) λp=>?_) λv5 h5=>?_;have n4:=(c.2.2.2.2.2 _ _ F.1).1;refine oW _ _ d! λe L=>?_;have⟨j,A⟩:=Di L;have C:=DQ A;rw[BM]at C;rw[Jb o!]at A;have:=(c.2.2.2.2.2 j e A).1;dsimp only;omega;grind[AK,AB];cases d;have⟨q1,q2,q3,q4,q5⟩:=f;simp[len]at*;rw[BK o!]at q5;exact⟨q1,q2,o!,q4,q5⟩;have⟨q1,q2,q3,_,q5⟩:=hr.2 u d;have S:=q2.1;refine AA (P:=λl=>HL l) ?_ λX h=>?_;refine AV (λ(s:Int×List Ai)=>0<=s.1/\s.1<=u.1.2.2.2.1.length/\s.2.length<=s.1/\ ∀t∈s.2,t.2.2.2.2.1.length<=4097) (λ(s:Int×List Ai)=>((u.1.2.2.2.1.length:Int)-s.1).toNat) ⟨Ad _,d!,k!,λt i=>by simp at i⟩ (λs z=>?_);have⟨m,R,f,E⟩:=z;unfold RK;have e:=AX (x:=s.1+1);rw[e];refine AC (λa=>?_) (λ_=>AB ⟨o!,E⟩);simp[len]at a;refine AA (AI m a) λT _=>AA (P:=λl=>l.length<=s.2.length+1/\ ∀t∈l,t.2.2.2.2.1.length<=4097) ?_ λW g=>AB ⟨⟨d!,d!,by have:=g.1;dsimp only;omega,g.2⟩,d!⟩;refine AC (λ_=>AA (AI m a) λU o=>AA (Ac w!) λV q=>AB ⟨?_,λt i=>?_⟩) (λ_=>AB ⟨o!,E⟩);grind;rw[q.1]at i;rcases A1.1 i with w|w;exact E t w;simp at w;rw[w];exact q2.2 _ o.2;exact AA (eH h) λY y=>AK (λa=>AB λb=>absurd b a) (λb=>AB λ_=>⟨q1,h,y,q3,q5⟩)
theorem LP{x:Int}:Ar (J8 x) λr=>r.1.2.1=[]:=by
 unfold J8;exact x!
def eK{x:Ae×CV×Int}(t:Dg x.1)(h:HL x.2.1.2.2.2.1/\x.2.1.2.2.2.2.1.length<=262208/\x.2.1.2.2.2.2.2.1.length<=70000)(q:LI x.2.1.1 x.1.2.1)(e:xz x.2.1.1 x.1.2.1 x.2.1.2.2.2.2.2.1 x.2.1.2.2.2.2.2.2):Ar (Lc x) λr=>r.2=0->r.1.1=x.2.1.1/\SK B r.1/\Dg r.1.2.2.1/\LX x.1 r.1.2.2.1:=by
 unfold Lc;have⟨a1,a2,a3⟩:=h;have a4:=a1.1;refine AA LP λj f=>AK (λ_=>AB n!) (λ_=>?_);have k:SK B (x.2.1.1,(x.2.1.2.1,(x.1,(j.1,((x.2.1.2.2.2.2.1,[]),(x.2.1.2.2.2.1,(x.2.1.2.2.2.2.2.2,x.2.1.2.2.2.2.2.1))))))):=⟨⟨q!,k!⟩,q!,q!,q,λp g i=>⟨q!,(e p g i).1,λw l=>⟨((e p g i).2 w l).1,λhn _=>((e p g i).2 w l).2 hn⟩⟩,by unfold FD;dsimp only;rw[f];simp⟩
 refine AA (B6 k.sb) λy _=>AM (λ_=>AB n!) (λ_=>AA (P:=λr=>(∀u,r= .inl u->u.1≠0)/\ ∀u,r= .inr u->KL B (x.2.1.1,(x.2.1.2.1,(x.1,(j.1,((x.2.1.2.2.2.2.1,[]),(x.2.1.2.2.2.1,(x.2.1.2.2.2.2.2.2,x.2.1.2.2.2.2.2.1))))))) u.1) ?_ λr hr=>BA (λu a=>AB λb=>absurd b (hr.1 u a)) (λu a=>AB λ_=>?_));refine AV (λ(s:Int×AP×AP)=>0<=s.1/\s.1<=x.2.1.2.2.2.1.length/\KL B (x.2.1.1,(x.2.1.2.1,(x.1,(j.1,((x.2.1.2.2.2.2.1,[]),(x.2.1.2.2.2.1,(x.2.1.2.2.2.2.2.2,x.2.1.2.2.2.2.2.1))))))) s.2.1) (λ(s:Int×AP×AP)=>((x.2.1.2.2.2.1.length:Int)-s.1).toNat) ⟨Ad _,q!,KL.refl k t⟩ (λs o=>?_);have⟨m,v,d⟩:=o;unfold S4;rw[(AX (x:=s.1+1))];refine AC (λc=>?_) (λ_=>AB ⟨λu a=>(by cases a),λu a=>q!⟩);simp[len]at c;refine AA (AI m c) λz _=>AQ (λ_=>AB ⟨⟨q!,o!,d⟩,o!⟩) (λ_=>AA (AI m c) λA _=>AA (Fk d.2.2.1.sb) λC n=>AK (λc=>AB ⟨λu a=>(by cases a;exact c),λu a=>(by cases a)⟩) (λb=>AB ⟨⟨o!,o!,d.trans ((n b).2.1.kl d.2.2.1 u!)⟩,o!⟩));have:=hr.2 u a;exact⟨this.1,this.2.2.1,this.2.2.2,this.2.1⟩
end Go.Pm
namespace Go.Pm
open Go Go.Ab
set_option maxHeartbeats 400000
variable {B:Int->Prop}
def iN{x:AS×Int×Cj}(h:SK B x.1.1)(p:Dg x.1.1.2.2.1)(o:DJ B x.1.1.2.2.1 x.1.2):Ar (Mo x) λr=>SR B x.1 r.1/\(r.2.1≠0->TP r.1.1.2.2.2.2.2.1<TP x.1.1.2.2.2.2.2.1):=by
 unfold Mo;refine AA (P:=λr=>SR B x.1 r.2.2/\(r.1≠0->TP r.2.2.1.2.2.2.2.2.1<TP x.1.1.2.2.2.2.2.1)) ?_ λr hr=>AB hr;refine AV (λ(s:Int×AS×AS)=>SR B x.1 s.2.1/\TP s.2.1.1.2.2.2.2.2.1<=TP x.1.1.2.2.2.2.2.1/\(s.1≠0->TP s.2.1.1.2.2.2.2.2.1<TP x.1.1.2.2.2.2.2.1)) (λ(s:Int×AS×AS)=>2*TP s.2.1.1.2.2.2.2.2.1+flag (¬na s.2.1.1.2.2.2.1 x.2.2.1)) ⟨⟨KL.refl h p,o⟩,Am _,λe=>absurd rfl e⟩ (λs d=>?_);obtain⟨d,v,j⟩:=d;have k:=d.1.2.2;unfold UW;refine AA (iB k.1 k.2) λw n=>?_;obtain⟨k1,q,t⟩:=n;refine AQ (λ_=>AB ⟨d,j⟩) (λm=>AA (P:=λr=>(∃u,r= .inl u/\u.1=s.1/\u.2.2=s.2.1)\/ ∃u,r= .inr u/\SR B s.2.1 u.2.1/\(TP u.2.1.1.2.2.2.2.2.1<TP s.2.1.1.2.2.2.2.2.1\/(u.1=s.1/\TP u.2.1.1.2.2.2.2.2.1=TP s.2.1.1.2.2.2.2.2.1/\na u.2.1.1.2.2.2.1 x.2.2.1/\ ¬na s.2.1.1.2.2.2.1 x.2.2.1))) ?_ λr hr=>?_);apply AQ<;>intro l;obtain⟨a,b,c⟩:=q l;refine AA (HS k.1 d.2) λy i=>AK (λ_=>AB (.inl ⟨_,rfl,rfl,rfl⟩)) (λe=>AB (.inr ⟨_,rfl,(i e).1.sr,.inr ⟨rfl,?_,?_,b⟩⟩));have:=(i e).1.1.2.2.2.2.1;exact congrArg TP this;have:=(i e).2;rw[a]at this;exact this;refine AQ (λ_=>AB (.inl ⟨_,rfl,rfl,rfl⟩)) (λc0=>AB (.inr ⟨_,rfl,⟨k1,d.2.up k1.2.1⟩,.inl (t l m c0)⟩));rcases hr with⟨u,rfl,g⟩|⟨u,rfl,g⟩;refine BG (AB ?_);dsimp only;rw[g.1,g.2];exact⟨d,j⟩;refine A3 (AB ?_);obtain⟨q1,q2⟩:=g;rcases q2 with q2|⟨q2,q3,q4,q5⟩;have f:=ABW (¬na u.2.1.1.2.2.2.1 x.2.2.1);exact⟨⟨d.trans q1,o!,λ_=>o!⟩,by first|omega|(dsimp only;omega)⟩;refine⟨⟨d.trans q1,o!,λe=>by rw[q3];exact j (by rw[<-q2];exact e)⟩,?_⟩;try dsimp only
 rw[xJ q5,xI (λh=>h q4),q3];omega
def S5{x:AP×Int}(h:SB x.1):Ar (H6 x) λr=>True:=by unfold H6;refine AA (B6 h) λv c=>AA (P:=λ_=>True) ?_ λr _=>BA (λ_ _=>AB trivial) (λ_ _=>AB trivial);refine AJ (λ_=>?_) (λ_=>AB trivial);refine AA (FO h.2.1) λd a=>AC (λb=>?_) (λ_=>AB trivial);refine AA (AI b a.2.1) λ_ _=>AQ (λ_=>?_) (λ_=>AB trivial);exact AA (AI b a.2.1) λ_ _=>AB trivial
def Zx{x:AP}{s:Int×List Int}(h:0<=s.1/\s.1<=x.2.2.2.2.2.1.length/\x.2.2.2.2.2.1.length<=16777216/\s.2.length<=s.1/\SB x):Ar (AZ (OW x) s) λr=>True:=by
 refine AV (λ(s:Int×List Int)=>0<=s.1/\s.1<=x.2.2.2.2.2.1.length/\x.2.2.2.2.2.1.length<=16777216/\s.2.length<=s.1/\SB x) (λ(s:Int×List Int)=>((x.2.2.2.2.2.1.length:Int)-s.1).toNat) h (λs c=>?_);unfold OW;exact x!
def iI{x:AP}(h:SK B x):Ar (Ml x) λr=>True:=by unfold Ml;exact AA (Zx ⟨Ad _,d!,h.2.1,k!,h.sb⟩) λ_ _=>AB trivial
def XW{x:AP×Int}{c:Ao×Bool}{a:List Int}{s:Int×Cj}(h:0<=s.1/\s.1<=a.length/\a.length<=16777216/\SB x.1):Ar (AZ (K3 x c a) s) λr=>True:=by
 refine AV (λ(s:Int×Cj)=>0<=s.1/\s.1<=a.length/\a.length<=16777216/\SB x.1) (λ(s:Int×Cj)=>((a.length:Int)-s.1).toNat) h (λs d=>?_);unfold K3;exact x!
def Zw{x:AP×Int}(h:SK B x.1):Ar (Ju x) λr=>True:=by unfold Ju;refine AA (IN h.1) λb _=>AM (λ_=>AB trivial) (λ_=>AA (LN h.1) λc a=>AA (XW ⟨Ad _,d!,o!,h.sb⟩) λr _=>BA (λ_ _=>AB trivial) (λ_ _=>AB trivial))
def kq{x:AS×Int×Cn}(h:SK B x.1.1)(k:Dg x.1.1.2.2.1)(j:DJ B x.1.1.2.2.1 x.1.2):Ar (PY x) λr=>SR B x.1 r.1:=by unfold PY;refine AA (P:=λr=>SR B x.1 r.1) ?_ λr hr=>AB hr;refine AV (λ(s:AS×AS×BT)=>SR B x.1 s.1) (λ(s:AS×AS×BT)=>TP s.1.1.2.2.2.2.2.1) ⟨KL.refl h k,j⟩ (λs c=>?_);have g:=c.1.2.2;unfold WB;refine AA (kp g.1 g.2 c.2) λm e=>?_;have b:=c.trans e.1;have a:=b.1.2.2;refine AK (λ_=>AB b) (λi=>?_);have l:=e.2 i;refine AA (Zw a.1) λn _=>AM (λ_=>AB b) (λ_=>AA (iN a.1 a.2 b.2) λo f=>?_);have d:=b.trans f.1;refine AK (λ_=>?_) (λ_=>?_);exact AA Bx λp _=>AB d;refine AQ (λ_=>AB d) (λc0=>AB ⟨d,?_⟩);have:=f.2 c0;dsimp only at*;rw[l]at this;exact this
def iM{x:AS}(h:SK B x.1)(p:Dg x.1.2.2.1)(g:DJ B x.1.2.2.1 x.2):Ar (Mn x) λr=>r.2.2=0->SR B x r.1:=by
 unfold Mn;refine AA (B6 h.sb) λv H=>AM (λ_=>AB n!) (λc=>AC (λc=>?_) (λ_=>?_));simp only[len]at c;refine AA (AI (Ad _) c) λJ _=>AA (HS h g) λK y=>AB λa=>(y a).1.sr;refine AA (iI h) λF _=>AQ (λ_=>AB λ_=>⟨KL.refl h p,g⟩) (λk=>?_);simp only[len]at k;refine AA (P:=λr=>r.2.1=0->SR B x r.2.2) ?_ λr hr=>AB hr;obtain⟨id,t,G⟩:=(AI (l:=F) (i:=0) (Ad _))
 refine AV (λ(s:AS×AS)=>SR B x s.1) (λ(s:AS×AS)=>flag (∃e,NX s.1.1 id e/\ ¬na s.1.1.2.2.2.1 e.2.2.2.2.2.2.1.1)) ⟨KL.refl h p,g⟩ (λs b=>?_);have j:=b.1.2.2;unfold UV;rw[t];apply A7;refine AA (VW j.1 j.2) λL A=>?_;obtain⟨k1,C,I,D⟩:=A;refine AQ (λz=>AB λa=>absurd a (D z)) (λ_=>AK (λ_=>AB λ_=>⟨b.1.trans k1,b.2.up k1.2.1⟩) (λq=>?_));obtain⟨e,n,u,w⟩:=C q;refine AA (HS j.1 b.2) λM o=>AK (λc=>AB λa=>absurd a c) (λa=>AB ⟨b.trans (o a).1.sr,?_⟩);obtain⟨m,d⟩:=o a;have E:=m.1.2.2.2.2.1;rw[xJ (⟨e,n,w⟩: ∃e,NX s.1.1 id e/\ ¬na s.1.1.2.2.2.1 e.2.2.2.2.2.2.1.1),xI];omega;rintro⟨f,q1,q2⟩;have:=n.uniq q1 E m.1.2.1;subst this;dsimp only at d;rw[u]at d;exact q2 d
end Go.Pm
namespace Go.Pm
open Go Go.Ab
set_option maxHeartbeats 400000
def runN{S R:Type}(f:S->Option (Step S R)):Nat->S->Option R
 |0,_=>none
 |n+1,s=>
  match f s with
  |some (.next s')=>runN f n s'
  |some (.done r)=>some r
  |none=>none
def xn{S R:Type}{f:S->Option (Step S R)}{r:R}: ∀{n:Nat} {s:S},runN f n s=some r->AZ f s=some r
 |0,s,h=>by cases h
 |n+1,s,h=>by simp only[runN]at h;rw[Dv];split at h;rename_i b e;rw[e];exact xn h;rename_i a e;rw[e];exact h;cases h
def Uo:BW:=[80,77,76,71,1,0,0,0,0,0,0,0]
def AF0:Aj (([80,77,76,71]:List UInt8),(1,8))=some Uo:=by rw[(by kernel_rfl:Aj (([80,77,76,71]:List UInt8),(1,8))=Option.bind (AZ (GL (([80,77,76,71]:List UInt8),(1,8))) (([80,77,76,71]:List UInt8),0)) λa=>some a),xn (n:=10) (r:=Uo) (by kernel_rfl)];rfl
def AFb:Av (Uo,(4,8))=some (1,0):=by rw[(by kernel_rfl:Av (Uo,(4,8))=Option.bind (AZ (GK (Uo,(4,8))) (0,0)) λa=>some ((wi a),0)),xn (n:=10) (r:=1) (by kernel_rfl)];rfl
def nP(a b:List AE):Ka (a++b)=Ka a++Ka b:=by grind[Ka]
def AHO:MW 1=some (Ib Uo):=by unfold MW;rw[AF0,AD,bv g!,AD]
def AFZ{e:AE}(h:ML e):Ih e=some (Ib (B9 e)):=by grind[Ih,qo,bv,Sk]
def Dg.ent{l:Ae}(h:Dg l){e:AE}(a:e∈l.2.1):ML e:=by have⟨k,b⟩:=Iz.1 a;exact(h.2.2.2.2.2 k e b).2
def AFL{l:Ae}{a:Int}(h:Dg l)(D:l.1=1):Ar (Gs (l,a)) λr=> ∃m:Nat,r=Ib Uo++(Ka (l.2.1.take l.2.2.toNat)++(Ka (l.2.1.drop l.2.2.toNat)).take m):=by
 have O:=h.2.2.1;have Q:=h.2.2.2.1;have R:=h.2.2.2.2.1;have b: ∀k:List AE,(∀e∈k,e∈l.2.1)->(Ka k).length<=8400*k.length:=λk w=>sI λe d=>h.ent (w e d);have⟨v,H,g⟩:=Be (x:=l);have g:=g.2 h;subst g;unfold Gs;dsimp only;rw[H,AD,Cg,cond_false,D,AHO,AD];refine AA (P:=λr=>r=(Ib Uo++Ka (l.2.1.take l.2.2.toNat),Ka (l.2.1.drop l.2.2.toNat))) ?_ λK o=>?_
 ·refine Cf (λ(s:BW×BW×Int)=> ∃k:Nat,k<=l.2.1.length/\s=(Ib Uo++Ka ((l.2.1.take k).take l.2.2.toNat),(Ka ((l.2.1.take k).drop l.2.2.toNat),(k:Int)))) (λs=>l.2.1.length-s.2.2.toNat) ⟨0,Bi _,by simp[Ka]⟩ ?_;rintro s ⟨k,w,rfl⟩;unfold Sr;dsimp[len];refine AC (λB=>?_) (λB=>Ar.done (by rw[BK (l:=l.2.1) (i:=k) o!]));have f:k<l.2.1.length:=o!
  have I:ix l.2.1 (k:Int)=some l.2.1[k]:=by unfold ix;rw[if_pos o!,Int.toNat_natCast,List.getElem?_eq_getElem f]
  have j:=h.2.2.2.2.2 k _ (A4 f);have t:l.2.1.take (k+1)=l.2.1.take k++[l.2.1[k]]:=t!
  have E:(l.2.1.take k).length=k:=q!
  have y:(Ib Uo++Ka ((l.2.1.take k).take l.2.2.toNat)).length<=40000000:=by
   have:=b ((l.2.1.take k).take l.2.2.toNat) λe d=>Hi (Hi d);have c:(Ib Uo).length=20:=by rw[FJ];rfl
   grind[List.length_append,List.length_take]
  have z:(Ka ((l.2.1.take k).drop l.2.2.toNat)).length<=40000000:=q!
  have C:=Sk j.2;rw[I,AD,AD,AD,AFZ j.2,AD,AD,AX (x:=(k:Int)+1)];refine AA (P:=λr=>r=(Ib Uo++Ka ((l.2.1.take (k+1)).take l.2.2.toNat),Ka ((l.2.1.take (k+1)).drop l.2.2.toNat))) ?_ λJ n=>?_;apply AC<;>intro S;have q:k+1<=l.2.2.toNat:=o!
  refine AA (Cm (by rw[FJ];omega)) λN u=>AB ?_;grind[List.drop_of_length_le,List.length_take,List.take_of_length_le,Sl,List.append_assoc];have q:l.2.2.toNat<=k:=o!
  refine AA (Cm (by rw[FJ];omega)) λN u=>AB ?_;rw[u.1,t,fF o!,pX o!,Sl]
  ·rw[n];exact Ar.next ⟨k+1,f,by rw[show(k:Int)+1=((k+1:Nat):Int) by omega]⟩ d!
 subst o;dsimp[len];have A: ∃m:Nat,(if(((Ka (l.2.1.drop l.2.2.toNat)).length:Int)<(if(0>a)then 0 else a))then((Ka (l.2.1.drop l.2.2.toNat)).length:Int)else(if(0>a)then 0 else a))=(m:Int)/\m<=(Ka (l.2.1.drop l.2.2.toNat)).length:=by refine⟨(if(((Ka (l.2.1.drop l.2.2.toNat)).length:Int)<(if(0>a)then 0 else a))then((Ka (l.2.1.drop l.2.2.toNat)).length:Int)else(if(0>a)then 0 else a)).toNat,?_,?_⟩;split<;>split<;>omega;split<;>split<;>omega
 have⟨m,F,G⟩:=A;rw[F];refine AA (Co (Ad _)) λL c=>?_;have y:(Ib Uo++Ka (l.2.1.take l.2.2.toNat)).length<=40000000:=by
  have:=b (l.2.1.take l.2.2.toNat) λe d=>Hi d;have c:(Ib Uo).length=20:=by rw[FJ];rfl
  rw[Aa];rw[BM]at this;omega
 have z:(Ka (l.2.1.drop l.2.2.toNat)).length<=40000000:=by have:=b (l.2.1.drop l.2.2.toNat) λe d=>WI d;rw[FY]at this;omega
 refine AA (Cm (by have:=c.2;omega)) λM p=>AB ⟨m,?_⟩;rw[p.1,c.1,A6];simp
def AH7{n:Nat}(h:n<=8392):ej 4 (n:Int):=⟨λ_=>q!,o!⟩
def AFa{p q s t:BW}(d:p.length<=8392)(e:q.length<=8392)(h:Ib p++s=Ib q++t):p=q/\s=t:=by
 have c:p.length=q.length:=by have a:=h;unfold Ib at a;simp at a;have:=(MF a (by rw[Aw,Aw])).1;have:=aD g! (AH7 d) (AH7 e) this;omega
 have⟨b,f⟩:=MF h (by rw[FJ,FJ,c]);have g:=(MF b q!).2;grind[List.append_inj]
def AHY{b:List AE}{t y z:BW}{d:Nat}(hn:b.length<=4096)(D: ∀(i:Nat) (e:AE),b[i]? =some e->e.1=1+i/\ML e)(G:t++y=Ka b)(M:t=Ka (b.take d)++z):Ar (JS (Ib Uo++t)) λr=>r.2=0-> ∃k:Nat,k<=b.length/\min d b.length<=k/\r.1=(1,(b.take k,(k:Int))):=by
 have S:=sI (l:=b) λe A=>by obtain⟨k,m⟩:=Iz.1 A;exact(D k e m).2
 have U:t.length<=40000000:=by have:=congrArg List.length G;rw[Aa]at this;omega
 have C:(Ib Uo).length=20:=by rw[FJ];rfl
 have W:(Ib Uo++t).length<=50000000:=by rw[Aa];omega
 unfold JS;have o:Bo (Ib Uo++t,0)=some (Uo,(20,0)):=by refine(TU (a:=[]) (t:=Ib Uo++t) w!).trans (congrArg some ?_);rw[jy g!];rfl
 rw[o,AD];dsimp only;rw[show((0:Int) !=0)=false by decide,cond_false,show(len Uo !=12)=false by decide,cond_false,show Up Uo 0 4=some [80,77,76,71]from rfl,AD,bne_self_eq_false,cond_false,AFb,AD];dsimp only;rw[decide_eq_false g!,cond_false,decide_eq_false g!,cond_false,show wi ((1:Int)-1)=0 from rfl];refine AA (P:=λr=> ∃k:Nat,k<=b.length/\min d b.length<=k/\((∃u,r= .inl u/\u.2=(1,(b.take k,(k:Int))))\/ ∃u,r= .inr u/\(u.2.1,(u.1,u.2.2.1))=(1,(b.take k,(k:Int))))) ?_ λr hr=>?_
 ·refine Cf (λ(s:Int×List AE×Int×Int×Ae)=> ∃(k:Nat) (z:Ae) (c:BW),k<=b.length/\s=(((Ib Uo++Ka (b.take k)).length:Int),(b.take k,(1,((k:Int),z))))/\t=Ka (b.take k)++c) (λs=>b.length-s.2.1.length) ⟨0,(0,([],0)),t,Bi _,by simp[Ka,C],by simp[Ka]⟩ ?_;rintro s ⟨k,z,c,m,rfl,hr⟩;have E:(b.take k).length=k:=by rw[BM];omega
  have H:k<min d b.length-> ∃p R,p.length<=8392/\c=Ib p++R:=λn=>by
   have g:k<b.length:=o!
   have N:b.take d=b.take (k+1)++(b.take d).drop (k+1):=by
    conv=>lhs;rw[<-Da (k+1) (b.take d)]
    rw[Ko,Q1 o!]
   have O:b.take (k+1)=b.take k++[b[k]]:=by rw[Ce,A4 g];rfl
   rw[N,O,nP,Sl,A6,A6]at M;exact⟨_,_,Sk (D k _ (A4 g)).2,(MF (hr.symm.trans M) rfl).2⟩
  unfold UL;dsimp only[len];refine AC (λQ=>?_) (λQ=>Ar.done ⟨k,m,Nat.le_of_not_lt λn=>?_,.inr ⟨_,rfl,rfl⟩⟩);rotate_left 1;omega;have w:Ib Uo++t=(Ib Uo++Ka (b.take k))++c:=by rw[hr,A6]
  have F:=congrArg List.length w;rw[@Aa _ (Ib Uo++Ka (b.take k)) _]at F;have o:Bo (Ib Uo++t,((Ib Uo++Ka (b.take k)).length:Int))=some (UF (Ib Uo++Ka (b.take k)).length c):=by
   conv=>lhs;arg 1;rw[w]
   exact TU o!
  rw[o,AD];refine AK (λB=>Ar.done ⟨k,m,Nat.le_of_not_lt λn=>?_,.inl ⟨_,rfl,rfl⟩⟩) (λB=>?_);obtain⟨p,R,T,V⟩:=H n;rw[V,jy T]at B;exact B rfl;obtain⟨X,⟨q,J⟩,Y⟩:=yI B;have j:Ka b=Ka (b.take k)++Ka (b.drop k):=by rw[<-nP,Da]
  have f:c++y=Ka (b.drop k):=by rw[hr,A6,j]at G;exact(MF G rfl).2
  by_cases g:k<b.length
  ·have h:=D k _ (A4 g);rw[RY g,oX,J,A6]at f;obtain⟨I,Z⟩:=AFa X (Sk h.2) f;rw[I,AET h.2,AD];dsimp only;rw[show((0:Int) !=0)=false by decide,cond_false,AX (x:=(k:Int)+1),show(b[k].1 !=(k:Int)+1)=false by rw[h.1];exact bne_eq_false_iff_eq.2 o!,cond_false];have v:b.take (k+1)=b.take k++[b[k]]:=by rw[Ce,A4 g];rfl
   refine AA (Ac (by rw[Cu,Ck];omega)) λv6 L=>Ar.next ⟨k+1,z,q,g,?_,?_⟩ ?_
   rw[L.1,Y,I,v,Sl,<-A6,Aa (bs:=Ib (B9 b[k])),FJ];refine DT ?_ (DT rfl (DT rfl (DT ?_ rfl)));dsimp only;omega;dsimp only;rw[h.1];omega;rw[hr,v,Sl,A6,<-I,<-J];dsimp only;rw[L.2.1,E];simp only[Cu,Ck];omega
  exfalso;rw[YK o!]at f;have K:=congrArg List.length f;rw[J,Aa,Aa,FJ]at K;simp[Ka]at K
 obtain⟨k,m,A,⟨u,rfl,o⟩|⟨u,rfl,o⟩⟩:=hr;exact BG (AB λ_=>⟨k,m,A,o⟩);exact A3 (AB λ_=>⟨k,m,A,o⟩)
variable {B:Int->Prop}
def CB(n:Int)(P:List AE)(s:BW):Prop:= ∃es t y z,∃d:Nat,s=Ib Uo++t/\t++y=Ka es/\es.length<=4096/\He es/\LI n es/\P=es.take d/\t=Ka (es.take d)++z
def yY{n a:Int}{l:Ae}(h:Dg l)(b:l.1=1)(c:LI n l.2.1):Ar (Gs (l,a)) (CB n (dl l)):=by
 refine(AFL h b).mono λr ⟨m,hr⟩=>⟨l.2.1,_,(Ka (l.2.1.drop l.2.2.toNat)).drop m,_,l.2.2.toNat,hr,?_,h.2.2.1,h.num b,c,rfl,rfl⟩
 rw[A6,Da,<-nP,Da]
def CB.open_{n:Int}{P:List AE}{s:BW}(h:CB n P s):Ar (JS s) λr=>r.2=0->Dg r.1/\r.1.1=1/\LI n r.1.2.1/\ ∃m,P=(dl r.1).take m:=by
 obtain⟨b,t,y,z,d,rfl,p,hn,c,g,rfl,j⟩:=h;refine(AHY hn c p j).mono λr hr u=>?_;obtain⟨k,v,o,e⟩:=hr u;rw[e];have w:(b.take k).length=k:=q!
 refine⟨⟨Ad _,q!,q!,q!,d!,λi f l=>?_⟩,rfl,?_,min d b.length,?_⟩;have:=c.take k i f l;exact this;rw[<-Da k b]at g;exact g.pre;unfold dl;dsimp only;rw[Ct,Ko,Ko,Q1 (a:=min d b.length) o!,Q1 o];rcases Nat.le_total d b.length with q|q;rw[Q1 q];rw[Nat.min_eq_right q,BK q,Hk]
def SQB(B:Int->Prop)(n:Int)(s:AS):Prop:=s.1.1=n/\SK B s.1/\Dg s.1.2.2.1/\DJ B s.1.2.2.1 s.2
def SQ(n:Int)(s:AS):Prop:= ∃B,SQB B n s
def SQB.sr{n:Int}{s r:AS}(h:SQB B n s)(g:SR B s r):SQ n r:=⟨B,g.1.1.trans h.1,g.1.2.2.1,g.1.2.2.2,g.2⟩
def iK{P:List AE}{x:BP×BW×Int×Int}(n:CB x.2.2.1 P x.2.1)(o:DP B P x.1):Ar (RO x) λr=>r.2=0->SQ x.2.2.1 r.1:=by refine AA n.open_ λp j=>AK (λa=>AB λb=>absurd b a) (λc=>?_);obtain⟨f,g,h,m,i⟩:=j c;refine AA (Zu f g h) λq k=>AK (λa=>AB λb=>absurd b a) (λd=>?_);obtain⟨a1,a2,a3,a4,a5⟩:=k d;refine AA (eK (B:=B) f ⟨a2,a3,a4⟩ q! q!) λs l=>AK (λa=>AB λb=>absurd b a) (λe=>AB λ_=>?_);obtain⟨q1,q2,q3,q4⟩:=l e;exact⟨B,q1.trans a1,q2,q3,DJ.up ⟨g,o.up i⟩ q4⟩
def iL{P:List AE}{x:BP×BW×Int×Int}(b:CB x.2.2.1 P x.2.1)(c:DP B P x.1):Ar (RP x) λr=>r.2=0->SQ x.2.2.1 r.1:=by exact AA (iK b c) λd a=>AB a
theorem AHu{n o:BW}{c:Nat}(hn:n.length=256)(p:o.length=256)(h:n.take 8=n.drop 248)(d:o.take 8=o.drop 248)(j:n.take 8=o.take 8->n=o)(b:(n.take c++o.drop c).take 8=(n.take c++o.drop c).drop 248):n.take c++o.drop c=n\/n.take c++o.drop c=o:=by
 have g: ∀i:Nat,(n.take c++o.drop c)[i]? =if i<c then n[i]? else o[i]? :=λi=>by grind
 have q: ∀{l:BW},l.take 8=l.drop 248-> ∀i:Nat,i<8->l[i]? =l[248+i]? :=λ{l} e i a=>by have:=congrArg (λl:BW=>l[i]?) e;rw[Jb a,Ja]at this;exact this
 by_cases m:c<8;refine .inr (I2 λi=>?_);rw[g i];split;rename_i a;have:=q b i (by omega);rw[g,g,if_pos a,if_neg (by omega),<-q d i (by omega)]at this;exact this;rfl;refine .inl ?_;by_cases k:c<=248;have e:n=o:=j (I2 λi=>by by_cases a:i<8;have:=q b i a;rw[g,g,if_pos (by omega),if_neg (by omega),<-q d i a]at this;rw[Jb a,Jb a];exact this;rw[Cc (by rw[BM];omega),Cc (by rw[BM];omega)]);rw[e,Da];refine I2 λi=>?_;rw[g i];split;rfl;rename_i a;by_cases f:i<256;have:=q b (i-248) (by omega);rw[g,g,if_pos (by omega),if_neg (by omega),show 248+(i-248)=i by omega,q h (i-248) (by omega),show 248+(i-248)=i by omega]at this;exact this.symm;rw[Cc (by omega),Cc (by omega)]
def AEt:(jq 256).take 8=(jq 256).drop 248:=g!
def DP.tear{P:List AE}{d t:BP}{p:Int}{o n m:BW}{c:Nat}(h:DP B P d)(z:0≤p)(f:B p)(E:DI t)(I:d.1[p.toNat]? =some o)(H:m=n.take c++o.drop c)(F:t.1=E4 d.1 p m){x:AU}(r:G8 x)(hn:n=Hn x)(D:AGw P p n)(N:1≤x.2.1)
  (M: ∀j,(st (P.take j) p).2.1=x.2.1->st (P.take j) p=x) (K: ∀j,G8 (st (P.take j) p)): ∃A,DP A P t:=by
 have g:=(h.2 _ _ I).1 (by rw[I1 z];exact f);rw[I1 z]at g;have y: ∀(i:Nat) (s:BW),i≠p.toNat->t.1[i]? =some s->d.1[i]? =some s:=λi s l a=>by rw[F]at a;unfold E4 at a;rwa [Dw o!]at a
 have w: ∀s:BW,t.1[p.toNat]? =some s->s=m:=λs a=>by rw[F]at a;unfold E4 at a;grind
 by_cases b:dead m;refine⟨λj=>B j/\j≠p,E,λi s a=>?_⟩;by_cases l:i=p.toNat
 subst l;rw[w s a];exact⟨λf=>absurd (I1 z) f.2,.inr b⟩;have:=h.2 i s (y i s l a);exact⟨λf=>this.1 f.1,this.2.imp_left λf=>⟨f,o!⟩⟩;have C:m.take 8=m.drop 248:=by by_cases L:m=jq 256;rw[L];exact AEt;by_cases J: ∃q,G8 q/\m=Hn q;obtain⟨q,q1,q2⟩:=J;rw[q2,VD,oQ q1];exact absurd ⟨L,λq q1 q2=>J ⟨q,q1,q2⟩⟩ b
 have v:o.take 8=o.drop 248/\(n.take 8=o.take 8->n=o):=by rcases g with rfl|⟨j,rfl⟩;refine⟨AEt,λe=>?_⟩;rw[hn,VD]at e;have:=aD (k:=8) (n:=x.2.1) (m:=0) g! ⟨n!,by have:=r.2.2.1;omega,by have:=r.2.2.2.1;omega⟩ ⟨n!,g!,g!⟩ e;omega;refine⟨VD.trans (oQ (K j)).symm,λe=>?_⟩;rw[hn,VD,VD]at e;have G:=K j;have:=aD (k:=8) g! ⟨n!,by have:=r.2.2.1;omega,by have:=r.2.2.2.1;omega⟩ ⟨n!,by have:=G.2.2.1;omega,by have:=G.2.2.2.1;omega⟩ e;rw[hn,M j this.symm]
 have u:=AHu (c:=c) (by rw[hn];exact dQ r) (h.1.2.1 _ _ I) (by rw[hn,VD,oQ r]) v.1 v.2 (by rw[<-H];exact C);rw[<-H]at u;refine⟨B,E,λi s a=>?_⟩;by_cases l:i=p.toNat
 subst l;rw[w s a,I1 z];refine⟨λ_=>?_,.inl f⟩;rcases u with e|e<;>rw[e];exact D;exact g;exact h.2 i s (y i s l a)
def eM{x:AS×Int×Int×Int}(h:SK B x.1.1)(D:Dg x.1.1.2.2.1)(v:DJ B x.1.1.2.2.1 x.1.2):Ar (Le x) λr=> ∃A P,DP A P r.1/\CB x.1.1.1 P r.2:=by
 unfold Le;refine AA FN λi Q=>AC (λO=>?_) (λ_=>AA (yY D v.1 h.ki.1) λL E=>AB (⟨B,dl x.1.1.2.2.1,v.2,E⟩: ∃A P,DP A P x.1.2/\CB x.1.1.1 P L));have⟨J,f,G,m⟩:=Q.2.2.1 O;obtain⟨g,M,Y,c⟩:=AI O Q.2.1;have e:=Ba (Y.symm.trans G);subst e;dsimp only at M m c;rw[M];refine A7 (AA (P:=λr:AP×BP=>(∃A,DP A (dl r.1.2.2.1) r.2)/\Dg r.1.2.2.1/\r.1.2.2.1.1=1/\LI x.1.1.1 r.1.2.2.1.2.1) ?_ λv8 W=>?_);rotate_left 1;obtain⟨⟨A,R⟩,S,T,N⟩:=W;refine AA (yY S T N) λv9 X=>AB ?_;exact⟨A,dl v8.1.2.2.1,R,X⟩;refine AJ (λF=>?_) (λ_=>?_);rotate_left 1;apply AB;exact⟨⟨B,v.2⟩,D,v.1,h.ki.1⟩;have⟨t,n,_⟩:=J.2.2.2.2.2.1 i.toNat g (by have:=DQ G;omega) G;have n:=n F;apply A7;rw[bu t];refine A7 (A7 (AA (Jo h D) λu a=>AA (gq v.2.1) λv6 U=>?_));have b:=v.up a.1.2.1;have q:=h.ki.2.2 g c;have K:=a.1.2.2.1.num b.1;have N:=a.1.2.2.1.2.2.1;have C:=a.1.2.2.2.2.2.ki;have s:g.1=st u.2.2.1.2.1 x.2.2.1:=by have:=(C.2.1 x.2.2.1 o! (by rw[a.1.1];dsimp only;omega)).1 g (by rw[a.2.1];exact c) m;exact this
 have I:=Xk K (p:=x.2.2.1) ⟨o!,by rw[<-m];exact t.2.1⟩ o!;have y:Bg u.2.2.1.2.1 x.2.2.1=g.1.2.1:=by rw[<-ME,<-s]
 have w:=a.2.2 (by have:=lq D g.1.1;have:=congrArg (λz=>z.2.1) ((h.ki.2.1 g.1.1 q.1 q.2.1).1 g c rfl);rw[ME]at this;dsimp only;omega);refine AA (P:=λd=> ∃A,DP A (dl u.2.2.1) d) (AQ (λZ=>AB ?_) (λ_=>AB ⟨B,b.2⟩)) λv7 V=>AB ⟨V,a.1.2.2.1,b.1,by have:=C.1;rw[a.1.1]at this;exact this⟩;obtain⟨t1,o,t2,t3,t4⟩:=U Z;refine b.2.tear t2 (by rw[<-m];exact q.2.2.2) t1 t3 rfl t4 t rfl ?_ o! (λj H=>?_) λj=>?_;refine .inr ⟨(dl u.2.2.1).length,?_⟩;rw[Hk];unfold dl;dsimp only at w⊢;rw[AEk K o!,<-s];unfold dl at H⊢;rw[Ko]at H⊢;rw[s,<-Hk (l:=u.2.2.1.2.1)];rw[Hk];have:=mC K (p:=x.2.2.1) (j:=min j u.2.2.1.2.2.toNat) (k:=u.2.2.1.2.1.length) (by rw[Hk,y,<-H,ME]);rwa [Hk]at this;unfold dl;rw[Ko];exact I _
def EZ{x:Int}:Ar (Dy x) λr=>True:=by exact AK (λ_=>AA Bx λ_ _=>AB trivial) (λ_=>AB trivial)
end Go.Pm
namespace Go.Pm
open Go Go.Ab
set_option maxHeartbeats 400000
def bh{m:Nat}{c:AS×Bool}{s:Int×List Int×AS×Bool}(i:m<=16777216)(h:0<=s.1/\s.1<=m/\s.2.1.length=m/\s.2.2=c):Ar (AZ PZ s) λr=>r.1.length=m/\r.2=c:=by refine AV (λ(s:Int×List Int×AS×Bool)=>0<=s.1/\s.1<=m/\s.2.1.length=m/\s.2.2=c) (λ(s:Int×List Int×AS×Bool)=>((m:Int)-s.1).toNat) h (λs g=>?_);obtain⟨b,j,d,f⟩:=g;unfold PZ;have e:=AX (x:=s.1+1);rw[e];refine AC (λa=>?_) (λ_=>AB ⟨d,f⟩);simp only[len]at a;refine AA (AI b a) λ_ _=>AA (AI b a) λ_ _=>AB ⟨⟨d!,d!,by simp[E4,d],f⟩,d!⟩
def jn{n:Int}{x:AS×List Km}(h:SQ n x.1):Ar (Nw x) λr=>SQ n r.1:=by
 unfold Nw;refine AA (P:=λr=>SQ n r.2.2.2.1) ?_ λr hr=>AB hr;refine AV (λ(s:Int×List BT×List Int×List Iw×AS×Bool)=>0<=s.1/\s.1<=1000/\s.2.1.length<=s.1/\s.2.2.1.length<=s.1/\s.2.2.2.1.length<=s.1/\SQ n s.2.2.2.2.1) (λ(s:Int×List BT×List Int×List Iw×AS×Bool)=>(1000-s.1).toNat) ⟨Ad _,d!,k!,k!,k!,h⟩ (λs X=>?_);obtain⟨Z,i2,i3,i4,i5,o⟩:=X;obtain⟨B,i⟩:=id o;obtain⟨q1,q2,q3,q4⟩:=id i;unfold VY;refine AC (λS=>?_) (λ_=>AB o);refine AC (λY=>?_) (λ_=>AB o);refine AM (λ_=>?_) (λ_=>AB o);simp only[len]at S;have e:=AX (x:=s.1+1);have b: ∀(v:BT) (t:List Int×List Iw×AS×Bool),t.1.length<=s.1+1->t.2.1.length<=s.1+1->SQ n t.2.2.1-> ∀Q:Step (Int×((List BT)×((List Int)×((List Iw)×(AS×Bool))))) ((List BT)×((List Int)×((List Iw)×(AS×Bool))))->Prop,(∀a:Int×List BT×List Int×List Iw×AS×Bool,(0<=a.1/\a.1<=1000/\a.2.1.length<=a.1/\a.2.2.1.length<=a.1/\a.2.2.2.1.length<=a.1/\SQ n a.2.2.2.2.1)/\(1000-a.1).toNat<(1000-s.1).toNat->Q (.next a))->Ar (Option.bind (app s.2.1 ([v]:List (Int×(Int×(Int×((Bool×BW)×Int)))))) λD=>some (.next ((wi (s.1+1)),(D,t)))) Q:=by intro v t h1 O G Q I;refine AA (Ac w!) λD W=>AB (I _ ?_);have l7:=W.2.1;simp only[Cu,Ck]at l7;rw[e];exact⟨⟨d!,d!,d!,d!,d!,G⟩,d!⟩
 have same: ∀(v:BT) (Q:Step (Int×((List BT)×((List Int)×((List Iw)×(AS×Bool))))) ((List BT)×((List Int)×((List Iw)×(AS×Bool))))->Prop),(∀a:Int×List BT×List Int×List Iw×AS×Bool,(0<=a.1/\a.1<=1000/\a.2.1.length<=a.1/\a.2.2.1.length<=a.1/\a.2.2.2.1.length<=a.1/\SQ n a.2.2.2.2.1)/\(1000-a.1).toNat<(1000-s.1).toNat->Q (.next a))->Ar (Option.bind (app s.2.1 ([v]:List (Int×(Int×(Int×((Bool×BW)×Int)))))) λD=>some (.next ((wi (s.1+1)),(D,s.2.2)))) Q:=λv Q I=>b v s.2.2 o! o! o Q I;refine AA (AI Z S) λv1 _=>AQ (λ_=>?_) (λ_=>?_);refine AA (eL q2 q3 q4) λv2 O=>AA (P:=λr=>r.1.length<=s.1+1/\r.2=s.2.2.2.2) ?_ λv4 R=>?_;refine AQ (λ_=>?_) (λ_=>AB ⟨d!,rfl⟩);refine AA (Ac w!) λv3 G=>AB ⟨?_,rfl⟩;have:=G.2.1;simp at this;dsimp only;omega;refine AA (P:=λr=>SQ n r.1) ?_ λv5 V=>?_;refine AQ (λf=>AB (i.sr (O f))) (λ_=>AB (by rw[R.2];exact o));refine AA EZ λv6 _=>b _ (v4.1,(s.2.2.2.1,v5)) R.1 d! V _ (λ_ h=>h);refine AQ (λ_=>?_) (λ_=>?_);refine AC (λ_=>AA Bx λN _=>same _ _ (λ_ h=>h)) (λc1=>AC (λ_=>AA Bx λN _=>same _ _ (λ_ h=>h)) (λT=>?_));simp only[len]at T;have U:=AX (x:=v1.2.1-1);rw[U];refine AA (AI) λad _=>AA (AI) λag _=>AQ (λ_=>AA Bx λN _=>same _ _ (λ_ h=>h)) (λ_=>AA (AI) λal _=>AA (AI) λao _=>AA (kq q2 q3 q4) λJ E=>?_);have u:=i.sr E;refine AQ (λ_=>same _ _ (λ_ h=>h)) (λ_=>AQ (λ_=>?_) (λ_=>?_));refine AA (P:=λr=>r.1.length<=s.1+1/\SQ n r.2.1) ?_ λK y=>b _ (s.2.2.1,K) d! y.1 y.2 _ (λ_ h=>h);refine AQ (λ_=>?_) (λ_=>AB ⟨d!,u⟩);refine AA GO λap _=>AA (Ac w!) λar F=>AB ⟨?_,u⟩;have:=F.2.1;simp at this;dsimp only;omega;exact b _ (s.2.2.1,(s.2.2.2.1,(J.1,s.2.2.2.2.2))) d! d! u _ (λ_ h=>h);refine AQ (λ_=>?_) (λ_=>?_);refine AA (eN q2 q3 q4) λC j=>AA (P:=λr=>SQ n r.1) (AQ (λf=>AB (i.sr (j f))) (λ_=>AB o)) λg d=>AA EZ λw _=>b _ (s.2.2.1,(s.2.2.2.1,g)) d! d! d _ (λ_ h=>h);refine AQ (λ_=>?_) (λ_=>?_);refine AA (XX q2 q4) λC j=>AA (P:=λr=>SQ n r.1) (AQ (λf=>AB (i.sr (j f))) (λ_=>AB o)) λg d=>AA EZ λw _=>b _ (s.2.2.1,(s.2.2.2.1,g)) d! d! d _ (λ_ h=>h);refine AQ (λ_=>?_) (λ_=>?_);refine AA GO λax _=>AA Jl λa0 k=>AA (P:=λr=>SQ n r.1) (AQ (λf=>AB ⟨B,q1,SB.sk q2.sb (q2.ki.of rfl (k f).2.1 rfl rfl),(k f).1,q4.up (LX.of (k f).2.2.1 (k f).2.1 (k f).2.2.2.1)⟩) (λ_=>AB o)) λg d=>AA EZ λw _=>b _ (s.2.2.1,(s.2.2.2.1,g)) d! d! d _ (λ_ h=>h);refine AQ (λ_=>?_) (λ_=>?_);refine AA (eM q2 q3 q4) λa1 ⟨A,P,z⟩=>AA (iL z.2 z.1) λL H=>AA (bh (m:=s.2.2.1.length) (c:=s.2.2.2.2) o! ⟨Ad _,d!,rfl,rfl⟩) λp q=>AK (λ_=>?_) (λf=>?_);refine AA EZ λM _=>b _ (p.1,(s.2.2.2.1,(p.2.1,true))) (by have:=q.1;dsimp only;omega) d! (by dsimp only;rw[q.2];exact o) _ (λ_ h=>h);refine AA EZ λM _=>?_;have l:=H f;dsimp only at l;rw[q1]at l;exact b _ (p.1,(s.2.2.2.1,(L.1,p.2.2))) (by have:=q.1;dsimp only;omega) d! l _ (λ_ h=>h);refine AQ (λ_=>?_) (λ_=>?_);refine AA (iM q2 q3 q4) λC j=>AA (P:=λr=>SQ n r.1) (AQ (λf=>AB (i.sr (j f))) (λ_=>AB o)) λg d=>AA EZ λw _=>b _ (s.2.2.1,(s.2.2.2.1,g)) d! d! d _ (λ_ h=>h);exact AA Bx λN _=>same _ _ (λ_ h=>h)
def CX(b:AW):Prop:=0<=b.2/\b.1.length<=16777216/\ ∀x∈b.1,0<=x/\x<256
def CX.step{b:AW}(h:CX b)(a:b.2<b.1.length):CX (b.1,wi (b.2+1)):=by have⟨a1,a2,a3⟩:=h;rw[(AX (x:=b.2+1))];exact⟨d!,a2,a3⟩
def WX{b:AW}(h:CX b):Ar (G6 b 256) λr=>CX r.2/\0<=r.1/\r.1<256:=by unfold G6;refine AC (λ_=>AB ⟨h,Ad _,by show(0:Int)<256;decide⟩) (λa=>?_);simp[len]at a;refine AC n! (λ_=>AA (AI h.1) λc d=>?_);have⟨f,g⟩:=h.2.2 c d.2;have e:=AX (x:=c);refine AC n! (λ_=>AQ n! (λ_=>AB ⟨h.step o!,?_,?_⟩));grind[Int.tmod_nonneg];grind[Int.tmod_lt_of_pos]
theorem Ap{b:AW}{x:Int}(h:CX b)(j:x<=4611686018427387904):Ar (An b x) λr=>CX r.2/\0<=r.1/\(r.1=0\/r.1<x):=by unfold An;refine AC (λ_=>AB ⟨h,Ad _,.inl rfl⟩) (λa=>?_);simp[len]at a;refine AC (λ_=>AB ⟨h,Ad _,.inl rfl⟩) (λf=>AA (AI h.1) λc e=>?_);have⟨d,g⟩:=h.2.2 c e.2;rw[(AX (x:=c))];refine AC (λ_=>?_) (λ_=>?_);refine AA (WX (h.step o!)) λk i=>?_;grind[AQ,AB,AX,Int.tmod_nonneg,Int.tmod_lt_of_pos];refine AQ (λa=>absurd a o!) (λ_=>AB ⟨h.step o!,Int.tmod_nonneg _ d,.inr (Int.tmod_lt_of_pos _ o!)⟩)
def Xz{b:AW}{x:Unit}(h:CX b):Ar (IL b x) λr=>CX r.2:=by unfold IL;refine AA (Ap h g!) λt e=>AA (Ap e.1 g!) λu m=>AA (P:=λr=>CX r.2/\0<=r.1/\r.1<=14) ?_ λc f=>?_;grind[AQ,AB,AA,Ap];have⟨d,a,k⟩:=f;refine AA (P:=λl:List Int=>l.length=0) ⟨_,if_pos ⟨Ad _,a,o!⟩,k!⟩ λv n=>AA (P:=λr=>CX r.2) ?_ λw g=>AB g;refine AV (λ(s:Int×List Int×AW)=>0<=s.1/\s.1<=c.1/\s.2.1.length<=s.1/\CX s.2.2) (λ(s:Int×List Int×AW)=>(c.1-s.1).toNat) ⟨Ad _,a,d!,d⟩ (λs i=>?_);have⟨o,p,q,j⟩:=i;unfold Pu;rw[(AX (x:=s.1+1))];refine AC (λ_=>?_) (λ_=>AB j);grind[AA,Ap,Ac,AB,List.length_cons,List.length_nil]
theorem Yq{b:AW}{x:Unit}(h:CX b):Ar (G0 b x) λr=>CX r.2:=by unfold G0;refine AA (Ap h g!) λf a=>AQ (λ_=>AA (Ap a.1 g!) λe c=>AB c.1) (λ_=>AQ (λ_=>?_) (λ_=>AA (Ap a.1 g!) λe c=>AB c.1));refine AA (Ap a.1 g!) λg d=>?_;have:=d.2.2;refine AA (AI d.2.1 w!) λ_ _=>?_;grind[AA,AI,AB]
theorem Wu{b:AW}{x:Int}(h:CX b)(u:x<=1099511627776):Ar (HX b x) λr=>CX r.2:=by
 unfold HX;refine AA (Ap h g!) λv a=>?_;have l:=a.2.2;refine AA (AI a.2.1 w!) λ_ _=>AA (AI a.2.1 w!) λw _=>AA (P:=λ_=>True) (AJ (λ_=>AB trivial) (λ_=>AA (P:=λ_=>True) (AJ (λ_=>AB trivial) (λ_=>AB trivial)) λ_ _=>AB trivial)) λy _=>AA (P:=λr=>CX r.1) ?_ λp e=>?_;refine AJ (λ_=>?_) (λ_=>?_);refine AA (Ap a.1 o!) λz m=>AA (Ap m.1 g!) λA j=>AA (P:=λr=>CX r.1) ?_ λt i=>AB i;refine AJ (λ_=>?_) (λ_=>AB j.1);refine AA (Xz j.1) λc n=>?_;have k:0<=(if(12<(len c.1))then 12 else(len c.1))/\(if(12<(len c.1))then 12 else(len c.1))<=c.1.length:=by simp[len];split<;>omega
 exact AA (Co (Ad _) k.1 k.2) λB _=>AB n;refine AA (P:=λr=>CX r.1) ?_ λt i=>AB i;exact AJ (λ_=>AA (Ap a.1 g!) λo d=>AB d.1) (λ_=>AB a.1);refine AA (Ap e g!) λq f=>AA (P:=λr=>CX r.1) ?_ λs g=>AB g;refine AJ (λ_=>?_) (λ_=>AB f.1);grind[AA,Yq,AB]
theorem X0{b:AW}{x:Int×Int×Bool}(h:CX b)(f:0<=x.1/\x.1<=64/\x.2.1<=64):Ar (IM b x) λr=>CX r.2:=by unfold IM;rw[(AX (x:=x.1+1))];refine AA (Ap h g!) λg a=>AA (P:=λ_=>True) (AJ (λ_=>AB trivial) (λ_=>AB trivial)) λi _=>AJ (λ_=>AB a.1) (λ_=>AJ (λ_=>AA (Ap a.1 o!) λj c=>AB c.1) (λ_=>AJ (λ_=>AB a.1) (λ_=>AJ (λ_=>AB a.1) (λ_=>AA (P:=λs=>(∃u,s= .inl u/\CX u.1)\/ ∃u,s= .inr u/\CX u.1) ?_ λs e=>?_))));refine AJ (λ_=>?_) (λ_=>AJ (λ_=>AB (.inl ⟨_,rfl,a.1⟩)) (λ_=>AB (.inr ⟨_,rfl,a.1⟩)));refine AJ (λ_=>?_) (λ_=>AB (.inr ⟨_,rfl,a.1⟩));refine AA (Ap a.1 g!) λk d=>?_;grind[AA,Ap,AB];grind[BG,AB,A3,AA,Ap,Wu]
def Vn{b:AW}{x:Int×Int×Bool}(h:CX b)(g:0<=x.1/\x.1<=64/\x.2.1<=1000/\ -1000<=x.2.1):Ar (Gj b x) λr=>CX r.2:=by unfold Gj;rw[(AX (x:=x.2.1+1))];refine AA (Ap h o!) λk a=>?_;have c:=a.2.2;refine AA (P:=λr=>CX r.2) ?_ λl d=>AB d;refine AV (λ(s:Int×List Km×AW)=>0<=s.1/\s.1+s.2.1.length<=1010/\CX s.2.2) (λ(s:Int×List Km×AW)=>s.1.toNat) ⟨a.2.1,w!,a.1⟩ (λs e=>?_);have⟨i,j,f⟩:=e;unfold MQ;rw[(AX (x:=s.1-1))];refine AC (λ_=>?_) (λ_=>AB f);grind[AA,X0,Ac,AB,List.length_cons,List.length_nil]
variable {B:Int->Prop}
def vG:Dg (1,([],0)):=⟨g!,g!,k!,g!,k!,λi e h=>by simp at h⟩
def je{x:Unit}:Ar (IB x) λr=>r=(1,([],0)):=by unfold IB;exact AB rfl
def jk{x:Int×Int}(h:1<=x.1/\x.1<=64/\1<=x.2/\x.2<=64):Ar (EH x) λr=>r.2=0/\r.1.1=x.1/\SK (λ_=>True) r.1/\Dg r.1.2.2.1/\r.1.2.2.1.1=1:=by unfold EH;refine AC (λa=>absurd a o!) (λ_=>AC (λa=>absurd a o!) (λ_=>AC (λa=>absurd a o!) (λ_=>AC (λa=>absurd a o!) (λ_=>AA LP λf c=>AA QF λg d=>AA je λi b=>AB ⟨rfl,rfl,⟨⟨k!,k!⟩,k!,k!,?_⟩,?_⟩))));unfold KI FD;dsimp only;rw[c,b];refine⟨LI.nil _,λp _ _=>⟨k!,k!,λw e=>?_⟩,k!⟩;have:=d w (BU e);exact⟨by rw[this];exact Ad _,λ_ _=>this⟩;dsimp only;rw[b];exact⟨vG,rfl⟩
def AFU{x:Int}(h:1<=x/\x<=64):Ar (El x) λr=>r.2=0:=by unfold El;refine AC (λa=>absurd a o!) (λ_=>AC (λa=>absurd a o!) (λ_=>AA (JC o!) λb _=>AB rfl))
def jm{x:Int×Int}(h:1<=x.1/\x.1<=64/\1<=x.2/\x.2<=64):Ar (Nv x) λr=>SQ x.1 r.1:=by unfold Nv;refine AA (jk h) λe a=>AK (λc=>absurd a.1 c) (λ_=>AA ((ja).and (AFU ⟨h.1,h.2.1⟩)) λf b=>AK (λc=>absurd b.2 c) (λ_=>AB ?_));exact⟨_,a.2.1,a.2.2.1,a.2.2.2.1,a.2.2.2.2,(b.1 b.2).1,λi s d=>⟨λ_=>.inl (((b.1 b.2).2.2 i s d).trans (mZ _)),.inl trivial⟩⟩
def WY{b:AW}{x:Int×Bool}(h:CX b)(c:x.1<=1000/\ -1000<=x.1):Ar (G7 b x) λr=>CX r.2/\ ∃n,1<=n/\n<=4/\SQ n r.1:=by unfold G7;refine AA (Ap h g!) λl a=>AA (Ap a.1 g!) λm g=>?_;obtain⟨a1,a2,a3⟩:=a;obtain⟨d,o,p⟩:=g;have e:=AX (x:=1+l.1);have f:=AX (x:=1+m.1);rw[e,f];refine AA (jm d!) λq i=>AA (Vn d ⟨d!,d!,c.1,c.2⟩) λs j=>AA (jn i) λt k=>AB ⟨j,_,d!,d!,k⟩
def Oo{b:AW}{x:Int×Bool}(h:CX b)(d:x.1<=1000/\ -1000<=x.1):Ar (HY b x) λr=>CX r.2/\1<=r.1.1/\r.1.1<=4/\LI r.1.1 r.1.2.2.1.2.1/\Dg r.1.2.2.1/\r.1.2.2.1.1=1:=by unfold HY;refine AA (WY h d) λg a=>AB ?_;obtain⟨c,n,e,f,_,q1,q2,q3,q4⟩:=a;exact⟨c,d!,d!,q2.ki.1,q3,q4.1⟩
def Wv{b:AW}{x:Int}(h:CX b)(g:x<=1000/\ -1000<=x):Ar (Kx b x) λr=>CX r.2.2/\1<=r.1/\r.1<=4/\Dg r.2.1/\ ∃n,LI n r.2.1.2.1:=by unfold Kx;refine AA (Oo h g) λk d=>?_;obtain⟨c,i,j,q2,q3,q4⟩:=d;refine AA GO λl f=>?_;have e:=f q3;refine AA (Jl.and (sX q3 d!)) λm a=>AB ⟨c,i,j,(a.1 a.2).1,_,by have:=q2;rw[<-(a.1 a.2).2.1]at this;exact this⟩
end Go.Pm
namespace Go.Pm
open Go Go.Ab
set_option maxHeartbeats 400000
def IV{x:Int×Int×Int×Int×Int}:Ar (HU x) λr=>r=true↔1<=x.1/\x.1<=x.2.1/\x.2.1<=1099511627776/\0<=x.2.2.1/\x.2.2.1<=x.2.2.2.1/\x.2.2.2.1<64/\0<=x.2.2.2.2/\x.2.2.2.2<=8:=by
 unfold HU;exact x!
theorem MA{x:AE×AE}:Ar (Dm x) λr=>True:=by
 unfold Dm;exact x!
def Qa{x:List AE×AE}{s:Int}(h:0<=s/\s<=x.1.length/\(x.1.length:Int)<=16777216):Ar (AZ (MC x) s) λr=>0<=r/\r<=x.1.length:=by
 refine AV (λ(s:Int)=>0<=s/\s<=x.1.length/\(x.1.length:Int)<=16777216) (λ(s:Int)=>((x.1.length:Int)-s).toNat) h (λs a=>?_);unfold MC;exact x!
theorem bj{x:List AE×AE}(h:x.1.length<=16777215):Ar (DZ x) λr=>r.1.length<=x.1.length+1:=by
 refine AA (Qa ⟨Ad _,o!⟩) λp b=>?_;have a:Ar (Option.bind (br x.1 0 p) λc=>
  Option.bind (br x.1 p (len x.1)) λd=>
  Option.bind (app [] c) λe=>
  Option.bind (app e ([x.2]:List (Int×(Int×(Int×(Int×(Int×(Int×((Int×(Int×((Bool×BW)×(Bool×BW))))×BW))))))))) λf=>
  Option.bind (app f d) λg=>
  some (g,true)) λr=>r.1.length<=x.1.length+1:=by
  refine AA (CU (Ad _) b.1 b.2) λk i=>AA (CU b.1 q! q!) λl j=>?_;grind[AA,Ac,AB]
 refine AC (λm=>?_) (λ_=>a);grind[AA,AI,MA,AQ,AB]
def ZD{x:Af}{s:Int}(h:0<=s/\s<=x.2.2.2.2.2.length/\(x.2.2.2.2.2.length:Int)<=16777216):Ar (AZ (G1 x) s) λr=>r≠ .inl true:=by
 refine AV (λ(s:Int)=>0<=s/\s<=x.2.2.2.2.2.length/\(x.2.2.2.2.2.length:Int)<=16777216) (λ(s:Int)=>((x.2.2.2.2.2.length:Int)-s).toNat) h (λs b=>?_);unfold G1;repeat' with_reducible first|intro a|apply AC|apply AM|apply AQ|apply AK|apply AJ|(apply A7;try dsimp only)|apply Bd|apply By|(apply BG;try dsimp only)|(apply A3;try dsimp only)|apply AB|(apply AA (CT);intro r hr)|(apply AA (B8);intro r hr)|(apply AA (MA);intro r hr)|(refine AL ?_ (AI ?_ ?_);rintro r ⟨hr,c⟩)
 all_goals ((try dsimp[len]at*);(try first|omega|assumption|grind[AX]|((try simp (disch:=omega) only[AX,ne_eq,Sum.inl.injEq,Sum.inr.injEq,reduceCtorEq,not_false_eq_true,Bool.not_eq_true,len,true_and,and_true,or_false,false_or,false_implies,implies_true]at*)<;>(try intros)<;>(try and_intros)<;>(try intros)<;>(first|omega|assumption|grind))))
def jG(x:Af):Prop:=1<=x.1/\x.1<=x.2.1/\x.2.1<=1099511627776/\0<=x.2.2.1/\x.2.2.1<=x.2.2.2.1/\x.2.2.2.1<64/\0<=x.2.2.2.2.1/\x.2.2.2.2.1<=8/\x.2.2.2.2.2.length<=4096
def UX{x:Af}:Ar (Ef x) λr=>r=true->jG x:=by refine AA IV λe b=>AM (λ_=>AB λa=>by cases a) (λc=>?_);have hn:=b.1 c;refine AC (λ_=>AB λa=>by cases a) (λd=>?_);simp[len]at d;refine AA (ZD ⟨Ad _,o!⟩) λr hr=>?_;grind[jG,BA,AB]
def R6{x:List AE×Int×Int×Int×Int×Int}{s:Int×Af}(h:0<=s.1/\s.1<=x.1.length/\x.1.length<=16777215):Ar (AZ (OX x) s) λr=> ∀u,r= .inl u->u.1≠0:=by
 refine AV (λ(s:Int×Af)=>0<=s.1/\s.1<=x.1.length/\x.1.length<=16777215) (λ(s:Int×Af)=>((x.1.length:Int)-s.1).toNat) h (λs b=>?_);unfold OX;exact x!
def R7{a:Bool×Int×Af}{b:AE}{s:Bool×Int}(h:0<=s.2/\s.2<=a.2.2.2.2.2.2.2.length/\a.2.2.2.2.2.2.2.length<=16777215):Ar (AZ (OY a b) s) λr=>True:=by
 refine AV (λ(s:Bool×Int)=>0<=s.2/\s.2<=a.2.2.2.2.2.2.2.length/\a.2.2.2.2.2.2.2.length<=16777215) (λ(s:Bool×Int)=>((a.2.2.2.2.2.2.2.length:Int)-s.2).toNat) h (λs c=>?_);unfold OY;exact x!
def iP{x:List AE×Int×Int×Int×Int×Int}(h:x.1.length<=16777215):Ar (JV x) λr=>r.2=0->jG r.1:=by
 refine AA IV λp _=>AM (λ_=>AB n!) (λ_=>AA (R6 ⟨Ad _,q!,h⟩) λq g=>BA (λu e=>AB λa=>absurd a (g u e)) (λu e=>AA (P:=λr=>r.2.2.2.2.2.2.length<=16777215) ?_ λl f=>?_));refine AV (λ(s:Bool×Int×Af)=>0<=s.2.1/\s.2.1<=x.1.length/\s.2.2.2.2.2.2.2.length<=s.2.1) (λ(s:Bool×Int×Af)=>((x.1.length:Int)-s.2.1).toNat) ⟨Ad _,q!,k!⟩ (λs i=>?_);have⟨j,n,o⟩:=i;unfold Jv;rw[(AX (x:=s.2.1+1))];refine AC (λc=>?_) (λ_=>AB q!);simp[len]at c;have b:((0<=s.2.1+1/\s.2.1+1<=x.1.length/\s.2.2.2.2.2.2.2.length<=s.2.1+1)/\((x.1.length:Int)-(s.2.1+1)).toNat<((x.1.length:Int)-s.2.1).toNat):=⟨o!,o!⟩
 refine AA (AI j c) λt _=>AA B8 λv _=>AM (λ_=>AB b) (λ_=>AC (λ_=>AB b) (λ_=>AC (λ_=>AB b) (λ_=>AC (λ_=>AB b) (λ_=>AC (λ_=>AB b) (λ_=>AA (R7 ⟨Ad _,q!,o!⟩) λk _=>?_)))));grind[AA,bj,AB];refine AJ (λ_=>AB n!) (λ_=>AC (λ_=>AB n!) (λ_=>AA UX λm d=>AM (λ_=>AB n!) (λc=>AB λ_=>d c)))
def iO{x:Af}:Ar (HT x) λr=>True:=by
 unfold HT;exact x!
def bi{x:Af}:Ar (H7 x) λr=>r.1.length<=1099511627776:=by refine AA UX λk b=>AM (λ_=>AB k!) (λa=>?_);have h:=(b a).2.2.2.2.2.2.2.2;refine AA iO λl _=>AA UH λm g=>AA (P:=λr:BW=>r.length<=1099511627776) ?_ λo c=>AB c;refine AV (λ(s:BW×Int)=>0<=s.2/\s.2<=x.2.2.2.2.2.length/\s.1.length<=8408*s.2+8408) (λ(s:BW×Int)=>((x.2.2.2.2.2.length:Int)-s.2).toNat) ⟨Ad _,q!,q!⟩ (λs d=>?_);have⟨f,i,j⟩:=d;have e:=AX (x:=s.2+1);refine AC (λa=>?_) (λ_=>AB o!);refine AA (AI f a) λn _=>?_;grind[AA,bP,UH,Cm,AB]
def SA(a:AO):Prop:=a.1.length<=16/\a.2.2.1.length<=16777216/\ ∀f∈a.2.2.1,f.2.2.length<=1099511627776
def VA(a:AO):Prop:=1<=a.2.1/\a.2.1<=64/\1<=a.1.length/\a.1.length<=16/\1<=a.2.2.2.1/\a.2.2.2.1<=1099511627777/\1<=a.2.2.2.2/\a.2.2.2.2<=1073741825/\a.2.2.1.length<=256
def bk{x:Int×List Int}:Ar (FQ x) λr=>r=true->1<=x.1/\x.1<=64/\1<=x.2.length/\x.2.length<=16:=by unfold FQ;refine AC (λ_=>AB λa=>by cases a) (λh=>AC (λ_=>AB λa=>by cases a) (λi=>AC (λ_=>AB λa=>by cases a) (λb=>AC (λ_=>AB λa=>by cases a) (λc=>?_))));simp only[len]at b c;refine AA (AI (Ad _)) λk _=>AK (λ_=>AB λa=>by cases a) (λ_=>AA (P:=λ_=>True) ?_ λr _=>?_);refine AV (λ(s:Int)=>1<=s/\s<=x.2.length) (λ(s:Int)=>((x.2.length:Int)-s).toNat) ⟨Ad _,o!⟩ (λs j=>?_);unfold MD;have d:=AX (x:=s-1);have f:=AX (x:=s+1);rw[d,f];refine AC (λg=>?_) (λ_=>AB trivial);simp only[len]at g;refine AA (AI) λ_ _=>AA (AI) λ_ _=>AC (λ_=>AB trivial) (λ_=>AB ⟨o!,o!⟩);refine BA (λu _=>AB λ_=>o!) (λu _=>?_);have e:=AX (x:=len x.2-1) i!;rw[e];exact AA (AI i! i!) λl _=>AB λ_=>o!
def ZE{x:AO}{s:Int×Int}(h:0<=s.2/\s.2<=x.2.2.1.length/\x.2.2.1.length<=256):Ar (AZ (JJ x) s) λr=>r≠ .inl true:=by
 refine AV (λ(s:Int×Int)=>0<=s.2/\s.2<=x.2.2.1.length/\x.2.2.1.length<=256) (λ(s:Int×Int)=>((x.2.2.1.length:Int)-s.2).toNat) h (λs b=>?_);unfold JJ;exact x!
def Ob{x:AO}:Ar (DG x) λr=>r=true->VA x:=by
 unfold DG;refine AA bk λi c=>AM (λ_=>AB λa=>by cases a) (λd=>?_);obtain⟨a1,a2,a3,a4⟩:=c d;refine AC (λ_=>AB λa=>by cases a) (λe=>AC (λ_=>AB λa=>by cases a) (λf=>AC (λ_=>AB λa=>by cases a) (λg=>AC (λ_=>AB λa=>by cases a) (λh=>AC (λ_=>AB λa=>by cases a) (λb=>?_)))));simp only[len]at b;refine AA (ZE ⟨Ad _,d!,o!⟩) λr hr=>?_;have q:VA x:=⟨a1,a2,a3,a4,o!⟩
 exact BA (λu _=>AB λ_=>q) (λu _=>AB λ_=>q)
def eO{x:AO×Int}(h:x.1.1.length<=16)(a:0<=x.2/\x.2<x.1.1.length):Ar (Eg x) λr=>True:=by unfold Eg;have e:=AX (x:=x.2+1);rw[e];refine AA (P:=λ_=>True) ?_ λd _=>AA (AI a.1 a.2) λf _=>AB trivial;refine AC (λb=>?_) (λ_=>AB trivial);simp only[len]at b;exact AA (AI o! b) λc _=>AB trivial
def R9{x:AO×Ae×Int}{a:List AE}{s:Int×AO}(h:0<=s.1/\s.1<=a.length/\a.length<=4096):Ar (AZ (OZ x a) s) λr=> ∀u,r= .inl u->u.1≠0:=by
 refine AV (λ(s:Int×AO)=>0<=s.1/\s.1<=a.length/\a.length<=4096) (λ(s:Int×AO)=>((a.length:Int)-s.1).toNat) h (λs c=>?_);unfold OZ;exact x!
def AB0{x:Ae×Int}(h:Dg x.1)(c:x.2=x.1.1+x.1.2.1.length-1):Ar (EB x) λr=>r.1.2.2=r.1.1+r.1.2.1.length-1/\r.1.1=x.1.1:=by refine AA Be λv e=>AM (λa=>?_) (λ_=>?_);grind;refine AA ER λf b=>?_;rw[h.last]at b;have d:=h.2.2.2.2.1;refine AC (λa=>absurd a o!) (λ_=>AB ⟨?_,rfl⟩);grind
def zq{b:AW}{x:Int}(h:CX b)(f:x<=1000/\ -1000<=x):Ar (Kx b x) λr=>r.2.1.2.2=r.2.1.1+r.2.1.2.1.length-1/\r.2.1.1=1:=by refine AA (Oo h f) λj d=>?_;obtain⟨c,g,i,q2,q3,q4⟩:=d;refine AA GO λk e=>AA (AB0 q3 (e q3)) λl a=>AB ⟨a.1,a.2.trans q4⟩
def jd{x:Ae×Int}(h:Dg x.1)(p:x.1.2.2=x.1.1+x.1.2.1.length-1)(l:x.1.1<=x.2)(m:x.2<=x.1.2.2+1)(n:x.2<=1099511627776):Ar (J7 x) λr=>r.2=0/\Dg r.1/\r.1.1=x.2:=by obtain⟨a1,a2,a3,a4,a5,a6⟩:=id h;refine AA Be λv q=>AM (λa=>?_) (λ_=>?_);grind;refine AC (λa=>absurd a o!) (λ_=>AA ER λf d=>?_);rw[h.last]at d;have g:=AX (x:=f+1);have j:=AX (x:=x.1.2.2+1);have k:=AX (x:=x.2-x.1.1);refine AC (λa=>absurd a o!) (λ_=>AC (λa=>absurd a o!) (λ_=>AC (λa=>absurd a o!) (λ_=>AA (CU o! q! q!) λs b=>?_)));have l2:=b.2;simp only[len]at l2;refine AA (Ac w!) λt c=>AB ⟨rfl,?_,rfl⟩;refine⟨q!,q!,q!,q!,q!,λi e o=>?_⟩;grind
def Ris(l:List Int)(n:Int):Prop:= ∀(i:Nat) (a b:Int),(i:Int)+1<n->l[i]? =some a->l[i+1]? =some b->a<b
def BD(n:Int)(l:List Int):Prop:=1<=n/\n<=64/\1<=l.length/\l.length<=16/\l[0]? =some 0/\Ris l l.length/\ ∀a,l[l.length-1]? =some a->a<n
def fN{x:Int×List Int}:Ar (FQ x) λr=>r=true↔BD x.1 x.2:=by
 unfold FQ;refine AC (λc=>AB ⟨λd=>(by cases d),λh=>(by have:=h.1;omega)⟩) (λL=>AC (λc=>AB ⟨λd=>(by cases d),λh=>(by have:=h.2.1;omega)⟩) (λM=>AC (λc=>AB ⟨λd=>(by cases d),λh=>(by have:=h.2.2.1;simp only[len]at c;omega)⟩) (λy=>AC (λc=>AB ⟨λd=>(by cases d),λh=>(by have:=h.2.2.2.1;simp only[len]at c;omega)⟩) (λz=>?_))));simp only[len]at y z;refine AA (AI (Ad _)) λQ E=>?_;have f:=E.1;refine AK (λc=>AB ⟨λd=>(by cases d),λh=>?_⟩) (λo=>?_);have:=h.2.2.2.2.1;simp only[Int.toNat_zero]at f;rw[f]at this;exact absurd (Ba this) c;rw[o]at f;refine AA (P:=λr=>(r= .inl false/\ ¬Ris x.2 x.2.length)\/(r= .inr ()/\Ris x.2 x.2.length)) ?_ λr hr=>?_;refine AV (λ(s:Int)=>1<=s/\s<=x.2.length/\Ris x.2 s) (λ(s:Int)=>((x.2.length:Int)-s).toNat) ⟨Ad _,o!,λi a b v=>absurd v o!⟩ (λs G=>?_);obtain⟨N,O,w⟩:=G;unfold MD;have A:=AX (x:=s-1);have B:=AX (x:=s+1);rw[A,B];refine AC (λk=>?_) (λk=>AB (.inr ⟨rfl,?_⟩));simp only[len]at k;refine AA (AI) λa j=>AA (AI o! k) λb u=>?_;have t:(s-1).toNat+1=s.toNat:=o!
 refine AC (λJ=>AB (.inl ⟨rfl,λH=>?_⟩)) (λm=>AB ⟨⟨o!,o!,λi p q v n l=>?_⟩,o!⟩);have:=H (s-1).toNat a b o! j.1 (by rw[t];exact u.1);omega;by_cases I:(i:Int)+1<s;exact w i p q I n l;have C:i=(s-1).toNat:=o!
 subst C;rw[t]at l;rw[j.1]at n;rw[u.1]at l;have:=Ba n;have:=Ba l;omega;simp only[len]at k;have:s=x.2.length:=o!
 rw[<-this];exact w;rcases hr with⟨rfl,hr⟩|⟨rfl,hr⟩;exact BG (AB ⟨λd=>(by cases d),λh=>absurd h.2.2.2.2.2.1 hr⟩);apply A3;have e:=AX (x:=len x.2-1) i!;rw[e];refine AA (AI i! i!) λK F=>AB ?_;have g:=F.1;have D:(len x.2-1).toNat=x.2.length-1:=i!
 rw[D]at g;rw[decide_eq_true_eq];refine⟨λm=>⟨o!,o!,o!,o!,f,hr,λa j=>?_⟩,λh=>h.2.2.2.2.2.2 K g⟩;rw[g]at j;have:=Ba j;omega
def FR(l:List AT)(m n:Int):Prop:=(∀(i:Nat) (f:AT),(i:Int)<n->l[i]? =some f->0<f.2.1/\f.2.1<m)/\ ∀(i:Nat) (f g:AT),(i:Int)+1<n->l[i]? =some f->l[i+1]? =some g->f.2.1<g.2.1
def VB(a:AO):Prop:=BD a.2.1 a.1/\1<=a.2.2.2.1/\a.2.2.2.1<=1099511627777/\1<=a.2.2.2.2/\a.2.2.2.2<=1073741825/\a.2.2.1.length<=256/\FR a.2.2.1 a.2.2.2.2 a.2.2.1.length
def Z0{x:AO}:Ar (DG x) λr=>r=true↔VB x:=by
 unfold DG;refine AA fN λU w=>AM (λj=>AB ⟨λb=>(by cases b),λh=>(by rw[w.2 h.1]at j;cases j)⟩) (λj=>?_);have H:=w.1 j;refine AC (λc=>AB ⟨λb=>(by cases b),λh=>(by have:=h.2.1;omega)⟩) (λN=>AC (λc=>AB ⟨λb=>(by cases b),λh=>(by have:=h.2.2.1;omega)⟩) (λO=>AC (λc=>AB ⟨λb=>(by cases b),λh=>(by have:=h.2.2.2.1;omega)⟩) (λQ=>AC (λc=>AB ⟨λb=>(by cases b),λh=>(by have:=h.2.2.2.2.1;omega)⟩) (λR=>AC (λc=>AB ⟨λb=>(by cases b),λh=>(by have:=h.2.2.2.2.2.1;simp only[len]at c;omega)⟩) (λA=>?_)))));simp only[len]at A;refine AA (P:=λr=>(r= .inl false/\ ¬FR x.2.2.1 x.2.2.2.2 x.2.2.1.length)\/(r= .inr ()/\FR x.2.2.1 x.2.2.2.2 x.2.2.1.length)) ?_ λr hr=>?_;refine AV (λ(s:Int×Int)=>0<=s.2/\s.2<=x.2.2.1.length/\FR x.2.2.1 x.2.2.2.2 s.2/\0<=s.1/\(s.2=0->s.1=0)/\ ∀f,0<s.2->x.2.2.1[(s.2-1).toNat]? =some f->f.2.1=s.1) (λ(s:Int×Int)=>((x.2.2.1.length:Int)-s.2).toNat) ⟨Ad _,d!,⟨λi f k=>absurd k d!,λi f g k=>absurd k d!⟩,Ad _,λ_=>rfl,λf d=>absurd d d!⟩ (λs G=>?_);obtain⟨q,S,t,T,L,z⟩:=G;unfold JJ;have e:=AX (x:=s.2+1);rw[e];refine AC (λj=>?_) (λj=>AB (.inr ⟨rfl,?_⟩));simp only[len]at j;refine AA (AI q j) λu D=>?_;have a:=D.1;refine AC (λJ=>AB (.inl ⟨rfl,λn=>?_⟩)) (λK=>?_);by_cases b:s.2=0;have:=(n.1 s.2.toNat u o! a).1;have:=L b;omega;obtain⟨f,d⟩: ∃f,x.2.2.1[(s.2-1).toNat]? =some f:=⟨_,A4 o!⟩
 have m:(s.2-1).toNat+1=s.2.toNat:=o!
 have:=n.2 (s.2-1).toNat f u o! d (by rw[m];exact a);have:=z f o! d;omega;refine AA (AI q j) λv E=>?_;have B:v=u:=by have:=E.1;rw[a]at this;exact(Ba this).symm
 subst B;refine AC (λI=>AB (.inl ⟨rfl,λn=>?_⟩)) (λy=>?_);have:=(n.1 s.2.toNat v o! a).2;omega;refine AA (AI q j) λM F=>AB ?_;have C:M=v:=by have:=F.1;rw[a]at this;exact(Ba this).symm
 subst C;refine⟨⟨d!,d!,⟨λi f k d=>?_,λi f g k d p=>?_⟩,d!,λb=>absurd b d!,λf _ d=>?_⟩,d!⟩;dsimp only at k;by_cases l:(i:Int)<s.2;exact t.1 i f l d;have o:i=s.2.toNat:=o!
 subst o;rw[a]at d;have:=Ba d;subst this;exact o!;dsimp only at k;by_cases l:(i:Int)+1<s.2;exact t.2 i f g l d p;have o:i=(s.2-1).toNat:=o!
 have m:i+1=s.2.toNat:=o!
 rw[m,a]at p;have:=Ba p;subst this;rw[o]at d;have:=z f o! d;omega;dsimp only at d⊢;have m:(s.2+1-1).toNat=s.2.toNat:=o!
 rw[m,a]at d;have:=Ba d;rw[this];simp only[len]at j;have:s.2=x.2.2.1.length:=o!
 rw[<-this];exact t;rcases hr with⟨rfl,hr⟩|⟨rfl,hr⟩;exact BG (AB ⟨λb=>(by cases b),λh=>absurd h.2.2.2.2.2.2 hr⟩);exact A3 (AB ⟨λ_=>⟨H,o!,o!,o!,o!,o!,hr⟩,λ_=>rfl⟩)
set_option maxHeartbeats 1000000
def qK{x:Int}:Ar (Hp x) λr=>r=true↔0<=x/\x<64:=by
 unfold Hp;exact x!
theorem dZ{x:De}:Ar (OA x) λr=>r=true↔O3 x:=by
 unfold OA O3
 exact x!
def Kh{x:Int×AE}:Ar (OC x) λr=>r=true↔0<=x.1/\x.1<x.2.1:=by
 unfold OC;exact x!
def tq{x:De}:Ar (MP x) λr=>r=true↔x=QO:=by grind[MP,QO,AB,Prod.ext_iff]
def oh{x:AE}:Ar (GC x) λr=>r=true:=by grind[GC,AB]
def oi{x:AE}:Ar (TN x) λr=>r=true↔1<=x.2.2.2.2.2.1/\x.2.2.2.2.2.1<=x.2.2.2.1:=by
 unfold TN;exact x!
def ol{x:De}:Ar (TO x) λr=>r=true↔0<=x.1/\x.1<64/\x.2=QO.2:=by
 unfold TO QO;have⟨a,b,⟨c,d⟩,e,f⟩:=x;refine AJ (λg=>?_) (λg=>AB ?_);refine AC (λh=>AB ?_) (λh=>AB ?_);simp at g;simp[g,h];try omega
 simp;try omega
 grind[Prod.ext_iff]
theorem Jz{x:AE}:Ar (GB x) λr=>ML x->r=true:=by
 unfold GB;refine AC (λi=>AB λh=>?_) (λs=>?_);have:=h.1;omega;refine AC (λi=>AB λh=>?_) (λt=>?_);have:=h.2.1;omega;refine AC (λi=>AB λh=>?_) (λu=>?_);have:=h.2.2.2.2.2.2.2.2;unfold Vq at this;omega;refine AC (λi=>AB λh=>?_) (λv=>?_);have:=h.2.2.2.2.2.2.2.2;unfold Vq at this;omega;refine AA Kh λw j=>AM (λi=>AB λh=>?_) (λn=>?_);rw[j.2 ⟨h.2.2.1,h.2.2.2.1⟩]at i;cases i;refine AA Kh λy k=>AM (λi=>AB λh=>?_) (λo=>?_);rw[k.2 ⟨h.2.2.2.2.1,h.2.2.2.2.2.1⟩]at i;cases i;refine AA Kh λz l=>AM (λi=>AB λh=>?_) (λp=>?_);rw[l.2 ⟨h.2.2.2.2.2.2.1,h.2.2.2.2.2.2.2.1⟩]at i;cases i;refine Ar.mono (P:=λr=>Vq x->r=true) ?_ λr h q=>h q.2.2.2.2.2.2.2.2;clear j k l n o p;have⟨a,b,c,d,e,f,g,m⟩:=x;unfold Vq;dsimp only at*;refine AC (λi=>absurd i o!) (λk0=>?_);exact x!
def jA{x:Ae}:Ar (CW x) λr=>r=wi (wi (x.1+len x.2.1)-1):=by grind[CW,AB]
def Jj{x:Ae}(h:Dg x):Ar (G5 x) λr=>r=true:=by have⟨a1,a2,a3,a4,a5,a6⟩:=id h;unfold G5;refine AC (λa=>absurd a o!) (λ_=>AC (λa=>absurd a o!) (λ_=>AC (λa=>absurd a (by simp[len];omega)) (λ_=>?_)));rw[(AX (x:=x.1-1))];refine AC (λa=>absurd a o!) (λ_=>AA jA λf b=>?_);rw[h.last]at b;refine AC (λa=>absurd a o!) (λ_=>AA (P:=λr=> ∃u,r= .inr u) ?_ λr hr=>?_);refine AV (λ(s:Int)=>0<=s/\s<=x.2.1.length) (λ(s:Int)=>((x.2.1.length:Int)-s).toNat) ⟨Ad _,o!⟩ (λs c=>?_);have⟨d,e⟩:=c;unfold Yp;refine AC (λa=>?_) (λ_=>AB ⟨_,rfl⟩);grind[AA,AI,AX,AK,Jz,AM,AB];grind[A3,AB]
def dh{x:Ae}(h:Dg x):Ar (Q8 x) λr=>r=x.1+x.2.1.length-1:=by unfold Q8;refine AA (Jj h) λv c=>AM (λb=>?_) (λ_=>?_);rw[c]at b;cases b;refine AA jA λd a=>AB ?_;rw[h.last]at a;exact a
def HE{x:AO}(h:VB x):Ar (Fb x) λr=>r=true:=by
 obtain⟨⟨L,M,N,O,p,t,v⟩,a1,a2,a3,a4,a5,a6⟩:=id h;unfold Fb;refine AC (λa=>absurd a (by omega)) (λ_=>?_);refine AC (λa=>absurd a (by omega)) (λ_=>?_);refine AC (λa=>absurd a (by simp only[len];omega)) (λ_=>?_);refine AC (λa=>absurd a (by simp only[len];omega)) (λ_=>?_);refine AA (AI (Ad _)) λQ B=>?_;have b:=B.1;rw[show((0:Int).toNat)=0 from rfl,p]at b;injection b with b;refine AK (λa=>absurd b.symm a) (λ_=>?_);have w:=AX (x:=len x.1-1) (by simp only[len];omega);rw[w];refine AA (AI (by simp only[len];omega) (by simp only[len];omega)) λI C=>?_;have c:=C.1;have y:(len x.1-1).toNat=x.1.length-1:=by simp only[len];omega
 rw[y]at c;refine AC (λa=>absurd a (by have:=v I c;omega)) (λ_=>?_);refine AA (P:=λr=> ∃u,r= .inr u) ?_ λr hr=>?_;refine AV (λ(s:Int)=>1<=s/\s<=x.1.length) (λ(s:Int)=>((x.1.length:Int)-s).toNat) ⟨Ad _,by omega⟩ (λs i=>?_);obtain⟨o,F⟩:=i;unfold Xh;refine AC (λa=>?_) (λ_=>AB ⟨_,rfl⟩);simp only[len]at a;have z:=AX (x:=s-1);have e:=AX (x:=s+1);rw[z,e];refine AA (AI) λJ D=>?_;refine AA (AI (by omega) a) λK E=>?_
 have q:=t (s-1).toNat J K (by omega) D.1 (by have:(s-1).toNat+1=s.toNat:=by omega
                                              rw[this];exact E.1)
 refine AC (λa=>absurd a (by omega)) (λ_=>AB ⟨by omega,by omega⟩);obtain⟨u,rfl⟩:=hr;apply A3;refine AC (λa=>absurd a (by omega)) (λ_=>?_);refine AC (λa=>absurd a (by omega)) (λ_=>?_);refine AC (λa=>absurd a (by omega)) (λ_=>?_);refine AC (λa=>absurd a (by omega)) (λ_=>?_);refine AC (λa=>absurd a (by simp only[len];omega)) (λ_=>?_);refine AA (P:=λr=> ∃u,r= .inr u) ?_ λr hr=>?_;refine AV (λ(s:Int×Int)=>0<=s.2/\s.2<=x.2.2.1.length/\(s.2=0->s.1=0)/\ ∀f:AT,0<s.2->x.2.2.1[(s.2-1).toNat]? =some f->s.1=f.2.1) (λ(s:Int×Int)=>((x.2.2.1.length:Int)-s.2).toNat) ⟨Ad _,by dsimp only;omega,λ_=>rfl,λf m=>by dsimp only at m;omega⟩ (λs i=>?_);obtain⟨o,F,G,H⟩:=i;unfold Xi;refine AC (λa=>?_) (λ_=>AB ⟨_,rfl⟩);simp only[len]at a;have e:=AX (x:=s.2+1);rw[e];refine AA (AI o a) λl g=>?_;have q1:=a6.1 s.2.toNat l (by omega) g.1;have q2:s.1<l.2.1:=by
  by_cases k:s.2=0;rw[G k];exact q1.1;have j:(s.2-1).toNat<x.2.2.1.length:=by omega
  have n:x.2.2.1[(s.2-1).toNat]? =some x.2.2.1[(s.2-1).toNat]:=A4 j
  have:=a6.2 (s.2-1).toNat _ l (by omega) n (by have:(s.2-1).toNat+1=s.2.toNat:=by omega
                                                rw[this];exact g.1)
  rw[H _ (by omega) n];exact this
 refine AC (λa=>absurd a (by omega)) (λ_=>?_);refine AC (λa=>absurd a (by have:=q1.2;omega)) (λ_=>AB ⟨⟨by dsimp only;omega,by dsimp only;omega,λk=>?_,λf m d=>?_⟩,by dsimp only;omega⟩);dsimp only at k;omega;dsimp only at d⊢;have A:(s.2+1-1).toNat=s.2.toNat:=by omega
 rw[A,g.1]at d;injection d with d;rw[d];obtain⟨u,rfl⟩:=hr;exact A3 (AB rfl)
def aA{x:AO×Ae×Int×Int}(h:VB x.1)(c:Dg x.2.1)(e:0<=x.2.2.1/\x.2.2.1<x.1.2.1/\0<=x.2.2.2):Ar (Pr x) λr=>r=0:=by unfold Pr;refine AA (HE h) λv d=>AM (λa=>?_) (λ_=>?_);rw[d]at a;cases a;refine AA (Jj c) λf b=>AM (λa=>?_) (λ_=>?_);rw[b]at a;cases a;refine AC (λa=>absurd a o!) (λ_=>AC (λa=>absurd a o!) (λ_=>AC (λa=>absurd a o!) (λ_=>AB rfl)))
def bo{x p:BW}{c:BW×Int×Int}{k:Nat}(h:CS x p c)(o:x.length<=1099511627776)(q:1<=k)(m:k<=8):Ar (B0 c (k:Int)) λr=>CS x (p++C5 r.1 k) r.2/\(r.2.2.2=0->ej k r.1)/\(c.2.2≠0->r=(0,c)):=by obtain⟨s,i,e⟩:=c;obtain⟨j,l⟩:=h;subst j;refine AK (λd=>AB ⟨⟨rfl,λb=>absurd b d⟩,λb=>absurd b d,λ_=>rfl⟩) (λd=>?_);subst d;obtain⟨a,hr,n⟩:=l rfl;subst hr n;rw[Aa]at o;rw[YF o! o! o!];by_cases g:(k:Int)<=a.length;rw[if_pos g,AD,Ct];obtain⟨q1,q2⟩:=sZ (t:=a) (k:=k) o! m;refine AB ⟨⟨rfl,λ_=>⟨a.drop k,?_,?_⟩⟩,λ_=>q1,λf=>absurd rfl f⟩;simp_all;dsimp only;rw[AX,Aa,Aw];omega;rw[if_neg g,AD];exact AB ⟨⟨rfl,λb=>absurd (show(5:Int)=0 from b) g!⟩,λb=>absurd (show(5:Int)=0 from b) g!,λf=>absurd rfl f⟩
def AEJ{x p:BW}{c:BW×Int×Int}{n:Int}(h:CS x p c)(l:x.length<=1099511627776)(hn:c.2.2=0->0<=n/\n<4294967296):Ar (Ej c n) λr=>CS x (p++r.1) r.2/\(r.2.2.2=0->(r.1.length:Int)=n/\c.2.2=0):=by
 obtain⟨s,f,e⟩:=c;obtain⟨g,i⟩:=h;subst g;unfold Ej;by_cases d:e=0;subst d;obtain⟨a,hr,j⟩:=i rfl;obtain⟨o,t⟩:=hn rfl;subst hr j;obtain⟨m,rfl⟩:=FF o;rw[Aa]at l;rw[show wi (((p++a).length:Int)-(p.length:Int))=a.length by rw[Aa,AX];omega];by_cases q:(m:Int)<=a.length;rw[decide_eq_false o!,cond_false,AD,show((0:Int) !=0)=false by decide,cond_false];have k:Up (p++a) (wi (wi ((p.length:Int)+(m:Int))-(m:Int))) (wi ((p.length:Int)+(m:Int)))=some (a.take m):=by rw[AX (x:=(p.length:Int)+(m:Int)),AX];unfold Up;rw[if_pos q!,show((p.length:Int)+(m:Int)-(m:Int)).toNat=p.length by omega,RZ,show((p.length:Int)+(m:Int)).toNat-p.length=m by omega]
 rw[k,AD];refine AB ⟨⟨rfl,λ_=>⟨a.drop m,?_,?_⟩⟩,λ_=>⟨?_,q!⟩⟩;simp_all;dsimp only;rw[AX,Aa,BM];omega;grind;rw[decide_eq_true o!,cond_true,AD,show((5:Int) !=0)=true by decide,cond_true];exact AB ⟨⟨rfl,λb=>absurd (show(5:Int)=0 from b) g!⟩,λb=>absurd (show(5:Int)=0 from b) g!⟩;rw[beq_false_of_ne d,cond_false,bne_iff_ne.2 d,cond_true];exact AB ⟨⟨rfl,λb=>absurd b d⟩,λb=>absurd b d⟩
def AEH{x p:BW}{c:BW×Int×Int}(h:CS x p c)(j:x.length<=1099511627776):Ar (Ei c ()) λr=>CS x (p++Ze r.1) r.2/\(r.2.2.2=0->IZ r.1):=by
 refine AA (bo (k:=1) h j g! g!) λv o=>?_;obtain⟨⟨g,l⟩,s,z⟩:=o;refine AK (λd=>AB ⟨⟨g,λa=>absurd a d⟩,λa=>absurd a d⟩) (λd=>?_);obtain⟨f,hr,i⟩:=l d;have y:=(s d).1 g!;refine AQ (λb=>AB ⟨⟨g,λ_=>⟨f,?_,?_⟩⟩,λ_=>⟨Bi _,.inr rfl⟩⟩) (λb=>?_);dsimp only;rw[b]at hr;exact hr;dsimp only;rw[b]at i;exact i;refine AC (λ_=>AB ⟨⟨g,λa=>absurd (show(4:Int)=0 from a) g!⟩,λa=>absurd (show(4:Int)=0 from a) g!⟩) (λn=>AA (AEJ (x:=x) (p:=p++C5 v.1 1) ⟨g,l⟩ j (λ_=>o!)) λw q=>AB ?_);obtain⟨⟨t,A⟩,u⟩:=q;refine⟨⟨t,λa=>?_⟩,λa=>?_⟩;dsimp only at a⊢;obtain⟨m,_⟩:=u a;have e:Ze (true,w.1)=C5 v.1 1++w.1:=by unfold Ze;rw[cond_true,m]
 grind;dsimp only at a⊢;exact⟨q!,.inl rfl⟩
def ZI{x p a:BW}{n:Int}{k:Nat}(c:x=p++(C5 n k++a))(f:x.length<=1099511627776)(e:1<=k)(d:k<=8)(hn:ej k n):B0 (x,((p.length:Int),0)) (k:Int)=some (n,(x,(((p++C5 n k).length:Int),0))):=by
 have b:=congrArg List.length c;simp only[Aa,Aw]at b;unfold B0;dsimp only;rw[show((0:Int) !=0)=false by decide,cond_false];conv=>lhs;arg 1;rw[c]
 rw[YF q! o! o!,if_pos q!,AD,Ct,EW (Aw _ _),qh d hn];rw[Aa,Aw];rw[AX];rfl
def AEI{x p w a:BW}(c:x=p++(w++a))(e:x.length<=1099511627776):Ej (x,((p.length:Int),0)) (w.length:Int)=some (w,(x,(((p++w).length:Int),0))):=by
 have b:=congrArg List.length c;simp at b;unfold Ej;rw[show decide (wi ((x.length:Int)-(p.length:Int))<(w.length:Int))=false from decide_eq_false (by rw[AX];omega),cond_false];rw[AD,show((0:Int) !=0)=false by decide,cond_false];dsimp only;have d:Up x (wi (wi ((p.length:Int)+(w.length:Int))-(w.length:Int))) (wi ((p.length:Int)+(w.length:Int)))=some w:=by rw[AX (x:=(p.length:Int)+(w.length:Int)),AX];unfold Up;rw[if_pos o!,c,show((p.length:Int)+(w.length:Int)-(w.length:Int)).toNat=p.length by omega,RZ,show((p.length:Int)+(w.length:Int)).toNat-p.length=w.length by omega,Yb]
 rw[d,AD,AX,Aa];rfl
def AEG{x p a:BW}{c:Cd}(e:x=p++(Ze c++a))(f:x.length<=1099511627776)(j:IZ c):Ei (x,((p.length:Int),0)) ()=some (c,(x,(((p++Ze c).length:Int),0))):=by
 obtain⟨b,d⟩:=c;obtain⟨h,i⟩:=j;dsimp only at h i;unfold Ei;cases b with
 |false=>
  have k:d=[]:=q!
  subst k;rw[show(1:Int)=((1:Nat):Int)from rfl,ZI e f g! g! ⟨λ_=>g!,g!,g!⟩];rfl
 |true=>have g:Ze (true,d)=C5 (d.length:Int) 1++d:=rfl;rw[g,A6]at e;rw[g];rw[show(1:Int)=((1:Nat):Int)from rfl,ZI e f g! g! ⟨λ_=>q!,o!⟩,AD];rw[show((0:Int) !=0)=false by decide,cond_false,show((d.length:Int)==255)=false by grind,cond_false,decide_eq_false o!,cond_false];rw[AEI (by rw[e,A6]) f,AD,A6]
def AHd{x:BW}(a:x.length<=1099511627776):Ar (JP x) λr=>r.2=0->x=B9 r.1/\IZ r.1.2.2.2.2.2.2.1.2.2.1/\IZ r.1.2.2.2.2.2.2.1.2.2.2/\ej 4 (r.1.2.2.2.2.2.2.2.length:Int)/\GB r.1=some true:=by
 unfold JP;have I:CS x [] (x,(0,0)):=⟨rfl,λ_=>⟨x,rfl,rfl⟩⟩
 refine AA (bo (k:=8) I a g! g!) λO y=>AA (bo (k:=1) y.1 a g! g!) λP z=>AA (bo (k:=4) z.1 a g! g!) λQ A=>AA (bo (k:=8) A.1 a g! g!) λR B=>AA (bo (k:=8) B.1 a g! g!) λS C=>AA (bo (k:=8) C.1 a g! g!) λT D=>AA (bo (k:=4) D.1 a g! g!) λU E=>AA (bo (k:=1) E.1 a g! g!) λV F=>D8 (AEH F.1 a) λq M o=>D8 (AEH o.1 a) λs w p=>AA (bo (k:=4) p.1 a g! g!) λj b=>AA (AEJ (n:=j.1) b.1 a (λc=>?_)) λJ f=>?_;have:=(b.2.1 c).1 g!;rw[show(256:Int)^4=4294967296 by decide]at this;exact this;refine AK (λh=>AB λc=>absurd c h) (λh=>AK (λ_=>AB n!) (λG=>D8 (Jz) λK i _=>AM (λ_=>AB n!) (λH=>AB λ_=>?_)));subst H;obtain⟨q11,d⟩:=f.2 h;have l:s.2.2.2=0:=RX λe=>by have:=b.2.2 e;rw[this]at d;exact e d
 have u:=p.2 l;have L:q.2.2.2=0:=RX λe=>by
  have:s=((false,[]),q.2):=by have:=w;unfold Ei B0 at this;rw[bne_iff_ne.2 e,cond_true,AD,bne_iff_ne.2 e,cond_true]at this;injection this with this;exact this.symm
  rw[this]at l;exact e l
 have t:=o.2 L;obtain⟨g,m,N⟩:=f.1.2 h;have hr:g=[]:=by simp only[len]at G;have v:=congrArg List.length m;rw[Aa]at v;exact EL o!
 subst hr;refine⟨?_,t,u,?_,i⟩;rw[m];unfold B9;dsimp only;rw[q11];simp only[A6,Cp,D4];dsimp only;rw[q11];exact b.2.1 d
def AHc{e:AE}(h:ML e):JP (B9 e)=some (e,0):=by
 obtain⟨s,t,H,w,y,z,A,B,C,D,E⟩:=h.cells;have I:=Sk h;have g:ej 4 (e.2.2.2.2.2.2.2.length:Int):=⟨λ_=>by rw[show(256:Int)^4=4294967296 by decide];omega,o!⟩
 have a:B9 e=[]++(C5 e.1 8++(C5 e.2.1 1++(C5 e.2.2.1 4++(C5 e.2.2.2.1 8++(C5 e.2.2.2.2.1 8++(C5 e.2.2.2.2.2.1 8++(C5 e.2.2.2.2.2.2.1.1 4++(C5 e.2.2.2.2.2.2.1.2.1 1++
 (Ze e.2.2.2.2.2.2.1.2.2.1++(Ze e.2.2.2.2.2.2.1.2.2.2++(C5 (e.2.2.2.2.2.2.2.length:Int) 4++(e.2.2.2.2.2.2.2++[])))))))))))):=by rw[D4];rfl
 generalize B9 e=x at*;have i:B0 (x,(((0:Int)),0)) 8=_:=ZI (p:=[]) (k:=8) a o! g! g! w;rw[Cp]at i;rw[Cp]at a;have j:=ZI (k:=1) a o! g! g! y;rw[<-A6]at a;have l:=ZI (k:=4) a o! g! g! z;rw[<-A6]at a;have m:=ZI (k:=8) a o! g! g! A;rw[<-A6]at a;have n:=ZI (k:=8) a o! g! g! B;rw[<-A6]at a;have o:=ZI (k:=8) a o! g! g! C;rw[<-A6]at a;have q:=ZI (k:=4) a o! g! g! D;rw[<-A6]at a;have r:=ZI (k:=1) a o! g! g! E;rw[<-A6]at a;have F:=AEG a o! s;rw[<-A6]at a;have G:=AEG a o! t;rw[<-A6]at a;have c:=ZI (k:=4) a o! g! g! g;rw[<-A6]at a;have d:=AEI a o!;rw[D4]at a;rw[<-a]at d;unfold JP;rw[i,AD];rw[show((1:Nat):Int)=1 from rfl]at j r;rw[show((4:Nat):Int)=4 from rfl]at l q c;rw[show((8:Nat):Int)=8 from rfl]at m n o;rw[j,AD,l,AD,m,AD,n,AD,o,AD,q,AD,r,AD,F,AD,G,AD,c,AD,d,AD];obtain⟨b,u,v⟩:=Jz (x:=e);have f:b=true:=v h;subst f;dsimp only[len];rw[show((0:Int) !=0)=false by decide,cond_false,bne_self_eq_false,cond_false];rw[show(e.1,(e.2.1,(e.2.2.1,(e.2.2.2.1,(e.2.2.2.2.1,(e.2.2.2.2.2.1,((e.2.2.2.2.2.2.1.1,(e.2.2.2.2.2.2.1.2.1,(e.2.2.2.2.2.2.1.2.2.1,e.2.2.2.2.2.2.1.2.2.2))),e.2.2.2.2.2.2.2)))))))=e from rfl,u,AD,Cg,cond_false]
def AAj{a v i:Int}(f:0≤i)(c:i<8)(e:0≤a)(b:a<2^(8*i.toNat))(g:0≤v)(d:v<256):
  0<=IntKind.wrap .u64 (((BitVec.toNat ((BitVec.ofInt 64 a)|||(BitVec.ofInt 64 (IntKind.wrap .u64 ((IntKind.wrap .u64 v)*(2^(min (Int.toNat (wi (8*i))) 64))))))):Nat):Int)/\
  IntKind.wrap .u64 (((BitVec.toNat ((BitVec.ofInt 64 a)|||(BitVec.ofInt 64 (IntKind.wrap .u64 ((IntKind.wrap .u64 v)*(2^(min (Int.toNat (wi (8*i))) 64))))))):Nat):Int)<2^(8*(wi (i+1)).toNat):=by
 have h:=yq f c e b g d;rw[(by rw[(AX),XB];omega:IntKind.wrap .u64 (wi (8*i))=wi (8*i))]at h;exact h
def AFu{n:Int}(h:n<=1):(2:Int)^(8*n.toNat)<=256:=by
 have:n.toNat=0\/n.toNat=1:=o!
 rcases this with h|h<;>rw[h]<;>decide
def JB{x:BW×Int×Int}(h:x.1.length<=2199023255552):Ar (Bq x) λr=>(r.2=0->0<=x.2.1/\x.2.1+x.2.2<=x.1.length/\(x.2.2<=4->0<=r.1/\r.1<4294967296)/\(x.2.2<=1->r.1<256))/\(r.2≠0->r.1=0):=by
 unfold Bq;refine AC (λ_=>AB ⟨n!,λ_=>rfl⟩) (λo=>AC (λ_=>AB ⟨n!,λ_=>rfl⟩) (λp=>AC (λ_=>AB ⟨n!,λ_=>rfl⟩) (λq=>AC (λ_=>AB ⟨n!,λ_=>rfl⟩) (λf=>?_))));simp[len]at f⊢;rw[(AX (x:=(x.1.length:Int)-x.2.1))];refine AC (λ_=>AB ⟨n!,λ_=>rfl⟩) (λt=>AA (P:=λr=>0<=r/\r<2^(8*x.2.2.toNat)) ?_ λA y=>AB ⟨λ_=>⟨o!,o!,λg=>?_,λc=>?_⟩,λb=>absurd rfl b⟩);refine AV (λ(s:Int×Int)=>0<=s.2/\s.2<=x.2.2/\0<=s.1/\s.1<2^(8*s.2.toNat)) (λ(s:Int×Int)=>(x.2.2-s.2).toNat) ⟨Ad _,d!,Ad _,u!⟩ (λs j=>?_);have⟨m,z,d,e⟩:=j;unfold VI;refine AC (λk=>?_) (λk=>AB ⟨d,?_⟩);rw[(AX (x:=x.2.1+s.2))];refine AA (VG o! o!) λn c=>AC (λl=>?_) (λ_=>AB ?_);grind[AX];have⟨u,w⟩:=AAj (a:=s.1) (v:=n) (i:=s.2) m o! d e c.1 c.2;grind[AX];have:s.2=x.2.2:=o!
 rw[<-this];exact e;have:=ABk g;grind[AX];have:=AFu c;grind[AX]
def qq(a:BitVec 32):0<=IntKind.wrap .u32 (((BitVec.toNat (a&&&BitVec.ofInt 32 15):Nat)):Int)/\IntKind.wrap .u32 (((BitVec.toNat (a&&&BitVec.ofInt 32 15):Nat)):Int)<16:=by grind[wX,BitVec.toNat_and,BitVec.ofInt,Nat.and_le_right]
def kf{x:Unit}:Ar (Ks x) λr=>True:=by unfold Ks;refine AA (P:=λ_=>True) ?_ λv _=>AB trivial;refine AV (λ(s:Int×(Fin (15+1)->(Ty.int IntKind.u32).D))=>0<=s.1/\s.1<=16) (λ(s:Int×(Fin (15+1)->(Ty.int IntKind.u32).D))=>(16-s.1).toNat) ⟨Ad _,g!⟩ (λs a=>?_);have⟨c,d⟩:=a;unfold V1;refine AC (λb=>?_) (λ_=>AB trivial);refine AA (P:=λ_=>True) ?_ λg _=>?_;refine AV (λ(s:Int×Int)=>0<=s.2/\s.2<=4) (λ(s:Int×Int)=>(4-s.2).toNat) ⟨Ad _,d!⟩ (λs a=>?_);have⟨e,f⟩:=a;unfold LD;rw[(AX (x:=s.2+1))];refine AC (λb=>?_) (λ_=>AB trivial);refine AA (P:=λ_=>True) (AJ (λ_=>AB trivial) (λ_=>AB trivial)) λv _=>AB ⟨d!,d!⟩;rw[(AX (x:=s.1+1))];refine AA (CM c b) λh _=>AA (CM c b) λi _=>AB ⟨d!,d!⟩
theorem vH{x:BW}(h:x.length<=2199023255552):Ar (On x) λr=>True:=by unfold On;refine AA kf λe _=>AA (P:=λ_=>True) ?_ λv _=>AB trivial;refine AV (λ(s:Int×Int)=>0<=s.2/\s.2<=x.length) (λ(s:Int×Int)=>((x.length:Int)-s.2).toNat) ⟨Ad _,d!⟩ (λs b=>?_);have⟨c,d⟩:=b;unfold VJ;rw[(AX (x:=s.2+1))];refine AC (λa=>?_) (λ_=>AB trivial);simp[len]at a;refine AA (VG c a) λf _=>AA (CM (qq _).1 (qq _).2) λg _=>AA (CM (qq _).1 (qq _).2) λi _=>AA (CM (qq _).1 (qq _).2) λj _=>AA (CM (qq _).1 (qq _).2) λk _=>AB ⟨d!,d!⟩
theorem Z8{x:BW×Int}(h:x.1.length<=2199023255552):Ar (DX x) λr=>r.2.2=0->r.1.length<=8392/\x.2+8+r.1.length=r.2.1/\0<=x.2/\r.2.1<=x.1.length:=by unfold DX;refine AC (λ_=>AB n!) (λg=>AC (λ_=>AB n!) (λe=>?_));simp[len]at e;refine AA (JB h) λd f=>AK (λb=>AB λa=>absurd a b) (λc=>?_);have⟨a1,a2,a3,_⟩:=f.1 c;have a5:=a3 d!;dsimp only at a2;refine AC (λ_=>AB n!) (λi=>?_);rw[(AX (x:=x.2+4)),(AX (x:=x.2+4+d.1)),(AX (x:=x.2+4+d.1+4))];refine AA (JB h) λk j=>?_;grind[AK,AB,AA,Co,vH]
def jp{x:BW×BW}:Ar (Eo x) λr=>True:=by unfold Eo EP;refine AA (P:=λ_=>True) ?_ λv _=>AB trivial;refine AC (λa=>?_) (λ_=>AB trivial);simp[len]at a;exact AA (Co (Ad _) i! (by simp[len];omega)) λv _=>AB trivial
def RB(b:FV):Prop:=b.1.length<=2199023255552/\0<=b.2.1/\b.2.1<=b.1.length
def C8{b:FV}{x:Int}(h:RB b)(j:1<=x/\x<=8):Ar (B0 b x) λr=>RB r.2/\(x<=4->0<=r.1/\r.1<4294967296):=by have⟨a1,a2,a3⟩:=id h;unfold B0;refine AK (λ_=>AB ⟨h,λ_=>d!⟩) (λ_=>AA (JB (by exact a1)) λf a=>?_);dsimp only at a;refine AA (P:=λr=>RB r) ?_ λk d=>AB ⟨d,λe=>?_⟩;refine AQ (λc=>AB ?_) (λ_=>AB ⟨a1,a2,a3⟩);have⟨g,i,_⟩:=a.1 c;rw[AX];exact⟨a1,d!⟩;by_cases c:f.2=0<;>grind
theorem V3{b:FV}{x:Int}(h:RB b)(n:0<=x/\x<4294967296):Ar (Ej b x) λr=>RB r.2:=by have⟨a1,a2,a3⟩:=id h;unfold Ej;refine AQ (λd=>?_) (λl=>?_);rw[(AX (x:=len b.1-b.2.1) (by simp[len];omega))];refine AA (P:=λr=>RB r/\(r.2.2=0->r.2.1+x<=r.1.length)) ?_ λe j=>?_;refine AC (λ_=>AB ⟨⟨a1,a2,a3⟩,λd=>absurd d u!⟩) (λk=>AB ⟨h,λ_=>?_⟩);simp[len]at k;omega;have⟨⟨c,f,g⟩,i⟩:=j;refine AK (λ_=>AB ⟨c,f,g⟩) (λa=>?_);have m:=i a;rw[(AX (x:=e.2.1+x)),(AX (x:=e.2.1+x-x))];exact AA (Co) λo _=>AB ⟨c,d!⟩;grind[AK,AB]
def V2{b:FV}{x:Unit}(h:RB b):Ar (Ei b x) λr=>RB r.2:=by unfold Ei;refine AA (C8 h g!) λc a=>AK (λ_=>AB a.1) (λ_=>AQ (λ_=>AB a.1) (λ_=>?_));have q:=a.2 g!;refine AC (λ_=>AB a.1) (λ_=>?_);grind[AA,V3,AB]
theorem qM{x:BW}(h:x.length<=2199023255552):Ar (JP x) λr=>True:=by unfold JP;refine AA (C8 (b:=(x,(0,0))) ⟨h,Ad _,d!⟩ g!) λs c=>AA (C8 c.1 g!) λt d=>AA (C8 d.1 g!) λu f=>AA (C8 f.1 g!) λv g=>AA (C8 g.1 g!) λw i=>AA (C8 i.1 g!) λy j=>AA (C8 j.1 g!) λz k=>AA (C8 k.1 g!) λA l=>AA (V2 l.1) λB m=>AA (V2 m) λC n=>AA (C8 n g!) λo a=>AA (V3 a.1 (a.2 g!)) λp e=>AK (λ_=>AB trivial) (λ_=>AK (λ_=>AB trivial) (λ_=>AA Jz λq _=>AM (λ_=>AB trivial) (λ_=>AB trivial)))
theorem SP{x:Int×Int}:Ar (D6 x) λr=>True:=by unfold D6 FW;refine A7 (A7 ?_);refine AJ (λ_=>AJ (λ_=>AB trivial) (λ_=>AB trivial)) (λ_=>AJ (λ_=>AB trivial) (λ_=>AC (λ_=>AB trivial) (λ_=>AC (λ_=>AB trivial) (λ_=>AB trivial))))
theorem tn{x:List Int}(h:x.length<=16777216):Ar (KG x) λr=>True:=by unfold KG;refine AA (P:=λ_=>True) ?_ λv _=>BA (λ_ _=>AB trivial) (λ_ _=>AB trivial);refine AV (λ(s:Int)=>0<=s/\s<=x.length) (λ(s:Int)=>((x.length:Int)-s).toNat) ⟨Ad _,o!⟩ (λs a=>?_);have⟨c,d⟩:=a;unfold Jy;rw[(AX (x:=s+1))];refine AC (λb=>?_) (λ_=>AB trivial);grind[AA,AI,AK,AB]
def om{x:Af}:Ar (MJ x) λr=>r=true->1<=x.1/\x.1<=x.2.1/\x.2.1<=1099511627776/\0<=x.2.2.1/\x.2.2.1<=x.2.2.2.1/\x.2.2.2.1<64/\0<=x.2.2.2.2.1/\x.2.2.2.2.1<=8:=by
 unfold MJ;exact x!
def og{x:AE}:Ar (BF x) λr=>True:=by grind[BF,AQ,AB]
def sD{x:Af×AE}:Ar (P7 x) λr=>True:=by unfold P7;refine AA og λv _=>AJ (λ_=>?_) (λ_=>AB trivial);refine AC (λ_=>?_) (λ_=>AB trivial);refine AC (λ_=>?_) (λ_=>AB trivial);exact AC (λ_=>AB trivial) (λ_=>AB trivial)
def qN{x:AE×AE}:Ar (Og x) λr=>True:=by unfold Og;grind[AA,SP,tn,AB]
def tu{x:Af}:Ar (Vc x) λr=>r=true->jG x:=by
 unfold Vc;refine AA om λj d=>AM (λ_=>AB λb=>by cases b) (λa=>?_);have hn:=d a;refine AC (λ_=>AB λb=>by cases b) (λf=>?_);simp[len]at f;have q:jG x:=⟨hn.1,hn.2.1,hn.2.2.1,hn.2.2.2.1,hn.2.2.2.2.1,hn.2.2.2.2.2.1,hn.2.2.2.2.2.2.1,hn.2.2.2.2.2.2.2,o!⟩
 refine AA (P:=λ_=>True) ?_ λv _=>BA (λ_ _=>AB λ_=>q) (λ_ _=>AB λ_=>q);refine AV (λ(s:Int)=>0<=s/\s<=x.2.2.2.2.2.length) (λ(s:Int)=>((x.2.2.2.2.2.length:Int)-s).toNat) ⟨Ad _,o!⟩ (λs e=>?_);have⟨h,i⟩:=e;unfold TQ;rw[(AX (x:=s+1)),(AX (x:=s-1))];refine AC (λa=>?_) (λ_=>AB trivial);simp[len]at a;have c:((0<=s+1/\s+1<=x.2.2.2.2.2.length)/\((x.2.2.2.2.2.length:Int)-(s+1)).toNat<((x.2.2.2.2.2.length:Int)-s).toNat):=⟨o!,o!⟩
 refine AA (AI h a) λk _=>AA Jz λl _=>AM (λ_=>AB trivial) (λ_=>AA sD λm _=>AM (λ_=>AB trivial) (λ_=>AQ (λ_=>AC (λ_=>AB trivial) (λ_=>AB c)) (λg=>AA (AI) λn _=>AC (λ_=>AC (λ_=>AB trivial) (λ_=>AB c)) (λ_=>AA (AI) λo _=>AA qN λp _=>AC (λ_=>AB trivial) (λ_=>AK (λ_=>AB trivial) (λ_=>AB c))))))
def sC{x:BW}(h:x.length<=2199023255552):Ar (Kc x) λr=>r.2=0->jG r.1:=by
 unfold Kc;refine AA (Z8 (by exact h)) λp k=>AK (λf=>AB λa=>absurd a f) (λg=>?_);have⟨a1,a2,a3,a4⟩:=k g;dsimp only at a1 a2 a3 a4;refine AK (λ_=>AB n!) (λl=>AA jp λy _=>AM (λ_=>AB n!) (λ_=>?_));have b:p.1.length<=2199023255552:=o!
 refine AA (JB b) λz _=>AA (JB b) λA _=>AA (JB b) λB _=>AA (JB b) λC _=>AA (JB b) λD _=>AA (JB b) λi _=>AM (λ_=>AB n!) (λm=>?_);have n:i.1<=4096:=by simpa using m
 refine AA (P:=λr=> ∀u,r= .inl u->u.1≠0) ?_ λr hr=>BA (λu c=>AB λa=>absurd a (hr u c)) (λu c=>?_);refine AV (λ(s:Int×(Int×((List AE)×(Int×(Int×(Int×(Int×(Int×Af))))))))=>0<=s.2.1/\(s.2.1<=i.1\/s.2.1=0)/\s.2.2.1.length<=s.2.1) (λ(s:Int×(Int×((List AE)×(Int×(Int×(Int×(Int×(Int×Af))))))))=>(i.1-s.2.1).toNat) ⟨Ad _,.inr rfl,k!⟩ (λs o=>?_);have⟨t,v,w⟩:=o;unfold Ki;refine AC (λj=>?_) (λ_=>AB λu c=>by cases c);have e:=AX (x:=s.2.1+1);grind[AA,Z8,AK,AB,qM,Ac,List.length_cons,List.length_nil];refine AC (λ_=>AB n!) (λ_=>AA tu λq d=>AM (λ_=>AB n!) (λj=>AB λ_=>d j))
abbrev EN:=AE
def AAG(x y:Int):D6 (x,y)=some (if x<y then-1 else if x>y then 1 else 0):=by unfold D6 FW;simp only[bne_self_eq_false,AD,cond_false];by_cases a:x<y;simp[a];by_cases b:x>y;simp[a,b];simp[a,b]
theorem nh{x:Int}(h:0<=x/\x<=1099511627776:=by omega):wi x=x:=AX
theorem wip{i:Nat}(h:i<=16777216:=by omega):wi ((i:Int)+1)=((i+1:Nat):Int):=by grind[nh]
def wim{i:Nat}(h:i<=16777216:=by omega):wi ((i:Int)-1)=(i:Int)-1:=by grind[AX]
def bl8(n:Nat):Nat:=if n=0 then 0 else if n<2 then 1 else if n<4 then 2 else if n<8 then 3 else if n<16 then 4 else if n<32 then 5 else if n<64 then 6 else if n<128 then 7 else 8
def pj{n:Nat}(h:n<256):bl8 n<=8/\(1<=n->2^bl8 n<=2*n):=by grind[bl8]
def T8:BW:=(List.range 256).map λn=>UInt8.ofNat (bl8 n)
def AJt{n:Nat}(h:n<256):six T8 (n:Int)=some ((bl8 n:Nat):Int):=by have a:=(pj h).1;unfold six T8;simp[h];omega
noncomputable def Lz(x:Int):Option Int:=
 Option.bind ((
   bif (decide (x>=4294967296))then
    some ((Int.fdiv x (2^(min (Int.toNat 32) 64))),32)
   else
   some (x,0)):(Option (Int×Int))) λv0=>
 Option.bind ((
   bif (decide (v0.1>=65536))then
    some ((Int.fdiv v0.1 (2^(min (Int.toNat 16) 64))),(wi (v0.2+16)))
   else
   some v0):(Option (Int×Int))) λv1=>
 Option.bind ((
   bif (decide (v1.1>=256))then
    some ((Int.fdiv v1.1 (2^(min (Int.toNat 8) 64))),(wi (v1.2+8)))
   else
   some v1):(Option (Int×Int))) λv2=>
 Option.bind (six T8 (IntKind.wrap .u8 v2.1)) λv3=>
 some (wi (v2.2+(wi v3)))
def AH8:QX=Lz:=by kernel_rfl
def AJK(n:Nat):Int.fdiv (n:Int) (2^(min (Int.toNat 16) 64))=((n/65536:Nat):Int):=by grind[Int.toNat,Int.fdiv_eq_ediv_of_nonneg]
def fd8(n:Nat):Int.fdiv (n:Int) (2^(min (Int.toNat 8) 64))=((n/256:Nat):Int):=by grind[Int.toNat,Int.fdiv_eq_ediv_of_nonneg]
def wc{y s:Nat}(h:y<256)(c:s<=64):(Option.bind (six T8 (IntKind.wrap .u8 (y:Int))) λa=>some (wi ((s:Int)+(wi a))))=some ((s+bl8 y:Nat):Int):=by have b:=(pj h).1;rw[AIw,show(y:Int)%256=(y:Int) by omega,AJt h,AD,nh (x:=((bl8 y:Nat):Int)),nh];exact congrArg some (by omega)
def sF{x:Nat}(h:x<=16777216): ∃r:Nat,QX (x:Int)=some (r:Int)/\r<=32/\(1<=x->2^r<=2*x):=by
 rw[AH8];unfold Lz;have c:decide ((x:Int)>=4294967296)=false:=w!
 rw[c,cond_false,AD];by_cases f:x>=65536;have:decide (((x:Int),(0:Int)).1>=65536)=true:=w!
 have e:wi (((x:Int),(0:Int)).2+16)=((16:Nat):Int):=by show wi (0+16)=_;decide
 rw[this,cond_true,AD,e,AJK];by_cases g:x/65536>=256;have:decide (((((x/65536:Nat):Int),((16:Nat):Int)):Int×Int).1>=256)=true:=w!
 have e:wi (((((x/65536:Nat):Int),((16:Nat):Int)):Int×Int).2+8)=((24:Nat):Int):=by show wi (((16:Nat):Int)+8)=_;decide
 rw[this,cond_true,AD,e,fd8];have a:x/65536/256<256:=o!
 have b:=pj a;refine⟨_,wc a o!,o!,λ_=>?_⟩;grind[Nat.pow_add];have:decide (((((x/65536:Nat):Int),((16:Nat):Int)):Int×Int).1>=256)=false:=w!
 rw[this,cond_false,AD];have a:x/65536<256:=o!
 have b:=pj a;refine⟨_,wc a o!,o!,λ_=>?_⟩;grind[Nat.pow_add];have:decide (((x:Int),(0:Int)).1>=65536)=false:=w!
 rw[this,cond_false,AD];by_cases g:x>=256;have:decide (((x:Int),(0:Int)).1>=256)=true:=w!
 have e:wi (((x:Int),(0:Int)).2+8)=((8:Nat):Int):=by show wi (0+8)=_;decide
 rw[this,cond_true,AD,e,fd8];have a:x/256<256:=o!
 have b:=pj a;refine⟨_,wc a o!,o!,λ_=>?_⟩;grind[Nat.pow_add];have:decide (((x:Int),(0:Int)).1>=256)=false:=w!
 rw[this,cond_false,AD];have a:x<256:=o!
 have b:=pj a;refine⟨_,wc (s:=0) a o!,o!,λd=>?_⟩;have:=b.2 d;rw[D7];omega
def CP(B:Nat):Prop:=True
def CPa(B:Nat):CP B:=trivial
def PT{α:Type}(T:Prop)(o:Option α)(Q:α->Prop):Prop:=(T-> ∃r,o=some r)/\ ∀r,o=some r->Q r
section
variable {α β γ:Type} {T:Prop}
def PT.some{r:α}{Q:α->Prop}(h:Q r):PT T (.some r) Q:=⟨λ_=>⟨r,rfl⟩,λs e=>q!⟩
def kY{o:Option α}{Q:α->Prop}(h:Ar o Q):PT T o Q:=by obtain⟨r,rfl,h⟩:=h;exact PT.some h
def PT.bind{o:Option α}{k:α->Option β}{P:α->Prop}{Q:β->Prop}(h:PT T o P)(a: ∀r,P r->PT T (k r) Q):PT T (Option.bind o k) Q:=by
 cases o with
 |none=>exact⟨λt=>(by have⟨r,h⟩:=h.1 t;cases h),λr e=>(by cases e)⟩
 |some r=>exact a r (h.2 r rfl)
def PT.cond{c:Bool}{a b:Option α}{Q:α->Prop}(d:c=true->PT T a Q)(e:c=false->PT T b Q):PT T (bif c then a else b) Q:=q!
def PT.dec{p:Prop}{_:Decidable p}{a b:Option α}{Q:α->Prop}(c:p->PT T a Q)(d: ¬p->PT T b Q):PT T (bif decide p then a else b) Q:=q!
def bF{n m:Nat}{a b:Option α}{Q:α->Prop}(e:n=m)(h:PT T a Q):PT T (bif Nat.beq n m then a else b) Q:=t!
end
def oe{x:AO×Int}(h:x.1.1.length<=16)(a:0<=x.2/\x.2<x.1.1.length):Ar (Jx x) λr=>True:=by unfold Jx;have e:=AX (x:=x.2+1);rw[e];refine AC (λb=>?_) (λ_=>?_);simp only[len]at b;refine AA (AI a.1 a.2) λc _=>AA (AI o! b) λd _=>AB trivial;exact AA (AI a.1 a.2) λf _=>AB trivial
def mV{x:AO×Af}(h:x.1.1.length<=16):Ar (MO x) λr=>True:=by
 unfold MO;refine AA (P:=λ_=>True) ?_ λv _=>BA (λ_ _=>AB trivial) (λ_ _=>AB trivial);refine AV (λ(s:Int)=>0<=s/\s<=x.1.1.length) (λ(s:Int)=>((x.1.1.length:Int)-s).toNat) ⟨Ad _,o!⟩ (λs c=>?_);unfold Q7;have e:=AX (x:=s+1);rw[e];refine AC (λa=>?_) (λ_=>AB trivial);simp only[len]at a;have b:((0<=s+1/\s+1<=x.1.1.length)/\((x.1.1.length:Int)-(s+1)).toNat<((x.1.1.length:Int)-s).toNat):=⟨o!,o!⟩
 refine AA (oe h ⟨c.1,a⟩) λd _=>AQ (λ_=>?_) (λ_=>AB b);exact AQ (λ_=>AB trivial) (λ_=>AB b)
def mU{x:AO×AT}(h:x.1.1.length<=16)(c:x.2.2.2.length<=2199023255552):Ar (Gi x) λr=>r.2=true->jG r.1:=by unfold Gi;refine AK (λ_=>AB n!) (λ_=>AA (sC c) λd b=>AQ (λa=>?_) (λ_=>AB λa=>by cases a));exact AA (mV h) λe _=>AB λ_=>b a
def AAa{a b:Int}(f:0<=a:=by omega)(g:0<=b:=by omega)(h:a+b<=1099511627776:=by omega):wi (Int.fdiv (IntKind.wrap .u64 (wi (a+b))) (2^(min (Int.toNat 1) 64)))=(a+b)/2:=by
 have c:wi (a+b)=a+b:=AX;have d:IntKind.wrap .u64 (a+b)=a+b:=by rw[XB];omega
 have e:(2:Int)^(min (Int.toNat 1) 64)=2:=by decide
 rw[c,d,e,lL _ (by decide)];exact AX
def da{x:Int×Int}:Ar (OB x) λr=>r=true↔x.1<x.2:=by unfold OB FW;apply A7;refine AJ (λa=>?_) (λ_=>AB k!);simp at a
def MT{α:Type}(b:Bool)(o:Option α)(Q:α->Prop):Prop:=(b=true-> ∃r,o=some r)/\ ∀r,o=some r->Q r
section
variable {α β:Type} {b:Bool}
def MT.some{r:α}{Q:α->Prop}(h:Q r):MT b (.some r) Q:=⟨λ_=>⟨r,rfl⟩,λs e=>by injection e with e;rw[<-e];exact h⟩
def ka{o:Option α}{Q:α->Prop}(h:Ar o Q):MT b o Q:=⟨λ_=>by have⟨r,e,_⟩:=h;exact⟨r,e⟩,λr e=>h.get e⟩
def MT.bind{o:Option α}{k:α->Option β}{P:α->Prop}{Q:β->Prop}(h:MT b o P)(d: ∀r,P r->MT b (k r) Q):MT b (Option.bind o k) Q:=by refine⟨λc=>?_,λr e=>?_⟩;have⟨r,e⟩:=h.1 c;have⟨s,a⟩:=(d r (h.2 r e)).1 c;exact⟨s,by rw[e];exact a⟩;have⟨s,f,a⟩:=Db.1 e;exact(d s (h.2 s f)).2 r a
def MT.cond{c:Bool}{x y:Option α}{Q:α->Prop}(a:c=true->MT b x Q)(d:c=false->MT b y Q):MT b (bif c then x else y) Q:=by cases c<;>grind
def MT.dec{p:Prop}{_:Decidable p}{x y:Option α}{Q:α->Prop}(a:p->MT b x Q)(c: ¬p->MT b y Q):MT b (bif decide p then x else y) Q:=by simp_all[MT.cond]
end
def uP{a:Type}{l:List a}{i:Int}{x:a}:(E4 l i x).length=l.length:=by simp[E4]
abbrev NL:=List A0
def DS(a:AO):Prop:= ∀f∈a.2.2.1,f.2.2.length<=2199023255552
def SpL(l:List Er):Prop:=l.length<=16777216/\ ∀s∈l,1<=s.1
end Go.Pm
