/- Texts of wip, joined and shortened by wip/tools/pack.py; nothing is assumed. -/
import Derived.Test.YtkgodfhnofpglaaGreatDoorK8
noncomputable section
set_option linter.all false
set_option maxHeartbeats 1000000
open Option renaming some->D
open List renaming length->Z
open Go renaming Ψ->E
open Bool renaming false->X
open Option renaming none->A
open Bool renaming true->Y
open Go renaming Ω->V
open Option renaming some->δ,none->ε,bind->σ
open Bool renaming true->ζ,false->η
open List renaming length->θ
open Go.IntKind renaming wrap->ι
open Nat renaming beq->ξ
open Int renaming toNat->ο
open Decidable renaming decide->τ
namespace Go.Pm
open Go Go.Ab
def ACa(L:List EN)(a:AM)(F G s:Int)(nf:List Ad):Prop:=∀(j:Nat)(f:Ad),nf[j]?=δ f->
 ∃r,f=(1,s+j,Q5 r)/\VR r/\il L r/\r.1=F/\r.2.1=G/\a.1[j]?=δ r.2.2.1/\r.2.2.2.1=nl a j
def Dd.uq{l:AZ}(h:Dd l):Uq l.2.1:=λx b y c a=>Ue h.nodup b c a
def ABq{l:AZ}(h:Dd l){F G:Int}{v:List EN}(g:l.1<=F)(i:F<=G)(j:G<=l.1+θ l.2.1-1)(b:v=(l.2.1.drop (F-l.1).toNat).take ((G-l.1+1).toNat-(F-l.1).toNat))(e:EN):e∈v↔e∈l.2.1/\F<=e.1/\e.1<=G:=by subst b;have⟨l1,l2,m,n,o,c⟩:=h;rw[HC,HC];constructor;grind;rintro⟨⟨k,a⟩,d,f⟩;have:=(c _ e a).1;refine⟨k-(F-l.1).toNat,?_⟩;rw[XT,C! o!,Iu,show(F-l.1).toNat+(k-(F-l.1).toNat)=k by omega,a]
def y9{x:AM×AZ×Int}(h:SA x.1)(hb:VB x.1)(t:Dd x.2.1):An (ER x) λr=>r.2=0→r.1=x.1∨
  ∃F G a,r.1=(x.1.1,x.1.2.1,x.1.2.2.1++a,G+1,x.1.2.2.2.2+θ a)/\(x.1.2.2.2.1<=F/\(x.2.1.1<=x.1.2.2.2.1->F=x.1.2.2.2.1)/\(x.2.1.1<=F/\G<=x.2.1.2.2))/\F<=G/\θ a=θ x.1.1/\ACa x.2.1.2.1 x.1 F G x.1.2.2.2.2 a:=by
 unfold ER;refine AA OG λv0 h0=>AO (λ_=>AB λb=>N! (show(54:Int)=0 from b) g!) (λl=>?_);have⟨a1,a2,a3,a4,a5,a6,a7,a8,a9⟩:=h0 l;refine AA BP λv1 h1=>AO (λ_=>AB λb=>N! (show(26:Int)=0 from b) g!) (λaf=>?_);have⟨l1,l2,l3,l4,l5,l6⟩:=id t;refine AC (λ_=>AB λb=>N! (show(1:Int)=0 from b) g!) (λc1=>AC (λ_=>AB λb=>N! (show(1:Int)=0 from b) g!) (λc2=>?_));have p:∃F,(if(x.2.1.1>x.1.2.2.2.1)then x.2.1.1 else x.1.2.2.2.1)=F:=⟨_,rfl⟩
 have⟨F,p⟩:=p;have f1:x.2.1.1<=F/\x.1.2.2.2.1<=F/\F<=1099511627777:=q!
 have f2:x.2.1.1<=x.1.2.2.2.1->F=x.1.2.2.2.1:=q!
 have H:=AW (x:=F+x.2.2);have I:=AW (x:=F+x.2.2-1);have q:∃G,(if(x.2.1.2.2<(F+x.2.2-1))then x.2.1.2.2 else(F+x.2.2-1))=G:=⟨_,rfl⟩
 have⟨G,q⟩:=q;have g1:G<=x.2.1.2.2/\G<=F+x.2.2-1:=q!
 rw[p,H,I,q];refine AC (λ_=>AB λ_=>.inl rfl) (λc3=>?_);have V:=AW (x:=F-x.2.1.1);have W:=AW (x:=G-x.2.1.1);have X_:=AW (x:=G-x.2.1.1+1);rw[V,W,X_];have Y_:=AW (x:=len x.1.2.2.1+len x.1.1) (by simp[len];omega);have Z:=AW (x:=x.1.2.2.2.2+len x.1.1) (by simp[len];omega);rw[Y_,Z,(AW (x:=G+1))];refine AC (λ_=>AB λb=>N! (show(21:Int)=0 from b) g!) (λT=>AC (λ_=>AB λb=>N! (show(21:Int)=0 from b) g!) (λU=>?_));simp[len]at T U;refine AA (CA) λv2 J=>?_;have ag:=J.2;have m:=ABq t (F:=F) (G:=G) f1.1 o! o! J.1;refine AA (Rb ⟨AX _,d!,o!⟩) λv8 h8=>A9 (λu c=>AB λb=>N! b (h8 u c)) (λu c=>AA (Ac w!) λal v=>?_);have i:=v.1;rw[CY]at i;subst i;refine AA (P:=λr=>(∀u,r=.inl u->u.1≠0)/\∀u,r=.inr u->∃(a:List Ad),(u.1,u.2.1,u.2.2.1,u.2.2.2.1,u.2.2.2.2.1)=(x.1.2.2.1++a,x.1.1,x.1.2.1,x.1.2.2.2.1,x.1.2.2.2.2+θ a)/\θ a=θ x.1.1/\ACa x.2.1.2.1 x.1 F G x.1.2.2.2.2 a) ?_ λr hr=>A9 (λu c=>AB λb=>N! b (hr.1 u c)) (λu c=>AB λ_=>.inr ?_)
 ·refine Cb (λ(s:Int×List Ad×List Int×Int×Int×Int×AM)=>∃(k:Nat)(a:List Ad)(z:AM),s=((k:Int),x.1.2.2.1++a,x.1.1,x.1.2.1,x.1.2.2.2.1,x.1.2.2.2.2+(k:Int),z)/\k<=θ x.1.1/\θ a=k/\ACa x.2.1.2.1 x.1 F G x.1.2.2.2.2 a) (λs=>θ x.1.1-s.1.toNat)
   ⟨0,[],u,k!,Bo _,rfl,λj f d=>by simp at d⟩ ?_
  rintro s ⟨k,a,z,rfl,i2,B,L⟩;unfold Ju;dsimp only;simp only[len];rw[p,H,I,q];refine AC (λl=>?_) (λl=>An.done ⟨λu c=>(by cases c),λu c=>(by cases c;exact⟨a,by dsimp only;rw[B],o!,L⟩)⟩);have K:x.1.1[k]?=δ (x.1.1[k]' o!):=As o!;rw[ik hb.1 K,AD];refine AA (ACV t.uq (λe he=>((m e).1 he).1) o!) λo w=>AK (λl=>An.done ⟨λu c=>(by cases c;exact l),λu c=>(by cases c)⟩) (λb=>?_);have⟨C,es,n,m3⟩:=w b;rw[ph C,AD];refine AA (Ac w!) λao ad=>?_;rw[AW (x:=x.1.2.2.2.2+(k:Int)+1),AW (x:=(k:Int)+1)];refine An.next ⟨k+1,a++[(1,x.1.2.2.2.2+(k:Int),Q5 o.1)],z,?_,o!,by rw[Af,B];rfl,λj f d=>?_⟩ d!
  grind;by_cases hj:j<θ a;rw[CO hj]at d;exact L j f d;have A_:=Cd d;rw[Af,Cg,CU]at A_;have y:j=k:=o!
  subst y;rw[Ce o!,B,Gi]at d;cases d;refine⟨o.1,rfl,C,C.runOf t.uq λe=>?_,by rw[n],by rw[n],by rw[n];exact K,by rw[n]⟩;rw[n];dsimp only;rw[m3,m];constructor;grind;rintro⟨g,D_,E,q4,R,S⟩;exact⟨⟨g,R,S⟩,D_,E,q4,R,S⟩
 have⟨a,g,D_,E⟩:=hr.2 u c;refine⟨F,G,a,?_,⟨o!,f2,o!⟩,o!,D_,E⟩;have M:=E! (·.1) g;have N:=E! (·.2.1) g;have O:=E! (·.2.2.1) g;have Q:=E! (·.2.2.2.2) g;dsimp only at M N O Q;dsimp only;rw[M,N,O,Q]
def Mq.congr{a b:AM}(e:b.1=a.1)(f:b.2.1=a.2.1){d c:Int}:Mq a d c↔Mq b d c:=by grind[Mq,nl]
def Good.congr{a b:AM}(c:b.1=a.1)(d:b.2.1=a.2.1){f:Ad}{r:AY}(h:Good a f r):Good b f r:=⟨h.1,h.2.1,h.2.2.1,(Mq.congr c d).1 h.2.2.2⟩
def Good.run{a:AM}{f:Ad}{r s:AY}(h:Good a f r)(g:Good a f s):r=s:=sN h.2.2.1 g.2.2.1 (h.2.1.symm.trans g.2.1)
def AR.step{L:List EN}{a b:AM}{F G:Int}{s:List Ad}(h:AR L a)(e:b=(a.1,a.2.1,a.2.2.1++s,G+1,a.2.2.2.2+θ s))(hF:a.2.2.2.1<=F)(hG:F<=G)(hn:ACa L a F G a.2.2.2.2 s)(D_:VB b):AR L b/\(AG a->AG b)/\∀c,RC a c->RC b (c+1):=by
 have P:b.1=a.1:=by rw[e]
 have Q:b.2.1=a.2.1:=by rw[e]
 have Y_:b.2.2.1=a.2.2.1++s:=by rw[e]
 have h4:b.2.2.2.1=G+1:=by rw[e]
 have q:∀f∈s,∃(j:Nat)(r:AY),Good b f r/\il L r/\r.1=F/\r.2.1=G/\a.1[j]?=δ r.2.2.1/\s[j]?=δ f:=λf k=>by have⟨j,hj⟩:=HC.1 k;have⟨r,l,M,w,r4,W,S,r7⟩:=hn j f hj;refine⟨j,r,⟨by rw[l],by rw[l],M,(Mq.congr P Q).1 ⟨j,S,r7⟩⟩,w,r4,W,S,hj⟩
 have K:∀f∈a.2.2.1,Bad f\/∃r,Good b f r/\il L r/\r.2.1<a.2.2.2.1:=λf k=>(h.files f k).imp id λ⟨r,l,M,w⟩=>⟨r,l.congr P Q,M,w⟩
 have d:∀x∈F9 b,(x∈F9 a/\x.1.2.1<a.2.2.2.1)\/∃(j:Nat)(f:Ad),s[j]?=δ f/\Good b f x.1/\x.2=f.2.1/\x.1.1=F/\a.1[j]?=δ x.1.2.2.1:=λx m=>by unfold F9 at m;rw[Y_]at m;have⟨f,k,z⟩:=Sq.1 m;rcases Ao.1 k with k|k;rcases K f k with E|⟨r,l,M,w⟩;rw[E.intR D_.1]at z;cases z;rw[l.intR D_.1]at z;cases z;exact .inl ⟨dO h.vb.1 k (l.congr P.symm Q.symm),w⟩;have⟨j,r,l,M,w,r4,W,S⟩:=q f k;rw[l.intR D_.1]at z;cases z;exact .inr ⟨j,f,S,l,rfl,w,W⟩
 refine⟨⟨D_,λf k=>?_,λx m y R J p=>?_⟩,λU f k=>?_,λc Z v=>?_⟩;grind;rcases d x m with⟨n,A_⟩|⟨i,f,n,A_,N,x4,B⟩;rcases d y R with⟨o,C⟩|⟨j,g,o,C,T,y4,O⟩;exact h.dis x n y o J p;grind;rcases d y R with⟨o,C⟩|⟨j,g,o,C,T,y4,O⟩;exact .inr o!;rw[<-p]at O;have t:=h.vb.1.inj B O;subst t;rw[n]at o;cases o;exact N! (DX (A_.run C) (N.trans T.symm)) J;rw[Y_]at k;rcases Ao.1 k with k|k;have⟨r,hr⟩:=U f k;exact⟨r,hr.congr P Q⟩;have⟨j,r,l,_⟩:=q f k;exact⟨r,l⟩;have I:=(WC D_).filter λe=>e.1.2.2.1==v;by_cases H:∃y∈(F9 b).filter (λe=>e.1.2.2.1==v),∃(j:Nat)(f:Ad),s[j]?=δ f/\Good b f y.1/\y.2=f.2.1/\a.1[j]?=δ y.1.2.2.1;have⟨y,R,j,g,o,C,T,O⟩:=H;have V:y.1.2.2.1=v:=eq_of_beq (BU.1 R).2;have:=rD _ (y::(F9 a).filter λe=>e.1.2.2.1==v) I λx m=>by have⟨X_,u⟩:=BU.1 m;rcases d x X_ with⟨n,_⟩|⟨i,f,n,A_,N,x4,B⟩;grind;rw[eq_of_beq u,<-V]at B;have t:=h.vb.1.inj B O;subst t;rw[n]at o;cases o;exact A1.2 (.inl (DX (A_.run C) (N.trans T.symm)))
 rw[Cg]at this;have:=Z v;omega;have:=rD _ ((F9 a).filter λe=>e.1.2.2.1==v) I λx m=>by have⟨X_,u⟩:=BU.1 m;rcases d x X_ with⟨n,_⟩|⟨i,f,n,A_,N,x4,B⟩;exact BU.2 ⟨n,u⟩;exact N! ⟨x,m,i,f,n,A_,N,B⟩ H
 have:=Z v;omega
def AIw(a:AM)(lo n:Int):Prop:=∃e∈F9 a,e.1.2.2.1=lo/\e.1.1<=n/\n<=e.1.2.1
def AF(a:AM):Prop:=∀lo∈a.1,∀n:Int,1<=n->n<a.2.2.2.1->AIw a lo n
def AF.step{L:List EN}{a b:AM}{F G:Int}{c:List Ad}(w:AF a)(h:AR L a)(e:b=(a.1,a.2.1,a.2.2.1++c,G+1,a.2.2.2.2+θ c))(H:F=a.2.2.2.1)(z:θ c=θ a.1)(hn:ACa L a F G a.2.2.2.2 c)(s:VB b):AF b:=by
 have k:b.1=a.1:=by rw[e]
 have p:b.2.1=a.2.1:=by rw[e]
 have q:b.2.2.1=a.2.2.1++c:=by rw[e]
 have E:b.2.2.2.1=G+1:=by rw[e]
 intro A_ d n B I;rw[k]at d;rcases kE n a.2.2.2.1 with g|g;obtain⟨r,hr,i,m,u⟩:=w A_ d n B g;have⟨f,l,v,D_,_⟩:=h.mem hr;exact⟨(r.1,f.2.1),dO s.1 (by rw[q];exact Ff _ l) (v.congr k p),i,m,u⟩;have⟨j,t⟩:=HC.1 d;have y:=Cd t;have l:c[j]?=δ (c[j]' o!):=As o!;have⟨r,i,m,u,J,K,o,C⟩:=hn j _ l;have x:Good b (c[j]' o!) r:=⟨by rw[i],by rw[i],m,(Mq.congr k p).1 ⟨j,o,C⟩⟩
 refine⟨(r,(c[j]' o!).2.1),dO s.1 (by rw[q];exact Mt _ (Pa _)) x,?_,d!⟩;rw[t]at o;exact(BH o).symm
def SF(a:AM)(m:Int):Prop:=a.2.2.2.2+θ a.2.2.1<=m
def AEl{x:AM×AZ×Int}{m:Int}(h:AR x.2.1.2.1 x.1)(f:Dd x.2.1)(u:SF x.1 m):An (ER x) λr=>r.2=0->AR x.2.1.2.1 r.1/\(AG x.1->AG r.1)/\(∀c,RC x.1 c->RC r.1 (c+1))/\SF r.1 (m+32)/\r.1.2.1=x.1.2.1/\(r.1.2.2.2.1=x.1.2.2.2.1\/r.1.2.2.2.1<=x.2.1.2.2+1)/\(He x.2.1.2.1->AF x.1->AF r.1):=by
 refine((AEm h.sa h.vb).and (y9 h.sa h.vb f)).mono λr hr k=>?_;have⟨z,l,A_,B⟩:=hr.1 k;rcases hr.2 k with e|⟨F,G,v,g,i,n,o,j⟩;rw[e];exact⟨h,id,λc s t=>Nat.le_succ_of_le (s t),by unfold SF at*;omega,rfl,.inl rfl,λ_=>id⟩
 ·have a:=h.step g i.1 n j l;have b:0<θ x.2.1.2.1:=by have:=f.2.2.2.2.1;omega
  have d:He x.2.1.2.1->AF x.1->AF r.1:=λp q=>q.step h g (i.2.1 (by have w:=(p 0 _ (As b)).1;have y:=(f.2.2.2.2.2 0 _ (As b)).1;have:=h.vb.2.1;omega)) o j l;have:=h.sa.1;refine⟨a.1,a.2.1,a.2.2,?_,?_,?_,d⟩;all_goals unfold SF at*;grind
def ACb{L:List EN}{x:Int×List Int}(h:BD x.1 x.2):An (EE x) λr=>AR L r.1/\AG r.1/\RC r.1 0/\SF r.1 1/\r.1.2.1=x.1/\r.1.2.2.2.1=1:=by
 have a:An (EE x) λr=>r.2=0->r.1.2.2.1=[]/\r.1.2.2.2.2=1:=by refine AA Xm λo b=>AO (λj=>AB λm=>?_) (λ_=>?_);grind;have l:=h.2.2.2.1;grind[AA,Ac,AB]
 refine((AGb h).and a).mono λr hr=>?_;have⟨⟨b,c,d,g⟩,i⟩:=hr;refine⟨⟨c,λf a=>?_,λe k=>?_⟩,λf a=>?_,λn=>?_,?_,d,g⟩;grind;grind[F9];grind;grind[F9];unfold SF;grind
def ACe{n p:Int}{l:List Int}(h:BD n l):An (JR (l,p)) λr=>0<=r.1/\r.1<=θ l/\(∀(i:Nat)(v:Int),(i:Int)<r.1->l[i]?=δ v->v<p)/\(∀(i:Nat)(v:Int),r.1<=(i:Int)->l[i]?=δ v->p<=v)/\(r.2=ζ->l[r.1.toNat]?=δ p)/\(r.2=η->∀v,l[r.1.toNat]?=δ v->p<v):=by
 have t:=h.2.2.2.1;refine AA (P:=λ(r:Int)=>0<=r/\r<=θ l/\(∀(i:Nat)(v:Int),(i:Int)<r->l[i]?=δ v->v<p)/\∀(i:Nat)(v:Int),r<=(i:Int)->l[i]?=δ v->p<=v) ?_ λJ u=>?_
 ·refine Cb (λ(s:Int×Int)=>0<=s.1/\s.1<=s.2/\s.2<=θ l/\(∀(i:Nat)(v:Int),(i:Int)<s.1->l[i]?=δ v->v<p)/\∀(i:Nat)(v:Int),s.2<=(i:Int)->l[i]?=δ v->p<=v) (λ(s:Int×Int)=>(s.2-s.1).toNat) ⟨AX _,q!,q!,λi v e=>q!,λi v e b=>q!⟩ (λs y=>?_);have⟨o,G,C,D_,E⟩:=y;unfold Mo;rw[zf o];refine AC (λa=>?_) (λa=>An.done ?_)
  ·refine AA (AI o! q!) λF g=>AA cM λH k=>?_;rw[(AW (x:=(s.1+s.2)/2+1))];refine AA (P:=λ(q:Int×Int)=>(0<=q.1/\q.1<=q.2/\q.2<=(θ l:Int)/\(∀(i:Nat)(v:Int),(i:Int)<q.1->l[i]?=δ v->v<p)/\∀(i:Nat)(v:Int),q.2<=(i:Int)->l[i]?=δ v->p<=v)/\(q.2-q.1).toNat<(s.2-s.1).toNat) ?_ λI m=>An.next m.1 m.2
   refine AJ (λB=>AB ⟨⟨q!,q!,C,λi v e b=>?_,E⟩,q!⟩) (λz=>AB ⟨⟨o,o!,o!,D_,λi v e b=>?_⟩,o!⟩);have f:=k.1 B;have:=h.le (i:=i) (j:=((s.1+s.2)/2).toNat) o! b g.1;omega;have f:¬F<p:=λq=>by have:=k.2 q;rw[z]at this;cases this
   have:=h.le (i:=((s.1+s.2)/2).toNat) (j:=i) o! g.1 b;omega
  grind
 have⟨a1,a2,a3,a4⟩:=u;refine AC (λa=>?_) (λa=>AB ⟨a1,a2,a3,a4,λc=>(by cases c),λ_ v b=>?_⟩);simp[len]at a;refine AA (AI a1 a) λK w=>AQ (λd=>AB ⟨a1,a2,a3,a4,λ_=>by dsimp only;rw[w.1,d],λc=>(by cases c)⟩) (λA_=>AA (AI a1 a) λL _=>AJ (λc=>?_) (λ_=>AB ⟨a1,a2,a3,a4,λc=>(by cases c),λ_ v b=>?_⟩));grind;grind;grind
def Sn(a:AM)(p lo hi:Int):Prop:=∃i:Nat,a.1[i]?=δ lo/\hi=nl a i/\lo<=p/\p<=hi
def rO{a:AM}{p:Int}(h:VB a)(z:0<=p/\p<a.2.1):∃b d,GA (a,p)=δ (b,d,ζ)/\Sn a p b d:=by
 have key:An (GA (a,p)) λr=>r.2.2=ζ/\Sn a p r.1 r.2.1:=by
  unfold GA;dsimp only;refine AA (HF h) λG m=>?_;rw[m,Ca,A!,F! o!,A!,F! o!,A!];refine AA (ACe h.1) λc n=>?_;have⟨D_,E,v,F,k,x⟩:=n;have q:=h.1.2.2.2.1;refine AA (P:=λl:Int=>∃(i:Nat)(b:Int),l=i/\a.1[i]?=δ b/\b<=p/\∀w,a.1[i+1]?=δ w->p<w) ?_ λl s=>?_;refine AO (λt=>AB ?_) (λf=>AB ?_);have e:0<c.1:=by refine TD λy=>?_;have:=x t 0 (by rw[show c.1.toNat=0 by omega];exact h.1.2.2.2.2.1);omega
  rw[AW];refine⟨c.1.toNat-1,a.1[c.1.toNat-1],o!,As o!,?_,λw g=>?_⟩;have:=v (c.1.toNat-1) _ o! (As o!);omega;grind;refine⟨c.1.toNat,p,o!,k f,AX _,λw g=>?_⟩;exact h.1.lt 0 c.1.toNat p w (k f) g;obtain⟨i,b,rfl,j,u,A_⟩:=s;rw[xO h.1 j,AD];refine AB ⟨rfl,i,j,rfl,u,?_⟩;grind[nl]
 have⟨⟨b,d,o⟩,k1,B,C⟩:=key;grind
def Sn.uniq{a b:AM}{p l1 l2 f g:Int}(h:BD a.2.1 a.1)(d:b.1=a.1)(e:b.2.1=a.2.1)(m:Sn a p l1 f)(n:Sn b p l2 g):l1=l2:=by
 obtain⟨i,s,t,u,v⟩:=m;obtain⟨j,w,z,A,B⟩:=n;have o:nl b j=nl a j:=by unfold nl;rw[d,e]
 have key:∀{i j:Nat}{x y:Int},a.1[i]?=δ x->a.1[j]?=δ y->i<j->nl a i<y:=λ{i j x y} q c k=>by have r:=Cd c;have l:a.1[i+1]?=δ (a.1[i+1]' o!):=As o!;have:=h.le (by omega:i+1<=j) l c;unfold nl;grind
 grind
def rN(P:Int->Prop)(j fl:Int):Prop:=0<=fl/\fl<=j/\(∀n,fl<n->n<=j->P n)/\(fl=0\/¬P fl)
def rN.uniq{P Q:Int->Prop}{j r s:Int}(h:∀n,P n↔Q n)(hr:rN P j r)(a:rN Q j s):r=s:=by obtain⟨b,c,d,e⟩:=hr;obtain⟨f,g,i,k⟩:=a;grind
structure S9(L:List EN)(l:AZ):Prop where
 vl:Dd l
 sorted:L.Pairwise λx y=>x.1<y.1
 tail:∀e,e∈l.2.1↔e∈L/\l.1<=e.1/\e.1<=l.1+l.2.1.length-1
 len:L.length<=4096
def AGa{B:Nat}{L:List EN}{a:AM}{l:AZ}{p i j:Int}(q:CP B)(D:B≤16777216)(v:j-i≤B)(t:0≤i)(F:i≤j)(E:j≤1099511627776)(h:AR L a)(w:S9 L l)(y:0≤p∧p<a.2.1):
  ∃o t d,Sn a p o t/\rN (fT a l o) j d/\P4 (a,l,p,i,j)=δ (τ (d<=i))/\An (Hn (a,l,p,i,j)) λr=>(d>i/\r=([],42))\/(d<=i/\((XZ i (L.filter (J6 p i j))/\r=(L.filter (J6 p i j),0))\/(¬XZ i (L.filter (J6 p i j))/\r=([],13)))):=by
 obtain⟨o,u,x,n⟩:=rO h.vb y;obtain⟨k,k1,G,H,I⟩:=id n;obtain⟨d,z,C,A⟩:=AGZ q D v t F E h.vb h.ds w.vl y x rfl w.sorted w.tail (λe s=>by
  obtain⟨f,_,_,_,g,_⟩:=h.mem s;exact g) h.dis (λe s m=>by
  obtain⟨f,_,g,_⟩:=h.mem s;have c:e.1.2.2.1=o:=m;have b:=g.2.2.2;rw[c]at b;have:=b.uniq h.vb.1 ⟨k,k1,G⟩;exact⟨H,o!⟩)
 exact⟨o,u,d,n,z,C,A⟩
def Dd.sorted{l:AZ}(h:Dd l):l.2.1.Pairwise λx y=>x.1<y.1:=by have⟨l1,l2,a,b,c,d⟩:=h;rw[EU];grind
theorem ga{l:AZ}(h:Dd l):S9 l.2.1 l:=⟨h,h.sorted,λe=>⟨λa=>⟨a,by have⟨k,b⟩:=HC.1 a;have:=(h.2.2.2.2.2 k e b).1;have:=Cd b;omega⟩,λa=>a.1⟩,h.2.2.1⟩
def wA{p i j:Int}{e:EN}:J6 p i j e=(Yp p e&&(τ (e.1>i)&&τ (e.1<=j))):=by unfold J6 Yp ZK;grind
def XZ.snoc{i:Int}{s:List EN}{e:EN}(h:XZ i s)(m:s=[]->e.2.2.2.2.1<=i)(n:∀f,s[θ s-1]?=δ f->e.2.2.2.2.1=f.1):XZ i (s++[e]):=by
 intro k g b;rcases Ar k (θ s) with d|d;rw[CO d]at b;refine⟨(h k g b).1,λf a c=>(h k g b).2 f a ?_⟩;grind;have o:=Cd b;rw[Af,List.length_singleton]at o;have l:k=θ s:=o!
 subst l;have j:e=g:=q!
 subst j;refine⟨λp=>m (EJ p),λf a c=>n f ?_⟩;rwa [CO o!]at c
def ui{n p i j:Int}{L:List EN}(H:LI n L)(I:L.Pairwise λx y=>x.1<y.1)(J:0≤i):∀m:Nat,m≤θ L→
  XZ i ((L.take m).filter (J6 p i j))/\((∀f∈L.take m,f.1<=j)->((L.take m).filter (J6 p i j)=[]->BQ (L.take m) p<=i)/\∀f,((L.take m).filter (J6 p i j))[((L.take m).filter (J6 p i j)).length-1]?=δ f->BQ (L.take m) p=f.1)
 |0,_=>by rw[List.take_zero];exact⟨λk e G=>by simp at G,λ_=>⟨λ_=>J,λf a=>by simp at a⟩⟩
 |m+1,hm=>by
  obtain⟨E,F⟩:=ui (j:=j) H I J m o!;have d:m<θ L:=o!
  have B:L.take (m+1)=L.take m++[L[m]]:=by rw[CI,As d];rfl
  have l:∀f∈L.take m,f.1<L[m].1:=λf a=>by obtain⟨k,w⟩:=Ci a;have z:=Cd w;rw[BJ]at z;rw[JY o!,As o!]at w;rw[<-BH w];exact EU.1 I k m o! d o!
  have A_:=H m _ (As d);rw[B,Gr];generalize K:L.take m=M at*;generalize L[m]=e at*;by_cases t:J6 p i j e=ζ;have g:=t;rw[wA]at g;simp only[BN,K!]at g;obtain⟨s,O,P⟩:=g;have q:e.2.2.2.2.2.2.1.1=p/\(e.2.1=1\/e.2.1=2):=by unfold Yp at s;simp only[BN,VU,J!]at s;exact⟨s.2,s.1⟩
  obtain⟨C,D_⟩:=F λf a=>by have:=l f a;omega
  have b:=A_.1 q.2;rw[q.1]at b;rw[ub t,kH];refine⟨E.snoc (λh=>by rw[b.1];exact C h) (λf a=>by rw[b.1];exact D_ f a),λ_=>⟨λh=>by simp at h,λf a=>?_⟩⟩;rw[PB,C! s];have:e=f:=by simpa using a
  rw[this];rw[ua t,kH,Dl];refine⟨E,λc=>?_⟩;have G:=c e k!;obtain⟨C,D_⟩:=F λf a=>c f (Ff _ a);rw[PB];by_cases u:Yp p e=ζ;have v:e.1<=i:=by refine TD λN=>t ?_;rw[wA,u];simp;omega
  have o:M.filter (J6 p i j)=[]:=List.filter_eq_nil_iff.2 λf a r=>by rw[wA]at r;simp only[BN,K!]at r;have:=l f a;omega
  rw[C! u,o];exact⟨λ_=>v,λf a=>by simp at a⟩;rw[D! u];exact⟨C,D_⟩
def uh{n p i j:Int}{L:List EN}(a:LI n L)(b:L.Pairwise λx y=>x.1<y.1)(c:0<=i):XZ i (L.filter (J6 p i j)):=by have:=(ui (p:=p) (j:=j) a b c (θ L) (Ai _)).1;grind
def yy{B:Nat}{n:Int}{L:List EN}{a:AM}{l:AZ}{p i j:Int}(f:CP B)(v:B≤16777216)(x:LI n L)(g:j-i≤B)(c:0≤i)(y:i≤j)(w:j≤1099511627776)(h:AR L a)(m:S9 L l)(z:0≤p∧p<a.2.1):
  ∃d c b,Sn a p d c/\rN (fT a l d) j b/\P4 (a,l,p,i,j)=δ (τ (b<=i))/\((b>i/\Hn (a,l,p,i,j)=δ ([],42))\/(b<=i/\Hn (a,l,p,i,j)=δ (L.filter (J6 p i j),0))):=by
 obtain⟨d,u,b,A_,s,t,r,q,C⟩:=AGa f v g c y w h m z;refine⟨d,u,b,A_,s,t,?_⟩;rcases C with⟨k,e⟩|⟨k,⟨e,o⟩|⟨e,o⟩⟩;exact .inl ⟨k,by rw[q,e]⟩;exact .inr ⟨k,by rw[q,o]⟩;exact N! (uh x m.sorted c) e
def ABz{x:AT×Dh}(a:OY x.2)(c:x.2.1=x.1.1)(b:Fm x.1.2.2 x.2.2.1=δ x.2.2.2.1):UI x=δ ((x.1.1,x.1.2.1,WN x.1.2.2 x.2.2.1 x.2.2.2.2),0):=by grind[An,UI,WN,AA,cL,AO,AK,A6,AB]
def AFh{x:AT}{e:AE}(h:HB x)(d:L3 e)(j:e.2.1=1\/e.2.1=2)(b:e.2.2.2.2.2.2.1.1=x.1)(f:e.2.2.2.2.1=x.2.1)(c:Fm x.2.2 e.2.2.2.2.2.2.1.2.1=δ e.2.2.2.2.2.2.1.2.2.1):Ua (x,e)=δ (upd x e,0):=by
 suffices g:An (Ua (x,e)) λr=>r=(upd x e,0) by obtain⟨r,hr,rfl⟩:=g;exact hr
 have a:OY e.2.2.2.2.2.2.1:=by grind[L3,Ur]
 unfold Ua;refine AA J2 λv i=>AO (λa=>N! (i d) (by simp[a])) (λ_=>?_);rw[mG,(by grind[ZK]:ZK e=ζ),ka h,AD,Ca,A!];refine A6 (AK (λa=>N! rfl a) (λ_=>AK (λa=>N! b a) (λ_=>AK (λa=>N! f a) (λ_=>?_))));rw[ABz a b c];exact A6 (AK (λa=>N! rfl a) (λ_=>AB rfl))
def AFj{x:AT}{a:List AE}(q:OKs x a)(d:θ a<=4096):Uc (x,a)=δ (a.foldl upd x,0):=by
 suffices t:An (Uc (x,a)) λr=>r=(a.foldl upd x,0) by obtain⟨r,hr,rfl⟩:=t;exact hr
 generalize v:a.foldl upd x=y;refine AA (P:=λr=>∃z,r=.inr (y,z)) ?_ λr hr=>?_
 ·refine Cb (λ(s:Int×AT×AT)=>∃A_ B,a=A_++B/\s.1=θ A_/\OKs s.2.1 B/\B.foldl upd s.2.1=y) (λ(s:Int×AT×AT)=>((θ a:Int)-s.1).toNat) ⟨[],a,rfl,rfl,q,v⟩ ?_;rintro⟨i,x,z⟩ ⟨A_,B,rfl,g,h,c⟩;dsimp only at g h c;subst g;unfold ZT;dsimp[len];rw[Af]at d;refine AC (λb=>?_) (λb=>An.done ?_)
  ·obtain _|⟨e,B⟩:=B;simp at b;have u:ix (A_++e::B) (θ A_:Int)=δ e:=by unfold ix;rw[C! o!,Cz,Ce (Ai _),Gi];rfl
   have⟨⟨j,f,k,l,m,n⟩,o⟩:=h;have p:e.2.2.2.2.1<e.1:=f.2.2.2.2.2.1;rw[u,AD,F! o!,A!,AFh j f k l m n,AD,AW (x:=(θ A_:Int)+1)];refine AK (λb=>N! rfl b) (λ_=>An.next ⟨A_++[e],B,k!,k!,o,c⟩ d!)
  obtain _|⟨e,B⟩:=B;exact⟨z,by rw[<-c];rfl⟩;simp at b;omega
 grind[Av,AB]
def w6{L:List AE}(h:He L){p:Int}{a b:Nat}(g:a<=b):L.filter (J6 p a b)=((L.take b).drop a).filter (Yp p):=by
 have j:∀(i:Nat)(e:AE),L[i]?=δ e->J6 p a b e=(Yp p e&&(τ (a<=i)&&τ (i<b))):=λi e d=>by have:=(h i e d).1;rw[wA,show τ (e.1>(a:Int))=τ (a<=i)from decide_eq_decide.2 o!,show τ (e.1<=(b:Int))=τ (i<b)from decide_eq_decide.2 o!]
 conv=>lhs;rw[<-De b L,tn L g]
 rw[Gr,Gr];rw[(List.filter_eq_nil_iff (l:=L.take a)).2 λe d=>by obtain⟨i,c⟩:=Ci d;have f:=Cd c;rw[BJ]at f;rw[JY o!]at c;rw[j i e c,F! (show¬a<=i by omega)];simp];rw[(List.filter_eq_nil_iff (l:=L.drop b)).2 λe d=>by obtain⟨i,c⟩:=Ci d;rw[Iu]at c;rw[j _ e c,F! (show¬b+i<b by omega)];simp];rw[CY,Dl];refine List.filter_congr λe d=>?_;obtain⟨i,c⟩:=Ci d;rw[Iu]at c;have f:=Cd c;rw[BJ]at f;rw[JY o!]at c;rw[j _ e c,G! (show a<=a+i by omega),G! (show a+i<b by omega)];simp
def ADu{a:AM}{l:AZ}(h:VB a)(b:Dd l):QC (a,l)=δ 0:=by obtain⟨v,c,rfl⟩:=HF h;obtain⟨w,d,rfl⟩:=Ji b;grind[QC,Bool.not_true]
def dd(x:AT):C8:=(x.1,x.2.1,mK x)
def MK(L:List EN)(n:Nat):List C8:=(List.range n).map λ(i:Nat)=>dd (st L i)
abbrev c!(s:Int)(n:Nat)(L:List EN)(k:Nat):=(s,(n:Int),MK (L.take k) n)
theorem Lr(L:List EN)(n:Nat):(MK L n).length=n:=by grind[MK,List.length_map,List.length_range]
theorem mQ{L:List EN}{n i:Nat}(h:i<n):(MK L n)[i]?=δ (dd (st L i)):=by grind[MK,List.getElem?_range]
theorem YQ{L:List EN}{n:Nat}{i:Int}(a:0<=i)(h:i<n):ix (MK L n) i=δ (dd (st L i)):=by have⟨v,c,b,_⟩:=AI (l:=MK L n) a (by rw[Lr];exact h);grind[mQ,Int.toNat_of_nonneg,Option.some.inj]
def xz(L:List EN)(n:Nat):MK L (n+1)=MK L n++[dd (st L n)]:=by grind[MK,List.range_succ]
theorem ABG{L:List EN}(h:He L){p:Int}{k:Nat}(a:(st (L.take k) p).2.1=0):st (L.take k) p=(p,0,GF.all (η,[])):=by rw[J5]at a;exact(kh h (j:=k) (k:=0) (by rw[a];rfl)).trans rfl
def sj{L:List EN}(h:He L)(a:θ L<=1099511627776){p:Int}(b:0<=p/\p<64){k:Nat}:GD (mK (st (L.take k) p),p)=δ (st (L.take k) p,0):=by grind[ADm,WG,ABG,Sb]
theorem oA{L:List EN}(h:He L)(l:θ L<=1099511627776){s:Int}{n k:Nat}(d:1<=s/\s<=1073741824)(hn:1<=n/\n<=64):Kk (s,(n:Int),MK (L.take k) n)=δ ζ:=by
 suffices d:An (Kk (s,(n:Int),MK (L.take k) n)) λr=>r=ζ by obtain⟨r,hr,rfl⟩:=d;exact hr
 unfold Kk;dsimp only;have c:len (MK (L.take k) n)=n:=by grind[Lr]
 rw[F! o!,A!,F! o!,A!,F! o!,A!,F! o!,A!,c,F! o!,A!];refine AA (P:=λr=>r=.inr ()) ?_ λr hr=>by rw[hr];exact Av (AB rfl)
 refine Cb (λ(s:Int)=>0<=s/\s<=n) (λs=>((n:Int)-s).toNat) ⟨AX _,o!⟩ (λi j=>?_);have⟨e,o⟩:=j;unfold cQ;dsimp only;rw[c];refine AC (λa=>?_) (λ_=>An.done rfl);have f:An (δ (Step.next (wi (i+1))):Option (Step Int (Bool⊕Unit))) (Ls (λ(s:Int)=>0<=s/\s<=n) (λs=>((n:Int)-s).toNat) ((n:Int)-i).toNat λr=>r=.inr ()):=by grind[AW,An.next]
 have g:(dd (st (L.take k) i)).1=i:=Sb _ _;rw[YQ e a,AD,g,F! o!,A!];have b:GD ((dd (st (L.take k) i)).2.2,i)=δ (st (L.take k) i,0):=sj h l ⟨e,o!⟩;refine AC (λm=>?_) (λ_=>?_);rw[AW,YQ o! o!,AD,show(dd (st (L.take k) (i-1))).1=i-1 from Sb _ _,F! o!,A!,b,AD];exact AK (λa=>N! rfl a) (λ_=>AK (λa=>N! rfl a) (λ_=>f));rw[b,AD];exact AK (λa=>N! rfl a) (λ_=>AK (λa=>N! rfl a) (λ_=>f))
def AF8{L:List EN}(h:He L)(a:θ L<=1099511627776){s:Int}{n k:Nat}(b:1<=s/\s<=1073741824)(hn:1<=n/\n<=64):Vr (s,(n:Int),MK (L.take k) n)=δ ζ:=by unfold Vr;rw[oA h a b hn,AD,B!];dsimp only;rw[(by grind[Lr]:len (MK (L.take k) n)=n),L!]
def ADa{m:Nat}(h:m<=64):JN (1,(m:Int))=δ (1,(m:Int),MK [] m):=by
 suffices d:An (JN (1,(m:Int))) λr=>r=(1,(m:Int),MK [] m) by obtain⟨r,hr,rfl⟩:=d;exact hr
 unfold JN;refine AA (P:=λr=>r=(MK [] m,1,(m:Int))) ?_ λr hr=>AB (by rw[hr]);refine Cb (λ(t:Int×List C8×Int×Int)=>0<=t.1/\t.1<=m/\t.2=(MK [] t.1.toNat,1,(m:Int))) (λt=>((m:Int)-t.1).toNat) ⟨AX _,d!,rfl⟩ ?_;rintro⟨i,t⟩ ⟨b,f,c⟩;dsimp only at b f c;subst c;unfold TU;dsimp only;refine AC (λa=>?_) (λa=>An.done ?_)
 ·rw[qp,AD];refine AA (Ac (by rw[Lr];simp;omega)) λv e=>?_;rw[AW];refine An.next ⟨d!,d!,?_⟩ d!
  dsimp only;rw[e.1,show(i+1).toNat=i.toNat+1 by omega,xz,Ir b];rfl
 rw[show i.toNat=m by omega]
def He.nil:He []:=λi e h=>by simp at h
def ACz{l:List Int}(h:∀c∈l,0≤c∧c<256):An (bif (τ ((len l)>500))then
    σ (WJ l 0 500) λd=>
    δ d
   else
   δ l) λr=>CX (r,0):=by
 refine AC (λa=>?_) (λa=>AB ⟨AX _,by simp only[len]at a;dsimp only;omega,h⟩);simp only[len]at a;refine AA (CA) λd e=>AB ⟨AX _,d!,λc b=>?_⟩;dsimp only at b;rw[e.1]at b;exact h c (Xe (Iq b))
theorem ma{a:Type}{l r:List a}(h:r.Perm l):ξ (θ r) (θ l)=ζ:=by rw[h.length_eq];exact HD _
def zW{g v:Type}{c:g×g->Option v}{n:v->Bool}(y:∀p,An (c p) λ_=>True){l:List g}{b:Nat}(w:b<=θ l)(K:θ l<=16777000):An (ADL c n l (0,(b:Int))) λr=>r.Perm l:=by
 unfold ADL;refine AA (P:=λr=>r.Perm l) ?_ λr hr=>AB hr;refine Cb (λ(s:Int×List g)=>1<=s.1/\s.1<=b+1/\s.2.Perm l) (λs=>((b:Int)+1-s.1).toNat) ⟨by show 1<=wi (0+1);rw[AW];decide,by show wi (0+1)<=_;rw[AW];omega,oQ _⟩ ?_;rintro⟨M,N⟩ ⟨B,C,h⟩;dsimp only at B C h;refine AC (λw=>?_) (λ_=>An.done h);have q:=h.length_eq;refine AA (P:=λr=>r.Perm l) ?_ λr hr=>?_
 ·refine Cb (λ(t:Int×List g)=>0<=t.1/\t.1<θ l/\t.2.Perm l) (λt=>t.1.toNat) ⟨d!,d!,h⟩ ?_;rintro⟨e,j⟩ ⟨d,D_,i⟩;dsimp only at d D_ i;have O:=i.length_eq;unfold AGH;dsimp only;refine AA (P:=λr:Unit⊕Unit=>r=.inr ()->e>0) ?_ λr hr=>?_;refine AC (λa=>?_) (λ_=>AB λA_=>by cases A_);rw[AW (x:=e-1)];refine AA (AI d) λQ _=>AA (AI d) λR _=>AA (AI) λS _=>AA (AI) λT _=>AA (y _) λU _=>AJ (λ_=>AB λ_=>a) (λ_=>AB λ_=>a)
  ·refine A9 (λu _=>An.done i) (λu z=>?_);have a:=hr (by cases u;exact z);rw[AW (x:=e-1)];refine AA (AI) λE _=>AA (AI) λf k=>AA (AI d) λF _=>AA (AI d) λo m=>AA (AI d) λG _=>AA (AI d) λH _=>?_;have L:(E2 j e f).length=θ j:=tJ;refine AA (AI) λI _=>AA (AI) λJ _=>An.next ⟨d!,d!,?_⟩ d!
   dsimp only;unfold E2;rw[(by have:=k.1;rw[As o!]at this;exact(BH this).symm:f=j[(e-1).toNat]),(by have:=m.1;rw[As o!]at this;exact(BH this).symm:o=j[e.toNat])];exact(List.set_set_perm o! o!).trans i
 ·grind[AW,An.next]
def AGO{a:Type}{f:List a->Int×Int->Option (List a)}{l:List a}(d:An (f l (0,(θ l:Int))) λr=>r.Perm l)(h:θ l<=12)(n:Int):An (qh (λ(_:List a×(Int×(Int×Int))->Option (List a)) p=>pdG f p.1 p.2) (l,0,len l,n)) λr=>r.Perm l:=by
 have step:An (pdG f l (0,len l,n)) λr=>r.Perm l:=by unfold pdG;refine AA (P:=λr=>r.Perm l) ?_ λr hr=>AB hr;rw[ES];unfold AIR;dsimp[len];rw[AW,G! o!,B!];have⟨r,hr,e⟩:=d;grind[ma]
 have⟨r,hr,e⟩:=step;have⟨s,c⟩:=fX (f:=λ(_:List a×(Int×(Int×Int))->Option (List a)) p=>pdG f p.1 p.2) (x:=(l,0,len l,n)) (n:=1) hr;have⟨N,b⟩:=cD c;refine⟨s,c,?_⟩;cases N with
 |zero=>cases b
 |succ N=>exact step.get b
def AGS{a:Type}{f:List a->Int×(Int×Int)->Option (List a)}{l:List a}(b:∀n,An (f l (0,len l,n)) λr=>r.Perm l)(h:θ l<=12):An (soG f l) λr=>r.Perm l:=by unfold soG J3;obtain⟨n,g,-,-⟩:=vk (x:=θ l) o!;grind[WI,AA,ma,AB]
def AF1{l:List Int}(h:θ l<=12):An (Lq l ()) λr=>r.Perm l:=AGS (λn=>AGO (zW (λp=>cM.mono λ_ _=>O!) (Ai _) o!) h n) h
def AI1(p:A0×A0):An (P3 p) λ_=>True:=by grind[P3,AA,Rk,AB]
def AI2(p:BW×BW):An (P2 p) λ_=>True:=by grind[P2,AA,Rk,AB]
def AF2{l:List A0}(h:θ l<=12):An (GY l ()) λr=>r.Perm l:=AGS (λn=>AGO (zW AI1 (Ai _) o!) h n) h
def AF4{l:List BW}(h:θ l<=12):An (EF l ()) λr=>r.Perm l:=by
 unfold EF;refine AA (P:=λr=>r.Perm l) ?_ λr hr=>by rw[ma hr,B!];exact AB hr
 unfold Iz;rw[ES];unfold Lx;dsimp[len];rw[F! o!,A!];dsimp[σ];have⟨r,hr,b⟩:=zW (n:=λa=>decide (a<0)) AI2 (Ai (θ l)) o!;grind[Ea,ma,ES,Ly,AB]
def wc{a:AM}{r:AY}(h:BD a.2.1 a.1):An (IN (a,r)) λk=>0<=k->a.1[k.toNat]?=δ r.2.2.1:=by
 have b:=h.2.2.2.1;refine AA (P:=λq=>∀k:Int,q=.inl k->a.1[k.toNat]?=δ r.2.2.1) ?_ λq f=>?_
 ·refine Cb (λ(s:Int)=>0<=s/\s<=θ a.1) (λs=>((θ a.1:Int)-s).toNat) ⟨AX _,o!⟩ (λs c=>?_);have⟨g,i⟩:=c;unfold J4;dsimp[len];refine AC (λe=>?_) (λ_=>An.done λk d=>by cases d);have hr:=ik h (As o!:a.1[s.toNat]?=δ (a.1[s.toNat]' o!));grind[Int.toNat_of_nonneg,AW,AQ,An.done,An.next]
 grind[A9,AB]
def Good.refE{a:AM}{f:Ad}{r:AY}(h:Good a f r)(c:BD a.2.1 a.1):∃k:Nat,GX (a,f)=δ (r,(k:Int))/\a.1[k]?=δ r.2.2.1:=by have⟨e,g,i,b⟩:=h;have⟨k,k1,d,j⟩:=(yU (r:=r) c).and (wc (r:=r) c);refine⟨k.toNat,?_,j (d.2 b)⟩;unfold GX;rw[e,g,H!,A!,zw i,AD,show(((r,(0:Int)):AY×Int).2 !=0)=η from rfl,A!,k1,AD,Ir (d.2 b)]
def Beh(a b:NE):Prop:=a.1.2.1<b.1.1
def Lt(a b:NE):Prop:=a.1.2.2.1<b.1.2.2.1\/(a.1.2.2.1=b.1.2.2.1/\Beh a b)
def wo{L:List EN}{x:AM}(h:AR L x)(e:NE):e∈F9 x↔∃f∈x.2.2.1,Good x f e.1/\e.2=f.2.1:=⟨λd=>by have⟨f,a,b,c,_⟩:=h.mem d;exact⟨f,a,b,c⟩,λ⟨f,a,b,c⟩=>by have:=dO h.vb.1 a b;rw[<-c]at this;exact this⟩
def pZ{L:List EN}{x:AM}(h:AR L x){e:NE}(a:e∈F9 x):1<=e.1.1/\e.1.1<=e.1.2.1:=by have⟨f,_,g,_⟩:=h.mem a;have:=g.2.2.1.1;exact⟨this.1,this.2.1⟩
def ABR{s2:List AY×List Int×Int}{v4:AY×Int}(h:θ s2.1<=16777215):An (Aa (NS s2 v4) (len s2.1)) λr=>0<=r/\r<=θ s2.1/\(∀e∈s2.1.drop r.toNat,v4.1.1<=e.1)/\(0<r->∀e,s2.1[r.toNat-1]?=δ e->e.1<=v4.1.1):=by refine Cb (λ(s:Int)=>0<=s/\s<=θ s2.1/\∀e∈s2.1.drop s.toNat,v4.1.1<=e.1) (λ(s:Int)=>s.toNat) ⟨by unfold len;omega,by unfold len;omega,λe a=>by simp[len]at a⟩ (λs i=>?_);have⟨f,g,b⟩:=i;unfold NS;refine AC (λj=>?_) (λj=>An.done ⟨f,g,b,λl=>N! l o!⟩);rw[AW];refine AA (AI) λm c=>AC (λk=>An.next ⟨o!,o!,λe a=>?_⟩ o!) (λk=>An.done ⟨f,g,b,λ_ e a=>?_⟩);rw[show s.toNat=(s-1).toNat+1 by omega]at b;have d:=Cd c.1;rw[Qv d]at a;rcases A1.1 a with q|q;have:=c.1;rw[As d]at this;grind[Option.some.inj];exact b e q;have:=c.1;rw[show(s-1).toNat=s.toNat-1 by omega,a]at this;rw[BH this];omega
def W2(x:AM)(k:Nat)(s:List AY×List Int×Int):Prop:=0<=s.2.2/\s.2.2<=θ x.2.2.1/\∃M:List NE,s.1=M.map (·.1)/\s.2.1=M.map (·.2)/\θ M<=s.2.2/\M.Pairwise Beh/\∀e,e∈M↔(∃f∈x.2.2.1.take s.2.2.toNat,Good x f e.1/\e.2=f.2.1)/\x.1[k]?=δ e.1.2.2.1
def ABQ{x:AM}{L:List EN}{s1:Int×List AY×List Int×List Bool}(h:AR L x){k:Nat}(hp:s1.1=k):An (Aa (NR x s1) ([],[],0)) λr=>∃M:List NE,r=(M.map (·.1),M.map (·.2))/\θ M<=256/\M.Pairwise Beh/\∀e,e∈M↔e∈F9 x/\x.1[k]?=δ e.1.2.2.1:=by
 obtain⟨⟨b1,b2,b3,b4,b5,b6,b7⟩,a1,a2,a3,a4,a5,a6⟩:=h.vb;refine Cb (W2 x k) (λs=>((θ x.2.2.1:Int)-s.2.2).toNat) ⟨AX _,d!,[],rfl,rfl,k!,List.Pairwise.nil,λe=>k!⟩ ?_;rintro⟨A_,B,i⟩ ⟨i1,i2,M,eA,eB,i4,W,X_⟩;dsimp only at i1 i2 eA eB i4 X_;subst eA eB;unfold NR;dsimp only[len];rw[AW (x:=i+1)];refine AC (λhc=>?_) (λhc=>An.done ⟨M,rfl,o!,W,λe=>by rw[X_ e,wo h,BK o!]⟩);refine AA (AI i1 hc) λv3 P=>?_;have et:x.2.2.1.take (i+1).toNat=x.2.2.1.take i.toNat++[v3]:=by rw[show(i+1).toNat=i.toNat+1 by omega,CI,P.1];rfl
 have C:(∀e:NE,Good x v3 e.1->x.1[k]? ≠δ e.1.2.2.1)->An (δ (Step.next (M.map (·.1),M.map (·.2),i+1)):Option (Step (List AY×List Int×Int) (List AY×List Int))) (Ls (W2 x k) (λs=>((θ x.2.2.1:Int)-s.2.2).toNat) ((θ x.2.2.1:Int)-i).toNat λr=>∃M:List NE,r=(M.map (·.1),M.map (·.2))/\θ M<=256/\M.Pairwise Beh/\∀e,e∈M↔e∈F9 x/\x.1[k]?=δ e.1.2.2.1):=λhn=>by
  refine An.next ⟨d!,d!,M,rfl,rfl,d!,W,λe=>?_⟩ d!
  dsimp only;rw[X_ e,et];constructor;rintro⟨⟨f,o,l⟩,m⟩;exact⟨⟨f,Ao.2 (.inl o),l⟩,m⟩;rintro⟨⟨f,o,l⟩,m⟩;rcases Ao.1 o with q|q;exact⟨⟨f,q,l⟩,m⟩;rw[A7.1 q]at l;exact N! m (hn e l.1)
 rcases h.files v3 P.2 with u|⟨r,D_,_⟩;obtain⟨r,hr⟩:=u.ref (a:=x);rw[hr,AD];dsimp only;rw[show((-1:Int) !=s1.1)=ζ by rw[hp];exact bne_iff_ne.2 o!,B!];exact C λe v=>N! v.2.1 (u.2 _ v.2.2.1.wr);obtain⟨kk,hr,F⟩:=D_.refE h.vb.1;rw[hr,AD];dsimp only;rw[hp];refine AK (λa7=>C λe v hk=>a7 ?_) (λT=>?_);have e1:=sN v.2.2.1 D_.2.2.1 (v.2.1.symm.trans D_.2.1);rw[e1]at hk;rw[h.vb.1.inj F hk];have T:kk=k:=o!
 subst T;refine AA (ABR (s2:=(M.map (·.1),M.map (·.2),i)) (v4:=(r,(kk:Int))) (by dsimp only;rw[B7];omega)) λc h7=>?_;obtain⟨Z,g2,g3,g4⟩:=h7;dsimp only at g2 g3 g4;rw[B7]at g2;have m1:(M.map (·.1)).length=θ M:=B7 _;have m2:(M.map (·.2)).length=θ M:=B7 _;refine AA (CA (AX _) Z) λv8 h8=>AA (CA Z) λv9 h9=>?_;have l8:=h8.2;have l9:=h9.2;refine AA (Ac w!) λb9 H=>?_;have a9:=H.2.1;simp only[CU]at a9;refine AA (Ac w!) λb' I=>?_;have a':=I.2.1;simp only[CU,Cg]at a';refine AA (Ac o!) λbm ap=>AA (CA (AX _) Z) λbt J=>?_;have b0:=J.2;refine AA (AI i1 hc) λd ar=>?_;have ag:d=v3:=by have:=ar.1;rw[P.1]at this;exact(BH this).symm
 subst ag;refine AA (CA Z) λbz K=>?_;have b8:=K.2;refine AA (Ac w!) λca N=>?_;have bb:=N.2.1;simp only[CU]at bb;refine AA (Ac w!) λcb O=>?_;have bl:=O.2.1;simp only[CU,Cg]at bl;refine AA (Ac o!) λbG ax=>?_;have z:∀{β:Type}(g:NE->β)(a b:List β),a=List.take (c.toNat-ο 0) (List.drop (ο 0) (M.map g))->b=List.take (((M.map g).length:Int).toNat-c.toNat) (List.drop c.toNat (M.map g))->a=(M.take c.toNat).map g/\b=(M.drop c.toNat).map g:=λg a b t u=>by refine⟨?_,?_⟩;rw[t,List.map_take];rfl;rw[u,lj];exact BK (by rw[EY];omega)
 obtain⟨e8,e9⟩:=z (·.1) v8 v9 h8.1 h9.1;obtain⟨af,al⟩:=z (·.2) bt bz J.1 K.1;have ad:bm=(M.take c.toNat++(r,d.2.1)::M.drop c.toNat).map (·.1):=by rw[ap.1,I.1,H.1,e8,e9];simp
 have ao:bG=(M.take c.toNat++(r,d.2.1)::M.drop c.toNat).map (·.2):=by rw[ax.1,O.1,N.1,af,al];simp
 have y:=dO h.vb.1 P.2 D_;have U:∀a∈M,a∈F9 x/\a.1.2.2.1=r.2.2.1/\a≠(r,d.2.1):=λa t=>by
  obtain⟨⟨f,o,l,m⟩,G⟩:=(X_ a).1 t;refine⟨(wo h a).2 ⟨f,Iq o,l,m⟩,?_,λv=>?_⟩;rw[F]at G;exact(BH G).symm;obtain⟨j,p⟩:=Ci o;have E:=Cd p;rw[BJ]at E;rw[JY o!,As o!]at p;have Q:=P.1;rw[As o!]at Q;have:=EU.1 (ur h.vb) j i.toNat o! o! o!
  rw[BH p,BH Q]at this;rw[v]at m;dsimp only at m;omega
 have S:∀a∈M.take c.toNat,Beh a (r,d.2.1):=λa t=>by
  have a0:=Iq t;obtain⟨Y_,q2,q3⟩:=U a a0;have ra:=pZ h Y_;have rr:=pZ h y;obtain⟨j,p⟩:=Ci t;have E:=Cd p;rw[BJ]at E;rw[JY o!]at p;have n:M[c.toNat-1]?=δ (M[c.toNat-1]' o!):=As o!;have V:(M[c.toNat-1]' o!).1.1<=r.1:=g4 o! _ (by rw[B6,n];rfl);have bN:a.1.1<=r.1:=by by_cases v:j=c.toNat-1;rw[v,n]at p;rw[<-BH p];exact V;have:=EU.1 W j (c.toNat-1) o! o! o!;rw[As o!]at p;rw[BH p]at this;unfold Beh at this;omega
  rcases h.dis a Y_ _ y q3 q2 with w|w;exact w;dsimp only at w rr;omega
 have R:∀b∈M.drop c.toNat,Beh (r,d.2.1) b:=λb u=>by obtain⟨Y_,q2,q3⟩:=U b (Xe u);have rb:=pZ h Y_;have rr:=pZ h y;have V:=g3 b.1 (by rw[<-lj];exact Sr u);rcases h.dis _ y b Y_ (Oc q3) q2.symm with w|w;exact w;dsimp only at w rr;omega
 rw[ad,ao];refine An.next ⟨d!,d!,_,rfl,rfl,by simp[Af,Cg,BJ,EY];omega,?_,λe=>?_⟩ d!
 rw[<-De c.toNat M]at W;obtain⟨p1,p2,p3⟩:=List.pairwise_append.1 W;refine List.pairwise_append.2 ⟨p1,List.pairwise_cons.2 ⟨R,p2⟩,λa t b u=>?_⟩;rcases A1.1 u with q|q;rw[q];exact S a t;exact p3 a t b q;dsimp only;rw[et];have a8:e∈M.take c.toNat++(r,d.2.1)::M.drop c.toNat↔e∈M\/e=(r,d.2.1):=by
  conv=>rhs;rw[<-De c.toNat M]
  simp only[Ao,A1];constructor;rintro(q|q|q);exact .inl (.inl q);exact .inr q;exact .inl (.inr q);rintro((q|q)|q);exact .inl q;exact .inr (.inr q);exact .inr (.inl q)
 rw[a8,X_ e];constructor;rintro(⟨⟨f,o,l⟩,m⟩|q);exact⟨⟨f,Ao.2 (.inl o),l⟩,m⟩;rw[q];exact⟨⟨d,Ao.2 (.inr (A7.2 rfl)),D_,rfl⟩,F⟩;rintro⟨⟨f,o,l,G⟩,m⟩;rcases Ao.1 o with q|q;exact .inl ⟨⟨f,q,l,G⟩,m⟩;rw[A7.1 q]at l G;have e1:=sN l.2.2.1 D_.2.2.1 (l.2.1.symm.trans D_.2.1);exact .inr (DX e1 G)
def ABS{M:List NE}{t:List AY×List Int×List Bool}(v:M.Pairwise Beh)(m:∀e∈M,1<=e.1.1/\e.1.1<=e.1.2.1)(w:θ M<=256)(z:θ t.1<=100000)(A_:θ t.2.1<=100000)(B:θ t.2.2<=100000):An (Aa (NT (M.map (·.1),M.map (·.2))) (0,0,t)) λr=>r=(t.1++M.map (·.1),(t.2.1++M.map (·.2),t.2.2++M.map λ_=>ζ)):=by
 have y:(M.map (·.1)).length=θ M:=B7 _;refine Cb (λ(s:Int×Int×List AY×List Int×List Bool)=>∃k:Nat,s.2.1=k/\k<=θ M/\s.2.2=(t.1++(M.take k).map (·.1),(t.2.1++(M.take k).map (·.2),t.2.2++(M.take k).map λ_=>ζ))/\((k=0/\s.1=0)\/∃e,0<k/\M[k-1]?=δ e/\s.1=e.1.2.1)) (λs=>((θ M:Int)-s.2.1).toNat) ⟨0,rfl,Bo _,k!,.inl ⟨rfl,rfl⟩⟩ ?_;rintro⟨j,_,T⟩ ⟨k,rfl,k1,rfl,o⟩;dsimp only at o;unfold NT;dsimp[len];rw[AW (x:=(k:Int)+1)];refine AC (λl=>?_) (λl=>An.done (by rw[BK o!]));have a:k<θ M:=o!
 have h:ix (M.map (·.1)) (k:Int)=δ M[k].1:=by unfold ix;rw[C! o!,Int.toNat_natCast,List.getElem?_map,List.getElem?_eq_getElem a];rfl
 have i:ix (M.map (·.2)) (k:Int)=δ M[k].2:=by unfold ix;rw[C! o!,Int.toNat_natCast,List.getElem?_map,List.getElem?_eq_getElem a];rfl
 have n:=m _ (Pa a);have b:j<M[k].1.1:=by grind[List.pairwise_iff_getElem,List.getElem?_eq_getElem,Option.some.inj,Beh]
 have g:M.take (k+1)=M.take k++[M[k]]:=by grind[List.take_add_one,List.getElem?_eq_getElem]
 have l1:=di k M;rw[h,AD,F! o!,A!,AD,i,AD,AD];rw[show Jv (M[k].1,j)=δ M[k].1 by unfold Jv;rw[G! (by exact b)];rfl,Option.bind_some];refine AA (Ac w!) λp c=>AA (Ac w!) λq d=>AA (Ac w!) λu f=>?_;rw[AD];refine An.next ⟨k+1,rfl,a,?_,.inr ⟨M[k],o!,As a,rfl⟩⟩ d!
 dsimp only;rw[c.1,d.1,f.1,g,G! (by exact b)];simp only[Mr,Bn,Hg,A5]
def AEq{x:AM}{L:List EN}(h:AR L x):An (Ll x) λr=>∃W:List NE,r=(W.map (·.1),(W.map (·.2),W.map λ_=>ζ))/\W.Pairwise Lt/\∀e,e∈W↔e∈F9 x:=by
 obtain⟨⟨G,H,I,J,K,N,O⟩,a1,a2,a3,a4,a5,a6⟩:=h.vb;unfold Ll;refine AA OL λS A_=>AO (λt=>N! (A_.2 h.vb) (by simp[t])) (λ_=>AA (P:=λr=>∃W:List NE,r=(W.map (·.1),(W.map (·.2),W.map λ_=>ζ))/\W.Pairwise Lt/\∀e,e∈W↔e∈F9 x) ?_ λr hr=>AB hr);refine Cb (λ(s:Int×List AY×List Int×List Bool)=>∃(i:Nat)(W:List NE),s.1=i/\i<=θ x.1/\s.2=(W.map (·.1),(W.map (·.2),W.map λ_=>ζ))/\θ W<=256*i/\W.Pairwise Lt/\∀e,e∈W↔e∈F9 x/\∃k:Nat,k<i/\x.1[k]?=δ e.1.2.2.1) (λs=>((θ x.1:Int)-s.1).toNat) ⟨0,[],rfl,Bo _,rfl,k!,List.Pairwise.nil,λe=>k!⟩ ?_;rintro⟨_,_⟩ ⟨i,W,rfl,Q,rfl,R,y,v⟩;unfold SP;dsimp only[len];rw[AW (x:=(i:Int)+1)];refine AC (λt=>?_) (λt=>An.done ⟨W,rfl,y,λe=>?_⟩)
 ·refine AA (ABQ h rfl) λE l=>?_;obtain⟨M,rfl,B,z,j⟩:=l;refine AA (ABS z (λe u=>pZ h ((j e).1 u).1) B (by rw[B7];omega) (by rw[B7];omega) (by rw[B7];omega)) λF m=>An.next ⟨i+1,W++M,rfl,o!,by rw[m];simp,by rw[Af];omega,List.pairwise_append.2 ⟨y,?_,λa n b p=>?_⟩,λe=>?_⟩ d!
  refine oO ?_ z;intro a b n p o;have w:=((j a).1 n).2;rw[((j b).1 p).2]at w;exact .inr ⟨(BH w).symm,o⟩;obtain⟨_,k,k1,c⟩:=(v a).1 n;obtain⟨d,rfl⟩:∃d,i=k+1+d:=⟨i-(k+1),o!⟩
  exact .inl (h.vb.1.lt d k _ _ c ((j b).1 p).2);rw[Ao,v e,j e];constructor;rintro(⟨q,k,k1,c⟩|⟨C,D_⟩);exact⟨q,k,o!,c⟩;exact⟨C,i,o!,D_⟩;rintro⟨q,k,k1,c⟩;by_cases u:k=i;rw[u]at c;exact .inr ⟨q,c⟩;exact .inl ⟨q,k,o!,c⟩
 rw[v e];refine⟨λq=>q.1,λq=>⟨q,?_⟩⟩;obtain⟨f,_,g,_⟩:=h.mem q;obtain⟨k,k1,_⟩:=g.2.2.2;have:=Cd k1;exact⟨k,o!,k1⟩
def AGi{x:AM}{L:List EN}(h:AR L x):An (Qp x) λr=>∃W:List NE,r=(W.map (·.1),W.map (·.2))/\W.Pairwise Lt/\θ W<=256/\∀e,e∈W↔e∈F9 x:=by refine AA (AEq h) λr hr=>?_;obtain⟨W,rfl,i,g⟩:=hr;refine AB ⟨W,rfl,i,?_,g⟩;have f:W.Nodup:=Jy.2 (i.imp_of_mem λ{a b} j k c d=>by subst d;have:=pZ h ((g a).1 j);rcases c with q|⟨_,q⟩;omega;unfold Beh at q;omega);have l:=rD W (F9 x) f λe d=>(g e).1 d;have m:(F9 x).length<=θ x.2.2.1:=List.length_filterMap_le _ _;have:=h.vb.2.2.2.2.2.1;omega
def Src(L:List EN)(p:Int)(rs:List AY):Prop:=θ rs<=256/\∀r∈rs,VR r/\il L r/\r.2.2.1<=p/\p<=r.2.2.2.1
def AFp{a:AM}{l:AZ}{p i j:Int}:An (Ig (a,l,p,i,j)) λr=>r=0->0<=p/\p<a.2.1/\0<=i/\i<=j:=by refine AA OG λk g=>AO (λ_=>AB n!) (λ_=>AA BP λm h=>AO (λ_=>AB n!) (λ_=>AC (λ_=>AB n!) (λc=>AC (λ_=>AB n!) (λd=>AC (λ_=>AB n!) (λe=>AC (λ_=>AB n!) (λf=>AB λ_=>?_))))));dsimp only at c d e f;omega
def AGe{a:AM}{p:Int}(h:VB a)(o:0<=p/\p<a.2.1):An (Qo (a,p)) λr=>∃k:Nat,a.1[k]?=δ r.1/\r.1<=p/\p<=nl a k:=by
 have i:=h.1.2.2.2.1;have w:=h.1.2.2.1;refine AA OL λB g=>AO (λc=>N! (g.2 h) (by simp[c])) (λ_=>?_);dsimp only;rw[F! o!,A!,F! o!,A!];refine AA (P:=λk:Int=>∃m:Nat,k=m/\∃b,a.1[m]?=δ b/\b<=p/\p<=nl a m) ?_ λk n=>?_
 ·refine Cb (λ(s:Int)=>0<=s/\s<θ a.1/\∃b,a.1[s.toNat]?=δ b/\b<=p) (λs=>((θ a.1:Int)-s).toNat) ⟨AX _,o!,0,h.1.2.2.2.2.1,o.1⟩ (λs j=>?_);have⟨x,y,b,e,f⟩:=j;unfold Tj;dsimp[len];rw[AW];refine AC (λc=>AA (AI o! c) λv q=>?_) (λc=>An.done ⟨s.toNat,o!,b,e,f,?_⟩)
  ·have u:(s+1).toNat=s.toNat+1:=o!
   refine AC (λd=>An.next ⟨o!,o!,v,q.1,d⟩ o!) (λl=>An.done ⟨s.toNat,o!,b,e,f,?_⟩);grind[nl]
  grind[nl,List.getElem?_eq_none]
 obtain⟨m,rfl,b,t,z,A_⟩:=n;rw[ik h.1 t,AD];grind[AB]
def AFo{a:AM}{l:AZ}{p i j:Int}(c:VB a)(e:Dd l)(f:0<=p/\p<a.2.1)(d:0<=i)(b:i<=j):Ig (a,l,p,i,j)=δ 0:=by grind[An,Ig,AA,OL,AO,BP,AB]
def tj{L:List EN}{a:AM}{l:AZ}{p:Int}(h:AR L a)(F:0<=p/\p<a.2.1):An (JF (a,l,p)) λr=>∃(M:List NE)(v D_:Int),Sn a p v D_/\r=(M.map (·.1),M.map (·.2),l)/\M.Pairwise Beh/\(∀e,e∈M↔e∈F9 a/\e.1.2.2.1=v)/\Src L p (M.map (·.1)):=by
 refine AA (AGe h.vb F) λc A_=>AA (AGi h) λv1 B=>?_;have⟨k,k1,t,u⟩:=A_;dsimp only at k1 t u;obtain⟨W,rfl,O,Q,w⟩:=B;have X_:(W.map (·.1)).length=θ W:=B7 _;refine AA (P:=λr=>r=((W.filter λe=>e.1.2.2.1==c.1).map (·.1),(W.filter λe=>e.1.2.2.1==c.1).map (·.2),l)) ?_ λr hr=>AB ⟨W.filter λe=>e.1.2.2.1==c.1,c.1,nl a k,⟨k,k1,rfl,t,u⟩,hr,?_,?_,?_⟩
 ·refine Cb (λ(s:Int×List AY×List Int×AZ)=>∃k:Nat,s.1=k/\k<=θ W/\s.2=(((W.take k).filter λe=>e.1.2.2.1==c.1).map (·.1),((W.take k).filter λe=>e.1.2.2.1==c.1).map (·.2),l)) (λs=>((θ W:Int)-s.1).toNat) ⟨0,rfl,Bo _,rfl⟩ ?_;rintro⟨_,_⟩ ⟨k,rfl,V,rfl⟩;unfold P9;dsimp[len];rw[AW (x:=(k:Int)+1)];refine AC (λC=>?_) (λC=>An.done (by rw[BK o!]));have d:k<θ W:=o!
  have j:ix (W.map (·.1)) (k:Int)=δ W[k].1:=by unfold ix;rw[C! o!,Int.toNat_natCast,List.getElem?_map,List.getElem?_eq_getElem d];rfl
  have m:ix (W.map (·.2)) (k:Int)=δ W[k].2:=by unfold ix;rw[C! o!,Int.toNat_natCast,List.getElem?_map,List.getElem?_eq_getElem d];rfl
  have H:W.take (k+1)=W.take k++[W[k]]:=by grind[List.take_add_one,List.getElem?_eq_getElem]
  have Y_:=FT (λe:NE=>e.1.2.2.1==c.1) (W.take k);have Z:=di k W;rw[j,AD];refine AA (P:=λr=>r=(((W.take (k+1)).filter λe=>e.1.2.2.1==c.1).map (·.1),((W.take (k+1)).filter λe=>e.1.2.2.1==c.1).map (·.2),l)) (AQ (λo=>?_) (λE=>AB ?_)) λr hr=>An.next ⟨k+1,rfl,d,hr⟩ d!
  rw[AD,m,AD];refine AA (Ac w!) λv6 T=>AA (Ac w!) λv7 U=>AB ?_;grind;grind
 apply (O.filter _).imp_of_mem;intro x y I J n;have R:=eq_of_beq (BU.1 I).2;have S:=eq_of_beq (BU.1 J).2;rcases n with q|⟨_,q⟩;omega;exact q;intro e;rw[BU,w e,J!];refine⟨by rw[B7];exact C9 (FT _ _) Q,λq G=>?_⟩;obtain⟨e,o,rfl⟩:=Bk.1 G;have⟨K,N⟩:=BU.1 o;have⟨f,_,g,_,z,_⟩:=h.mem ((w e).1 K);have i:=eq_of_beq N;have b:=g.2.2.2;rw[i]at b;have:=b.uniq h.vb.1 ⟨k,k1,rfl⟩;exact⟨g.2.2.1,z,o!⟩
def U1(rs:List AY)(l:AZ)(m:Int):Prop:=(∃r∈rs,r.1<=m/\m<=r.2.1)\/(l.1<=m/\m<=l.1+θ l.2.1-1)
def wQ{l:AZ}{m:Int}(h:Dd l):If (l,m)=δ (τ (l.1<=m/\m<=l.1+θ l.2.1-1)):=by have a:=h.1;have b:=h.2.1;have d:=h.2.2.1;unfold If;dsimp[len];rw[AW];by_cases c:l.1<=m<;>grind
theorem ADf{L:List EN}{p m:Int}{a:List AY}{F:List Int}{l:AZ}(h:Src L p a)(y:Dd l)(hm:0<=m/\m<=2199023255552):An (Qr ((a,F,l),m)) λv=>m-1<=v/\v<=2199023255552/\(∀q,m<=q->q<=v->U1 a l q)/\(v=m-1->¬U1 a l m):=by
 have Z:=y.1;have h2:=y.2.1;have h3:=y.2.2.1;refine AA (P:=λv=>m-1<=v/\v<=2199023255552/\(∀q,m<=q->q<=v->U1 a l q)/\∀r∈a,r.1<=m->m<=r.2.1->m<=v) ?_ λv5 N=>?_
 ·refine Cb (λ(s:Int×Int)=>0<=s.2/\s.2<=θ a/\m-1<=s.1/\s.1<=2199023255552/\(∀q,m<=q->q<=s.1->U1 a l q)/\∀r∈a.take s.2.toNat,r.1<=m->m<=r.2.1->m<=s.1) (λs=>((θ a:Int)-s.2).toNat) ⟨AX _,d!,by dsimp only;rw[AW];omega,by dsimp only;rw[AW];omega,λq G f=>by dsimp only at f;rw[AW]at f;omega,λr hr=>by simp at hr⟩ ?_;rintro⟨b,k⟩ ⟨z,T,j,n,o,E⟩;dsimp only at z T j n o E;have S:=h.1;unfold Tl;dsimp[len];refine AC (λw=>?_) (λw=>An.done ⟨j,n,o,by rw[BK o!]at E;exact E⟩);rw[AW (x:=k+1)];refine AA (AI z w) λt e=>?_;have Y_:a.take (k+1).toNat=a.take k.toNat++[t]:=by rw[show(k+1).toNat=k.toNat+1 by omega,CI,e.1];rfl
  have hr:=(h.2 t e.2).1.1;have keep:∀u,b<=u->(t.1<=m->m<=t.2.1->m<=u)->∀r∈a.take (k+1).toNat,r.1<=m->m<=r.2.1->m<=u:=λu hb D_ r R G f=>by grind[List.mem_singleton]
  refine AC (λQ=>?_) (λC=>An.next ⟨d!,d!,j,n,o,keep b (AX _) λq=>N! q C⟩ d!);refine AA (AI z w) λH A_=>?_;have K:H=t:=by grind[Option.some.inj]
  subst K;refine AA (P:=λv=>m-1<=v/\v<=2199023255552/\(∀q,m<=q->q<=v->U1 a l q)/\b<=v/\(m<=H.2.1->m<=v)) ?_ λX_ c=>An.next ⟨d!,d!,c.1,c.2.1,c.2.2.1,keep X_ c.2.2.2.1 λ_=>c.2.2.2.2⟩ d!
  refine AC (λi=>AA (AI z w) λJ B=>AB ?_) (λi=>AB ⟨j,n,o,AX _,λq=>N! q i⟩);have M:J=H:=by grind[Option.some.inj]
  subst M;have I:=hr.2.2.1;split;exact⟨o!,o!,λq G f=>.inl ⟨J,e.2,o!,f⟩,o!,id⟩;exact⟨j,n,o,AX _,λq=>o!⟩
 rw[wQ y,AD];dsimp[len];have⟨e,A_,B,c⟩:=N;refine AA (P:=λv=>m-1<=v/\v<=2199023255552/\(∀q,m<=q->q<=v->U1 a l q)/\(v=m-1->¬U1 a l m)) ?_ λv7 O=>AB O;refine AC (λg=>AB ?_) (λg=>AB ⟨e,A_,B,λD_ d=>?_⟩);rw[AW (x:=l.1+θ l.2.1),AW];split;exact⟨o!,o!,λq G f=>.inr o!,λD_=>o!⟩;exact⟨e,A_,B,λD_=>o!⟩;rcases d with⟨r,U,V,W⟩|d;have:=c r U V W;omega;exact g d
def ABf{L:List EN}{p i j:Int}{a:List AY}{c:List Int}{l:AZ}(h:Src L p a)(t:Dd l)(n:0<=i)(o:j<=1099511627776)(k:i<=j):An (Jw ((a,c,l),i,j)) λb=>b=ζ↔∀q,i<q->q<=j->U1 a l q:=by
 refine AA (P:=λr=>(r=.inl η/\∃q,i<q/\q<=j/\¬U1 a l q)\/(r=.inr ()/\∀q,i<q->q<=j->U1 a l q)) ?_ λr hr=>?_
 ·refine Cb (λ(s:Int)=>i<=s/\s<=2199023255552/\∀q,i<q->q<=s->U1 a l q) (λs=>(j-s).toNat) ⟨AX _,d!,λq d e=>by dsimp only at e;omega⟩ (λs f=>?_);have⟨u,v,m⟩:=f;unfold LA;dsimp only;refine AC (λg=>?_) (λg=>An.done (.inr ⟨rfl,λq d e=>m q d o!⟩));grind[AW,AA,ADf,AQ,An.done,An.next]
 grind[BG,AB,Av]
def AAn{a:AM}{l:AZ}{d:Int}{M:List NE}(h:∀e,e∈M↔e∈F9 a/\e.1.2.2.1=d)(m:Int):U1 (M.map (·.1)) l m↔fT a l d m:=by constructor;rintro(⟨r,i,j⟩|q);obtain⟨e,g,rfl⟩:=Bk.1 i;have⟨b,c⟩:=(h e).1 g;exact .inr ⟨e,b,c,j⟩;exact .inl q;rintro(q|⟨e,b,c,f⟩);exact .inr q;exact .inl ⟨e.1,Sr ((h e).2 ⟨b,c⟩),f⟩
def yh{r:AY}{p:Int}(h:VR r):An (O7 (r,p)) λv=>v=r.2.2.2.2.2.filter λe=>e.2.2.2.2.2.2.1.1==p:=by have m:=h.1.2.2.2.2.2.2.2.2;refine AA XO λn f=>AO (λa=>N! (f.2 h) (by simp[a])) (λ_=>AA (P:=λv=>v=r.2.2.2.2.2.filter λe=>e.2.2.2.2.2.2.1.1==p) ?_ λv j=>AB j);refine Cb (λ(s:Int×List EN)=>0<=s.1/\s.1<=θ r.2.2.2.2.2/\s.2=(r.2.2.2.2.2.take s.1.toNat).filter λe=>e.2.2.2.2.2.2.1.1==p) (λs=>((θ r.2.2.2.2.2:Int)-s.1).toNat) ⟨AX _,d!,k!⟩ ?_;rintro⟨s,A_⟩ ⟨b,k,d⟩;dsimp only at b k d;unfold Ra;dsimp[len];refine AC (λa=>?_) (λa=>An.done (by rw[d,BK o!]));refine AA (AI b a) λo g=>?_;have i:=kU (p:=λe:EN=>e.2.2.2.2.2.2.1.1==p) b g.1;have c:=nN (l:=r.2.2.2.2.2) (p:=λe:EN=>e.2.2.2.2.2.2.1.1==p) b;rw[<-d]at c;rw[AW];grind[AA,An.next,AQ,AI,Ac,AB,Option.some.inj]
def zD{L:List EN}{p i j:Int}{f:List AY}(Z:Uq L)(h:Src L p f):An (JE (f,p,i,j)) λr=>θ r<=1048576/\∀y,y∈r↔∃q∈f,y∈q.2.2.2.2.2/\y.2.2.2.2.2.2.1.1=p/\i<y.1/\y.1<=j:=by
 have ad:=h.1;refine AA (P:=λr=>θ r<=1048576/\∀y,y∈r↔∃q∈f,y∈q.2.2.2.2.2/\y.2.2.2.2.2.2.1.1=p/\i<y.1/\y.1<=j) ?_ λr hr=>AB hr;refine Cb (λ(s:List EN×Int)=>0<=s.2/\s.2<=θ f/\θ s.1<=4096*s.2/\∀y,y∈s.1↔∃q∈f.take s.2.toNat,y∈q.2.2.2.2.2/\y.2.2.2.2.2.2.1.1=p/\i<y.1/\y.1<=j) (λs=>((θ f:Int)-s.2).toNat) ⟨AX _,d!,k!,λy=>k!⟩ ?_;rintro⟨A_,k⟩ ⟨Q,i1,i2,t⟩;dsimp only at Q i1 i2 t;unfold Kf;dsimp[len];refine AC (λO=>?_) (λO=>An.done ⟨o!,λy=>by rw[t y,BK o!]⟩);refine AA (AI Q O) λC M=>?_;have⟨K,W,g3,g4⟩:=h.2 C M.2;have hl:=K.1.2.2.2.2.2.2.2.2;refine AA (yh K) λc F=>?_;have J:=FT (λe:EN=>e.2.2.2.2.2.2.1.1==p) C.2.2.2.2.2;rw[<-F]at J;have G:∀y∈A_,y∈L:=λy l=>by have⟨q,a,b,_⟩:=(t y).1 l;exact(((h.2 q (Iq a)).2.1.mem y).1 b).1
 have n:∀y∈c,y∈L:=λy l=>by rw[F]at l;exact((W.mem y).1 (BU.1 l).1).1
 refine AA (P:=λr=>θ r<=θ A_+θ c/\∀y,y∈r↔y∈A_\/(y∈c/\i<y.1/\y.1<=j)) ?_ λr hr=>?_
 ·refine Cb (λ(s:List EN×Int)=>0<=s.2/\s.2<=θ c/\θ s.1<=θ A_+s.2/\∀y,y∈s.1↔y∈A_\/(y∈c.take s.2.toNat/\i<y.1/\y.1<=j)) (λs=>((θ c:Int)-s.2).toNat) ⟨AX _,d!,d!,λy=>k!⟩ ?_;rintro⟨B,m⟩ ⟨u,j1,j2,v⟩;dsimp only at u j1 j2 v;unfold Kg;dsimp[len];refine AC (λd=>?_) (λd=>An.done ⟨o!,λy=>by rw[v y,BK o!]⟩);refine AA (AI u d) λD_ o=>?_;rw[AW (x:=m+1)];have E:c.take (m+1).toNat=c.take m.toNat++[D_]:=by rw[show(m+1).toNat=m.toNat+1 by omega,CI,o.1];rfl
  have g:¬(i<D_.1/\D_.1<=j)->∀y,y∈B↔y∈A_\/(y∈c.take (m+1).toNat/\i<y.1/\y.1<=j):=λhn y=>by grind[List.mem_singleton]
  refine AC (λH=>?_) (λH=>An.next ⟨d!,d!,d!,g λq=>o!⟩ d!);refine AA (AI u d) λS X_=>?_;have U:S=D_:=by have:=X_.1;rw[o.1]at this;exact(BH this).symm
  subst U;refine AA (P:=λr=>θ r<=θ B+1/\∀y,y∈r↔y∈A_\/(y∈c.take (m+1).toNat/\i<y.1/\y.1<=j)) ?_ λr hr=>An.next ⟨d!,d!,by have:=hr.1;dsimp only;omega,hr.2⟩ d!
  refine AC (λI=>?_) (λI=>AB ⟨o!,g λq=>o!⟩);refine AA (AI u d) λT Y_=>?_;have V:T=S:=by have:=Y_.1;rw[o.1]at this;exact(BH this).symm
  subst V;refine AA (rM Z (λy l=>?_) (n T o.2) o!) λv7 N=>AB ⟨N.1,λy=>?_⟩;rcases(v y).1 l with q|q;exact G y q;exact n y (Iq q.1);rw[N.2 y,v y,E,Ao,A7];constructor;rintro((q|⟨a,b⟩)|q);exact .inl q;exact .inr ⟨.inl a,b⟩;exact .inr ⟨.inr q,by rw[q];omega⟩;rintro(q|⟨a|a,b⟩);exact .inl (.inl q);exact .inl (.inr ⟨a,b⟩);exact .inr a
 ·rw[AW];refine An.next ⟨d!,d!,by have:=hr.1;dsimp only;omega,λy=>?_⟩ d!
  dsimp only;have E:f.take (k+1).toNat=f.take k.toNat++[C]:=by rw[show(k+1).toNat=k.toNat+1 by omega,CI,M.1];rfl
  rw[hr.2 y,t y,E,F,BU,J!];constructor;rintro(⟨q,a,b⟩|⟨⟨a,b⟩,z⟩);exact⟨q,Ff _ a,b⟩;exact⟨C,Mt _ (A7.2 rfl),a,b,z⟩;rintro⟨q,a,b,z,R⟩;rcases Ao.1 a with w|w;exact .inl ⟨q,w,b,z,R⟩;rw[A7.1 w]at b;exact .inr ⟨⟨b,z⟩,R⟩
def yH{l:AZ}{p i j:Int}(h:Dd l):An (O9 (l,p,i,j)) λr=>r=l.2.1.filter (J6 p i j):=by
 have B:=h.2.2.1;refine AA (P:=λr=>r=l.2.1.filter (J6 p i j)) ?_ λr hr=>AB hr;refine Cb (λ(q:Int×List EN)=>0<=q.1/\q.1<=θ l.2.1/\q.2=(l.2.1.take q.1.toNat).filter (J6 p i j)) (λq=>((θ l.2.1:Int)-q.1).toNat) ⟨AX _,d!,k!⟩ (λq y=>?_);have⟨n,C,o⟩:=y;unfold Rc;dsimp[len];refine AC (λt=>?_) (λt=>An.done (by rw[o,BK o!]));refine AA (AI n t) λu v=>?_;have k:=kU (p:=J6 p i j) n v.1;have f:=nN (l:=l.2.1) (p:=J6 p i j) n;rw[<-o]at f;rw[AW (x:=q.1+1)];have m:J6 p i j u=η->An (δ (Step.next (q.1+1,q.2)):Option (Step (Int×List EN) (List EN))) (Ls (λ(q:Int×List EN)=>0<=q.1/\q.1<=θ l.2.1/\q.2=(l.2.1.take q.1.toNat).filter (J6 p i j)) (λq=>((θ l.2.1:Int)-q.1).toNat) ((θ l.2.1:Int)-q.1).toNat λr=>r=l.2.1.filter (J6 p i j)):=λz=>An.next ⟨d!,d!,by dsimp only;rw[k,z,o];simp⟩ d!
 refine AA Bs λs w=>?_;have e:ZK u=s:=by grind[ZK]
 refine AJ (λa=>?_) (λa=>m (by unfold J6;rw[e,a];rfl));refine AQ (λc=>?_) (λc=>m (by unfold J6;rw[beq_eq_false_iff_ne.2 c];simp));refine AC (λb=>?_) (λb=>m (by unfold J6;rw[F! b];simp));refine AA (P:=λr=>r=(l.2.1.take (q.1+1).toNat).filter (J6 p i j)) ?_ λA_ d=>An.next ⟨d!,d!,d⟩ d!
 refine AC (λg=>?_) (λg=>AB ?_);grind[AA,Ac,AB,J6];grind[J6]
def ADK{a:List AY}{m:Int}(h:θ a<=256):An (Kh (a,m)) λ_=>True:=by refine AA (P:=λ_=>True) ?_ λr _=>A9 (λu _=>AB trivial) (λu _=>AB trivial);refine Cb (λ(s:Int)=>0<=s/\s<=θ a) (λs=>((θ a:Int)-s).toNat) ⟨AX _,o!⟩ (λs d=>?_);have⟨c,e⟩:=d;unfold MJ;dsimp[len];refine AC (λb=>?_) (λ_=>An.done trivial);rw[AW];refine AA (AI c b) λf _=>AC (λ_=>AA (AI c b) λg _=>AC (λ_=>An.done trivial) (λ_=>An.next o! o!)) (λ_=>An.next o! o!)
def AGG{l:List EN}{e:EN}(h:θ l<=16777216):An (H9 (l,e)) λ_=>True:=by refine AA (P:=λ_=>True) ?_ λr _=>A9 (λu _=>AB trivial) (λu _=>AB trivial);refine Cb (λ(s:Int)=>0<=s/\s<=θ l) (λs=>((θ l:Int)-s).toNat) ⟨AX _,o!⟩ (λs a=>?_);have⟨c,d⟩:=a;unfold O8;dsimp[len];refine AC (λb=>?_) (λ_=>An.done trivial);rw[AW];exact AA (AI c b) λf _=>AJ (λ_=>An.done trivial) (λ_=>An.next o! o!)
def AEo{L A_ B:List EN}{m:List AY}{l:AZ}(Q:Uq L)(v:Dd l)(N:∀y∈A_,y∈L)(O:∀y∈B,y∈L)(q:θ m<=256)(K:θ A_<=1048576)(M:θ B<=4096):An (Lm (m,l,A_,B)) λr=>r.2=ζ->θ r.1<=1052672/\∀y,y∈r.1↔y∈A_\/y∈B:=by
 refine AA (Ac w!) λz p=>?_;have h:=p.1;rw[CY]at h;dsimp only at h;subst z;refine AA (P:=λr=>(∃u,r=.inl u/\u.2=η)\/∃C,r=.inr C/\θ C<=θ A_+θ B/\∀y,y∈C↔y∈A_\/y∈B) ?_ λr hr=>?_
 ·refine Cb (λ(s:List EN×Int)=>0<=s.2/\s.2<=θ B/\θ s.1<=θ A_+s.2/\∀y,y∈s.1↔y∈A_\/y∈B.take s.2.toNat) (λs=>((θ B:Int)-s.2).toNat) ⟨AX _,d!,d!,λy=>k!⟩ ?_;rintro⟨C,k⟩ ⟨c,i,w,j⟩;dsimp only at c i w j;unfold NU;dsimp[len];refine AC (λa=>?_) (λa=>An.done (.inr ⟨C,rfl,o!,λy=>by rw[j y,BK o!]⟩));refine AA (AI c a) λG o=>AA (ADK q) λR _=>?_;rw[AW (x:=k+1)];have J:B.take (k+1).toNat=B.take k.toNat++[G]:=by rw[show(k+1).toNat=k.toNat+1 by omega,CI,o.1];rfl
  have f:∀d,B[k.toNat]?=δ d/\d∈B->An (σ (CD (C,d)) λH=>δ (Step.next (H.1,k+1)):Option (Step (List EN×Int) ((List EN×Bool)⊕List EN))) (Ls (λ(s:List EN×Int)=>0<=s.2/\s.2<=θ B/\θ s.1<=θ A_+s.2/\∀y,y∈s.1↔y∈A_\/y∈B.take s.2.toNat) (λs=>((θ B:Int)-s.2).toNat) ((θ B:Int)-k).toNat λr=>(∃u,r=.inl u/\u.2=η)\/∃C,r=.inr C/\θ C<=θ A_+θ B/\∀y,y∈C↔y∈A_\/y∈B):=λd g=>by grind[Option.some.inj,AA,rM,List.mem_of_mem_take,An.next,List.mem_singleton]
  refine AC (λ_=>AA (AI c a) λS _=>AA (AGG o!) λT _=>AO (λ_=>An.done (.inl ⟨_,rfl,rfl⟩)) (λ_=>AA (AI c a) λd g=>f d g)) (λ_=>AA (AI c a) λd g=>f d g)
 ·rcases hr with⟨u,rfl,b⟩|⟨C,rfl,I,n⟩;exact BG (AB λe=>by rw[b]at e;cases e)
  ·refine Av (AA (P:=λr=>∀u,r=.inl u->u.2=η) ?_ λr hr=>A9 (λu b=>AB λe=>by rw[hr u b]at e;cases e) (λu b=>AB λ_=>⟨d!,n⟩));refine Cb (λ(s:Int)=>0<=s/\s<=θ A_) (λs=>((θ A_:Int)-s).toNat) ⟨AX _,o!⟩ (λs t=>?_);have⟨c,i⟩:=t;unfold NV;dsimp[len];refine AC (λa=>?_) (λ_=>An.done λu b=>by cases b);rw[AW];refine AA (AI c a) λD_ _=>?_;rw[wQ v,AD];exact AC (λ_=>AA (AI c a) λE _=>AA (AGG o!) λF _=>AO (λ_=>An.done λu b=>by cases b;rfl) (λ_=>An.next o! o!)) (λ_=>An.next o! o!)
def AGc{L:List EN}{a:AM}{l:AZ}{p i j:Int}(hN:He L)(hA:AR L a)(t:S9 L l)(hj:j<=1099511627776):An (FM (a,l,p,i,j)) λr=>r.2=0->r.1=L.filter (J6 p i j):=by
 have I:=t.sorted;have hU:Uq L:=λx hx y G O=>Ue (by refine Jy.2 ((QQ).2 (I.imp λh=>?_));omega) hx G O;refine AA AFp λv0 h0=>AK (λJ=>AB λo=>N! o J) (λo=>?_);have⟨p0,p1,i0,ij⟩:=h0 o;refine AA (tj hA ⟨p0,p1⟩) λv1 h1=>?_;obtain⟨M,lo,hh,ax,rfl,ao,hM,B⟩:=h1;dsimp only at B;refine AA (ABf B t.vl i0 hj ij) λv2 h2=>AO (λ_=>AB n!) (λN=>?_);have ag:=h2.1 N;refine AA (zD hU B) λv3 Z=>AA (yH t.vl) λv4 h4=>?_;have ad:∀y∈v3,y∈L:=λy G=>by have⟨q,z,A_,_⟩:=(Z.2 y).1 G;exact(((B.2 q z).2.1.mem y).1 A_).1
 have af:∀y∈v4,y∈L:=λy G=>by rw[h4]at G;exact((t.tail y).1 (BU.1 G).1).1
 have C:θ v4<=4096:=by rw[h4];exact C9 (FT _ _) t.vl.2.2.1
 refine AA (AEo hU t.vl ad af B.1 Z.1 C) λc h5=>AO (λ_=>AB n!) (λht=>?_);have⟨u1,u2⟩:=h5 ht;have w:∀y,y∈c.1↔y∈L.filter (J6 p i j):=λy=>by rw[u2 y,Z.2 y,h4,BU,BU];constructor;rintro(⟨q,z,A_,q3,q4,q5⟩|⟨z,A_⟩);have:=((B.2 q z).2.1.mem y).1 A_;refine⟨this.1,?_⟩;unfold J6;rw[this.2.1,beq_iff_eq.2 q3,G! (show y.1>i from q4),G! q5];rfl;exact⟨((t.tail y).1 z).1,A_⟩;rintro⟨z,A_⟩;have hw:=A_;unfold J6 at hw;simp[BN,K!,J!]at hw;have⟨w1,w2,w3,w4⟩:=hw;rcases ag y.1 w3 w4 with⟨r,V,r2,r3⟩|⟨V,r2⟩;have⟨_,g2,g3,g4⟩:=B.2 r V;exact .inl ⟨r,V,(g2.mem y).2 ⟨z,w1,o!,o!,r2,r3⟩,w2,w3,w4⟩;exact .inr ⟨(t.tail y).2 ⟨z,V,r2⟩,A_⟩
 refine AA (P:=λr=>(∀u,r=.inl u->u.2=13)/\(r=.inr ()->∀(k:Nat)(e f:EN),c.1[k]?=δ e->c.1[k+1]?=δ f->f.2.2.2.2.1=e.1)) ?_ λr hr=>A9 (λu D_=>AB λo=>by rw[hr.1 u D_]at o;cases o) (λu D_=>AB λ_=>?_)
 ·refine Cb (λ(s:Int)=>0<=s/\s<=θ c.1/\∀(k:Nat)(e f:EN),(k:Int)+1<s->c.1[k]?=δ e->c.1[k+1]?=δ f->f.2.2.2.2.1=e.1) (λs=>((θ c.1:Int)-s).toNat) ⟨AX _,o!,λk e f n=>o!⟩ (λs hI=>?_);have⟨s0,s1,s2⟩:=hI;unfold Ps;dsimp[len];have H:∀u:List EN×Int,u=([],13)->(∀v,(Sum.inl u:(List EN×Int)⊕Unit)=.inl v->v.2=13)/\((Sum.inl u:(List EN×Int)⊕Unit)=.inr ()->∀(k:Nat)(e f:EN),c.1[k]?=δ e->c.1[k+1]?=δ f->f.2.2.2.2.1=e.1):=λu D_=>⟨λv hv=>by cases hv;rw[D_],λh=>by cases h⟩
  refine AC (λJ=>?_) (λJ=>An.done ⟨λu D_=>(by cases D_),λ_ k e f n g=>s2 k e f (by have:=Cd g;omega) n g⟩);rw[AW (x:=s+1)];have S:0<s->An (σ (ix c.1 s) λT=>σ (ix c.1 (wi (s-1))) λU=>bif (T.2.2.2.2.1 !=U.1)then δ (.done (.inl ([],13)))else δ (.next (s+1)):Option (Step Int ((List EN×Int)⊕Unit))) (Ls (λ(s:Int)=>0<=s/\s<=θ c.1/\∀(k:Nat)(e f:EN),(k:Int)+1<s->c.1[k]?=δ e->c.1[k+1]?=δ f->f.2.2.2.2.1=e.1) (λs=>((θ c.1:Int)-s).toNat) ((θ c.1:Int)-s).toNat λr=>(∀u,r=.inl u->u.2=13)/\(r=.inr ()->∀(k:Nat)(e f:EN),c.1[k]?=δ e->c.1[k+1]?=δ f->f.2.2.2.2.1=e.1)):=λF=>by
   rw[AW];refine AA (AI s0 J) λT X_=>AA (AI) λU Y_=>AK (λ_=>An.done (H _ rfl)) (λO=>An.next ⟨o!,o!,λk e f n Q g=>?_⟩ o!);by_cases al:(k:Int)+1<s;exact s2 k e f al Q g;have ek:k+1=s.toNat:=o!
   have W:(s-1).toNat=k:=o!
   rw[ek,X_.1]at g;have:=Y_.1;rw[W,Q]at this;rw[<-BH g,BH this];exact O
  apply AQ<;>intro hs
  ·refine AA (AI s0 J) λv7 g7=>AC (λ_=>An.done (H _ rfl)) (λ_=>AC (λF=>N! F o!) (λ_=>An.next ⟨o!,o!,λk e f n=>o!⟩ o!))
  exact AC (λF=>S F) (λF=>N! F o!)
 subst D_;dsimp only;have K:=hr.2 rfl;refine jz ?_ (I.filter _) w;have R:∀e∈c.1,e.2.2.2.2.1<e.1:=λe O=>by have⟨k,n⟩:=HC.1 (BU.1 ((w e).1 O)).1;exact(hN k e n).2.2.2.2.2.2.1
 have step:∀(d k:Nat)(e f:EN),c.1[k]?=δ e->c.1[k+1+d]?=δ f->e.1<f.1:=by
  intro d;induction d with
  |zero=>intro k e f n E;have:=K k e f n E;have:=R f (BM E);omega
  |succ d ih=>intro k e f n E;have ar:=Cd E;have hg:c.1[k+1+d]?=δ (c.1[k+1+d]' o!):=As o!;have a:=ih k e _ n hg;have b:=K (k+1+d) _ f hg E;have:=R f (BM E);omega
 rw[EU];intro k m n hm ap;obtain⟨d,rfl⟩:∃d,m=k+1+d:=⟨m-(k+1),o!⟩
 exact step d k _ _ (As n) (As hm)
def xF{x:AT}{a:List AE}(q:OKs x a)(d:θ a<=4096):Mn (x,a)=δ (a.foldl upd x,0):=by
 suffices t:An (Mn (x,a)) λr=>r=(a.foldl upd x,0) by obtain⟨r,hr,rfl⟩:=t;exact hr
 generalize v:a.foldl upd x=y;refine AA (P:=λr=>∃z,r=.inr (y,z)) ?_ λr hr=>?_
 ·refine Cb (λ(s:Int×AT×AT)=>∃A_ B,a=A_++B/\s.1=θ A_/\OKs s.2.1 B/\B.foldl upd s.2.1=y) (λ(s:Int×AT×AT)=>((θ a:Int)-s.1).toNat) ⟨[],a,rfl,rfl,q,v⟩ ?_;rintro⟨i,x,z⟩ ⟨A_,B,rfl,g,h,c⟩;dsimp only at g h c;subst g;unfold Tn;dsimp[len];rw[Af]at d;refine AC (λb=>?_) (λb=>An.done ?_)
  ·obtain _|⟨e,B⟩:=B;simp at b;have u:ix (A_++e::B) (θ A_:Int)=δ e:=by unfold ix;rw[C! o!,Cz,Ce (Ai _),Gi];rfl
   have⟨⟨j,f,k,l,m,n⟩,o⟩:=h;have p:e.2.2.2.2.1<e.1:=f.2.2.2.2.2.1;rw[u,AD,F! o!,A!,AD,AAR j f k l m n,AD,AW (x:=(θ A_:Int)+1)];refine AK (λb=>N! rfl b) (λ_=>An.next ⟨A_++[e],B,k!,k!,o,c⟩ d!)
  obtain _|⟨e,B⟩:=B;exact⟨z,by rw[<-c];rfl⟩;simp at b;omega
 grind[Av,AB]
def ACd{n:Int}{L:List EN}{a:AM}{l:AZ}{p:Int}{j k:Nat}(t:LI n L)(b:He L)(h:AR L a)(f:S9 L l)(e:j<=k)(v:k<=θ L)(m:0<=p/\p<a.2.1)(d:p<64):An (Mm (st (L.take j) p,a,l,(k:Int))) λr=>r.2=0->r.1=st (L.take k) p:=by have i:=f.len;have w:=Sj b p j;have u:=XJ (b.take j) p;rw[BJ]at u;refine AA OL λx o=>AO (λc=>N! (o.2 h.vb) (by simp[c])) (λ_=>AA BP λy q=>AO (λc=>N! (q.2 f.vl) (by simp[c])) (λ_=>?_));rw[Vt ((WG b ⟨m.1,d⟩ (by omega:θ L<=1099511627776)) j),AD];refine AK (λc=>N! rfl c) (λ_=>?_);dsimp only;rw[J5,Sb,F! o!,A!];refine AA (AGc b h f o!) λz s=>AK (λc=>AB λg=>N! g c) (λg=>?_);rw[s g,show BQ (L.take j) p=(((BQ (L.take j) p).toNat:Nat):Int) by omega,w6 b o!,kS b (j:=j) o! (Vi b),xF (tP b t ⟨m.1,d⟩ o! j k e) (by have:=FT (Yp p) ((L.take k).drop j);rw[EY,BJ]at this;omega),<-gV e,AD];exact AB λ_=>rfl
def AFz{A t:BV}{b:UInt8}:six (A++b::t) (θ A:Int)=δ (b.toNat:Int):=by grind[six]
def AFm{x:AT}(h:HB x):An (Aa (Gb (Hk x)) (0,(x.1,x.2.1,GF.all (η,[])),0,0,GF.all (η,[]))) λr=>∃z,r=.inr (x,z):=by
 have y:=bw h;refine Cb (λ(s:Int×AT×AT)=>0<=s.1/\s.1<=16/\s.2.1.1=x.1/\s.2.1.2.1=x.2.1/\∀j:Fin 16,s.2.1.2.2 j=if(j.val:Int)<s.1 then x.2.2 j else(η,[])) (λ(s:Int×AT×AT)=>(16-s.1).toNat) ⟨AX _,u!,rfl,rfl,λj=>by rw[D! d!];rfl⟩ ?_;rintro⟨i,⟨p,n,a⟩,z⟩ ⟨l,J,C,hn,g⟩;dsimp only at l J C hn g;subst C hn;unfold Gb;dsimp only;refine AC (λk=>?_) (λk=>An.done ⟨z,?_⟩)
 ·rw[AW (x:=i*13),AW (x:=12+i*13),AW (x:=12+i*13+1),AW (x:=i+1)];have⟨N,D_⟩:=lQ (a:=x.2.2) (i:=i.toNat) o!;have⟨A_,r,t,M⟩:=un h (i:=i.toNat) o!;have b:=h.cl i.toNat
  generalize G:cl x.2.2 i.toNat=c at*;have B:θ A_+(13+θ r)=256:=by have:=y;rw[t,Af,Af,bv b.1]at this;exact this
  have f:six (Hk x) (12+i*13)=δ (if c.1=ζ then(θ c.2:Int)else 255):=by have q:=b.1;have e:V2 c=UInt8.ofNat ((if c.1=ζ then(θ c.2:Int)else 255)%256).toNat::(c.2++iZ (12-θ c.2)):=rfl;rw[t,show(12+i*13:Int)=(θ A_:Int) by omega,e,am,AFz,UInt8.toNat_ofNat'];apply E! δ;split<;>omega
  rw[f,AD];have E:∀m:GF 16 Ch,(∀j:Fin 16,m j=if(j.val:Int)<i+1 then x.2.2 j else(η,[]))->An (δ (Step.next (i+1,(x.1,x.2.1,m),z)):Option (Step (Int×AT×AT) ((Int×AT)⊕(AT×AT)))) (Ls (λ(s:Int×AT×AT)=>0<=s.1/\s.1<=16/\s.2.1.1=x.1/\s.2.1.2.1=x.2.1/\∀j:Fin 16,s.2.1.2.2 j=if(j.val:Int)<s.1 then x.2.2 j else(η,[])) (λ(s:Int×AT×AT)=>(16-s.1).toNat) (16-i).toNat λr=>∃z,r=.inr (x,z)):=λm o=>An.next ⟨d!,d!,rfl,rfl,o⟩ d!
  by_cases d:c.1=ζ;have q:=b.1;rw[C! d,AW (x:=(θ c.2:Int)),beq_eq_false_iff_ne.2 o!,A!,F! o!,A!,AW];have⟨s,I,u⟩:=C3 (s:=Hk x) (lo:=12+i*13+1) (hi:=12+i*13+1+(θ c.2:Int)) o! o! (by rw[y];omega);have w:s=c.2:=by
   rw[u.1,t];have K:(12+i*13+1).toNat=θ A_+1:=o!
   have L:(12+i*13+1+(θ c.2:Int)).toNat-(12+i*13+1).toNat=θ c.2:=o!
   grind[List.drop_drop,List.drop_left,V2,List.append_assoc,List.drop_left',A3,List.take_left]
  rw[I,w,AD];have⟨v,F,_⟩:=CQ (a:=a) l k;rw[F,AD,AD];exact E _ (AAa g ⟨l,k⟩ λH=>D_.symm.trans (DX d rfl));rw[D! d,AW,beq_iff_eq.2 rfl,B!];exact E _ (xQ g ⟨l,k⟩ λH=>D_.symm.trans (DX (by simpa using d) (b.2.resolve_left d)))
 refine E! Sum.inr (DX (DX rfl (DX rfl (funext λj=>?_))) rfl);exact(g j).trans (C! o!)
def AAF{a t:BV}{n k:Int}(h:(θ a:Int)+θ t<=2199023255552)(b:1<=k)(d:k<=8)(e:k<=θ t)(g:t.take k.toNat=DZ n k.toNat)(hn:0<=n)(f:n<256^k.toNat)(c:n<9223372036854775808):Au (a++t,(θ a:Int),k)=δ (n,0):=by grind[ig,AAA]
theorem AB3{x:AT}(h:HB x)(hn:x.2.1≠0):EL (Hk x)=δ (x,0):=by
 have b:=bw h;have A_:=h.2.1;have B:=h.2.2.2.1;unfold EL;have⟨y,e,m⟩:=C3 (s:=Hk x) (lo:=0) (hi:=8) g! g! (by rw[b];decide);have⟨u,f,o⟩:=C3 (s:=Hk x) (lo:=248) (hi:=256) g! g! (by rw[b];decide);have⟨w,g,p⟩:=C3 (s:=Hk x) (lo:=0) (hi:=244) g! g! (by rw[b];decide);have q:u=DZ x.2.1 8:=by rw[o.1];show List.take 8 (List.drop 248 (Hk x))=_;rw[nM h,BK (by rw[A3];exact Ai _)]
 have r:w=Kt x:=p.1.trans (by show List.take 244 (Hk x)=_;unfold Hk;exact Fg (Gs h));have c:=fU (Kt x);have i:Au (Hk x,244,4)=δ (VZ (Kt x),0):=by have:=AAF (a:=Kt x) (t:=DZ (VZ (Kt x)) 4++DZ x.2.1 8) (n:=VZ (Kt x)) (k:=4) (by simp only[Af,A3,Gs h];decide) g! g! (by simp only[Af,A3];decide) (Fg (A3 _ _)) o! (by simp[Int.reduceToNat];omega) o!;rw[Gs h]at this;exact this
 have j:Au (Hk x,8,4)=δ (x.1,0):=by have:=AAF (a:=DZ x.2.1 8) (t:=DZ x.1 4++(Ol x.2.2 16++(iZ 24++(DZ (VZ (Kt x)) 4++DZ x.2.1 8)))) (n:=x.1) (k:=4) (by simp only[Af,A3,Iv h,iZ,Fz];omega) g! g! (by simp[Af,A3];omega) (by exact Fg (A3 _ _)) h.1 (by simp[Int.reduceToNat];omega) o!;grind[A3,Hk,Kt,List.append_assoc]
 have l:Au (Hk x,0,8)=δ (x.2.1,0):=AAF (a:=[]) (t:=Hk x) (n:=x.2.1) (k:=8) (by rw[b];decide) g! g! (by rw[b];decide) UB h.2.2.1 (by simp[Int.reduceToNat];omega) o!;obtain⟨v,d,z,rfl⟩:=AFm h;rw[(by simp[len];omega:len (Hk x)=256),H!,A!,qp,AD,beq_eq_false_iff_ne.2 (AAr h hn),A!,e,AD,f,AD,m.1.trans UB,q,H!,A!,i,AD,g,AD,r,vq (by rw[Gs h];decide),AD,show ι .u32 (VZ (Kt x))=VZ (Kt x) by rw[vg];omega,H!,A!,l,AD,j,AD,d,AD,mA,Vt h,AD,H!,H!];rfl
theorem ADx{x:AT}(h:HB x)(a:x.2.1=0->x=(x.1,0,GF.all (η,[]))):Cp (mK x,x.1)=δ (x,0):=by have b:=h.1;have c:=h.2.1;unfold Cp mK;dsimp only;rw[F! o!,A!,F! o!,A!];by_cases hn:x.2.1=0;rw[C! hn];rw[(by grind[EL,iZ,List.length_replicate,qp]:EL (iZ 256)=δ ((0,0,GF.all (η,[])),7)),AD];exact E! (λq=>δ (q,(0:Int))) (a hn).symm;grind[AB3]
def vW{L:List EN}(h:He L)(a:θ L<=1099511627776){p:Int}(b:0<=p/\p<64){k:Nat}:Cp (mK (st (L.take k) p),p)=δ (st (L.take k) p,0):=by grind[ADx,WG,ABG,Sb]
theorem dL(L:List EN)(n:Nat):len (MK L n)=n:=by grind[Lr]
theorem rE{L:List EN}(h:He L)(j:θ L<=1099511627776){s:Int}{n k:Nat}(c:1<=s/\s<=1073741824)(hn:1<=n/\n<=64):Eh (s,(n:Int),MK (L.take k) n)=δ ζ:=by
 suffices c:An (Eh (s,(n:Int),MK (L.take k) n)) λr=>r=ζ by obtain⟨r,hr,rfl⟩:=c;exact hr
 unfold Eh;dsimp only;rw[F! o!,A!,F! o!,A!,F! o!,A!,F! o!,A!];refine AA (P:=λr=>r=.inr ()) ?_ λr hr=>by rw[hr];exact Av (AB rfl)
 refine Cb (λ(s:Int)=>0<=s/\s<=n) (λs=>((n:Int)-s).toNat) ⟨AX _,o!⟩ (λi g=>?_);have⟨d,m⟩:=g;unfold SS;dsimp only;rw[dL];refine AC (λa=>?_) (λ_=>An.done rfl);have e:An (δ (Step.next (wi (i+1))):Option (Step Int (Bool⊕Unit))) (Ls (λ(s:Int)=>0<=s/\s<=n) (λs=>((n:Int)-s).toNat) ((n:Int)-i).toNat λr=>r=.inr ()):=by grind[AW,An.next]
 have f:(dd (st (L.take k) i)).1=i:=Sb _ _;rw[YQ d a,AD,f,F! o!,A!,F! o!,A!];have b:Cp ((dd (st (L.take k) i)).2.2,i)=δ (st (L.take k) i,0):=vW h j ⟨d,o!⟩;refine AC (λl=>?_) (λ_=>?_);rw[AW,YQ o! o!,AD,show(dd (st (L.take k) (i-1))).1=i-1 from Sb _ _,F! o!,A!,b,AD];exact AK (λa=>N! rfl a) (λ_=>AK (λa=>N! rfl a) (λ_=>e));rw[b,AD];exact AK (λa=>N! rfl a) (λ_=>AK (λa=>N! rfl a) (λ_=>e))
def ABI{L:List EN}(h:He L)(a:θ L<=1099511627776){s:Int}{n k:Nat}(b:1<=s/\s<=1073741824)(hn:1<=n/\n<=64):Ln (s,(n:Int),MK (L.take k) n)=δ ζ:=by grind[Ln,rE,dL]
def AG4{L:List EN}(h:He L)(d:θ L<=1099511627776){s i:Int}{n k:Nat}(e:1<=s/\s<=1073741824)(hn:1<=n/\n<=64)(c:0<=i/\i<n):Mk ((s,(n:Int),MK (L.take k) n),i)=δ (dd (st (L.take k) i),ζ):=by
 suffices a:An (Mk ((s,(n:Int),MK (L.take k) n),i)) λr=>r=(dd (st (L.take k) i),ζ) by obtain⟨r,hr,rfl⟩:=a;exact hr
 refine AA (P:=λr=>r=.inl (ζ,dd (st (L.take k) i))) ?_ λr hr=>by rw[hr];exact BG (AB rfl)
 refine Cb (λ(t:Int×C8)=>0<=t.1/\t.1<=i) (λt=>(i-t.1).toNat) ⟨AX _,c.1⟩ ?_;rintro⟨t,z⟩ ⟨b,f⟩;dsimp only at b f;unfold Tm;dsimp only;rw[dL,G! o!,B!,rE h d e hn,AD,B!,YQ b o!,AD,show(dd (st (L.take k) t)).1=t from Sb _ _];grind[AQ,An.done,AW,An.next]
def ADr{L:List EN}(h:He L)(a:θ L<=1099511627776){s i:Int}{n k:Nat}(c:1<=s/\s<=1073741824)(hn:1<=n/\n<=64)(b:0<=i/\i<n):Ml ((s,(n:Int),MK (L.take k) n),i)=δ (st (L.take k) i,0):=by unfold Ml;dsimp only;rw[rE h a c hn,AD,Ca,A!,AG4 h a c hn b,AD];dsimp only;rw[Ca,A!,show Cp ((dd (st (L.take k) i)).2.2,i)=δ (st (L.take k) i,0)from vW h a ⟨b.1,o!⟩];rfl
def ACT{n:Int}{L:List EN}{a:AM}{l:AZ}{s0 s:Int}{m j k:Nat}(J:LI n L)(e:He L)(A_:AR L a)(q:S9 L l)(f:j<=k)(K:k<=θ L)(T:(m:Int)=a.2.1)(hn:1<=m/\m<=64)(y:1<=s0/\s0<=1073741824):An (HV ((s0,(m:Int),MK (L.take j) m),a,l,s,(k:Int))) λr=>r.2=0->1<=s/\s<=1073741824/\r.1=(s,(m:Int),MK (L.take k) m):=by
 have B:=q.len;have M:=λp h=>WG e (p:=p) h (by omega:θ L<=1099511627776);unfold HV;rw[ABI e o! y hn,AD,Ca,A!];refine AA OL λU o=>AO (λd=>N! (o.2 A_.vb) (by simp[d])) (λ_=>AA BP λV F=>AO (λd=>N! (F.2 q.vl) (by simp[d])) (λ_=>?_));dsimp only;refine AC (λ_=>AB n!) (λO=>AC (λ_=>AB n!) (λQ=>AC (λ_=>AB n!) (λR=>AC (λ_=>AB n!) (λS=>AA (P:=λr=>(∀u,r=.inl u->u.1≠0)/\∀u,r=.inr u->(u.1,u.2.1,u.2.2.1)=(MK (L.take k) m,s,(m:Int))) ?_ λr hr=>A9 (λu b=>AB λc=>N! c (hr.1 u b)) (λu b=>AB λ_=>⟨o!,o!,?_⟩)))))
 ·refine Cb (λ(t:Int×List C8×Int×Int×A0)=>0<=t.1/\t.1<=m/\∃z,t.2=(MK (L.take k) t.1.toNat,s,(m:Int),z)) (λt=>((m:Int)-t.1).toNat) ⟨AX _,d!,_,rfl⟩ ?_;rintro⟨i,t⟩ ⟨g,N,z,C⟩;dsimp only at g N C;subst C;unfold OH;dsimp only;rw[dL];refine AC (λd=>?_) (λd=>An.done ⟨λu b=>(by cases b),λu b=>(by cases b;rw[show i.toNat=m by omega])⟩);have E:(dd (st (L.take j) i)).1=i:=Sb _ _;rw[YQ g d,AD,E,ADr e o! y hn ⟨g,d⟩,AD];refine AA (ACd J e A_ q f K ⟨g,o!⟩ o!) λW G=>AK (λd=>An.done ⟨λu b=>(by cases b;exact d),λu b=>(by cases b)⟩) (λc=>?_);rw[G c];refine AA (P:=λv=>v=dd (st (L.take k) i)) ?_ λX_ H=>AA (Ac (by rw[Lr];simp;omega)) λY_ I=>?_;refine AC (λh=>?_) (λh=>AB ?_);grind[Vt,AB,dd,mK];rw[J5]at h;have w:=RE e i j k f;have x:=Sj e i j;grind[kh]
  ·rw[AW];refine An.next ⟨d!,d!,z,?_⟩ d!
   dsimp only;rw[I.1,H,show(i+1).toNat=i.toNat+1 by omega,xz,Ir g]
 have:=hr.2 u b;dsimp only;have w:=E! (·.1) this;have x:=E! (·.2.1) this;have D_:=E! (·.2.2) this;dsimp only at w x D_;rw[w,x,D_]
def xA(c:C8):BV:=DZ c.1 2++c.2.2
def yu(cs:List C8):BV:=cs.flatMap λc=>JJ (xA c)
def uz(x:A0):BV:=[80,77,73,77]++(DZ x.1 4++(DZ x.2.1 2++DZ (θ x.2.2:Int) 2))
def encI(x:A0):BV:=JJ (uz x)++yu x.2.2
def wP(x:A0):(uz x).length=12:=by grind[uz,List.length_append,A3,List.length_cons,List.length_nil]
theorem sG{x:AT}(h:HB x):(mK x).length=256:=by grind[mK,iZ,List.length_replicate,bw]
def AAo{L:List EN}(h:He L)(b:θ L<=1099511627776){k n:Nat}(hn:n<=64){c:C8}(a:c∈MK (L.take k) n):(xA c).length=258:=by grind[List.mem_iff_getElem?,Cd,Lr,mQ,Option.some.inj,xA,dd,List.length_append,A3,sG,WG]
theorem qt{a:List C8}(h:∀c∈a,(xA c).length=258):(yu a).length=266*θ a:=by induction a<;>grind[yu,JJ,xA,List.length_append,Fv,List.length_cons]
def yw{L:List EN}(h:He L)(m:θ L<=1099511627776){s:Int}{n k:Nat}(y:1<=s/\s<=1073741824)(hn:1<=n/\n<=64):H4 (s,(n:Int),MK (L.take k) n)=δ (encI (s,(n:Int),MK (L.take k) n),0):=by
 suffices o:An (H4 (s,(n:Int),MK (L.take k) n)) λr=>r=(encI (s,(n:Int),MK (L.take k) n),0) by obtain⟨r,hr,rfl⟩:=o;exact hr
 have j:∀c∈MK (L.take k) n,(xA c).length=258:=λc d=>AAo h m hn.2 d;unfold H4;rw[rE h m y hn,AD,Ca,A!];refine AA (mg k! g!) λE q=>AA (mg (by rw[q];simp[A3]) g!) λF w=>AA (mg (by rw[w,q];simp[A3]) g!) λB D_=>?_;rw[(by grind[uz,List.append_assoc,Int.reduceToNat]:B=uz (s,(n:Int),MK (L.take k) n)),ai (by rw[wP];decide),AD];refine AA (P:=λr=>r=encI (s,(n:Int),MK (L.take k) n)) ?_ λr hr=>AB (by rw[hr]);refine Cb (λ(t:BV×Int)=>0<=t.2/\t.2<=n/\t.1=JJ (uz (s,(n:Int),MK (L.take k) n))++yu ((MK (L.take k) n).take t.2.toNat)) (λt=>((n:Int)-t.2).toNat) ⟨AX _,d!,by simp[yu]⟩ ?_;rintro⟨t,i⟩ ⟨e,z,u⟩;dsimp only at e z u;subst u;unfold Re;dsimp only;rw[dL];refine AC (λd=>?_) (λd=>An.done (by rw[BK (l:=MK (L.take k) n) (by rw[Lr];omega)];rfl));have a:=mQ (L:=L.take k) (n:=n) (i:=i.toNat) o!;rw[Ir e]at a;rw[YQ e d,AD,AD,AW];have x:(yu ((MK (L.take k) n).take i.toNat)).length<=17024:=by grind[qt,List.mem_of_mem_take,List.length_take,Lr]
 have b:=j _ (BM a);have g:(dd (st (L.take k) i)).2.2.length=256:=sG (WG h ⟨e,o!⟩ m k);refine AA (mg k! g!) λG p=>AA (Co (by rw[p,CY,A3,g];decide)) λC v=>?_;rw[(by rw[v.1,p];rfl:C=xA (dd (st (L.take k) i))),ai (by rw[b];decide),AD];refine AA (Co (by rw[Af,Fv,Fv,wP,b];omega)) λA_ f=>An.next ⟨d!,d!,?_⟩ d!
 dsimp only;rw[f.1,show(i+1).toNat=i.toNat+1 by omega,CI,a,A5];grind[yu,Option.toList_some]
def PI(L:List EN)(d:Int)(m:Nat)(x:A0):Prop:=∃j:Nat,(j:Int)<=d/\1<=x.1/\x.1<=1073741824/\x=(x.1,(m:Int),MK (L.take j) m)
def FI(L:List EN)(d:Int)(m:Nat)(f:Ad):Prop:=∃x,PI L d m x/\f.2.2=encI x
def wg{a t:BV}{n k:Int}(h:(θ a:Int)+θ t<=2199023255552)(b:1<=k)(d:k<=8)(e:k<=θ t)(g:t.take k.toNat=DZ n k.toNat)(hn:0<=n)(f:n<256^k.toNat)(c:n<9223372036854775808):Bl (a++t,(θ a:Int),k)=δ (n,0):=by grind[XK,AAA]
def AGP{A p R:BV}(h:(θ A:Int)+θ p+θ R<=1099511627776)(a:θ p<=8392):Db (A++(JJ p++R),(θ A:Int))=δ (p,(θ A:Int)+8+θ p,0):=by grind[WB,List.length_append,Fv,lg]
theorem yQ{L:List EN}(h:He L)(E:θ L<=1099511627776){s:Int}{n k:Nat}(T:1<=s/\s<=1073741824)(hn:1<=n/\n<=64):JM (encI (s,(n:Int),MK (L.take k) n))=δ ((s,(n:Int),MK (L.take k) n),0):=by
 suffices H:An (JM (encI (s,(n:Int),MK (L.take k) n))) λr=>r=((s,(n:Int),MK (L.take k) n),0) by obtain⟨r,hr,rfl⟩:=H;exact hr
 have g:∀c∈MK (L.take k) n,(xA c).length=258:=λc u=>AAo h E hn.2 u;have y:(yu (MK (L.take k) n)).length=266*n:=by rw[qt g,Lr]
 have b:=wP (s,(n:Int),MK (L.take k) n);have G:(encI (s,(n:Int),MK (L.take k) n)).length=20+266*n:=by unfold encI;rw[Af,Fv,b,y]
 have u0:Db (encI (s,(n:Int),MK (L.take k) n),0)=δ (uz (s,(n:Int),MK (L.take k) n),20,0):=by have:=AGP (A:=[]) (p:=uz (s,(n:Int),MK (L.take k) n)) (R:=yu (MK (L.take k) n)) (by rw[b,y,CU];omega) (by rw[b];decide);rw[b]at this;exact this
 unfold JM;rw[u0,AD];dsimp only;have D_:uz (s,(n:Int),MK (L.take k) n)=[80,77,73,77]++(DZ s 4++(DZ (n:Int) 2++DZ (n:Int) 2)):=by unfold uz;dsimp only;rw[Lr]
 have W:Bl (uz (s,(n:Int),MK (L.take k) n),4,4)=δ (s,0):=by rw[D_];exact wg (a:=[80,77,73,77]) (t:=DZ s 4++(DZ (n:Int) 2++DZ (n:Int) 2)) (n:=s) (k:=4) (by simp only[Af,A3];decide) g! g! (by simp only[Af,A3];decide) (Fg (A3 _ _)) o! (by simp[Int.reduceToNat];omega) o!
 have X_:Bl (uz (s,(n:Int),MK (L.take k) n),8,2)=δ ((n:Int),0):=by rw[D_,<-A5];exact wg (a:=[80,77,73,77]++DZ s 4) (t:=DZ (n:Int) 2++DZ (n:Int) 2) (n:=n) (k:=2) (by simp only[Af,A3];decide) g! g! (by simp only[Af,A3];decide) (Fg (A3 _ _)) o! (by simp[Int.reduceToNat];omega) o!
 have Y_:Bl (uz (s,(n:Int),MK (L.take k) n),10,2)=δ ((n:Int),0):=by rw[D_,<-A5,<-A5];exact wg (a:=[80,77,73,77]++DZ s 4++DZ (n:Int) 2) (t:=DZ (n:Int) 2) (n:=n) (k:=2) (by simp only[Af,A3];decide) g! g! (by simp only[A3];decide) (BK (by rw[A3];decide)) o! (by simp[Int.reduceToNat];omega) o!
 have S:Ep (uz (s,(n:Int),MK (L.take k) n),([80,77,73,77]:List UInt8))=δ ζ:=by obtain⟨v,q,r⟩:=C3 (s:=uz (s,(n:Int),MK (L.take k) n)) (lo:=0) (hi:=4) g! g! (by rw[b];decide);have e:v=[80,77,73,77]:=r.1.trans (by rw[D_];rfl);unfold Ep EK;rw[G! (by simp only[len,b];decide),B!];show σ (σ (Ui (uz (s,(n:Int),MK (L.take k) n)) 0 4) _) _=_;rw[q,e];rfl
 rw[H!,A!,show(len (uz (s,(n:Int),MK (L.take k) n)) !=12)=η by unfold len;rw[b];rfl,A!,S,Option.bind_some,Bool.not_true,A!,W,Option.bind_some,X_,Option.bind_some,Y_,Option.bind_some,F! d!,A!];refine AA (P:=λr=>∃z,r=.inr (20+266*(n:Int),MK (L.take k) n,s,(n:Int),z)) ?_ λr hr=>?_
 ·refine Cb (λ(t:Int×Int×List C8×Int×Int×A0)=>0<=t.2.1/\t.2.1<=n/\t.1=20+266*t.2.1/\∃z,t.2.2=((MK (L.take k) n).take t.2.1.toNat,s,(n:Int),z)) (λt=>((n:Int)-t.2.1).toNat) ⟨AX _,d!,d!,_,rfl⟩ ?_;rintro⟨M,i,t⟩ ⟨C,V,o,z,J⟩;dsimp only at C V o J;subst J o;unfold ZS;dsimp only;refine AC (λu=>?_) (λu=>An.done ⟨z,by rw[show i=n by omega,BK (l:=MK (L.take k) n) (by rw[Lr];omega)]⟩);have d:=mQ (L:=L.take k) (n:=n) (i:=i.toNat) o!;rw[Ir C]at d;have f:=g _ (BM d);have j:MK (L.take k) n=(MK (L.take k) n).take i.toNat++(dd (st (L.take k) i)::(MK (L.take k) n).drop (i.toNat+1)):=by
   have B:=Cd d;conv=>lhs;rw[<-De i.toNat (MK (L.take k) n),Qv B]
   rw[As B]at d;rw[BH d]
  have K:(JJ (uz (s,(n:Int),MK (L.take k) n))++yu ((MK (L.take k) n).take i.toNat)).length=20+266*i.toNat:=by rw[Af,Fv,b,qt λc u=>g c (Iq u),BJ,Lr];omega
  have lr:(yu ((MK (L.take k) n).drop (i.toNat+1))).length<=17024:=by rw[qt λc u=>g c (Xe u),EY,Lr];omega
  have Q:encI (s,(n:Int),MK (L.take k) n)=(JJ (uz (s,(n:Int),MK (L.take k) n))++yu ((MK (L.take k) n).take i.toNat))++(JJ (xA (dd (st (L.take k) i)))++yu ((MK (L.take k) n).drop (i.toNat+1))):=by
   conv=>lhs;unfold encI;dsimp only;arg 2;rw[j]
   unfold yu;rw[an,It,A5]
  have U:Db (encI (s,(n:Int),MK (L.take k) n),20+266*i)=δ (xA (dd (st (L.take k) i)),20+266*(i+1),0):=by have:=AGP (A:=JJ (uz (s,(n:Int),MK (L.take k) n))++yu ((MK (L.take k) n).take i.toNat)) (p:=xA (dd (st (L.take k) i))) (R:=yu ((MK (L.take k) n).drop (i.toNat+1))) (by rw[K,f];omega) (by rw[f];decide);rw[<-Q,K,f]at this;rw[show(20+266*i:Int)=((20+266*i.toNat:Nat):Int) by omega,this];refine E! (λw=>δ (xA (dd (st (L.take k) i)),w,(0:Int))) ?_;omega
  have x:(mK (st (L.take k) i)).length=256:=sG (WG h ⟨C,o!⟩ E k);have I:xA (dd (st (L.take k) i))=DZ i 2++mK (st (L.take k) i):=by unfold xA dd;rw[Sb]
  have Z:Bl (xA (dd (st (L.take k) i)),0,2)=δ (i,0):=by rw[I];exact wg (a:=[]) (t:=DZ i 2++mK (st (L.take k) i)) (n:=i) (k:=2) (by rw[Af,A3,x];decide) g! g! (by rw[Af,A3,x];decide) (Fg (A3 _ _)) C (by simp[Int.reduceToNat];omega) o!
  have m:len (xA (dd (st (L.take k) i)))=258:=by unfold len;rw[f];rfl
  obtain⟨w1,N,O⟩:=C3 (s:=xA (dd (st (L.take k) i))) (lo:=2) (hi:=258) g! g! (by rw[f];decide);have w2:w1=mK (st (L.take k) i):=by rw[O.1,I];show List.take 256 (List.drop 2 (DZ i 2++mK (st (L.take k) i)))=_;rw[oT (A3 _ _),BK o!]
  have rc:Q9 (xA (dd (st (L.take k) i)))=δ (dd (st (L.take k) i)):=by unfold Q9;rw[m,N,AD,Z,AD,w2];dsimp only;rw[sj h E ⟨C,o!⟩];unfold dd;rw[Sb];rfl
  rw[U,AD];dsimp only;rw[H!,A!,m,H!,A!,rc,AD];refine AA (Ac (by rw[BJ,Lr];simp;omega)) λad F=>?_;rw[AW];refine An.next ⟨d!,d!,rfl,z,?_⟩ d!
  dsimp only;rw[F.1,show(i+1).toNat=i.toNat+1 by omega,CI,d];rfl
 obtain⟨z,rfl⟩:=hr;apply Av;dsimp only;rw[F! (by unfold len;rw[G];omega),A!,oA h E T hn,Option.bind_some,Bool.not_true,A!];exact AB rfl
def yM{b:Type}(n k:Int)(v:b):∀m:List (Int×b),LB k (Pv n v m)=if k=n then δ v else LB k m
 |[]=>by simp only[Pv,LB];by_cases h:k=n;rw[C! h,h,L!,B!];rw[D! h,beq_eq_false_iff_ne.2 (Oc h),A!]
 |p::r=>by simp only[Pv];by_cases a:p.1=n;rw[beq_iff_eq.2 a,B!];simp only[LB];by_cases h:k=n;rw[C! h,h,L!,B!];rw[D! h,beq_eq_false_iff_ne.2 (Oc h),A!,a,beq_eq_false_iff_ne.2 (Oc h),A!];rw[beq_eq_false_iff_ne.2 a,A!];simp only[LB];rw[yM n k v r];by_cases h:p.1=k;rw[beq_iff_eq.2 h,B!,B!,D! (by rw[<-h];exact a)];rw[beq_eq_false_iff_ne.2 h,A!,A!]
theorem we{L:List EN}(h:He L)(c:θ L<=1099511627776){d:Int}{m:Nat}(hn:1<=m/\m<=64){x:A0}(a:PI L d m x):JM (encI x)=δ (x,0):=by have⟨j,b,e,f,g⟩:=a;grind[yQ]
def FB(D:BV->Option (A0×Int))(L:List EN)(d:Int)(m:Nat)(f:Ad):Prop:=FI L d m f\/An (D f.2.2) λr=>r.2≠0
def ABP(L:List EN)(d:Int)(m:Nat)(fs:List Ad)(n:Nat)(f:Ad)(x:A0):Prop:=f.1=2/\(∀(k:Nat)(g:Ad),k<n->fs[k]?=δ g->g.1=2->g.2.1≠f.2.1)/\PI L d m x/\f.2.2=encI x/\x.1=f.2.1
def WM(L:List EN)(d:Int)(m:Nat)(fs:List Ad)(n:Nat)(x:A0):Prop:=∃(i:Nat)(f:Ad),i<n/\fs[i]?=δ f/\ABP L d m fs i f x
def WM.step{L:List EN}{d:Int}{m:Nat}{b:List Ad}{n:Nat}{f:Ad}(e:b[n]?=δ f)(x:A0):WM L d m b (n+1) x↔WM L d m b n x\/ABP L d m b n f x:=by constructor;rintro⟨i,g,k,a,c⟩;by_cases j:i=n;subst j;rw[e]at a;cases a;exact .inr c;exact .inl ⟨i,g,o!,a,c⟩;rintro(⟨i,g,k,a⟩|h);exact⟨i,g,o!,a⟩;exact⟨n,f,o!,e,h⟩
theorem nL{L:List EN}(h:He L)(a:θ L<=1099511627776){d:Int}{m:Nat}(hn:1<=m/\m<=64){x y:A0}(b:PI L d m x)(c:PI L d m y)(e:encI x=encI y):x=y:=by grind[we,Prod.ext_iff,Option.some.inj]
def WM.uniq{L:List EN}(h:He L)(A_:θ L<=1099511627776){d:Int}{m:Nat}(hn:1<=m/\m<=64){a:List Ad}{n:Nat}{x y:A0}(b:WM L d m a n x)(c:WM L d m a n y)(e:x.1=y.1):x=y:=by have⟨i,f,_,w,k,l,o,p,q⟩:=b;have⟨j,g,_,z,r,s,t,u,v⟩:=c;grind[Nat.lt_trichotomy,nL]
def AAZ(L:List EN)(d:Int)(m:Nat)(fs:List Ad)(s:Int×List (Int×Bool)×List A0):Prop:=∃n:Nat,s.1=n/\n<=θ fs/\θ s.2.2<=n/\(∀id,Option.getD (LB id s.2.1) η=ζ↔∃(k:Nat)(g:Ad),k<n/\fs[k]?=δ g/\g.1=2/\g.2.1=id)/\∀x,x∈s.2.2↔WM L d m fs n x
def vQ{L:List EN}(h:He L)(z:θ L<=1099511627776){d:Int}{m:Nat}(hn:1<=m/\m<=64){fs:List Ad}(h8:θ fs<=8)(R:∀f∈fs,FB JM L d m f):An (G7 fs) λr=>θ r<=8/\∀x,x∈r↔WM L d m fs (θ fs) x:=by
 unfold G7;refine AA (P:=λr=>θ r.2<=8/\∀x,x∈r.2↔WM L d m fs (θ fs) x) ?_ λv U=>?_
 ·refine Cb (AAZ L d m fs) (λs=>((θ fs:Int)-s.1).toNat) ⟨0,rfl,Bo _,Ai _,λid=>⟨λq=>(by cases q),λ⟨k,g,k0,_⟩=>N! k0 (Nat.not_lt_zero _)⟩,λx=>⟨λq=>(by cases q),λ⟨k,g,k0,_⟩=>N! k0 (Nat.not_lt_zero _)⟩⟩ ?_;rintro⟨_,t,o⟩ ⟨n,rfl,n1,V,D_,J⟩;dsimp only at V D_ J;unfold Xx;dsimp[len];refine AC (λN=>?_) (λN=>An.done ⟨d!,by rw[show θ fs=n by omega];exact J⟩);rw[AW (x:=(n:Int)+1)];refine AA (AI o! N) λb K=>?_;have i:=K.1;rw[Cz]at i;have same:(∀x,¬ABP L d m fs n b x)->(b.1=2->∃(k:Nat)(g:Ad),k<n/\fs[k]?=δ g/\g.1=2/\g.2.1=b.2.1)->An (δ (Step.next ((n:Int)+1,t,o)):Option (Step (Int×List (Int×Bool)×List A0) (List (Int×Bool)×List A0))) (Ls (AAZ L d m fs) (λs=>((θ fs:Int)-s.1).toNat) ((θ fs:Int)-n).toNat λr=>θ r.2<=8/\∀x,x∈r.2↔WM L d m fs (θ fs) x):=λc T=>by
   refine An.next ⟨n+1,rfl,o!,d!,λid=>?_,λx=>?_⟩ d!
   dsimp only;rw[D_ id];refine⟨λ⟨k,g,k0,k1⟩=>⟨k,g,o!,k1⟩,λ⟨k,g,k0,k1,p,u⟩=>?_⟩;by_cases l:k=n<;>grind;simp_all[WM.step]
  refine AK (λw=>same (λx q=>w q.1) λq=>N! q w) (λw=>AJ (λE=>?_) (λE=>?_));have⟨k,g,k0,k1,p,u⟩:=(D_ b.2.1).1 E;exact same (λx q=>q.2.1 k g k0 k1 p u) λ_=>⟨k,g,k0,k1,p,u⟩
  have e:∀(k:Nat)(g:Ad),k<n->fs[k]?=δ g->g.1=2->g.2.1≠b.2.1:=λk g k0 k1 p u=>by rw[(D_ b.2.1).2 ⟨k,g,k0,k1,p,u⟩]at E;cases E
  have O:∀F,θ F<=n+1->(∀x,x∈F↔x∈o\/ABP L d m fs n b x)->An (δ (Step.next ((n:Int)+1,Pv b.2.1 ζ t,F)):Option (Step (Int×List (Int×Bool)×List A0) (List (Int×Bool)×List A0))) (Ls (AAZ L d m fs) (λs=>((θ fs:Int)-s.1).toNat) ((θ fs:Int)-n).toNat λr=>θ r.2<=8/\∀x,x∈r.2↔WM L d m fs (θ fs) x):=λF G S=>by
   refine An.next ⟨n+1,rfl,o!,G,λid=>?_,λx=>?_⟩ d!
   dsimp only;rw[yM];by_cases a:id=b.2.1;rw[C! a];exact⟨λ_=>⟨n,b,o!,i,w,a.symm⟩,λ_=>rfl⟩;rw[D! a,D_ id];refine⟨λ⟨k,g,k0,k1⟩=>⟨k,g,o!,k1⟩,λ⟨k,g,k0,k1,p,u⟩=>?_⟩;by_cases l:k=n<;>grind;dsimp only;rw[WM.step i,S x,J x]
  have ε:(∀x,¬ABP L d m fs n b x)->An (δ (Step.next ((n:Int)+1,Pv b.2.1 ζ t,o)):Option (Step (Int×List (Int×Bool)×List A0) (List (Int×Bool)×List A0))) (Ls (AAZ L d m fs) (λs=>((θ fs:Int)-s.1).toNat) ((θ fs:Int)-n).toNat λr=>θ r.2<=8/\∀x,x∈r.2↔WM L d m fs (θ fs) x):=λc=>O o o! λx=>⟨.inl,λq=>q.elim id λq=>N! q (c x)⟩
  rcases R _ K.2 with⟨x,C,l⟩|c;have⟨j,hj,X_,Y_,Z⟩:=id C;have B:=AF8 h z (k:=j) ⟨X_,Y_⟩ hn;rw[<-Z]at B;rw[l,we h z hn C,AD];dsimp only;rw[L!,B!,B,AD,B!];refine AQ (λa=>?_) (λa=>ε λy H=>a ?_);refine AA (Ac w!) λW M=>O W (by rw[M.1];simp;omega) λy=>?_;rw[M.1,Ao,A7];refine⟨λq=>q.imp id λq=>by rw[q];exact⟨w,e,C,l,a⟩,λq=>q.imp id λq=>nL h z hn q.2.2.1 C (q.2.2.2.1.symm.trans l)⟩;rw[<-nL h z hn H.2.2.1 C (H.2.2.2.1.symm.trans l)];exact H.2.2.2.2;have A_:∀x,¬ABP L d m fs n b x:=λx q=>by have⟨r,hr,I⟩:=c;rw[q.2.2.2.1,we h z hn q.2.2.1]at hr;cases hr;exact I rfl
  exact AA c λv2 Q=>AQ (λI=>N! I Q) (λ_=>ε A_)
 refine AA (AF2 o!) λr hr=>?_;rw[ma hr,B!];exact AB ⟨by have:=hr.length_eq;omega,λx=>by rw[hr.mem_iff];exact U.2 x⟩
theorem AFc{L:List EN}{s:Int}{m j:Nat}(n:m<=64){p:Int}(c:0<=p/\p<m):R5 ((s,(m:Int),MK (L.take j) m),p)=δ (p,ζ):=by
 suffices k:An (R5 ((s,(m:Int),MK (L.take j) m),p)) λv=>v=(p,ζ) by obtain⟨r,hr,rfl⟩:=k;exact hr
 unfold R5;dsimp only;rw[(by grind[Lr]:len (MK (L.take j) m)=m)];refine AA (P:=λr=>r=p) ?_ λr hr=>?_
 ·refine Cb (λ(t:Int×Int)=>0<=t.1/\t.1<=p/\p<=t.2/\t.2<=m) (λt=>(t.2-t.1).toNat) ⟨AX _,c.1,d!,AX _⟩ ?_;rintro⟨a,b⟩ ⟨f,g,i,h⟩;dsimp only at f g i h;unfold cR;dsimp only;rw[zf];refine AC (λl=>?_) (λ_=>An.done o!);rw[YQ o! o!,AD,AW (x:=(a+b)/2+1)];unfold PR;rw[AD,show((dd (st (L.take j) ((a+b)/2)),p):C8×Int).1.1=(a+b)/2 from Sb _ _,AW d!];exact BZ (AC (λe=>An.next ⟨d!,by dsimp only at e⊢;omega,i,h⟩ d!) (λd=>An.next ⟨f,g,by dsimp only at d⊢;omega,d!⟩ d!))
 rw[hr,G! c.2,B!,YQ c.1 c.2,AD];unfold PR;rw[AD,show((dd (st (L.take j) p),p):C8×Int).1.1=p from Sb _ _,Int.sub_self];exact AB rfl
def ACP{L:List EN}(h:He L)(a:θ L<=1099511627776){s:Int}{m j:Nat}(c:1<=s/\s<=1073741824)(hn:1<=m/\m<=64){p:Int}(b:0<=p/\p<m):UN ((s,(m:Int),MK (L.take j) m),p)=δ (dd (st (L.take j) p),ζ):=by grind[UN,oA,Bool.not_true,AFc,YQ]
def AEd{L:List EN}(h:He L)(a:θ L<=1099511627776){s:Int}{m j:Nat}(c:1<=s/\s<=1073741824)(hn:1<=m/\m<=64){p:Int}(b:0<=p/\p<m):Wy ((s,(m:Int),MK (L.take j) m),p)=δ (st (L.take j) p,0):=by unfold Wy;rw[oA h a c hn,AD,Ca,A!,ACP h a c hn b,AD,Ca,A!,show GD ((dd (st (L.take j) p)).2.2,p)=δ (st (L.take j) p,0)from sj h a ⟨b.1,o!⟩,AD]
def pr(x:A0)(p:Int):Int:=((x.2.2[p.toNat]?).getD (0,0,[])).2.1
theorem ACw{L:List EN}{s:Int}{m j:Nat}{p:Int}(a:0<=p/\p<m):pr (s,(m:Int),MK (L.take j) m) p=BQ (L.take j) p:=by unfold pr;dsimp only;rw[(mQ (L:=L.take j) (n:=m) (i:=p.toNat) o!),Ir a.1];exact J5 _ _
def ACO{L:List EN}(h:He L)(w:θ L<=1099511627776){d:Int}{m:Nat}(hn:1<=m/\m<=64){f:List Ad}{V:List A0}(q:G7 f=δ V)(G:θ V<=8)(n:∀x∈V,PI L d m x){p k:Int}(A_:0<=p/\p<m):An (Sf (f,p,k)) λr=>θ r<=8/\∀y,y∈r↔∃x∈V,pr x p<=k/\y=(pr x p,x.1,pr x p):=by
 unfold Sf;dsimp only;rw[q,AD];refine AA (P:=λr=>θ r<=8/\∀y,y∈r↔∃x∈V,pr x p<=k/\y=(pr x p,x.1,pr x p)) ?_ λr hr=>?_
 ·dsimp[len];rw[AW];refine Cb (λ(s:Int×List BW)=> -1<=s.1/\s.1<θ V/\(θ s.2:Int)+s.1+1<=θ V/\∀y,y∈s.2↔∃x∈V.drop (s.1+1).toNat,pr x p<=k/\y=(pr x p,x.1,pr x p)) (λs=>(s.1+1).toNat) ⟨d!,d!,k!,λy=>by dsimp only;rw[Qx o!];simp⟩ ?_;rintro⟨i,o⟩ ⟨B,g,C,e⟩;dsimp only at B g C e;unfold Xw;dsimp only;refine AC (λt=>?_) (λ_=>An.done ⟨o!,by rw[show(i+1).toNat=0 by omega]at e;exact e⟩);rw[AW];refine AA (AI t g) λb l=>?_;have⟨j,I,D_,E,F⟩:=n b l.2;have a:=ACP h w (j:=j) ⟨D_,E⟩ hn A_;rw[<-F]at a;have H:V.drop (i-1+1).toNat=b::V.drop (i+1).toNat:=by grind[Cd,List.getElem?_eq_getElem,List.drop_eq_getElem_cons,Option.some.inj]
  rw[a,AD];dsimp only;rw[B!,show(dd (st (L.take j) p)).2.1=pr b p from(J5 _ _).trans (by grind[ACw]:pr b p=BQ (L.take j) p).symm];refine AC (λz=>?_) (λu=>An.next ⟨d!,d!,d!,λy=>?_⟩ d!)
  ·grind[AA,Ac,An.next,List.mem_singleton,List.mem_cons_of_mem,List.mem_cons_self]
  grind[List.mem_cons_of_mem]
 refine AA (AF4 o!) λv c=>?_;rw[ma c,B!];exact AB ⟨by have:=c.length_eq;omega,λy=>by rw[c.mem_iff];exact hr.2 y⟩
def AH9{V:List A0}(f:θ V<=8){y:BW}(b:∃x∈V,x.1=y.2.1):An (Aa (Rm V) (0,y)) λr=>∃(i:Int)(x:A0),r=.inl (i,y)/\0<=i/\V[i.toNat]?=δ x/\x.1=y.2.1:=by
 refine Cb (λ(s:Int×BW)=>s.2=y/\0<=s.1/\s.1<=θ V/\∀i:Nat,i<s.1->∀x,V[i]?=δ x->x.1≠y.2.1) (λs=>((θ V:Int)-s.1).toNat) ⟨rfl,AX _,d!,λi a=>by dsimp only at a;omega⟩ ?_;rintro⟨i,h⟩ ⟨rfl,c,d,e⟩;dsimp only at c d e b;unfold Rm;dsimp[len];apply AC<;>intro g
 ·grind[AA,AI,S7,AW,AQ,An.done,An.next,Option.some.inj]
 grind[List.getElem?_of_mem,Cd]
theorem AEp{L C:List EN}{a:AM}{l:AZ}{p i k:Int}{c:Nat}(h:AR L a)(D_:S9 L l)(H:0<=p/\p<a.2.1)(r:RC a c)(j:c<=12)(G:Hn (a,l,p,i,k)=δ (C,0)):An (N0 (a,l,p,i,k)) λu=>u.2.2.2=0:=by
 unfold N0;dsimp only;rw[G,AD,H!,A!];refine AA (cT D_.vl) λV _=>?_;have⟨f,R,t,_⟩:=rO h.vb H;rw[t,AD,Ca,A!];obtain⟨q,w,v,M,W,rfl,X_,Y_⟩:=y8 h.vb h.ds (WC h.vb) h.dis;rw[w,AD];have Q:(v.filter λe=>e.1.2.2.1==f).length<=12:=by rw[(M.filter _).length_eq];exact C9 (r f) j
 refine AA (P:=λb=>θ b<=12) ?_ λJ m=>?_
 ·refine Cb (λ(s:Int×List Int)=>∃k:Nat,s.1=k/\θ s.2<=((v.take k).filter λe=>e.1.2.2.1==f).length/\k<=θ v) (λs=>θ v-s.1.toNat) ⟨0,rfl,Bo _,Bo _⟩ ?_;rintro⟨_,o⟩ ⟨k,rfl,ok,S⟩;dsimp only at ok;unfold ZP;dsimp[len];have F:(v.map (·.1)).length=θ v:=B7 _;refine AC (λr=>?_) (λr=>An.done (by rw[BK o!]at ok;omega));have d:k<θ v:=o!
  have I:v.take (k+1)=v.take k++[v[k]]:=by grind[List.take_add_one,List.getElem?_eq_getElem]
  have y:ix (v.map (·.1)) (k:Int)=δ v[k].1:=by unfold ix;rw[C! o!,Int.toNat_natCast,List.getElem?_map,List.getElem?_eq_getElem d];rfl
  have z:ix (v.map (·.2)) (k:Int)=δ v[k].2:=by unfold ix;rw[C! o!,Int.toNat_natCast,List.getElem?_map,List.getElem?_eq_getElem d];rfl
  rw[y,AD,z,AW (x:=(k:Int)+1)];have E:((v.take k).filter λe=>e.1.2.2.1==f).length<=((v.take (k+1)).filter λe=>e.1.2.2.1==f).length:=by grind[List.length_append]
  have A_:An (δ (Step.next ((k:Int)+1,o)):Option (Step (Int×List Int) (List Int))) (Ls (λ(s:Int×List Int)=>∃k:Nat,s.1=k/\θ s.2<=((v.take k).filter λe=>e.1.2.2.1==f).length/\k<=θ v) (λs=>θ v-s.1.toNat) (θ v-k) λb=>θ b<=12):=An.next ⟨k+1,rfl,d!,d⟩ d!
  refine AQ (λO=>?_) (λ_=>A_);rw[AD];have T:=FT (λe=>e.1.2.2.1==f) (v.take k);have U:=di k v;have g:An (σ (app o [v[k].2]) λB=>δ (Step.next ((k:Int)+1,B)):Option (Step (Int×List Int) (List Int))) (Ls (λ(s:Int×List Int)=>∃k:Nat,s.1=k/\θ s.2<=((v.take k).filter λe=>e.1.2.2.1==f).length/\k<=θ v) (λs=>θ v-s.1.toNat) (θ v-k) λb=>θ b<=12):=by
   refine AA (Ac w!) λB N=>An.next ⟨k+1,rfl,?_,d⟩ d!
   grind[List.length_append]
  exact AC (λ_=>A_) (λ_=>AC (λ_=>g) (λ_=>AC (λ_=>g) (λ_=>AC (λ_=>g) (λ_=>A_))))
 refine AA (AF1 m) λK n=>?_;rw[ma n,B!];exact AC (λ_=>AB rfl) (λ_=>AB rfl)
def AEK{L:List EN}(h:He L){p:Int}{j k:Nat}(a:BQ (L.take j) p<=k):∃i:Nat,i<=k/\BQ (L.take i) p=BQ (L.take j) p/\st (L.take i) p=st (L.take j) p:=by have b:=Sj h p j;have e:=Vi h (p:=p) (k:=j);exact⟨(BQ (L.take j) p).toNat,o!,e,kh h e⟩
theorem AFZ{n:Int}{L:List EN}{a:AM}{l:AZ}{p:Int}{j k:Nat}(h:LI n L)(b:He L)(g:AR L a)(d:S9 L l)(i:Hn (a,l,p,BQ (L.take j) p,(k:Int))=δ (L.filter (J6 p (BQ (L.take j) p) k),0))(c:j<=k)(o:k<=θ L)(f:0<=p/\p<64):JS (st (L.take j) p,a,l,(k:Int))=δ (st (L.take k) p,0):=by have e:=d.len;have q:=Sj b p j;have m:=XJ (b.take j) p;rw[BJ]at m;unfold JS;dsimp only;rw[ADu g.vb d.vl,AD,H!,A!,ka ((WG b f (by omega:θ L<=1099511627776)) j),AD];dsimp only;rw[H!,A!,J5,Sb,F! o!,A!,i,AD];dsimp only;rw[H!,A!,show BQ (L.take j) p=(((BQ (L.take j) p).toNat:Nat):Int) by omega,w6 b o!,kS b (j:=j) o! (Vi b),AFj (tP b h f o! j k c) (by have:=FT (Yp p) ((L.take k).drop j);rw[EY,BJ]at this;omega),<-gV c];rfl
def AJF{n:Int}{L:List EN}{a:AM}{l:AZ}{p x D_ d:Int}{k c:Nat}(C:LI n L)(g:He L)(f:AR L a)(m:S9 L l)(hr:RC a c)(y:c<=12)(M:k<=θ L)(v:0<=p/\p<a.2.1)(e:p<64)(I:Sn a p x D_)(A_:rN (fT a l x) k d){j:Nat}(w:BQ (L.take j) p<=k):(d<=BQ (L.take j) p/\JS (st (L.take j) p,a,l,(k:Int))=δ (st (L.take k) p,0)/\An (N0 (a,l,p,BQ (L.take j) p,(k:Int))) λu=>u.2.2.2=0)\/(¬d<=BQ (L.take j) p/\An (JS (st (L.take j) p,a,l,(k:Int))) λr=>r.2≠0):=by have t:=m.len;have⟨i,E,s,z⟩:=AEK g w;have G:=Sj g p i;rw[<-s,<-z];rw[<-s]at w;have⟨H,K,B,q,b,_,r⟩:=yy (p:=p) (i:=BQ (L.take i) p) (j:=(k:Int)) (CPa 4096) g! C o! G o! o! f m v;have o:=I.uniq f.vb.1 rfl rfl q;subst o;have h:=A_.uniq (λ_=>Iff.rfl) b;subst h;rcases r with⟨J,F⟩|⟨J,F⟩;refine .inr ⟨o!,?_⟩;unfold JS;dsimp only;rw[ADu f.vb m.vl,AD,H!,A!,ka (WG g ⟨v.1,e⟩ (by omega:θ L<=1099511627776) i),AD];grind[J5,Sb,AK,AB];grind[AFZ,AEp]
def ABO{n d:Int}{L:List EN}{a:AM}{l:AZ}{p:Int}{k m c:Nat}{h:List Ad}(hL:LI n L)(E:He L)(X_:AR L a)(N:S9 L l)(hr:RC a c)(T:c<=12)(hk:k<=θ L)(hm:(m:Int)=a.2.1)(hn:1<=m/\m<=64)(h8:θ h<=8)(hf:∀f∈h,FB JM L d m f)(O:0<=p/\p<a.2.1):∃R Y_ e,Sn a p R Y_/\rN (fT a l R) k e/\An (RD (h,a,l,p,(k:Int))) λr=>(r.2.2=49/\e≠0/\∀x,WM L d m h (θ h) x->pr x p<=k->¬e<=pr x p)\/(r.2.2=0/\r.1=st (L.take k) p/\r.2.1.1=p/\r.2.1.2.2.2.1=k/\(e=0\/∃x,WM L d m h (θ h) x/\pr x p<=k/\e<=pr x p)):=by
 have ar:=N.len;have ao:0<=p/\p<64:=⟨O.1,o!⟩
 have pm:0<=p/\p<m:=⟨O.1,o!⟩
 obtain⟨R,Y_,e,p1,U,_,_⟩:=yy (p:=p) (i:=0) (j:=(k:Int)) (CPa 4096) g! hL o! (AX _) o! o! X_ N O;refine⟨R,Y_,e,p1,U,?_⟩;obtain⟨v,hv,rfl⟩:=HF X_.vb;obtain⟨w,hw,rfl⟩:=Ji N.vl;have pg:=λj (hq:BQ (L.take j) p<=k)=>AJF hL E X_ N hr T hk O ao.2 p1 U (j:=j) hq;obtain⟨V,hV,v8,F⟩:=vQ E o! hn h8 hf;have hP:∀x∈V,PI L d m x:=λx hx=>by obtain⟨i,f,_,_,q⟩:=(F x).1 hx;exact q.2.2.1
 unfold RD;dsimp only;rw[hv,AD,Ca,A!,hw,AD,Ca,A!,F! o!,A!,F! o!,A!,F! o!,A!,hV,AD];refine AA (ACO E o! hn hV v8 hP pm) λb D_=>?_;obtain⟨r8,A_⟩:=D_;refine AA (P:=λ(r:(Int×AT×QK)⊕(AT×QK))=>((∃z,r=.inr z)/\∀y∈b,¬e<=y.1)\/∃y:QK,r=.inl (0,st (L.take k) p,y)/\y.1=p/\y.2.2.2.1=k/\∃x,WM L d m h (θ h) x/\pr x p<=k/\e<=pr x p) ?_ λr af=>?_
 ·refine Cb (λ(s:Int×AT×QK)=>0<=s.1/\s.1<=θ b/\∀y∈b.take s.1.toNat,¬e<=y.1) (λs=>((θ b:Int)-s.1).toNat) ⟨AX _,d!,λy I=>by simp at I⟩ ?_;rintro⟨i,s⟩ ⟨i0,i1,Q⟩;dsimp only at i0 i1 Q;unfold Wr;dsimp only[len];refine AC (λG=>?_) (λG=>An.done (.inl ⟨⟨_,rfl⟩,by rw[BK o!]at Q;exact Q⟩));rw[AW (x:=i+1)];refine AA (AI i0 G) λv5 h5=>?_;obtain⟨x,S,xk,xe⟩:=(A_ v5).1 h5.2;obtain⟨j,hj,x1,x2,ex⟩:=hP x S;have ax:pr x p=BQ (L.take j) p:=by rw[ex];exact ACw pm
  refine AA (AH9 v8 (y:=v5) ⟨x,S,by rw[xe]⟩) λv9 h9=>?_;obtain⟨g,J,rfl,g0,gx,W⟩:=h9;have al:J=x:=WM.uniq E o! hn ((F J).1 (BM gx)) ((F x).1 S) (W.trans (by rw[xe]));subst al;apply BG;have Z:ix V g=δ J:=by unfold ix;rw[C! g0,gx]
  have o:=AEd E (by omega:θ L<=1099511627776) (j:=j) ⟨x1,x2⟩ hn pm;rw[<-ex]at o;rw[Z,AD,o,AD,H!,A!,J5];rcases pg j o! with⟨K,t,M⟩|⟨K,t⟩
  ·rw[t,AD,H!,A!];refine AA M λu hu=>AQ (λ_=>An.done (.inr ⟨_,rfl,rfl,rfl,J,(F J).1 S,xk,o!⟩)) (λC=>N! hu C)
  ·refine AA t λap B=>AK (λ_=>An.next ⟨d!,d!,λy I=>?_⟩ d!) (λhz=>N! hz B);dsimp only at I;rw[show(i+1).toNat=i.toNat+1 by omega,CI,h5.1]at I;rcases Ao.1 I with q|q;exact Q y q;have q:=A7.1 q;rw[q,xe];dsimp only;omega
 rcases af with⟨⟨z,rfl⟩,ad⟩|⟨y,rfl,K,t,M⟩;apply Av;have H:∀x,WM L d m h (θ h) x->pr x p<=k->¬e<=pr x p:=λx hx ag=>ad _ ((A_ _).2 ⟨x,(F x).2 hx,ag,rfl⟩);have l0:BQ (L.take 0) p=0:=rfl;have f0:=U.1;rw[show Fa p=δ (st (L.take 0) p)from rfl,AD,J5];rcases pg 0 (by rw[l0];omega)with⟨K,t,M⟩|⟨K,t⟩;rw[t,AD,H!,A!];exact AA M λu hu=>AQ (λ_=>AB (.inr ⟨rfl,rfl,rfl,rfl,.inl o!⟩)) (λC=>N! hu C);exact AA t λap B=>AK (λ_=>AB (.inl ⟨rfl,o!,H⟩)) (λhz=>N! hz B);exact BG (AB (.inr ⟨rfl,rfl,K,t,.inr M⟩))
end Go.Pm
