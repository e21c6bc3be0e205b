/- Texts of wip, joined and shortened by wip/tools/pack.py; nothing is assumed. -/
import Derived.Test.YtdbincbpjobdpaaGreatK12
noncomputable section
set_option linter.all false
open Option renaming some->δ,none->ε,bind->σ
open Bool renaming true->ζ,false->η
open List renaming length->θ,replicate->ς
open Go.IntKind renaming wrap->ι
open BitVec renaming ofInt->κ,toNat->π
open Sum renaming elim->ν
open Nat renaming beq->ξ
open Int renaming toNat->ο
open Decidable renaming decide->τ
namespace Go.Pm
open Go Go.Ab
set_option maxHeartbeats 400000
def AHU{x:Int×List Int}(h:BD x.1 x.2):As (IN x) λr=>r.2=0/\VB r.1/\r.1.2.1=x.1/\r.1.2.2.2.1=1:=by refine AA mq λl c=>AO (λb=>(by rw[c.2 h]at b;cases b)) (λ_=>?_);have k:=h.2.2.2.1;refine AA (Ad w!) λm e=>AB ⟨rfl,⟨?_,u!,u!,u!,u!,k!,⟨λi f d a=>by simp at a,λi f g d a j=>by simp at a⟩⟩,rfl,rfl⟩;grind
def FR.push{l m:List Aq}{f:Aq}{c:Int}(h:FR l c (θ l))(v:1<=c)(r:f.2.1=c)(u:m=l++[f]):FR m (c+1) (θ m):=by
 subst u;obtain⟨q,t⟩:=h;have p:(l++[f]).length=θ l+1:=k!
 have b:∀(i:Nat)(g:Aq),¬i<θ l->(l++[f])[i]?=δ g->g=f:=λi g j a=>by
  have o:=C1 a;rw[p]at o;have s:i=θ l:=o!
  subst s;rw[Ci (An _)]at a;simp at a;exact a.symm
 refine⟨λi g j a=>?_,λi g k j a n=>?_⟩;by_cases e:i<θ l;rw[CT e]at a;have:=q i g o! a;exact⟨this.1,o!⟩;rw[b i g e a,r];exact o!;rw[p]at j;have e:i<θ l:=o!
 rw[CT e]at a;by_cases d:i+1<θ l;rw[CT d]at n;exact t i g k o! a n;rw[b (i+1) k d n,r];exact(q i g o! a).2
def AFV{x:AI×Aa×Int}(h:SA x.1)(l:VB x.1):As (Ei x) λr=>r.2=0->SA r.1/\VB r.1/\r.1.2.1=x.1.2.1/\(r.1.2.2.2.1=x.1.2.2.2.1\/r.1.2.2.2.1<=x.2.1.2.2+1):=by
 unfold Ei;refine AA J5 λv0 O=>AO (λ_=>AB n!) (λd=>?_);obtain⟨a1,a2,a3,a4,a5,a6,a7,a8,a9⟩:=O d;refine AA Bo λv1 q=>AO (λ_=>AB n!) (λm=>?_);obtain⟨l1,l2,l3,l4,l5,Z⟩:=q.1 m;refine AC (λ_=>AB n!) (λc1=>AC (λ_=>AB n!) (λc2=>?_));generalize S:(if(x.2.1.1>x.1.2.2.2.1)then x.2.1.1 else x.1.2.2.2.1)=F;have f1:x.2.1.1<=F/\x.1.2.2.2.1<=F/\F<=1099511627777:=by rw[<-S];split<;>omega
 have D:=AZ (x:=F+x.2.2);have E:=AZ (x:=F+x.2.2-1);rw[D,E];generalize T:(if(x.2.1.2.2<(F+x.2.2-1))then x.2.1.2.2 else(F+x.2.2-1))=G;have g1:G<=x.2.1.2.2/\G<=F+x.2.2-1:=by rw[<-T];split<;>omega
 refine AC (λ_=>AB λ_=>⟨h,l,rfl,.inl rfl⟩) (λc3=>?_);have H:=AZ (x:=F-x.2.1.1);have I:=AZ (x:=G-x.2.1.1);have J:=AZ (x:=G-x.2.1.1+1);rw[H,I,J];have K:=AZ (x:=len x.1.2.2.1+len x.1.1) i!;have L:=AZ (x:=x.1.2.2.2.2+len x.1.1) i!;have M:=AZ (x:=G+1);rw[K,L,M];have U:G<=1099511627776:=by
  have X:θ x.2.1.2.1≠0:=o!
  obtain⟨i,n⟩:∃i,x.2.1.2.1[θ x.2.1.2.1-1]?=δ i:=⟨_,Ar o!⟩
  have:=Z _ i n;have q:=this.1;have t:=this.2.2.1;omega
 refine AC (λ_=>AB n!) (λB=>AC (λ_=>AB n!) (λC=>?_));simp only[len]at B C;refine AA (Bn) λv2 t=>?_;have W:=t.2;refine AA (Rl ⟨Af _,d!,o!⟩) λv8 R=>BG (λu b=>AB λa=>N! a (R u b)) (λu b=>AA (Ad w!) λad j=>?_);have c:=j.1;rw[B4]at c;refine AA (P:=λr=>(∀u,r=.inl u->u.1≠0)/\∀u,r=.inr u->u.2.1=x.1.1/\θ u.1<=256/\(∀f∈u.1,θ f.2.2<=1099511627776)/\u.2.2.1=x.1.2.1/\u.2.2.2.2.1=x.1.2.2.2.2+θ x.1.1/\FR u.1 u.2.2.2.2.1 (θ u.1)) ?_ λr hr=>BG (λu b=>AB λa=>N! a (hr.1 u b)) (λu b=>AB λ_=>?_);refine AW (λ(s:Int×List Aq×List Int×Int×Int×Int×AI)=>0<=s.1/\s.1<=θ x.1.1/\s.2.2.1=x.1.1/\(θ s.2.1:Int)=θ x.1.2.2.1+s.1/\(∀f∈s.2.1,θ f.2.2<=1099511627776)/\s.2.2.2.1=x.1.2.1/\s.2.2.2.2.2.1=x.1.2.2.2.2+s.1/\FR s.2.1 s.2.2.2.2.2.1 (θ s.2.1)) (λ(s:Int×List Aq×List Int×Int×Int×Int×AI)=>((θ x.1.1:Int)-s.1).toNat) ⟨Af _,d!,rfl,by dsimp only;rw[c];omega,by dsimp only;rw[c];exact h.2.2,rfl,d!,by dsimp only;rw[c];exact l.2.2.2.2.2.2⟩ (λs V=>?_);obtain⟨Y,i2,v,i4,y,z,i7,A⟩:=V;unfold OL;have e:=AZ (x:=s.1+1);rw[e];refine AC (λd=>?_) (λd=>AB ⟨λu b=>(by cases b),λu b=>(by cases b;simp only[len]at d;exact⟨v,o!,y,z,o!,A⟩)⟩);simp only[len]at d;refine AA (T4 a4 ⟨Y,d⟩) λal _=>AA (gZ d!) λao Q=>AL (λd=>AB ⟨λu b=>(by cases b;exact d),λu b=>(by cases b)⟩) (λ_=>AA bB λap k=>AA (Ad w!) λar g=>AB ?_);have p:=g.2.1;simp only[Ba,Bb]at p;have N:=AZ (x:=s.2.2.2.2.2.1+1);rw[N];refine⟨⟨d!,d!,v,d!,λf o=>?_,z,d!,A.push o! rfl g.1⟩,d!⟩;dsimp only at o;rw[g.1]at o;rcases Ak.1 o with w|w;exact y f w;simp at w;rw[w];exact k;obtain⟨q1,q2,q3,q4,q5,q6⟩:=hr.2 u b;refine⟨⟨by dsimp only;rw[q1];exact a4,d!,q3⟩,⟨?_,d!,d!,d!,d!,q2,q6⟩,q4,.inr d!⟩;dsimp only;rw[q1,q4];exact l.1
def FP(l:List Aq)(m:Int):Prop:=(∀f∈l,0<f.2.1/\f.2.1<m)/\l.Pairwise λf g=>f.2.1<g.2.1
def z7{l:List Aq}{m:Int}(h:FP l m):FR l m (θ l):=by refine⟨λi f e a=>h.1 f (BN a),λi f g e a d=>?_⟩;have b:=C1 a;have c:=C1 d;have:=Gm.1 h.2 i (i+1) b c o!;grind
def FR.fp{l:List Aq}{m:Int}(h:FR l m (θ l)):FP l m:=by
 refine⟨λf e=>?_,Gm.2 λi j b c g=>?_⟩;obtain⟨i,b⟩:=FG.1 e;have:=C1 b;exact h.1 i f o! b;obtain⟨d,rfl⟩:∃d,j=i+1+d:=⟨j-(i+1),o!⟩
 induction d with
 |zero=>exact h.2 i _ _ o! (Ar b) (Ar c)
 |succ d k=>
  have a:i+1+d<θ l:=o!
  have n:=k a o!;have o:=h.2 (i+1+d) l[i+1+d] l[i+1+(d+1)] o! (Ar a) (Ar c);omega
def FR.sub{l k:List Aq}{m:Int}(h:FR l m (θ l))(a:k.Sublist l):FR k m (θ k):=z7 ⟨λf b=>h.fp.1 f (a.subset b),h.fp.2.sublist a⟩
def ABz{b:AU}{x:List Aq}{m:Int}(v:FR x m (θ x))(h:CX b)(hx:θ x<=1000000)(j:∀f∈x,θ f.2.2<=1099511627776):As (F3 b x) λr=>CX r.2/\θ r.1<=θ x/\FR r.1 m (θ r.1)/\∀f∈r.1,θ f.2.2<=1099511627777:=by
 unfold F3;refine AP (λ_=>AB ⟨h,k!,⟨λi f s j=>by simp at j,λi f g s j c=>by simp at j⟩,λf j=>by simp at j⟩) (λA=>?_);simp only[len]at A;refine AA (Ag h i!) λd Q=>?_;obtain⟨M,t,N⟩:=Q;simp only[len]at N;have e:=AZ (x:=d.1+1);rw[e];refine AA (Ag M g!) λv1 D=>AP (λ_=>?_) (λ_=>?_);refine AA (Bn (Af _) t) λv2 E=>AA (Bn o! i! i!) λv3 F=>?_;have l2:=E.2;have T:=F.2;simp only[len]at T;refine AA (Ad w!) λv4 G=>?_;have U:=G.2.1;simp only[Bb]at U;refine AA (Ad o!) λY H=>AB ⟨D.1,?_,?_⟩;have l5:=H.2.1;dsimp only;omega;have J:Y.Sublist x:=by
  rw[H.1,G.1,E.1,F.1,B4];have O:x=x.take d.1.toNat++x.drop d.1.toNat:=(Dr _ _).symm;suffices n:((x.drop (0:Int).toNat).take (d.1.toNat-(0:Int).toNat)++(x.drop (d.1+1).toNat).take ((len x).toNat-(d.1+1).toNat)).Sublist (x.take d.1.toNat++x.drop d.1.toNat) by rw[<-O]at n;exact n
  apply List.Sublist.append;simp;apply (List.take_sublist _ _).trans;have P:(d.1+1).toNat=d.1.toNat+1:=o!
  rw[P,<-Nq];exact List.drop_sublist _ _
 exact⟨v.sub J,λf l=>by have:=j f (J.subset l);omega⟩;refine AA (Ad w!) λy R=>?_;have C:=R.1;rw[B4]at C;subst C;refine AA (AJ t) λv7 _=>AA (AJ t) λK z=>AA (WQ D.1 (j _ z.2)) λL I=>AA (AJ t) λX _=>AA (AJ t) λa u=>AB ⟨I.1,by simp[Eo],?_,λf l=>?_⟩;have q:=v.fp;have Z:K=a:=by have:=z.1;rw[u.1]at this;exact(Bg this).symm
 have key:∀(i:Nat)(g:Aq),(Eo y d.1 (a.1,a.2.1,L.1))[i]?=δ g->∃k,y[i]?=δ k/\k.2.1=g.2.1:=λi g c=>by simp only[Eo]at c;rw[TY]at c;split at c;rename_i s;subst s;split at c;exact⟨a,u.1,by rw[<-Bg c]⟩;cases c;exact⟨g,c,rfl⟩
 have el:(Eo y d.1 (a.1,a.2.1,L.1)).length=θ y:=by simp[Eo]
 refine⟨λi g s c=>?_,λi g k s c S=>?_⟩;obtain⟨p,B,W⟩:=key i g c;have:=v.1 i p (by dsimp only at s;omega) B;omega;obtain⟨p,B,W⟩:=key i g c;obtain⟨o,V,o2⟩:=key (i+1) k S;have:=v.2 i p o (by dsimp only at s;omega) B V;omega;simp only[Eo]at l;rcases QV l with w|w;have:=j f w;omega;rw[w];have:=I.2;have:=j K z.2;dsimp only;omega
def ADE(L:List EN)(a:AI)(F G s:Int)(nf:List Aq):Prop:=∀(j:Nat)(f:Aq),nf[j]?=δ f->
 ∃r,f=(1,s+j,My r)/\VR r/\bS L r/\r.1=F/\r.2.1=G/\a.1[j]?=δ r.2.2.1/\r.2.2.2.1=pu a j
def Do.uq{l:Aa}(h:Do l):Uq l.2.1:=λx b y c a=>Xe h.nodup b c a
def ACY{l:Aa}(h:Do l){F G:Int}{v:List EN}(g:l.1<=F)(i:F<=G)(j:G<=l.1+θ l.2.1-1)(b:v=(l.2.1.drop (F-l.1).toNat).take ((G-l.1+1).toNat-(F-l.1).toNat))(e:EN):e∈v↔e∈l.2.1/\F<=e.1/\e.1<=G:=by subst b;have⟨l1,l2,m,n,o,c⟩:=h;rw[FG,FG];constructor;grind;rintro⟨⟨k,a⟩,d,f⟩;have:=(c _ e a).1;refine⟨k-(F-l.1).toNat,?_⟩;rw[bd,C! o!,Km,show(F-l.1).toNat+(k-(F-l.1).toNat)=k by omega,a]
def zh{x:AI×Aa×Int}(h:SA x.1)(hb:VB x.1)(q:Do x.2.1):As (Ei x) λr=>r.2=0→r.1=x.1∨
  ∃F G a,r.1=(x.1.1,x.1.2.1,x.1.2.2.1++a,G+1,x.1.2.2.2.2+θ a)/\(x.1.2.2.2.1<=F/\(x.2.1.1<=x.1.2.2.2.1->F=x.1.2.2.2.1)/\(x.2.1.1<=F/\G<=x.2.1.2.2))/\F<=G/\θ a=θ x.1.1/\ADE x.2.1.2.1 x.1 F G x.1.2.2.2.2 a:=by
 unfold Ei;refine AA J5 λv0 X=>AO (λ_=>AB λb=>N! (show(54:Int)=0 from b) g!) (λi=>?_);have⟨a1,a2,a3,a4,a5,a6,a7,a8,a9⟩:=X i;refine AA Bo λv1 h1=>AO (λ_=>AB λb=>N! (show(26:Int)=0 from b) g!) (λad=>?_);have⟨l1,l2,l3,l4,l5,l6⟩:=id q;refine AC (λ_=>AB λb=>N! (show(1:Int)=0 from b) g!) (λc1=>AC (λ_=>AB λb=>N! (show(1:Int)=0 from b) g!) (λc2=>?_));have o:∃F,(if(x.2.1.1>x.1.2.2.2.1)then x.2.1.1 else x.1.2.2.2.1)=F:=⟨_,rfl⟩
 have⟨F,o⟩:=o;have V:x.2.1.1<=F/\x.1.2.2.2.1<=F/\F<=1099511627777:=q!
 have W:x.2.1.1<=x.1.2.2.2.1->F=x.1.2.2.2.1:=q!
 have C:=AZ (x:=F+x.2.2);have D:=AZ (x:=F+x.2.2-1);have p:∃G,(if(x.2.1.2.2<(F+x.2.2-1))then x.2.1.2.2 else(F+x.2.2-1))=G:=⟨_,rfl⟩
 have⟨G,p⟩:=p;have g1:G<=x.2.1.2.2/\G<=F+x.2.2-1:=q!
 rw[o,C,D,p];refine AC (λ_=>AB λ_=>.inl rfl) (λc3=>?_);have Q:=AZ (x:=F-x.2.1.1);have R:=AZ (x:=G-x.2.1.1);have S:=AZ (x:=G-x.2.1.1+1);rw[Q,R,S];have T:=AZ (x:=len x.1.2.2.1+len x.1.1) (by simp[len];omega);have U:=AZ (x:=x.1.2.2.2.2+len x.1.1) (by simp[len];omega);rw[T,U,(AZ (x:=G+1))];refine AC (λ_=>AB λb=>N! (show(21:Int)=0 from b) g!) (λN=>AC (λ_=>AB λb=>N! (show(21:Int)=0 from b) g!) (λO=>?_));simp[len]at N O;refine AA (Bn) λv2 E=>?_;have al:=E.2;have l:=ACY q (F:=F) (G:=G) V.1 o! o! E.1;refine AA (Rl ⟨Af _,d!,o!⟩) λv8 Z=>BG (λu c=>AB λb=>N! b (Z u c)) (λu c=>AA (Ad w!) λao t=>?_);have g:=t.1;rw[B4]at g;subst g;refine AA (P:=λr=>(∀u,r=.inl u->u.1≠0)/\∀u,r=.inr u->∃(a:List Aq),(u.1,u.2.1,u.2.2.1,u.2.2.2.1,u.2.2.2.2.1)=(x.1.2.2.1++a,x.1.1,x.1.2.1,x.1.2.2.2.1,x.1.2.2.2.2+θ a)/\θ a=θ x.1.1/\ADE x.2.1.2.1 x.1 F G x.1.2.2.2.2 a) ?_ λr hr=>BG (λu c=>AB λb=>N! b (hr.1 u c)) (λu c=>AB λ_=>.inr ?_)
 ·refine Cp (λ(s:Int×List Aq×List Int×Int×Int×Int×AI)=>∃(k:Nat)(a:List Aq)(z:AI),s=((k:Int),x.1.2.2.1++a,x.1.1,x.1.2.1,x.1.2.2.2.1,x.1.2.2.2.2+(k:Int),z)/\k<=θ x.1.1/\θ a=k/\ADE x.2.1.2.1 x.1 F G x.1.2.2.2.2 a) (λs=>θ x.1.1-s.1.toNat)
   ⟨0,[],u,k!,Bc _,rfl,λj f d=>by simp at d⟩ ?_
  rintro s ⟨k,a,z,rfl,i2,A,I⟩;unfold OL;dsimp only;simp only[len];rw[o,C,D,p];refine AC (λi=>?_) (λi=>As.done ⟨λu c=>(by cases c),λu c=>(by cases c;exact⟨a,by dsimp only;rw[A],o!,I⟩)⟩);have H:x.1.1[k]?=δ (x.1.1[k]' o!):=Ar o!;rw[nZ hb.1 H,AD];refine AA (AHT q.uq (λe he=>((l e).1 he).1) o!) λn v=>AL (λi=>As.done ⟨λu c=>(by cases c;exact i),λu c=>(by cases c)⟩) (λb=>?_);have⟨B,es,m,m3⟩:=v b;rw[qT B,AD];refine AA (Ad w!) λap Y=>?_;rw[AZ (x:=x.1.2.2.2.2+(k:Int)+1),AZ (x:=(k:Int)+1)];refine As.next ⟨k+1,a++[(1,x.1.2.2.2.2+(k:Int),My n.1)],z,?_,o!,by rw[AY,A];rfl,λj f d=>?_⟩ d!
  grind;by_cases hj:j<θ a;rw[CT hj]at d;exact I j f d;have y:=C1 d;rw[AY,Ba,Bb]at y;have w:j=k:=o!
  subst w;rw[Ci o!,A,Gp]at d;cases d;refine⟨n.1,rfl,B,B.runOf q.uq λe=>?_,by rw[m],by rw[m],by rw[m];exact H,by rw[m]⟩;rw[m];dsimp only;rw[m3,l];constructor;grind;rintro⟨q1,q2,q3,q4,q5,q6⟩;exact⟨⟨q1,q5,q6⟩,q2,q3,q4,q5,q6⟩
 have⟨a,q1,q2,q3⟩:=hr.2 u c;refine⟨F,G,a,?_,⟨o!,W,o!⟩,o!,q2,q3⟩;have J:=E! (·.1) q1;have K:=E! (·.2.1) q1;have L:=E! (·.2.2.1) q1;have M:=E! (·.2.2.2.2) q1;dsimp only at J K L M;dsimp only;rw[J,K,L,M]
def Kq.congr{a b:AI}(e:b.1=a.1)(f:b.2.1=a.2.1){d c:Int}:Kq a d c↔Kq b d c:=by grind[Kq,pu]
def Good.congr{a b:AI}(c:b.1=a.1)(d:b.2.1=a.2.1){f:Aq}{r:AQ}(h:Good a f r):Good b f r:=⟨h.1,h.2.1,h.2.2.1,(Kq.congr c d).1 h.2.2.2⟩
def Good.run{a:AI}{f:Aq}{r s:AQ}(h:Good a f r)(g:Good a f s):r=s:=tP h.2.2.1 g.2.2.1 (h.2.1.symm.trans g.2.1)
def AR.step{L:List EN}{a b:AI}{F G:Int}{s:List Aq}(h:AR L a)(e:b=(a.1,a.2.1,a.2.2.1++s,G+1,a.2.2.2.2+θ s))(hF:a.2.2.2.1<=F)(hG:F<=G)(hn:ADE L a F G a.2.2.2.2 s)(D:VB b):AR L b/\(AG a->AG b)/\∀c,RC a c->RC b (c+1):=by
 have P:b.1=a.1:=by rw[e]
 have Q:b.2.1=a.2.1:=by rw[e]
 have Y:b.2.2.1=a.2.2.1++s:=by rw[e]
 have h4:b.2.2.2.1=G+1:=by rw[e]
 have q:∀f∈s,∃(j:Nat)(r:AQ),Good b f r/\bS L r/\r.1=F/\r.2.1=G/\a.1[j]?=δ r.2.2.1/\s[j]?=δ f:=λf k=>by have⟨j,hj⟩:=FG.1 k;have⟨r,l,M,w,r4,W,S,r7⟩:=hn j f hj;refine⟨j,r,⟨by rw[l],by rw[l],M,(Kq.congr P Q).1 ⟨j,S,r7⟩⟩,w,r4,W,S,hj⟩
 have K:∀f∈a.2.2.1,Bad f\/∃r,Good b f r/\bS L r/\r.2.1<a.2.2.2.1:=λf k=>(h.files f k).imp id λ⟨r,l,M,w⟩=>⟨r,l.congr P Q,M,w⟩
 have d:∀x∈DZ b,(x∈DZ a/\x.1.2.1<a.2.2.2.1)\/∃(j:Nat)(f:Aq),s[j]?=δ f/\Good b f x.1/\x.2=f.2.1/\x.1.1=F/\a.1[j]?=δ x.1.2.2.1:=λx m=>by unfold DZ at m;rw[Y]at m;have⟨f,k,z⟩:=Oi.1 m;rcases Ak.1 k with k|k;rcases K f k with E|⟨r,l,M,w⟩;rw[E.intR D.1]at z;cases z;rw[l.intR D.1]at z;cases z;exact .inl ⟨Po h.vb.1 k (l.congr P.symm Q.symm),w⟩;have⟨j,r,l,M,w,r4,W,S⟩:=q f k;rw[l.intR D.1]at z;cases z;exact .inr ⟨j,f,S,l,rfl,w,W⟩
 refine⟨⟨D,λf k=>?_,λx m y R J p=>?_⟩,λU f k=>?_,λc Z v=>?_⟩;grind;rcases d x m with⟨n,A⟩|⟨i,f,n,A,N,x4,B⟩;rcases d y R with⟨o,C⟩|⟨j,g,o,C,T,y4,O⟩;exact h.dis x n y o J p;grind;rcases d y R with⟨o,C⟩|⟨j,g,o,C,T,y4,O⟩;exact .inr o!;rw[<-p]at O;have t:=h.vb.1.inj B O;subst t;rw[n]at o;cases o;exact N! (Ck (A.run C) (N.trans T.symm)) J;rw[Y]at k;rcases Ak.1 k with k|k;have⟨r,hr⟩:=U f k;exact⟨r,hr.congr P Q⟩;have⟨j,r,l,_⟩:=q f k;exact⟨r,l⟩;have I:=(Kl D).filter λe=>e.1.2.2.1==v;by_cases H:∃y∈(DZ b).filter (λe=>e.1.2.2.1==v),∃(j:Nat)(f:Aq),s[j]?=δ f/\Good b f y.1/\y.2=f.2.1/\a.1[j]?=δ y.1.2.2.1;have⟨y,R,j,g,o,C,T,O⟩:=H;have V:y.1.2.2.1=v:=eq_of_beq (BU.1 R).2;have:=iC _ (y::(DZ a).filter λe=>e.1.2.2.1==v) I λx m=>by have⟨X,u⟩:=BU.1 m;rcases d x X with⟨n,_⟩|⟨i,f,n,A,N,x4,B⟩;grind;rw[eq_of_beq u,<-V]at B;have t:=h.vb.1.inj B O;subst t;rw[n]at o;cases o;exact Aw.2 (.inl (Ck (A.run C) (N.trans T.symm)))
 rw[Ba]at this;have:=Z v;omega;have:=iC _ ((DZ a).filter λe=>e.1.2.2.1==v) I λx m=>by have⟨X,u⟩:=BU.1 m;rcases d x X with⟨n,_⟩|⟨i,f,n,A,N,x4,B⟩;exact BU.2 ⟨n,u⟩;exact N! ⟨x,m,i,f,n,A,N,B⟩ H
 have:=Z v;omega
def AHQ(a:AI)(lo n:Int):Prop:=∃e∈DZ a,e.1.2.2.1=lo/\e.1.1<=n/\n<=e.1.2.1
def AF(a:AI):Prop:=∀lo∈a.1,∀n:Int,1<=n->n<a.2.2.2.1->AHQ a lo n
def AF.step{L:List EN}{a b:AI}{F G:Int}{c:List Aq}(w:AF a)(h:AR L a)(e:b=(a.1,a.2.1,a.2.2.1++c,G+1,a.2.2.2.2+θ c))(H:F=a.2.2.2.1)(z:θ c=θ a.1)(hn:ADE L a F G a.2.2.2.2 c)(s:VB b):AF b:=by
 have k:b.1=a.1:=by rw[e]
 have p:b.2.1=a.2.1:=by rw[e]
 have q:b.2.2.1=a.2.2.1++c:=by rw[e]
 have E:b.2.2.2.1=G+1:=by rw[e]
 intro A d n B I;rw[k]at d;rcases ku n a.2.2.2.1 with g|g;obtain⟨r,hr,i,m,u⟩:=w A d n B g;have⟨f,l,v,D,_⟩:=h.mem hr;exact⟨(r.1,f.2.1),Po s.1 (by rw[q];exact HS _ l) (v.congr k p),i,m,u⟩;have⟨j,t⟩:=FG.1 d;have y:=C1 t;have l:c[j]?=δ (c[j]' o!):=Ar o!;have⟨r,i,m,u,J,K,o,C⟩:=hn j _ l;have x:Good b (c[j]' o!) r:=⟨by rw[i],by rw[i],m,(Kq.congr k p).1 ⟨j,o,C⟩⟩
 refine⟨(r,(c[j]' o!).2.1),Po s.1 (by rw[q];exact Oh _ (Jl _)) x,?_,d!⟩;rw[t]at o;exact(Bg o).symm
def SF(a:AI)(m:Int):Prop:=a.2.2.2.2+θ a.2.2.1<=m
def AFU{x:AI×Aa×Int}{m:Int}(h:AR x.2.1.2.1 x.1)(f:Do x.2.1)(t:SF x.1 m):As (Ei x) λr=>r.2=0->AR x.2.1.2.1 r.1/\(AG x.1->AG r.1)/\(∀c,RC x.1 c->RC r.1 (c+1))/\SF r.1 (m+32)/\r.1.2.1=x.1.2.1/\(r.1.2.2.2.1=x.1.2.2.2.1\/r.1.2.2.2.1<=x.2.1.2.2+1)/\(Hs x.2.1.2.1->AF x.1->AF r.1):=by
 refine((AFV h.sa h.vb).and (zh h.sa h.vb f)).mono λr hr k=>?_;have⟨q1,q2,q3,q4⟩:=hr.1 k;rcases hr.2 k with e|⟨F,G,u,g,i,l,n,j⟩;rw[e];exact⟨h,id,λc q s=>Nat.le_succ_of_le (q s),by unfold SF at*;omega,rfl,.inl rfl,λ_=>id⟩
 ·have a:=h.step g i.1 l j q2;have b:0<θ x.2.1.2.1:=by have:=f.2.2.2.2.1;omega
  have d:Hs x.2.1.2.1->AF x.1->AF r.1:=λo p=>p.step h g (i.2.1 (by have v:=(o 0 _ (Ar b)).1;have w:=(f.2.2.2.2.2 0 _ (Ar b)).1;have:=h.vb.2.1;omega)) n j q2;have:=h.sa.1;refine⟨a.1,a.2.1,a.2.2,?_,?_,?_,d⟩;all_goals unfold SF at*;grind
def AGz{c d:Type}(l:List c)(m:List d)(n:Nat):l.zip m=(l.take n).zip (m.take n)++(l.drop n).zip (m.drop n):=by
 induction n generalizing l m with
 |zero=>simp
 |succ n e=>
  cases l with
  |nil=>simp
  |cons a l=>
   cases m with
   |nil=>simp
   |cons b m=>grind[List.zip_cons_cons]
theorem AIe{c d:Type}{l:List c}{m:List d}{k:Nat}{a:c}{b:d}(e:l[k]?=δ a)(f:m[k]?=δ b):(a,b)∈l.zip m:=by refine FG.2 ⟨k,?_⟩;grind[List.getElem?_zip_eq_some]
def ADN{x:AI}{L:List EN}{U:Int×List AQ×List Int×List Bool}(h:AR L x)(b:0<=U.1):As (Ai (Em x U) ([],[],0)) λr=>θ r.2=θ r.1/\∀p∈r.1.zip r.2,p∈DZ x:=by
 obtain⟨⟨b1,b2,b3,b4,b5,b6,b7⟩,a1,a2,a3,a4,a5,a6⟩:=h.vb;refine Cp (λ(s:List AQ×List Int×Int)=>0<=s.2.2/\s.2.2<=θ x.2.2.1/\θ s.2.1=θ s.1/\θ s.1<=s.2.2/\∀p∈s.1.zip s.2.1,p∈DZ x) (λ(s:List AQ×List Int×Int)=>((θ x.2.2.1:Int)-s.2.2).toNat) ⟨Af _,d!,rfl,k!,λp b=>by simp at b⟩ (λs X=>?_);obtain⟨S,i2,T,i4,u⟩:=X;unfold Em;have e:=AZ (x:=s.2.2+1);rw[e];refine AC (λE=>?_) (λ_=>As.done ⟨T,u⟩);simp only[len]at E;refine AA (AJ S E) λv D=>?_;have q:∃w,DH (x,v)=δ w/\(w.2= -1\/Good x v w.1):=by rcases h.files v D.2 with Y|⟨r,R,_⟩;obtain⟨r,hr⟩:=Y.ref (a:=x);exact⟨_,hr,.inl rfl⟩;obtain⟨k,hk,ad⟩:=R.ref h.vb.1;exact⟨_,hk,.inr R⟩
 obtain⟨w,F,t⟩:=q;rw[F,AD];refine AL (λ_=>As.next ⟨d!,d!,T,d!,u⟩ d!) (λZ=>?_);have c:Good x v w.1:=t.elim (λhz=>N! hz o!) id;refine AA (Qw ⟨i!,i!,o!⟩) λy o=>AA (Bn (Af _) o.1 o.2) λv8 P=>AA (Bn o.1 i! i!) λv9 Q=>?_;have l8:=P.2;have l9:=Q.2;simp only[len]at l9;refine AA (Ad w!) λar d=>?_;have G:=d.2.1;simp only[Bb]at G;refine AA (Ad w!) λax f=>?_;have H:=f.2.1;simp only[Bb,Ba]at H;refine AA (Ad o!) λa0 g=>?_;have al:=g.2.1;refine AA (Bn (Af _) o.1) λM i=>?_;have ao:=i.2;refine AA (AJ S E) λN C=>AA (Bn o.1 i! i!) λO j=>?_;have I:=j.2;simp only[len]at I;refine AA (Ad w!) λa7 l=>?_;have J:=l.2.1;simp only[Bb]at J;refine AA (Ad w!) λa8 m=>?_;have K:=m.2.1;simp[Bb,Ba]at K;refine AA (Ad o!) λa9 n=>?_;have ap:=n.2.1;have A:N=v:=by have:=C.1;rw[D.1]at this;exact(Bg this).symm
 have V:v8=s.1.take y.toNat:=by rw[P.1];simp
 have W:v9=s.1.drop y.toNat:=by rw[Q.1];exact BP (by rw[C5];simp only[len];omega)
 have z:M=s.2.1.take y.toNat:=by rw[i.1];simp
 have B:O=s.2.1.drop y.toNat:=by rw[j.1];exact BP (by rw[C5];simp only[len];omega)
 refine As.next ⟨d!,d!,d!,d!,λp b=>?_⟩ d!
 dsimp only at b;rw[g.1,f.1,d.1,n.1,m.1,l.1,V,W,z,B,B4,B4]at b;rw[eM (by simp[AY,BR,Ba,Bb];omega),eM (by simp[BR];omega)]at b;rw[AGz s.1 s.2.1 y.toNat]at u;rcases Ak.1 b with b|b;rcases Ak.1 b with b|b;exact u p (Ak.2 (.inl b));rw[List.zip_cons_cons,List.zip_nil_left,BA]at b;rw[b,A];exact Po h.vb.1 D.2 c;exact u p (Ak.2 (.inr b))
def Wh(x:AI)(t:List AQ×List Int×List Bool):Prop:=∀p∈(t.1.zip t.2.1).zip t.2.2,p.2=ζ->p.1∈DZ x
def ADO{x:AI}{a:List AQ×List Int}{n:Int}{t:List AQ×List Int×List Bool}(h:θ a.2=θ a.1/\θ a.1<=256/\RL a.1)(hn:n<=100000)(m:T3 n t)(R:∀p∈a.1.zip a.2,p∈DZ x)(G:Wh x t):As (Ai (En a) (0,0,t)) λr=>Wh x r:=by
 refine Cp (λ(s:Int×Int×List AQ×List Int×List Bool)=>0<=s.2.1/\s.2.1<=θ a.1/\T3 (n+s.2.1) s.2.2/\Wh x s.2.2) (λ(s:Int×Int×List AQ×List Int×List Bool)=>((θ a.1:Int)-s.2.1).toNat) ⟨Af _,d!,by simpa using m,G⟩ (λs F=>?_);have⟨g,S,⟨z,H,T,A⟩,o⟩:=F;have⟨P,Q,E⟩:=h;unfold En;rw[(AZ (x:=s.2.1+1))];refine AC (λf=>?_) (λ_=>As.done o);simp[len]at f;refine AA (AJ g f) λI _=>AC (λ_=>As.next ⟨d!,d!,⟨z,H,d!,A⟩,o⟩ d!) (λ_=>AA (AJ g f) λy k=>AA (AJ g) λJ C=>AA (AJ g f) λi D=>?_);have j:i=y:=by grind[Option.some.inj]
 subst j;refine D6 (Rm (E i k.2)) λK B l=>AA (Ad w!) λL b=>?_;have q:=b.2.1;simp[Bb,Ba]at q;refine AA (Ad w!) λM d=>?_;have u:=d.2.1;simp[Bb,Ba]at u;refine AA (Ad w!) λN e=>?_;have v:=e.2.1;simp[Bb,Ba]at v;refine AA (AJ g f) λO _=>As.next ⟨d!,d!,⟨d!,d!,d!,λr hr=>?_⟩,λp c m=>?_⟩ d!
 dsimp only at hr;rw[b.1]at hr;rcases Ak.1 hr with w|w;exact A r w;simp at w;rw[w];exact l;dsimp only at c;rw[b.1,d.1,e.1,eM z.symm,eM (by rw[List.length_zip];omega)]at c;rcases Ak.1 c with c|c;exact o p c m;grind[List.zip_cons_cons,List.zip_nil_left,List.mem_singleton,FT,AIe]
def ADM{x:AI}{L:List EN}(h:AR L x):As (F6 x) λr=>T3 4096 r/\Wh x r:=by unfold F6;refine AA J5 λo i=>AO (λ_=>AB ⟨⟨rfl,rfl,k!,λr hr=>by simp at hr⟩,λp d=>by simp at d⟩) (λc=>?_);have e:=i c;have a4:=e.2.2.2.1;refine AA (P:=λr=>T3 4096 r/\Wh x r) ?_ λr hr=>AB hr;refine Cp (λ(s:Int×List AQ×List Int×List Bool)=>0<=s.1/\s.1<=θ x.1/\T3 (256*s.1) s.2/\Wh x s.2) (λ(s:Int×List AQ×List Int×List Bool)=>((θ x.1:Int)-s.1).toNat) ⟨Af _,d!,⟨rfl,rfl,k!,λr hr=>by simp at hr⟩,λp d=>by simp at d⟩ (λs k=>?_);have⟨f,n,b,g⟩:=k;unfold NQ;rw[(AZ (x:=s.1+1))];refine AC (λc=>?_) (λ_=>As.done ⟨⟨b.1,b.2.1,by have:=b.2.2.1;omega,b.2.2.2⟩,g⟩);simp[len]at c;refine AA ((Yj e h.sa f).and (ADN h f)) λl a=>AA ((Yk a.1 o! b).and (ADO a.1 o! b a.2.2 g)) λm j=>?_;grind[As.next]
def ACS{L:List EN}{x:List AQ×List Bool}{k:Nat}{z t:AQ}{F T lo hi lv:Int}{b:List EN}(i:Uq L)(m:x.1[k]?=δ t)(f:∀e∈t.2.2.2.2.2,e∈L)(n:θ t.2.2.2.2.2≤4096)(l:∀e∈b,e∈L)(q:θ b≤1000000){o:AQ}:
  As (Ai (HE x ((k:Int),o,z)) (0,F,T,lo,hi,lv,b)) λr=>∃a:List EN,r=(F,T,lo,hi,lv,a)/\θ a<=θ b+4096/\∀y,y∈a↔y∈b\/y∈t.2.2.2.2.2:=by
 refine Cp (λ(s:Int×AQ)=>∃(j:Nat)(a:List EN),s=((j:Int),F,T,lo,hi,lv,a)/\j<=θ t.2.2.2.2.2/\θ a<=θ b+j/\∀y,y∈a↔y∈b\/y∈t.2.2.2.2.2.take j) (λs=>θ t.2.2.2.2.2-s.1.toNat)
  ⟨0,b,rfl,Bc _,o!,λy=>k!⟩ ?_
 rintro s ⟨j,a,rfl,A,B,p⟩;unfold HE;rw[(by unfold ix;rw[C! o!,Int.toNat_natCast,m]:ix x.1 (k:Int)=δ t),Option.bind_some];simp only[len];refine AC (λd=>?_) (λd=>As.done ⟨a,rfl,o!,q!⟩);rw[AD];refine AA (AJ o! d) λv g=>?_;have c:=g.1;rw[Cz]at c;refine AA (nW i (λe h=>((p e).1 h).elim (l e) λh=>f e (GH h)) (f v g.2) o!) λw u=>?_;rw[AZ];refine As.next ⟨j+1,w.1,q!,o!,o!,λy=>?_⟩ o!
 grind[List.take_add_one,Option.toList_some,List.mem_singleton]
def vD(x:List AQ×List Bool)(lo hi:Int)(k:Nat):Prop:=x.2[k]?=δ ζ/\∃r,x.1[k]?=δ r/\r.2.2.1=lo/\r.2.2.2.1=hi/\(0<k->∀p,x.1[k-1]?=δ p->r.1=p.2.1+1)
def AF8{L:List EN}{x:List AQ×List Bool}{a l:AQ}(hL:Uq L)(h:∀(k:Nat)(r:AQ),x.1[k]?=δ r→x.2[k]?=δ ζ→VR r∧ ∀e∈r.2.2.2.2.2,e∈L)(h1:1≤θ x.1∧θ x.1≤8)(h2:θ x.2=θ x.1)(V:x.1[0]?=δ a)(W:x.1[θ x.1-1]?=δ l):
  As (Ls x) λr=>r.2=ζ->VR r.1/\∃(d:Int)(b:List EN),r.1=(a.1,l.2.1,a.2.2.1,a.2.2.2.1,d,b)/\(∀k,k<θ x.1->vD x a.2.2.1 a.2.2.2.1 k)/\∀y,y∈b↔∃(k:Nat)(r:AQ),x.1[k]?=δ r/\y∈r.2.2.2.2.2:=by
 have G:ix x.1 0=δ a:=by unfold ix;rw[C! o!];exact V
 have R:ix x.1 (wi (len x.1-1))=δ l:=by rw[AZ (x:=len x.1-1) (by simp[len];omega)];unfold ix;simp only[len];rw[C! o!,show((θ x.1:Int)-1).toNat=θ x.1-1 by omega,W]
 unfold Ls;rw[G,R,AD,AD,AD,AD,AD];generalize wi (a.2.2.2.2.1+1)=d;refine AA (P:=λr=>(∃u,r=.inl u/\u.1=η)\/∃z b,r=.inr ((a.1,l.2.1,a.2.2.1,a.2.2.2.1,d,b),z)/\(∀k,k<θ x.1->vD x a.2.2.1 a.2.2.2.1 k)/\∀y,y∈b↔∃(k:Nat)(r:AQ),x.1[k]?=δ r/\y∈r.2.2.2.2.2) ?_ λr hr=>?_
 ·refine Cp (λ(s:Int×AQ×AQ)=>∃(k:Nat)(z:AQ)(b:List EN),s=((k:Int),(a.1,l.2.1,a.2.2.1,a.2.2.2.1,d,b),z)/\k<=θ x.1/\θ b<=4096*k/\(∀j,j<k->vD x a.2.2.1 a.2.2.2.1 j)/\∀y,y∈b↔∃(j:Nat)(r:AQ),j<k/\x.1[j]?=δ r/\y∈r.2.2.2.2.2) (λs=>θ x.1-s.1.toNat)
   ⟨0,_,[],rfl,Bc _,Bc _,λj H=>N! H o!,λy=>⟨λhy=>by simp at hy,λ⟨j,r,H,_⟩=>N! H o!⟩⟩ ?_
  rintro s ⟨k,z,b,rfl,i2,i3,X,Y⟩;unfold Sj;dsimp only;simp only[len];refine AC (λhc=>?_) (λhc=>As.done (.inr ⟨z,b,rfl,λj H=>X j o!,λy=>?_⟩))
  ·have hk:k<θ x.1:=o!
   have c:x.1[k]?=δ x.1[k]:=Ar hk;generalize x.1[k]=t at c;have i:x.2[k]?=δ (x.2[k]' o!):=Ar o!;generalize x.2[k]' o!=bb at i;have U:ix x.1 (k:Int)=δ t:=by unfold ix;rw[C! o!,Int.toNat_natCast,c]
   have Q:ix x.2 (k:Int)=δ bb:=by unfold ix;rw[C! o!,Int.toNat_natCast,i]
   rw[Q,AD];refine AO (λ_=>As.done (.inl ⟨_,rfl,rfl⟩)) (λO=>?_);rw[O]at i;have⟨tv,tm⟩:=h k t c i;rw[U,AD,G,AD];refine AL (λ_=>As.done (.inl ⟨_,rfl,rfl⟩)) (λq1=>?_);rw[AD,AD];refine AL (λ_=>As.done (.inl ⟨_,rfl,rfl⟩)) (λq2=>?_);rw[AD,AD];refine AL (λ_=>As.done (.inl ⟨_,rfl,rfl⟩)) (λq3=>?_);have E:∀e∈b,e∈L:=λe he=>by have⟨j,r,B,m,v⟩:=(Y e).1 he;exact(h j r m (X j B).1).2 e v
   have J:=ACS (x:=x) (k:=k) (z:=z) (o:=(a.1,l.2.1,a.2.2.1,a.2.2.2.1,d,b)) (F:=a.1) (T:=l.2.1) (lo:=a.2.2.1) (hi:=a.2.2.2.1) (lv:=d) hL c tm tv.1.2.2.2.2.2.2.2.2 E o!
   have D:vD x a.2.2.1 a.2.2.2.1 k→ ∀f:List EN,θ f≤θ b+4096→(∀y,y∈f↔y∈b∨y∈t.2.2.2.2.2)→
     As (δ (Step.next (wi ((k:Int)+1),(a.1,l.2.1,a.2.2.1,a.2.2.2.1,d,f),z)):Option (Step (Int×AQ×AQ) ((Bool×AQ)⊕(AQ×AQ)))) (Nn (λ(s:Int×AQ×AQ)=>∃(k:Nat)(z:AQ)(b:List EN),s=((k:Int),(a.1,l.2.1,a.2.2.1,a.2.2.2.1,d,b),z)/\k<=θ x.1/\θ b<=4096*k/\(∀j,j<k->vD x a.2.2.1 a.2.2.2.1 j)/\∀y,y∈b↔∃(j:Nat)(r:AQ),j<k/\x.1[j]?=δ r/\y∈r.2.2.2.2.2) (λs=>θ x.1-s.1.toNat) (θ x.1-((k:Nat):Int).toNat)
      λr=>(∃u,r=.inl u/\u.1=η)\/∃z b,r=.inr ((a.1,l.2.1,a.2.2.1,a.2.2.2.1,d,b),z)/\(∀k,k<θ x.1->vD x a.2.2.1 a.2.2.2.1 k)/\∀y,y∈b↔∃(k:Nat)(r:AQ),x.1[k]?=δ r/\y∈r.2.2.2.2.2):=λhm f M C=>by
    rw[AZ];refine As.next ⟨k+1,z,f,by rw[show(k:Int)+1=((k+1:Nat):Int) by omega],o!,o!,λj H=>?_,λy=>?_⟩ d!
    grind;rw[C,Y];constructor;rintro(⟨j,r,B,m,v⟩|g);exact⟨j,r,o!,m,v⟩;exact⟨k,t,o!,c,g⟩;rintro⟨j,r,B,m,v⟩;by_cases ao:j=k<;>grind
   apply AC<;>intro al
   ·have hp:k-1<θ x.1:=o!
    have q:x.1[k-1]?=δ x.1[k-1]:=Ar hp;generalize x.1[k-1]=p at q;have S:ix x.1 (wi ((k:Int)-1))=δ p:=by rw[AZ];unfold ix;rw[C! o!,show((k:Int)-1).toNat=k-1 by omega,q]
    rw[AD,S,AD];have A:=(h (k-1) p q (X (k-1) o!).1).1.1;have ad:=A.2.2.1;have ap:=A.1;have ar:=A.2.1;rw[AZ (x:=p.2.1+1)];refine AL (λ_=>As.done (.inl ⟨_,rfl,rfl⟩)) (λq4=>AA J λZ w=>?_);obtain⟨f,rfl,M,C⟩:=w;refine D ⟨i,t,c,q1,q2,λ_ p' n=>?_⟩ f M C;rw[q]at n;injection n with n;rw[<-n];exact q4
   have K:As (Ai (HE x ((k:Int),(a.1,l.2.1,a.2.2.1,a.2.2.2.1,d,b),z)) (0,a.1,l.2.1,a.2.2.1,a.2.2.2.1,d,b)) λr=>∃f:List EN,r=(a.1,l.2.1,a.2.2.1,a.2.2.2.1,d,f)/\θ f<=θ b+4096/\∀y,y∈f↔y∈b\/y∈t.2.2.2.2.2:=J;refine AA K λZ w=>?_;obtain⟨f,rfl,M,C⟩:=w;exact D ⟨i,t,c,q1,q2,λh0=>N! h0 o!⟩ f M C
  rw[Y];constructor;rintro⟨j,r,B,m,v⟩;exact⟨j,r,m,v⟩;rintro⟨j,r,m,v⟩;exact⟨j,r,by have:=C1 m;omega,m,v⟩
 rcases hr with⟨u,rfl,hu⟩|⟨z,b,rfl,B,m⟩;exact BK (AB λI=>by dsimp only at I;rw[hu]at I;cases I);refine A4 (AA Xj λax N=>AB λI=>⟨N.1 I,d,b,rfl,B,m⟩)
def iG(a b:AI):Prop:=∀lo n,AHQ a lo n↔AHQ b lo n
def wO{a:AI}(h:VB a){x y:NE}(c:x∈DZ a)(d:y∈DZ a)(b:x.2=y.2):x=y:=by grind[lW,List.pairwise_iff_getElem,List.mem_iff_getElem]
structure Grp(M:List NE)(lo hi:Int):Prop where
 same:∀(k:Nat)(e:NE),M[k]?=δ e->e.1.2.2.1=lo/\e.1.2.2.2.1=hi/\e.1.1<=e.1.2.1
 next:∀(k:Nat)(e f:NE),M[k]?=δ e->M[k+1]?=δ f->f.1.1=e.1.2.1+1
def Grp.cover{M:List NE}{m l:Int}(h:Grp M m l){c:NE}(d:M[0]?=δ c):∀(k:Nat)(b:NE),M[k]?=δ b->c.1.1<=b.1.1/\∀n:Int,c.1.1<=n->n<=b.1.2.1->∃j e,j<=k/\M[j]?=δ e/\e.1.1<=n/\n<=e.1.2.1
 |0,b,a=>by rw[d]at a;injection a with a;subst a;exact⟨Af _,λn g i=>⟨0,c,An _,d,g,i⟩⟩
 |k+1,b,a=>by
  have o:=C1 a;have f:M[k]?=δ (M[k]' o!):=Ar o!;have q:=Grp.cover h d k _ f;have hn:=h.next k _ _ f a
  have p:=(h.same k _ f).2.2;grind
def Grp.le{M:List NE}{g c:Int}(h:Grp M g c){k:Nat}{a:NE}(f:M[k]?=δ a):∀(d:Nat)(e:NE),M[k+d]?=δ e->a.1.2.1<=e.1.2.1
 |0,e,he=>q!
 |d+1,e,he=>by
  have i:=C1 he;have b:M[k+d]?=δ (M[k+d]' o!):=Ar o!;have l:=Grp.le h f d _ b;have hn:=h.next (k+d) _ _ b he
  have j:=(h.same _ _ he).2.2;omega
def ABq{c:Type}{l:List c}{a b:c}(d:a∈l)(e:b∈l)(h:a≠b):2<=θ l:=by cases l<;>grind
def nK{b:Type}(p:b->Bool):∀l:List b,(l.filter p).length+(l.filter λa=>!p a).length=θ l
 |[]=>rfl
 |a::r=>by have:=nK p r;grind
def Zo(M:List NE)(l:List Aq):List Aq:=l.filter λf=>!(M.any λe=>e.2==f.2.1)
def lR{M:List NE}{l:List Aq}{f:Aq}:f∈Zo M l↔f∈l/\∀e∈M,e.2≠f.2.1:=by grind[Zo]
def yn{L:List EN}{a:AI}{M:List NE}{r q:Int}(h:AR L a)(c:∀e∈M,e∈DZ a)(l:Grp M r q)(w:2<=θ M):(Zo M a.2.2.1).length+2<=θ a.2.2.1:=by
 have d:M[0]?=δ (M[0]' o!):=Ar o!;have k:M[1]?=δ (M[1]' o!):=Ar o!;have n:=BN d;have o:=BN k;have i:(M[0]' o!).2≠(M[1]' o!).2:=λm=>by
  have j:=l.next 0 _ _ d k
  have:=(l.same 0 _ d).2.2;rw[<-(wO h.vb (c _ n) (c _ o) m)]at j;omega
 have⟨f,s,_,t,_⟩:=h.mem (c _ n);have⟨g,u,_,v,_⟩:=h.mem (c _ o);have p:=nK (λf:Aq=>!(M.any λe=>e.2==f.2.1)) a.2.2.1;have:2<=(a.2.2.1.filter λf=>!!(M.any λe=>e.2==f.2.1)).length:=by refine ABq (a:=f) (b:=g) ?_ ?_ λm=>i q!;grind;grind
 unfold Zo;omega
def AEI{L:List EN}{a:AI}{M:List NE}{m l:Int}{s:BX}(h:AR L a)(j:∀e∈M,e∈DZ a)(k:Grp M m l)(i:2<=θ M)(q:a.2.2.2.2<=1073741824):VB (a.1,a.2.1,Zo M a.2.2.1++[(1,a.2.2.2.2,s)],a.2.2.2.1,a.2.2.2.2+1):=by have p:=yn h j k i;have⟨b,c,d,f,n,o,g⟩:=h.vb;refine⟨b,c,d,q!,q!,q!,?_⟩;exact(g.sub (List.filter_sublist)).push f rfl rfl
def notM(M:List NE)(x:NE):Bool:= !(M.any λe=>e.2==x.2)
def uz{L:List EN}{a b:AI}{M:List NE}{r:AQ}{lo t:Int}{I T:NE}(hL:Uq L)(h:AR L a)(J:∀e∈M,e∈DZ a)(V:Grp M lo t)(h2:2≤θ M)(h0:M[0]?=δ I)(hn:M[θ M-1]?=δ T)
  (hr:VR r) (r1:r.1=I.1.1) (r2:r.2.1=T.1.2.1) (O:r.2.2.1=lo) (r4:r.2.2.2.1=t) (r5:∀y,y∈r.2.2.2.2.2↔∃e∈M,y∈e.1.2.2.2.2.2)
  (hb:b=(a.1,a.2.1,Zo M a.2.2.1++[(1,a.2.2.2.2,My r)],a.2.2.2.1,a.2.2.2.2+1)) (q:VB b):
  AR L b/\iG a b/\(AG a->AG b)/\∀c,RC a c->RC b c:=by
 have b1:b.1=a.1:=by rw[hb]
 have b2:b.2.1=a.2.1:=by rw[hb]
 have S:b.2.2.1=Zo M a.2.2.1++[(1,a.2.2.2.2,My r)]:=by rw[hb]
 have b4:b.2.2.2.1=a.2.2.2.1:=by rw[hb]
 have m0:=BN h0;have mn:=BN hn;have z:∀n:Int,(r.1<=n/\n<=r.2.1)↔∃e∈M,e.1.1<=n/\n<=e.1.2.1:=λn=>by constructor;rintro⟨B,C⟩;obtain⟨j,e,_,q2,q3⟩:=(V.cover h0 _ T hn).2 n o! o!;exact⟨e,BN q2,q3⟩;rintro⟨e,i,B,C⟩;obtain⟨k,W⟩:=FG.1 i;have q1:=(V.cover h0 k e W).1;have a2:=C1 W;have q2:=V.le W (θ M-1-k) T (by rw[show k+(θ M-1-k)=θ M-1 by omega];exact hn);omega
 have Z:∀e∈M,bS L e.1:=λe i=>by obtain⟨f,_,_,_,g,_⟩:=h.mem (J e i);exact g
 have p:∀e∈M,e.1.2.2.1=lo/\e.1.2.2.2.1=t/\e.1.1<=e.1.2.1:=λe i=>by obtain⟨k,W⟩:=FG.1 i;exact V.same k e W
 have ad:bS L r:=by refine hr.runOf hL λy=>?_;rw[r5,O,r4];constructor;rintro⟨e,i,N⟩;have g:=((Z e i).mem y).1 N;obtain⟨p1,p2,p3⟩:=p e i;have:=(z y.1).2 ⟨e,i,g.2.2.2.2⟩;exact⟨g.1,g.2.1,o!,o!,this.1,this.2⟩;rintro⟨B,C,P,g4,g5,g6⟩;obtain⟨e,i,q1,q2⟩:=(z y.1).1 ⟨g5,g6⟩;obtain⟨p1,p2,p3⟩:=p e i;exact⟨e,i,((Z e i).mem y).2 ⟨B,C,o!,o!,q1,q2⟩⟩
 have K:Kq a r.2.2.1 r.2.2.2.1:=by obtain⟨f,_,g,_⟩:=h.mem (J I m0);obtain⟨p1,p2,p3⟩:=p I m0;rw[O,r4,<-p1,<-p2];exact g.2.2.2
 have u:Good b (1,a.2.2.2.2,My r) r:=⟨rfl,rfl,hr,(Kq.congr b1 b2).1 K⟩
 have v:∀{f:Aq}{s:AQ},Good a f s->Good b f s:=λg=>g.congr b1 b2;have l:∀x∈DZ b,(x∈DZ a/\∀e∈M,e.2≠x.2)\/x=(r,a.2.2.2.2):=λx w=>by unfold DZ at w;rw[S]at w;obtain⟨f,d,t⟩:=Oi.1 w;rcases Ak.1 d with d|d;obtain⟨f1,f2⟩:=lR.1 d;rcases h.files f f1 with U|⟨s,s1,s2,s3⟩;rw[U.intR q.1]at t;cases t;rw[(v s1).intR q.1]at t;injection t with t;subst t;exact .inl ⟨Po h.vb.1 f1 s1,f2⟩;rw[BA]at d;subst d;rw[u.intR q.1]at t;injection t with t;exact .inr t.symm
 have ar:∀x∈DZ a,(∀e∈M,e.2≠x.2)->x∈DZ b:=λx w Q=>by
  obtain⟨f,f1,f2,f3,_⟩:=h.mem w;have:f∈b.2.2.1:=by rw[S];exact Ak.2 (.inl (lR.2 ⟨f1,λe i=>f3▸Q e i⟩))
  have:=Po q.1 this (v f2);rw[<-f3]at this;exact this
 have Y:(r,a.2.2.2.2)∈DZ b:=Po q.1 (by rw[S];exact Ak.2 (.inr (BA.2 rfl))) u;have al:∀x∈DZ a,x.1.1<=x.1.2.1:=λx w=>by obtain⟨f,_,g,_⟩:=h.mem w;exact g.2.2.1.1.2.1
 have a0:r.1<=r.2.1:=hr.1.2.1;have A:∀y∈DZ a,(∀e∈M,e.2≠y.2)->y.1.2.2.1=lo->r.2.1<y.1.1\/y.1.2.1<r.1:=λy N Q o=>by refine TW λF=>?_;have a4:=al y N;obtain⟨e,i,q1,q2⟩:=(z (if y.1.1<=r.1 then r.1 else y.1.1)).1 (by split<;>omega);have D:e≠y:=λF=>Q e i (by rw[F]);have:=h.dis e (J e i) y N D ((p e i).1.trans o.symm);split at q1<;>split at q2<;>omega
 refine⟨⟨q,λf d=>?_,λx w y N D o=>?_⟩,λm n=>?_,λao f d=>?_,λc hc m=>?_⟩;rw[S]at d;rw[b4];rcases Ak.1 d with d|d;exact(h.files f (lR.1 d).1).imp id λ⟨s,s1,s2,s3⟩=>⟨s,v s1,s2,s3⟩
 rw[BA]at d;subst d;obtain⟨f,_,_,_,_,g⟩:=h.mem (J T mn);exact .inr ⟨r,u,ad,o!⟩;rcases l x w with⟨R,x2⟩|rfl;rcases l y N with⟨y1,y2⟩|rfl;exact h.dis x R y y1 D o;have:=A x R x2 (o.trans O);exact this.symm;rcases l y N with⟨y1,y2⟩|rfl;exact A y y1 y2 (o.symm.trans O);exact N! rfl D;constructor;rintro⟨e,i,B,C,P⟩;by_cases Q:∃f∈M,f.2=e.2;obtain⟨f,d,ap⟩:=Q;have:=wO h.vb (J f d) i ap;subst this;have hc:=(z n).2 ⟨f,d,C,P⟩;exact⟨_,Y,by rw[<-B,(p f d).1];exact O,hc.1,hc.2⟩;exact⟨e,ar e i λf d F=>Q ⟨f,d,F⟩,B,C,P⟩;rintro⟨e,i,B,C,P⟩;rcases l e i with⟨q1,q2⟩|rfl;exact⟨e,q1,B,C,P⟩;obtain⟨f,d,q1,q2⟩:=(z n).1 ⟨C,P⟩;exact⟨f,J f d,by rw[(p f d).1,<-B];exact O.symm,q1,q2⟩;rw[S]at d;rcases Ak.1 d with d|d;obtain⟨s,hs⟩:=ao f (lR.1 d).1;exact⟨s,v hs⟩;rw[BA]at d;subst d;exact⟨r,u⟩
 ·have X:=(Kl q).filter λe=>e.1.2.2.1==m;have a1:=hc m;by_cases hl:m=lo
  ·subst hl;have H:=iC _ ((r,a.2.2.2.2)::((DZ a).filter λe=>e.1.2.2.1==m).filter (notM M)) X λx w=>by obtain⟨x0,E⟩:=BU.1 w;rcases l x x0 with⟨R,x2⟩|rfl;refine Aw.2 (.inr (BU.2 ⟨BU.2 ⟨R,E⟩,?_⟩));unfold notM;simp only[Vp,List.any_eq_false,J!];exact x2;exact Aw.2 (.inl rfl)
   have a3:=nK (notM M) ((DZ a).filter λe=>e.1.2.2.1==m);have h1:M[1]?=δ (M[1]' o!):=Ar o!;have m1:=BN h1;have a5:2<=(((DZ a).filter λe=>e.1.2.2.1==m).filter λx=>!notM M x).length:=by
    have G:∀e∈M,e∈((DZ a).filter λe=>e.1.2.2.1==m).filter λx=>!notM M x:=λe i=>by refine BU.2 ⟨BU.2 ⟨J e i,by rw[(p e i).1];exact L! _⟩,?_⟩;unfold notM;rw[Bool.not_not];exact pF.2 ⟨e,i,L! _⟩
    refine ABq (G I m0) (G _ m1) λF=>?_;have ax:=V.next 0 I _ h0 h1
    have:=(p I m0).2.2;rw[<-F]at ax;omega
   rw[Ba]at H;omega
  have H:=iC _ ((DZ a).filter λe=>e.1.2.2.1==m) X λx w=>by obtain⟨x0,E⟩:=BU.1 w;rcases l x x0 with⟨R,x2⟩|rfl;exact BU.2 ⟨R,E⟩;exact N! (eq_of_beq E) λF=>hl (F.symm.trans O)
  omega
def VC(v1:List AQ×List Int×List Bool)(i n:Nat):List NE:=((v1.1.zip v1.2.1).drop i).take n
def w9{a:List AQ×List Int×List Bool}{i n k:Nat}{e:NE}(b:k<n):(VC a i n)[k]?=δ e↔a.1[i+k]?=δ e.1/\a.2.1[i+k]?=δ e.2:=by grind[VC]
def AFS{x:AI×Int}{a:List AQ×List Int×List Bool}{i n j:Nat}{f:Aq}{z:AI}{w:List Aq×List Int×Int×Int×Int}(hn:x.2=n)(o:n<=8)(t:θ a.2.1=θ a.1)(p:i+n<=θ a.1)(m:θ a.1<=4096)(h:x.1.2.2.1[j]?=δ f):As (Ai (ON x a ((i:Int),z) ((j:Int),w)) (η,(i:Int))) λr=>r=(VC a i n).any λe=>e.2==f.2.1:=by
 have l:(VC a i n).length=n:=by grind[VC,List.length_take,List.length_drop,List.length_zip]
 refine Cp (λ(s:Bool×Int)=>∃k:Nat,s=(((VC a i n).take k).any (λe=>e.2==f.2.1),((i+k:Nat):Int))/\k<=n) (λs=>i+n-s.2.toNat) ⟨0,k!,Bc _⟩ ?_;rintro s ⟨k,rfl,q⟩;unfold ON;dsimp only;rw[hn,AZ (x:=(i:Int)+(n:Int)),AZ (x:=((i+k:Nat):Int)+1)];refine AC (λg=>?_) (λg=>As.done q!);have b:k<n:=o!
 have d:a.2.1[i+k]?=δ (a.2.1[i+k]' o!):=Ar o!;refine AK (λc=>As.next ⟨k+1,?_,b⟩ q!) (λc=>?_);grind
 ·rw[(by unfold ix;rw[C! o!,Int.toNat_natCast,d]:ix a.2.1 ((i+k:Nat):Int)=δ (a.2.1[i+k]' o!)),Option.bind_some,(by unfold ix;rw[C! o!,Int.toNat_natCast,h]:ix x.1.2.2.1 (j:Int)=δ f),Option.bind_some];refine As.next ⟨k+1,?_,b⟩ o!
  rw[(by rw[Co,((w9 (e:=(a.1[i+k]' o!,a.2.1[i+k]' o!)) b).2 ⟨Ar o!,d⟩)];rfl:(VC a i n).take (k+1)=(VC a i n).take k++[(a.1[i+k]' o!,a.2.1[i+k]' o!)]),List.any_append,c,Bool.false_or];refine Ck ?_ q!;dsimp only;rw[List.any_cons,List.any_nil,Bool.or_false]
def AFR{x:AI×Int}{a:List AQ×List Int×List Bool}{i n:Nat}{z:AI}(hn:x.2=n)(g:n<=8)(o:θ a.2.1=θ a.1)(l:i+n<=θ a.1)(f:θ a.1<=4096)(u:θ x.1.2.2.1<=256):As (Ai (OM x a ((i:Int),z)) (0,[],x.1.1,x.1.2.1,x.1.2.2.2)) λr=>r=(Zo (VC a i n) x.1.2.2.1,x.1.1,x.1.2.1,x.1.2.2.2):=by
 refine Cp (λ(q:Int×List Aq×List Int×Int×Int×Int)=>∃j:Nat,q=((j:Int),Zo (VC a i n) (x.1.2.2.1.take j),x.1.1,x.1.2.1,x.1.2.2.2)/\j<=θ x.1.2.2.1) (λq=>θ x.1.2.2.1-q.1.toNat) ⟨0,rfl,Bc _⟩ ?_;rintro q ⟨j,rfl,v⟩;unfold OM;simp only[len];rw[AZ];refine AC (λk=>?_) (λk=>As.done q!);have d:x.1.2.2.1[j]?=δ (x.1.2.2.1[j]' o!):=Ar o!;have m:ix x.1.2.2.1 (j:Int)=δ (x.1.2.2.1[j]' o!):=by unfold ix;rw[C! o!,Int.toNat_natCast,d]
 refine AA (AFS hn g o l f d) λc e=>?_;have p:Zo (VC a i n) (x.1.2.2.1.take (j+1))=Zo (VC a i n) (x.1.2.2.1.take j)++(if c=ζ then []else [x.1.2.2.1[j]' o!]):=by grind[List.take_add_one,Option.toList_some,Zo]
 refine AA (P:=λt=>t=(Zo (VC a i n) (x.1.2.2.1.take (j+1)),x.1.1,x.1.2.1,x.1.2.2.2)) ?_ λs b=>?_;refine AO (λh=>?_) (λh=>AB ?_);grind[Zo,VC,Nat.le_trans,List.length_filter_le,List.length_take,AA,Ad,AB];grind
 ·rw[b];exact As.next ⟨j+1,q!,o!⟩ q!
def AG2(L:List EN)(x:AI×Int)(r:AI×Bool×Int):Prop:=
 (x.1.2.2.2.2<=1073741824->r.2.2=0)/\(r.2.2=0->(r.2.1=η/\r.1=x.1)\/(r.2.1=ζ/\AR L r.1/\iG x.1 r.1/\(AG x.1->AG r.1)/\(∀c,RC x.1 c->RC r.1 c)/\r.1.1=x.1.1/\r.1.2.1=x.1.2.1/\r.1.2.2.2.1=x.1.2.2.2.1/\r.1.2.2.2.2=x.1.2.2.2.2+1/\θ r.1.2.2.1+1<=θ x.1.2.2.1/\x.1.2.2.2.2<=1073741824))
def AHW{L:List EN}{x:AI×Int}(hL:Uq L)(h:AR L x.1)(hf:2<=x.2/\x.2<=8):As (Mm x) (AG2 L x):=by
 have hs:=h.sa;have⟨n,hn⟩:=EE (show 0<=x.2 by omega);have p:θ x.1.2.2.1<=256:=by have:=h.vb.2.2.2.2.2.1;omega
 have al:=h.vb.2.2.2.1;unfold Mm;have⟨v0,U,V⟩:=WD (x:=x.1);have X:=V.2 h.vb;subst X;rw[U,AD,CM,A!,F! o!,A!,F! o!,A!];refine AA (ADM h) λa o=>?_;have⟨⟨t1,t2,t3,t4⟩,hw⟩:=o;have q:∀e∈DZ x.1,VR e.1/\∀y∈e.1.2.2.2.2.2,y∈L:=λe t=>by have⟨f,_,g,_,g2,_⟩:=h.mem t;exact⟨g.2.2.1,λy hy=>((g2.mem y).1 hy).1⟩
 refine AA (P:=λr=>(∃z,r=.inr z)\/∃u,r=.inl u/\AG2 L x (u.2.2,u.1,u.2.1)) ?_ λr hr=>?_
 ·refine Cp (λ(s:Int×AI)=>0<=s.1/\s.1<=θ a.1) (λ(s:Int×AI)=>((θ a.1:Int)-s.1).toNat) ⟨Af _,d!⟩ (λs hI=>?_);have⟨i',z⟩:=s;have⟨D,i2⟩:=hI;dsimp only at D i2;obtain⟨i,rfl⟩:=EE D;unfold T5;dsimp only;rw[AZ (x:=(i:Int)+1),AZ (x:=(i:Int)+x.2)];refine AC (λhc=>?_) (λ_=>As.done (.inl ⟨_,rfl⟩));simp[len]at hc;refine AA (Bn D) λd h3=>AA (Bn D) λZ h4=>?_;have l3:=h3.2;have l4:=h4.2;have l:∀k,k<n->d[k]?=a.1[i+k]? :=λk c=>by grind[Int.toNat_natCast]
  have F:∀k,k<n->Z[k]?=a.2.2[i+k]? :=λk c=>by grind[Int.toNat_natCast]
  have w:∀{k:Nat}{r:AQ},d[k]?=δ r->k<n:=λ{k r} c=>by have:=C1 c;omega
  have whole:∀(k:Nat)(r:AQ),d[k]?=δ r->Z[k]?=δ ζ->∃id,a.2.1[i+k]?=δ id/\(r,id)∈DZ x.1:=λk r o h2=>by have c:=w o;rw[l k c]at o;rw[F k c]at h2;have ap:=C1 o;have j:a.2.1[i+k]?=δ (a.2.1[i+k]' o!):=Ar o!;refine⟨_,j,?_⟩;refine hw ((r,a.2.1[i+k]' o!),ζ) ?_ rfl;refine FG.2 ⟨i+k,?_⟩;rw[vM,vM];exact⟨⟨o,j⟩,h2⟩
  have S:θ d=n:=o!
  have I:d[0]?=δ (d[0]' o!):=Ar o!;have J:d[θ d-1]?=δ (d[θ d-1]' o!):=Ar o!;generalize d[0]' o!=r0 at I;generalize d[θ d-1]' o!=rn at J;refine AA (AF8 (x:=(d,Z)) hL (λk r q1 q2=>?_) d! d! I J) λv5 h5=>?_;have⟨id,_,q3⟩:=whole k r q1 q2;exact q _ q3;refine AO (λ_=>As.next d! d!) (λT=>?_);have⟨w1,lv,es,B,E,w4⟩:=h5 T;dsimp only at E w4;refine AC (λad=>As.done (.inr ⟨_,rfl,λhh=>N! hh o!,λhz=>N! (show(21:Int)=0 from hz) g!⟩)) (λar=>?_);have hi:i+n<=θ a.1:=o!
  have Q:(VC a i n).length=n:=by unfold VC;rw[List.length_take,List.length_drop,List.length_zip];omega
  have b:∀(k:Nat)(e:NE),(VC a i n)[k]?=δ e->k<n/\d[k]?=δ e.1/\a.2.1[i+k]?=δ e.2:=λk e c=>by
   have m:k<n:=q!
   have:=(w9 m).1 c;exact⟨m,by rw[l k m];exact this.1,this.2⟩
  have C:∀e∈VC a i n,e∈DZ x.1:=λe t=>by have⟨k,c⟩:=FG.1 t;have⟨k1,v,Y⟩:=b k e c;have⟨q1,_⟩:=E k o!;have⟨id,q2,q3⟩:=whole k e.1 v q1;rw[Y]at q2;injection q2 with q2;rw[<-q2]at q3;exact q3
  have N:Grp (VC a i n) r0.2.2.1 r0.2.2.2.1:=by refine⟨λk e c=>?_,λk e f c hf=>?_⟩;have⟨k1,v,Y⟩:=b k e c;have⟨_,r,q1,q2,q3,_⟩:=E k o!;dsimp only at q1;rw[v]at q1;cases q1;exact⟨q2,q3,(q e (C e (BN c))).1.1.2.1⟩;have⟨k1,v,Y⟩:=b k e c;have⟨f1,f2,f3⟩:=b (k+1) f hf;have⟨_,r,q1,_,_,q2⟩:=E (k+1) o!;dsimp only at q1 q2;rw[f2]at q1;cases q1;exact q2 o! e.1 (by rw[mc];exact v)
  have G:(VC a i n)[0]?=δ ((VC a i n)[0]' o!):=Ar o!;have H:(VC a i n)[(VC a i n).length-1]?=δ ((VC a i n)[(VC a i n).length-1]' o!):=Ar o!;generalize (VC a i n)[0]' o!=m0 at G;generalize (VC a i n)[(VC a i n).length-1]' o!=mn at H;have O:m0.1=r0:=by have:=(b 0 m0 G).2.1;rw[I]at this;exact(Bg this).symm
  have R:mn.1=rn:=by have:=(b _ mn H).2.1;rw[Q,<-S,J]at this;exact(Bg this).symm
  refine AA (AFR hn o! t1 hi o! p) λax K=>?_;subst K;rw[qT w1,AD];dsimp only;have ao:=yn h C N o!;refine AA (Ad w!) λa0 M=>?_;rw[AZ (x:=x.1.2.2.2.2+1),M.1];have W:=AEI (s:=My v5.1) h C N o! o!;have key:=uz (r:=v5.1) hL h C N o! G H w1 (by rw[B,O]) (by rw[B,R]) (by rw[B]) (by rw[B]) (λy=>by rw[B];dsimp only;rw[w4];constructor;rintro⟨k,r,q1,q2⟩;have c:=w q1;have A:=q1;rw[l k c]at A;have j:a.2.1[i+k]?=δ (a.2.1[i+k]' o!):=Ar o!;exact⟨(r,_),BN ((w9 (e:=(r,a.2.1[i+k]' o!)) c).2 ⟨A,j⟩),q2⟩;rintro⟨e,t,q2⟩;have⟨k,c⟩:=FG.1 t;exact⟨k,e.1,(b k e c).2.1,q2⟩) rfl W;refine As.done (.inr ⟨_,rfl,λ_=>rfl,λ_=>.inr ⟨rfl,key.1,key.2.1,key.2.2.1,key.2.2.2,rfl,rfl,rfl,rfl,?_,o!⟩⟩);dsimp only;rw[AY,Ba,Bb];omega
 rcases hr with⟨z,rfl⟩|⟨u,rfl,hu⟩;exact A4 (AB ⟨λ_=>rfl,λ_=>.inl ⟨rfl,rfl⟩⟩);exact BK (AB hu)
def iG.refl(a:AI):iG a a:=λ_ _=>Iff.rfl
def iG.trans{a b c:AI}(h:iG a b)(g:iG b c):iG a c:=λd n=>(h d n).trans (g d n)
def AHf{L:List EN}{x:AI×Int}{m:Int}(q:Uq L)(h:AR L x.1)(u:2<=x.2/\x.2<=8)(v:SF x.1 m)(w:m<=1073741824):As (Jd x) λr=>r.2=0/\AR L r.1/\iG x.1 r.1/\(AG x.1->AG r.1)/\(∀c,RC x.1 c->RC r.1 c)/\SF r.1 m/\r.1.1=x.1.1/\r.1.2.1=x.1.2.1/\r.1.2.2.2.1=x.1.2.2.2.1:=by
 unfold Jd;refine AA (P:=λr=>r.1=0/\AR L r.2/\iG x.1 r.2/\(AG x.1->AG r.2)/\(∀c,RC x.1 c->RC r.2 c)/\SF r.2 m/\r.2.1=x.1.1/\r.2.2.1=x.1.2.1/\r.2.2.2.2.1=x.1.2.2.2.1) ?_ λr hr=>AB hr;refine Cp (λ(s:AI×AI)=>AR L s.1/\iG x.1 s.1/\(AG x.1->AG s.1)/\(∀c,RC x.1 c->RC s.1 c)/\SF s.1 m/\s.1.1=x.1.1/\s.1.2.1=x.1.2.1/\s.1.2.2.2.1=x.1.2.2.2.1) (λs=>θ s.1.2.2.1) ⟨h,iG.refl _,id,λ_=>id,v,rfl,rfl,rfl⟩ (λs p=>?_);obtain⟨e,f,l,n,g,i,j,k⟩:=p;unfold T6;refine AA (AHW (x:=(s.1,x.2)) q e u) λC o=>?_;obtain⟨y,z⟩:=o;have b:s.1.2.2.2.2<=1073741824:=by unfold SF at g;omega
 have d:=y b;refine AL (λt=>N! d t) (λ_=>?_);rcases z d with⟨q1,q2⟩|⟨q1,q2,q3,A,B,q4,q5,q6,q7,q8,q9⟩
 ·rw[q1,Bool.not_false,B!];exact As.done ⟨rfl,e,f,l,n,g,i,j,k⟩
 ·rw[q1,CM,A!];dsimp only at q3 q4 q5 q6 q7 q8;exact As.next ⟨q2,f.trans q3,λa=>A (l a),λc a=>B c (n c a),by unfold SF at*;dsimp only;omega,q4.trans i,q5.trans j,q6.trans k⟩ d!
def AAw{b:UInt8}{n:Int}(a:0<=n)(e:n<255):Eu ([ι .u8 (((π ((κ 8 (b.toNat:Int))^^^(κ 8 (ι .u8 (wi (1+n)))))):Nat):Int)]:List Int)=[UInt8.ofNat (BitVec.ofNat 8 b.toNat^^^BitVec.ofNat 8 (1+n).toNat).toNat]/\b≠UInt8.ofNat (BitVec.ofNat 8 b.toNat^^^BitVec.ofNat 8 (1+n).toNat).toNat:=by obtain⟨m,rfl⟩:=EE a;rw[(by grind[AZ]:wi (1+(m:Int))=((1+m:Nat):Int)),(by rw[AGy];omega:ι .u8 ((1+m:Nat):Int)=((1+m:Nat):Int)),(by omega:(1+(m:Int)).toNat=1+m),bU,bU];refine⟨?_,λd=>?_⟩;rw[(by rw[AGy];omega:ι .u8 (((BitVec.ofNat 8 b.toNat^^^BitVec.ofNat 8 (1+m)).toNat:Nat):Int)=(((BitVec.ofNat 8 b.toNat^^^BitVec.ofNat 8 (1+m)).toNat:Nat):Int))];rfl;have c:=E! UInt8.toNat d;rw[eR,S8 o!]at c;have f:=E! (BitVec.ofNat 8 b.toNat^^^ ·) (by grind:BitVec.ofNat 8 b.toNat=BitVec.ofNat 8 b.toNat^^^BitVec.ofNat 8 (1+m));grind[BitVec.xor_assoc,BitVec.xor_self,BitVec.zero_xor]
def ADK{b:AU}{s:BX}(h:CX b)(A:θ s≠0)(B:θ s<=1099511627775):As (F8 b s) λr=>CX r.2/\AG4 s r.1/\θ r.1<=θ s+1:=by
 unfold F8;simp only[len];refine AP (λv=>N! v o!) (λ_=>AA (Ag h o!) λE m=>?_);have⟨l,k0,k1⟩:=m;have⟨k,t⟩:=EE k0;refine AA (Ag l g!) λF e=>?_;rw[t,AZ];have u:k<θ s:=o!
 have a:s=s.take k++s[k]::s.drop (k+1):=t!
 have i:R0 s 0 (k:Int)=δ (s.take k):=by grind[R0]
 have j:R0 s ((k:Int)+1) (θ s:Int)=δ (s.drop (k+1)):=by unfold R0;grind[List.take_of_length_le]
 have C:(s.take k).length=k:=q!
 have D:(s.drop (k+1)).length=θ s-(k+1):=C5;refine AP (λ_=>?_) (λ_=>?_);rw[i,AD,j,AD];refine AA (CE o!) λG o=>AB ⟨e.1,.less _ _ _ a o.1,q!⟩;refine AP (λ_=>?_) (λ_=>?_);refine AA (Ag e.1 g!) λz p=>AA (CE (by rw[MP];simp;omega)) λH q=>AB ⟨p.1,?_,?_⟩;exact .more s [] (UInt8.ofNat (ι .u8 z.1).toNat) (DN s).symm (by rw[q.1];rfl);grind[MP,List.length_cons,List.length_nil];rw[i,AD];have f:six s (k:Int)=δ ((s[k].toNat:Nat):Int):=by grind[six,Int.toNat_natCast,List.getElem?_eq_getElem]
 rw[f,AD,j,AD];refine AA (Ag e.1 g!) λw c=>?_;have⟨q1,q2⟩:=AAw (b:=s[k]) c.2.1 o!;rw[q1];refine AA (CE w!) λx d=>?_;have g:=d.2;simp[Ba,Bb]at g;refine AA (CE o!) λy n=>AB ⟨c.1,.other _ _ _ _ q2 a ?_,q!⟩;grind[List.append_assoc]
theorem zc{a:AI}{b:AU}(y:AG a)(h:CX b)(I:a.2.2.1.length<=1000000):As (F3 b a.2.2.1) λr=>CX r.2/\ ∀f∈r.1,f∈a.2.2.1\/Bad f:=by
 unfold F3;generalize B:a.2.2.1=x at*;refine AP (λ_=>AB ⟨h,λf v=>by simp at v⟩) (λg=>?_);simp only[len]at g;refine AA (Ag h (by grind)) λC p=>?_;have⟨n,c,o⟩:=p;simp[len]at o;rw[AZ (x:=C.1+1) (by omega)];refine AA (Ag n (by decide)) λJ q=>AP (λ_=>?_) (λ_=>?_);refine AA (Bn (Af _) c (by omega)) λK F=>AA (Bn (by omega) (by grind) (by grind)) λL G=>?_;grind[AA,Ad,List.length_nil,AB];refine AA (Ad (by simp;omega)) λM u=>?_;have j:=u.1;rw[B4]at j;subst j;refine AA (AJ c (by omega)) λN _=>AA (AJ c (by omega)) λm H=>?_;have⟨r,hr⟩:=y m (by grind);have A:=hr.size;have i:m.2.2.length≠0:=by rw[hr.2.1];grind[My,List.length_append,Ep]
 refine AA (ADK q.1 i (by omega)) λO k=>AA (AJ c (by omega)) λD _=>AA (AJ c (by omega)) λE t=>AB ⟨k.1,λf e=>?_⟩;rcases QV e with w|w;grind;refine .inr ?_;rw[w];refine⟨by grind,λs z l=>?_⟩;dsimp only at l;have d:=k.2.1;rw[l,hr.2.1]at d;exact AEN hr.2.2.1.wr z d
def ABy{L:List EN}{a:AI}{b:AU}{m:Int}(h:AR L a)(p:AG a)(k:CX b)(J:SF a m):As (F3 b a.2.2.1) λr=>CX r.2/\AR L (a.1,a.2.1,r.1,a.2.2.2)/\(∀c,RC a c->RC (a.1,a.2.1,r.1,a.2.2.2) c)/\SF (a.1,a.2.1,r.1,a.2.2.2) m:=by
 obtain⟨B,C,D,E,F,K,G⟩:=id h.vb;refine((ABz G k o! h.sa.2.2).and (zc p k o!)).mono λr hr=>?_;obtain⟨⟨H,M,I,N⟩,_,u⟩:=hr;have i:VB (a.1,a.2.1,r.1,a.2.2.2):=⟨B,C,D,E,F,d!,I⟩
 have g:∀e∈DZ (a.1,a.2.1,r.1,a.2.2.2),e∈DZ a:=λe o=>by unfold DZ at o;obtain⟨f,d,j⟩:=Oi.1 o;rcases u f d with d|d;obtain⟨s,q⟩:=p f d;have n:Good (a.1,a.2.1,r.1,a.2.2.2) f s:=q.congr rfl rfl;rw[n.intR i.1]at j;injection j with j;subst j;exact Po h.vb.1 d q;rw[d.intR i.1]at j;cases j
 refine⟨H,⟨i,λf d=>?_,λx l y v=>h.dis x (g x l) y (g y v)⟩,λc k t=>?_,by unfold SF at*;dsimp only;omega⟩;rotate_left;exact Ct (iC _ ((DZ a).filter λe=>e.1.2.2.1==t) ((Kl i).filter _) λx l=>BU.2 ⟨g x (BU.1 l).1,(BU.1 l).2⟩) (k t);rcases u f d with d|d;exact(h.files f d).imp id λ⟨s,w,z,A⟩=>⟨s,w.congr rfl rfl,z,A⟩
 exact .inl d
def ADF{L:List EN}{x:Int×List Int}(h:BD x.1 x.2):As (IN x) λr=>AR L r.1/\AG r.1/\RC r.1 0/\SF r.1 1/\r.1.2.1=x.1/\r.1.2.2.2.1=1:=by
 have a:As (IN x) λr=>r.2=0->r.1.2.2.1=[]/\r.1.2.2.2.2=1:=by refine AA mq λo b=>AO (λj=>AB λm=>?_) (λ_=>?_);grind;have l:=h.2.2.2.1;grind[AA,Ad,AB]
 refine((AHU h).and a).mono λr hr=>?_;have⟨⟨b,c,d,g⟩,i⟩:=hr;refine⟨⟨c,λf a=>?_,λe k=>?_⟩,λf a=>?_,λn=>?_,?_,d,g⟩;grind;grind[DZ];grind;grind[DZ];unfold SF;grind
def AX(L:List EN)(n d m:Int)(a:AI):Prop:=AR L a/\AG a/\(∃c:Nat,RC a c/\100*(c:Int)<=m+99)/\SF a m/\a.2.1=n/\a.2.2.2.1<=d+1/\(Hs L->AF a)
def AX.step{n m:Int}{a:AI}{l:Aa}{c:Int}(p:Do l)(h:AX l.2.1 n l.2.2 m a):As (Ei (a,l,c)) λr=>r.2=0->AX l.2.1 n l.2.2 (m+100) r.1:=by have⟨d,e,⟨k,j,o⟩,f,g,t,i⟩:=h;refine(AFU (x:=(a,l,c)) d p f).mono λr hr q=>?_;have⟨q1,q2,s,q3,q4,q5,q6⟩:=hr q;exact⟨q1,q2 e,⟨k+1,s k j,o!⟩,by unfold SF at*;omega,q4.trans g,q!,λb=>q6 b (i b)⟩
def AX.mono{L:List EN}{n d m k:Int}{a:AI}(h:AX L n d m a)(o:m<=k):AX L n d k a:=by have⟨b,e,⟨c,i,j⟩,l,f,g⟩:=h;exact⟨b,e,⟨c,i,o!⟩,by unfold SF at*;omega,f,g⟩
def AX.tidy{L:List EN}{n d m:Int}{a:AI}{c:Int}(p:Uq L)(h:AX L n d m a)(u:m<=1073741824)(s:2<=c/\c<=8):As (Jd (a,c)) λr=>AX L n d m r.1:=by have⟨g,i,⟨k,t,b⟩,j,l,z,o⟩:=h;refine(AHf (x:=(a,c)) p g s j u).mono λr hr=>?_;have⟨q0,q1,q2,q3,y,q4,q5,q6,q7⟩:=hr;exact⟨q1,q3 i,⟨k,y k t,b⟩,q4,q6.trans l,q!,λq f e n v w=>(q2 f n).1 (o q f (q5▸e) n v (q7▸w))⟩
def za{b:AU}{x:Int×Aa}(h:CX b)(C:1<=x.1/\x.1<=64)(e:Do x.2):As (O0 b x) λr=>CX r.2/\AX x.2.2.1 x.1 x.2.2.2 901 r.1:=by
 have T:=e.1;have U:=e.2.2.2.1;refine AA (ABv h C) λv0 m=>AA (ADF (L:=x.2.2.1) m.2) λI v=>?_;have⟨D,E,H,F,G,s5⟩:=v;have A:AX x.2.2.1 x.1 x.2.2.2 1 I.1:=⟨D,E,⟨0,H,g!⟩,F,G,o!,λ_ lo _ n n1 n2=>o!⟩
 refine AA (Ag m.1 g!) λv2 w=>?_;have⟨t,u,S⟩:=w;refine AA (P:=λr=>CX r.1/\AX x.2.2.1 x.1 x.2.2.2 801 r.2) ?_ λK c=>AA (Ag c.1 g!) λM f=>AA (P:=λa=>AX x.2.2.1 x.1 x.2.2.2 901 a) (AK (λ_=>AA (c.2.step e) λN g=>AA (P:=λa=>AX x.2.2.1 x.1 x.2.2.2 901 a) (AP (λk=>AB ((g k).mono g!)) (λ_=>AB (c.2.mono g!))) λO i=>AB i) (λ_=>AB (c.2.mono g!))) λQ j=>AB ⟨f.1,j⟩;refine Cp (λ(s:Int×AU×AI)=>0<=s.1/\s.1<=8/\CX s.2.1/\AX x.2.2.1 x.1 x.2.2.2 (801-100*s.1) s.2.2) (λ(s:Int×AU×AI)=>s.1.toNat) ⟨u,q!,t,A.mono q!⟩ (λs B=>?_);have⟨Y,Z,q,l⟩:=B;unfold RX;rw[(AZ (x:=s.1-1))];refine AC (λX=>AA (Ag q g!) λv4 y=>AA (l.step e) λv5 z=>AA (P:=λa=>AX x.2.2.1 x.1 x.2.2.2 (801-100*(s.1-1)) a) (AP (λk=>AB ((z k).mono o!)) (λ_=>AB (l.mono o!))) λv6 o=>AA (Ag y.1 g!) λv7 p=>?_) (λ_=>As.done ⟨q,l.mono o!⟩);refine AA (P:=λr=>CX r.1/\AX x.2.2.1 x.1 x.2.2.2 (801-100*(s.1-1)) r.2) ?_ λJ d=>As.next ⟨q!,q!,d.1,d.2⟩ q!
 refine AK (λ_=>AA (Ag p.1 g!) λR V=>?_) (λ_=>AB ⟨p.1,o⟩);rw[AZ (x:=2+R.1)];refine AA (o.tidy e.uq o! o!) λv9 W=>?_;grind[AA,AP,AB]
set_option maxHeartbeats 1000000
def ADI{n p:Int}{l:List Int}(h:BD n l):As (Je (l,p)) λr=>0<=r.1/\r.1<=θ l/\(∀(i:Nat)(v:Int),(i:Int)<r.1->l[i]?=δ v->v<p)/\(∀(i:Nat)(v:Int),r.1<=(i:Int)->l[i]?=δ v->p<=v)/\(r.2=ζ->l[r.1.toNat]?=δ p)/\(r.2=η->∀v,l[r.1.toNat]?=δ v->p<v):=by
 have t:=h.2.2.2.1;refine AA (P:=λ(r:Int)=>0<=r/\r<=θ l/\(∀(i:Nat)(v:Int),(i:Int)<r->l[i]?=δ v->v<p)/\∀(i:Nat)(v:Int),r<=(i:Int)->l[i]?=δ v->p<=v) ?_ λJ u=>?_
 ·refine Cp (λ(s:Int×Int)=>0<=s.1/\s.1<=s.2/\s.2<=θ l/\(∀(i:Nat)(v:Int),(i:Int)<s.1->l[i]?=δ v->v<p)/\∀(i:Nat)(v:Int),s.2<=(i:Int)->l[i]?=δ v->p<=v) (λ(s:Int×Int)=>(s.2-s.1).toNat) ⟨Af _,q!,q!,λi v e=>q!,λi v e b=>q!⟩ (λs y=>?_);have⟨o,G,C,D,E⟩:=y;unfold Mr;rw[AAO o];refine AC (λa=>?_) (λa=>As.done ?_)
  ·refine AA (AJ o! q!) λF g=>AA Vy λH k=>?_;rw[(AZ (x:=(s.1+s.2)/2+1))];refine AA (P:=λ(q:Int×Int)=>(0<=q.1/\q.1<=q.2/\q.2<=(θ l:Int)/\(∀(i:Nat)(v:Int),(i:Int)<q.1->l[i]?=δ v->v<p)/\∀(i:Nat)(v:Int),q.2<=(i:Int)->l[i]?=δ v->p<=v)/\(q.2-q.1).toNat<(s.2-s.1).toNat) ?_ λI m=>As.next m.1 m.2
   refine AK (λB=>AB ⟨⟨q!,q!,C,λi v e b=>?_,E⟩,q!⟩) (λz=>AB ⟨⟨o,o!,o!,D,λi v e b=>?_⟩,o!⟩);have f:=k.1 B;have:=h.le (i:=i) (j:=((s.1+s.2)/2).toNat) o! b g.1;omega;have f:¬F<p:=λq=>by have:=k.2 q;rw[z]at this;cases this
   have:=h.le (i:=((s.1+s.2)/2).toNat) (j:=i) o! g.1 b;omega
  grind
 have⟨a1,a2,a3,a4⟩:=u;refine AC (λa=>?_) (λa=>AB ⟨a1,a2,a3,a4,λc=>(by cases c),λ_ v b=>?_⟩);simp[len]at a;refine AA (AJ a1 a) λK w=>AP (λd=>AB ⟨a1,a2,a3,a4,λ_=>by dsimp only;rw[w.1,d],λc=>(by cases c)⟩) (λA=>AA (AJ a1 a) λL _=>AK (λc=>?_) (λ_=>AB ⟨a1,a2,a3,a4,λc=>(by cases c),λ_ v b=>?_⟩));grind;grind;grind
def QR(a:AI)(p lo hi:Int):Prop:=∃i:Nat,a.1[i]?=δ lo/\hi=pu a i/\lo<=p/\p<=hi
def wa{a:AI}{p:Int}(h:VB a)(z:0<=p/\p<a.2.1):∃b d,Fm (a,p)=δ (b,d,ζ)/\QR a p b d:=by
 have key:As (Fm (a,p)) λr=>r.2.2=ζ/\QR a p r.1 r.2.1:=by
  unfold Fm;dsimp only;refine AA (Fb h) λG m=>?_;rw[m,CM,A!,F! o!,A!,F! o!,A!];refine AA (ADI h.1) λc n=>?_;have⟨D,E,v,F,k,x⟩:=n;have q:=h.1.2.2.2.1;refine AA (P:=λl:Int=>∃(i:Nat)(b:Int),l=i/\a.1[i]?=δ b/\b<=p/\∀w,a.1[i+1]?=δ w->p<w) ?_ λl s=>?_;refine AO (λt=>AB ?_) (λf=>AB ?_);have e:0<c.1:=by refine TW λy=>?_;have:=x t 0 (by rw[show c.1.toNat=0 by omega];exact h.1.2.2.2.2.1);omega
  rw[AZ];refine⟨c.1.toNat-1,a.1[c.1.toNat-1],o!,Ar o!,?_,λw g=>?_⟩;have:=v (c.1.toNat-1) _ o! (Ar o!);omega;grind;refine⟨c.1.toNat,p,o!,k f,Af _,λw g=>?_⟩;exact h.1.lt 0 c.1.toNat p w (k f) g;obtain⟨i,b,rfl,j,u,A⟩:=s;rw[yA h.1 j,AD];refine AB ⟨rfl,i,j,rfl,u,?_⟩;grind[pu]
 have⟨⟨b,d,o⟩,k1,B,C⟩:=key;grind
def QR.uniq{a b:AI}{p l1 l2 f g:Int}(h:BD a.2.1 a.1)(d:b.1=a.1)(e:b.2.1=a.2.1)(m:QR a p l1 f)(n:QR b p l2 g):l1=l2:=by
 obtain⟨i,s,t,u,v⟩:=m;obtain⟨j,w,z,A,B⟩:=n;have o:pu b j=pu a j:=by unfold pu;rw[d,e]
 have key:∀{i j:Nat}{x y:Int},a.1[i]?=δ x->a.1[j]?=δ y->i<j->pu a i<y:=λ{i j x y} q c k=>by have r:=C1 c;have l:a.1[i+1]?=δ (a.1[i+1]' o!):=Ar o!;have:=h.le (by omega:i+1<=j) l c;unfold pu;grind
 grind
def sR(P:Int->Prop)(j fl:Int):Prop:=0<=fl/\fl<=j/\(∀n,fl<n->n<=j->P n)/\(fl=0\/¬P fl)
def sR.uniq{P Q:Int->Prop}{j r s:Int}(h:∀n,P n↔Q n)(hr:sR P j r)(a:sR Q j s):r=s:=by obtain⟨b,c,d,e⟩:=hr;obtain⟨f,g,i,k⟩:=a;grind
structure TR(L:List EN)(l:Aa):Prop where
 vl:Do l
 sorted:L.Pairwise λx y=>x.1<y.1
 tail:∀e,e∈l.2.1↔e∈L/\l.1<=e.1/\e.1<=l.1+θ l.2.1-1
 len:θ L<=4096
def AHS{B:Nat}{L:List EN}{a:AI}{l:Aa}{p i j:Int}(o:CP B)(C:B≤16777216)(u:j-i≤B)(s:0≤i)(E:i≤j)(D:j≤1099511627776)(h:AR L a)(v:TR L l)(x:0≤p∧p<a.2.1):
  ∃n s fl,QR a p n s/\sR (rT a l n) j fl/\P9 (a,l,p,i,j)=δ (τ (fl<=i))/\As (HI (a,l,p,i,j)) λr=>(fl>i/\r=([],42))\/(fl<=i/\((Xu i (L.filter (LK p i j))/\r=(L.filter (LK p i j),0))\/(¬Xu i (L.filter (LK p i j))/\r=([],13)))):=by
 obtain⟨n,t,w,m⟩:=wa h.vb x;obtain⟨k,k1,F,G,H⟩:=id m;obtain⟨fl,y,A,z⟩:=AHR o C u s E D h.vb h.ds v.vl x w rfl v.sorted v.tail (λe q=>by
  obtain⟨f,_,_,_,g,_⟩:=h.mem q;exact g) h.dis (λe q d=>by
  obtain⟨f,_,g,_⟩:=h.mem q;have c:e.1.2.2.1=n:=d;have b:=g.2.2.2;rw[c]at b;have:=b.uniq h.vb.1 ⟨k,k1,F⟩;exact⟨G,o!⟩)
 exact⟨n,t,fl,m,y,A,z⟩
def Do.sorted{l:Aa}(h:Do l):l.2.1.Pairwise λx y=>x.1<y.1:=by have⟨l1,l2,a,b,c,d⟩:=h;rw[Gm];grind
def Wn{l:Aa}(h:Do l):TR l.2.1 l:=⟨h,h.sorted,λe=>⟨λa=>⟨a,by have⟨k,b⟩:=FG.1 a;have:=(h.2.2.2.2.2 k e b).1;have:=C1 b;omega⟩,λa=>a.1⟩,h.2.2.1⟩
def AIn{l:Aa}{f:Int}(h:Do l)(n:l.2.2=l.1+θ l.2.1-1)(i:l.1<=f)(j:f<=l.2.2+1)(m:f<=1099511627776):As (KH (l,f)) λr=>TR l.2.1 r.1/\r.1.1=f/\r.1.2.2=l.2.2:=by
 have o:As (KH (l,f)) λr=>r.2=0->r.1=(f,l.2.1.drop (f-l.1).toNat,l.2.2):=by have⟨a1,a2,a3,a4,a5,a6⟩:=id h;refine AA Bo λv t=>AO (λ_=>AB λa=>N! (show(26:Int)=0 from a) g!) (λ_=>?_);refine AC (λ_=>AB λa=>N! (show(1:Int)=0 from a) g!) (λ_=>?_);refine AC (λ_=>AB λa=>N! (show(1:Int)=0 from a) g!) (λ_=>?_);refine AC (λ_=>AB λa=>N! (show(1:Int)=0 from a) g!) (λ_=>?_);refine AC (λ_=>AB λa=>N! (show(15:Int)=0 from a) g!) (λ_=>?_);grind[AZ,AA,Bn,Ad,AB,List.take_of_length_le]
 refine((iw (x:=(l,f)) h n i j m).and o).mono λr hr=>?_;have⟨⟨c,q,s⟩,d⟩:=hr;refine⟨⟨q,h.sorted,λe=>?_,h.2.2.1⟩,s,by rw[(d c)]⟩;rw[(d c)];have⟨l1,l2,u,w,y,p⟩:=h;rw[FG,FG];constructor;grind;rintro⟨⟨k,b⟩,g,_⟩;have:=(p _ e b).1;exact⟨k-(f-l.1).toNat,by rw[Km,show(f-l.1).toNat+(k-(f-l.1).toNat)=k by omega];exact b⟩
def wk{p i j:Int}{e:EN}:LK p i j e=(cu p e&&(τ (e.1>i)&&τ (e.1<=j))):=by unfold LK cu im;grind
def Xu.snoc{i:Int}{s:List EN}{e:EN}(h:Xu i s)(m:s=[]->e.2.2.2.2.1<=i)(n:∀f,s[θ s-1]?=δ f->e.2.2.2.2.1=f.1):Xu i (s++[e]):=by
 intro k g b;rcases Ax k (θ s) with d|d;rw[CT d]at b;refine⟨(h k g b).1,λf a c=>(h k g b).2 f a ?_⟩;grind;have o:=C1 b;rw[AY,X0]at o;have l:k=θ s:=o!
 subst l;have j:e=g:=q!
 subst j;refine⟨λp=>m (EZ p),λf a c=>n f ?_⟩;rwa [CT o!]at c
def vR{n p i j:Int}{L:List EN}(F:LI n L)(G:L.Pairwise λx y=>x.1<y.1)(H:0≤i):∀m:Nat,m≤θ L→
  Xu i ((L.take m).filter (LK p i j))/\((∀f∈L.take m,f.1<=j)->((L.take m).filter (LK p i j)=[]->Bd (L.take m) p<=i)/\∀f,((L.take m).filter (LK p i j))[((L.take m).filter (LK p i j)).length-1]?=δ f->Bd (L.take m) p=f.1)
 |0,_=>by rw[List.take_zero];exact⟨λk e E=>by simp at E,λ_=>⟨λ_=>H,λf a=>by simp at a⟩⟩
 |m+1,hm=>by
  obtain⟨C,D⟩:=vR (j:=j) F G H m o!;have d:m<θ L:=o!
  have B:L.take (m+1)=L.take m++[L[m]]:=by rw[Co,Ar d];rfl
  have l:∀f∈L.take m,f.1<L[m].1:=λf a=>by obtain⟨k,w⟩:=DU a;have z:=C1 w;rw[BR]at z;rw[Jk o!,Ar o!]at w;rw[<-Bg w];exact Gm.1 G k m o! d o!
  have A:=F m _ (Ar d);rw[B,HY];generalize I:L.take m=M at*;generalize L[m]=e at*;by_cases t:LK p i j e=ζ;have g:=t;rw[wk]at g;simp only[BW,K!]at g;obtain⟨s,K,N⟩:=g;have q:e.2.2.2.2.2.2.1.1=p/\(e.2.1=1\/e.2.1=2):=by unfold cu at s;simp only[BW,TU,J!]at s;exact⟨s.2,s.1⟩
  obtain⟨q1,q2⟩:=D λf a=>by have:=l f a;omega
  have b:=A.1 q.2;rw[q.1]at b;rw[vL t,kz];refine⟨C.snoc (λh=>by rw[b.1];exact q1 h) (λf a=>by rw[b.1];exact q2 f a),λ_=>⟨λh=>by simp at h,λf a=>?_⟩⟩;rw[PL,C! s];have:e=f:=by simpa using a
  rw[this];rw[vK t,kz,DN];refine⟨C,λc=>?_⟩;have E:=c e k!;obtain⟨q1,q2⟩:=D λf a=>c f (HS _ a);rw[PL];by_cases u:cu p e=ζ;have v:e.1<=i:=by refine TW λJ=>t ?_;rw[wk,u];simp;omega
  have o:M.filter (LK p i j)=[]:=List.filter_eq_nil_iff.2 λf a r=>by rw[wk]at r;simp only[BW,K!]at r;have:=l f a;omega
  rw[C! u,o];exact⟨λ_=>v,λf a=>by simp at a⟩;rw[D! u];exact⟨q1,q2⟩
def ACE{n p i j:Int}{L:List EN}(a:LI n L)(b:L.Pairwise λx y=>x.1<y.1)(c:0<=i):Xu i (L.filter (LK p i j)):=by have:=(vR (p:=p) (j:=j) a b c (θ L) (An _)).1;grind
def sP{B:Nat}{n:Int}{L:List EN}{a:AI}{l:Aa}{p i j:Int}(d:CP B)(q:B≤16777216)(t:LI n L)(e:j-i≤B)(b:0≤i)(u:i≤j)(s:j≤1099511627776)(h:AR L a)(f:TR L l)(v:0≤p∧p<a.2.1):
  ∃c b fl,QR a p c b/\sR (rT a l c) j fl/\P9 (a,l,p,i,j)=δ (τ (fl<=i))/\((fl>i/\HI (a,l,p,i,j)=δ ([],42))\/(fl<=i/\HI (a,l,p,i,j)=δ (L.filter (LK p i j),0))):=by
 obtain⟨c,o,fl,w,k,m,r,g,x⟩:=AHS d q e b u s h f v;refine⟨c,o,fl,w,k,m,?_⟩;rcases x with⟨q1,q2⟩|⟨q1,⟨q2,q3⟩|⟨q2,q3⟩⟩;exact .inl ⟨q1,by rw[g,q2]⟩;exact .inr ⟨q1,by rw[g,q3]⟩;exact N! (ACE t f.sorted b) q2
def ACh{x:AS×Du}(a:Oe x.2)(c:x.2.1=x.1.1)(b:Gk x.1.2.2 x.2.2.1=δ x.2.2.2.1):Ud x=δ ((x.1.1,x.1.2.1,Wi x.1.2.2 x.2.2.1 x.2.2.2.2),0):=by grind[As,Ud,Wi,AA,dH,AO,AL,BF,AB]
def AGU{x:AS}{e:AE}(h:HO x)(d:L5 e)(j:e.2.1=1\/e.2.1=2)(b:e.2.2.2.2.2.2.1.1=x.1)(f:e.2.2.2.2.1=x.2.1)(c:Gk x.2.2 e.2.2.2.2.2.2.1.2.1=δ e.2.2.2.2.2.2.1.2.2.1):Uw (x,e)=δ (upd x e,0):=by
 suffices g:As (Uw (x,e)) λr=>r=(upd x e,0) by obtain⟨r,hr,rfl⟩:=g;exact hr
 have a:Oe e.2.2.2.2.2.2.1:=by grind[L5,VE]
 unfold Uw;refine AA KA λv i=>AO (λa=>N! (i d) (by simp[a])) (λ_=>?_);rw[my,(by grind[im]:im e=ζ),lT h,AD,CM,A!];refine BF (AL (λa=>N! rfl a) (λ_=>AL (λa=>N! b a) (λ_=>AL (λa=>N! f a) (λ_=>?_))));rw[ACh a b c];exact BF (AL (λa=>N! rfl a) (λ_=>AB rfl))
def ABg{x:AS}{es:List AE}(p:OKs x es)(c:θ es<=4096):LC (x,es)=δ (es.foldl upd x,0):=by
 suffices q:As (LC (x,es)) λr=>r=(es.foldl upd x,0) by obtain⟨r,hr,rfl⟩:=q;exact hr
 generalize u:es.foldl upd x=y;refine AA (P:=λr=>∃z,r=.inr (y,z)) ?_ λr hr=>?_
 ·refine Cp (λ(s:Int×AS×AS)=>∃A B,es=A++B/\s.1=θ A/\OKs s.2.1 B/\B.foldl upd s.2.1=y) (λ(s:Int×AS×AS)=>((θ es:Int)-s.1).toNat) ⟨[],es,rfl,rfl,p,u⟩ ?_;rintro⟨i,x,z⟩ ⟨A,B,rfl,f,g,b⟩;dsimp only at f g b;subst f;unfold Zl;dsimp[len];rw[AY]at c;refine AC (λa=>?_) (λa=>As.done ?_)
  ·obtain _|⟨e,B⟩:=B;simp at a;have t:ix (A++e::B) (θ A:Int)=δ e:=by unfold ix;rw[C! o!,Cz,Ci (An _),Gp];rfl
   have⟨⟨h,d,j,k,l,m⟩,n⟩:=g;have o:e.2.2.2.2.1<e.1:=d.2.2.2.2.2.1;rw[t,AD,F! o!,A!,AGU h d j k l m,AD,AZ (x:=(θ A:Int)+1)];refine AL (λa=>N! rfl a) (λ_=>As.next ⟨A++[e],B,k!,k!,n,b⟩ d!)
  obtain _|⟨e,B⟩:=B;exact⟨z,by rw[<-b];rfl⟩;simp at a;omega
 grind[A4,AB]
def ABt{L:List AE}(h:Hs L){p:Int}{a b:Nat}(g:a<=b):L.filter (LK p a b)=((L.take b).drop a).filter (cu p):=by
 have j:∀(i:Nat)(e:AE),L[i]?=δ e->LK p a b e=(cu p e&&(τ (a<=i)&&τ (i<b))):=λi e d=>by have:=(h i e d).1;rw[wk,show τ (e.1>(a:Int))=τ (a<=i)from decide_eq_decide.2 o!,show τ (e.1<=(b:Int))=τ (i<b)from decide_eq_decide.2 o!]
 conv=>lhs;rw[<-Dr b L,ui L g]
 rw[HY,HY];rw[(List.filter_eq_nil_iff (l:=L.take a)).2 λe d=>by obtain⟨i,c⟩:=DU d;have f:=C1 c;rw[BR]at f;rw[Jk o!]at c;rw[j i e c,F! (show¬a<=i by omega)];simp];rw[(List.filter_eq_nil_iff (l:=L.drop b)).2 λe d=>by obtain⟨i,c⟩:=DU d;rw[Km]at c;rw[j _ e c,F! (show¬b+i<b by omega)];simp];rw[B4,DN];refine List.filter_congr λe d=>?_;obtain⟨i,c⟩:=DU d;rw[Km]at c;have f:=C1 c;rw[BR]at f;rw[Jk o!]at c;rw[j _ e c,G! (show a<=a+i by omega),G! (show a+i<b by omega)];simp
def Cov(a:AI)(l:Aa)(k:Nat):Prop:=∀m:Int,1<=m->m<=k->∀p lo hi,QR a p lo hi->rT a l lo m
def AEb{a:AI}{l:Aa}(h:VB a)(b:Do l):QI (a,l)=δ 0:=by obtain⟨v,c,rfl⟩:=Fb h;obtain⟨w,d,rfl⟩:=Gv b;grind[QI,Bool.not_true]
def fu(x:AS):Di:=(x.1,x.2.1,nC x)
def img(L:List EN)(n:Nat):List Di:=(List.range n).map λ(i:Nat)=>fu (st L i)
theorem Nk(L:List EN)(n:Nat):(img L n).length=n:=by grind[img,List.length_map,List.length_range]
theorem tq{L:List EN}{n i:Nat}(h:i<n):(img L n)[i]?=δ (fu (st L i)):=by grind[img,List.getElem?_range]
theorem bH{L:List EN}{n:Nat}{i:Int}(a:0<=i)(h:i<n):ix (img L n) i=δ (fu (st L i)):=by have⟨v,c,b,_⟩:=AJ (l:=img L n) a (by rw[Nk];exact h);grind[tq,Int.toNat_of_nonneg,Option.some.inj]
def yg(L:List EN)(n:Nat):img L (n+1)=img L n++[fu (st L n)]:=by grind[img,List.range_succ]
theorem ABp{L:List EN}(h:Hs L){p:Int}{k:Nat}(a:(st (L.take k) p).2.1=0):st (L.take k) p=(p,0,GO.all (η,[])):=by rw[KB]at a;exact(lY h (j:=k) (k:=0) (by rw[a];rfl)).trans rfl
def tn{L:List EN}(h:Hs L)(a:θ L<=1099511627776){p:Int}(b:0<=p/\p<64){k:Nat}:GS (nC (st (L.take k) p),p)=δ (st (L.take k) p,0):=by grind[AES,Ys,ABp,U3]
theorem om{L:List EN}(h:Hs L)(l:θ L<=1099511627776){s:Int}{n k:Nat}(d:1<=s/\s<=1073741824)(hn:1<=n/\n<=64):Ki (s,(n:Int),img (L.take k) n)=δ ζ:=by
 suffices d:As (Ki (s,(n:Int),img (L.take k) n)) λr=>r=ζ by obtain⟨r,hr,rfl⟩:=d;exact hr
 unfold Ki;dsimp only;have c:len (img (L.take k) n)=n:=by grind[Nk]
 rw[F! o!,A!,F! o!,A!,F! o!,A!,F! o!,A!,c,F! o!,A!];refine AA (P:=λr=>r=.inr ()) ?_ λr hr=>by rw[hr];exact A4 (AB rfl)
 refine Cp (λ(s:Int)=>0<=s/\s<=n) (λs=>((n:Int)-s).toNat) ⟨Af _,o!⟩ (λi j=>?_);have⟨e,o⟩:=j;unfold dI;dsimp only;rw[c];refine AC (λa=>?_) (λ_=>As.done rfl);have f:As (δ (Step.next (wi (i+1))):Option (Step Int (Bool⊕Unit))) (Nn (λ(s:Int)=>0<=s/\s<=n) (λs=>((n:Int)-s).toNat) ((n:Int)-i).toNat λr=>r=.inr ()):=by grind[AZ,As.next]
 have g:(fu (st (L.take k) i)).1=i:=U3 _ _;rw[bH e a,AD,g,F! o!,A!];have b:GS ((fu (st (L.take k) i)).2.2,i)=δ (st (L.take k) i,0):=tn h l ⟨e,o!⟩;refine AC (λm=>?_) (λ_=>?_);rw[AZ,bH o! o!,AD,show(fu (st (L.take k) (i-1))).1=i-1 from U3 _ _,F! o!,A!,b,AD];exact AL (λa=>N! rfl a) (λ_=>AL (λa=>N! rfl a) (λ_=>f));rw[b,AD];exact AL (λa=>N! rfl a) (λ_=>AL (λa=>N! rfl a) (λ_=>f))
def AGu{L:List EN}(h:Hs L)(a:θ L<=1099511627776){s:Int}{n k:Nat}(b:1<=s/\s<=1073741824)(hn:1<=n/\n<=64):WB (s,(n:Int),img (L.take k) n)=δ ζ:=by unfold WB;rw[om h a b hn,AD,B!];dsimp only;rw[(by grind[Nk]:len (img (L.take k) n)=n),L!]
def AEH{m:Nat}(h:m<=64):JY (1,(m:Int))=δ (1,(m:Int),img [] m):=by
 suffices d:As (JY (1,(m:Int))) λr=>r=(1,(m:Int),img [] m) by obtain⟨r,hr,rfl⟩:=d;exact hr
 unfold JY;refine AA (P:=λr=>r=(img [] m,1,(m:Int))) ?_ λr hr=>AB (by rw[hr]);refine Cp (λ(t:Int×List Di×Int×Int)=>0<=t.1/\t.1<=m/\t.2=(img [] t.1.toNat,1,(m:Int))) (λt=>((m:Int)-t.1).toNat) ⟨Af _,d!,rfl⟩ ?_;rintro⟨i,t⟩ ⟨b,f,c⟩;dsimp only at b f c;subst c;unfold To;dsimp only;refine AC (λa=>?_) (λa=>As.done ?_)
 ·rw[re,AD];refine AA (Ad (by rw[Nk];simp;omega)) λv e=>?_;rw[AZ];refine As.next ⟨d!,d!,?_⟩ d!
  dsimp only;rw[e.1,show(i+1).toNat=i.toNat+1 by omega,yg,I5 b];rfl
 rw[show i.toNat=m by omega]
def Hs.nil:Hs []:=λi e h=>by simp at h
def ADn{L:List EN}{a:AI}{l:Aa}{k:Nat}(b:l.1=1)(d:k<=θ l.2.1):Cov a l k:=λm f g p e c _=>.inl o!
def ADg{l:List Int}(h:∀c∈l,0≤c∧c<256):As (bif (τ ((len l)>500))then
    σ (W7 l 0 500) λd=>
    δ d
   else
   δ l) λr=>CX (r,0):=by
 refine AC (λa=>?_) (λa=>AB ⟨Af _,by simp only[len]at a;dsimp only;omega,h⟩);simp only[len]at a;refine AA (Bn) λd e=>AB ⟨Af _,d!,λc b=>?_⟩;dsimp only at b;rw[e.1]at b;exact h c (QU (GH b))
def ACj(x:AS):AIN x x=ζ:=by
 unfold AIN;simp only[L!,kp];generalize List.finRange 16=l;induction l with
 |nil=>rfl
 |cons i l a=>rw[List.foldr_cons];exact a
theorem bO{a:Type}{l r:List a}(h:r.Perm l):ξ (θ r) (θ l)=ζ:=by rw[h.length_eq];exact Hy _
def AAF{g v:Type}{c:g×g->Option v}{n:v->Bool}(y:∀p,As (c p) λ_=>True){l:List g}{b:Nat}(w:b<=θ l)(K:θ l<=16777000):As (AAE c n l (0,(b:Int))) λr=>r.Perm l:=by
 unfold AAE;refine AA (P:=λr=>r.Perm l) ?_ λr hr=>AB hr;refine Cp (λ(s:Int×List g)=>1<=s.1/\s.1<=b+1/\s.2.Perm l) (λs=>((b:Int)+1-s.1).toNat) ⟨by show 1<=wi (0+1);rw[AZ];decide,by show wi (0+1)<=_;rw[AZ];omega,kv _⟩ ?_;rintro⟨M,N⟩ ⟨B,C,h⟩;dsimp only at B C h;refine AC (λw=>?_) (λ_=>As.done h);have q:=h.length_eq;refine AA (P:=λr=>r.Perm l) ?_ λr hr=>?_
 ·refine Cp (λ(t:Int×List g)=>0<=t.1/\t.1<θ l/\t.2.Perm l) (λt=>t.1.toNat) ⟨d!,d!,h⟩ ?_;rintro⟨e,j⟩ ⟨d,D,i⟩;dsimp only at d D i;have O:=i.length_eq;unfold AD3;dsimp only;refine AA (P:=λr:Unit⊕Unit=>r=.inr ()->e>0) ?_ λr hr=>?_;refine AC (λa=>?_) (λ_=>AB λA=>by cases A);rw[AZ (x:=e-1)];refine AA (AJ d) λQ _=>AA (AJ d) λR _=>AA (AJ) λS _=>AA (AJ) λT _=>AA (y _) λU _=>AK (λ_=>AB λ_=>a) (λ_=>AB λ_=>a)
  ·refine BG (λu _=>As.done i) (λu z=>?_);have a:=hr (by cases u;exact z);rw[AZ (x:=e-1)];refine AA (AJ) λE _=>AA (AJ) λf k=>AA (AJ d) λF _=>AA (AJ d) λo m=>AA (AJ d) λG _=>AA (AJ d) λH _=>?_;have L:(Eo j e f).length=θ j:=og;refine AA (AJ) λI _=>AA (AJ) λJ _=>As.next ⟨d!,d!,?_⟩ d!
   dsimp only;unfold Eo;rw[(by have:=k.1;rw[Ar o!]at this;exact(Bg this).symm:f=j[(e-1).toNat]),(by have:=m.1;rw[Ar o!]at this;exact(Bg this).symm:o=j[e.toNat])];exact(List.set_set_perm o! o!).trans i
 ·grind[AZ,As.next]
def AHF{a:Type}{f:List a->Int×Int->Option (List a)}{l:List a}(d:As (f l (0,(θ l:Int))) λr=>r.Perm l)(h:θ l<=12)(n:Int):As (rU (λ(_:List a×(Int×(Int×Int))->Option (List a)) p=>pdG f p.1 p.2) (l,0,len l,n)) λr=>r.Perm l:=by
 have step:As (pdG f l (0,len l,n)) λr=>r.Perm l:=by unfold pdG;refine AA (P:=λr=>r.Perm l) ?_ λr hr=>AB hr;rw[HG];unfold AIM;dsimp[len];rw[AZ,G! o!,B!];have⟨r,hr,e⟩:=d;grind[bO]
 have⟨r,hr,e⟩:=step;have⟨s,c⟩:=fy (f:=λ(_:List a×(Int×(Int×Int))->Option (List a)) p=>pdG f p.1 p.2) (x:=(l,0,len l,n)) (n:=1) hr;have⟨N,b⟩:=c7 c;refine⟨s,c,?_⟩;cases N with
 |zero=>cases b
 |succ N=>exact step.get b
def AHJ{a:Type}{f:List a->Int×(Int×Int)->Option (List a)}{l:List a}(b:∀n,As (f l (0,len l,n)) λr=>r.Perm l)(h:θ l<=12):As (soG f l) λr=>r.Perm l:=by unfold soG Sy;obtain⟨n,g,-,-⟩:=AA3 (x:=θ l) o!;grind[We,AA,bO,AB]
def AGn{l:List Int}(h:θ l<=12):As (Lw l ()) λr=>r.Perm l:=AHJ (λn=>AHF (AAF (λp=>Vy.mono λ_ _=>O!) (An _) o!) h n) h
def AJp(p:A8×A8):As (P8 p) λ_=>True:=by grind[P8,AA,Rw,AB]
def AJq(p:Bi×Bi):As (P7 p) λ_=>True:=by grind[P7,AA,Rw,AB]
def AGo{l:List A8}(h:θ l<=12):As (Gf l ()) λr=>r.Perm l:=AHJ (λn=>AHF (AAF AJp (An _) o!) h n) h
def AGq{l:List Bi}(h:θ l<=12):As (EU l ()) λr=>r.Perm l:=by
 unfold EU;refine AA (P:=λr=>r.Perm l) ?_ λr hr=>by rw[bO hr,B!];exact AB hr
 unfold JC;rw[HG];unfold L3;dsimp[len];rw[F! o!,A!];dsimp[σ];have⟨r,hr,b⟩:=AAF (n:=λa=>decide (a<0)) AJq (An (θ l)) o!;grind[Er,bO,HG,L4,AB]
def xS{a:AI}{r:AQ}(h:BD a.2.1 a.1):As (FY (a,r)) λk=>0<=k->a.1[k.toNat]?=δ r.2.2.1:=by
 have b:=h.2.2.2.1;refine AA (P:=λq=>∀k:Int,q=.inl k->a.1[k.toNat]?=δ r.2.2.1) ?_ λq f=>?_
 ·refine Cp (λ(s:Int)=>0<=s/\s<=θ a.1) (λs=>((θ a.1:Int)-s).toNat) ⟨Af _,o!⟩ (λs c=>?_);have⟨g,i⟩:=c;unfold HN;dsimp[len];refine AC (λe=>?_) (λ_=>As.done λk d=>by cases d);have hr:=nZ h (Ar o!:a.1[s.toNat]?=δ (a.1[s.toNat]' o!));grind[Int.toNat_of_nonneg,AZ,AP,As.done,As.next]
 grind[BG,AB]
def Good.refE{a:AI}{f:Aq}{r:AQ}(h:Good a f r)(c:BD a.2.1 a.1):∃k:Nat,DH (a,f)=δ (r,(k:Int))/\a.1[k]?=δ r.2.2.1:=by have⟨e,g,i,b⟩:=h;have⟨k,k1,d,j⟩:=(rF (r:=r) c).and (xS (r:=r) c);refine⟨k.toNat,?_,j (d.2 b)⟩;unfold DH;rw[e,g,H!,A!,xZ i,AD,show(((r,(0:Int)):AQ×Int).2 !=0)=η from rfl,A!,k1,AD,I5 (d.2 b)]
def Beh(a b:NE):Prop:=a.1.2.1<b.1.1
def Lt(a b:NE):Prop:=a.1.2.2.1<b.1.2.2.1\/(a.1.2.2.1=b.1.2.2.1/\Beh a b)
def ABk{L:List EN}{x:AI}(h:AR L x)(e:NE):e∈DZ x↔∃f∈x.2.2.1,Good x f e.1/\e.2=f.2.1:=⟨λd=>by have⟨f,a,b,c,_⟩:=h.mem d;exact⟨f,a,b,c⟩,λ⟨f,a,b,c⟩=>by have:=Po h.vb.1 a b;rw[<-c]at this;exact this⟩
def qQ{L:List EN}{x:AI}(h:AR L x){e:NE}(a:e∈DZ x):1<=e.1.1/\e.1.1<=e.1.2.1:=by have⟨f,_,g,_⟩:=h.mem a;have:=g.2.2.1.1;exact⟨this.1,this.2.1⟩
def AB6{s2:List AQ×List Int×Int}{v4:AQ×Int}(h:θ s2.1<=16777215):As (Ai (HD s2 v4) (len s2.1)) λr=>0<=r/\r<=θ s2.1/\(∀e∈s2.1.drop r.toNat,v4.1.1<=e.1)/\(0<r->∀e,s2.1[r.toNat-1]?=δ e->e.1<=v4.1.1):=by refine Cp (λ(s:Int)=>0<=s/\s<=θ s2.1/\∀e∈s2.1.drop s.toNat,v4.1.1<=e.1) (λ(s:Int)=>s.toNat) ⟨by unfold len;omega,by unfold len;omega,λe a=>by simp[len]at a⟩ (λs i=>?_);have⟨f,g,b⟩:=i;unfold HD;refine AC (λj=>?_) (λj=>As.done ⟨f,g,b,λl=>N! l o!⟩);rw[AZ];refine AA (AJ) λm c=>AC (λk=>As.next ⟨o!,o!,λe a=>?_⟩ o!) (λk=>As.done ⟨f,g,b,λ_ e a=>?_⟩);rw[show s.toNat=(s-1).toNat+1 by omega]at b;have d:=C1 c.1;rw[TX d]at a;rcases Aw.1 a with q|q;have:=c.1;rw[Ar d]at this;grind[Option.some.inj];exact b e q;have:=c.1;rw[show(s-1).toNat=s.toNat-1 by omega,a]at this;rw[Bg this];omega
def W2(x:AI)(k:Nat)(s:List AQ×List Int×Int):Prop:=0<=s.2.2/\s.2.2<=θ x.2.2.1/\∃M:List NE,s.1=M.map (·.1)/\s.2.1=M.map (·.2)/\θ M<=s.2.2/\M.Pairwise Beh/\∀e,e∈M↔(∃f∈x.2.2.1.take s.2.2.toNat,Good x f e.1/\e.2=f.2.1)/\x.1[k]?=δ e.1.2.2.1
def AB5{x:AI}{L:List EN}{s1:Int×List AQ×List Int×List Bool}(h:AR L x){k:Nat}(hp:s1.1=k):As (Ai (Em x s1) ([],[],0)) λr=>∃M:List NE,r=(M.map (·.1),M.map (·.2))/\θ M<=256/\M.Pairwise Beh/\∀e,e∈M↔e∈DZ x/\x.1[k]?=δ e.1.2.2.1:=by
 obtain⟨⟨b1,b2,b3,b4,b5,b6,b7⟩,a1,a2,a3,a4,a5,a6⟩:=h.vb;refine Cp (W2 x k) (λs=>((θ x.2.2.1:Int)-s.2.2).toNat) ⟨Af _,d!,[],rfl,rfl,k!,List.Pairwise.nil,λe=>k!⟩ ?_;rintro⟨A,B,i⟩ ⟨i1,i2,M,eA,eB,i4,W,X⟩;dsimp only at i1 i2 eA eB i4 X;subst eA eB;unfold Em;dsimp only[len];rw[AZ (x:=i+1)];refine AC (λhc=>?_) (λhc=>As.done ⟨M,rfl,o!,W,λe=>by rw[X e,ABk h,BP o!]⟩);refine AA (AJ i1 hc) λZ P=>?_;have et:x.2.2.1.take (i+1).toNat=x.2.2.1.take i.toNat++[Z]:=by rw[show(i+1).toNat=i.toNat+1 by omega,Co,P.1];rfl
 have C:(∀e:NE,Good x Z e.1->x.1[k]? ≠δ e.1.2.2.1)->As (δ (Step.next (M.map (·.1),M.map (·.2),i+1)):Option (Step (List AQ×List Int×Int) (List AQ×List Int))) (Nn (W2 x k) (λs=>((θ x.2.2.1:Int)-s.2.2).toNat) ((θ x.2.2.1:Int)-i).toNat λr=>∃M:List NE,r=(M.map (·.1),M.map (·.2))/\θ M<=256/\M.Pairwise Beh/\∀e,e∈M↔e∈DZ x/\x.1[k]?=δ e.1.2.2.1):=λhn=>by
  refine As.next ⟨d!,d!,M,rfl,rfl,d!,W,λe=>?_⟩ d!
  dsimp only;rw[X e,et];constructor;rintro⟨⟨f,o,l⟩,m⟩;exact⟨⟨f,Ak.2 (.inl o),l⟩,m⟩;rintro⟨⟨f,o,l⟩,m⟩;rcases Ak.1 o with q|q;exact⟨⟨f,q,l⟩,m⟩;rw[BA.1 q]at l;exact N! m (hn e l.1)
 rcases h.files Z P.2 with u|⟨r,D,_⟩;obtain⟨r,hr⟩:=u.ref (a:=x);rw[hr,AD];dsimp only;rw[show((-1:Int) !=s1.1)=ζ by rw[hp];exact bne_iff_ne.2 o!,B!];exact C λe v=>N! v.2.1 (u.2 _ v.2.2.1.wr);obtain⟨kk,hr,F⟩:=D.refE h.vb.1;rw[hr,AD];dsimp only;rw[hp];refine AL (λa9=>C λe v hk=>a9 ?_) (λT=>?_);have e1:=tP v.2.2.1 D.2.2.1 (v.2.1.symm.trans D.2.1);rw[e1]at hk;rw[h.vb.1.inj F hk];have T:kk=k:=o!
 subst T;refine AA (AB6 (s2:=(M.map (·.1),M.map (·.2),i)) (v4:=(r,(kk:Int))) (by dsimp only;rw[BT];omega)) λc h7=>?_;obtain⟨Y,g2,g3,g4⟩:=h7;dsimp only at g2 g3 g4;rw[BT]at g2;have m1:(M.map (·.1)).length=θ M:=BT _;have m2:(M.map (·.2)).length=θ M:=BT _;refine AA (Bn (Af _) Y) λv8 h8=>AA (Bn Y) λv9 h9=>?_;have l8:=h8.2;have l9:=h9.2;refine AA (Ad w!) λca H=>?_;have bb:=H.2.1;simp only[Bb]at bb;refine AA (Ad w!) λcb I=>?_;have bl:=I.2.1;simp only[Bb,Ba]at bl;refine AA (Ad o!) λbz ax=>AA (Bn (Af _) Y) λbG J=>?_;have b9:=J.2;refine AA (AJ i1 hc) λd a0=>?_;have ao:d=Z:=by have:=a0.1;rw[P.1]at this;exact(Bg this).symm
 subst ao;refine AA (Bn Y) λbN K=>?_;have b':=K.2;refine AA (Ad w!) λcc N=>?_;have bm:=N.2.1;simp only[Bb]at bm;refine AA (Ad w!) λcd O=>?_;have bt:=O.2.1;simp only[Bb,Ba]at bt;refine AA (Ad o!) λb0 a7=>?_;have z:∀{β:Type}(g:NE->β)(a b:List β),a=List.take (c.toNat-ο 0) (List.drop (ο 0) (M.map g))->b=List.take (((M.map g).length:Int).toNat-c.toNat) (List.drop c.toNat (M.map g))->a=(M.take c.toNat).map g/\b=(M.drop c.toNat).map g:=λg a b t u=>by refine⟨?_,?_⟩;rw[t,mZ];rfl;rw[u,eF];exact BP (by rw[C5];omega)
 obtain⟨e8,e9⟩:=z (·.1) v8 v9 h8.1 h9.1;obtain⟨al,ap⟩:=z (·.2) bG bN J.1 K.1;have ad:bz=(M.take c.toNat++(r,d.2.1)::M.drop c.toNat).map (·.1):=by rw[ax.1,I.1,H.1,e8,e9];simp
 have ar:b0=(M.take c.toNat++(r,d.2.1)::M.drop c.toNat).map (·.2):=by rw[a7.1,O.1,N.1,al,ap];simp
 have y:=Po h.vb.1 P.2 D;have U:∀a∈M,a∈DZ x/\a.1.2.2.1=r.2.2.1/\a≠(r,d.2.1):=λa t=>by
  obtain⟨⟨f,o,l,m⟩,G⟩:=(X a).1 t;refine⟨(ABk h a).2 ⟨f,GH o,l,m⟩,?_,λv=>?_⟩;rw[F]at G;exact(Bg G).symm;obtain⟨j,p⟩:=DU o;have E:=C1 p;rw[BR]at E;rw[Jk o!,Ar o!]at p;have Q:=P.1;rw[Ar o!]at Q;have:=Gm.1 (vZ h.vb) j i.toNat o! o! o!
  rw[Bg p,Bg Q]at this;rw[v]at m;dsimp only at m;omega
 have S:∀a∈M.take c.toNat,Beh a (r,d.2.1):=λa t=>by
  have a8:=GH t;obtain⟨q1,q2,q3⟩:=U a a8;have ra:=qQ h q1;have rr:=qQ h y;obtain⟨j,p⟩:=DU t;have E:=C1 p;rw[BR]at E;rw[Jk o!]at p;have n:M[c.toNat-1]?=δ (M[c.toNat-1]' o!):=Ar o!;have V:(M[c.toNat-1]' o!).1.1<=r.1:=g4 o! _ (by rw[CL,n];rfl);have b8:a.1.1<=r.1:=by by_cases v:j=c.toNat-1;rw[v,n]at p;rw[<-Bg p];exact V;have:=Gm.1 W j (c.toNat-1) o! o! o!;rw[Ar o!]at p;rw[Bg p]at this;unfold Beh at this;omega
  rcases h.dis a q1 _ y q3 q2 with w|w;exact w;dsimp only at w rr;omega
 have R:∀b∈M.drop c.toNat,Beh (r,d.2.1) b:=λb u=>by obtain⟨q1,q2,q3⟩:=U b (QU u);have rb:=qQ h q1;have rr:=qQ h y;have V:=g3 b.1 (by rw[<-eF];exact Vm u);rcases h.dis _ y b q1 (On q3) q2.symm with w|w;exact w;dsimp only at w rr;omega
 rw[ad,ar];refine As.next ⟨d!,d!,_,rfl,rfl,by simp[AY,Ba,BR,C5];omega,?_,λe=>?_⟩ d!
 rw[<-Dr c.toNat M]at W;obtain⟨p1,p2,p3⟩:=List.pairwise_append.1 W;refine List.pairwise_append.2 ⟨p1,List.pairwise_cons.2 ⟨R,p2⟩,λa t b u=>?_⟩;rcases Aw.1 u with q|q;rw[q];exact S a t;exact p3 a t b q;dsimp only;rw[et];have a':e∈M.take c.toNat++(r,d.2.1)::M.drop c.toNat↔e∈M\/e=(r,d.2.1):=by
  conv=>rhs;rw[<-Dr c.toNat M]
  simp only[Ak,Aw];constructor;rintro(q|q|q);exact .inl (.inl q);exact .inr q;exact .inl (.inr q);rintro((q|q)|q);exact .inl q;exact .inr (.inr q);exact .inr (.inl q)
 rw[a',X e];constructor;rintro(⟨⟨f,o,l⟩,m⟩|q);exact⟨⟨f,Ak.2 (.inl o),l⟩,m⟩;rw[q];exact⟨⟨d,Ak.2 (.inr (BA.2 rfl)),D,rfl⟩,F⟩;rintro⟨⟨f,o,l,G⟩,m⟩;rcases Ak.1 o with q|q;exact .inl ⟨⟨f,q,l,G⟩,m⟩;rw[BA.1 q]at l G;have e1:=tP l.2.2.1 D.2.2.1 (l.2.1.symm.trans D.2.1);exact .inr (Ck e1 G)
def AB7{M:List NE}{t:List AQ×List Int×List Bool}(v:M.Pairwise Beh)(m:∀e∈M,1<=e.1.1/\e.1.1<=e.1.2.1)(w:θ M<=256)(z:θ t.1<=100000)(A:θ t.2.1<=100000)(B:θ t.2.2<=100000):As (Ai (En (M.map (·.1),M.map (·.2))) (0,0,t)) λr=>r=(t.1++M.map (·.1),(t.2.1++M.map (·.2),t.2.2++M.map λ_=>ζ)):=by
 have y:(M.map (·.1)).length=θ M:=BT _;refine Cp (λ(s:Int×Int×List AQ×List Int×List Bool)=>∃k:Nat,s.2.1=k/\k<=θ M/\s.2.2=(t.1++(M.take k).map (·.1),(t.2.1++(M.take k).map (·.2),t.2.2++(M.take k).map λ_=>ζ))/\((k=0/\s.1=0)\/∃e,0<k/\M[k-1]?=δ e/\s.1=e.1.2.1)) (λs=>((θ M:Int)-s.2.1).toNat) ⟨0,rfl,Bc _,k!,.inl ⟨rfl,rfl⟩⟩ ?_;rintro⟨j,_,T⟩ ⟨k,rfl,k1,rfl,o⟩;dsimp only at o;unfold En;dsimp[len];rw[AZ (x:=(k:Int)+1)];refine AC (λl=>?_) (λl=>As.done (by rw[BP o!]));have a:k<θ M:=o!
 have h:ix (M.map (·.1)) (k:Int)=δ M[k].1:=by unfold ix;rw[C! o!,Int.toNat_natCast,List.getElem?_map,List.getElem?_eq_getElem a];rfl
 have i:ix (M.map (·.2)) (k:Int)=δ M[k].2:=by unfold ix;rw[C! o!,Int.toNat_natCast,List.getElem?_map,List.getElem?_eq_getElem a];rfl
 have n:=m _ (Jl a);have b:j<M[k].1.1:=by grind[List.pairwise_iff_getElem,List.getElem?_eq_getElem,Option.some.inj,Beh]
 have g:M.take (k+1)=M.take k++[M[k]]:=by grind[List.take_add_one,List.getElem?_eq_getElem]
 have l1:=eE k M;rw[h,AD,F! o!,A!,AD,i,AD,AD];rw[show FT (M[k].1,j)=δ M[k].1 by unfold FT;rw[G! (by exact b)];rfl,Option.bind_some];refine AA (Ad w!) λp c=>AA (Ad w!) λq d=>AA (Ad w!) λu f=>?_;rw[AD];refine As.next ⟨k+1,rfl,a,?_,.inr ⟨M[k],o!,Ar a,rfl⟩⟩ d!
 dsimp only;rw[c.1,d.1,f.1,g,G! (by exact b)];simp only[J7,Bf,HQ,A5]
def AFa{x:AI}{L:List EN}(h:AR L x):As (F6 x) λr=>∃W:List NE,r=(W.map (·.1),(W.map (·.2),W.map λ_=>ζ))/\W.Pairwise Lt/\∀e,e∈W↔e∈DZ x:=by
 obtain⟨⟨E,F,G,H,I,J,K⟩,a1,a2,a3,a4,a5,a6⟩:=h.vb;unfold F6;refine AA WD λQ A=>AO (λt=>N! (A.2 h.vb) (by simp[t])) (λ_=>AA (P:=λr=>∃W:List NE,r=(W.map (·.1),(W.map (·.2),W.map λ_=>ζ))/\W.Pairwise Lt/\∀e,e∈W↔e∈DZ x) ?_ λr hr=>AB hr);refine Cp (λ(s:Int×List AQ×List Int×List Bool)=>∃(i:Nat)(W:List NE),s.1=i/\i<=θ x.1/\s.2=(W.map (·.1),(W.map (·.2),W.map λ_=>ζ))/\θ W<=256*i/\W.Pairwise Lt/\∀e,e∈W↔e∈DZ x/\∃k:Nat,k<i/\x.1[k]?=δ e.1.2.2.1) (λs=>((θ x.1:Int)-s.1).toNat) ⟨0,[],rfl,Bc _,rfl,k!,List.Pairwise.nil,λe=>k!⟩ ?_;rintro⟨_,_⟩ ⟨i,W,rfl,N,rfl,O,y,v⟩;unfold NQ;dsimp only[len];rw[AZ (x:=(i:Int)+1)];refine AC (λt=>?_) (λt=>As.done ⟨W,rfl,y,λe=>?_⟩)
 ·refine AA (AB5 h rfl) λC l=>?_;obtain⟨M,rfl,B,z,j⟩:=l;refine AA (AB7 z (λe u=>qQ h ((j e).1 u).1) B (by rw[BT];omega) (by rw[BT];omega) (by rw[BT];omega)) λD m=>As.next ⟨i+1,W++M,rfl,o!,by rw[m];simp,by rw[AY];omega,List.pairwise_append.2 ⟨y,?_,λa n b p=>?_⟩,λe=>?_⟩ d!
  refine pB ?_ z;intro a b n p o;have w:=((j a).1 n).2;rw[((j b).1 p).2]at w;exact .inr ⟨(Bg w).symm,o⟩;obtain⟨_,k,k1,c⟩:=(v a).1 n;obtain⟨d,rfl⟩:∃d,i=k+1+d:=⟨i-(k+1),o!⟩
  exact .inl (h.vb.1.lt d k _ _ c ((j b).1 p).2);rw[Ak,v e,j e];constructor;rintro(⟨q,k,k1,c⟩|⟨q1,q2⟩);exact⟨q,k,o!,c⟩;exact⟨q1,i,o!,q2⟩;rintro⟨q,k,k1,c⟩;by_cases u:k=i;rw[u]at c;exact .inr ⟨q,c⟩;exact .inl ⟨q,k,o!,c⟩
 rw[v e];refine⟨λq=>q.1,λq=>⟨q,?_⟩⟩;obtain⟨f,_,g,_⟩:=h.mem q;obtain⟨k,k1,_⟩:=g.2.2.2;have:=C1 k1;exact⟨k,o!,k1⟩
def AHc{x:AI}{L:List EN}(h:AR L x):As (Qv x) λr=>∃W:List NE,r=(W.map (·.1),W.map (·.2))/\W.Pairwise Lt/\θ W<=256/\∀e,e∈W↔e∈DZ x:=by refine AA (AFa h) λr hr=>?_;obtain⟨W,rfl,i,g⟩:=hr;refine AB ⟨W,rfl,i,?_,g⟩;have f:W.Nodup:=I4.2 (i.imp_of_mem λ{a b} j k c d=>by subst d;have:=qQ h ((g a).1 j);rcases c with q|⟨_,q⟩;omega;unfold Beh at q;omega);have q1:=iC W (DZ x) f λe d=>(g e).1 d;have q2:(DZ x).length<=θ x.2.2.1:=List.length_filterMap_le _ _;have:=h.vb.2.2.2.2.2.1;omega
def Src(L:List EN)(p:Int)(rs:List AQ):Prop:=θ rs<=256/\∀r∈rs,VR r/\bS L r/\r.2.2.1<=p/\p<=r.2.2.2.1
def AGa{a:AI}{l:Aa}{p i j:Int}:As (Px (a,l,p,i,j)) λr=>r=0->0<=p/\p<a.2.1/\0<=i/\i<=j:=by refine AA J5 λk g=>AO (λ_=>AB n!) (λ_=>AA Bo λm h=>AO (λ_=>AB n!) (λ_=>AC (λ_=>AB n!) (λc=>AC (λ_=>AB n!) (λd=>AC (λ_=>AB n!) (λe=>AC (λ_=>AB n!) (λf=>AB λ_=>?_))))));dsimp only at c d e f;omega
def AHY{a:AI}{p:Int}(h:VB a)(o:0<=p/\p<a.2.1):As (Qu (a,p)) λr=>∃k:Nat,a.1[k]?=δ r.1/\r.1<=p/\p<=pu a k:=by
 have i:=h.1.2.2.2.1;have w:=h.1.2.2.1;refine AA WD λB g=>AO (λc=>N! (g.2 h) (by simp[c])) (λ_=>?_);dsimp only;rw[F! o!,A!,F! o!,A!];refine AA (P:=λk:Int=>∃m:Nat,k=m/\∃b,a.1[m]?=δ b/\b<=p/\p<=pu a m) ?_ λk n=>?_
 ·refine Cp (λ(s:Int)=>0<=s/\s<θ a.1/\∃b,a.1[s.toNat]?=δ b/\b<=p) (λs=>((θ a.1:Int)-s).toNat) ⟨Af _,o!,0,h.1.2.2.2.2.1,o.1⟩ (λs j=>?_);have⟨x,y,b,e,f⟩:=j;unfold T2;dsimp[len];rw[AZ];refine AC (λc=>AA (AJ o! c) λv q=>?_) (λc=>As.done ⟨s.toNat,o!,b,e,f,?_⟩)
  ·have u:(s+1).toNat=s.toNat+1:=o!
   refine AC (λd=>As.next ⟨o!,o!,v,q.1,d⟩ o!) (λl=>As.done ⟨s.toNat,o!,b,e,f,?_⟩);grind[pu]
  grind[pu,List.getElem?_eq_none]
 obtain⟨m,rfl,b,t,z,A⟩:=n;rw[nZ h.1 t,AD];grind[AB]
def AE0{L:List EN}{a:AI}{l:Aa}{p:Int}(h:AR L a)(F:0<=p/\p<a.2.1):As (NS (a,l,p)) λr=>∃(M:List NE)(v D:Int),QR a p v D/\r=(M.map (·.1),M.map (·.2),l)/\M.Pairwise Beh/\(∀e,e∈M↔e∈DZ a/\e.1.2.2.1=v)/\Src L p (M.map (·.1)):=by
 refine AA (AHY h.vb F) λc A=>AA (AHc h) λY B=>?_;have⟨k,k1,t,u⟩:=A;dsimp only at k1 t u;obtain⟨W,rfl,K,N,w⟩:=B;have U:(W.map (·.1)).length=θ W:=BT _;refine AA (P:=λr=>r=((W.filter λe=>e.1.2.2.1==c.1).map (·.1),(W.filter λe=>e.1.2.2.1==c.1).map (·.2),l)) ?_ λr hr=>AB ⟨W.filter λe=>e.1.2.2.1==c.1,c.1,pu a k,⟨k,k1,rfl,t,u⟩,hr,?_,?_,?_⟩
 ·refine Cp (λ(s:Int×List AQ×List Int×Aa)=>∃k:Nat,s.1=k/\k<=θ W/\s.2=(((W.take k).filter λe=>e.1.2.2.1==c.1).map (·.1),((W.take k).filter λe=>e.1.2.2.1==c.1).map (·.2),l)) (λs=>((θ W:Int)-s.1).toNat) ⟨0,rfl,Bc _,rfl⟩ ?_;rintro⟨_,_⟩ ⟨k,rfl,T,rfl⟩;unfold QG;dsimp[len];rw[AZ (x:=(k:Int)+1)];refine AC (λC=>?_) (λC=>As.done (by rw[BP o!]));have d:k<θ W:=o!
  have j:ix (W.map (·.1)) (k:Int)=δ W[k].1:=by unfold ix;rw[C! o!,Int.toNat_natCast,List.getElem?_map,List.getElem?_eq_getElem d];rfl
  have m:ix (W.map (·.2)) (k:Int)=δ W[k].2:=by unfold ix;rw[C! o!,Int.toNat_natCast,List.getElem?_map,List.getElem?_eq_getElem d];rfl
  have H:W.take (k+1)=W.take k++[W[k]]:=by grind[List.take_add_one,List.getElem?_eq_getElem]
  have V:=FF (λe:NE=>e.1.2.2.1==c.1) (W.take k);have X:=eE k W;rw[j,AD];refine AA (P:=λr=>r=(((W.take (k+1)).filter λe=>e.1.2.2.1==c.1).map (·.1),((W.take (k+1)).filter λe=>e.1.2.2.1==c.1).map (·.2),l)) (AP (λo=>?_) (λE=>AB ?_)) λr hr=>As.next ⟨k+1,rfl,d,hr⟩ d!
  rw[AD,m,AD];refine AA (Ad w!) λZ R=>AA (Ad w!) λv7 S=>AB ?_;grind;grind
 apply (K.filter _).imp_of_mem;intro x y I J n;have O:=eq_of_beq (BU.1 I).2;have Q:=eq_of_beq (BU.1 J).2;rcases n with q|⟨_,q⟩;omega;exact q;intro e;rw[BU,w e,J!];refine⟨by rw[BT];exact Ct (FF _ _) N,λq G=>?_⟩;obtain⟨e,o,rfl⟩:=Bs.1 G;have⟨q1,q2⟩:=BU.1 o;have⟨f,_,g,_,z,_⟩:=h.mem ((w e).1 q1);have i:=eq_of_beq q2;have b:=g.2.2.2;rw[i]at b;have:=b.uniq h.vb.1 ⟨k,k1,rfl⟩;exact⟨g.2.2.1,z,o!⟩
def js(rs:List AQ)(l:Aa)(m:Int):Prop:=(∃r∈rs,r.1<=m/\m<=r.2.1)\/(l.1<=m/\m<=l.1+θ l.2.1-1)
def ABV{l:Aa}{m:Int}(h:Do l):It (l,m)=δ (τ (l.1<=m/\m<=l.1+θ l.2.1-1)):=by have a:=h.1;have b:=h.2.1;have d:=h.2.2.1;unfold It;dsimp[len];rw[AZ];by_cases c:l.1<=m<;>grind
theorem AH6{L:List EN}{p m:Int}{a:List AQ}{E:List Int}{l:Aa}(h:Src L p a)(w:Do l)(hm:0<=m/\m<=2199023255552):As (Qy ((a,E,l),m)) λv=>m-1<=v/\v<=2199023255552/\(∀q,m<=q->q<=v->js a l q)/\(v=m-1->¬js a l m):=by
 have X:=w.1;have Y:=w.2.1;have Z:=w.2.2.1;refine AA (P:=λv=>m-1<=v/\v<=2199023255552/\(∀q,m<=q->q<=v->js a l q)/\∀r∈a,r.1<=m->m<=r.2.1->m<=v) ?_ λv5 K=>?_
 ·refine Cp (λ(s:Int×Int)=>0<=s.2/\s.2<=θ a/\m-1<=s.1/\s.1<=2199023255552/\(∀q,m<=q->q<=s.1->js a l q)/\∀r∈a.take s.2.toNat,r.1<=m->m<=r.2.1->m<=s.1) (λs=>((θ a:Int)-s.2).toNat) ⟨Af _,d!,by dsimp only;rw[AZ];omega,by dsimp only;rw[AZ];omega,λq q1 q2=>by dsimp only at q2;rw[AZ]at q2;omega,λr hr=>by simp at hr⟩ ?_;rintro⟨b,k⟩ ⟨y,R,i,j,n,D⟩;dsimp only at y R i j n D;have Q:=h.1;unfold T7;dsimp[len];refine AC (λu=>?_) (λu=>As.done ⟨i,j,n,by rw[BP o!]at D;exact D⟩);rw[AZ (x:=k+1)];refine AA (AJ y u) λo e=>?_;have W:a.take (k+1).toNat=a.take k.toNat++[o]:=by rw[show(k+1).toNat=k.toNat+1 by omega,Co,e.1];rfl
  have hr:=(h.2 o e.2).1.1;have keep:∀t,b<=t->(o.1<=m->m<=o.2.1->m<=t)->∀r∈a.take (k+1).toNat,r.1<=m->m<=r.2.1->m<=t:=λt hb C r O q1 q2=>by grind[List.mem_singleton]
  refine AC (λN=>?_) (λB=>As.next ⟨d!,d!,i,j,n,keep b (Af _) λq=>N! q B⟩ d!);refine AA (AJ y u) λF z=>?_;have I:F=o:=by grind[Option.some.inj]
  subst I;refine AA (P:=λv=>m-1<=v/\v<=2199023255552/\(∀q,m<=q->q<=v->js a l q)/\b<=v/\(m<=F.2.1->m<=v)) ?_ λV c=>As.next ⟨d!,d!,c.1,c.2.1,c.2.2.1,keep V c.2.2.2.1 λ_=>c.2.2.2.2⟩ d!
  refine AC (λg=>AA (AJ y u) λH A=>AB ?_) (λg=>AB ⟨i,j,n,Af _,λq=>N! q g⟩);have J:H=F:=by grind[Option.some.inj]
  subst J;have G:=hr.2.2.1;split;exact⟨o!,o!,λq q1 q2=>.inl ⟨H,e.2,o!,q2⟩,o!,id⟩;exact⟨i,j,n,Af _,λq=>o!⟩
 rw[ABV w,AD];dsimp[len];have⟨e,z,A,c⟩:=K;refine AA (P:=λv=>m-1<=v/\v<=2199023255552/\(∀q,m<=q->q<=v->js a l q)/\(v=m-1->¬js a l m)) ?_ λv7 M=>AB M;refine AC (λf=>AB ?_) (λf=>AB ⟨e,z,A,λC d=>?_⟩);rw[AZ (x:=l.1+θ l.2.1),AZ];split;exact⟨o!,o!,λq q1 q2=>.inr o!,λC=>o!⟩;exact⟨e,z,A,λC=>o!⟩;rcases d with⟨r,S,T,U⟩|d;have:=c r S T U;omega;exact f d
def ACJ{L:List EN}{p i j:Int}{a:List AQ}{c:List Int}{l:Aa}(h:Src L p a)(n:Do l)(k:0<=i)(m:j<=1099511627776)(f:i<=j):As (OO ((a,c,l),i,j)) λb=>b=ζ↔∀q,i<q->q<=j->js a l q:=by
 refine AA (P:=λr=>(r=.inl η/\∃q,i<q/\q<=j/\¬js a l q)\/(r=.inr ()/\∀q,i<q->q<=j->js a l q)) ?_ λr hr=>?_
 ·refine Cp (λ(s:Int)=>i<=s/\s<=2199023255552/\∀q,i<q->q<=s->js a l q) (λs=>(j-s).toNat) ⟨Af _,d!,λq q1 q2=>by dsimp only at q2;omega⟩ (λs d=>?_);have⟨o,t,g⟩:=d;unfold Qx;dsimp only;refine AC (λe=>?_) (λe=>As.done (.inr ⟨rfl,λq q1 q2=>g q q1 o!⟩));grind[AZ,AA,AH6,AP,As.done,As.next]
 grind[BK,AB,A4]
def AEs{r:AQ}{p:Int}(h:VR r):As (PG (r,p)) λv=>v=r.2.2.2.2.2.filter λe=>e.2.2.2.2.2.2.1.1==p:=by have m:=h.1.2.2.2.2.2.2.2.2;refine AA Xj λn f=>AO (λa=>N! (f.2 h) (by simp[a])) (λ_=>AA (P:=λv=>v=r.2.2.2.2.2.filter λe=>e.2.2.2.2.2.2.1.1==p) ?_ λv j=>AB j);refine Cp (λ(s:Int×List EN)=>0<=s.1/\s.1<=θ r.2.2.2.2.2/\s.2=(r.2.2.2.2.2.take s.1.toNat).filter λe=>e.2.2.2.2.2.2.1.1==p) (λs=>((θ r.2.2.2.2.2:Int)-s.1).toNat) ⟨Af _,d!,k!⟩ ?_;rintro⟨s,A⟩ ⟨b,k,d⟩;dsimp only at b k d;unfold Rk;dsimp[len];refine AC (λa=>?_) (λa=>As.done (by rw[d,BP o!]));refine AA (AJ b a) λo g=>?_;have i:=lM (p:=λe:EN=>e.2.2.2.2.2.2.1.1==p) b g.1;have c:=oF (l:=r.2.2.2.2.2) (p:=λe:EN=>e.2.2.2.2.2.2.1.1==p) b;rw[<-d]at c;rw[AZ];grind[AA,As.next,AP,AJ,Ad,AB,Option.some.inj]
def zk{L:List EN}{p i j:Int}{c:List AQ}(V:Uq L)(h:Src L p c):As (NR (c,p,i,j)) λr=>θ r<=1048576/\∀y,y∈r↔∃q∈c,y∈q.2.2.2.2.2/\y.2.2.2.2.2.2.1.1=p/\i<y.1/\y.1<=j:=by
 have W:=h.1;refine AA (P:=λr=>θ r<=1048576/\∀y,y∈r↔∃q∈c,y∈q.2.2.2.2.2/\y.2.2.2.2.2.2.1.1=p/\i<y.1/\y.1<=j) ?_ λr hr=>AB hr;refine Cp (λ(s:List EN×Int)=>0<=s.2/\s.2<=θ c/\θ s.1<=4096*s.2/\∀y,y∈s.1↔∃q∈c.take s.2.toNat,y∈q.2.2.2.2.2/\y.2.2.2.2.2.2.1.1=p/\i<y.1/\y.1<=j) (λs=>((θ c:Int)-s.2).toNat) ⟨Af _,d!,k!,λy=>k!⟩ ?_;rintro⟨A,k⟩ ⟨M,X,Y,n⟩;dsimp only at M X Y n;unfold QE;dsimp[len];refine AC (λK=>?_) (λK=>As.done ⟨o!,λy=>by rw[n y,BP o!]⟩);refine AA (AJ M K) λu I=>?_;have⟨H,S,g3,g4⟩:=h.2 u I.2;have hl:=H.1.2.2.2.2.2.2.2.2;refine AA (AEs H) λa C=>?_;have G:=FF (λe:EN=>e.2.2.2.2.2.2.1.1==p) u.2.2.2.2.2;rw[<-C]at G;have D:∀y∈A,y∈L:=λy f=>by have⟨q,q1,q2,_⟩:=(n y).1 f;exact(((h.2 q (GH q1)).2.1.mem y).1 q2).1
 have g:∀y∈a,y∈L:=λy f=>by rw[C]at f;exact((S.mem y).1 (BU.1 f).1).1
 refine AA (P:=λr=>θ r<=θ A+θ a/\∀y,y∈r↔y∈A\/(y∈a/\i<y.1/\y.1<=j)) ?_ λr hr=>?_
 ·refine Cp (λ(s:List EN×Int)=>0<=s.2/\s.2<=θ a/\θ s.1<=θ A+s.2/\∀y,y∈s.1↔y∈A\/(y∈a.take s.2.toNat/\i<y.1/\y.1<=j)) (λs=>((θ a:Int)-s.2).toNat) ⟨Af _,d!,d!,λy=>k!⟩ ?_;rintro⟨B,m⟩ ⟨o,Z,j2,t⟩;dsimp only at o Z j2 t;unfold QF;dsimp[len];refine AC (λb=>?_) (λb=>As.done ⟨o!,λy=>by rw[t y,BP o!]⟩);refine AA (AJ o b) λv l=>?_;rw[AZ (x:=m+1)];have z:a.take (m+1).toNat=a.take m.toNat++[v]:=by rw[show(m+1).toNat=m.toNat+1 by omega,Co,l.1];rfl
  have d:¬(i<v.1/\v.1<=j)->∀y,y∈B↔y∈A\/(y∈a.take (m+1).toNat/\i<y.1/\y.1<=j):=λhn y=>by grind[List.mem_singleton]
  refine AC (λE=>?_) (λE=>As.next ⟨d!,d!,d!,d λq=>o!⟩ d!);refine AA (AJ o b) λN T=>?_;have Q:N=v:=by have:=T.1;rw[l.1]at this;exact(Bg this).symm
  subst Q;refine AA (P:=λr=>θ r<=θ B+1/\∀y,y∈r↔y∈A\/(y∈a.take (m+1).toNat/\i<y.1/\y.1<=j)) ?_ λr hr=>As.next ⟨d!,d!,by have:=hr.1;dsimp only;omega,hr.2⟩ d!
  refine AC (λF=>?_) (λF=>AB ⟨o!,d λq=>o!⟩);refine AA (AJ o b) λO U=>?_;have R:O=N:=by have:=U.1;rw[l.1]at this;exact(Bg this).symm
  subst R;refine AA (nW V (λy f=>?_) (g O l.2) o!) λv7 J=>AB ⟨J.1,λy=>?_⟩;rcases(t y).1 f with q|q;exact D y q;exact g y (GH q.1);rw[J.2 y,t y,z,Ak,BA];constructor;rintro((q|⟨q1,q2⟩)|q);exact .inl q;exact .inr ⟨.inl q1,q2⟩;exact .inr ⟨.inr q,by rw[q];omega⟩;rintro(q|⟨q1|q1,q2⟩);exact .inl (.inl q);exact .inl (.inr ⟨q1,q2⟩);exact .inr q1
 ·rw[AZ];refine As.next ⟨d!,d!,by have:=hr.1;dsimp only;omega,λy=>?_⟩ d!
  dsimp only;have z:c.take (k+1).toNat=c.take k.toNat++[u]:=by rw[show(k+1).toNat=k.toNat+1 by omega,Co,I.1];rfl
  rw[hr.2 y,n y,z,C,BU,J!];constructor;rintro(⟨q,q1,q2⟩|⟨⟨q1,q2⟩,q3⟩);exact⟨q,HS _ q1,q2⟩;exact⟨u,Oh _ (BA.2 rfl),q1,q2,q3⟩;rintro⟨q,q1,q2,q3,q4⟩;rcases Ak.1 q1 with w|w;exact .inl ⟨q,w,q2,q3,q4⟩;rw[BA.1 w]at q2;exact .inr ⟨⟨q2,q3⟩,q4⟩
def AEB{l:Aa}{p i j:Int}(h:Do l):As (PJ (l,p,i,j)) λr=>r=l.2.1.filter (LK p i j):=by
 have z:=h.2.2.1;refine AA (P:=λr=>r=l.2.1.filter (LK p i j)) ?_ λr hr=>AB hr;refine Cp (λ(q:Int×List EN)=>0<=q.1/\q.1<=θ l.2.1/\q.2=(l.2.1.take q.1.toNat).filter (LK p i j)) (λq=>((θ l.2.1:Int)-q.1).toNat) ⟨Af _,d!,k!⟩ (λq v=>?_);have⟨q1,q2,q3⟩:=v;unfold Ro;dsimp[len];refine AC (λo=>?_) (λo=>As.done (by rw[q3,BP o!]));refine AA (AJ q1 o) λs t=>?_;have k:=lM (p:=LK p i j) q1 t.1;have f:=oF (l:=l.2.1) (p:=LK p i j) q1;rw[<-q3]at f;rw[AZ (x:=q.1+1)];have m:LK p i j s=η->As (δ (Step.next (q.1+1,q.2)):Option (Step (Int×List EN) (List EN))) (Nn (λ(q:Int×List EN)=>0<=q.1/\q.1<=θ l.2.1/\q.2=(l.2.1.take q.1.toNat).filter (LK p i j)) (λq=>((θ l.2.1:Int)-q.1).toNat) ((θ l.2.1:Int)-q.1).toNat λr=>r=l.2.1.filter (LK p i j)):=λw=>As.next ⟨d!,d!,by dsimp only;rw[k,w,q3];simp⟩ d!
 refine AA CK λn u=>?_;have e:im s=n:=by grind[im]
 refine AK (λa=>?_) (λa=>m (by unfold LK;rw[e,a];rfl));refine AP (λc=>?_) (λc=>m (by unfold LK;rw[beq_eq_false_iff_ne.2 c];simp));refine AC (λb=>?_) (λb=>m (by unfold LK;rw[F! b];simp));refine AA (P:=λr=>r=(l.2.1.take (q.1+1).toNat).filter (LK p i j)) ?_ λy d=>As.next ⟨d!,d!,d⟩ d!
 refine AC (λg=>?_) (λg=>AB ?_);grind[AA,Ad,AB,LK];grind[LK]
def AD2{a:List AQ}{m:Int}(h:θ a<=256):As (PH (a,m)) λ_=>True:=by refine AA (P:=λ_=>True) ?_ λr _=>BG (λu _=>AB trivial) (λu _=>AB trivial);refine Cp (λ(s:Int)=>0<=s/\s<=θ a) (λs=>((θ a:Int)-s).toNat) ⟨Af _,o!⟩ (λs d=>?_);have⟨c,e⟩:=d;unfold Rn;dsimp[len];refine AC (λb=>?_) (λ_=>As.done trivial);rw[AZ];refine AA (AJ c b) λf _=>AC (λ_=>AA (AJ c b) λg _=>AC (λ_=>As.done trivial) (λ_=>As.next o! o!)) (λ_=>As.next o! o!)
def AG8{l:List EN}{e:EN}(h:θ l<=16777216):As (Nj (l,e)) λ_=>True:=by refine AA (P:=λ_=>True) ?_ λr _=>BG (λu _=>AB trivial) (λu _=>AB trivial);refine Cp (λ(s:Int)=>0<=s/\s<=θ l) (λs=>((θ l:Int)-s).toNat) ⟨Af _,o!⟩ (λs a=>?_);have⟨c,d⟩:=a;unfold Uu;dsimp[len];refine AC (λb=>?_) (λ_=>As.done trivial);rw[AZ];exact AA (AJ c b) λf _=>AK (λ_=>As.done trivial) (λ_=>As.next o! o!)
def AFW{L A B:List EN}{m:List AQ}{l:Aa}(Q:Uq L)(v:Do l)(N:∀y∈A,y∈L)(O:∀y∈B,y∈L)(q:θ m<=256)(K:θ A<=1048576)(M:θ B<=4096):As (Pw (m,l,A,B)) λr=>r.2=ζ->θ r.1<=1052672/\∀y,y∈r.1↔y∈A\/y∈B:=by
 refine AA (Ad w!) λz p=>?_;have h:=p.1;rw[B4]at h;dsimp only at h;subst z;refine AA (P:=λr=>(∃u,r=.inl u/\u.2=η)\/∃C,r=.inr C/\θ C<=θ A+θ B/\∀y,y∈C↔y∈A\/y∈B) ?_ λr hr=>?_
 ·refine Cp (λ(s:List EN×Int)=>0<=s.2/\s.2<=θ B/\θ s.1<=θ A+s.2/\∀y,y∈s.1↔y∈A\/y∈B.take s.2.toNat) (λs=>((θ B:Int)-s.2).toNat) ⟨Af _,d!,d!,λy=>k!⟩ ?_;rintro⟨C,k⟩ ⟨c,i,w,j⟩;dsimp only at c i w j;unfold Sk;dsimp[len];refine AC (λa=>?_) (λa=>As.done (.inr ⟨C,rfl,o!,λy=>by rw[j y,BP o!]⟩));refine AA (AJ c a) λG o=>AA (AD2 q) λR _=>?_;rw[AZ (x:=k+1)];have J:B.take (k+1).toNat=B.take k.toNat++[G]:=by rw[show(k+1).toNat=k.toNat+1 by omega,Co,o.1];rfl
  have f:∀d,B[k.toNat]?=δ d/\d∈B->As (σ (DF (C,d)) λH=>δ (Step.next (H.1,k+1)):Option (Step (List EN×Int) ((List EN×Bool)⊕List EN))) (Nn (λ(s:List EN×Int)=>0<=s.2/\s.2<=θ B/\θ s.1<=θ A+s.2/\∀y,y∈s.1↔y∈A\/y∈B.take s.2.toNat) (λs=>((θ B:Int)-s.2).toNat) ((θ B:Int)-k).toNat λr=>(∃u,r=.inl u/\u.2=η)\/∃C,r=.inr C/\θ C<=θ A+θ B/\∀y,y∈C↔y∈A\/y∈B):=λd g=>by grind[Option.some.inj,AA,nW,List.mem_of_mem_take,As.next,List.mem_singleton]
  refine AC (λ_=>AA (AJ c a) λS _=>AA (AG8 o!) λT _=>AO (λ_=>As.done (.inl ⟨_,rfl,rfl⟩)) (λ_=>AA (AJ c a) λd g=>f d g)) (λ_=>AA (AJ c a) λd g=>f d g)
 ·rcases hr with⟨u,rfl,b⟩|⟨C,rfl,I,n⟩;exact BK (AB λe=>by rw[b]at e;cases e)
  ·refine A4 (AA (P:=λr=>∀u,r=.inl u->u.2=η) ?_ λr hr=>BG (λu b=>AB λe=>by rw[hr u b]at e;cases e) (λu b=>AB λ_=>⟨d!,n⟩));refine Cp (λ(s:Int)=>0<=s/\s<=θ A) (λs=>((θ A:Int)-s).toNat) ⟨Af _,o!⟩ (λs t=>?_);have⟨c,i⟩:=t;unfold Sl;dsimp[len];refine AC (λa=>?_) (λ_=>As.done λu b=>by cases b);rw[AZ];refine AA (AJ c a) λD _=>?_;rw[ABV v,AD];exact AC (λ_=>AA (AJ c a) λE _=>AA (AG8 o!) λF _=>AO (λ_=>As.done λu b=>by cases b;rfl) (λ_=>As.next o! o!)) (λ_=>As.next o! o!)
def AHV{L:List EN}{a:AI}{l:Aa}{p i j:Int}(hN:Hs L)(hA:AR L a)(t:TR L l)(hj:j<=1099511627776):As (TL (a,l,p,i,j)) λr=>r.2=0->r.1=L.filter (LK p i j):=by
 have G:=t.sorted;have hU:Uq L:=λx hx y E K=>Xe (by refine I4.2 ((S5).2 (G.imp λh=>?_));omega) hx E K;refine AA AGa λv0 h0=>AL (λH=>AB λo=>N! o H) (λo=>?_);have⟨p0,p1,i0,ij⟩:=h0 o;refine AA (AE0 hA ⟨p0,p1⟩) λv1 h1=>?_;obtain⟨M,lo,hh,a0,rfl,ap,hM,z⟩:=h1;dsimp only at z;refine AA (ACJ z t.vl i0 hj ij) λv2 h2=>AO (λ_=>AB n!) (λJ=>?_);have al:=h2.1 J;refine AA (zk hU z) λv3 X=>AA (AEB t.vl) λv4 Y=>?_;have Z:∀y∈v3,y∈L:=λy E=>by have⟨q,q1,q2,_⟩:=(X.2 y).1 E;exact(((z.2 q q1).2.1.mem y).1 q2).1
 have ad:∀y∈v4,y∈L:=λy E=>by rw[Y]at E;exact((t.tail y).1 (BU.1 E).1).1
 have A:θ v4<=4096:=by rw[Y];exact Ct (FF _ _) t.vl.2.2.1
 refine AA (AFW hU t.vl Z ad z.1 X.1 A) λc h5=>AO (λ_=>AB n!) (λht=>?_);have⟨u1,u2⟩:=h5 ht;have w:∀y,y∈c.1↔y∈L.filter (LK p i j):=λy=>by rw[u2 y,X.2 y,Y,BU,BU];constructor;rintro(⟨q,q1,q2,q3,q4,q5⟩|⟨q1,q2⟩);have:=((z.2 q q1).2.1.mem y).1 q2;refine⟨this.1,?_⟩;unfold LK;rw[this.2.1,beq_iff_eq.2 q3,G! (show y.1>i from q4),G! q5];rfl;exact⟨((t.tail y).1 q1).1,q2⟩;rintro⟨q1,q2⟩;have hw:=q2;unfold LK at hw;simp[BW,K!,J!]at hw;have⟨w1,w2,w3,w4⟩:=hw;rcases al y.1 w3 w4 with⟨r,T,r2,r3⟩|⟨T,r2⟩;have⟨_,g2,g3,g4⟩:=z.2 r T;exact .inl ⟨r,T,(g2.mem y).2 ⟨q1,w1,o!,o!,r2,r3⟩,w2,w3,w4⟩;exact .inr ⟨(t.tail y).2 ⟨q1,T,r2⟩,q2⟩
 refine AA (P:=λr=>(∀u,r=.inl u->u.2=13)/\(r=.inr ()->∀(k:Nat)(e f:EN),c.1[k]?=δ e->c.1[k+1]?=δ f->f.2.2.2.2.1=e.1)) ?_ λr hr=>BG (λu B=>AB λo=>by rw[hr.1 u B]at o;cases o) (λu B=>AB λ_=>?_)
 ·refine Cp (λ(s:Int)=>0<=s/\s<=θ c.1/\∀(k:Nat)(e f:EN),(k:Int)+1<s->c.1[k]?=δ e->c.1[k+1]?=δ f->f.2.2.2.2.1=e.1) (λs=>((θ c.1:Int)-s).toNat) ⟨Af _,o!,λk e f n=>o!⟩ (λs hI=>?_);have⟨s0,s1,s2⟩:=hI;unfold Ve;dsimp[len];have F:∀u:List EN×Int,u=([],13)->(∀v,(Sum.inl u:(List EN×Int)⊕Unit)=.inl v->v.2=13)/\((Sum.inl u:(List EN×Int)⊕Unit)=.inr ()->∀(k:Nat)(e f:EN),c.1[k]?=δ e->c.1[k+1]?=δ f->f.2.2.2.2.1=e.1):=λu B=>⟨λv hv=>by cases hv;rw[B],λh=>by cases h⟩
  refine AC (λH=>?_) (λH=>As.done ⟨λu B=>(by cases B),λ_ k e f n g=>s2 k e f (by have:=C1 g;omega) n g⟩);rw[AZ (x:=s+1)];have Q:0<s->As (σ (ix c.1 s) λR=>σ (ix c.1 (wi (s-1))) λS=>bif (R.2.2.2.2.1 !=S.1)then δ (.done (.inl ([],13)))else δ (.next (s+1)):Option (Step Int ((List EN×Int)⊕Unit))) (Nn (λ(s:Int)=>0<=s/\s<=θ c.1/\∀(k:Nat)(e f:EN),(k:Int)+1<s->c.1[k]?=δ e->c.1[k+1]?=δ f->f.2.2.2.2.1=e.1) (λs=>((θ c.1:Int)-s).toNat) ((θ c.1:Int)-s).toNat λr=>(∀u,r=.inl u->u.2=13)/\(r=.inr ()->∀(k:Nat)(e f:EN),c.1[k]?=δ e->c.1[k+1]?=δ f->f.2.2.2.2.1=e.1)):=λD=>by
   rw[AZ];refine AA (AJ s0 H) λR V=>AA (AJ) λS W=>AL (λ_=>As.done (F _ rfl)) (λK=>As.next ⟨o!,o!,λk e f n N g=>?_⟩ o!);by_cases ao:(k:Int)+1<s;exact s2 k e f ao N g;have ek:k+1=s.toNat:=o!
   have U:(s-1).toNat=k:=o!
   rw[ek,V.1]at g;have:=W.1;rw[U,N]at this;rw[<-Bg g,Bg this];exact K
  apply AP<;>intro hs
  ·refine AA (AJ s0 H) λv7 g7=>AC (λ_=>As.done (F _ rfl)) (λ_=>AC (λD=>N! D o!) (λ_=>As.next ⟨o!,o!,λk e f n=>o!⟩ o!))
  exact AC (λD=>Q D) (λD=>N! D o!)
 subst B;dsimp only;have I:=hr.2 rfl;refine rK ?_ (G.filter _) w;have O:∀e∈c.1,e.2.2.2.2.1<e.1:=λe K=>by have⟨k,n⟩:=FG.1 (BU.1 ((w e).1 K)).1;exact(hN k e n).2.2.2.2.2.2.1
 have step:∀(d k:Nat)(e f:EN),c.1[k]?=δ e->c.1[k+1+d]?=δ f->e.1<f.1:=by
  intro d;induction d with
  |zero=>intro k e f n C;have:=I k e f n C;have:=O f (BN C);omega
  |succ d ih=>intro k e f n C;have ax:=C1 C;have hg:c.1[k+1+d]?=δ (c.1[k+1+d]' o!):=Ar o!;have a:=ih k e _ n hg;have b:=I (k+1+d) _ f hg C;have:=O f (BN C);omega
 rw[Gm];intro k m n hm ar;obtain⟨d,rfl⟩:∃d,m=k+1+d:=⟨m-(k+1),o!⟩
 exact step d k _ _ (Ar n) (Ar hm)
def ADH{x:AS}{a:List AE}(q:OKs x a)(d:θ a<=4096):Mq (x,a)=δ (a.foldl upd x,0):=by
 suffices t:As (Mq (x,a)) λr=>r=(a.foldl upd x,0) by obtain⟨r,hr,rfl⟩:=t;exact hr
 generalize v:a.foldl upd x=y;refine AA (P:=λr=>∃z,r=.inr (y,z)) ?_ λr hr=>?_
 ·refine Cp (λ(s:Int×AS×AS)=>∃A B,a=A++B/\s.1=θ A/\OKs s.2.1 B/\B.foldl upd s.2.1=y) (λ(s:Int×AS×AS)=>((θ a:Int)-s.1).toNat) ⟨[],a,rfl,rfl,q,v⟩ ?_;rintro⟨i,x,z⟩ ⟨A,B,rfl,g,h,c⟩;dsimp only at g h c;subst g;unfold UB;dsimp[len];rw[AY]at d;refine AC (λb=>?_) (λb=>As.done ?_)
  ·obtain _|⟨e,B⟩:=B;simp at b;have u:ix (A++e::B) (θ A:Int)=δ e:=by unfold ix;rw[C! o!,Cz,Ci (An _),Gp];rfl
   have⟨⟨j,f,k,l,m,n⟩,o⟩:=h;have p:e.2.2.2.2.1<e.1:=f.2.2.2.2.2.1;rw[u,AD,F! o!,A!,AD,AA0 j f k l m n,AD,AZ (x:=(θ A:Int)+1)];refine AL (λb=>N! rfl b) (λ_=>As.next ⟨A++[e],B,k!,k!,o,c⟩ d!)
  obtain _|⟨e,B⟩:=B;exact⟨z,by rw[<-c];rfl⟩;simp at b;omega
 grind[A4,AB]
def ADG{n:Int}{L:List EN}{a:AI}{l:Aa}{p:Int}{j k:Nat}(t:LI n L)(b:Hs L)(h:AR L a)(f:TR L l)(e:j<=k)(v:k<=θ L)(m:0<=p/\p<a.2.1)(d:p<64):As (Qz (st (L.take j) p,a,l,(k:Int))) λr=>r.2=0->r.1=st (L.take k) p:=by have i:=f.len;have w:=Uz b p j;have u:=gj (b.take j) p;rw[BR]at u;refine AA WD λx o=>AO (λc=>N! (o.2 h.vb) (by simp[c])) (λ_=>AA Bo λy q=>AO (λc=>N! (q.2 f.vl) (by simp[c])) (λ_=>?_));rw[bP ((Ys b ⟨m.1,d⟩ (by omega:θ L<=1099511627776)) j),AD];refine AL (λc=>N! rfl c) (λ_=>?_);dsimp only;rw[KB,U3,F! o!,A!];refine AA (AHV b h f o!) λz s=>AL (λc=>AB λg=>N! g c) (λg=>?_);rw[s g,show Bd (L.take j) p=(((Bd (L.take j) p).toNat:Nat):Int) by omega,ABt b o!,oC b (j:=j) o! (Xp b),ADH (xK b t ⟨m.1,d⟩ o! j k e) (by have:=FF (cu p) ((L.take k).drop j);rw[C5,BR]at this;omega),<-lZ e,AD];exact AB λ_=>rfl
def AGk{A t:BX}{b:UInt8}:six (A++b::t) (θ A:Int)=δ (b.toNat:Int):=by grind[six]
def AGY{x:AS}(h:HO x):As (Ai (Gi (H4 x)) (0,(x.1,x.2.1,GO.all (η,[])),0,0,GO.all (η,[]))) λr=>∃z,r=.inr (x,z):=by
 have y:=cw h;refine Cp (λ(s:Int×AS×AS)=>0<=s.1/\s.1<=16/\s.2.1.1=x.1/\s.2.1.2.1=x.2.1/\∀j:Fin 16,s.2.1.2.2 j=if(j.val:Int)<s.1 then x.2.2 j else(η,[])) (λ(s:Int×AS×AS)=>(16-s.1).toNat) ⟨Af _,u!,rfl,rfl,λj=>by rw[D! d!];rfl⟩ ?_;rintro⟨i,⟨p,n,a⟩,z⟩ ⟨l,J,C,hn,g⟩;dsimp only at l J C hn g;subst C hn;unfold Gi;dsimp only;refine AC (λk=>?_) (λk=>As.done ⟨z,?_⟩)
 ·rw[AZ (x:=i*13),AZ (x:=12+i*13),AZ (x:=12+i*13+1),AZ (x:=i+1)];have⟨N,D⟩:=mM (a:=x.2.2) (i:=i.toNat) o!;have⟨A,r,t,M⟩:=vX h (i:=i.toNat) o!;have b:=h.cl i.toNat
  generalize G:cl x.2.2 i.toNat=c at*;have B:θ A+(13+θ r)=256:=by have:=y;rw[t,AY,AY,cr b.1]at this;exact this
  have f:six (H4 x) (12+i*13)=δ (if c.1=ζ then(θ c.2:Int)else 255):=by have q:=b.1;have e:WN c=UInt8.ofNat ((if c.1=ζ then(θ c.2:Int)else 255)%256).toNat::(c.2++jN (12-θ c.2)):=rfl;rw[t,show(12+i*13:Int)=(θ A:Int) by omega,e,EO,AGk,eR];apply E! δ;split<;>omega
  rw[f,AD];have E:∀m:GO 16 Cg,(∀j:Fin 16,m j=if(j.val:Int)<i+1 then x.2.2 j else(η,[]))->As (δ (Step.next (i+1,(x.1,x.2.1,m),z)):Option (Step (Int×AS×AS) ((Int×AS)⊕(AS×AS)))) (Nn (λ(s:Int×AS×AS)=>0<=s.1/\s.1<=16/\s.2.1.1=x.1/\s.2.1.2.1=x.2.1/\∀j:Fin 16,s.2.1.2.2 j=if(j.val:Int)<s.1 then x.2.2 j else(η,[])) (λ(s:Int×AS×AS)=>(16-s.1).toNat) (16-i).toNat λr=>∃z,r=.inr (x,z)):=λm o=>As.next ⟨d!,d!,rfl,rfl,o⟩ d!
  by_cases d:c.1=ζ;have q:=b.1;rw[C! d,AZ (x:=(θ c.2:Int)),beq_eq_false_iff_ne.2 o!,A!,F! o!,A!,AZ];have⟨s,I,u⟩:=CY (s:=H4 x) (lo:=12+i*13+1) (hi:=12+i*13+1+(θ c.2:Int)) o! o! (by rw[y];omega);have w:s=c.2:=by
   rw[u.1,t];have K:(12+i*13+1).toNat=θ A+1:=o!
   have L:(12+i*13+1+(θ c.2:Int)).toNat-(12+i*13+1).toNat=θ c.2:=o!
   grind[List.drop_drop,List.drop_left,WN,List.append_assoc,List.drop_left',A0,List.take_left]
  rw[I,w,AD];have⟨v,F,_⟩:=DX (a:=a) l k;rw[F,AD,AD];exact E _ (AA8 g ⟨l,k⟩ λH=>D.symm.trans (Ck d rfl));rw[D! d,AZ,beq_iff_eq.2 rfl,B!];exact E _ (yC g ⟨l,k⟩ λH=>D.symm.trans (Ck (by simpa using d) (b.2.resolve_left d)))
 refine E! Sum.inr (Ck (Ck rfl (Ck rfl (funext λj=>?_))) rfl);exact(g j).trans (C! o!)
def AAm{a t:BX}{n k:Int}(h:(θ a:Int)+θ t<=2199023255552)(b:1<=k)(d:k<=8)(e:k<=θ t)(g:t.take k.toNat=C8 n k.toNat)(hn:0<=n)(f:n<256^k.toNat)(c:n<9223372036854775808):Ay (a++t,(θ a:Int),k)=δ (n,0):=by grind[jQ,AAh]
theorem ACn{x:AS}(h:HO x)(hn:x.2.1≠0):Ec (H4 x)=δ (x,0):=by
 have b:=cw h;have p:=h.2.1;have q:=h.2.2.2.1;unfold Ec;have⟨o,q1,e⟩:=CY (s:=H4 x) (lo:=0) (hi:=8) g! g! (by rw[b];decide);have⟨l,q2,f⟩:=CY (s:=H4 x) (lo:=248) (hi:=256) g! g! (by rw[b];decide);have⟨m,q3,g⟩:=CY (s:=H4 x) (lo:=0) (hi:=244) g! g! (by rw[b];decide);have i:l=C8 x.2.1 8:=by rw[f.1];show List.take 8 (List.drop 248 (H4 x))=_;rw[oE h,BP (by rw[A0];exact An _)]
 have j:m=Ku x:=g.1.trans (by show List.take 244 (H4 x)=_;unfold H4;exact Gn (Gz h));have c:=Zf (Ku x);have q4:Ay (H4 x,244,4)=δ (PW (Ku x),0):=by have:=AAm (a:=Ku x) (t:=C8 (PW (Ku x)) 4++C8 x.2.1 8) (n:=PW (Ku x)) (k:=4) (by simp only[AY,A0,Gz h];decide) g! g! (by simp only[AY,A0];decide) (Gn (A0 _ _)) o! (by simp[Int.reduceToNat];omega) o!;rw[Gz h]at this;exact this
 have q5:Ay (H4 x,8,4)=δ (x.1,0):=by have:=AAm (a:=C8 x.2.1 8) (t:=C8 x.1 4++(Oy x.2.2 16++(jN 24++(C8 (PW (Ku x)) 4++C8 x.2.1 8)))) (n:=x.1) (k:=4) (by simp only[AY,A0,I8 h,jN,HP];omega) g! g! (by simp[AY,A0];omega) (by exact Gn (A0 _ _)) h.1 (by simp[Int.reduceToNat];omega) o!;grind[A0,H4,Ku,List.append_assoc]
 have q6:Ay (H4 x,0,8)=δ (x.2.1,0):=AAm (a:=[]) (t:=H4 x) (n:=x.2.1) (k:=8) (by rw[b];decide) g! g! (by rw[b];decide) Ua h.2.2.1 (by simp[Int.reduceToNat];omega) o!;obtain⟨v,d,z,rfl⟩:=AGY h;rw[(by simp[len];omega:len (H4 x)=256),H!,A!,re,AD,beq_eq_false_iff_ne.2 (ABO h hn),A!,q1,AD,q2,AD,e.1.trans Ua,i,H!,A!,q4,AD,q3,AD,j,wb (by rw[Gz h];decide),AD,show ι .u32 (PW (Ku x))=PW (Ku x) by rw[wU];omega,H!,A!,q6,AD,q5,AD,d,AD,mj,bP h,AD,H!,H!];rfl
theorem AEe{x:AS}(h:HO x)(a:x.2.1=0->x=(x.1,0,GO.all (η,[]))):Cv (nC x,x.1)=δ (x,0):=by have b:=h.1;have c:=h.2.1;unfold Cv nC;dsimp only;rw[F! o!,A!,F! o!,A!];by_cases hn:x.2.1=0;rw[C! hn];rw[(by grind[Ec,jN,List.length_replicate,re]:Ec (jN 256)=δ ((0,0,GO.all (η,[])),7)),AD];exact E! (λq=>δ (q,(0:Int))) (a hn).symm;grind[ACn]
def wM{L:List EN}(h:Hs L)(a:θ L<=1099511627776){p:Int}(b:0<=p/\p<64){k:Nat}:Cv (nC (st (L.take k) p),p)=δ (st (L.take k) p,0):=by grind[AEe,Ys,ABp,U3]
theorem kP(L:List EN)(n:Nat):len (img L n)=n:=by grind[Nk]
theorem sH{L:List EN}(h:Hs L)(j:θ L<=1099511627776){s:Int}{n k:Nat}(c:1<=s/\s<=1073741824)(hn:1<=n/\n<=64):Ez (s,(n:Int),img (L.take k) n)=δ ζ:=by
 suffices c:As (Ez (s,(n:Int),img (L.take k) n)) λr=>r=ζ by obtain⟨r,hr,rfl⟩:=c;exact hr
 unfold Ez;dsimp only;rw[F! o!,A!,F! o!,A!,F! o!,A!,F! o!,A!];refine AA (P:=λr=>r=.inr ()) ?_ λr hr=>by rw[hr];exact A4 (AB rfl)
 refine Cp (λ(s:Int)=>0<=s/\s<=n) (λs=>((n:Int)-s).toNat) ⟨Af _,o!⟩ (λi g=>?_);have⟨d,m⟩:=g;unfold Sm;dsimp only;rw[kP];refine AC (λa=>?_) (λ_=>As.done rfl);have e:As (δ (Step.next (wi (i+1))):Option (Step Int (Bool⊕Unit))) (Nn (λ(s:Int)=>0<=s/\s<=n) (λs=>((n:Int)-s).toNat) ((n:Int)-i).toNat λr=>r=.inr ()):=by grind[AZ,As.next]
 have f:(fu (st (L.take k) i)).1=i:=U3 _ _;rw[bH d a,AD,f,F! o!,A!,F! o!,A!];have b:Cv ((fu (st (L.take k) i)).2.2,i)=δ (st (L.take k) i,0):=wM h j ⟨d,o!⟩;refine AC (λl=>?_) (λ_=>?_);rw[AZ,bH o! o!,AD,show(fu (st (L.take k) (i-1))).1=i-1 from U3 _ _,F! o!,A!,b,AD];exact AL (λa=>N! rfl a) (λ_=>AL (λa=>N! rfl a) (λ_=>e));rw[b,AD];exact AL (λa=>N! rfl a) (λ_=>AL (λa=>N! rfl a) (λ_=>e))
def AGw{L:List EN}(h:Hs L)(a:θ L<=1099511627776){s:Int}{n k:Nat}(b:1<=s/\s<=1073741824)(hn:1<=n/\n<=64):Lu (s,(n:Int),img (L.take k) n)=δ ζ:=by grind[Lu,sH,kP]
def AHw{L:List EN}(h:Hs L)(d:θ L<=1099511627776){s i:Int}{n k:Nat}(e:1<=s/\s<=1073741824)(hn:1<=n/\n<=64)(c:0<=i/\i<n):Mn ((s,(n:Int),img (L.take k) n),i)=δ (fu (st (L.take k) i),ζ):=by
 suffices a:As (Mn ((s,(n:Int),img (L.take k) n),i)) λr=>r=(fu (st (L.take k) i),ζ) by obtain⟨r,hr,rfl⟩:=a;exact hr
 refine AA (P:=λr=>r=.inl (ζ,fu (st (L.take k) i))) ?_ λr hr=>by rw[hr];exact BK (AB rfl)
 refine Cp (λ(t:Int×Di)=>0<=t.1/\t.1<=i) (λt=>(i-t.1).toNat) ⟨Af _,c.1⟩ ?_;rintro⟨t,z⟩ ⟨b,f⟩;dsimp only at b f;unfold T9;dsimp only;rw[kP,G! o!,B!,sH h d e hn,AD,B!,bH b o!,AD,show(fu (st (L.take k) t)).1=t from U3 _ _];grind[AP,As.done,AZ,As.next]
def AIK{L:List EN}(h:Hs L)(a:θ L<=1099511627776){s i:Int}{n k:Nat}(c:1<=s/\s<=1073741824)(hn:1<=n/\n<=64)(b:0<=i/\i<n):Mo ((s,(n:Int),img (L.take k) n),i)=δ (st (L.take k) i,0):=by unfold Mo;dsimp only;rw[sH h a c hn,AD,CM,A!,AHw h a c hn b,AD];dsimp only;rw[CM,A!,show Cv ((fu (st (L.take k) i)).2.2,i)=δ (st (L.take k) i,0)from wM h a ⟨b.1,o!⟩];rfl
def ADC{n:Int}{L:List EN}{a:AI}{l:Aa}{w s:Int}{m j k:Nat}(H:LI n L)(e:Hs L)(y:AR L a)(q:TR L l)(f:j<=k)(I:k<=θ L)(R:(m:Int)=a.2.1)(hn:1<=m/\m<=64)(x:1<=w/\w<=1073741824):As (Mp ((w,(m:Int),img (L.take j) m),a,l,s,(k:Int))) λr=>r.2=0->1<=s/\s<=1073741824/\r.1=(s,(m:Int),img (L.take k) m):=by
 have A:=q.len;have J:=λp h=>Ys e (p:=p) h (by omega:θ L<=1099511627776);unfold Mp;rw[AGw e o! x hn,AD,CM,A!];refine AA WD λS o=>AO (λd=>N! (o.2 y.vb) (by simp[d])) (λ_=>AA Bo λT D=>AO (λd=>N! (D.2 q.vl) (by simp[d])) (λ_=>?_));dsimp only;refine AC (λ_=>AB n!) (λM=>AC (λ_=>AB n!) (λN=>AC (λ_=>AB n!) (λO=>AC (λ_=>AB n!) (λQ=>AA (P:=λr=>(∀u,r=.inl u->u.1≠0)/\∀u,r=.inr u->(u.1,u.2.1,u.2.2.1)=(img (L.take k) m,s,(m:Int))) ?_ λr hr=>BG (λu b=>AB λc=>N! c (hr.1 u b)) (λu b=>AB λ_=>⟨o!,o!,?_⟩)))))
 ·refine Cp (λ(t:Int×List Di×Int×Int×A8)=>0<=t.1/\t.1<=m/\∃z,t.2=(img (L.take k) t.1.toNat,s,(m:Int),z)) (λt=>((m:Int)-t.1).toNat) ⟨Af _,d!,_,rfl⟩ ?_;rintro⟨i,t⟩ ⟨g,K,z,B⟩;dsimp only at g K B;subst B;unfold UA;dsimp only;rw[kP];refine AC (λd=>?_) (λd=>As.done ⟨λu b=>(by cases b),λu b=>(by cases b;rw[show i.toNat=m by omega])⟩);have C:(fu (st (L.take j) i)).1=i:=U3 _ _;rw[bH g d,AD,C,AIK e o! x hn ⟨g,d⟩,AD];refine AA (ADG H e y q f I ⟨g,o!⟩ o!) λU E=>AL (λd=>As.done ⟨λu b=>(by cases b;exact d),λu b=>(by cases b)⟩) (λc=>?_);rw[E c];refine AA (P:=λv=>v=fu (st (L.take k) i)) ?_ λV F=>AA (Ad (by rw[Nk];simp;omega)) λW G=>?_;refine AC (λh=>?_) (λh=>AB ?_);grind[bP,AB,fu,nC];rw[KB]at h;have q1:=RK e i j k f;have q2:=Uz e i j;grind[lY]
  ·rw[AZ];refine As.next ⟨d!,d!,z,?_⟩ d!
   dsimp only;rw[G.1,F,show(i+1).toNat=i.toNat+1 by omega,yg,I5 g]
 have:=hr.2 u b;dsimp only;have q1:=E! (·.1) this;have q2:=E! (·.2.1) this;have q3:=E! (·.2.2) this;dsimp only at q1 q2 q3;rw[q1,q2,q3]
def xq(c:Di):BX:=C8 c.1 2++c.2.2
def zX(cs:List Di):BX:=cs.flatMap λc=>Hd (xq c)
def vj(x:A8):BX:=[80,77,73,77]++(C8 x.1 4++(C8 x.2.1 2++C8 (θ x.2.2:Int) 2))
def encI(x:A8):BX:=Hd (vj x)++zX x.2.2
def xB(x:A8):(vj x).length=12:=by grind[vj,List.length_append,A0,List.length_cons,List.length_nil]
theorem tG{x:AS}(h:HO x):(nC x).length=256:=by grind[nC,jN,List.length_replicate,cw]
def ABK{L:List EN}(h:Hs L)(b:θ L<=1099511627776){k n:Nat}(hn:n<=64){c:Di}(a:c∈img (L.take k) n):(xq c).length=258:=by grind[List.mem_iff_getElem?,C1,Nk,tq,Option.some.inj,xq,fu,List.length_append,A0,tG,Ys]
theorem rj{a:List Di}(h:∀c∈a,(xq c).length=258):(zX a).length=266*θ a:=by induction a<;>grind[zX,Hd,xq,List.length_append,Ep,List.length_cons]
def zb{L:List EN}(h:Hs L)(m:θ L<=1099511627776){s:Int}{n k:Nat}(y:1<=s/\s<=1073741824)(hn:1<=n/\n<=64):II (s,(n:Int),img (L.take k) n)=δ (encI (s,(n:Int),img (L.take k) n),0):=by
 suffices o:As (II (s,(n:Int),img (L.take k) n)) λr=>r=(encI (s,(n:Int),img (L.take k) n),0) by obtain⟨r,hr,rfl⟩:=o;exact hr
 have j:∀c∈img (L.take k) n,(xq c).length=258:=λc d=>ABK h m hn.2 d;unfold II;rw[sH h m y hn,AD,CM,A!];refine AA (nY k! g!) λE q=>AA (nY (by rw[q];simp[A0]) g!) λF w=>AA (nY (by rw[w,q];simp[A0]) g!) λB D=>?_;rw[(by grind[vj,List.append_assoc,Int.reduceToNat]:B=vj (s,(n:Int),img (L.take k) n)),bQ (by rw[xB];decide),AD];refine AA (P:=λr=>r=encI (s,(n:Int),img (L.take k) n)) ?_ λr hr=>AB (by rw[hr]);refine Cp (λ(t:BX×Int)=>0<=t.2/\t.2<=n/\t.1=Hd (vj (s,(n:Int),img (L.take k) n))++zX ((img (L.take k) n).take t.2.toNat)) (λt=>((n:Int)-t.2).toNat) ⟨Af _,d!,by simp[zX]⟩ ?_;rintro⟨t,i⟩ ⟨e,z,u⟩;dsimp only at e z u;subst u;unfold Rp;dsimp only;rw[kP];refine AC (λd=>?_) (λd=>As.done (by rw[BP (l:=img (L.take k) n) (by rw[Nk];omega)];rfl));have a:=tq (L:=L.take k) (n:=n) (i:=i.toNat) o!;rw[I5 e]at a;rw[bH e d,AD,AD,AZ];have x:(zX ((img (L.take k) n).take i.toNat)).length<=17024:=by grind[rj,List.mem_of_mem_take,List.length_take,Nk]
 have b:=j _ (BN a);have g:(fu (st (L.take k) i)).2.2.length=256:=tG (Ys h ⟨e,o!⟩ m k);refine AA (nY k! g!) λG p=>AA (CE (by rw[p,B4,A0,g];decide)) λC v=>?_;rw[(by rw[v.1,p];rfl:C=xq (fu (st (L.take k) i))),bQ (by rw[b];decide),AD];refine AA (CE (by rw[AY,Ep,Ep,xB,b];omega)) λA f=>As.next ⟨d!,d!,?_⟩ d!
 dsimp only;rw[f.1,show(i+1).toNat=i.toNat+1 by omega,Co,a,A5];grind[zX,Option.toList_some]
def PI(L:List EN)(d:Int)(m:Nat)(x:A8):Prop:=∃j:Nat,(j:Int)<=d/\1<=x.1/\x.1<=1073741824/\x=(x.1,(m:Int),img (L.take j) m)
def FI(L:List EN)(d:Int)(m:Nat)(f:Aq):Prop:=∃x,PI L d m x/\f.2.2=encI x
def AC8{L:List EN}(h:Hs L)(c:θ L<=1099511627776){d:Int}{m:Nat}(hn:1<=m/\m<=64){x:A8}(a:PI L d m x):As (KF x) λf=>FI L d m f:=by have⟨j,i,e,g,b⟩:=id a;have:=zb h c (k:=j) ⟨e,g⟩ hn;rw[<-b]at this;unfold KF;rw[this,AD];exact AB ⟨x,a,rfl⟩
def ADA{n:Int}{L:List EN}{b:AU}{a:AI}{l:Aa}{m:Nat}(O:CX b)(N:LI n L)(o:Hs L)(M:AR L a)(z:TR L l)(w:0<=l.2.2/\l.2.2<=θ L)(Q:(m:Int)=a.2.1)(hn:1<=m/\m<=64):As (LR b ((m:Int),a,l)) λr=>CX r.2/\θ r.1<=8/\∀f∈r.1,FI L l.2.2 m f:=by
 have A:=z.len;have V:PI L l.2.2 m (1,(m:Int),img [] m):=⟨0,w.1,d!,d!,rfl⟩
 unfold LR;rw[AEH hn.2,AD];refine AA (Ag O g!) λv1 H=>?_;have⟨E,_,_⟩:=H;refine AA (P:=λh=>θ h<=1/\∀f∈h,FI L l.2.2 m f) ?_ λv3 v=>?_;refine AC (λ_=>AA (AC8 o o! hn V) λf hf=>AB ⟨k!,λg y=>?_⟩) (λ_=>AB ⟨k!,λg y=>by simp at y⟩);grind[List.mem_singleton]
 ·refine AA (P:=λr=>CX r.2.1/\θ r.1<=8/\∀f∈r.1,FI L l.2.2 m f) ?_ λr hr=>AB hr;refine Cp (λ(s:Int×Int×List Aq×AU×A8)=>0<=s.1/\s.1<=l.2.2/\2<=s.2.1/\s.2.1<=4/\θ s.2.2.1<=s.2.1/\(∀f∈s.2.2.1,FI L l.2.2 m f)/\CX s.2.2.2.1/\1<=s.2.2.2.2.1/\s.2.2.2.2.1<=1073741824/\s.2.2.2.2=(s.2.2.2.2.1,(m:Int),img (L.take s.1.toNat) m)) (λs=>(4-s.2.1).toNat) ⟨Af _,w.1,d!,d!,by have:=v.1;dsimp only;omega,v.2,E,d!,d!,rfl⟩ ?_;rintro⟨t,i,h,c,x⟩ ⟨W,X,T,U,G,e,u,B,C,D⟩;dsimp only at W X T U G e u B C D;unfold SO;dsimp only;refine AA (Ag u g!) λY I=>?_;have⟨q,m5,n5⟩:=I;rw[AZ (x:=2+Y.1)];refine AC (λhc=>?_) (λ_=>As.done ⟨q,d!,e⟩);rw[AZ (x:=l.2.2-t),AZ (x:=l.2.2-t+1)];refine AA (Ag q o!) λd J=>?_;have⟨F,m6,n6⟩:=J;rw[AZ (x:=t+d.1),D];rw[(by omega:t+d.1=(((t+d.1).toNat:Nat):Int))];refine AA (ADC (s:=i) N o M z (j:=t.toNat) (k:=(t+d.1).toNat) o! o! Q hn ⟨B,C⟩) λZ K=>AL (λ_=>As.done ⟨F,d!,e⟩) (λS=>?_);have⟨y1,y2,p⟩:=K S;have R:PI L l.2.2 m Z.1:=⟨(t+d.1).toNat,o!,by rw[p];exact y1,by rw[p];exact y2,by rw[p]⟩
  refine AA (AC8 o o! hn R) λv8 h8=>AA (Ad w!) λv9 h9=>?_;rw[AZ (x:=i+1)];grind[As.next,List.length_singleton,Int.toNat_natCast,List.mem_singleton]
def xU{a t:BX}{n k:Int}(h:(θ a:Int)+θ t<=2199023255552)(b:1<=k)(d:k<=8)(e:k<=θ t)(g:t.take k.toNat=C8 n k.toNat)(hn:0<=n)(f:n<256^k.toNat)(c:n<9223372036854775808):By (a++t,(θ a:Int),k)=δ (n,0):=by grind[Xg,AAh]
def AHG{A p R:BX}(h:(θ A:Int)+θ p+θ R<=1099511627776)(a:θ p<=8392):Dm (A++(Hd p++R),(θ A:Int))=δ (p,(θ A:Int)+8+θ p,0):=by grind[WZ,List.length_append,Ep,mX]
theorem y8{L:List EN}(h:Hs L)(E:θ L<=1099511627776){s:Int}{n k:Nat}(T:1<=s/\s<=1073741824)(hn:1<=n/\n<=64):H8 (encI (s,(n:Int),img (L.take k) n))=δ ((s,(n:Int),img (L.take k) n),0):=by
 suffices H:As (H8 (encI (s,(n:Int),img (L.take k) n))) λr=>r=((s,(n:Int),img (L.take k) n),0) by obtain⟨r,hr,rfl⟩:=H;exact hr
 have g:∀c∈img (L.take k) n,(xq c).length=258:=λc u=>ABK h E hn.2 u;have y:(zX (img (L.take k) n)).length=266*n:=by rw[rj g,Nk]
 have b:=xB (s,(n:Int),img (L.take k) n);have G:(encI (s,(n:Int),img (L.take k) n)).length=20+266*n:=by unfold encI;rw[AY,Ep,b,y]
 have u0:Dm (encI (s,(n:Int),img (L.take k) n),0)=δ (vj (s,(n:Int),img (L.take k) n),20,0):=by have:=AHG (A:=[]) (p:=vj (s,(n:Int),img (L.take k) n)) (R:=zX (img (L.take k) n)) (by rw[b,y,Bb];omega) (by rw[b];decide);rw[b]at this;exact this
 unfold H8;rw[u0,AD];dsimp only;have D:vj (s,(n:Int),img (L.take k) n)=[80,77,73,77]++(C8 s 4++(C8 (n:Int) 2++C8 (n:Int) 2)):=by unfold vj;dsimp only;rw[Nk]
 have W:By (vj (s,(n:Int),img (L.take k) n),4,4)=δ (s,0):=by rw[D];exact xU (a:=[80,77,73,77]) (t:=C8 s 4++(C8 (n:Int) 2++C8 (n:Int) 2)) (n:=s) (k:=4) (by simp only[AY,A0];decide) g! g! (by simp only[AY,A0];decide) (Gn (A0 _ _)) o! (by simp[Int.reduceToNat];omega) o!
 have X:By (vj (s,(n:Int),img (L.take k) n),8,2)=δ ((n:Int),0):=by rw[D,<-A5];exact xU (a:=[80,77,73,77]++C8 s 4) (t:=C8 (n:Int) 2++C8 (n:Int) 2) (n:=n) (k:=2) (by simp only[AY,A0];decide) g! g! (by simp only[AY,A0];decide) (Gn (A0 _ _)) o! (by simp[Int.reduceToNat];omega) o!
 have Y:By (vj (s,(n:Int),img (L.take k) n),10,2)=δ ((n:Int),0):=by rw[D,<-A5,<-A5];exact xU (a:=[80,77,73,77]++C8 s 4++C8 (n:Int) 2) (t:=C8 (n:Int) 2) (n:=n) (k:=2) (by simp only[AY,A0];decide) g! g! (by simp only[A0];decide) (BP (by rw[A0];decide)) o! (by simp[Int.reduceToNat];omega) o!
 have S:E9 (vj (s,(n:Int),img (L.take k) n),([80,77,73,77]:List UInt8))=δ ζ:=by obtain⟨v,q,r⟩:=CY (s:=vj (s,(n:Int),img (L.take k) n)) (lo:=0) (hi:=4) g! g! (by rw[b];decide);have e:v=[80,77,73,77]:=r.1.trans (by rw[D];rfl);unfold E9 Eb;rw[G! (by simp only[len,b];decide),B!];show σ (σ (R0 (vj (s,(n:Int),img (L.take k) n)) 0 4) _) _=_;rw[q,e];rfl
 rw[H!,A!,show(len (vj (s,(n:Int),img (L.take k) n)) !=12)=η by unfold len;rw[b];rfl,A!,S,Option.bind_some,Bool.not_true,A!,W,Option.bind_some,X,Option.bind_some,Y,Option.bind_some,F! d!,A!];refine AA (P:=λr=>∃z,r=.inr (20+266*(n:Int),img (L.take k) n,s,(n:Int),z)) ?_ λr hr=>?_
 ·refine Cp (λ(t:Int×Int×List Di×Int×Int×A8)=>0<=t.2.1/\t.2.1<=n/\t.1=20+266*t.2.1/\∃z,t.2.2=((img (L.take k) n).take t.2.1.toNat,s,(n:Int),z)) (λt=>((n:Int)-t.2.1).toNat) ⟨Af _,d!,d!,_,rfl⟩ ?_;rintro⟨M,i,t⟩ ⟨C,V,o,z,J⟩;dsimp only at C V o J;subst J o;unfold Zk;dsimp only;refine AC (λu=>?_) (λu=>As.done ⟨z,by rw[show i=n by omega,BP (l:=img (L.take k) n) (by rw[Nk];omega)]⟩);have d:=tq (L:=L.take k) (n:=n) (i:=i.toNat) o!;rw[I5 C]at d;have f:=g _ (BN d);have j:img (L.take k) n=(img (L.take k) n).take i.toNat++(fu (st (L.take k) i)::(img (L.take k) n).drop (i.toNat+1)):=by
   have B:=C1 d;conv=>lhs;rw[<-Dr i.toNat (img (L.take k) n),TX B]
   rw[Ar B]at d;rw[Bg d]
  have K:(Hd (vj (s,(n:Int),img (L.take k) n))++zX ((img (L.take k) n).take i.toNat)).length=20+266*i.toNat:=by rw[AY,Ep,b,rj λc u=>g c (GH u),BR,Nk];omega
  have lr:(zX ((img (L.take k) n).drop (i.toNat+1))).length<=17024:=by rw[rj λc u=>g c (QU u),C5,Nk];omega
  have Q:encI (s,(n:Int),img (L.take k) n)=(Hd (vj (s,(n:Int),img (L.take k) n))++zX ((img (L.take k) n).take i.toNat))++(Hd (xq (fu (st (L.take k) i)))++zX ((img (L.take k) n).drop (i.toNat+1))):=by
   conv=>lhs;unfold encI;dsimp only;arg 2;rw[j]
   unfold zX;rw[bZ,I7,A5]
  have U:Dm (encI (s,(n:Int),img (L.take k) n),20+266*i)=δ (xq (fu (st (L.take k) i)),20+266*(i+1),0):=by have:=AHG (A:=Hd (vj (s,(n:Int),img (L.take k) n))++zX ((img (L.take k) n).take i.toNat)) (p:=xq (fu (st (L.take k) i))) (R:=zX ((img (L.take k) n).drop (i.toNat+1))) (by rw[K,f];omega) (by rw[f];decide);rw[<-Q,K,f]at this;rw[show(20+266*i:Int)=((20+266*i.toNat:Nat):Int) by omega,this];refine E! (λw=>δ (xq (fu (st (L.take k) i)),w,(0:Int))) ?_;omega
  have x:(nC (st (L.take k) i)).length=256:=tG (Ys h ⟨C,o!⟩ E k);have I:xq (fu (st (L.take k) i))=C8 i 2++nC (st (L.take k) i):=by unfold xq fu;rw[U3]
  have Z:By (xq (fu (st (L.take k) i)),0,2)=δ (i,0):=by rw[I];exact xU (a:=[]) (t:=C8 i 2++nC (st (L.take k) i)) (n:=i) (k:=2) (by rw[AY,A0,x];decide) g! g! (by rw[AY,A0,x];decide) (Gn (A0 _ _)) C (by simp[Int.reduceToNat];omega) o!
  have m:len (xq (fu (st (L.take k) i)))=258:=by unfold len;rw[f];rfl
  obtain⟨w1,N,O⟩:=CY (s:=xq (fu (st (L.take k) i))) (lo:=2) (hi:=258) g! g! (by rw[f];decide);have w2:w1=nC (st (L.take k) i):=by rw[O.1,I];show List.take 256 (List.drop 2 (C8 i 2++nC (st (L.take k) i)))=_;rw[pI (A0 _ _),BP o!]
  have rc:RH (xq (fu (st (L.take k) i)))=δ (fu (st (L.take k) i)):=by unfold RH;rw[m,N,AD,Z,AD,w2];dsimp only;rw[tn h E ⟨C,o!⟩];unfold fu;rw[U3];rfl
  rw[U,AD];dsimp only;rw[H!,A!,m,H!,A!,rc,AD];refine AA (Ad (by rw[BR,Nk];simp;omega)) λad F=>?_;rw[AZ];refine As.next ⟨d!,d!,rfl,z,?_⟩ d!
  dsimp only;rw[F.1,show(i+1).toNat=i.toNat+1 by omega,Co,d];rfl
 obtain⟨z,rfl⟩:=hr;apply A4;dsimp only;rw[F! (by unfold len;rw[G];omega),A!,om h E T hn,Option.bind_some,Bool.not_true,A!];exact AB rfl
def yw{b:Type}(n k:Int)(v:b):∀m:List (Int×b),LD k (P0 n v m)=if k=n then δ v else LD k m
 |[]=>by simp only[P0,LD];by_cases h:k=n;rw[C! h,h,L!,B!];rw[D! h,beq_eq_false_iff_ne.2 (On h),A!]
 |p::r=>by simp only[P0];by_cases a:p.1=n;rw[beq_iff_eq.2 a,B!];simp only[LD];by_cases h:k=n;rw[C! h,h,L!,B!];rw[D! h,beq_eq_false_iff_ne.2 (On h),A!,a,beq_eq_false_iff_ne.2 (On h),A!];rw[beq_eq_false_iff_ne.2 a,A!];simp only[LD];rw[yw n k v r];by_cases h:p.1=k;rw[beq_iff_eq.2 h,B!,B!,D! (by rw[<-h];exact a)];rw[beq_eq_false_iff_ne.2 h,A!,A!]
theorem xT{L:List EN}(h:Hs L)(c:θ L<=1099511627776){d:Int}{m:Nat}(hn:1<=m/\m<=64){x:A8}(a:PI L d m x):H8 (encI x)=δ (x,0):=by have⟨j,b,e,f,g⟩:=a;grind[y8]
def FB(D:BX->Option (A8×Int))(L:List EN)(d:Int)(m:Nat)(f:Aq):Prop:=FI L d m f\/As (D f.2.2) λr=>r.2≠0
def AB4(L:List EN)(d:Int)(m:Nat)(fs:List Aq)(n:Nat)(f:Aq)(x:A8):Prop:=f.1=2/\(∀(k:Nat)(g:Aq),k<n->fs[k]?=δ g->g.1=2->g.2.1≠f.2.1)/\PI L d m x/\f.2.2=encI x/\x.1=f.2.1
def Yz(L:List EN)(d:Int)(m:Nat)(fs:List Aq)(n:Nat)(x:A8):Prop:=∃(i:Nat)(f:Aq),i<n/\fs[i]?=δ f/\AB4 L d m fs i f x
def Yz.step{L:List EN}{d:Int}{m:Nat}{b:List Aq}{n:Nat}{f:Aq}(e:b[n]?=δ f)(x:A8):Yz L d m b (n+1) x↔Yz L d m b n x\/AB4 L d m b n f x:=by constructor;rintro⟨i,g,k,a,c⟩;by_cases j:i=n;subst j;rw[e]at a;cases a;exact .inr c;exact .inl ⟨i,g,o!,a,c⟩;rintro(⟨i,g,k,a⟩|h);exact⟨i,g,o!,a⟩;exact⟨n,f,o!,e,h⟩
theorem tN{L:List EN}(h:Hs L)(a:θ L<=1099511627776){d:Int}{m:Nat}(hn:1<=m/\m<=64){x y:A8}(b:PI L d m x)(c:PI L d m y)(e:encI x=encI y):x=y:=by grind[xT,Prod.ext_iff,Option.some.inj]
def Yz.uniq{L:List EN}(h:Hs L)(A:θ L<=1099511627776){d:Int}{m:Nat}(hn:1<=m/\m<=64){a:List Aq}{n:Nat}{x y:A8}(b:Yz L d m a n x)(c:Yz L d m a n y)(e:x.1=y.1):x=y:=by have⟨i,f,_,w,k,l,o,p,q⟩:=b;have⟨j,g,_,z,r,s,t,u,v⟩:=c;grind[Nat.lt_trichotomy,tN]
def AA7(L:List EN)(d:Int)(m:Nat)(fs:List Aq)(s:Int×List (Int×Bool)×List A8):Prop:=∃n:Nat,s.1=n/\n<=θ fs/\θ s.2.2<=n/\(∀id,Option.getD (LD id s.2.1) η=ζ↔∃(k:Nat)(g:Aq),k<n/\fs[k]?=δ g/\g.1=2/\g.2.1=id)/\∀x,x∈s.2.2↔Yz L d m fs n x
def qK{L:List EN}(h:Hs L)(A:θ L<=1099511627776){d:Int}{m:Nat}(hn:1<=m/\m<=64){a:List Aq}(h8:θ a<=8)(S:∀f∈a,FB H8 L d m f):As (IQ a) λr=>θ r<=8/\∀x,x∈r↔Yz L d m a (θ a) x:=by
 unfold IQ;refine AA (P:=λr=>θ r.2<=8/\∀x,x∈r.2↔Yz L d m a (θ a) x) ?_ λv V=>?_
 ·refine Cp (AA7 L d m a) (λs=>((θ a:Int)-s.1).toNat) ⟨0,rfl,Bc _,An _,λid=>⟨λq=>(by cases q),λ⟨k,g,k0,_⟩=>N! k0 (Nat.not_lt_zero _)⟩,λx=>⟨λq=>(by cases q),λ⟨k,g,k0,_⟩=>N! k0 (Nat.not_lt_zero _)⟩⟩ ?_;rintro⟨_,t,o⟩ ⟨n,rfl,n1,W,E,K⟩;dsimp only at W E K;unfold YH;dsimp[len];refine AC (λO=>?_) (λO=>As.done ⟨d!,by rw[show θ a=n by omega];exact K⟩);rw[AZ (x:=(n:Int)+1)];refine AA (AJ o! O) λc M=>?_;have l:=M.1;rw[Cz]at l;have same:(∀x,¬AB4 L d m a n c x)->(c.1=2->∃(k:Nat)(g:Aq),k<n/\a[k]?=δ g/\g.1=2/\g.2.1=c.2.1)->As (δ (Step.next ((n:Int)+1,t,o)):Option (Step (Int×List (Int×Bool)×List A8) (List (Int×Bool)×List A8))) (Nn (AA7 L d m a) (λs=>((θ a:Int)-s.1).toNat) ((θ a:Int)-n).toNat λr=>θ r.2<=8/\∀x,x∈r.2↔Yz L d m a (θ a) x):=λe U=>by
   refine As.next ⟨n+1,rfl,o!,d!,λid=>?_,λx=>?_⟩ d!
   dsimp only;rw[E id];refine⟨λ⟨k,g,k0,k1⟩=>⟨k,g,o!,k1⟩,λ⟨k,g,k0,k1,u,w⟩=>?_⟩;by_cases p:k=n<;>grind;simp_all[Yz.step]
  refine AL (λz=>same (λx q=>z q.1) λq=>N! q z) (λz=>AK (λF=>?_) (λF=>?_));have⟨k,g,k0,k1,u,w⟩:=(E c.2.1).1 F;exact same (λx q=>q.2.1 k g k0 k1 u w) λ_=>⟨k,g,k0,k1,u,w⟩
  have i:∀(k:Nat)(g:Aq),k<n->a[k]?=δ g->g.1=2->g.2.1≠c.2.1:=λk g k0 k1 u w=>by rw[(E c.2.1).2 ⟨k,g,k0,k1,u,w⟩]at F;cases F
  have Q:∀G,θ G<=n+1->(∀x,x∈G↔x∈o\/AB4 L d m a n c x)->As (δ (Step.next ((n:Int)+1,P0 c.2.1 ζ t,G)):Option (Step (Int×List (Int×Bool)×List A8) (List (Int×Bool)×List A8))) (Nn (AA7 L d m a) (λs=>((θ a:Int)-s.1).toNat) ((θ a:Int)-n).toNat λr=>θ r.2<=8/\∀x,x∈r.2↔Yz L d m a (θ a) x):=λG H T=>by
   refine As.next ⟨n+1,rfl,o!,H,λid=>?_,λx=>?_⟩ d!
   dsimp only;rw[yw];by_cases b:id=c.2.1;rw[C! b];exact⟨λ_=>⟨n,c,o!,l,z,b.symm⟩,λ_=>rfl⟩;rw[D! b,E id];refine⟨λ⟨k,g,k0,k1⟩=>⟨k,g,o!,k1⟩,λ⟨k,g,k0,k1,u,w⟩=>?_⟩;by_cases p:k=n<;>grind;dsimp only;rw[Yz.step l,T x,K x]
  have ε:(∀x,¬AB4 L d m a n c x)->As (δ (Step.next ((n:Int)+1,P0 c.2.1 ζ t,o)):Option (Step (Int×List (Int×Bool)×List A8) (List (Int×Bool)×List A8))) (Nn (AA7 L d m a) (λs=>((θ a:Int)-s.1).toNat) ((θ a:Int)-n).toNat λr=>θ r.2<=8/\∀x,x∈r.2↔Yz L d m a (θ a) x):=λe=>Q o o! λx=>⟨.inl,λq=>q.elim id λq=>N! q (e x)⟩
  rcases S _ M.2 with⟨x,D,p⟩|e;have⟨j,hj,Y,Z,xe⟩:=id D;have C:=AGu h A (k:=j) ⟨Y,Z⟩ hn;rw[<-xe]at C;rw[p,xT h A hn D,AD];dsimp only;rw[L!,B!,C,AD,B!];refine AP (λb=>?_) (λb=>ε λy I=>b ?_);refine AA (Ad w!) λX N=>Q X (by rw[N.1];simp;omega) λy=>?_;rw[N.1,Ak,BA];refine⟨λq=>q.imp id λq=>by rw[q];exact⟨z,i,D,p,b⟩,λq=>q.imp id λq=>tN h A hn q.2.2.1 D (q.2.2.2.1.symm.trans p)⟩;rw[<-tN h A hn I.2.2.1 D (I.2.2.2.1.symm.trans p)];exact I.2.2.2.2;have B:∀x,¬AB4 L d m a n c x:=λx q=>by have⟨r,hr,J⟩:=e;rw[q.2.2.2.1,xT h A hn q.2.2.1]at hr;cases hr;exact J rfl
  exact AA e λv2 R=>AP (λJ=>N! J R) (λ_=>ε B)
 refine AA (AGo o!) λr hr=>?_;rw[bO hr,B!];exact AB ⟨by have:=hr.length_eq;omega,λx=>by rw[hr.mem_iff];exact V.2 x⟩
theorem AGP{L:List EN}{s:Int}{m j:Nat}(n:m<=64){p:Int}(c:0<=p/\p<m):SM ((s,(m:Int),img (L.take j) m),p)=δ (p,ζ):=by
 suffices k:As (SM ((s,(m:Int),img (L.take j) m),p)) λv=>v=(p,ζ) by obtain⟨r,hr,rfl⟩:=k;exact hr
 unfold SM;dsimp only;rw[(by grind[Nk]:len (img (L.take j) m)=m)];refine AA (P:=λr=>r=p) ?_ λr hr=>?_
 ·refine Cp (λ(t:Int×Int)=>0<=t.1/\t.1<=p/\p<=t.2/\t.2<=m) (λt=>(t.2-t.1).toNat) ⟨Af _,c.1,d!,Af _⟩ ?_;rintro⟨a,b⟩ ⟨f,g,i,h⟩;dsimp only at f g i h;unfold dJ;dsimp only;rw[AAO];refine AC (λl=>?_) (λ_=>As.done o!);rw[bH o! o!,AD,AZ (x:=(a+b)/2+1)];unfold Pa;rw[AD,show((fu (st (L.take j) ((a+b)/2)),p):Di×Int).1.1=(a+b)/2 from U3 _ _,AZ d!];exact Bh (AC (λe=>As.next ⟨d!,by dsimp only at e⊢;omega,i,h⟩ d!) (λd=>As.next ⟨f,g,by dsimp only at d⊢;omega,d!⟩ d!))
 rw[hr,G! c.2,B!,bH c.1 c.2,AD];unfold Pa;rw[AD,show((fu (st (L.take j) p),p):Di×Int).1.1=p from U3 _ _,Int.sub_self];exact AB rfl
def AC9{L:List EN}(h:Hs L)(a:θ L<=1099511627776){s:Int}{m j:Nat}(c:1<=s/\s<=1073741824)(hn:1<=m/\m<=64){p:Int}(b:0<=p/\p<m):Ui ((s,(m:Int),img (L.take j) m),p)=δ (fu (st (L.take j) p),ζ):=by grind[Ui,om,Bool.not_true,AGP,bH]
def wX{L:List EN}(h:Hs L)(a:θ L<=1099511627776){s:Int}{m j:Nat}(c:1<=s/\s<=1073741824)(hn:1<=m/\m<=64){p:Int}(b:0<=p/\p<m):RG ((s,(m:Int),img (L.take j) m),p)=δ (st (L.take j) p,0):=by unfold RG;rw[om h a c hn,AD,CM,A!,AC9 h a c hn b,AD,CM,A!,show GS ((fu (st (L.take j) p)).2.2,p)=δ (st (L.take j) p,0)from tn h a ⟨b.1,o!⟩,AD]
def so(x:A8)(p:Int):Int:=((x.2.2[p.toNat]?).getD (0,0,[])).2.1
theorem ADc{L:List EN}{s:Int}{m j:Nat}{p:Int}(a:0<=p/\p<m):so (s,(m:Int),img (L.take j) m) p=Bd (L.take j) p:=by unfold so;dsimp only;rw[(tq (L:=L.take j) (n:=m) (i:=p.toNat) o!),I5 a.1];exact KB _ _
def xt{L:List EN}(h:Hs L)(w:θ L<=1099511627776){d:Int}{m:Nat}(hn:1<=m/\m<=64){f:List Aq}{V:List A8}(q:IQ f=δ V)(G:θ V<=8)(n:∀x∈V,PI L d m x){p k:Int}(A:0<=p/\p<m):As (Sv (f,p,k)) λr=>θ r<=8/\∀y,y∈r↔∃x∈V,so x p<=k/\y=(so x p,x.1,so x p):=by
 unfold Sv;dsimp only;rw[q,AD];refine AA (P:=λr=>θ r<=8/\∀y,y∈r↔∃x∈V,so x p<=k/\y=(so x p,x.1,so x p)) ?_ λr hr=>?_
 ·dsimp[len];rw[AZ];refine Cp (λ(s:Int×List Bi)=> -1<=s.1/\s.1<θ V/\(θ s.2:Int)+s.1+1<=θ V/\∀y,y∈s.2↔∃x∈V.drop (s.1+1).toNat,so x p<=k/\y=(so x p,x.1,so x p)) (λs=>(s.1+1).toNat) ⟨d!,d!,k!,λy=>by dsimp only;rw[Vq o!];simp⟩ ?_;rintro⟨i,o⟩ ⟨B,g,C,e⟩;dsimp only at B g C e;unfold YG;dsimp only;refine AC (λt=>?_) (λ_=>As.done ⟨o!,by rw[show(i+1).toNat=0 by omega]at e;exact e⟩);rw[AZ];refine AA (AJ t g) λb l=>?_;have⟨j,I,D,E,F⟩:=n b l.2;have a:=AC9 h w (j:=j) ⟨D,E⟩ hn A;rw[<-F]at a;have H:V.drop (i-1+1).toNat=b::V.drop (i+1).toNat:=by grind[C1,List.getElem?_eq_getElem,List.drop_eq_getElem_cons,Option.some.inj]
  rw[a,AD];dsimp only;rw[B!,show(fu (st (L.take j) p)).2.1=so b p from(KB _ _).trans (by grind[ADc]:so b p=Bd (L.take j) p).symm];refine AC (λz=>?_) (λu=>As.next ⟨d!,d!,d!,λy=>?_⟩ d!)
  ·grind[AA,Ad,As.next,List.mem_singleton,List.mem_cons_of_mem,List.mem_cons_self]
  grind[List.mem_cons_of_mem]
 refine AA (AGq o!) λv c=>?_;rw[bO c,B!];exact AB ⟨by have:=c.length_eq;omega,λy=>by rw[c.mem_iff];exact hr.2 y⟩
def AG9{V:List A8}(f:θ V<=8){y:Bi}(b:∃x∈V,x.1=y.2.1):As (Ai (Ry V) (0,y)) λr=>∃(i:Int)(x:A8),r=.inl (i,y)/\0<=i/\V[i.toNat]?=δ x/\x.1=y.2.1:=by
 refine Cp (λ(s:Int×Bi)=>s.2=y/\0<=s.1/\s.1<=θ V/\∀i:Nat,i<s.1->∀x,V[i]?=δ x->x.1≠y.2.1) (λs=>((θ V:Int)-s.1).toNat) ⟨rfl,Af _,d!,λi a=>by dsimp only at a;omega⟩ ?_;rintro⟨i,h⟩ ⟨rfl,c,d,e⟩;dsimp only at c d e b;unfold Ry;dsimp[len];apply AC<;>intro g
 ·grind[AA,AJ,TN,AZ,AP,As.done,As.next,Option.some.inj]
 grind[List.getElem?_of_mem,C1]
end Go.Pm
