/- Texts of wip, joined and shortened by wip/tools/pack.py; nothing is assumed. -/
import Derived.Test.YtdbincbpjobdpaaGreatK11
noncomputable section
set_option linter.all false
namespace Go.Pm
open Go Go.Ab
set_option maxHeartbeats 400000
def AGI{x:Int×List Int}(h:BD x.1 x.2):Aq (IH x) λr=>r.2=0/\VB r.1/\r.1.2.1=x.1/\r.1.2.2.2.1=1:=by refine AA lV λl c=>AO (λb=>(by rw[c.2 h]at b;cases b)) (λ_=>?_);have k:=h.2.2.2.1;refine AA (AZ w!) λm e=>AB ⟨rfl,⟨?_,u!,u!,u!,u!,k!,⟨λi f d a=>by simp at a,λi f g d a j=>by simp at a⟩⟩,rfl,rfl⟩;grind
def FR.push{l m:List Au}{f:Au}{c:Int}(h:FR l c l.length)(v:1<=c)(r:f.2.1=c)(u:m=l++[f]):FR m (c+1) m.length:=by
 subst u;obtain⟨q,t⟩:=h;have p:(l++[f]).length=l.length+1:=k!
 have b: ∀(i:Nat) (g:Au),¬i<l.length->(l++[f])[i]? =some g->g=f:=λi g j a=>by
  have o:=Cv a;rw[p]at o;have s:i=l.length:=o!
  subst s;rw[Cj (Ap _)]at a;simp at a;exact a.symm
 refine⟨λi g j a=>?_,λi g k j a n=>?_⟩;by_cases e:i<l.length;rw[CT e]at a;have:=q i g o! a;exact⟨this.1,o!⟩;rw[b i g e a,r];exact o!;rw[p]at j;have e:i<l.length:=o!
 rw[CT e]at a;by_cases d:i+1<l.length;rw[CT d]at n;exact t i g k o! a n;rw[b (i+1) k d n,r];exact(q i g o! a).2
def AEN{x:AK×Ad×Int}(h:SA x.1)(l:VB x.1):Aq (Ei x) λr=>r.2=0->SA r.1/\VB r.1/\r.1.2.1=x.1.2.1/\(r.1.2.2.2.1=x.1.2.2.2.1\/r.1.2.2.2.1<=x.2.1.2.2+1):=by
 unfold Ei;refine AA Jo λv0 O=>AO (λ_=>AB n!) (λd=>?_);obtain⟨a1,a2,a3,a4,a5,a6,a7,a8,a9⟩:=O d;refine AA Bc λv1 q=>AO (λ_=>AB n!) (λm=>?_);obtain⟨l1,l2,l3,l4,l5,Z⟩:=q.1 m;refine AC (λ_=>AB n!) (λc1=>AC (λ_=>AB n!) (λc2=>?_));generalize S:(if(x.2.1.1>x.1.2.2.2.1)then x.2.1.1 else x.1.2.2.2.1)=F;have f1:x.2.1.1<=F/\x.1.2.2.2.1<=F/\F<=1099511627777:=by rw[<-S];split<;>omega
 have D:=AY (x:=F+x.2.2);have E:=AY (x:=F+x.2.2-1);rw[D,E];generalize T:(if(x.2.1.2.2<(F+x.2.2-1))then x.2.1.2.2 else(F+x.2.2-1))=G;have g1:G<=x.2.1.2.2/\G<=F+x.2.2-1:=by rw[<-T];split<;>omega
 refine AC (λ_=>AB λ_=>⟨h,l,rfl,.inl rfl⟩) (λc3=>?_);have H:=AY (x:=F-x.2.1.1);have I:=AY (x:=G-x.2.1.1);have J:=AY (x:=G-x.2.1.1+1);rw[H,I,J];have K:=AY (x:=len x.1.2.2.1+len x.1.1) i!;have L:=AY (x:=x.1.2.2.2.2+len x.1.1) i!;have M:=AY (x:=G+1);rw[K,L,M];have U:G<=1099511627776:=by
  have X:x.2.1.2.1.length≠0:=o!
  obtain⟨i,n⟩: ∃i,x.2.1.2.1[x.2.1.2.1.length-1]? =some i:=⟨_,Av o!⟩
  have:=Z _ i n;have q:=this.1;have t:=this.2.2.1;omega
 refine AC (λ_=>AB n!) (λB=>AC (λ_=>AB n!) (λC=>?_));simp only[len]at B C;refine AA (Bb) λv2 t=>?_;have W:=t.2;refine AA (RZ ⟨Ae _,d!,o!⟩) λv8 R=>A9 (λu b=>AB λa=>absurd a (R u b)) (λu b=>AA (AZ w!) λad j=>?_);have c:=j.1;rw[Bw]at c;refine AA (P:=λr=>(∀u,r= .inl u->u.1≠0)/\ ∀u,r= .inr u->u.2.1=x.1.1/\u.1.length<=256/\(∀f∈u.1,f.2.2.length<=1099511627776)/\u.2.2.1=x.1.2.1/\u.2.2.2.2.1=x.1.2.2.2.2+x.1.1.length/\FR u.1 u.2.2.2.2.1 u.1.length) ?_ λr hr=>A9 (λu b=>AB λa=>absurd a (hr.1 u b)) (λu b=>AB λ_=>?_);refine AW (λ(s:Int×(List Au)×(List Int)×Int×Int×Int×AK)=>0<=s.1/\s.1<=x.1.1.length/\s.2.2.1=x.1.1/\(s.2.1.length:Int)=x.1.2.2.1.length+s.1/\(∀f∈s.2.1,f.2.2.length<=1099511627776)/\s.2.2.2.1=x.1.2.1/\s.2.2.2.2.2.1=x.1.2.2.2.2+s.1/\FR s.2.1 s.2.2.2.2.2.1 s.2.1.length) (λ(s:Int×(List Au)×(List Int)×Int×Int×Int×AK)=>((x.1.1.length:Int)-s.1).toNat) ⟨Ae _,d!,rfl,by dsimp only;rw[c];omega,by dsimp only;rw[c];exact h.2.2,rfl,d!,by dsimp only;rw[c];exact l.2.2.2.2.2.2⟩ (λs V=>?_);obtain⟨Y,i2,v,i4,y,z,i7,A⟩:=V;unfold OA;have e:=AY (x:=s.1+1);rw[e];refine AC (λd=>?_) (λd=>AB ⟨λu b=>(by cases b),λu b=>(by cases b;simp only[len]at d;exact⟨v,o!,y,z,o!,A⟩)⟩);simp only[len]at d;refine AA (Tn a4 ⟨Y,d⟩) λal _=>AA (fm d!) λao Q=>AJ (λd=>AB ⟨λu b=>(by cases b;exact d),λu b=>(by cases b)⟩) (λ_=>AA ab λap k=>AA (AZ w!) λar g=>AB ?_);have p:=g.2.1;simp only[Bn,BV]at p;have N:=AY (x:=s.2.2.2.2.2.1+1);rw[N];refine⟨⟨d!,d!,v,d!,λf o=>?_,z,d!,A.push o! rfl g.1⟩,d!⟩;dsimp only at o;rw[g.1]at o;rcases An.1 o with w|w;exact y f w;simp at w;rw[w];exact k;obtain⟨q1,q2,q3,q4,q5,q6⟩:=hr.2 u b;refine⟨⟨by dsimp only;rw[q1];exact a4,d!,q3⟩,⟨?_,d!,d!,d!,d!,q2,q6⟩,q4,.inr d!⟩;dsimp only;rw[q1,q4];exact l.1
def FP(l:List Au)(m:Int):Prop:=(∀f∈l,0<f.2.1/\f.2.1<m)/\l.Pairwise λf g=>f.2.1<g.2.1
def yq{l:List Au}{m:Int}(h:FP l m):FR l m l.length:=by refine⟨λi f e a=>h.1 f (BN a),λi f g e a d=>?_⟩;have b:=Cv a;have c:=Cv d;have:=Hl.1 h.2 i (i+1) b c o!;grind
def FR.fp{l:List Au}{m:Int}(h:FR l m l.length):FP l m:=by
 refine⟨λf e=>?_,Hl.2 λi j b c g=>?_⟩;obtain⟨i,b⟩:=FZ.1 e;have:=Cv b;exact h.1 i f o! b;obtain⟨d,rfl⟩: ∃d,j=i+1+d:=⟨j-(i+1),o!⟩
 induction d with
 |zero=>exact h.2 i _ _ o! (Av b) (Av c)
 |succ d k=>
  have a:i+1+d<l.length:=o!
  have n:=k a o!;have o:=h.2 (i+1+d) l[i+1+d] l[i+1+(d+1)] o! (Av a) (Av c);omega
def FR.sub{l k:List Au}{m:Int}(h:FR l m l.length)(a:k.Sublist l):FR k m k.length:=yq ⟨λf b=>h.fp.1 f (a.subset b),h.fp.2.sublist a⟩
def AAw{b:AT}{x:List Au}{m:Int}(v:FR x m x.length)(h:CX b)(hx:x.length<=1000000)(j: ∀f∈x,f.2.2.length<=1099511627776):Aq (Dy b x) λr=>CX r.2/\r.1.length<=x.length/\FR r.1 m r.1.length/\ ∀f∈r.1,f.2.2.length<=1099511627777:=by
 unfold Dy;refine AP (λ_=>AB ⟨h,k!,⟨λi f s j=>by simp at j,λi f g s j c=>by simp at j⟩,λf j=>by simp at j⟩) (λA=>?_);simp only[len]at A;refine AA (Af h i!) λd Q=>?_;obtain⟨M,t,N⟩:=Q;simp only[len]at N;have e:=AY (x:=d.1+1);rw[e];refine AA (Af M g!) λv1 D=>AP (λ_=>?_) (λ_=>?_);refine AA (Bb (Ae _) t) λv2 E=>AA (Bb o! i! i!) λv3 F=>?_;have l2:=E.2;have T:=F.2;simp only[len]at T;refine AA (AZ w!) λv4 G=>?_;have U:=G.2.1;simp only[BV]at U;refine AA (AZ o!) λY H=>AB ⟨D.1,?_,?_⟩;have l5:=H.2.1;dsimp only;omega;have J:Y.Sublist x:=by
  rw[H.1,G.1,E.1,F.1,Bw];have O:x=x.take d.1.toNat++x.drop d.1.toNat:=(DN _ _).symm;suffices n:((x.drop (0:Int).toNat).take (d.1.toNat-(0:Int).toNat)++(x.drop (d.1+1).toNat).take ((len x).toNat-(d.1+1).toNat)).Sublist (x.take d.1.toNat++x.drop d.1.toNat) by rw[<-O]at n;exact n
  apply List.Sublist.append;simp;apply (List.take_sublist _ _).trans;have P:(d.1+1).toNat=d.1.toNat+1:=o!
  rw[P,<-Nd];exact List.drop_sublist _ _
 exact⟨v.sub J,λf l=>by have:=j f (J.subset l);omega⟩;refine AA (AZ w!) λy R=>?_;have C:=R.1;rw[Bw]at C;subst C;refine AA (AI t) λv7 _=>AA (AI t) λK z=>AA (V4 D.1 (j _ z.2)) λL I=>AA (AI t) λX _=>AA (AI t) λa u=>AB ⟨I.1,by simp[FT],?_,λf l=>?_⟩;have q:=v.fp;have Z:K=a:=by have:=z.1;rw[u.1]at this;exact(Bf this).symm
 have key: ∀(i:Nat) (g:Au),(FT y d.1 (a.1,(a.2.1,L.1)))[i]? =some g-> ∃k,y[i]? =some k/\k.2.1=g.2.1:=λi g c=>by simp only[FT]at c;rw[VX]at c;split at c;rename_i s;subst s;split at c;exact⟨a,u.1,by rw[<-Bf c]⟩;cases c;exact⟨g,c,rfl⟩
 have el:(FT y d.1 (a.1,(a.2.1,L.1))).length=y.length:=by simp[FT]
 refine⟨λi g s c=>?_,λi g k s c S=>?_⟩;obtain⟨p,B,W⟩:=key i g c;have:=v.1 i p (by dsimp only at s;omega) B;omega;obtain⟨p,B,W⟩:=key i g c;obtain⟨o,V,o2⟩:=key (i+1) k S;have:=v.2 i p o (by dsimp only at s;omega) B V;omega;simp only[FT]at l;rcases OY l with w|w;have:=j f w;omega;rw[w];have:=I.2;have:=j K z.2;dsimp only;omega
def ACD(L:List EN)(a:AK)(F G s:Int)(nf:List Au):Prop:= ∀(j:Nat) (f:Au),nf[j]? =some f->
 ∃r,f=(1,(s+j,Mr r))/\VR r/\av L r/\r.1=F/\r.2.1=G/\a.1[j]? =some r.2.2.1/\r.2.2.2.1=ot a j
def Do.uq{l:Ad}(h:Do l):Uq l.2.1:=λx b y c a=>XM h.nodup b c a
def ABQ{l:Ad}(h:Do l){F G:Int}{v:List EN}(g:l.1<=F)(i:F<=G)(j:G<=l.1+l.2.1.length-1)(b:v=(l.2.1.drop (F-l.1).toNat).take ((G-l.1+1).toNat-(F-l.1).toNat))(e:EN):e∈v↔e∈l.2.1/\F<=e.1/\e.1<=G:=by subst b;have⟨l1,l2,m,n,o,c⟩:=h;rw[FZ,FZ];constructor;grind;rintro⟨⟨k,a⟩,d,f⟩;have:=(c _ e a).1;refine⟨k-(F-l.1).toNat,?_⟩;rw[bD,if_pos o!,KX,show(F-l.1).toNat+(k-(F-l.1).toNat)=k by omega,a]
def yV{x:AK×Ad×Int}(h:SA x.1)(hb:VB x.1)(q:Do x.2.1):Aq (Ei x) λr=>r.2=0→r.1=x.1∨
  ∃F G a,r.1=(x.1.1,(x.1.2.1,(x.1.2.2.1++a,(G+1,x.1.2.2.2.2+a.length))))/\(x.1.2.2.2.1<=F/\(x.2.1.1<=x.1.2.2.2.1->F=x.1.2.2.2.1)/\(x.2.1.1<=F/\G<=x.2.1.2.2))/\F<=G/\a.length=x.1.1.length/\ACD x.2.1.2.1 x.1 F G x.1.2.2.2.2 a:=by
 unfold Ei;refine AA Jo λv0 X=>AO (λ_=>AB λb=>absurd (show(54:Int)=0 from b) g!) (λi=>?_);have⟨a1,a2,a3,a4,a5,a6,a7,a8,a9⟩:=X i;refine AA Bc λv1 h1=>AO (λ_=>AB λb=>absurd (show(26:Int)=0 from b) g!) (λad=>?_);have⟨l1,l2,l3,l4,l5,l6⟩:=id q;refine AC (λ_=>AB λb=>absurd (show(1:Int)=0 from b) g!) (λc1=>AC (λ_=>AB λb=>absurd (show(1:Int)=0 from b) g!) (λc2=>?_));have o: ∃F,(if(x.2.1.1>x.1.2.2.2.1)then x.2.1.1 else x.1.2.2.2.1)=F:=⟨_,rfl⟩
 have⟨F,o⟩:=o;have V:x.2.1.1<=F/\x.1.2.2.2.1<=F/\F<=1099511627777:=q!
 have W:x.2.1.1<=x.1.2.2.2.1->F=x.1.2.2.2.1:=q!
 have C:=AY (x:=F+x.2.2);have D:=AY (x:=F+x.2.2-1);have p: ∃G,(if(x.2.1.2.2<(F+x.2.2-1))then x.2.1.2.2 else(F+x.2.2-1))=G:=⟨_,rfl⟩
 have⟨G,p⟩:=p;have g1:G<=x.2.1.2.2/\G<=F+x.2.2-1:=q!
 rw[o,C,D,p];refine AC (λ_=>AB λ_=>.inl rfl) (λc3=>?_);have Q:=AY (x:=F-x.2.1.1);have R:=AY (x:=G-x.2.1.1);have S:=AY (x:=G-x.2.1.1+1);rw[Q,R,S];have T:=AY (x:=len x.1.2.2.1+len x.1.1) (by simp[len];omega);have U:=AY (x:=x.1.2.2.2.2+len x.1.1) (by simp[len];omega);rw[T,U,(AY (x:=G+1))];refine AC (λ_=>AB λb=>absurd (show(21:Int)=0 from b) g!) (λN=>AC (λ_=>AB λb=>absurd (show(21:Int)=0 from b) g!) (λO=>?_));simp[len]at N O;refine AA (Bb) λv2 E=>?_;have al:=E.2;have l:=ABQ q (F:=F) (G:=G) V.1 o! o! E.1;refine AA (RZ ⟨Ae _,d!,o!⟩) λv8 Z=>A9 (λu c=>AB λb=>absurd b (Z u c)) (λu c=>AA (AZ w!) λao t=>?_);have g:=t.1;rw[Bw]at g;subst g;refine AA (P:=λr=>(∀u,r= .inl u->u.1≠0)/\ ∀u,r= .inr u-> ∃(a:List Au),(u.1,(u.2.1,(u.2.2.1,(u.2.2.2.1,u.2.2.2.2.1))))=(x.1.2.2.1++a,(x.1.1,(x.1.2.1,(x.1.2.2.2.1,x.1.2.2.2.2+a.length))))/\a.length=x.1.1.length/\ACD x.2.1.2.1 x.1 F G x.1.2.2.2.2 a) ?_ λr hr=>A9 (λu c=>AB λb=>absurd b (hr.1 u c)) (λu c=>AB λ_=>.inr ?_)
 ·refine Cn (λ(s:Int×(List Au)×(List Int)×Int×Int×Int×AK)=> ∃(k:Nat) (a:List Au) (z:AK),s=((k:Int),(x.1.2.2.1++a,(x.1.1,(x.1.2.1,(x.1.2.2.2.1,(x.1.2.2.2.2+(k:Int),z))))))/\k<=x.1.1.length/\a.length=k/\ACD x.2.1.2.1 x.1 F G x.1.2.2.2.2 a) (λs=>x.1.1.length-s.1.toNat)
   ⟨0,[],u,k!,Be _,rfl,λj f d=>by simp at d⟩ ?_
  rintro s ⟨k,a,z,rfl,i2,A,I⟩;unfold OA;dsimp only;simp only[len];rw[o,C,D,p];refine AC (λi=>?_) (λi=>Aq.done ⟨λu c=>(by cases c),λu c=>(by cases c;exact⟨a,by dsimp only;rw[A],o!,I⟩)⟩);have H:x.1.1[k]? =some (x.1.1[k]' o!):=Av o!;rw[mR hb.1 H,AD];refine AA (AGH q.uq (λe he=>((l e).1 he).1) o!) λn v=>AJ (λi=>Aq.done ⟨λu c=>(by cases c;exact i),λu c=>(by cases c)⟩) (λb=>?_);have⟨B,es,m,m3⟩:=v b;rw[pL B,AD];refine AA (AZ w!) λap Y=>?_;rw[AY (x:=x.1.2.2.2.2+(k:Int)+1),AY (x:=(k:Int)+1)];refine Aq.next ⟨k+1,a++[(1,(x.1.2.2.2.2+(k:Int),Mr n.1))],z,?_,o!,by rw[Ac,A];rfl,λj f d=>?_⟩ d!
  grind;by_cases hj:j<a.length;rw[CT hj]at d;exact I j f d;have y:=Cv d;rw[Ac,Bn,BV]at y;have w:j=k:=o!
  subst w;rw[Cj o!,A,Gl]at d;cases d;refine⟨n.1,rfl,B,B.runOf q.uq λe=>?_,by rw[m],by rw[m],by rw[m];exact H,by rw[m]⟩;rw[m];dsimp only;rw[m3,l];constructor;grind;rintro⟨q1,q2,q3,q4,q5,q6⟩;exact⟨⟨q1,q5,q6⟩,q2,q3,q4,q5,q6⟩
 have⟨a,q1,q2,q3⟩:=hr.2 u c;refine⟨F,G,a,?_,⟨o!,W,o!⟩,o!,q2,q3⟩;have J:=congrArg (·.1) q1;have K:=congrArg (·.2.1) q1;have L:=congrArg (·.2.2.1) q1;have M:=congrArg (·.2.2.2.2) q1;dsimp only at J K L M;dsimp only;rw[J,K,L,M]
def Kf.congr{a b:AK}(e:b.1=a.1)(f:b.2.1=a.2.1){d c:Int}:Kf a d c↔Kf b d c:=by grind[Kf,ot]
def Good.congr{a b:AK}(c:b.1=a.1)(d:b.2.1=a.2.1){f:Au}{r:AQ}(h:Good a f r):Good b f r:=⟨h.1,h.2.1,h.2.2.1,(Kf.congr c d).1 h.2.2.2⟩
def Good.run{a:AK}{f:Au}{r s:AQ}(h:Good a f r)(g:Good a f s):r=s:=rU h.2.2.1 g.2.2.1 (h.2.1.symm.trans g.2.1)
def AR.step{L:List EN}{a b:AK}{F G:Int}{s:List Au}(h:AR L a)(e:b=(a.1,(a.2.1,(a.2.2.1++s,(G+1,a.2.2.2.2+s.length)))))(hF:a.2.2.2.1<=F)(hG:F<=G)(hn:ACD L a F G a.2.2.2.2 s)(D:VB b):AR L b/\(AG a->AG b)/\ ∀c,RC a c->RC b (c+1):=by
 have P:b.1=a.1:=by rw[e]
 have Q:b.2.1=a.2.1:=by rw[e]
 have Y:b.2.2.1=a.2.2.1++s:=by rw[e]
 have h4:b.2.2.2.1=G+1:=by rw[e]
 have q: ∀f∈s,∃(j:Nat) (r:AQ),Good b f r/\av L r/\r.1=F/\r.2.1=G/\a.1[j]? =some r.2.2.1/\s[j]? =some f:=λf k=>by have⟨j,hj⟩:=FZ.1 k;have⟨r,l,M,w,r4,W,S,r7⟩:=hn j f hj;refine⟨j,r,⟨by rw[l],by rw[l],M,(Kf.congr P Q).1 ⟨j,S,r7⟩⟩,w,r4,W,S,hj⟩
 have K: ∀f∈a.2.2.1,Bad f\/ ∃r,Good b f r/\av L r/\r.2.1<a.2.2.2.1:=λf k=>(h.files f k).imp id λ⟨r,l,M,w⟩=>⟨r,l.congr P Q,M,w⟩
 have d: ∀x∈D4 b,(x∈D4 a/\x.1.2.1<a.2.2.2.1)\/ ∃(j:Nat) (f:Au),s[j]? =some f/\Good b f x.1/\x.2=f.2.1/\x.1.1=F/\a.1[j]? =some x.1.2.2.1:=λx m=>by unfold D4 at m;rw[Y]at m;have⟨f,k,z⟩:=OX.1 m;rcases An.1 k with k|k;rcases K f k with E|⟨r,l,M,w⟩;rw[E.intR D.1]at z;cases z;rw[l.intR D.1]at z;cases z;exact .inl ⟨Pb h.vb.1 k (l.congr P.symm Q.symm),w⟩;have⟨j,r,l,M,w,r4,W,S⟩:=q f k;rw[l.intR D.1]at z;cases z;exact .inr ⟨j,f,S,l,rfl,w,W⟩
 refine⟨⟨D,λf k=>?_,λx m y R J p=>?_⟩,λU f k=>?_,λc Z v=>?_⟩;grind;rcases d x m with⟨n,A⟩|⟨i,f,n,A,N,x4,B⟩;rcases d y R with⟨o,C⟩|⟨j,g,o,C,T,y4,O⟩;exact h.dis x n y o J p;grind;rcases d y R with⟨o,C⟩|⟨j,g,o,C,T,y4,O⟩;exact .inr o!;rw[<-p]at O;have t:=h.vb.1.inj B O;subst t;rw[n]at o;cases o;exact absurd (DR (A.run C) (N.trans T.symm)) J;rw[Y]at k;rcases An.1 k with k|k;have⟨r,hr⟩:=U f k;exact⟨r,hr.congr P Q⟩;have⟨j,r,l,_⟩:=q f k;exact⟨r,l⟩;have I:=(Tw D).filter λe=>e.1.2.2.1==v;by_cases H: ∃y∈(D4 b).filter (λe=>e.1.2.2.1==v),∃(j:Nat) (f:Au),s[j]? =some f/\Good b f y.1/\y.2=f.2.1/\a.1[j]? =some y.1.2.2.1;have⟨y,R,j,g,o,C,T,O⟩:=H;have V:y.1.2.2.1=v:=eq_of_beq (BW.1 R).2;have:=gK _ (y::(D4 a).filter λe=>e.1.2.2.1==v) I λx m=>by have⟨X,u⟩:=BW.1 m;rcases d x X with⟨n,_⟩|⟨i,f,n,A,N,x4,B⟩;grind;rw[eq_of_beq u,<-V]at B;have t:=h.vb.1.inj B O;subst t;rw[n]at o;cases o;exact Aw.2 (.inl (DR (A.run C) (N.trans T.symm)))
 rw[Bn]at this;have:=Z v;omega;have:=gK _ ((D4 a).filter λe=>e.1.2.2.1==v) I λx m=>by have⟨X,u⟩:=BW.1 m;rcases d x X with⟨n,_⟩|⟨i,f,n,A,N,x4,B⟩;exact BW.2 ⟨n,u⟩;exact absurd ⟨x,m,i,f,n,A,N,B⟩ H
 have:=Z v;omega
def AGE(a:AK)(lo n:Int):Prop:= ∃e∈D4 a,e.1.2.2.1=lo/\e.1.1<=n/\n<=e.1.2.1
def AF(a:AK):Prop:= ∀lo∈a.1,∀n:Int,1<=n->n<a.2.2.2.1->AGE a lo n
def AF.step{L:List EN}{a b:AK}{F G:Int}{c:List Au}(w:AF a)(h:AR L a)(e:b=(a.1,(a.2.1,(a.2.2.1++c,(G+1,a.2.2.2.2+c.length)))))(H:F=a.2.2.2.1)(z:c.length=a.1.length)(hn:ACD L a F G a.2.2.2.2 c)(s:VB b):AF b:=by
 have k:b.1=a.1:=by rw[e]
 have p:b.2.1=a.2.1:=by rw[e]
 have q:b.2.2.1=a.2.2.1++c:=by rw[e]
 have E:b.2.2.2.1=G+1:=by rw[e]
 intro A d n B I;rw[k]at d;rcases jg n a.2.2.2.1 with g|g;obtain⟨r,hr,i,m,u⟩:=w A d n B g;have⟨f,l,v,D,_⟩:=h.mem hr;exact⟨(r.1,f.2.1),Pb s.1 (by rw[q];exact GI _ l) (v.congr k p),i,m,u⟩;have⟨j,t⟩:=FZ.1 d;have y:=Cv t;have l:c[j]? =some (c[j]' o!):=Av o!;have⟨r,i,m,u,J,K,o,C⟩:=hn j _ l;have x:Good b (c[j]' o!) r:=⟨by rw[i],by rw[i],m,(Kf.congr k p).1 ⟨j,o,C⟩⟩
 refine⟨(r,(c[j]' o!).2.1),Pb s.1 (by rw[q];exact Kj _ (Ng _)) x,?_,d!⟩;rw[t]at o;exact(Bf o).symm
def SF(a:AK)(m:Int):Prop:=a.2.2.2.2+a.2.2.1.length<=m
def AEM{x:AK×Ad×Int}{m:Int}(h:AR x.2.1.2.1 x.1)(f:Do x.2.1)(t:SF x.1 m):Aq (Ei x) λr=>r.2=0->AR x.2.1.2.1 r.1/\(AG x.1->AG r.1)/\(∀c,RC x.1 c->RC r.1 (c+1))/\SF r.1 (m+32)/\r.1.2.1=x.1.2.1/\(r.1.2.2.2.1=x.1.2.2.2.1\/r.1.2.2.2.1<=x.2.1.2.2+1)/\(HF x.2.1.2.1->AF x.1->AF r.1):=by
 refine((AEN h.sa h.vb).and (yV h.sa h.vb f)).mono λr hr k=>?_;have⟨q1,q2,q3,q4⟩:=hr.1 k;rcases hr.2 k with e|⟨F,G,u,g,i,l,n,j⟩;rw[e];exact⟨h,id,λc q s=>Nat.le_succ_of_le (q s),by unfold SF at*;omega,rfl,.inl rfl,λ_=>id⟩
 ·have a:=h.step g i.1 l j q2;have b:0<x.2.1.2.1.length:=by have:=f.2.2.2.2.1;omega
  have d:HF x.2.1.2.1->AF x.1->AF r.1:=λo p=>p.step h g (i.2.1 (by have v:=(o 0 _ (Av b)).1;have w:=(f.2.2.2.2.2 0 _ (Av b)).1;have:=h.vb.2.1;omega)) n j q2;have:=h.sa.1;refine⟨a.1,a.2.1,a.2.2,?_,?_,?_,d⟩;all_goals unfold SF at*;grind
def AFl{c d:Type}(l:List c)(m:List d)(n:Nat):l.zip m=(l.take n).zip (m.take n)++(l.drop n).zip (m.drop n):=by
 induction n generalizing l m with
 |zero=>simp
 |succ n e=>
  cases l with
  |nil=>simp
  |cons a l=>
   cases m with
   |nil=>simp
   |cons b m=>grind[List.zip_cons_cons]
theorem AHQ{c d:Type}{l:List c}{m:List d}{k:Nat}{a:c}{b:d}(e:l[k]? =some a)(f:m[k]? =some b):(a,b)∈l.zip m:=by refine FZ.2 ⟨k,?_⟩;grind[List.getElem?_zip_eq_some]
def ACL{x:AK}{L:List EN}{U:Int×List AQ×List Int×List Bool}(h:AR L x)(b:0<=U.1):Aq (Ah (Er x U) ([],([],0))) λr=>r.2.length=r.1.length/\ ∀p∈r.1.zip r.2,p∈D4 x:=by
 obtain⟨⟨b1,b2,b3,b4,b5,b6,b7⟩,a1,a2,a3,a4,a5,a6⟩:=h.vb;refine Cn (λ(s:List AQ×List Int×Int)=>0<=s.2.2/\s.2.2<=x.2.2.1.length/\s.2.1.length=s.1.length/\s.1.length<=s.2.2/\ ∀p∈s.1.zip s.2.1,p∈D4 x) (λ(s:List AQ×List Int×Int)=>((x.2.2.1.length:Int)-s.2.2).toNat) ⟨Ae _,d!,rfl,k!,λp b=>by simp at b⟩ (λs X=>?_);obtain⟨S,i2,T,i4,u⟩:=X;unfold Er;have e:=AY (x:=s.2.2+1);rw[e];refine AC (λE=>?_) (λ_=>Aq.done ⟨T,u⟩);simp only[len]at E;refine AA (AI S E) λv D=>?_;have q: ∃w,DD (x,v)=some w/\(w.2= -1\/Good x v w.1):=by rcases h.files v D.2 with Y|⟨r,R,_⟩;obtain⟨r,hr⟩:=Y.ref (a:=x);exact⟨_,hr,.inl rfl⟩;obtain⟨k,hk,ad⟩:=R.ref h.vb.1;exact⟨_,hk,.inr R⟩
 obtain⟨w,F,t⟩:=q;rw[F,AD];refine AJ (λ_=>Aq.next ⟨d!,d!,T,d!,u⟩ d!) (λZ=>?_);have c:Good x v w.1:=t.elim (λhz=>absurd hz o!) id;refine AA (Qj ⟨i!,i!,o!⟩) λy o=>AA (Bb (Ae _) o.1 o.2) λv8 P=>AA (Bb o.1 i! i!) λv9 Q=>?_;have l8:=P.2;have l9:=Q.2;simp only[len]at l9;refine AA (AZ w!) λar d=>?_;have G:=d.2.1;simp only[BV]at G;refine AA (AZ w!) λax f=>?_;have H:=f.2.1;simp only[BV,Bn]at H;refine AA (AZ o!) λa0 g=>?_;have al:=g.2.1;refine AA (Bb (Ae _) o.1) λM i=>?_;have ao:=i.2;refine AA (AI S E) λN C=>AA (Bb o.1 i! i!) λO j=>?_;have I:=j.2;simp only[len]at I;refine AA (AZ w!) λa7 l=>?_;have J:=l.2.1;simp only[BV]at J;refine AA (AZ w!) λa8 m=>?_;have K:=m.2.1;simp[BV,Bn]at K;refine AA (AZ o!) λa9 n=>?_;have ap:=n.2.1;have A:N=v:=by have:=C.1;rw[D.1]at this;exact(Bf this).symm
 have V:v8=s.1.take y.toNat:=by rw[P.1];simp
 have W:v9=s.1.drop y.toNat:=by rw[Q.1];exact BO (by rw[EH];simp only[len];omega)
 have z:M=s.2.1.take y.toNat:=by rw[i.1];simp
 have B:O=s.2.1.drop y.toNat:=by rw[j.1];exact BO (by rw[EH];simp only[len];omega)
 refine Aq.next ⟨d!,d!,d!,d!,λp b=>?_⟩ d!
 dsimp only at b;rw[g.1,f.1,d.1,n.1,m.1,l.1,V,W,z,B,Bw,Bw]at b;rw[db (by simp[Ac,BQ,Bn,BV];omega),db (by simp[BQ];omega)]at b;rw[AFl s.1 s.2.1 y.toNat]at u;rcases An.1 b with b|b;rcases An.1 b with b|b;exact u p (An.2 (.inl b));rw[List.zip_cons_cons,List.zip_nil_left,A6]at b;rw[b,A];exact Pb h.vb.1 D.2 c;exact u p (An.2 (.inr b))
def Wh(x:AK)(t:List AQ×List Int×List Bool):Prop:= ∀p∈(t.1.zip t.2.1).zip t.2.2,p.2=true->p.1∈D4 x
def ACM{x:AK}{a:List AQ×List Int}{n:Int}{t:List AQ×List Int×List Bool}(h:a.2.length=a.1.length/\a.1.length<=256/\RL a.1)(hn:n<=100000)(m:T3 n t)(R: ∀p∈a.1.zip a.2,p∈D4 x)(G:Wh x t):Aq (Ah (Es a) (0,(0,t))) λr=>Wh x r:=by
 refine Cn (λ(s:Int×Int×List AQ×List Int×List Bool)=>0<=s.2.1/\s.2.1<=a.1.length/\T3 (n+s.2.1) s.2.2/\Wh x s.2.2) (λ(s:Int×Int×List AQ×List Int×List Bool)=>((a.1.length:Int)-s.2.1).toNat) ⟨Ae _,d!,by simpa using m,G⟩ (λs F=>?_);have⟨g,S,⟨z,H,T,A⟩,o⟩:=F;have⟨P,Q,E⟩:=h;unfold Es;rw[(AY (x:=s.2.1+1))];refine AC (λf=>?_) (λ_=>Aq.done o);simp[len]at f;refine AA (AI g f) λI _=>AC (λ_=>Aq.next ⟨d!,d!,⟨z,H,d!,A⟩,o⟩ d!) (λ_=>AA (AI g f) λy k=>AA (AI g) λJ C=>AA (AI g f) λi D=>?_);have j:i=y:=by grind[Option.some.inj]
 subst j;refine D5 (Ra (E i k.2)) λK B l=>AA (AZ w!) λL b=>?_;have q:=b.2.1;simp[BV,Bn]at q;refine AA (AZ w!) λM d=>?_;have u:=d.2.1;simp[BV,Bn]at u;refine AA (AZ w!) λN e=>?_;have v:=e.2.1;simp[BV,Bn]at v;refine AA (AI g f) λO _=>Aq.next ⟨d!,d!,⟨d!,d!,d!,λr hr=>?_⟩,λp c m=>?_⟩ d!
 dsimp only at hr;rw[b.1]at hr;rcases An.1 hr with w|w;exact A r w;simp at w;rw[w];exact l;dsimp only at c;rw[b.1,d.1,e.1,db z.symm,db (by rw[List.length_zip];omega)]at c;rcases An.1 c with c|c;exact o p c m;grind[List.zip_cons_cons,List.zip_nil_left,List.mem_singleton,FN,AHQ]
def ACK{x:AK}{L:List EN}(h:AR L x):Aq (F5 x) λr=>T3 4096 r/\Wh x r:=by unfold F5;refine AA Jo λo i=>AO (λ_=>AB ⟨⟨rfl,rfl,k!,λr hr=>by simp at hr⟩,λp d=>by simp at d⟩) (λc=>?_);have e:=i c;have a4:=e.2.2.2.1;refine AA (P:=λr=>T3 4096 r/\Wh x r) ?_ λr hr=>AB hr;refine Cn (λ(s:Int×List AQ×List Int×List Bool)=>0<=s.1/\s.1<=x.1.length/\T3 (256*s.1) s.2/\Wh x s.2) (λ(s:Int×List AQ×List Int×List Bool)=>((x.1.length:Int)-s.1).toNat) ⟨Ae _,d!,⟨rfl,rfl,k!,λr hr=>by simp at hr⟩,λp d=>by simp at d⟩ (λs k=>?_);have⟨f,n,b,g⟩:=k;unfold NH;rw[(AY (x:=s.1+1))];refine AC (λc=>?_) (λ_=>Aq.done ⟨⟨b.1,b.2.1,by have:=b.2.2.1;omega,b.2.2.2⟩,g⟩);simp[len]at c;refine AA ((YS e h.sa f).and (ACL h f)) λl a=>AA ((YT a.1 o! b).and (ACM a.1 o! b a.2.2 g)) λm j=>?_;grind[Aq.next]
def ABL{L:List EN}{x:List AQ×List Bool}{k:Nat}{z t:AQ}{F T lo hi lv:Int}{b:List EN}(i:Uq L)(m:x.1[k]? =some t)(f: ∀e∈t.2.2.2.2.2,e∈L)(n:t.2.2.2.2.2.length≤4096)(l: ∀e∈b,e∈L)(q:b.length≤1000000){o:AQ}:
  Aq (Ah (G8 x ((k:Int),(o,z))) (0,(F,(T,(lo,(hi,(lv,b))))))) λr=> ∃a:List EN,r=(F,(T,(lo,(hi,(lv,a)))))/\a.length<=b.length+4096/\ ∀y,y∈a↔y∈b\/y∈t.2.2.2.2.2:=by
 refine Cn (λ(s:Int×AQ)=> ∃(j:Nat) (a:List EN),s=((j:Int),(F,(T,(lo,(hi,(lv,a))))))/\j<=t.2.2.2.2.2.length/\a.length<=b.length+j/\ ∀y,y∈a↔y∈b\/y∈t.2.2.2.2.2.take j) (λs=>t.2.2.2.2.2.length-s.1.toNat)
  ⟨0,b,rfl,Be _,o!,λy=>k!⟩ ?_
 rintro s ⟨j,a,rfl,A,B,p⟩;unfold G8;rw[(by unfold ix;rw[if_pos o!,Int.toNat_natCast,m]:ix x.1 (k:Int)=some t),Option.bind_some];simp only[len];refine AC (λd=>?_) (λd=>Aq.done ⟨a,rfl,o!,q!⟩);rw[AD];refine AA (AI o! d) λv g=>?_;have c:=g.1;rw[DG]at c;refine AA (mP i (λe h=>((p e).1 h).elim (l e) λh=>f e (Fa h)) (f v g.2) o!) λw u=>?_;rw[AY];refine Aq.next ⟨j+1,w.1,q!,o!,o!,λy=>?_⟩ o!
 grind[List.take_add_one,Option.toList_some,List.mem_singleton]
def tj(x:List AQ×List Bool)(lo hi:Int)(k:Nat):Prop:=x.2[k]? =some true/\ ∃r,x.1[k]? =some r/\r.2.2.1=lo/\r.2.2.2.1=hi/\(0<k-> ∀p,x.1[k-1]? =some p->r.1=p.2.1+1)
def AEw{L:List EN}{x:List AQ×List Bool}{a l:AQ}(hL:Uq L)(h: ∀(k:Nat) (r:AQ),x.1[k]? =some r→x.2[k]? =some true→VR r∧ ∀e∈r.2.2.2.2.2,e∈L)(h1:1≤x.1.length∧x.1.length≤8)(h2:x.2.length=x.1.length)(V:x.1[0]? =some a)(W:x.1[x.1.length-1]? =some l):
  Aq (Lf x) λr=>r.2=true->VR r.1/\ ∃(d:Int) (b:List EN),r.1=(a.1,(l.2.1,(a.2.2.1,(a.2.2.2.1,(d,b)))))/\(∀k,k<x.1.length->tj x a.2.2.1 a.2.2.2.1 k)/\ ∀y,y∈b↔ ∃(k:Nat) (r:AQ),x.1[k]? =some r/\y∈r.2.2.2.2.2:=by
 have G:ix x.1 0=some a:=by unfold ix;rw[if_pos o!];exact V
 have R:ix x.1 (wi (len x.1-1))=some l:=by rw[AY (x:=len x.1-1) (by simp[len];omega)];unfold ix;simp only[len];rw[if_pos o!,show((x.1.length:Int)-1).toNat=x.1.length-1 by omega,W]
 unfold Lf;rw[G,R,AD,AD,AD,AD,AD];generalize wi (a.2.2.2.2.1+1)=d;refine AA (P:=λr=>(∃u,r= .inl u/\u.1=false)\/ ∃z b,r= .inr ((a.1,(l.2.1,(a.2.2.1,(a.2.2.2.1,(d,b))))),z)/\(∀k,k<x.1.length->tj x a.2.2.1 a.2.2.2.1 k)/\ ∀y,y∈b↔ ∃(k:Nat) (r:AQ),x.1[k]? =some r/\y∈r.2.2.2.2.2) ?_ λr hr=>?_
 ·refine Cn (λ(s:Int×AQ×AQ)=> ∃(k:Nat) (z:AQ) (b:List EN),s=((k:Int),((a.1,(l.2.1,(a.2.2.1,(a.2.2.2.1,(d,b))))),z))/\k<=x.1.length/\b.length<=4096*k/\(∀j,j<k->tj x a.2.2.1 a.2.2.2.1 j)/\ ∀y,y∈b↔ ∃(j:Nat) (r:AQ),j<k/\x.1[j]? =some r/\y∈r.2.2.2.2.2) (λs=>x.1.length-s.1.toNat)
   ⟨0,_,[],rfl,Be _,Be _,λj H=>absurd H o!,λy=>⟨λhy=>by simp at hy,λ⟨j,r,H,_⟩=>absurd H o!⟩⟩ ?_
  rintro s ⟨k,z,b,rfl,i2,i3,X,Y⟩;unfold SX;dsimp only;simp only[len];refine AC (λhc=>?_) (λhc=>Aq.done (.inr ⟨z,b,rfl,λj H=>X j o!,λy=>?_⟩))
  ·have hk:k<x.1.length:=o!
   have c:x.1[k]? =some x.1[k]:=Av hk;generalize x.1[k]=t at c;have i:x.2[k]? =some (x.2[k]' o!):=Av o!;generalize x.2[k]' o!=bb at i;have U:ix x.1 (k:Int)=some t:=by unfold ix;rw[if_pos o!,Int.toNat_natCast,c]
   have Q:ix x.2 (k:Int)=some bb:=by unfold ix;rw[if_pos o!,Int.toNat_natCast,i]
   rw[Q,AD];refine AO (λ_=>Aq.done (.inl ⟨_,rfl,rfl⟩)) (λO=>?_);rw[O]at i;have⟨tv,tm⟩:=h k t c i;rw[U,AD,G,AD];refine AJ (λ_=>Aq.done (.inl ⟨_,rfl,rfl⟩)) (λq1=>?_);rw[AD,AD];refine AJ (λ_=>Aq.done (.inl ⟨_,rfl,rfl⟩)) (λq2=>?_);rw[AD,AD];refine AJ (λ_=>Aq.done (.inl ⟨_,rfl,rfl⟩)) (λq3=>?_);have E: ∀e∈b,e∈L:=λe he=>by have⟨j,r,B,m,v⟩:=(Y e).1 he;exact(h j r m (X j B).1).2 e v
   have J:=ABL (x:=x) (k:=k) (z:=z) (o:=(a.1,(l.2.1,(a.2.2.1,(a.2.2.2.1,(d,b)))))) (F:=a.1) (T:=l.2.1) (lo:=a.2.2.1) (hi:=a.2.2.2.1) (lv:=d) hL c tm tv.1.2.2.2.2.2.2.2.2 E o!
   have D:tj x a.2.2.1 a.2.2.2.1 k→ ∀f:List EN,f.length≤b.length+4096→(∀y,y∈f↔y∈b∨y∈t.2.2.2.2.2)→
     Aq (some (Step.next (wi ((k:Int)+1),((a.1,(l.2.1,(a.2.2.1,(a.2.2.2.1,(d,f))))),z))):Option (Step (Int×AQ×AQ) ((Bool×AQ)⊕ (AQ×AQ)))) (Li (λ(s:Int×AQ×AQ)=> ∃(k:Nat) (z:AQ) (b:List EN),s=((k:Int),((a.1,(l.2.1,(a.2.2.1,(a.2.2.2.1,(d,b))))),z))/\k<=x.1.length/\b.length<=4096*k/\(∀j,j<k->tj x a.2.2.1 a.2.2.2.1 j)/\ ∀y,y∈b↔ ∃(j:Nat) (r:AQ),j<k/\x.1[j]? =some r/\y∈r.2.2.2.2.2) (λs=>x.1.length-s.1.toNat) (x.1.length-((k:Nat):Int).toNat)
      λr=>(∃u,r= .inl u/\u.1=false)\/ ∃z b,r= .inr ((a.1,(l.2.1,(a.2.2.1,(a.2.2.2.1,(d,b))))),z)/\(∀k,k<x.1.length->tj x a.2.2.1 a.2.2.2.1 k)/\ ∀y,y∈b↔ ∃(k:Nat) (r:AQ),x.1[k]? =some r/\y∈r.2.2.2.2.2):=λhm f M C=>by
    rw[AY];refine Aq.next ⟨k+1,z,f,by rw[show(k:Int)+1=((k+1:Nat):Int) by omega],o!,o!,λj H=>?_,λy=>?_⟩ d!
    grind;rw[C,Y];constructor;rintro(⟨j,r,B,m,v⟩|g);exact⟨j,r,o!,m,v⟩;exact⟨k,t,o!,c,g⟩;rintro⟨j,r,B,m,v⟩;by_cases ao:j=k<;>grind
   apply AC<;>intro al
   ·have hp:k-1<x.1.length:=o!
    have q:x.1[k-1]? =some x.1[k-1]:=Av hp;generalize x.1[k-1]=p at q;have S:ix x.1 (wi ((k:Int)-1))=some p:=by rw[AY];unfold ix;rw[if_pos o!,show((k:Int)-1).toNat=k-1 by omega,q]
    rw[AD,S,AD];have A:=(h (k-1) p q (X (k-1) o!).1).1.1;have ad:=A.2.2.1;have ap:=A.1;have ar:=A.2.1;rw[AY (x:=p.2.1+1)];refine AJ (λ_=>Aq.done (.inl ⟨_,rfl,rfl⟩)) (λq4=>AA J λZ w=>?_);obtain⟨f,rfl,M,C⟩:=w;refine D ⟨i,t,c,q1,q2,λ_ p' n=>?_⟩ f M C;rw[q]at n;injection n with n;rw[<-n];exact q4
   have K:Aq (Ah (G8 x ((k:Int),((a.1,(l.2.1,(a.2.2.1,(a.2.2.2.1,(d,b))))),z))) (0,(a.1,(l.2.1,(a.2.2.1,(a.2.2.2.1,(d,b))))))) λr=> ∃f:List EN,r=(a.1,(l.2.1,(a.2.2.1,(a.2.2.2.1,(d,f)))))/\f.length<=b.length+4096/\ ∀y,y∈f↔y∈b\/y∈t.2.2.2.2.2:=J;refine AA K λZ w=>?_;obtain⟨f,rfl,M,C⟩:=w;exact D ⟨i,t,c,q1,q2,λh0=>absurd h0 o!⟩ f M C
  rw[Y];constructor;rintro⟨j,r,B,m,v⟩;exact⟨j,r,m,v⟩;rintro⟨j,r,m,v⟩;exact⟨j,r,by have:=Cv m;omega,m,v⟩
 rcases hr with⟨u,rfl,hu⟩|⟨z,b,rfl,B,m⟩;exact BL (AB λI=>by dsimp only at I;rw[hu]at I;cases I);refine BA (AA XS λax N=>AB λI=>⟨N.1 I,d,b,rfl,B,m⟩)
def gN(a b:AK):Prop:= ∀lo n,AGE a lo n↔AGE b lo n
def uz{a:AK}(h:VB a){x y:NE}(c:x∈D4 a)(d:y∈D4 a)(b:x.2=y.2):x=y:=by grind[uy,List.pairwise_iff_getElem,List.mem_iff_getElem]
structure Grp(M:List NE)(lo hi:Int):Prop where
 same: ∀(k:Nat) (e:NE),M[k]? =some e->e.1.2.2.1=lo/\e.1.2.2.2.1=hi/\e.1.1<=e.1.2.1
 next: ∀(k:Nat) (e f:NE),M[k]? =some e->M[k+1]? =some f->f.1.1=e.1.2.1+1
def Grp.cover{M:List NE}{m l:Int}(h:Grp M m l){c:NE}(d:M[0]? =some c): ∀(k:Nat) (b:NE),M[k]? =some b->c.1.1<=b.1.1/\ ∀n:Int,c.1.1<=n->n<=b.1.2.1-> ∃j e,j<=k/\M[j]? =some e/\e.1.1<=n/\n<=e.1.2.1
 |0,b,a=>by rw[d]at a;injection a with a;subst a;exact⟨Ae _,λn g i=>⟨0,c,Ap _,d,g,i⟩⟩
 |k+1,b,a=>by
  have o:=Cv a;have f:M[k]? =some (M[k]' o!):=Av o!;have q:=Grp.cover h d k _ f;have hn:=h.next k _ _ f a
  have p:=(h.same k _ f).2.2;grind
def Grp.le{M:List NE}{g c:Int}(h:Grp M g c){k:Nat}{a:NE}(f:M[k]? =some a): ∀(d:Nat) (e:NE),M[k+d]? =some e->a.1.2.1<=e.1.2.1
 |0,e,he=>q!
 |d+1,e,he=>by
  have i:=Cv he;have b:M[k+d]? =some (M[k+d]' o!):=Av o!;have l:=Grp.le h f d _ b;have hn:=h.next (k+d) _ _ b he
  have j:=(h.same _ _ he).2.2;omega
def AAn{c:Type}{l:List c}{a b:c}(d:a∈l)(e:b∈l)(h:a≠b):2<=l.length:=by cases l<;>grind
def mC{b:Type}(p:b->Bool): ∀l:List b,(l.filter p).length+(l.filter λa=>!p a).length=l.length
 |[]=>rfl
 |a::r=>by have:=mC p r;grind
def ZT(M:List NE)(l:List Au):List Au:=l.filter λf=>!(M.any λe=>e.2==f.2.1)
def kC{M:List NE}{l:List Au}{f:Au}:f∈ZT M l↔f∈l/\ ∀e∈M,e.2≠f.2.1:=by grind[ZT]
def xT{L:List EN}{a:AK}{M:List NE}{r q:Int}(h:AR L a)(c: ∀e∈M,e∈D4 a)(l:Grp M r q)(w:2<=M.length):(ZT M a.2.2.1).length+2<=a.2.2.1.length:=by
 have d:M[0]? =some (M[0]' o!):=Av o!;have k:M[1]? =some (M[1]' o!):=Av o!;have n:=BN d;have o:=BN k;have i:(M[0]' o!).2≠(M[1]' o!).2:=λm=>by
  have j:=l.next 0 _ _ d k
  have:=(l.same 0 _ d).2.2;rw[<-(uz h.vb (c _ n) (c _ o) m)]at j;omega
 have⟨f,s,_,t,_⟩:=h.mem (c _ n);have⟨g,u,_,v,_⟩:=h.mem (c _ o);have p:=mC (λf:Au=>!(M.any λe=>e.2==f.2.1)) a.2.2.1;have:2<=(a.2.2.1.filter λf=>!!(M.any λe=>e.2==f.2.1)).length:=by refine AAn (a:=f) (b:=g) ?_ ?_ λm=>i q!;grind;grind
 unfold ZT;omega
def ADG{L:List EN}{a:AK}{M:List NE}{m l:Int}{s:BT}(h:AR L a)(j: ∀e∈M,e∈D4 a)(k:Grp M m l)(i:2<=M.length)(q:a.2.2.2.2<=1073741824):VB (a.1,(a.2.1,(ZT M a.2.2.1++[(1,(a.2.2.2.2,s))],(a.2.2.2.1,a.2.2.2.2+1)))):=by have p:=xT h j k i;have⟨b,c,d,f,n,o,g⟩:=h.vb;refine⟨b,c,d,q!,q!,q!,?_⟩;exact(g.sub (List.filter_sublist)).push f rfl rfl
def notM(M:List NE)(x:NE):Bool:= !(M.any λe=>e.2==x.2)
def tZ{L:List EN}{a b:AK}{M:List NE}{r:AQ}{lo t:Int}{I T:NE}(hL:Uq L)(h:AR L a)(J: ∀e∈M,e∈D4 a)(V:Grp M lo t)(h2:2≤M.length)(h0:M[0]? =some I)(hn:M[M.length-1]? =some T)
  (hr:VR r) (r1:r.1=I.1.1) (r2:r.2.1=T.1.2.1) (O:r.2.2.1=lo) (r4:r.2.2.2.1=t) (r5: ∀y,y∈r.2.2.2.2.2↔ ∃e∈M,y∈e.1.2.2.2.2.2)
  (hb:b=(a.1,(a.2.1,(ZT M a.2.2.1++[(1,(a.2.2.2.2,Mr r))],(a.2.2.2.1,a.2.2.2.2+1))))) (q:VB b):
  AR L b/\gN a b/\(AG a->AG b)/\ ∀c,RC a c->RC b c:=by
 have b1:b.1=a.1:=by rw[hb]
 have b2:b.2.1=a.2.1:=by rw[hb]
 have S:b.2.2.1=ZT M a.2.2.1++[(1,(a.2.2.2.2,Mr r))]:=by rw[hb]
 have b4:b.2.2.2.1=a.2.2.2.1:=by rw[hb]
 have m0:=BN h0;have mn:=BN hn;have z: ∀n:Int,(r.1<=n/\n<=r.2.1)↔ ∃e∈M,e.1.1<=n/\n<=e.1.2.1:=λn=>by constructor;rintro⟨B,C⟩;obtain⟨j,e,_,q2,q3⟩:=(V.cover h0 _ T hn).2 n o! o!;exact⟨e,BN q2,q3⟩;rintro⟨e,i,B,C⟩;obtain⟨k,W⟩:=FZ.1 i;have q1:=(V.cover h0 k e W).1;have a2:=Cv W;have q2:=V.le W (M.length-1-k) T (by rw[show k+(M.length-1-k)=M.length-1 by omega];exact hn);omega
 have Z: ∀e∈M,av L e.1:=λe i=>by obtain⟨f,_,_,_,g,_⟩:=h.mem (J e i);exact g
 have p: ∀e∈M,e.1.2.2.1=lo/\e.1.2.2.2.1=t/\e.1.1<=e.1.2.1:=λe i=>by obtain⟨k,W⟩:=FZ.1 i;exact V.same k e W
 have ad:av L r:=by refine hr.runOf hL λy=>?_;rw[r5,O,r4];constructor;rintro⟨e,i,N⟩;have g:=((Z e i).mem y).1 N;obtain⟨p1,p2,p3⟩:=p e i;have:=(z y.1).2 ⟨e,i,g.2.2.2.2⟩;exact⟨g.1,g.2.1,o!,o!,this.1,this.2⟩;rintro⟨B,C,P,g4,g5,g6⟩;obtain⟨e,i,q1,q2⟩:=(z y.1).1 ⟨g5,g6⟩;obtain⟨p1,p2,p3⟩:=p e i;exact⟨e,i,((Z e i).mem y).2 ⟨B,C,o!,o!,q1,q2⟩⟩
 have K:Kf a r.2.2.1 r.2.2.2.1:=by obtain⟨f,_,g,_⟩:=h.mem (J I m0);obtain⟨p1,p2,p3⟩:=p I m0;rw[O,r4,<-p1,<-p2];exact g.2.2.2
 have u:Good b (1,(a.2.2.2.2,Mr r)) r:=⟨rfl,rfl,hr,(Kf.congr b1 b2).1 K⟩
 have v: ∀{f:Au} {s:AQ},Good a f s->Good b f s:=λg=>g.congr b1 b2;have l: ∀x∈D4 b,(x∈D4 a/\ ∀e∈M,e.2≠x.2)\/x=(r,a.2.2.2.2):=λx w=>by unfold D4 at w;rw[S]at w;obtain⟨f,d,t⟩:=OX.1 w;rcases An.1 d with d|d;obtain⟨f1,f2⟩:=kC.1 d;rcases h.files f f1 with U|⟨s,s1,s2,s3⟩;rw[U.intR q.1]at t;cases t;rw[(v s1).intR q.1]at t;injection t with t;subst t;exact .inl ⟨Pb h.vb.1 f1 s1,f2⟩;rw[A6]at d;subst d;rw[u.intR q.1]at t;injection t with t;exact .inr t.symm
 have ar: ∀x∈D4 a,(∀e∈M,e.2≠x.2)->x∈D4 b:=λx w Q=>by
  obtain⟨f,f1,f2,f3,_⟩:=h.mem w;have:f∈b.2.2.1:=by rw[S];exact An.2 (.inl (kC.2 ⟨f1,λe i=>f3▸Q e i⟩))
  have:=Pb q.1 this (v f2);rw[<-f3]at this;exact this
 have Y:(r,a.2.2.2.2)∈D4 b:=Pb q.1 (by rw[S];exact An.2 (.inr (A6.2 rfl))) u;have al: ∀x∈D4 a,x.1.1<=x.1.2.1:=λx w=>by obtain⟨f,_,g,_⟩:=h.mem w;exact g.2.2.1.1.2.1
 have a0:r.1<=r.2.1:=hr.1.2.1;have A: ∀y∈D4 a,(∀e∈M,e.2≠y.2)->y.1.2.2.1=lo->r.2.1<y.1.1\/y.1.2.1<r.1:=λy N Q o=>by refine Qs λF=>?_;have a4:=al y N;obtain⟨e,i,q1,q2⟩:=(z (if y.1.1<=r.1 then r.1 else y.1.1)).1 (by split<;>omega);have D:e≠y:=λF=>Q e i (by rw[F]);have:=h.dis e (J e i) y N D ((p e i).1.trans o.symm);split at q1<;>split at q2<;>omega
 refine⟨⟨q,λf d=>?_,λx w y N D o=>?_⟩,λm n=>?_,λao f d=>?_,λc hc m=>?_⟩;rw[S]at d;rw[b4];rcases An.1 d with d|d;exact(h.files f (kC.1 d).1).imp id λ⟨s,s1,s2,s3⟩=>⟨s,v s1,s2,s3⟩
 rw[A6]at d;subst d;obtain⟨f,_,_,_,_,g⟩:=h.mem (J T mn);exact .inr ⟨r,u,ad,o!⟩;rcases l x w with⟨R,x2⟩|rfl;rcases l y N with⟨y1,y2⟩|rfl;exact h.dis x R y y1 D o;have:=A x R x2 (o.trans O);exact this.symm;rcases l y N with⟨y1,y2⟩|rfl;exact A y y1 y2 (o.symm.trans O);exact absurd rfl D;constructor;rintro⟨e,i,B,C,P⟩;by_cases Q: ∃f∈M,f.2=e.2;obtain⟨f,d,ap⟩:=Q;have:=uz h.vb (J f d) i ap;subst this;have hc:=(z n).2 ⟨f,d,C,P⟩;exact⟨_,Y,by rw[<-B,(p f d).1];exact O,hc.1,hc.2⟩;exact⟨e,ar e i λf d F=>Q ⟨f,d,F⟩,B,C,P⟩;rintro⟨e,i,B,C,P⟩;rcases l e i with⟨q1,q2⟩|rfl;exact⟨e,q1,B,C,P⟩;obtain⟨f,d,q1,q2⟩:=(z n).1 ⟨C,P⟩;exact⟨f,J f d,by rw[(p f d).1,<-B];exact O.symm,q1,q2⟩;rw[S]at d;rcases An.1 d with d|d;obtain⟨s,hs⟩:=ao f (kC.1 d).1;exact⟨s,v hs⟩;rw[A6]at d;subst d;exact⟨r,u⟩
 ·have X:=(Tw q).filter λe=>e.1.2.2.1==m;have a1:=hc m;by_cases hl:m=lo
  ·subst hl;have H:=gK _ ((r,a.2.2.2.2)::((D4 a).filter λe=>e.1.2.2.1==m).filter (notM M)) X λx w=>by obtain⟨x0,E⟩:=BW.1 w;rcases l x x0 with⟨R,x2⟩|rfl;refine Aw.2 (.inr (BW.2 ⟨BW.2 ⟨R,E⟩,?_⟩));unfold notM;simp only[XU,List.any_eq_false,beq_iff_eq];exact x2;exact Aw.2 (.inl rfl)
   have a3:=mC (notM M) ((D4 a).filter λe=>e.1.2.2.1==m);have h1:M[1]? =some (M[1]' o!):=Av o!;have m1:=BN h1;have a5:2<=(((D4 a).filter λe=>e.1.2.2.1==m).filter λx=>!notM M x).length:=by
    have G: ∀e∈M,e∈((D4 a).filter λe=>e.1.2.2.1==m).filter λx=>!notM M x:=λe i=>by refine BW.2 ⟨BW.2 ⟨J e i,by rw[(p e i).1];exact beq_self_eq_true _⟩,?_⟩;unfold notM;rw[Bool.not_not];exact oD.2 ⟨e,i,beq_self_eq_true _⟩
    refine AAn (G I m0) (G _ m1) λF=>?_;have ax:=V.next 0 I _ h0 h1
    have:=(p I m0).2.2;rw[<-F]at ax;omega
   rw[Bn]at H;omega
  have H:=gK _ ((D4 a).filter λe=>e.1.2.2.1==m) X λx w=>by obtain⟨x0,E⟩:=BW.1 w;rcases l x x0 with⟨R,x2⟩|rfl;exact BW.2 ⟨R,E⟩;exact absurd (eq_of_beq E) λF=>hl (F.symm.trans O)
  omega
def Uw(v1:List AQ×List Int×List Bool)(i n:Nat):List NE:=((v1.1.zip v1.2.1).drop i).take n
def vc{a:List AQ×List Int×List Bool}{i n k:Nat}{e:NE}(b:k<n):(Uw a i n)[k]? =some e↔a.1[i+k]? =some e.1/\a.2.1[i+k]? =some e.2:=by grind[Uw]
def AEK{x:AK×Int}{a:List AQ×List Int×List Bool}{i n j:Nat}{f:Au}{z:AK}{w:List Au×List Int×Int×Int×Int}(hn:x.2=n)(o:n<=8)(t:a.2.1.length=a.1.length)(p:i+n<=a.1.length)(m:a.1.length<=4096)(h:x.1.2.2.1[j]? =some f):Aq (Ah (OC x a ((i:Int),z) ((j:Int),w)) (false,(i:Int))) λr=>r=(Uw a i n).any λe=>e.2==f.2.1:=by
 have l:(Uw a i n).length=n:=by grind[Uw,List.length_take,List.length_drop,List.length_zip]
 refine Cn (λ(s:Bool×Int)=> ∃k:Nat,s=(((Uw a i n).take k).any (λe=>e.2==f.2.1),((i+k:Nat):Int))/\k<=n) (λs=>i+n-s.2.toNat) ⟨0,k!,Be _⟩ ?_;rintro s ⟨k,rfl,q⟩;unfold OC;dsimp only;rw[hn,AY (x:=(i:Int)+(n:Int)),AY (x:=((i+k:Nat):Int)+1)];refine AC (λg=>?_) (λg=>Aq.done q!);have b:k<n:=o!
 have d:a.2.1[i+k]? =some (a.2.1[i+k]' o!):=Av o!;refine AL (λc=>Aq.next ⟨k+1,?_,b⟩ q!) (λc=>?_);grind
 ·rw[(by unfold ix;rw[if_pos o!,Int.toNat_natCast,d]:ix a.2.1 ((i+k:Nat):Int)=some (a.2.1[i+k]' o!)),Option.bind_some,(by unfold ix;rw[if_pos o!,Int.toNat_natCast,h]:ix x.1.2.2.1 (j:Int)=some f),Option.bind_some];refine Aq.next ⟨k+1,?_,b⟩ o!
  rw[(by rw[C3,((vc (e:=(a.1[i+k]' o!,a.2.1[i+k]' o!)) b).2 ⟨(Av o!),d⟩)];rfl:(Uw a i n).take (k+1)=(Uw a i n).take k++[(a.1[i+k]' o!,a.2.1[i+k]' o!)]),List.any_append,c,Bool.false_or];refine DR ?_ q!;dsimp only;rw[List.any_cons,List.any_nil,Bool.or_false]
def AEJ{x:AK×Int}{a:List AQ×List Int×List Bool}{i n:Nat}{z:AK}(hn:x.2=n)(g:n<=8)(o:a.2.1.length=a.1.length)(l:i+n<=a.1.length)(f:a.1.length<=4096)(u:x.1.2.2.1.length<=256):Aq (Ah (OB x a ((i:Int),z)) (0,([],(x.1.1,(x.1.2.1,x.1.2.2.2))))) λr=>r=(ZT (Uw a i n) x.1.2.2.1,(x.1.1,(x.1.2.1,x.1.2.2.2))):=by
 refine Cn (λ(q:Int×List Au×List Int×Int×Int×Int)=> ∃j:Nat,q=((j:Int),(ZT (Uw a i n) (x.1.2.2.1.take j),(x.1.1,(x.1.2.1,x.1.2.2.2))))/\j<=x.1.2.2.1.length) (λq=>x.1.2.2.1.length-q.1.toNat) ⟨0,rfl,Be _⟩ ?_;rintro q ⟨j,rfl,v⟩;unfold OB;simp only[len];rw[AY];refine AC (λk=>?_) (λk=>Aq.done q!);have d:x.1.2.2.1[j]? =some (x.1.2.2.1[j]' o!):=Av o!;have m:ix x.1.2.2.1 (j:Int)=some (x.1.2.2.1[j]' o!):=by unfold ix;rw[if_pos o!,Int.toNat_natCast,d]
 refine AA (AEK hn g o l f d) λc e=>?_;have p:ZT (Uw a i n) (x.1.2.2.1.take (j+1))=ZT (Uw a i n) (x.1.2.2.1.take j)++(if c=true then []else [x.1.2.2.1[j]' o!]):=by grind[List.take_add_one,Option.toList_some,ZT]
 refine AA (P:=λt=>t=(ZT (Uw a i n) (x.1.2.2.1.take (j+1)),(x.1.1,(x.1.2.1,x.1.2.2.2)))) ?_ λs b=>?_;refine AO (λh=>?_) (λh=>AB ?_);grind[ZT,Uw,Nat.le_trans,List.length_filter_le,List.length_take,AA,AZ,AB];grind
 ·rw[b];exact Aq.next ⟨j+1,q!,o!⟩ q!
def AFo(L:List EN)(x:AK×Int)(r:AK×Bool×Int):Prop:=
 (x.1.2.2.2.2<=1073741824->r.2.2=0)/\(r.2.2=0->(r.2.1=false/\r.1=x.1)\/(r.2.1=true/\AR L r.1/\gN x.1 r.1/\(AG x.1->AG r.1)/\(∀c,RC x.1 c->RC r.1 c)/\r.1.1=x.1.1/\r.1.2.1=x.1.2.1/\r.1.2.2.2.1=x.1.2.2.2.1/\r.1.2.2.2.2=x.1.2.2.2.2+1/\r.1.2.2.1.length+1<=x.1.2.2.1.length/\x.1.2.2.2.2<=1073741824))
def AGK{L:List EN}{x:AK×Int}(hL:Uq L)(h:AR L x.1)(hf:2<=x.2/\x.2<=8):Aq (Md x) (AFo L x):=by
 have hs:=h.sa;have⟨n,hn⟩:=EY (show 0<=x.2 by omega);have p:x.1.2.2.1.length<=256:=by have:=h.vb.2.2.2.2.2.1;omega
 have al:=h.vb.2.2.2.1;unfold Md;have⟨v0,U,V⟩:=TG (x:=x.1);have X:=V.2 h.vb;subst X;rw[U,AD,Cw,cond_false,decide_eq_false o!,cond_false,decide_eq_false o!,cond_false];refine AA (ACK h) λa o=>?_;have⟨⟨t1,t2,t3,t4⟩,hw⟩:=o;have q: ∀e∈D4 x.1,VR e.1/\ ∀y∈e.1.2.2.2.2.2,y∈L:=λe t=>by have⟨f,_,g,_,g2,_⟩:=h.mem t;exact⟨g.2.2.1,λy hy=>((g2.mem y).1 hy).1⟩
 refine AA (P:=λr=>(∃z,r= .inr z)\/ ∃u,r= .inl u/\AFo L x (u.2.2,(u.1,u.2.1))) ?_ λr hr=>?_
 ·refine Cn (λ(s:Int×AK)=>0<=s.1/\s.1<=a.1.length) (λ(s:Int×AK)=>((a.1.length:Int)-s.1).toNat) ⟨Ae _,d!⟩ (λs hI=>?_);have⟨i',z⟩:=s;have⟨D,i2⟩:=hI;dsimp only at D i2;obtain⟨i,rfl⟩:=EY D;unfold To;dsimp only;rw[AY (x:=(i:Int)+1),AY (x:=(i:Int)+x.2)];refine AC (λhc=>?_) (λ_=>Aq.done (.inl ⟨_,rfl⟩));simp[len]at hc;refine AA (Bb D) λd h3=>AA (Bb D) λZ h4=>?_;have l3:=h3.2;have l4:=h4.2;have l: ∀k,k<n->d[k]? =a.1[i+k]? :=λk c=>by grind[Int.toNat_natCast]
  have F: ∀k,k<n->Z[k]? =a.2.2[i+k]? :=λk c=>by grind[Int.toNat_natCast]
  have w: ∀{k:Nat} {r:AQ},d[k]? =some r->k<n:=λ{k r} c=>by have:=Cv c;omega
  have whole: ∀(k:Nat) (r:AQ),d[k]? =some r->Z[k]? =some true-> ∃id,a.2.1[i+k]? =some id/\(r,id)∈D4 x.1:=λk r o h2=>by have c:=w o;rw[l k c]at o;rw[F k c]at h2;have ap:=Cv o;have j:a.2.1[i+k]? =some (a.2.1[i+k]' o!):=Av o!;refine⟨_,j,?_⟩;refine hw ((r,a.2.1[i+k]' o!),true) ?_ rfl;refine FZ.2 ⟨i+k,?_⟩;rw[uE,uE];exact⟨⟨o,j⟩,h2⟩
  have S:d.length=n:=o!
  have I:d[0]? =some (d[0]' o!):=Av o!;have J:d[d.length-1]? =some (d[d.length-1]' o!):=Av o!;generalize d[0]' o!=r0 at I;generalize d[d.length-1]' o!=rn at J;refine AA (AEw (x:=(d,Z)) hL (λk r q1 q2=>?_) d! d! I J) λv5 h5=>?_;have⟨id,_,q3⟩:=whole k r q1 q2;exact q _ q3;refine AO (λ_=>Aq.next d! d!) (λT=>?_);have⟨w1,lv,es,B,E,w4⟩:=h5 T;dsimp only at E w4;refine AC (λad=>Aq.done (.inr ⟨_,rfl,λhh=>absurd hh o!,λhz=>absurd (show(21:Int)=0 from hz) g!⟩)) (λar=>?_);have hi:i+n<=a.1.length:=o!
  have Q:(Uw a i n).length=n:=by unfold Uw;rw[List.length_take,List.length_drop,List.length_zip];omega
  have b: ∀(k:Nat) (e:NE),(Uw a i n)[k]? =some e->k<n/\d[k]? =some e.1/\a.2.1[i+k]? =some e.2:=λk e c=>by
   have m:k<n:=q!
   have:=(vc m).1 c;exact⟨m,by rw[l k m];exact this.1,this.2⟩
  have C: ∀e∈Uw a i n,e∈D4 x.1:=λe t=>by have⟨k,c⟩:=FZ.1 t;have⟨k1,v,Y⟩:=b k e c;have⟨q1,_⟩:=E k o!;have⟨id,q2,q3⟩:=whole k e.1 v q1;rw[Y]at q2;injection q2 with q2;rw[<-q2]at q3;exact q3
  have N:Grp (Uw a i n) r0.2.2.1 r0.2.2.2.1:=by refine⟨λk e c=>?_,λk e f c hf=>?_⟩;have⟨k1,v,Y⟩:=b k e c;have⟨_,r,q1,q2,q3,_⟩:=E k o!;dsimp only at q1;rw[v]at q1;cases q1;exact⟨q2,q3,(q e (C e (BN c))).1.1.2.1⟩;have⟨k1,v,Y⟩:=b k e c;have⟨f1,f2,f3⟩:=b (k+1) f hf;have⟨_,r,q1,_,_,q2⟩:=E (k+1) o!;dsimp only at q1 q2;rw[f2]at q1;cases q1;exact q2 o! e.1 (by rw[lL];exact v)
  have G:(Uw a i n)[0]? =some ((Uw a i n)[0]' o!):=Av o!;have H:(Uw a i n)[(Uw a i n).length-1]? =some ((Uw a i n)[(Uw a i n).length-1]' o!):=Av o!;generalize (Uw a i n)[0]' o!=m0 at G;generalize (Uw a i n)[(Uw a i n).length-1]' o!=mn at H;have O:m0.1=r0:=by have:=(b 0 m0 G).2.1;rw[I]at this;exact(Bf this).symm
  have R:mn.1=rn:=by have:=(b _ mn H).2.1;rw[Q,<-S,J]at this;exact(Bf this).symm
  refine AA (AEJ hn o! t1 hi o! p) λax K=>?_;subst K;rw[pL w1,AD];dsimp only;have ao:=xT h C N o!;refine AA (AZ w!) λa0 M=>?_;rw[AY (x:=x.1.2.2.2.2+1),M.1];have W:=ADG (s:=Mr v5.1) h C N o! o!;have key:=tZ (r:=v5.1) hL h C N o! G H w1 (by rw[B,O]) (by rw[B,R]) (by rw[B]) (by rw[B]) (λy=>by rw[B];dsimp only;rw[w4];constructor;rintro⟨k,r,q1,q2⟩;have c:=w q1;have A:=q1;rw[l k c]at A;have j:a.2.1[i+k]? =some (a.2.1[i+k]' o!):=Av o!;exact⟨(r,_),BN ((vc (e:=(r,a.2.1[i+k]' o!)) c).2 ⟨A,j⟩),q2⟩;rintro⟨e,t,q2⟩;have⟨k,c⟩:=FZ.1 t;exact⟨k,e.1,(b k e c).2.1,q2⟩) rfl W;refine Aq.done (.inr ⟨_,rfl,λ_=>rfl,λ_=>.inr ⟨rfl,key.1,key.2.1,key.2.2.1,key.2.2.2,rfl,rfl,rfl,rfl,?_,o!⟩⟩);dsimp only;rw[Ac,Bn,BV];omega
 rcases hr with⟨z,rfl⟩|⟨u,rfl,hu⟩;exact BA (AB ⟨λ_=>rfl,λ_=>.inl ⟨rfl,rfl⟩⟩);exact BL (AB hu)
def gN.refl(a:AK):gN a a:=λ_ _=>Iff.rfl
def gN.trans{a b c:AK}(h:gN a b)(g:gN b c):gN a c:=λd n=>(h d n).trans (g d n)
def AGT{L:List EN}{x:AK×Int}{m:Int}(q:Uq L)(h:AR L x.1)(u:2<=x.2/\x.2<=8)(v:SF x.1 m)(w:m<=1073741824):Aq (JS x) λr=>r.2=0/\AR L r.1/\gN x.1 r.1/\(AG x.1->AG r.1)/\(∀c,RC x.1 c->RC r.1 c)/\SF r.1 m/\r.1.1=x.1.1/\r.1.2.1=x.1.2.1/\r.1.2.2.2.1=x.1.2.2.2.1:=by
 unfold JS;refine AA (P:=λr=>r.1=0/\AR L r.2/\gN x.1 r.2/\(AG x.1->AG r.2)/\(∀c,RC x.1 c->RC r.2 c)/\SF r.2 m/\r.2.1=x.1.1/\r.2.2.1=x.1.2.1/\r.2.2.2.2.1=x.1.2.2.2.1) ?_ λr hr=>AB hr;refine Cn (λ(s:AK×AK)=>AR L s.1/\gN x.1 s.1/\(AG x.1->AG s.1)/\(∀c,RC x.1 c->RC s.1 c)/\SF s.1 m/\s.1.1=x.1.1/\s.1.2.1=x.1.2.1/\s.1.2.2.2.1=x.1.2.2.2.1) (λs=>s.1.2.2.1.length) ⟨h,gN.refl _,id,λ_=>id,v,rfl,rfl,rfl⟩ (λs p=>?_);obtain⟨e,f,l,n,g,i,j,k⟩:=p;unfold Tp;refine AA (AGK (x:=(s.1,x.2)) q e u) λC o=>?_;obtain⟨y,z⟩:=o;have b:s.1.2.2.2.2<=1073741824:=by unfold SF at g;omega
 have d:=y b;refine AJ (λt=>absurd d t) (λ_=>?_);rcases z d with⟨q1,q2⟩|⟨q1,q2,q3,A,B,q4,q5,q6,q7,q8,q9⟩
 ·rw[q1,Bool.not_false,cond_true];exact Aq.done ⟨rfl,e,f,l,n,g,i,j,k⟩
 ·rw[q1,Cw,cond_false];dsimp only at q3 q4 q5 q6 q7 q8;exact Aq.next ⟨q2,f.trans q3,λa=>A (l a),λc a=>B c (n c a),by unfold SF at*;dsimp only;omega,q4.trans i,q5.trans j,q6.trans k⟩ d!
def zj{b:UInt8}{n:Int}(a:0<=n)(e:n<255):Ew ([IntKind.wrap .u8 (((BitVec.toNat ((BitVec.ofInt 8 (b.toNat:Int))^^^(BitVec.ofInt 8 (IntKind.wrap .u8 (wi (1+n)))))):Nat):Int)]:List Int)=[UInt8.ofNat (BitVec.ofNat 8 b.toNat^^^BitVec.ofNat 8 (1+n).toNat).toNat]/\b≠UInt8.ofNat (BitVec.ofNat 8 b.toNat^^^BitVec.ofNat 8 (1+n).toNat).toNat:=by obtain⟨m,rfl⟩:=EY a;rw[(by grind[AY]:wi (1+(m:Int))=((1+m:Nat):Int)),(by rw[AFk];omega:IntKind.wrap .u8 ((1+m:Nat):Int)=((1+m:Nat):Int)),(by omega:(1+(m:Int)).toNat=1+m),az,az];refine⟨?_,λd=>?_⟩;rw[(by rw[AFk];omega:IntKind.wrap .u8 (((BitVec.ofNat 8 b.toNat^^^BitVec.ofNat 8 (1+m)).toNat:Nat):Int)=(((BitVec.ofNat 8 b.toNat^^^BitVec.ofNat 8 (1+m)).toNat:Nat):Int))];rfl;have c:=congrArg UInt8.toNat d;rw[dh,Sv o!]at c;have f:=congrArg (BitVec.ofNat 8 b.toNat^^^ ·) (by grind:BitVec.ofNat 8 b.toNat=BitVec.ofNat 8 b.toNat^^^BitVec.ofNat 8 (1+m));grind[BitVec.xor_assoc,BitVec.xor_self,BitVec.zero_xor]
def wZ{b:AT}{s:BT}(h:CX b)(A:s.length≠0)(B:s.length<=1099511627775):Aq (F7 b s) λr=>CX r.2/\pM s r.1/\r.1.length<=s.length+1:=by
 unfold F7;simp only[len];refine AP (λv=>absurd v o!) (λ_=>AA (Af h o!) λE m=>?_);have⟨l,k0,k1⟩:=m;have⟨k,t⟩:=EY k0;refine AA (Af l g!) λF e=>?_;rw[t,AY];have u:k<s.length:=o!
 have a:s=s.take k++s[k]::s.drop (k+1):=t!
 have i:RD s 0 (k:Int)=some (s.take k):=by grind[RD]
 have j:RD s ((k:Int)+1) (s.length:Int)=some (s.drop (k+1)):=by unfold RD;grind[List.take_of_length_le]
 have C:(s.take k).length=k:=q!
 have D:(s.drop (k+1)).length=s.length-(k+1):=EH;refine AP (λ_=>?_) (λ_=>?_);rw[i,AD,j,AD];refine AA (CE o!) λG o=>AB ⟨e.1,.less _ _ _ a o.1,q!⟩;refine AP (λ_=>?_) (λ_=>?_);refine AA (Af e.1 g!) λz p=>AA (CE (by rw[MG];simp;omega)) λH q=>AB ⟨p.1,?_,?_⟩;exact .more s [] (UInt8.ofNat (IntKind.wrap .u8 z.1).toNat) (C5 s).symm (by rw[q.1];rfl);grind[MG,List.length_cons,List.length_nil];rw[i,AD];have f:six s (k:Int)=some ((s[k].toNat:Nat):Int):=by grind[six,Int.toNat_natCast,List.getElem?_eq_getElem]
 rw[f,AD,j,AD];refine AA (Af e.1 g!) λw c=>?_;have⟨q1,q2⟩:=zj (b:=s[k]) c.2.1 o!;rw[q1];refine AA (CE w!) λx d=>?_;have g:=d.2;simp[Bn,BV]at g;refine AA (CE o!) λy n=>AB ⟨c.1,.other _ _ _ _ q2 a ?_,q!⟩;grind[List.append_assoc]
theorem yQ{a:AK}{b:AT}(y:AG a)(h:CX b)(I:a.2.2.1.length<=1000000):Aq (Dy b a.2.2.1) λr=>CX r.2/\ ∀f∈r.1,f∈a.2.2.1\/Bad f:=by
 unfold Dy;generalize B:a.2.2.1=x at*;refine AP (λ_=>AB ⟨h,λf v=>by simp at v⟩) (λg=>?_);simp only[len]at g;refine AA (Af h (by grind)) λC p=>?_;have⟨n,c,o⟩:=p;simp[len]at o;rw[AY (x:=C.1+1) (by omega)];refine AA (Af n (by decide)) λJ q=>AP (λ_=>?_) (λ_=>?_);refine AA (Bb (Ae _) c (by omega)) λK F=>AA (Bb (by omega) (by grind) (by grind)) λL G=>?_;grind[AA,AZ,List.length_nil,AB];refine AA (AZ (by simp;omega)) λM u=>?_;have j:=u.1;rw[Bw]at j;subst j;refine AA (AI c (by omega)) λN _=>AA (AI c (by omega)) λm H=>?_;have⟨r,hr⟩:=y m (by grind);have A:=hr.size;have i:m.2.2.length≠0:=by rw[hr.2.1];grind[Mr,List.length_append,C8]
 refine AA (wZ q.1 i (by omega)) λO k=>AA (AI c (by omega)) λD _=>AA (AI c (by omega)) λE t=>AB ⟨k.1,λf e=>?_⟩;rcases OY e with w|w;grind;refine .inr ?_;rw[w];refine⟨by grind,λs z l=>?_⟩;dsimp only at l;have d:=k.2.1;rw[l,hr.2.1]at d;exact ADK hr.2.2.1.wr z d
def AAv{L:List EN}{a:AK}{b:AT}{m:Int}(h:AR L a)(p:AG a)(k:CX b)(J:SF a m):Aq (Dy b a.2.2.1) λr=>CX r.2/\AR L (a.1,(a.2.1,(r.1,a.2.2.2)))/\(∀c,RC a c->RC (a.1,(a.2.1,(r.1,a.2.2.2))) c)/\SF (a.1,(a.2.1,(r.1,a.2.2.2))) m:=by
 obtain⟨B,C,D,E,F,K,G⟩:=id h.vb;refine((AAw G k o! h.sa.2.2).and (yQ p k o!)).mono λr hr=>?_;obtain⟨⟨H,M,I,N⟩,_,u⟩:=hr;have i:VB (a.1,(a.2.1,(r.1,a.2.2.2))):=⟨B,C,D,E,F,d!,I⟩
 have g: ∀e∈D4 (a.1,(a.2.1,(r.1,a.2.2.2))),e∈D4 a:=λe o=>by unfold D4 at o;obtain⟨f,d,j⟩:=OX.1 o;rcases u f d with d|d;obtain⟨s,q⟩:=p f d;have n:Good (a.1,(a.2.1,(r.1,a.2.2.2))) f s:=q.congr rfl rfl;rw[n.intR i.1]at j;injection j with j;subst j;exact Pb h.vb.1 d q;rw[d.intR i.1]at j;cases j
 refine⟨H,⟨i,λf d=>?_,λx l y v=>h.dis x (g x l) y (g y v)⟩,λc k t=>?_,by unfold SF at*;dsimp only;omega⟩;rotate_left;exact Dh (gK _ ((D4 a).filter λe=>e.1.2.2.1==t) ((Tw i).filter _) λx l=>BW.2 ⟨g x (BW.1 l).1,(BW.1 l).2⟩) (k t);rcases u f d with d|d;exact(h.files f d).imp id λ⟨s,w,z,A⟩=>⟨s,w.congr rfl rfl,z,A⟩
 exact .inl d
def ACE{L:List EN}{x:Int×List Int}(h:BD x.1 x.2):Aq (IH x) λr=>AR L r.1/\AG r.1/\RC r.1 0/\SF r.1 1/\r.1.2.1=x.1/\r.1.2.2.2.1=1:=by
 have a:Aq (IH x) λr=>r.2=0->r.1.2.2.1=[]/\r.1.2.2.2.2=1:=by refine AA lV λo b=>AO (λj=>AB λm=>?_) (λ_=>?_);grind;have l:=h.2.2.2.1;grind[AA,AZ,AB]
 refine((AGI h).and a).mono λr hr=>?_;have⟨⟨b,c,d,g⟩,i⟩:=hr;refine⟨⟨c,λf a=>?_,λe k=>?_⟩,λf a=>?_,λn=>?_,?_,d,g⟩;grind;grind[D4];grind;grind[D4];unfold SF;grind
def AX(L:List EN)(n d m:Int)(a:AK):Prop:=AR L a/\AG a/\(∃c:Nat,RC a c/\100*(c:Int)<=m+99)/\SF a m/\a.2.1=n/\a.2.2.2.1<=d+1/\(HF L->AF a)
def AX.step{n m:Int}{a:AK}{l:Ad}{c:Int}(p:Do l)(h:AX l.2.1 n l.2.2 m a):Aq (Ei (a,(l,c))) λr=>r.2=0->AX l.2.1 n l.2.2 (m+100) r.1:=by have⟨d,e,⟨k,j,o⟩,f,g,t,i⟩:=h;refine(AEM (x:=(a,(l,c))) d p f).mono λr hr q=>?_;have⟨q1,q2,s,q3,q4,q5,q6⟩:=hr q;exact⟨q1,q2 e,⟨k+1,s k j,o!⟩,by unfold SF at*;omega,q4.trans g,q!,λb=>q6 b (i b)⟩
def AX.mono{L:List EN}{n d m k:Int}{a:AK}(h:AX L n d m a)(o:m<=k):AX L n d k a:=by have⟨b,e,⟨c,i,j⟩,l,f,g⟩:=h;exact⟨b,e,⟨c,i,o!⟩,by unfold SF at*;omega,f,g⟩
def AX.tidy{L:List EN}{n d m:Int}{a:AK}{c:Int}(p:Uq L)(h:AX L n d m a)(u:m<=1073741824)(s:2<=c/\c<=8):Aq (JS (a,c)) λr=>AX L n d m r.1:=by have⟨g,i,⟨k,t,b⟩,j,l,z,o⟩:=h;refine(AGT (x:=(a,c)) p g s j u).mono λr hr=>?_;have⟨q0,q1,q2,q3,y,q4,q5,q6,q7⟩:=hr;exact⟨q1,q3 i,⟨k,y k t,b⟩,q4,q6.trans l,q!,λq f e n v w=>(q2 f n).1 (o q f (q5▸e) n v (q7▸w))⟩
def yM{b:AT}{x:Int×Ad}(h:CX b)(C:1<=x.1/\x.1<=64)(e:Do x.2):Aq (Ol b x) λr=>CX r.2/\AX x.2.2.1 x.1 x.2.2.2 901 r.1:=by
 have T:=e.1;have U:=e.2.2.2.1;refine AA (AAt h C) λv0 m=>AA (ACE (L:=x.2.2.1) m.2) λI v=>?_;have⟨D,E,H,F,G,s5⟩:=v;have A:AX x.2.2.1 x.1 x.2.2.2 1 I.1:=⟨D,E,⟨0,H,g!⟩,F,G,o!,λ_ lo _ n n1 n2=>o!⟩
 refine AA (Af m.1 g!) λv2 w=>?_;have⟨t,u,S⟩:=w;refine AA (P:=λr=>CX r.1/\AX x.2.2.1 x.1 x.2.2.2 801 r.2) ?_ λK c=>AA (Af c.1 g!) λM f=>AA (P:=λa=>AX x.2.2.1 x.1 x.2.2.2 901 a) (AL (λ_=>AA (c.2.step e) λN g=>AA (P:=λa=>AX x.2.2.1 x.1 x.2.2.2 901 a) (AP (λk=>AB ((g k).mono g!)) (λ_=>AB (c.2.mono g!))) λO i=>AB i) (λ_=>AB (c.2.mono g!))) λQ j=>AB ⟨f.1,j⟩;refine Cn (λ(s:Int×AT×AK)=>0<=s.1/\s.1<=8/\CX s.2.1/\AX x.2.2.1 x.1 x.2.2.2 (801-100*s.1) s.2.2) (λ(s:Int×AT×AK)=>s.1.toNat) ⟨u,q!,t,A.mono q!⟩ (λs B=>?_);have⟨Y,Z,q,l⟩:=B;unfold RM;rw[(AY (x:=s.1-1))];refine AC (λX=>AA (Af q g!) λv4 y=>AA (l.step e) λv5 z=>AA (P:=λa=>AX x.2.2.1 x.1 x.2.2.2 (801-100*(s.1-1)) a) (AP (λk=>AB ((z k).mono o!)) (λ_=>AB (l.mono o!))) λv6 o=>AA (Af y.1 g!) λv7 p=>?_) (λ_=>Aq.done ⟨q,l.mono o!⟩);refine AA (P:=λr=>CX r.1/\AX x.2.2.1 x.1 x.2.2.2 (801-100*(s.1-1)) r.2) ?_ λJ d=>Aq.next ⟨q!,q!,d.1,d.2⟩ q!
 refine AL (λ_=>AA (Af p.1 g!) λR V=>?_) (λ_=>AB ⟨p.1,o⟩);rw[AY (x:=2+R.1)];refine AA (o.tidy e.uq o! o!) λv9 W=>?_;grind[AA,AP,AB]
set_option maxHeartbeats 1000000
def ACJ{n p:Int}{l:List Int}(h:BD n l):Aq (JT (l,p)) λr=>0<=r.1/\r.1<=l.length/\(∀(i:Nat) (v:Int),(i:Int)<r.1->l[i]? =some v->v<p)/\(∀(i:Nat) (v:Int),r.1<=(i:Int)->l[i]? =some v->p<=v)/\(r.2=true->l[r.1.toNat]? =some p)/\(r.2=false-> ∀v,l[r.1.toNat]? =some v->p<v):=by
 have t:=h.2.2.2.1;refine AA (P:=λ(r:Int)=>0<=r/\r<=l.length/\(∀(i:Nat) (v:Int),(i:Int)<r->l[i]? =some v->v<p)/\ ∀(i:Nat) (v:Int),r<=(i:Int)->l[i]? =some v->p<=v) ?_ λJ u=>?_
 ·refine Cn (λ(s:Int×Int)=>0<=s.1/\s.1<=s.2/\s.2<=l.length/\(∀(i:Nat) (v:Int),(i:Int)<s.1->l[i]? =some v->v<p)/\ ∀(i:Nat) (v:Int),s.2<=(i:Int)->l[i]? =some v->p<=v) (λ(s:Int×Int)=>(s.2-s.1).toNat) ⟨Ae _,q!,q!,λi v e=>q!,λi v e b=>q!⟩ (λs y=>?_);have⟨o,G,C,D,E⟩:=y;unfold Mh;rw[zD o];refine AC (λa=>?_) (λa=>Aq.done ?_)
  ·refine AA (AI o! q!) λF g=>AA cP λH k=>?_;rw[(AY (x:=(s.1+s.2)/2+1))];refine AA (P:=λ(q:Int×Int)=>(0<=q.1/\q.1<=q.2/\q.2<=(l.length:Int)/\(∀(i:Nat) (v:Int),(i:Int)<q.1->l[i]? =some v->v<p)/\ ∀(i:Nat) (v:Int),q.2<=(i:Int)->l[i]? =some v->p<=v)/\(q.2-q.1).toNat<(s.2-s.1).toNat) ?_ λI m=>Aq.next m.1 m.2
   refine AL (λB=>AB ⟨⟨q!,q!,C,λi v e b=>?_,E⟩,q!⟩) (λz=>AB ⟨⟨o,o!,o!,D,λi v e b=>?_⟩,o!⟩);have f:=k.1 B;have:=h.le (i:=i) (j:=((s.1+s.2)/2).toNat) o! b g.1;omega;have f: ¬F<p:=λq=>by have:=k.2 q;rw[z]at this;cases this
   have:=h.le (i:=((s.1+s.2)/2).toNat) (j:=i) o! g.1 b;omega
  grind
 have⟨a1,a2,a3,a4⟩:=u;refine AC (λa=>?_) (λa=>AB ⟨a1,a2,a3,a4,λc=>(by cases c),λ_ v b=>?_⟩);simp[len]at a;refine AA (AI a1 a) λK w=>AP (λd=>AB ⟨a1,a2,a3,a4,λ_=>by dsimp only;rw[w.1,d],λc=>(by cases c)⟩) (λA=>AA (AI a1 a) λL _=>AL (λc=>?_) (λ_=>AB ⟨a1,a2,a3,a4,λc=>(by cases c),λ_ v b=>?_⟩));grind;grind;grind
def WI(a:AK)(p lo hi:Int):Prop:= ∃i:Nat,a.1[i]? =some lo/\hi=ot a i/\lo<=p/\p<=hi
def ACG{a:AK}{p:Int}(h:VB a)(z:0<=p/\p<a.2.1): ∃b d,GP (a,p)=some (b,(d,true))/\WI a p b d:=by
 have key:Aq (GP (a,p)) λr=>r.2.2=true/\WI a p r.1 r.2.1:=by
  unfold GP;dsimp only;refine AA (Iz h) λG m=>?_;rw[m,Cw,cond_false,decide_eq_false o!,cond_false,decide_eq_false o!,cond_false];refine AA (ACJ h.1) λc n=>?_;have⟨D,E,v,F,k,x⟩:=n;have q:=h.1.2.2.2.1;refine AA (P:=λl:Int=> ∃(i:Nat) (b:Int),l=i/\a.1[i]? =some b/\b<=p/\ ∀w,a.1[i+1]? =some w->p<w) ?_ λl s=>?_;refine AO (λt=>AB ?_) (λf=>AB ?_);have e:0<c.1:=by refine Qs λy=>?_;have:=x t 0 (by rw[show c.1.toNat=0 by omega];exact h.1.2.2.2.2.1);omega
  rw[AY];refine⟨c.1.toNat-1,a.1[c.1.toNat-1],o!,Av o!,?_,λw g=>?_⟩;have:=v (c.1.toNat-1) _ o! (Av o!);omega;grind;refine⟨c.1.toNat,p,o!,(k f),Ae _,λw g=>?_⟩;exact h.1.lt 0 c.1.toNat p w (k f) g;obtain⟨i,b,rfl,j,u,A⟩:=s;rw[wc h.1 j,AD];refine AB ⟨rfl,i,j,rfl,u,?_⟩;grind[ot]
 have⟨⟨b,d,o⟩,k1,B,C⟩:=key;grind
def WI.uniq{a b:AK}{p l1 l2 f g:Int}(h:BD a.2.1 a.1)(d:b.1=a.1)(e:b.2.1=a.2.1)(m:WI a p l1 f)(n:WI b p l2 g):l1=l2:=by
 obtain⟨i,s,t,u,v⟩:=m;obtain⟨j,w,z,A,B⟩:=n;have o:ot b j=ot a j:=by unfold ot;rw[d,e]
 have key: ∀{i j:Nat} {x y:Int},a.1[i]? =some x->a.1[j]? =some y->i<j->ot a i<y:=λ{i j x y} q c k=>by have r:=Cv c;have l:a.1[i+1]? =some (a.1[i+1]' o!):=Av o!;have:=h.le (by omega:i+1<=j) l c;unfold ot;grind
 grind
def wV(P:Int->Prop)(j fl:Int):Prop:=0<=fl/\fl<=j/\(∀n,fl<n->n<=j->P n)/\(fl=0\/ ¬P fl)
def wV.uniq{P Q:Int->Prop}{j r s:Int}(h: ∀n,P n↔Q n)(hr:wV P j r)(a:wV Q j s):r=s:=by obtain⟨b,c,d,e⟩:=hr;obtain⟨f,g,i,k⟩:=a;grind
structure Wk(L:List EN)(l:Ad):Prop where
 vl:Do l
 sorted:L.Pairwise λx y=>x.1<y.1
 tail: ∀e,e∈l.2.1↔e∈L/\l.1<=e.1/\e.1<=l.1+l.2.1.length-1
 len:L.length<=4096
def AGG{B:Nat}{L:List EN}{a:AK}{l:Ad}{p i j:Int}(q:CP B)(D:B≤16777216)(v:j-i≤B)(t:0≤i)(F:i≤j)(E:j≤1099511627776)(h:AR L a)(w:Wk L l)(y:0≤p∧p<a.2.1):
  ∃o t d,WI a p o t/\wV (tU a l o) j d/\Pw (a,(l,(p,(i,j))))=some (decide (d<=i))/\Aq (Hs (a,(l,(p,(i,j))))) λr=>(d>i/\r=([],42))\/(d<=i/\((Xg i (L.filter (K6 p i j))/\r=(L.filter (K6 p i j),0))\/(¬Xg i (L.filter (K6 p i j))/\r=([],13)))):=by
 obtain⟨o,u,x,n⟩:=ACG h.vb y;obtain⟨k,k1,G,H,I⟩:=id n;obtain⟨d,z,C,A⟩:=AGF q D v t F E h.vb h.ds w.vl y x rfl w.sorted w.tail (λe s=>by
  obtain⟨f,_,_,_,g,_⟩:=h.mem s;exact g) h.dis (λe s m=>by
  obtain⟨f,_,g,_⟩:=h.mem s;have c:e.1.2.2.1=o:=m;have b:=g.2.2.2;rw[c]at b;have:=b.uniq h.vb.1 ⟨k,k1,G⟩;exact⟨H,o!⟩)
 exact⟨o,u,d,n,z,C,A⟩
def Do.sorted{l:Ad}(h:Do l):l.2.1.Pairwise λx y=>x.1<y.1:=by have⟨l1,l2,a,b,c,d⟩:=h;rw[Hl];grind
def WP{l:Ad}(h:Do l):Wk l.2.1 l:=⟨h,h.sorted,λe=>⟨λa=>⟨a,by have⟨k,b⟩:=FZ.1 a;have:=(h.2.2.2.2.2 k e b).1;have:=Cv b;omega⟩,λa=>a.1⟩,h.2.2.1⟩
def AHX{l:Ad}{f:Int}(h:Do l)(n:l.2.2=l.1+l.2.1.length-1)(i:l.1<=f)(j:f<=l.2.2+1)(m:f<=1099511627776):Aq (J5 (l,f)) λr=>Wk l.2.1 r.1/\r.1.1=f/\r.1.2.2=l.2.2:=by
 have o:Aq (J5 (l,f)) λr=>r.2=0->r.1=(f,(l.2.1.drop (f-l.1).toNat,l.2.2)):=by have⟨a1,a2,a3,a4,a5,a6⟩:=id h;refine AA Bc λv t=>AO (λ_=>AB λa=>absurd (show(26:Int)=0 from a) g!) (λ_=>?_);refine AC (λ_=>AB λa=>absurd (show(1:Int)=0 from a) g!) (λ_=>?_);refine AC (λ_=>AB λa=>absurd (show(1:Int)=0 from a) g!) (λ_=>?_);refine AC (λ_=>AB λa=>absurd (show(1:Int)=0 from a) g!) (λ_=>?_);refine AC (λ_=>AB λa=>absurd (show(15:Int)=0 from a) g!) (λ_=>?_);grind[AY,AA,Bb,AZ,AB,List.take_of_length_le]
 refine((gy (x:=(l,f)) h n i j m).and o).mono λr hr=>?_;have⟨⟨c,q,s⟩,d⟩:=hr;refine⟨⟨q,h.sorted,λe=>?_,h.2.2.1⟩,s,by rw[(d c)]⟩;rw[(d c)];have⟨l1,l2,u,w,y,p⟩:=h;rw[FZ,FZ];constructor;grind;rintro⟨⟨k,b⟩,g,_⟩;have:=(p _ e b).1;exact⟨k-(f-l.1).toNat,by rw[KX,show(f-l.1).toNat+(k-(f-l.1).toNat)=k by omega];exact b⟩
def vM{p i j:Int}{e:EN}:K6 p i j e=(cE p e&&(decide (e.1>i)&&decide (e.1<=j))):=by unfold K6 cE gr;grind
def Xg.snoc{i:Int}{s:List EN}{e:EN}(h:Xg i s)(m:s=[]->e.2.2.2.2.1<=i)(n: ∀f,s[s.length-1]? =some f->e.2.2.2.2.1=f.1):Xg i (s++[e]):=by
 intro k g b;rcases Ay k s.length with d|d;rw[CT d]at b;refine⟨(h k g b).1,λf a c=>(h k g b).2 f a ?_⟩;grind;have o:=Cv b;rw[Ac,qy]at o;have l:k=s.length:=o!
 subst l;have j:e=g:=q!
 subst j;refine⟨λp=>m (EZ p),λf a c=>n f ?_⟩;rwa [CT o!]at c
def uH{n p i j:Int}{L:List EN}(F:LI n L)(G:L.Pairwise λx y=>x.1<y.1)(H:0≤i): ∀m:Nat,m≤L.length→
  Xg i ((L.take m).filter (K6 p i j))/\((∀f∈L.take m,f.1<=j)->((L.take m).filter (K6 p i j)=[]->Bj (L.take m) p<=i)/\ ∀f,((L.take m).filter (K6 p i j))[((L.take m).filter (K6 p i j)).length-1]? =some f->Bj (L.take m) p=f.1)
 |0,_=>by rw[List.take_zero];exact⟨λk e E=>by simp at E,λ_=>⟨λ_=>H,λf a=>by simp at a⟩⟩
 |m+1,hm=>by
  obtain⟨C,D⟩:=uH (j:=j) F G H m o!;have d:m<L.length:=o!
  have B:L.take (m+1)=L.take m++[L[m]]:=by rw[C3,Av d];rfl
  have l: ∀f∈L.take m,f.1<L[m].1:=λf a=>by obtain⟨k,w⟩:=Dn a;have z:=Cv w;rw[BQ]at z;rw[JW o!,Av o!]at w;rw[<-Bf w];exact Hl.1 G k m o! d o!
  have A:=F m _ (Av d);rw[B,Ix];generalize I:L.take m=M at*;generalize L[m]=e at*;by_cases t:K6 p i j e=true;have g:=t;rw[vM]at g;simp only[BY,decide_eq_true_eq]at g;obtain⟨s,K,N⟩:=g;have q:e.2.2.2.2.2.2.1.1=p/\(e.2.1=1\/e.2.1=2):=by unfold cE at s;simp only[BY,XV,beq_iff_eq]at s;exact⟨s.2,s.1⟩
  obtain⟨q1,q2⟩:=D λf a=>by have:=l f a;omega
  have b:=A.1 q.2;rw[q.1]at b;rw[uD t,jm];refine⟨C.snoc (λh=>by rw[b.1];exact q1 h) (λf a=>by rw[b.1];exact q2 f a),λ_=>⟨λh=>by simp at h,λf a=>?_⟩⟩;rw[O8,if_pos s];have:e=f:=by simpa using a
  rw[this];rw[uC t,jm,C5];refine⟨C,λc=>?_⟩;have E:=c e k!;obtain⟨q1,q2⟩:=D λf a=>c f (GI _ a);rw[O8];by_cases u:cE p e=true;have v:e.1<=i:=by refine Qs λJ=>t ?_;rw[vM,u];simp;omega
  have o:M.filter (K6 p i j)=[]:=List.filter_eq_nil_iff.2 λf a r=>by rw[vM]at r;simp only[BY,decide_eq_true_eq]at r;have:=l f a;omega
  rw[if_pos u,o];exact⟨λ_=>v,λf a=>by simp at a⟩;rw[if_neg u];exact⟨q1,q2⟩
def AA8{n p i j:Int}{L:List EN}(a:LI n L)(b:L.Pairwise λx y=>x.1<y.1)(c:0<=i):Xg i (L.filter (K6 p i j)):=by have:=(uH (p:=p) (j:=j) a b c L.length (Ap _)).1;grind
def AB8{B:Nat}{n:Int}{L:List EN}{a:AK}{l:Ad}{p i j:Int}(e:CP B)(s:B≤16777216)(u:LI n L)(f:j-i≤B)(c:0≤i)(v:i≤j)(t:j≤1099511627776)(h:AR L a)(g:Wk L l)(w:0≤p∧p<a.2.1):
  ∃d c b,WI a p d c/\wV (tU a l d) j b/\Pw (a,(l,(p,(i,j))))=some (decide (b<=i))/\((b>i/\Hs (a,(l,(p,(i,j))))=some ([],42))\/(b<=i/\Hs (a,(l,(p,(i,j))))=some (L.filter (K6 p i j),0))):=by
 obtain⟨d,q,b,x,m,o,r,k,y⟩:=AGG e s f c v t h g w;refine⟨d,q,b,x,m,o,?_⟩;rcases y with⟨q1,q2⟩|⟨q1,⟨q2,q3⟩|⟨q2,q3⟩⟩;exact .inl ⟨q1,by rw[k,q2]⟩;exact .inr ⟨q1,by rw[k,q3]⟩;exact absurd (AA8 u g.sorted c) q2
def ABd{x:AU×Ds}(a:OV x.2)(c:x.2.1=x.1.1)(b:Gj x.1.2.2 x.2.2.1=some x.2.2.2.1):UQ x=some ((x.1.1,(x.1.2.1,WK x.1.2.2 x.2.2.1 x.2.2.2.2)),0):=by grind[Aq,UQ,WK,AA,cO,AO,AJ,BC,AB]
def AFI{x:AU}{e:AE}(h:F9 x)(d:Ln e)(j:e.2.1=1\/e.2.1=2)(b:e.2.2.2.2.2.2.1.1=x.1)(f:e.2.2.2.2.1=x.2.1)(c:Gj x.2.2 e.2.2.2.2.2.2.1.2.1=some e.2.2.2.2.2.2.1.2.2.1):Uh (x,e)=some (upd x e,0):=by
 suffices g:Aq (Uh (x,e)) λr=>r=(upd x e,0) by obtain⟨r,hr,rfl⟩:=g;exact hr
 have a:OV e.2.2.2.2.2.2.1:=by grind[Ln,Uy]
 unfold Uh;refine AA Jw λv i=>AO (λa=>absurd (i d) (by simp[a])) (λ_=>?_);rw[lZ,(by grind[gr]:gr e=true),dL h,AD,Cw,cond_false];refine BC (AJ (λa=>absurd rfl a) (λ_=>AJ (λa=>absurd b a) (λ_=>AJ (λa=>absurd f a) (λ_=>?_))));rw[ABd a b c];exact BC (AJ (λa=>absurd rfl a) (λ_=>AB rfl))
def AFK{x:AU}{a:List AE}(q:OKs x a)(d:a.length<=4096):Uj (x,a)=some (a.foldl upd x,0):=by
 suffices t:Aq (Uj (x,a)) λr=>r=(a.foldl upd x,0) by obtain⟨r,hr,rfl⟩:=t;exact hr
 generalize v:a.foldl upd x=y;refine AA (P:=λr=> ∃z,r= .inr (y,z)) ?_ λr hr=>?_
 ·refine Cn (λ(s:Int×AU×AU)=> ∃A B,a=A++B/\s.1=A.length/\OKs s.2.1 B/\B.foldl upd s.2.1=y) (λ(s:Int×AU×AU)=>((a.length:Int)-s.1).toNat) ⟨[],a,rfl,rfl,q,v⟩ ?_;rintro⟨i,x,z⟩ ⟨A,B,rfl,g,h,c⟩;dsimp only at g h c;subst g;unfold ZQ;dsimp[len];rw[Ac]at d;refine AC (λb=>?_) (λb=>Aq.done ?_)
  ·obtain _|⟨e,B⟩:=B;simp at b;have u:ix (A++e::B) (A.length:Int)=some e:=by unfold ix;rw[if_pos o!,DG,Cj (Ap _),Gl];rfl
   have⟨⟨j,f,k,l,m,n⟩,o⟩:=h;have p:e.2.2.2.2.1<e.1:=f.2.2.2.2.2.1;rw[u,AD,decide_eq_false o!,cond_false,AFI j f k l m n,AD,AY (x:=(A.length:Int)+1)];refine AJ (λb=>absurd rfl b) (λ_=>Aq.next ⟨A++[e],B,k!,k!,o,c⟩ d!)
  obtain _|⟨e,B⟩:=B;exact⟨z,by rw[<-c];rfl⟩;simp at b;omega
 grind[BA,AB]
def AAq{L:List AE}(h:HF L){p:Int}{a b:Nat}(g:a<=b):L.filter (K6 p a b)=((L.take b).drop a).filter (cE p):=by
 have j: ∀(i:Nat) (e:AE),L[i]? =some e->K6 p a b e=(cE p e&&(decide (a<=i)&&decide (i<b))):=λi e d=>by have:=(h i e d).1;rw[vM,show decide (e.1>(a:Int))=decide (a<=i)from decide_eq_decide.2 o!,show decide (e.1<=(b:Int))=decide (i<b)from decide_eq_decide.2 o!]
 conv=>lhs;rw[<-DN b L,tK L g]
 rw[Ix,Ix];rw[(List.filter_eq_nil_iff (l:=L.take a)).2 λe d=>by obtain⟨i,c⟩:=Dn d;have f:=Cv c;rw[BQ]at f;rw[JW o!]at c;rw[j i e c,decide_eq_false (show¬a<=i by omega)];simp];rw[(List.filter_eq_nil_iff (l:=L.drop b)).2 λe d=>by obtain⟨i,c⟩:=Dn d;rw[KX]at c;rw[j _ e c,decide_eq_false (show¬b+i<b by omega)];simp];rw[Bw,C5];refine List.filter_congr λe d=>?_;obtain⟨i,c⟩:=Dn d;rw[KX]at c;have f:=Cv c;rw[BQ]at f;rw[JW o!]at c;rw[j _ e c,decide_eq_true (show a<=a+i by omega),decide_eq_true (show a+i<b by omega)];simp
def Cov(a:AK)(l:Ad)(k:Nat):Prop:= ∀m:Int,1<=m->m<=k-> ∀p lo hi,WI a p lo hi->tU a l lo m
def ADY{a:AK}{l:Ad}(h:VB a)(b:Do l):P5 (a,l)=some 0:=by obtain⟨v,c,rfl⟩:=Iz h;obtain⟨w,d,rfl⟩:=ML b;grind[P5,Bool.not_true]
def WH(x:AU):Cb:=(x.1,(x.2.1,cF x))
def HZ(L:List EN)(n:Nat):List Cb:=(List.range n).map λ(i:Nat)=>WH (st L i)
theorem H9(L:List EN)(n:Nat):(HZ L n).length=n:=by grind[HZ,List.length_map,List.length_range]
theorem ov{L:List EN}{n i:Nat}(h:i<n):(HZ L n)[i]? =some (WH (st L i)):=by grind[HZ,List.getElem?_range]
theorem ah{L:List EN}{n:Nat}{i:Int}(a:0<=i)(h:i<n):ix (HZ L n) i=some (WH (st L i)):=by have⟨v,c,b,_⟩:=AI (l:=HZ L n) a (by rw[H9];exact h);grind[ov,Int.toNat_of_nonneg,Option.some.inj]
def xM(L:List EN)(n:Nat):HZ L (n+1)=HZ L n++[WH (st L n)]:=by grind[HZ,List.range_succ]
theorem AAm{L:List EN}(h:HF L){p:Int}{k:Nat}(a:(st (L.take k) p).2.1=0):st (L.take k) p=(p,(0,HA.all (false,[]))):=by rw[K5]at a;exact(kH h (j:=k) (k:=0) (by rw[a];rfl)).trans rfl
def sG{L:List EN}(h:HF L)(a:L.length<=1099511627776){p:Int}(b:0<=p/\p<64){k:Nat}:Ea (cF (st (L.take k) p),p)=some (st (L.take k) p,0):=by grind[ADQ,Wt,AAm,Sc]
theorem na{L:List EN}(h:HF L)(l:L.length<=1099511627776){s:Int}{n k:Nat}(d:1<=s/\s<=1073741824)(hn:1<=n/\n<=64):Hh (s,((n:Int),HZ (L.take k) n))=some true:=by
 suffices d:Aq (Hh (s,((n:Int),HZ (L.take k) n))) λr=>r=true by obtain⟨r,hr,rfl⟩:=d;exact hr
 unfold Hh;dsimp only;have c:len (HZ (L.take k) n)=n:=by grind[H9]
 rw[decide_eq_false o!,cond_false,decide_eq_false o!,cond_false,decide_eq_false o!,cond_false,decide_eq_false o!,cond_false,c,decide_eq_false o!,cond_false];refine AA (P:=λr=>r= .inr ()) ?_ λr hr=>by rw[hr];exact BA (AB rfl)
 refine Cn (λ(s:Int)=>0<=s/\s<=n) (λs=>((n:Int)-s).toNat) ⟨Ae _,o!⟩ (λi j=>?_);have⟨e,o⟩:=j;unfold Vf;dsimp only;rw[c];refine AC (λa=>?_) (λ_=>Aq.done rfl);have f:Aq (some (Step.next (wi (i+1))):Option (Step Int (Bool ⊕ Unit))) (Li (λ(s:Int)=>0<=s/\s<=n) (λs=>((n:Int)-s).toNat) ((n:Int)-i).toNat λr=>r= .inr ()):=by grind[AY,Aq.next]
 have g:(WH (st (L.take k) i)).1=i:=Sc _ _;rw[ah e a,AD,g,decide_eq_false o!,cond_false];have b:Ea ((WH (st (L.take k) i)).2.2,i)=some (st (L.take k) i,0):=sG h l ⟨e,o!⟩;refine AC (λm=>?_) (λ_=>?_);rw[AY,ah o! o!,AD,show(WH (st (L.take k) (i-1))).1=i-1 from Sc _ _,decide_eq_false o!,cond_false,b,AD];exact AJ (λa=>absurd rfl a) (λ_=>AJ (λa=>absurd rfl a) (λ_=>f));rw[b,AD];exact AJ (λa=>absurd rfl a) (λ_=>AJ (λa=>absurd rfl a) (λ_=>f))
def AFi{L:List EN}(h:HF L)(a:L.length<=1099511627776){s:Int}{n k:Nat}(b:1<=s/\s<=1073741824)(hn:1<=n/\n<=64):Vr (s,((n:Int),HZ (L.take k) n))=some true:=by unfold Vr;rw[na h a b hn,AD,cond_true];dsimp only;rw[(by grind[H9]:len (HZ (L.take k) n)=n),beq_self_eq_true]
def ADF{m:Nat}(h:m<=64):JN (1,(m:Int))=some (1,((m:Int),HZ [] m)):=by
 suffices d:Aq (JN (1,(m:Int))) λr=>r=(1,((m:Int),HZ [] m)) by obtain⟨r,hr,rfl⟩:=d;exact hr
 unfold JN;refine AA (P:=λr=>r=(HZ [] m,(1,(m:Int)))) ?_ λr hr=>AB (by rw[hr]);refine Cn (λ(t:Int×List Cb×Int×Int)=>0<=t.1/\t.1<=m/\t.2=(HZ [] t.1.toNat,(1,(m:Int)))) (λt=>((m:Int)-t.1).toNat) ⟨Ae _,d!,rfl⟩ ?_;rintro⟨i,t⟩ ⟨b,f,c⟩;dsimp only at b f c;subst c;unfold TZ;dsimp only;refine AC (λa=>?_) (λa=>Aq.done ?_)
 ·rw[qV,AD];refine AA (AZ (by rw[H9];simp;omega)) λv e=>?_;rw[AY];refine Aq.next ⟨d!,d!,?_⟩ d!
  dsimp only;rw[e.1,show(i+1).toNat=i.toNat+1 by omega,xM,IC b];rfl
 rw[show i.toNat=m by omega]
def HF.nil:HF []:=λi e h=>by simp at h
def ACj{L:List EN}{a:AK}{l:Ad}{k:Nat}(b:l.1=1)(d:k<=l.2.1.length):Cov a l k:=λm f g p e c _=>.inl o!
def ACc{l:List Int}(h: ∀c∈l,0≤c∧c<256):Aq (bif (decide ((len l)>500))then
    Option.bind (YV l 0 500) λd=>
    some d
   else
   some l) λr=>CX (r,0):=by
 refine AC (λa=>?_) (λa=>AB ⟨Ae _,by simp only[len]at a;dsimp only;omega,h⟩);simp only[len]at a;refine AA (Bb) λd e=>AB ⟨Ae _,d!,λc b=>?_⟩;dsimp only at b;rw[e.1]at b;exact h c (Mm (Fa b))
def ABe(x:AU):AG9 x x=true:=by
 unfold AG9;simp only[beq_self_eq_true,Bool.true_and];generalize List.finRange 16=l;induction l with
 |nil=>rfl
 |cons i l a=>rw[List.foldr_cons];exact a
theorem mJ{a:Type}{l r:List a}(h:r.Perm l):Nat.beq r.length l.length=true:=by rw[h.length_eq];exact Hn _
def yx{g v:Type}{c:g×g->Option v}{n:v->Bool}(y: ∀p,Aq (c p) λ_=>True){l:List g}{b:Nat}(w:b<=l.length)(K:l.length<=16777000):Aq (AC1 c n l (0,(b:Int))) λr=>r.Perm l:=by
 unfold AC1;refine AA (P:=λr=>r.Perm l) ?_ λr hr=>AB hr;refine Cn (λ(s:Int×List g)=>1<=s.1/\s.1<=b+1/\s.2.Perm l) (λs=>((b:Int)+1-s.1).toNat) ⟨by show 1<=wi (0+1);rw[AY];decide,by show wi (0+1)<=_;rw[AY];omega,oA _⟩ ?_;rintro⟨M,N⟩ ⟨B,C,h⟩;dsimp only at B C h;refine AC (λw=>?_) (λ_=>Aq.done h);have q:=h.length_eq;refine AA (P:=λr=>r.Perm l) ?_ λr hr=>?_
 ·refine Cn (λ(t:Int×List g)=>0<=t.1/\t.1<l.length/\t.2.Perm l) (λt=>t.1.toNat) ⟨d!,d!,h⟩ ?_;rintro⟨e,j⟩ ⟨d,D,i⟩;dsimp only at d D i;have O:=i.length_eq;unfold AFt;dsimp only;refine AA (P:=λr:Unit ⊕ Unit=>r= .inr ()->e>0) ?_ λr hr=>?_;refine AC (λa=>?_) (λ_=>AB λA=>by cases A);rw[AY (x:=e-1)];refine AA (AI d) λQ _=>AA (AI d) λR _=>AA (AI) λS _=>AA (AI) λT _=>AA (y _) λU _=>AL (λ_=>AB λ_=>a) (λ_=>AB λ_=>a)
  ·refine A9 (λu _=>Aq.done i) (λu z=>?_);have a:=hr (by cases u;exact z);rw[AY (x:=e-1)];refine AA (AI) λE _=>AA (AI) λf k=>AA (AI d) λF _=>AA (AI d) λo m=>AA (AI d) λG _=>AA (AI d) λH _=>?_;have L:(FT j e f).length=j.length:=sV;refine AA (AI) λI _=>AA (AI) λJ _=>Aq.next ⟨d!,d!,?_⟩ d!
   dsimp only;unfold FT;rw[(by have:=k.1;rw[Av o!]at this;exact(Bf this).symm:f=j[(e-1).toNat]),(by have:=m.1;rw[Av o!]at this;exact(Bf this).symm:o=j[e.toNat])];exact(List.set_set_perm o! o!).trans i
 ·grind[AY,Aq.next]
def AF1{a:Type}{f:List a->Int×Int->Option (List a)}{l:List a}(d:Aq (f l (0,(l.length:Int))) λr=>r.Perm l)(h:l.length<=12)(n:Int):Aq (rj (λ(_:(List a)×(Int×(Int×Int))->Option (List a)) p=>pdG f p.1 p.2) (l,(0,(len l,n)))) λr=>r.Perm l:=by
 have step:Aq (pdG f l (0,(len l,n))) λr=>r.Perm l:=by unfold pdG;refine AA (P:=λr=>r.Perm l) ?_ λr hr=>AB hr;rw[IB];unfold AH7;dsimp[len];rw[AY,decide_eq_true o!,cond_true];have⟨r,hr,e⟩:=d;grind[mJ]
 have⟨r,hr,e⟩:=step;have⟨s,c⟩:=lq (f:=λ(_:(List a)×(Int×(Int×Int))->Option (List a)) p=>pdG f p.1 p.2) (x:=(l,(0,(len l,n)))) (n:=1) hr;have⟨N,b⟩:=j9 c;refine⟨s,c,?_⟩;cases N with
 |zero=>cases b
 |succ N=>exact step.get b
def AF5{a:Type}{f:List a->Int×(Int×Int)->Option (List a)}{l:List a}(b: ∀n,Aq (f l (0,(len l,n))) λr=>r.Perm l)(h:l.length<=12):Aq (soG f l) λr=>r.Perm l:=by unfold soG WV;obtain⟨n,g,-,-⟩:=AEG (x:=l.length) o!;grind[Wu,AA,mJ,AB]
def AFb{l:List Int}(h:l.length<=12):Aq (Pl l ()) λr=>r.Perm l:=AF5 (λn=>AF1 (yx (λp=>cP.mono λ_ _=>trivial) (Ap _) o!) h n) h
def AIZ(p:Ak×Ak):Aq (Pv p) λ_=>True:=by grind[Pv,AA,Rm,AB]
def AIa(p:BX×BX):Aq (Pu p) λ_=>True:=by grind[Pu,AA,Rm,AB]
def AFc{l:List Ak}(h:l.length<=12):Aq (Ge l ()) λr=>r.Perm l:=AF5 (λn=>AF1 (yx AIZ (Ap _) o!) h n) h
def AFe{l:List BX}(h:l.length<=12):Aq (ET l ()) λr=>r.Perm l:=by
 unfold ET;refine AA (P:=λr=>r.Perm l) ?_ λr hr=>by rw[mJ hr,cond_true];exact AB hr
 unfold I2;rw[IB];unfold Ll;dsimp[len];rw[decide_eq_false o!,cond_false];dsimp[Option.bind];have⟨r,hr,b⟩:=yx (n:=λa=>decide (a<0)) AIa (Ap l.length) o!;grind[Et,mJ,IB,Lm,AB]
def wB{a:AK}{r:AQ}(h:BD a.2.1 a.1):Aq (FX (a,r)) λk=>0<=k->a.1[k.toNat]? =some r.2.2.1:=by
 have b:=h.2.2.2.1;refine AA (P:=λq=> ∀k:Int,q= .inl k->a.1[k.toNat]? =some r.2.2.1) ?_ λq f=>?_
 ·refine Cn (λ(s:Int)=>0<=s/\s<=a.1.length) (λs=>((a.1.length:Int)-s).toNat) ⟨Ae _,o!⟩ (λs c=>?_);have⟨g,i⟩:=c;unfold HD;dsimp[len];refine AC (λe=>?_) (λ_=>Aq.done λk d=>by cases d);have hr:=mR h (Av o!:a.1[s.toNat]? =some (a.1[s.toNat]' o!));grind[Int.toNat_of_nonneg,AY,AP,Aq.done,Aq.next]
 grind[A9,AB]
def Good.refE{a:AK}{f:Au}{r:AQ}(h:Good a f r)(c:BD a.2.1 a.1): ∃k:Nat,DD (a,f)=some (r,(k:Int))/\a.1[k]? =some r.2.2.1:=by have⟨e,g,i,b⟩:=h;have⟨k,k1,d,j⟩:=(qE (r:=r) c).and (wB (r:=r) c);refine⟨k.toNat,?_,j (d.2 b)⟩;unfold DD;rw[e,g,bne_self_eq_false,cond_false,wH i,AD,show(((r,(0:Int)):AQ×Int).2 !=0)=false from rfl,cond_false,k1,AD,IC (d.2 b)]
def Beh(a b:NE):Prop:=a.1.2.1<b.1.1
def Lt(a b:NE):Prop:=a.1.2.2.1<b.1.2.2.1\/(a.1.2.2.1=b.1.2.2.1/\Beh a b)
def AAj{L:List EN}{x:AK}(h:AR L x)(e:NE):e∈D4 x↔ ∃f∈x.2.2.1,Good x f e.1/\e.2=f.2.1:=⟨λd=>by have⟨f,a,b,c,_⟩:=h.mem d;exact⟨f,a,b,c⟩,λ⟨f,a,b,c⟩=>by have:=Pb h.vb.1 a b;rw[<-c]at this;exact this⟩
def pI{L:List EN}{x:AK}(h:AR L x){e:NE}(a:e∈D4 x):1<=e.1.1/\e.1.1<=e.1.2.1:=by have⟨f,_,g,_⟩:=h.mem a;have:=g.2.2.1.1;exact⟨this.1,this.2.1⟩
def AA0{s2:List AQ×List Int×Int}{v4:AQ×Int}(h:s2.1.length<=16777215):Aq (Ah (G7 s2 v4) (len s2.1)) λr=>0<=r/\r<=s2.1.length/\(∀e∈s2.1.drop r.toNat,v4.1.1<=e.1)/\(0<r-> ∀e,s2.1[r.toNat-1]? =some e->e.1<=v4.1.1):=by refine Cn (λ(s:Int)=>0<=s/\s<=s2.1.length/\ ∀e∈s2.1.drop s.toNat,v4.1.1<=e.1) (λ(s:Int)=>s.toNat) ⟨by unfold len;omega,by unfold len;omega,λe a=>by simp[len]at a⟩ (λs i=>?_);have⟨f,g,b⟩:=i;unfold G7;refine AC (λj=>?_) (λj=>Aq.done ⟨f,g,b,λl=>absurd l o!⟩);rw[AY];refine AA (AI) λm c=>AC (λk=>Aq.next ⟨o!,o!,λe a=>?_⟩ o!) (λk=>Aq.done ⟨f,g,b,λ_ e a=>?_⟩);rw[show s.toNat=(s-1).toNat+1 by omega]at b;have d:=Cv c.1;rw[PX d]at a;rcases Aw.1 a with q|q;have:=c.1;rw[Av d]at this;grind[Option.some.inj];exact b e q;have:=c.1;rw[show(s-1).toNat=s.toNat-1 by omega,a]at this;rw[Bf this];omega
def W2(x:AK)(k:Nat)(s:List AQ×List Int×Int):Prop:=0<=s.2.2/\s.2.2<=x.2.2.1.length/\ ∃M:List NE,s.1=M.map (·.1)/\s.2.1=M.map (·.2)/\M.length<=s.2.2/\M.Pairwise Beh/\ ∀e,e∈M↔(∃f∈x.2.2.1.take s.2.2.toNat,Good x f e.1/\e.2=f.2.1)/\x.1[k]? =some e.1.2.2.1
def AAz{x:AK}{L:List EN}{s1:Int×List AQ×List Int×List Bool}(h:AR L x){k:Nat}(hp:s1.1=k):Aq (Ah (Er x s1) ([],([],0))) λr=> ∃M:List NE,r=(M.map (·.1),M.map (·.2))/\M.length<=256/\M.Pairwise Beh/\ ∀e,e∈M↔e∈D4 x/\x.1[k]? =some e.1.2.2.1:=by
 obtain⟨⟨b1,b2,b3,b4,b5,b6,b7⟩,a1,a2,a3,a4,a5,a6⟩:=h.vb;refine Cn (W2 x k) (λs=>((x.2.2.1.length:Int)-s.2.2).toNat) ⟨Ae _,d!,[],rfl,rfl,k!,List.Pairwise.nil,λe=>k!⟩ ?_;rintro⟨A,B,i⟩ ⟨i1,i2,M,eA,eB,i4,W,X⟩;dsimp only at i1 i2 eA eB i4 X;subst eA eB;unfold Er;dsimp only[len];rw[AY (x:=i+1)];refine AC (λhc=>?_) (λhc=>Aq.done ⟨M,rfl,o!,W,λe=>by rw[X e,AAj h,BO o!]⟩);refine AA (AI i1 hc) λZ P=>?_;have et:x.2.2.1.take (i+1).toNat=x.2.2.1.take i.toNat++[Z]:=by rw[show(i+1).toNat=i.toNat+1 by omega,C3,P.1];rfl
 have C:(∀e:NE,Good x Z e.1->x.1[k]? ≠some e.1.2.2.1)->Aq (some (Step.next (M.map (·.1),(M.map (·.2),i+1))):Option (Step (List AQ×List Int×Int) (List AQ×List Int))) (Li (W2 x k) (λs=>((x.2.2.1.length:Int)-s.2.2).toNat) ((x.2.2.1.length:Int)-i).toNat λr=> ∃M:List NE,r=(M.map (·.1),M.map (·.2))/\M.length<=256/\M.Pairwise Beh/\ ∀e,e∈M↔e∈D4 x/\x.1[k]? =some e.1.2.2.1):=λhn=>by
  refine Aq.next ⟨d!,d!,M,rfl,rfl,d!,W,λe=>?_⟩ d!
  dsimp only;rw[X e,et];constructor;rintro⟨⟨f,o,l⟩,m⟩;exact⟨⟨f,An.2 (.inl o),l⟩,m⟩;rintro⟨⟨f,o,l⟩,m⟩;rcases An.1 o with q|q;exact⟨⟨f,q,l⟩,m⟩;rw[A6.1 q]at l;exact absurd m (hn e l.1)
 rcases h.files Z P.2 with u|⟨r,D,_⟩;obtain⟨r,hr⟩:=u.ref (a:=x);rw[hr,AD];dsimp only;rw[show((-1:Int) !=s1.1)=true by rw[hp];exact bne_iff_ne.2 o!,cond_true];exact C λe v=>absurd v.2.1 (u.2 _ v.2.2.1.wr);obtain⟨kk,hr,F⟩:=D.refE h.vb.1;rw[hr,AD];dsimp only;rw[hp];refine AJ (λa9=>C λe v hk=>a9 ?_) (λT=>?_);have e1:=rU v.2.2.1 D.2.2.1 (v.2.1.symm.trans D.2.1);rw[e1]at hk;rw[h.vb.1.inj F hk];have T:kk=k:=o!
 subst T;refine AA (AA0 (s2:=(M.map (·.1),(M.map (·.2),i))) (v4:=(r,(kk:Int))) (by dsimp only;rw[CA];omega)) λc h7=>?_;obtain⟨Y,g2,g3,g4⟩:=h7;dsimp only at g2 g3 g4;rw[CA]at g2;have m1:(M.map (·.1)).length=M.length:=CA _;have m2:(M.map (·.2)).length=M.length:=CA _;refine AA (Bb (Ae _) Y) λv8 h8=>AA (Bb Y) λv9 h9=>?_;have l8:=h8.2;have l9:=h9.2;refine AA (AZ w!) λca H=>?_;have bb:=H.2.1;simp only[BV]at bb;refine AA (AZ w!) λcb I=>?_;have bl:=I.2.1;simp only[BV,Bn]at bl;refine AA (AZ o!) λbz ax=>AA (Bb (Ae _) Y) λbG J=>?_;have b9:=J.2;refine AA (AI i1 hc) λd a0=>?_;have ao:d=Z:=by have:=a0.1;rw[P.1]at this;exact(Bf this).symm
 subst ao;refine AA (Bb Y) λbN K=>?_;have b':=K.2;refine AA (AZ w!) λcc N=>?_;have bm:=N.2.1;simp only[BV]at bm;refine AA (AZ w!) λcd O=>?_;have bt:=O.2.1;simp only[BV,Bn]at bt;refine AA (AZ o!) λb0 a7=>?_;have z: ∀{β:Type} (g:NE->β) (a b:List β),a=List.take (c.toNat-Int.toNat 0) (List.drop (Int.toNat 0) (M.map g))->b=List.take (((M.map g).length:Int).toNat-c.toNat) (List.drop c.toNat (M.map g))->a=(M.take c.toNat).map g/\b=(M.drop c.toNat).map g:=λg a b t u=>by refine⟨?_,?_⟩;rw[t,List.map_take];rfl;rw[u,lI];exact BO (by rw[EH];omega)
 obtain⟨e8,e9⟩:=z (·.1) v8 v9 h8.1 h9.1;obtain⟨al,ap⟩:=z (·.2) bG bN J.1 K.1;have ad:bz=(M.take c.toNat++(r,d.2.1)::M.drop c.toNat).map (·.1):=by rw[ax.1,I.1,H.1,e8,e9];simp
 have ar:b0=(M.take c.toNat++(r,d.2.1)::M.drop c.toNat).map (·.2):=by rw[a7.1,O.1,N.1,al,ap];simp
 have y:=Pb h.vb.1 P.2 D;have U: ∀a∈M,a∈D4 x/\a.1.2.2.1=r.2.2.1/\a≠(r,d.2.1):=λa t=>by
  obtain⟨⟨f,o,l,m⟩,G⟩:=(X a).1 t;refine⟨(AAj h a).2 ⟨f,Fa o,l,m⟩,?_,λv=>?_⟩;rw[F]at G;exact(Bf G).symm;obtain⟨j,p⟩:=Dn o;have E:=Cv p;rw[BQ]at E;rw[JW o!,Av o!]at p;have Q:=P.1;rw[Av o!]at Q;have:=Hl.1 (uQ h.vb) j i.toNat o! o! o!
  rw[Bf p,Bf Q]at this;rw[v]at m;dsimp only at m;omega
 have S: ∀a∈M.take c.toNat,Beh a (r,d.2.1):=λa t=>by
  have a8:=Fa t;obtain⟨q1,q2,q3⟩:=U a a8;have ra:=pI h q1;have rr:=pI h y;obtain⟨j,p⟩:=Dn t;have E:=Cv p;rw[BQ]at E;rw[JW o!]at p;have n:M[c.toNat-1]? =some (M[c.toNat-1]' o!):=Av o!;have V:(M[c.toNat-1]' o!).1.1<=r.1:=g4 o! _ (by rw[CN,n];rfl);have b8:a.1.1<=r.1:=by by_cases v:j=c.toNat-1;rw[v,n]at p;rw[<-Bf p];exact V;have:=Hl.1 W j (c.toNat-1) o! o! o!;rw[Av o!]at p;rw[Bf p]at this;unfold Beh at this;omega
  rcases h.dis a q1 _ y q3 q2 with w|w;exact w;dsimp only at w rr;omega
 have R: ∀b∈M.drop c.toNat,Beh (r,d.2.1) b:=λb u=>by obtain⟨q1,q2,q3⟩:=U b (Mm u);have rb:=pI h q1;have rr:=pI h y;have V:=g3 b.1 (by rw[<-lI];exact Sp u);rcases h.dis _ y b q1 (Oa q3) q2.symm with w|w;exact w;dsimp only at w rr;omega
 rw[ad,ar];refine Aq.next ⟨d!,d!,_,rfl,rfl,by simp[Ac,Bn,BQ,EH];omega,?_,λe=>?_⟩ d!
 rw[<-DN c.toNat M]at W;obtain⟨p1,p2,p3⟩:=List.pairwise_append.1 W;refine List.pairwise_append.2 ⟨p1,List.pairwise_cons.2 ⟨R,p2⟩,λa t b u=>?_⟩;rcases Aw.1 u with q|q;rw[q];exact S a t;exact p3 a t b q;dsimp only;rw[et];have a':e∈M.take c.toNat++(r,d.2.1)::M.drop c.toNat↔e∈M\/e=(r,d.2.1):=by
  conv=>rhs;rw[<-DN c.toNat M]
  simp only[An,Aw];constructor;rintro(q|q|q);exact .inl (.inl q);exact .inr q;exact .inl (.inr q);rintro((q|q)|q);exact .inl q;exact .inr (.inr q);exact .inr (.inl q)
 rw[a',X e];constructor;rintro(⟨⟨f,o,l⟩,m⟩|q);exact⟨⟨f,An.2 (.inl o),l⟩,m⟩;rw[q];exact⟨⟨d,An.2 (.inr (A6.2 rfl)),D,rfl⟩,F⟩;rintro⟨⟨f,o,l,G⟩,m⟩;rcases An.1 o with q|q;exact .inl ⟨⟨f,q,l,G⟩,m⟩;rw[A6.1 q]at l G;have e1:=rU l.2.2.1 D.2.2.1 (l.2.1.symm.trans D.2.1);exact .inr (DR e1 G)
def AA1{M:List NE}{t:List AQ×List Int×List Bool}(v:M.Pairwise Beh)(m: ∀e∈M,1<=e.1.1/\e.1.1<=e.1.2.1)(w:M.length<=256)(z:t.1.length<=100000)(A:t.2.1.length<=100000)(B:t.2.2.length<=100000):Aq (Ah (Es (M.map (·.1),M.map (·.2))) (0,(0,t))) λr=>r=(t.1++M.map (·.1),(t.2.1++M.map (·.2),t.2.2++M.map λ_=>true)):=by
 have y:(M.map (·.1)).length=M.length:=CA _;refine Cn (λ(s:Int×Int×List AQ×List Int×List Bool)=> ∃k:Nat,s.2.1=k/\k<=M.length/\s.2.2=(t.1++(M.take k).map (·.1),(t.2.1++(M.take k).map (·.2),t.2.2++(M.take k).map λ_=>true))/\((k=0/\s.1=0)\/ ∃e,0<k/\M[k-1]? =some e/\s.1=e.1.2.1)) (λs=>((M.length:Int)-s.2.1).toNat) ⟨0,rfl,Be _,k!,.inl ⟨rfl,rfl⟩⟩ ?_;rintro⟨j,_,T⟩ ⟨k,rfl,k1,rfl,o⟩;dsimp only at o;unfold Es;dsimp[len];rw[AY (x:=(k:Int)+1)];refine AC (λl=>?_) (λl=>Aq.done (by rw[BO o!]));have a:k<M.length:=o!
 have h:ix (M.map (·.1)) (k:Int)=some M[k].1:=by unfold ix;rw[if_pos o!,Int.toNat_natCast,List.getElem?_map,List.getElem?_eq_getElem a];rfl
 have i:ix (M.map (·.2)) (k:Int)=some M[k].2:=by unfold ix;rw[if_pos o!,Int.toNat_natCast,List.getElem?_map,List.getElem?_eq_getElem a];rfl
 have n:=m _ (Ng a);have b:j<M[k].1.1:=by grind[List.pairwise_iff_getElem,List.getElem?_eq_getElem,Option.some.inj,Beh]
 have g:M.take (k+1)=M.take k++[M[k]]:=by grind[List.take_add_one,List.getElem?_eq_getElem]
 have l1:=dW k M;rw[h,AD,decide_eq_false o!,cond_false,AD,i,AD,AD];rw[show FN (M[k].1,j)=some M[k].1 by unfold FN;rw[decide_eq_true (by exact b)];rfl,Option.bind_some];refine AA (AZ w!) λp c=>AA (AZ w!) λq d=>AA (AZ w!) λu f=>?_;rw[AD];refine Aq.next ⟨k+1,rfl,a,?_,.inr ⟨M[k],o!,Av a,rfl⟩⟩ d!
 dsimp only;rw[c.1,d.1,f.1,g,decide_eq_true (by exact b)];simp only[Ki,Bl,HH,A0]
def AEQ{x:AK}{L:List EN}(h:AR L x):Aq (F5 x) λr=> ∃W:List NE,r=(W.map (·.1),(W.map (·.2),W.map λ_=>true))/\W.Pairwise Lt/\ ∀e,e∈W↔e∈D4 x:=by
 obtain⟨⟨E,F,G,H,I,J,K⟩,a1,a2,a3,a4,a5,a6⟩:=h.vb;unfold F5;refine AA TG λQ A=>AO (λt=>absurd (A.2 h.vb) (by simp[t])) (λ_=>AA (P:=λr=> ∃W:List NE,r=(W.map (·.1),(W.map (·.2),W.map λ_=>true))/\W.Pairwise Lt/\ ∀e,e∈W↔e∈D4 x) ?_ λr hr=>AB hr);refine Cn (λ(s:Int×List AQ×List Int×List Bool)=> ∃(i:Nat) (W:List NE),s.1=i/\i<=x.1.length/\s.2=(W.map (·.1),(W.map (·.2),W.map λ_=>true))/\W.length<=256*i/\W.Pairwise Lt/\ ∀e,e∈W↔e∈D4 x/\ ∃k:Nat,k<i/\x.1[k]? =some e.1.2.2.1) (λs=>((x.1.length:Int)-s.1).toNat) ⟨0,[],rfl,Be _,rfl,k!,List.Pairwise.nil,λe=>k!⟩ ?_;rintro⟨_,_⟩ ⟨i,W,rfl,N,rfl,O,y,v⟩;unfold NH;dsimp only[len];rw[AY (x:=(i:Int)+1)];refine AC (λt=>?_) (λt=>Aq.done ⟨W,rfl,y,λe=>?_⟩)
 ·refine AA (AAz h rfl) λC l=>?_;obtain⟨M,rfl,B,z,j⟩:=l;refine AA (AA1 z (λe u=>pI h ((j e).1 u).1) B (by rw[CA];omega) (by rw[CA];omega) (by rw[CA];omega)) λD m=>Aq.next ⟨i+1,W++M,rfl,o!,by rw[m];simp,by rw[Ac];omega,List.pairwise_append.2 ⟨y,?_,λa n b p=>?_⟩,λe=>?_⟩ d!
  refine nz ?_ z;intro a b n p o;have w:=((j a).1 n).2;rw[((j b).1 p).2]at w;exact .inr ⟨(Bf w).symm,o⟩;obtain⟨_,k,k1,c⟩:=(v a).1 n;obtain⟨d,rfl⟩: ∃d,i=k+1+d:=⟨i-(k+1),o!⟩
  exact .inl (h.vb.1.lt d k _ _ c ((j b).1 p).2);rw[An,v e,j e];constructor;rintro(⟨q,k,k1,c⟩|⟨q1,q2⟩);exact⟨q,k,o!,c⟩;exact⟨q1,i,o!,q2⟩;rintro⟨q,k,k1,c⟩;by_cases u:k=i;rw[u]at c;exact .inr ⟨q,c⟩;exact .inl ⟨q,k,o!,c⟩
 rw[v e];refine⟨λq=>q.1,λq=>⟨q,?_⟩⟩;obtain⟨f,_,g,_⟩:=h.mem q;obtain⟨k,k1,_⟩:=g.2.2.2;have:=Cv k1;exact⟨k,o!,k1⟩
def AGQ{x:AK}{L:List EN}(h:AR L x):Aq (Qi x) λr=> ∃W:List NE,r=(W.map (·.1),W.map (·.2))/\W.Pairwise Lt/\W.length<=256/\ ∀e,e∈W↔e∈D4 x:=by refine AA (AEQ h) λr hr=>?_;obtain⟨W,rfl,i,g⟩:=hr;refine AB ⟨W,rfl,i,?_,g⟩;have f:W.Nodup:=Kk.2 (i.imp_of_mem λ{a b} j k c d=>by subst d;have:=pI h ((g a).1 j);rcases c with q|⟨_,q⟩;omega;unfold Beh at q;omega);have q1:=gK W (D4 x) f λe d=>(g e).1 d;have q2:(D4 x).length<=x.2.2.1.length:=List.length_filterMap_le _ _;have:=h.vb.2.2.2.2.2.1;omega
def Src(L:List EN)(p:Int)(rs:List AQ):Prop:=rs.length<=256/\ ∀r∈rs,VR r/\av L r/\r.2.2.1<=p/\p<=r.2.2.2.1
def AFQ{a:AK}{l:Ad}{p i j:Int}:Aq (G2 (a,(l,(p,(i,j))))) λr=>r=0->0<=p/\p<a.2.1/\0<=i/\i<=j:=by refine AA Jo λk g=>AO (λ_=>AB n!) (λ_=>AA Bc λm h=>AO (λ_=>AB n!) (λ_=>AC (λ_=>AB n!) (λc=>AC (λ_=>AB n!) (λd=>AC (λ_=>AB n!) (λe=>AC (λ_=>AB n!) (λf=>AB λ_=>?_))))));dsimp only at c d e f;omega
def AGM{a:AK}{p:Int}(h:VB a)(o:0<=p/\p<a.2.1):Aq (Qh (a,p)) λr=> ∃k:Nat,a.1[k]? =some r.1/\r.1<=p/\p<=ot a k:=by
 have i:=h.1.2.2.2.1;have w:=h.1.2.2.1;refine AA TG λB g=>AO (λc=>absurd (g.2 h) (by simp[c])) (λ_=>?_);dsimp only;rw[decide_eq_false o!,cond_false,decide_eq_false o!,cond_false];refine AA (P:=λk:Int=> ∃m:Nat,k=m/\ ∃b,a.1[m]? =some b/\b<=p/\p<=ot a m) ?_ λk n=>?_
 ·refine Cn (λ(s:Int)=>0<=s/\s<a.1.length/\ ∃b,a.1[s.toNat]? =some b/\b<=p) (λs=>((a.1.length:Int)-s).toNat) ⟨Ae _,o!,0,h.1.2.2.2.2.1,o.1⟩ (λs j=>?_);have⟨x,y,b,e,f⟩:=j;unfold Tm;dsimp[len];rw[AY];refine AC (λc=>AA (AI o! c) λv q=>?_) (λc=>Aq.done ⟨s.toNat,o!,b,e,f,?_⟩)
  ·have u:(s+1).toNat=s.toNat+1:=o!
   refine AC (λd=>Aq.next ⟨o!,o!,v,q.1,d⟩ o!) (λl=>Aq.done ⟨s.toNat,o!,b,e,f,?_⟩);grind[ot]
  grind[ot,List.getElem?_eq_none]
 obtain⟨m,rfl,b,t,z,A⟩:=n;rw[mR h.1 t,AD];grind[AB]
def AFP{a:AK}{l:Ad}{p i j:Int}(c:VB a)(e:Do l)(f:0<=p/\p<a.2.1)(d:0<=i)(b:i<=j):G2 (a,(l,(p,(i,j))))=some 0:=by grind[Aq,G2,AA,TG,AO,Bc,AB]
def yD{L:List EN}{a:AK}{l:Ad}{p:Int}(h:AR L a)(F:0<=p/\p<a.2.1):Aq (JG (a,(l,p))) λr=> ∃(M:List NE) (v D:Int),WI a p v D/\r=(M.map (·.1),(M.map (·.2),l))/\M.Pairwise Beh/\(∀e,e∈M↔e∈D4 a/\e.1.2.2.1=v)/\Src L p (M.map (·.1)):=by
 refine AA (AGM h.vb F) λc A=>AA (AGQ h) λY B=>?_;have⟨k,k1,t,u⟩:=A;dsimp only at k1 t u;obtain⟨W,rfl,K,N,w⟩:=B;have U:(W.map (·.1)).length=W.length:=CA _;refine AA (P:=λr=>r=((W.filter λe=>e.1.2.2.1==c.1).map (·.1),((W.filter λe=>e.1.2.2.1==c.1).map (·.2),l))) ?_ λr hr=>AB ⟨W.filter λe=>e.1.2.2.1==c.1,c.1,ot a k,⟨k,k1,rfl,t,u⟩,hr,?_,?_,?_⟩
 ·refine Cn (λ(s:Int×List AQ×List Int×Ad)=> ∃k:Nat,s.1=k/\k<=W.length/\s.2=(((W.take k).filter λe=>e.1.2.2.1==c.1).map (·.1),(((W.take k).filter λe=>e.1.2.2.1==c.1).map (·.2),l))) (λs=>((W.length:Int)-s.1).toNat) ⟨0,rfl,Be _,rfl⟩ ?_;rintro⟨_,_⟩ ⟨k,rfl,T,rfl⟩;unfold P3;dsimp[len];rw[AY (x:=(k:Int)+1)];refine AC (λC=>?_) (λC=>Aq.done (by rw[BO o!]));have d:k<W.length:=o!
  have j:ix (W.map (·.1)) (k:Int)=some W[k].1:=by unfold ix;rw[if_pos o!,Int.toNat_natCast,List.getElem?_map,List.getElem?_eq_getElem d];rfl
  have m:ix (W.map (·.2)) (k:Int)=some W[k].2:=by unfold ix;rw[if_pos o!,Int.toNat_natCast,List.getElem?_map,List.getElem?_eq_getElem d];rfl
  have H:W.take (k+1)=W.take k++[W[k]]:=by grind[List.take_add_one,List.getElem?_eq_getElem]
  have V:=Fy (λe:NE=>e.1.2.2.1==c.1) (W.take k);have X:=dW k W;rw[j,AD];refine AA (P:=λr=>r=(((W.take (k+1)).filter λe=>e.1.2.2.1==c.1).map (·.1),(((W.take (k+1)).filter λe=>e.1.2.2.1==c.1).map (·.2),l))) (AP (λo=>?_) (λE=>AB ?_)) λr hr=>Aq.next ⟨k+1,rfl,d,hr⟩ d!
  rw[AD,m,AD];refine AA (AZ w!) λZ R=>AA (AZ w!) λv7 S=>AB ?_;grind;grind
 apply (K.filter _).imp_of_mem;intro x y I J n;have O:=eq_of_beq (BW.1 I).2;have Q:=eq_of_beq (BW.1 J).2;rcases n with q|⟨_,q⟩;omega;exact q;intro e;rw[BW,w e,beq_iff_eq];refine⟨by rw[CA];exact Dh (Fy _ _) N,λq G=>?_⟩;obtain⟨e,o,rfl⟩:=Br.1 G;have⟨q1,q2⟩:=BW.1 o;have⟨f,_,g,_,z,_⟩:=h.mem ((w e).1 q1);have i:=eq_of_beq q2;have b:=g.2.2.2;rw[i]at b;have:=b.uniq h.vb.1 ⟨k,k1,rfl⟩;exact⟨g.2.2.1,z,o!⟩
def gQ(rs:List AQ)(l:Ad)(m:Int):Prop:=(∃r∈rs,r.1<=m/\m<=r.2.1)\/(l.1<=m/\m<=l.1+l.2.1.length-1)
def AAU{l:Ad}{m:Int}(h:Do l):Ik (l,m)=some (decide (l.1<=m/\m<=l.1+l.2.1.length-1)):=by have a:=h.1;have b:=h.2.1;have d:=h.2.2.1;unfold Ik;dsimp[len];rw[AY];by_cases c:l.1<=m<;>grind
theorem AGt{L:List EN}{p m:Int}{a:List AQ}{E:List Int}{l:Ad}(h:Src L p a)(w:Do l)(hm:0<=m/\m<=2199023255552):Aq (Ql ((a,(E,l)),m)) λv=>m-1<=v/\v<=2199023255552/\(∀q,m<=q->q<=v->gQ a l q)/\(v=m-1-> ¬gQ a l m):=by
 have X:=w.1;have Y:=w.2.1;have Z:=w.2.2.1;refine AA (P:=λv=>m-1<=v/\v<=2199023255552/\(∀q,m<=q->q<=v->gQ a l q)/\ ∀r∈a,r.1<=m->m<=r.2.1->m<=v) ?_ λv5 K=>?_
 ·refine Cn (λ(s:Int×Int)=>0<=s.2/\s.2<=a.length/\m-1<=s.1/\s.1<=2199023255552/\(∀q,m<=q->q<=s.1->gQ a l q)/\ ∀r∈a.take s.2.toNat,r.1<=m->m<=r.2.1->m<=s.1) (λs=>((a.length:Int)-s.2).toNat) ⟨Ae _,d!,by dsimp only;rw[AY];omega,by dsimp only;rw[AY];omega,λq q1 q2=>by dsimp only at q2;rw[AY]at q2;omega,λr hr=>by simp at hr⟩ ?_;rintro⟨b,k⟩ ⟨y,R,i,j,n,D⟩;dsimp only at y R i j n D;have Q:=h.1;unfold Tq;dsimp[len];refine AC (λu=>?_) (λu=>Aq.done ⟨i,j,n,by rw[BO o!]at D;exact D⟩);rw[AY (x:=k+1)];refine AA (AI y u) λo e=>?_;have W:a.take (k+1).toNat=a.take k.toNat++[o]:=by rw[show(k+1).toNat=k.toNat+1 by omega,C3,e.1];rfl
  have hr:=(h.2 o e.2).1.1;have keep: ∀t,b<=t->(o.1<=m->m<=o.2.1->m<=t)-> ∀r∈a.take (k+1).toNat,r.1<=m->m<=r.2.1->m<=t:=λt hb C r O q1 q2=>by grind[List.mem_singleton]
  refine AC (λN=>?_) (λB=>Aq.next ⟨d!,d!,i,j,n,keep b (Ae _) λq=>absurd q B⟩ d!);refine AA (AI y u) λF z=>?_;have I:F=o:=by grind[Option.some.inj]
  subst I;refine AA (P:=λv=>m-1<=v/\v<=2199023255552/\(∀q,m<=q->q<=v->gQ a l q)/\b<=v/\(m<=F.2.1->m<=v)) ?_ λV c=>Aq.next ⟨d!,d!,c.1,c.2.1,c.2.2.1,keep V c.2.2.2.1 λ_=>c.2.2.2.2⟩ d!
  refine AC (λg=>AA (AI y u) λH A=>AB ?_) (λg=>AB ⟨i,j,n,Ae _,λq=>absurd q g⟩);have J:H=F:=by grind[Option.some.inj]
  subst J;have G:=hr.2.2.1;split;exact⟨o!,o!,λq q1 q2=>.inl ⟨H,e.2,o!,q2⟩,o!,id⟩;exact⟨i,j,n,Ae _,λq=>o!⟩
 rw[AAU w,AD];dsimp[len];have⟨e,z,A,c⟩:=K;refine AA (P:=λv=>m-1<=v/\v<=2199023255552/\(∀q,m<=q->q<=v->gQ a l q)/\(v=m-1-> ¬gQ a l m)) ?_ λv7 M=>AB M;refine AC (λf=>AB ?_) (λf=>AB ⟨e,z,A,λC d=>?_⟩);rw[AY (x:=l.1+l.2.1.length),AY];split;exact⟨o!,o!,λq q1 q2=>.inr o!,λC=>o!⟩;exact⟨e,z,A,λC=>o!⟩;rcases d with⟨r,S,T,U⟩|d;have:=c r S T U;omega;exact f d
def uK{L:List EN}{p i j:Int}{a:List AQ}{c:List Int}{l:Ad}(h:Src L p a)(n:Do l)(k:0<=i)(m:j<=1099511627776)(f:i<=j):Aq (Jq ((a,(c,l)),(i,j))) λb=>b=true↔ ∀q,i<q->q<=j->gQ a l q:=by
 refine AA (P:=λr=>(r= .inl false/\ ∃q,i<q/\q<=j/\ ¬gQ a l q)\/(r= .inr ()/\ ∀q,i<q->q<=j->gQ a l q)) ?_ λr hr=>?_
 ·refine Cn (λ(s:Int)=>i<=s/\s<=2199023255552/\ ∀q,i<q->q<=s->gQ a l q) (λs=>(j-s).toNat) ⟨Ae _,d!,λq q1 q2=>by dsimp only at q2;omega⟩ (λs d=>?_);have⟨o,t,g⟩:=d;unfold Qk;dsimp only;refine AC (λe=>?_) (λe=>Aq.done (.inr ⟨rfl,λq q1 q2=>g q q1 o!⟩));grind[AY,AA,AGt,AP,Aq.done,Aq.next]
 grind[BL,AB,BA]
def AAI{a:AK}{l:Ad}{d:Int}{M:List NE}(h: ∀e,e∈M↔e∈D4 a/\e.1.2.2.1=d)(m:Int):gQ (M.map (·.1)) l m↔tU a l d m:=by constructor;rintro(⟨r,i,j⟩|q);obtain⟨e,g,rfl⟩:=Br.1 i;have⟨b,c⟩:=(h e).1 g;exact .inr ⟨e,b,c,j⟩;exact .inl q;rintro(q|⟨e,b,c,f⟩);exact .inr q;exact .inl ⟨e.1,Sp ((h e).2 ⟨b,c⟩),f⟩
def AGj{P:Int->Prop}{i j a:Int}(h:wV P j a)(k:0<=i):(∀q,i<q->q<=j->P q)↔a<=i:=by have⟨g,b,c,d⟩:=h;refine⟨λq=>Qs λe=>?_,λq n l f=>c n o! f⟩;rcases d with w|w;omega;exact w (q a o! b)
def ADr{r:AQ}{p:Int}(h:VR r):Aq (O4 (r,p)) λv=>v=r.2.2.2.2.2.filter λe=>e.2.2.2.2.2.2.1.1==p:=by have m:=h.1.2.2.2.2.2.2.2.2;refine AA XS λn f=>AO (λa=>absurd (f.2 h) (by simp[a])) (λ_=>AA (P:=λv=>v=r.2.2.2.2.2.filter λe=>e.2.2.2.2.2.2.1.1==p) ?_ λv j=>AB j);refine Cn (λ(s:Int×List EN)=>0<=s.1/\s.1<=r.2.2.2.2.2.length/\s.2=(r.2.2.2.2.2.take s.1.toNat).filter λe=>e.2.2.2.2.2.2.1.1==p) (λs=>((r.2.2.2.2.2.length:Int)-s.1).toNat) ⟨Ae _,d!,k!⟩ ?_;rintro⟨s,A⟩ ⟨b,k,d⟩;dsimp only at b k d;unfold RY;dsimp[len];refine AC (λa=>?_) (λa=>Aq.done (by rw[d,BO o!]));refine AA (AI b a) λo g=>?_;have i:=j8 (p:=λe:EN=>e.2.2.2.2.2.2.1.1==p) b g.1;have c:=mz (l:=r.2.2.2.2.2) (p:=λe:EN=>e.2.2.2.2.2.2.1.1==p) b;rw[<-d]at c;rw[AY];grind[AA,Aq.next,AP,AI,AZ,AB,Option.some.inj]
def yY{L:List EN}{p i j:Int}{c:List AQ}(V:Uq L)(h:Src L p c):Aq (NI (c,(p,(i,j)))) λr=>r.length<=1048576/\ ∀y,y∈r↔ ∃q∈c,y∈q.2.2.2.2.2/\y.2.2.2.2.2.2.1.1=p/\i<y.1/\y.1<=j:=by
 have W:=h.1;refine AA (P:=λr=>r.length<=1048576/\ ∀y,y∈r↔ ∃q∈c,y∈q.2.2.2.2.2/\y.2.2.2.2.2.2.1.1=p/\i<y.1/\y.1<=j) ?_ λr hr=>AB hr;refine Cn (λ(s:List EN×Int)=>0<=s.2/\s.2<=c.length/\s.1.length<=4096*s.2/\ ∀y,y∈s.1↔ ∃q∈c.take s.2.toNat,y∈q.2.2.2.2.2/\y.2.2.2.2.2.2.1.1=p/\i<y.1/\y.1<=j) (λs=>((c.length:Int)-s.2).toNat) ⟨Ae _,d!,k!,λy=>k!⟩ ?_;rintro⟨A,k⟩ ⟨M,X,Y,n⟩;dsimp only at M X Y n;unfold P1;dsimp[len];refine AC (λK=>?_) (λK=>Aq.done ⟨o!,λy=>by rw[n y,BO o!]⟩);refine AA (AI M K) λu I=>?_;have⟨H,S,g3,g4⟩:=h.2 u I.2;have hl:=H.1.2.2.2.2.2.2.2.2;refine AA (ADr H) λa C=>?_;have G:=Fy (λe:EN=>e.2.2.2.2.2.2.1.1==p) u.2.2.2.2.2;rw[<-C]at G;have D: ∀y∈A,y∈L:=λy f=>by have⟨q,q1,q2,_⟩:=(n y).1 f;exact(((h.2 q (Fa q1)).2.1.mem y).1 q2).1
 have g: ∀y∈a,y∈L:=λy f=>by rw[C]at f;exact((S.mem y).1 (BW.1 f).1).1
 refine AA (P:=λr=>r.length<=A.length+a.length/\ ∀y,y∈r↔y∈A\/(y∈a/\i<y.1/\y.1<=j)) ?_ λr hr=>?_
 ·refine Cn (λ(s:List EN×Int)=>0<=s.2/\s.2<=a.length/\s.1.length<=A.length+s.2/\ ∀y,y∈s.1↔y∈A\/(y∈a.take s.2.toNat/\i<y.1/\y.1<=j)) (λs=>((a.length:Int)-s.2).toNat) ⟨Ae _,d!,d!,λy=>k!⟩ ?_;rintro⟨B,m⟩ ⟨o,Z,j2,t⟩;dsimp only at o Z j2 t;unfold P2;dsimp[len];refine AC (λb=>?_) (λb=>Aq.done ⟨o!,λy=>by rw[t y,BO o!]⟩);refine AA (AI o b) λv l=>?_;rw[AY (x:=m+1)];have z:a.take (m+1).toNat=a.take m.toNat++[v]:=by rw[show(m+1).toNat=m.toNat+1 by omega,C3,l.1];rfl
  have d: ¬(i<v.1/\v.1<=j)-> ∀y,y∈B↔y∈A\/(y∈a.take (m+1).toNat/\i<y.1/\y.1<=j):=λhn y=>by grind[List.mem_singleton]
  refine AC (λE=>?_) (λE=>Aq.next ⟨d!,d!,d!,d λq=>o!⟩ d!);refine AA (AI o b) λN T=>?_;have Q:N=v:=by have:=T.1;rw[l.1]at this;exact(Bf this).symm
  subst Q;refine AA (P:=λr=>r.length<=B.length+1/\ ∀y,y∈r↔y∈A\/(y∈a.take (m+1).toNat/\i<y.1/\y.1<=j)) ?_ λr hr=>Aq.next ⟨d!,d!,by have:=hr.1;dsimp only;omega,hr.2⟩ d!
  refine AC (λF=>?_) (λF=>AB ⟨o!,d λq=>o!⟩);refine AA (AI o b) λO U=>?_;have R:O=N:=by have:=U.1;rw[l.1]at this;exact(Bf this).symm
  subst R;refine AA (mP V (λy f=>?_) (g O l.2) o!) λv7 J=>AB ⟨J.1,λy=>?_⟩;rcases(t y).1 f with q|q;exact D y q;exact g y (Fa q.1);rw[J.2 y,t y,z,An,A6];constructor;rintro((q|⟨q1,q2⟩)|q);exact .inl q;exact .inr ⟨.inl q1,q2⟩;exact .inr ⟨.inr q,by rw[q];omega⟩;rintro(q|⟨q1|q1,q2⟩);exact .inl (.inl q);exact .inl (.inr ⟨q1,q2⟩);exact .inr q1
 ·rw[AY];refine Aq.next ⟨d!,d!,by have:=hr.1;dsimp only;omega,λy=>?_⟩ d!
  dsimp only;have z:c.take (k+1).toNat=c.take k.toNat++[u]:=by rw[show(k+1).toNat=k.toNat+1 by omega,C3,I.1];rfl
  rw[hr.2 y,n y,z,C,BW,beq_iff_eq];constructor;rintro(⟨q,q1,q2⟩|⟨⟨q1,q2⟩,q3⟩);exact⟨q,GI _ q1,q2⟩;exact⟨u,Kj _ (A6.2 rfl),q1,q2,q3⟩;rintro⟨q,q1,q2,q3,q4⟩;rcases An.1 q1 with w|w;exact .inl ⟨q,w,q2,q3,q4⟩;rw[A6.1 w]at q2;exact .inr ⟨⟨q2,q3⟩,q4⟩
def AC9{l:Ad}{p i j:Int}(h:Do l):Aq (O6 (l,(p,(i,j)))) λr=>r=l.2.1.filter (K6 p i j):=by
 have z:=h.2.2.1;refine AA (P:=λr=>r=l.2.1.filter (K6 p i j)) ?_ λr hr=>AB hr;refine Cn (λ(q:Int×List EN)=>0<=q.1/\q.1<=l.2.1.length/\q.2=(l.2.1.take q.1.toNat).filter (K6 p i j)) (λq=>((l.2.1.length:Int)-q.1).toNat) ⟨Ae _,d!,k!⟩ (λq v=>?_);have⟨q1,q2,q3⟩:=v;unfold Rc;dsimp[len];refine AC (λo=>?_) (λo=>Aq.done (by rw[q3,BO o!]));refine AA (AI q1 o) λs t=>?_;have k:=j8 (p:=K6 p i j) q1 t.1;have f:=mz (l:=l.2.1) (p:=K6 p i j) q1;rw[<-q3]at f;rw[AY (x:=q.1+1)];have m:K6 p i j s=false->Aq (some (Step.next (q.1+1,q.2)):Option (Step (Int×List EN) (List EN))) (Li (λ(q:Int×List EN)=>0<=q.1/\q.1<=l.2.1.length/\q.2=(l.2.1.take q.1.toNat).filter (K6 p i j)) (λq=>((l.2.1.length:Int)-q.1).toNat) ((l.2.1.length:Int)-q.1).toNat λr=>r=l.2.1.filter (K6 p i j)):=λw=>Aq.next ⟨d!,d!,by dsimp only;rw[k,w,q3];simp⟩ d!
 refine AA CM λn u=>?_;have e:gr s=n:=by grind[gr]
 refine AL (λa=>?_) (λa=>m (by unfold K6;rw[e,a];rfl));refine AP (λc=>?_) (λc=>m (by unfold K6;rw[beq_eq_false_iff_ne.2 c];simp));refine AC (λb=>?_) (λb=>m (by unfold K6;rw[decide_eq_false b];simp));refine AA (P:=λr=>r=(l.2.1.take (q.1+1).toNat).filter (K6 p i j)) ?_ λy d=>Aq.next ⟨d!,d!,d⟩ d!
 refine AC (λg=>?_) (λg=>AB ?_);grind[AA,AZ,AB,K6];grind[K6]
def AC0{a:List AQ}{m:Int}(h:a.length<=256):Aq (O5 (a,m)) λ_=>True:=by refine AA (P:=λ_=>True) ?_ λr _=>A9 (λu _=>AB trivial) (λu _=>AB trivial);refine Cn (λ(s:Int)=>0<=s/\s<=a.length) (λs=>((a.length:Int)-s).toNat) ⟨Ae _,o!⟩ (λs d=>?_);have⟨c,e⟩:=d;unfold Rb;dsimp[len];refine AC (λb=>?_) (λ_=>Aq.done trivial);rw[AY];refine AA (AI c b) λf _=>AC (λ_=>AA (AI c b) λg _=>AC (λ_=>Aq.done trivial) (λ_=>Aq.next o! o!)) (λ_=>Aq.next o! o!)
def AFs{l:List EN}{e:EN}(h:l.length<=16777216):Aq (Na (l,e)) λ_=>True:=by refine AA (P:=λ_=>True) ?_ λr _=>A9 (λu _=>AB trivial) (λu _=>AB trivial);refine Cn (λ(s:Int)=>0<=s/\s<=l.length) (λs=>((l.length:Int)-s).toNat) ⟨Ae _,o!⟩ (λs a=>?_);have⟨c,d⟩:=a;unfold Ug;dsimp[len];refine AC (λb=>?_) (λ_=>Aq.done trivial);rw[AY];exact AA (AI c b) λf _=>AL (λ_=>Aq.done trivial) (λ_=>Aq.next o! o!)
def AEO{L A B:List EN}{m:List AQ}{l:Ad}(Q:Uq L)(v:Do l)(N: ∀y∈A,y∈L)(O: ∀y∈B,y∈L)(q:m.length<=256)(K:A.length<=1048576)(M:B.length<=4096):Aq (Pk (m,(l,(A,B)))) λr=>r.2=true->r.1.length<=1052672/\ ∀y,y∈r.1↔y∈A\/y∈B:=by
 refine AA (AZ w!) λz p=>?_;have h:=p.1;rw[Bw]at h;dsimp only at h;subst z;refine AA (P:=λr=>(∃u,r= .inl u/\u.2=false)\/ ∃C,r= .inr C/\C.length<=A.length+B.length/\ ∀y,y∈C↔y∈A\/y∈B) ?_ λr hr=>?_
 ·refine Cn (λ(s:List EN×Int)=>0<=s.2/\s.2<=B.length/\s.1.length<=A.length+s.2/\ ∀y,y∈s.1↔y∈A\/y∈B.take s.2.toNat) (λs=>((B.length:Int)-s.2).toNat) ⟨Ae _,d!,d!,λy=>k!⟩ ?_;rintro⟨C,k⟩ ⟨c,i,w,j⟩;dsimp only at c i w j;unfold SY;dsimp[len];refine AC (λa=>?_) (λa=>Aq.done (.inr ⟨C,rfl,o!,λy=>by rw[j y,BO o!]⟩));refine AA (AI c a) λG o=>AA (AC0 q) λR _=>?_;rw[AY (x:=k+1)];have J:B.take (k+1).toNat=B.take k.toNat++[G]:=by rw[show(k+1).toNat=k.toNat+1 by omega,C3,o.1];rfl
  have f: ∀d,B[k.toNat]? =some d/\d∈B->Aq (Option.bind (DB (C,d)) λH=>some (Step.next (H.1,k+1)):Option (Step (List EN×Int) ((List EN×Bool)⊕ List EN))) (Li (λ(s:List EN×Int)=>0<=s.2/\s.2<=B.length/\s.1.length<=A.length+s.2/\ ∀y,y∈s.1↔y∈A\/y∈B.take s.2.toNat) (λs=>((B.length:Int)-s.2).toNat) ((B.length:Int)-k).toNat λr=>(∃u,r= .inl u/\u.2=false)\/ ∃C,r= .inr C/\C.length<=A.length+B.length/\ ∀y,y∈C↔y∈A\/y∈B):=λd g=>by grind[Option.some.inj,AA,mP,List.mem_of_mem_take,Aq.next,List.mem_singleton]
  refine AC (λ_=>AA (AI c a) λS _=>AA (AFs o!) λT _=>AO (λ_=>Aq.done (.inl ⟨_,rfl,rfl⟩)) (λ_=>AA (AI c a) λd g=>f d g)) (λ_=>AA (AI c a) λd g=>f d g)
 ·rcases hr with⟨u,rfl,b⟩|⟨C,rfl,I,n⟩;exact BL (AB λe=>by rw[b]at e;cases e)
  ·refine BA (AA (P:=λr=> ∀u,r= .inl u->u.2=false) ?_ λr hr=>A9 (λu b=>AB λe=>by rw[hr u b]at e;cases e) (λu b=>AB λ_=>⟨d!,n⟩));refine Cn (λ(s:Int)=>0<=s/\s<=A.length) (λs=>((A.length:Int)-s).toNat) ⟨Ae _,o!⟩ (λs t=>?_);have⟨c,i⟩:=t;unfold SZ;dsimp[len];refine AC (λa=>?_) (λ_=>Aq.done λu b=>by cases b);rw[AY];refine AA (AI c a) λD _=>?_;rw[AAU v,AD];exact AC (λ_=>AA (AI c a) λE _=>AA (AFs o!) λF _=>AO (λ_=>Aq.done λu b=>by cases b;rfl) (λ_=>Aq.next o! o!)) (λ_=>Aq.next o! o!)
def AGJ{L:List EN}{a:AK}{l:Ad}{p i j:Int}(hN:HF L)(hA:AR L a)(t:Wk L l)(hj:j<=1099511627776):Aq (S9 (a,(l,(p,(i,j))))) λr=>r.2=0->r.1=L.filter (K6 p i j):=by
 have G:=t.sorted;have hU:Uq L:=λx hx y E K=>XM (by refine Kk.2 ((Sq).2 (G.imp λh=>?_));omega) hx E K;refine AA AFQ λv0 h0=>AJ (λH=>AB λo=>absurd o H) (λo=>?_);have⟨p0,p1,i0,ij⟩:=h0 o;refine AA (yD hA ⟨p0,p1⟩) λv1 h1=>?_;obtain⟨M,lo,hh,a0,rfl,ap,hM,z⟩:=h1;dsimp only at z;refine AA (uK z t.vl i0 hj ij) λv2 h2=>AO (λ_=>AB n!) (λJ=>?_);have al:=h2.1 J;refine AA (yY hU z) λv3 X=>AA (AC9 t.vl) λv4 Y=>?_;have Z: ∀y∈v3,y∈L:=λy E=>by have⟨q,q1,q2,_⟩:=(X.2 y).1 E;exact(((z.2 q q1).2.1.mem y).1 q2).1
 have ad: ∀y∈v4,y∈L:=λy E=>by rw[Y]at E;exact((t.tail y).1 (BW.1 E).1).1
 have A:v4.length<=4096:=by rw[Y];exact Dh (Fy _ _) t.vl.2.2.1
 refine AA (AEO hU t.vl Z ad z.1 X.1 A) λc h5=>AO (λ_=>AB n!) (λht=>?_);have⟨u1,u2⟩:=h5 ht;have w: ∀y,y∈c.1↔y∈L.filter (K6 p i j):=λy=>by rw[u2 y,X.2 y,Y,BW,BW];constructor;rintro(⟨q,q1,q2,q3,q4,q5⟩|⟨q1,q2⟩);have:=((z.2 q q1).2.1.mem y).1 q2;refine⟨this.1,?_⟩;unfold K6;rw[this.2.1,beq_iff_eq.2 q3,decide_eq_true (show y.1>i from q4),decide_eq_true q5];rfl;exact⟨((t.tail y).1 q1).1,q2⟩;rintro⟨q1,q2⟩;have hw:=q2;unfold K6 at hw;simp[BY,decide_eq_true_eq,beq_iff_eq]at hw;have⟨w1,w2,w3,w4⟩:=hw;rcases al y.1 w3 w4 with⟨r,T,r2,r3⟩|⟨T,r2⟩;have⟨_,g2,g3,g4⟩:=z.2 r T;exact .inl ⟨r,T,(g2.mem y).2 ⟨q1,w1,o!,o!,r2,r3⟩,w2,w3,w4⟩;exact .inr ⟨(t.tail y).2 ⟨q1,T,r2⟩,q2⟩
 refine AA (P:=λr=>(∀u,r= .inl u->u.2=13)/\(r= .inr ()-> ∀(k:Nat) (e f:EN),c.1[k]? =some e->c.1[k+1]? =some f->f.2.2.2.2.1=e.1)) ?_ λr hr=>A9 (λu B=>AB λo=>by rw[hr.1 u B]at o;cases o) (λu B=>AB λ_=>?_)
 ·refine Cn (λ(s:Int)=>0<=s/\s<=c.1.length/\ ∀(k:Nat) (e f:EN),(k:Int)+1<s->c.1[k]? =some e->c.1[k+1]? =some f->f.2.2.2.2.1=e.1) (λs=>((c.1.length:Int)-s).toNat) ⟨Ae _,o!,λk e f n=>o!⟩ (λs hI=>?_);have⟨s0,s1,s2⟩:=hI;unfold VO;dsimp[len];have F: ∀u:List EN×Int,u=([],13)->(∀v,(Sum.inl u:(List EN×Int)⊕ Unit)= .inl v->v.2=13)/\((Sum.inl u:(List EN×Int)⊕ Unit)= .inr ()-> ∀(k:Nat) (e f:EN),c.1[k]? =some e->c.1[k+1]? =some f->f.2.2.2.2.1=e.1):=λu B=>⟨λv hv=>by cases hv;rw[B],λh=>by cases h⟩
  refine AC (λH=>?_) (λH=>Aq.done ⟨λu B=>(by cases B),λ_ k e f n g=>s2 k e f (by have:=Cv g;omega) n g⟩);rw[AY (x:=s+1)];have Q:0<s->Aq (Option.bind (ix c.1 s) λR=>Option.bind (ix c.1 (wi (s-1))) λS=>bif (R.2.2.2.2.1 !=S.1)then some (.done (.inl ([],13)))else some (.next (s+1)):Option (Step Int ((List EN×Int)⊕ Unit))) (Li (λ(s:Int)=>0<=s/\s<=c.1.length/\ ∀(k:Nat) (e f:EN),(k:Int)+1<s->c.1[k]? =some e->c.1[k+1]? =some f->f.2.2.2.2.1=e.1) (λs=>((c.1.length:Int)-s).toNat) ((c.1.length:Int)-s).toNat λr=>(∀u,r= .inl u->u.2=13)/\(r= .inr ()-> ∀(k:Nat) (e f:EN),c.1[k]? =some e->c.1[k+1]? =some f->f.2.2.2.2.1=e.1)):=λD=>by
   rw[AY];refine AA (AI s0 H) λR V=>AA (AI) λS W=>AJ (λ_=>Aq.done (F _ rfl)) (λK=>Aq.next ⟨o!,o!,λk e f n N g=>?_⟩ o!);by_cases ao:(k:Int)+1<s;exact s2 k e f ao N g;have ek:k+1=s.toNat:=o!
   have U:(s-1).toNat=k:=o!
   rw[ek,V.1]at g;have:=W.1;rw[U,N]at this;rw[<-Bf g,Bf this];exact K
  apply AP<;>intro hs
  ·refine AA (AI s0 H) λv7 g7=>AC (λ_=>Aq.done (F _ rfl)) (λ_=>AC (λD=>absurd D o!) (λ_=>Aq.next ⟨o!,o!,λk e f n=>o!⟩ o!))
  exact AC (λD=>Q D) (λD=>absurd D o!)
 subst B;dsimp only;have I:=hr.2 rfl;refine qI ?_ (G.filter _) w;have O: ∀e∈c.1,e.2.2.2.2.1<e.1:=λe K=>by have⟨k,n⟩:=FZ.1 (BW.1 ((w e).1 K)).1;exact(hN k e n).2.2.2.2.2.2.1
 have step: ∀(d k:Nat) (e f:EN),c.1[k]? =some e->c.1[k+1+d]? =some f->e.1<f.1:=by
  intro d;induction d with
  |zero=>intro k e f n C;have:=I k e f n C;have:=O f (BN C);omega
  |succ d ih=>intro k e f n C;have ax:=Cv C;have hg:c.1[k+1+d]? =some (c.1[k+1+d]' o!):=Av o!;have a:=ih k e _ n hg;have b:=I (k+1+d) _ f hg C;have:=O f (BN C);omega
 rw[Hl];intro k m n hm ar;obtain⟨d,rfl⟩: ∃d,m=k+1+d:=⟨m-(k+1),o!⟩
 exact step d k _ _ (Av n) (Av hm)
def ACH{x:AU}{a:List AE}(q:OKs x a)(d:a.length<=4096):Mg (x,a)=some (a.foldl upd x,0):=by
 suffices t:Aq (Mg (x,a)) λr=>r=(a.foldl upd x,0) by obtain⟨r,hr,rfl⟩:=t;exact hr
 generalize v:a.foldl upd x=y;refine AA (P:=λr=> ∃z,r= .inr (y,z)) ?_ λr hr=>?_
 ·refine Cn (λ(s:Int×AU×AU)=> ∃A B,a=A++B/\s.1=A.length/\OKs s.2.1 B/\B.foldl upd s.2.1=y) (λ(s:Int×AU×AU)=>((a.length:Int)-s.1).toNat) ⟨[],a,rfl,rfl,q,v⟩ ?_;rintro⟨i,x,z⟩ ⟨A,B,rfl,g,h,c⟩;dsimp only at g h c;subst g;unfold Tt;dsimp[len];rw[Ac]at d;refine AC (λb=>?_) (λb=>Aq.done ?_)
  ·obtain _|⟨e,B⟩:=B;simp at b;have u:ix (A++e::B) (A.length:Int)=some e:=by unfold ix;rw[if_pos o!,DG,Cj (Ap _),Gl];rfl
   have⟨⟨j,f,k,l,m,n⟩,o⟩:=h;have p:e.2.2.2.2.1<e.1:=f.2.2.2.2.2.1;rw[u,AD,decide_eq_false o!,cond_false,AD,zn j f k l m n,AD,AY (x:=(A.length:Int)+1)];refine AJ (λb=>absurd rfl b) (λ_=>Aq.next ⟨A++[e],B,k!,k!,o,c⟩ d!)
  obtain _|⟨e,B⟩:=B;exact⟨z,by rw[<-c];rfl⟩;simp at b;omega
 grind[BA,AB]
def ACF{n:Int}{L:List EN}{a:AK}{l:Ad}{p:Int}{j k:Nat}(t:LI n L)(b:HF L)(h:AR L a)(f:Wk L l)(e:j<=k)(v:k<=L.length)(m:0<=p/\p<a.2.1)(d:p<64):Aq (Qm (st (L.take j) p,(a,(l,(k:Int))))) λr=>r.2=0->r.1=st (L.take k) p:=by have i:=f.len;have w:=Vs b p j;have u:=fw (b.take j) p;rw[BQ]at u;refine AA TG λx o=>AO (λc=>absurd (o.2 h.vb) (by simp[c])) (λ_=>AA Bc λy q=>AO (λc=>absurd (q.2 f.vl) (by simp[c])) (λ_=>?_));rw[an ((Wt b ⟨m.1,d⟩ (by omega:L.length<=1099511627776)) j),AD];refine AJ (λc=>absurd rfl c) (λ_=>?_);dsimp only;rw[K5,Sc,decide_eq_false o!,cond_false];refine AA (AGJ b h f o!) λz s=>AJ (λc=>AB λg=>absurd g c) (λg=>?_);rw[s g,show Bj (L.take j) p=(((Bj (L.take j) p).toNat:Nat):Int) by omega,AAq b o!,mu b (j:=j) o! (Xb b),ACH (vp b t ⟨m.1,d⟩ o! j k e) (by have:=Fy (cE p) ((L.take k).drop j);rw[EH,BQ]at this;omega),<-kI e,AD];exact AB λ_=>rfl
def AFZ{A t:BT}{b:UInt8}:six (A++b::t) (A.length:Int)=some (b.toNat:Int):=by grind[six]
def AFN{x:AU}(h:F9 x):Aq (Ah (Gg (Hq x)) (0,((x.1,(x.2.1,(HA.all (false,[])))),(0,(0,(HA.all (false,[]))))))) λr=> ∃z,r= .inr (x,z):=by
 have y:=Xx h;refine Cn (λ(s:Int×AU×AU)=>0<=s.1/\s.1<=16/\s.2.1.1=x.1/\s.2.1.2.1=x.2.1/\ ∀j:Fin 16,s.2.1.2.2 j=if(j.val:Int)<s.1 then x.2.2 j else(false,[])) (λ(s:Int×AU×AU)=>(16-s.1).toNat) ⟨Ae _,u!,rfl,rfl,λj=>by rw[if_neg d!];rfl⟩ ?_;rintro⟨i,⟨p,n,a⟩,z⟩ ⟨l,J,C,hn,g⟩;dsimp only at l J C hn g;subst C hn;unfold Gg;dsimp only;refine AC (λk=>?_) (λk=>Aq.done ⟨z,?_⟩)
 ·rw[AY (x:=i*13),AY (x:=12+i*13),AY (x:=12+i*13+1),AY (x:=i+1)];have⟨N,D⟩:=kq (a:=x.2.2) (i:=i.toNat) o!;have⟨A,r,t,M⟩:=uO h (i:=i.toNat) o!;have b:=h.cl i.toNat
  generalize G:cl x.2.2 i.toNat=c at*;have B:A.length+(13+r.length)=256:=by have:=y;rw[t,Ac,Ac,cD b.1]at this;exact this
  have f:six (Hq x) (12+i*13)=some (if c.1=true then(c.2.length:Int)else 255):=by have q:=b.1;have e:V2 c=UInt8.ofNat ((if c.1=true then(c.2.length:Int)else 255)%256).toNat::(c.2++iI (12-c.2.length)):=rfl;rw[t,show(12+i*13:Int)=(A.length:Int) by omega,e,Di,AFZ,dh];apply congrArg some;split<;>omega
  rw[f,AD];have E: ∀m:HA 16 Ch,(∀j:Fin 16,m j=if(j.val:Int)<i+1 then x.2.2 j else(false,[]))->Aq (some (Step.next (i+1,((x.1,(x.2.1,m)),z))):Option (Step (Int×AU×AU) ((Int×AU)⊕ (AU×AU)))) (Li (λ(s:Int×AU×AU)=>0<=s.1/\s.1<=16/\s.2.1.1=x.1/\s.2.1.2.1=x.2.1/\ ∀j:Fin 16,s.2.1.2.2 j=if(j.val:Int)<s.1 then x.2.2 j else(false,[])) (λ(s:Int×AU×AU)=>(16-s.1).toNat) (16-i).toNat λr=> ∃z,r= .inr (x,z)):=λm o=>Aq.next ⟨d!,d!,rfl,rfl,o⟩ d!
  by_cases d:c.1=true;have q:=b.1;rw[if_pos d,AY (x:=(c.2.length:Int)),beq_eq_false_iff_ne.2 o!,cond_false,decide_eq_false o!,cond_false,AY];have⟨s,I,u⟩:=Bt (s:=Hq x) (lo:=12+i*13+1) (hi:=12+i*13+1+(c.2.length:Int)) o! o! (by rw[y];omega);have w:s=c.2:=by
   rw[u.1,t];have K:(12+i*13+1).toNat=A.length+1:=o!
   have L:(12+i*13+1+(c.2.length:Int)).toNat-(12+i*13+1).toNat=c.2.length:=o!
   grind[List.drop_drop,List.drop_left,V2,List.append_assoc,List.drop_left',Ax,List.take_left]
  rw[I,w,AD];have⟨v,F,_⟩:=Cs (a:=a) l k;rw[F,AD,AD];exact E _ (zw g ⟨l,k⟩ λH=>D.symm.trans (DR d rfl));rw[if_neg d,AY,beq_iff_eq.2 rfl,cond_true];exact E _ (wg g ⟨l,k⟩ λH=>D.symm.trans (DR (by simpa using d) (b.2.resolve_left d)))
 refine congrArg Sum.inr (DR (DR rfl (DR rfl (funext λj=>?_))) rfl);exact(g j).trans (if_pos o!)
def wI{a t:BT}{n k:Int}(h:(a.length:Int)+t.length<=2199023255552)(b:1<=k)(d:k<=8)(e:k<=t.length)(g:t.take k.toNat=Cy n k.toNat)(hn:0<=n)(f:n<256^k.toNat)(c:n<9223372036854775808):Az (a++t,((a.length:Int),k))=some (n,0):=by grind[iK,zU]
theorem ABi{x:AU}(h:F9 x)(hn:x.2.1≠0):Ec (Hq x)=some (x,0):=by
 have b:=Xx h;have p:=h.2.1;have q:=h.2.2.2.1;unfold Ec;have⟨o,q1,e⟩:=Bt (s:=Hq x) (lo:=0) (hi:=8) g! g! (by rw[b];decide);have⟨l,q2,f⟩:=Bt (s:=Hq x) (lo:=248) (hi:=256) g! g! (by rw[b];decide);have⟨m,q3,g⟩:=Bt (s:=Hq x) (lo:=0) (hi:=244) g! g! (by rw[b];decide);have i:l=Cy x.2.1 8:=by rw[f.1];show List.take 8 (List.drop 248 (Hq x))=_;rw[my h,BO (by rw[Ax];exact Ap _)]
 have j:m=Km x:=g.1.trans (by show List.take 244 (Hq x)=_;unfold Hq;exact Fb (Gu h));have c:=ZI (Km x);have q4:Az (Hq x,(244,4))=some (PK (Km x),0):=by have:=wI (a:=Km x) (t:=Cy (PK (Km x)) 4++Cy x.2.1 8) (n:=PK (Km x)) (k:=4) (by simp only[Ac,Ax,Gu h];decide) g! g! (by simp only[Ac,Ax];decide) (Fb (Ax _ _)) o! (by simp[Int.reduceToNat];omega) o!;rw[Gu h]at this;exact this
 have q5:Az (Hq x,(8,4))=some (x.1,0):=by have:=wI (a:=Cy x.2.1 8) (t:=Cy x.1 4++(Oh x.2.2 16++(iI 24++(Cy (PK (Km x)) 4++Cy x.2.1 8)))) (n:=x.1) (k:=4) (by simp only[Ac,Ax,Iy h,iI,HG];omega) g! g! (by simp[Ac,Ax];omega) (by exact Fb (Ax _ _)) h.1 (by simp[Int.reduceToNat];omega) o!;grind[Ax,Hq,Km,List.append_assoc]
 have q6:Az (Hq x,(0,8))=some (x.2.1,0):=wI (a:=[]) (t:=Hq x) (n:=x.2.1) (k:=8) (by rw[b];decide) g! g! (by rw[b];decide) UO h.2.2.1 (by simp[Int.reduceToNat];omega) o!;obtain⟨v,d,z,rfl⟩:=AFN h;rw[(by simp[len];omega:len (Hq x)=256),bne_self_eq_false,cond_false,qV,AD,beq_eq_false_iff_ne.2 (AAM h hn),cond_false,q1,AD,q2,AD,(e.1.trans UO),i,bne_self_eq_false,cond_false,q4,AD,q3,AD,j,vG (by rw[Gu h];decide),AD,show IntKind.wrap .u32 (PK (Km x))=PK (Km x) by rw[vB];omega,bne_self_eq_false,cond_false,q6,AD,q5,AD,d,AD,lS,an h,AD,bne_self_eq_false,bne_self_eq_false];rfl
theorem ADc{x:AU}(h:F9 x)(a:x.2.1=0->x=(x.1,(0,HA.all (false,[])))):CZ (cF x,x.1)=some (x,0):=by have b:=h.1;have c:=h.2.1;unfold CZ cF;dsimp only;rw[decide_eq_false o!,cond_false,decide_eq_false o!,cond_false];by_cases hn:x.2.1=0;rw[if_pos hn];rw[(by grind[Ec,iI,List.length_replicate,qV]:Ec (iI 256)=some ((0,(0,(HA.all (false,[])))),7)),AD];exact congrArg (λq=>some (q,(0:Int))) (a hn).symm;grind[ABi]
def pG{L:List EN}(h:HF L)(a:L.length<=1099511627776){p:Int}(b:0<=p/\p<64){k:Nat}:CZ (cF (st (L.take k) p),p)=some (st (L.take k) p,0):=by grind[ADc,Wt,AAm,Sc]
def AIJ{A p R:BT}(h:(A.length:Int)+p.length+R.length<=1099511627776)(a:p.length<=8392):BZ (A++(Gp p++R),(A.length:Int))=some (p,((A.length:Int)+8+p.length,0)):=by grind[OU,List.length_append,C8,iM]
theorem jP(L:List EN)(n:Nat):len (HZ L n)=n:=by grind[H9]
theorem nk{L:List EN}(h:HF L)(j:L.length<=1099511627776){s:Int}{n k:Nat}(c:1<=s/\s<=1073741824)(hn:1<=n/\n<=64):Dd (s,((n:Int),HZ (L.take k) n))=some true:=by
 suffices c:Aq (Dd (s,((n:Int),HZ (L.take k) n))) λr=>r=true by obtain⟨r,hr,rfl⟩:=c;exact hr
 unfold Dd;dsimp only;rw[decide_eq_false o!,cond_false,decide_eq_false o!,cond_false,decide_eq_false o!,cond_false,decide_eq_false o!,cond_false];refine AA (P:=λr=>r= .inr ()) ?_ λr hr=>by rw[hr];exact BA (AB rfl)
 refine Cn (λ(s:Int)=>0<=s/\s<=n) (λs=>((n:Int)-s).toNat) ⟨Ae _,o!⟩ (λi g=>?_);have⟨d,m⟩:=g;unfold NJ;dsimp only;rw[jP];refine AC (λa=>?_) (λ_=>Aq.done rfl);have e:Aq (some (Step.next (wi (i+1))):Option (Step Int (Bool ⊕ Unit))) (Li (λ(s:Int)=>0<=s/\s<=n) (λs=>((n:Int)-s).toNat) ((n:Int)-i).toNat λr=>r= .inr ()):=by grind[AY,Aq.next]
 have f:(WH (st (L.take k) i)).1=i:=Sc _ _;rw[ah d a,AD,f,decide_eq_false o!,cond_false,decide_eq_false o!,cond_false];have b:CZ ((WH (st (L.take k) i)).2.2,i)=some (st (L.take k) i,0):=pG h j ⟨d,o!⟩;refine AC (λl=>?_) (λ_=>?_);rw[AY,ah o! o!,AD,show(WH (st (L.take k) (i-1))).1=i-1 from Sc _ _,decide_eq_false o!,cond_false,b,AD];exact AJ (λa=>absurd rfl a) (λ_=>AJ (λa=>absurd rfl a) (λ_=>e));rw[b,AD];exact AJ (λa=>absurd rfl a) (λ_=>AJ (λa=>absurd rfl a) (λ_=>e))
def AAp{L:List EN}(h:HF L)(a:L.length<=1099511627776){s:Int}{n k:Nat}(b:1<=s/\s<=1073741824)(hn:1<=n/\n<=64):Il (s,((n:Int),HZ (L.take k) n))=some true:=by grind[Il,nk,jP]
def ACs{L:List EN}(h:HF L)(d:L.length<=1099511627776){s i:Int}{n k:Nat}(e:1<=s/\s<=1073741824)(hn:1<=n/\n<=64)(c:0<=i/\i<n):HY ((s,((n:Int),HZ (L.take k) n)),i)=some (WH (st (L.take k) i),true):=by
 suffices a:Aq (HY ((s,((n:Int),HZ (L.take k) n)),i)) λr=>r=(WH (st (L.take k) i),true) by obtain⟨r,hr,rfl⟩:=a;exact hr
 refine AA (P:=λr=>r= .inl (true,WH (st (L.take k) i))) ?_ λr hr=>by rw[hr];exact BL (AB rfl)
 refine Cn (λ(t:Int×Cb)=>0<=t.1/\t.1<=i) (λt=>(i-t.1).toNat) ⟨Ae _,c.1⟩ ?_;rintro⟨t,z⟩ ⟨b,f⟩;dsimp only at b f;unfold Tr;dsimp only;rw[jP,decide_eq_true o!,cond_true,nk h d e hn,AD,cond_true,ah b o!,AD,show(WH (st (L.take k) t)).1=t from Sc _ _];grind[AP,Aq.done,AY,Aq.next]
def AG7{L:List EN}(h:HF L)(a:L.length<=1099511627776){s i:Int}{n k:Nat}(c:1<=s/\s<=1073741824)(hn:1<=n/\n<=64)(b:0<=i/\i<n):Me ((s,((n:Int),HZ (L.take k) n)),i)=some (st (L.take k) i,0):=by unfold Me;dsimp only;rw[nk h a c hn,AD,Cw,cond_false,ACs h a c hn b,AD];dsimp only;rw[Cw,cond_false,show CZ ((WH (st (L.take k) i)).2.2,i)=some (st (L.take k) i,0)from pG h a ⟨b.1,o!⟩];rfl
def ACB{n:Int}{L:List EN}{a:AK}{l:Ad}{w s:Int}{m j k:Nat}(H:LI n L)(e:HF L)(y:AR L a)(q:Wk L l)(f:j<=k)(I:k<=L.length)(R:(m:Int)=a.2.1)(hn:1<=m/\m<=64)(x:1<=w/\w<=1073741824):Aq (Mf ((w,((m:Int),HZ (L.take j) m)),(a,(l,(s,(k:Int)))))) λr=>r.2=0->1<=s/\s<=1073741824/\r.1=(s,((m:Int),HZ (L.take k) m)):=by
 have A:=q.len;have J:=λp h=>Wt e (p:=p) h (by omega:L.length<=1099511627776);unfold Mf;rw[AAp e o! x hn,AD,Cw,cond_false];refine AA TG λS o=>AO (λd=>absurd (o.2 y.vb) (by simp[d])) (λ_=>AA Bc λT D=>AO (λd=>absurd (D.2 q.vl) (by simp[d])) (λ_=>?_));dsimp only;refine AC (λ_=>AB n!) (λM=>AC (λ_=>AB n!) (λN=>AC (λ_=>AB n!) (λO=>AC (λ_=>AB n!) (λQ=>AA (P:=λr=>(∀u,r= .inl u->u.1≠0)/\ ∀u,r= .inr u->(u.1,(u.2.1,u.2.2.1))=(HZ (L.take k) m,(s,(m:Int)))) ?_ λr hr=>A9 (λu b=>AB λc=>absurd c (hr.1 u b)) (λu b=>AB λ_=>⟨o!,o!,?_⟩)))))
 ·refine Cn (λ(t:Int×List Cb×Int×Int×Ak)=>0<=t.1/\t.1<=m/\ ∃z,t.2=(HZ (L.take k) t.1.toNat,(s,((m:Int),z)))) (λt=>((m:Int)-t.1).toNat) ⟨Ae _,d!,_,rfl⟩ ?_;rintro⟨i,t⟩ ⟨g,K,z,B⟩;dsimp only at g K B;subst B;unfold Ts;dsimp only;rw[jP];refine AC (λd=>?_) (λd=>Aq.done ⟨λu b=>(by cases b),λu b=>(by cases b;rw[show i.toNat=m by omega])⟩);have C:(WH (st (L.take j) i)).1=i:=Sc _ _;rw[ah g d,AD,C,AG7 e o! x hn ⟨g,d⟩,AD];refine AA (ACF H e y q f I ⟨g,o!⟩ o!) λU E=>AJ (λd=>Aq.done ⟨λu b=>(by cases b;exact d),λu b=>(by cases b)⟩) (λc=>?_);rw[E c];refine AA (P:=λv=>v=WH (st (L.take k) i)) ?_ λV F=>AA (AZ (by rw[H9];simp;omega)) λW G=>?_;refine AC (λh=>?_) (λh=>AB ?_);grind[an,AB,WH,cF];rw[K5]at h;have q1:=Q4 e i j k f;have q2:=Vs e i j;grind[kH]
  ·rw[AY];refine Aq.next ⟨d!,d!,z,?_⟩ d!
   dsimp only;rw[G.1,F,show(i+1).toNat=i.toNat+1 by omega,xM,IC g]
 have:=hr.2 u b;dsimp only;have q1:=congrArg (·.1) this;have q2:=congrArg (·.2.1) this;have q3:=congrArg (·.2.2) this;dsimp only at q1 q2 q3;rw[q1,q2,q3]
def ku(c:Cb):BT:=Cy c.1 2++c.2.2
def pk(cs:List Cb):BT:=cs.flatMap λc=>Gp (ku c)
def ke(x:Ak):BT:=[80,77,73,77]++(Cy x.1 4++(Cy x.2.1 2++Cy (x.2.2.length:Int) 2))
def encI(x:Ak):BT:=Gp (ke x)++pk x.2.2
def ft(x:Ak):(ke x).length=12:=by grind[ke,List.length_append,Ax,List.length_cons,List.length_nil]
theorem mr{x:AU}(h:F9 x):(cF x).length=256:=by grind[cF,iI,List.length_replicate,Xx]
def ms{L:List EN}(h:HF L)(b:L.length<=1099511627776){k n:Nat}(hn:n<=64){c:Cb}(a:c∈HZ (L.take k) n):(ku c).length=258:=by grind[List.mem_iff_getElem?,Cv,H9,ov,Option.some.inj,ku,WH,List.length_append,Ax,mr,Wt]
theorem ZL{a:List Cb}(h: ∀c∈a,(ku c).length=258):(pk a).length=266*a.length:=by induction a<;>grind[pk,Gp,ku,List.length_append,C8,List.length_cons]
def yO{L:List EN}(h:HF L)(m:L.length<=1099511627776){s:Int}{n k:Nat}(y:1<=s/\s<=1073741824)(hn:1<=n/\n<=64):H8 (s,((n:Int),HZ (L.take k) n))=some (encI (s,((n:Int),HZ (L.take k) n)),0):=by
 suffices o:Aq (H8 (s,((n:Int),HZ (L.take k) n))) λr=>r=(encI (s,((n:Int),HZ (L.take k) n)),0) by obtain⟨r,hr,rfl⟩:=o;exact hr
 have j: ∀c∈HZ (L.take k) n,(ku c).length=258:=λc d=>ms h m hn.2 d;unfold H8;rw[nk h m y hn,AD,Cw,cond_false];refine AA (mQ k! g!) λE q=>AA (mQ (by rw[q];simp[Ax]) g!) λF w=>AA (mQ (by rw[w,q];simp[Ax]) g!) λB D=>?_;rw[(by grind[ke,List.append_assoc,Int.reduceToNat]:B=ke (s,((n:Int),HZ (L.take k) n))),aq (by rw[ft];decide),AD];refine AA (P:=λr=>r=encI (s,((n:Int),HZ (L.take k) n))) ?_ λr hr=>AB (by rw[hr]);refine Cn (λ(t:BT×Int)=>0<=t.2/\t.2<=n/\t.1=Gp (ke (s,((n:Int),HZ (L.take k) n)))++pk ((HZ (L.take k) n).take t.2.toNat)) (λt=>((n:Int)-t.2).toNat) ⟨Ae _,d!,by simp[pk]⟩ ?_;rintro⟨t,i⟩ ⟨e,z,u⟩;dsimp only at e z u;subst u;unfold Re;dsimp only;rw[jP];refine AC (λd=>?_) (λd=>Aq.done (by rw[BO (l:=HZ (L.take k) n) (by rw[H9];omega)];rfl));have a:=ov (L:=L.take k) (n:=n) (i:=i.toNat) o!;rw[IC e]at a;rw[ah e d,AD,AD,AY];have x:(pk ((HZ (L.take k) n).take i.toNat)).length<=17024:=by grind[ZL,List.mem_of_mem_take,List.length_take,H9]
 have b:=j _ (BN a);have g:(WH (st (L.take k) i)).2.2.length=256:=mr (Wt h ⟨e,o!⟩ m k);refine AA (mQ k! g!) λG p=>AA (CE (by rw[p,Bw,Ax,g];decide)) λC v=>?_;rw[(by rw[v.1,p];rfl:C=ku (WH (st (L.take k) i))),aq (by rw[b];decide),AD];refine AA (CE (by rw[Ac,C8,C8,ft,b];omega)) λA f=>Aq.next ⟨d!,d!,?_⟩ d!
 dsimp only;rw[f.1,show(i+1).toNat=i.toNat+1 by omega,C3,a,A0];grind[pk,Option.toList_some]
def AAc{a t:BT}{n k:Int}(h:(a.length:Int)+t.length<=2199023255552)(b:1<=k)(d:k<=8)(e:k<=t.length)(g:t.take k.toNat=Cy n k.toNat)(hn:0<=n)(f:n<256^k.toNat)(c:n<9223372036854775808):BR (a++t,((a.length:Int),k))=some n:=by unfold BR;rw[wI h b d e g hn f c];rfl
theorem yN{L:List EN}(h:HF L)(B:L.length<=1099511627776){s:Int}{n k:Nat}(N:1<=s/\s<=1073741824)(hn:1<=n/\n<=64):DE (encI (s,((n:Int),HZ (L.take k) n)))=some ((s,((n:Int),HZ (L.take k) n)),0):=by
 suffices E:Aq (DE (encI (s,((n:Int),HZ (L.take k) n)))) λr=>r=((s,((n:Int),HZ (L.take k) n)),0) by obtain⟨r,hr,rfl⟩:=E;exact hr
 have f: ∀c∈HZ (L.take k) n,(ku c).length=258:=λc m=>ms h B hn.2 m;have u:(pk (HZ (L.take k) n)).length=266*n:=by rw[ZL f,H9]
 have b:=ft (s,((n:Int),HZ (L.take k) n));have D:(encI (s,((n:Int),HZ (L.take k) n))).length=20+266*n:=by unfold encI;rw[Ac,C8,b,u]
 have Y:BZ (encI (s,((n:Int),HZ (L.take k) n)),0)=some (ke (s,((n:Int),HZ (L.take k) n)),(20,0)):=by have:=AIJ (A:=[]) (p:=ke (s,((n:Int),HZ (L.take k) n))) (R:=pk (HZ (L.take k) n)) (by rw[b,u,BV];omega) (by rw[b];decide);rw[b]at this;exact this
 unfold DE;rw[Y,AD];dsimp only;have y:ke (s,((n:Int),HZ (L.take k) n))=[80,77,73,77]++(Cy s 4++(Cy (n:Int) 2++Cy (n:Int) 2)):=by unfold ke;dsimp only;rw[H9]
 have S:BR (ke (s,((n:Int),HZ (L.take k) n)),(4,4))=some s:=by rw[y];exact AAc (a:=[80,77,73,77]) (t:=Cy s 4++(Cy (n:Int) 2++Cy (n:Int) 2)) (n:=s) (k:=4) (by simp only[Ac,Ax];decide) g! g! (by simp only[Ac,Ax];decide) (Fb (Ax _ _)) o! (by simp[Int.reduceToNat];omega) o!
 have T:BR (ke (s,((n:Int),HZ (L.take k) n)),(8,2))=some (n:Int):=by rw[y,<-A0];exact AAc (a:=[80,77,73,77]++Cy s 4) (t:=Cy (n:Int) 2++Cy (n:Int) 2) (n:=n) (k:=2) (by simp only[Ac,Ax];decide) g! g! (by simp only[Ac,Ax];decide) (Fb (Ax _ _)) o! (by simp[Int.reduceToNat];omega) o!
 have U:BR (ke (s,((n:Int),HZ (L.take k) n)),(10,2))=some (n:Int):=by rw[y,<-A0,<-A0];exact AAc (a:=[80,77,73,77]++Cy s 4++Cy (n:Int) 2) (t:=Cy (n:Int) 2) (n:=n) (k:=2) (by simp only[Ac,Ax];decide) g! g! (by simp only[Ax];decide) (BO (by rw[Ax];decide)) o! (by simp[Int.reduceToNat];omega) o!
 obtain⟨Z,q1,W⟩:=Bt (s:=ke (s,((n:Int),HZ (L.take k) n))) (lo:=0) (hi:=4) g! g! (by rw[b];decide);have X:Z=[80,77,73,77]:=W.1.trans (by rw[y];rfl);rw[bne_self_eq_false,cond_false,show(len (ke (s,((n:Int),HZ (L.take k) n))) !=12)=false by unfold len;rw[b];rfl,cond_false,q1,Option.bind_some,X,bne_self_eq_false,cond_false,S,Option.bind_some,T,Option.bind_some,U,Option.bind_some,decide_eq_false o!,cond_false];refine AA (P:=λr=> ∃z,r= .inr (20+266*(n:Int),(HZ (L.take k) n,(s,((n:Int),z))))) ?_ λr hr=>?_
 ·refine Cn (λ(t:Int×Int×List Cb×Int×Int×Ak)=>0<=t.2.1/\t.2.1<=n/\t.1=20+266*t.2.1/\ ∃z,t.2.2=((HZ (L.take k) n).take t.2.1.toNat,(s,((n:Int),z)))) (λt=>((n:Int)-t.2.1).toNat) ⟨Ae _,d!,d!,_,rfl⟩ ?_;rintro⟨I,i,t⟩ ⟨x,Q,j,z,G⟩;dsimp only at x Q j G;subst G j;unfold MC;dsimp only;refine AC (λm=>?_) (λm=>Aq.done ⟨z,by rw[show i=n by omega,BO (l:=HZ (L.take k) n) (by rw[H9];omega)]⟩);have d:=ov (L:=L.take k) (n:=n) (i:=i.toNat) o!;rw[IC x]at d;have e:=f _ (BN d);have g:HZ (L.take k) n=(HZ (L.take k) n).take i.toNat++(WH (st (L.take k) i)::(HZ (L.take k) n).drop (i.toNat+1)):=by
   have v:=Cv d;conv=>lhs;rw[<-DN i.toNat (HZ (L.take k) n),PX v]
   rw[Av v]at d;rw[Bf d]
  have H:(Gp (ke (s,((n:Int),HZ (L.take k) n)))++pk ((HZ (L.take k) n).take i.toNat)).length=20+266*i.toNat:=by rw[Ac,C8,b,ZL λc m=>f c (Fa m),BQ,H9];omega
  have lr:(pk ((HZ (L.take k) n).drop (i.toNat+1))).length<=17024:=by rw[ZL λc m=>f c (Mm m),EH,H9];omega
  have M:encI (s,((n:Int),HZ (L.take k) n))=(Gp (ke (s,((n:Int),HZ (L.take k) n)))++pk ((HZ (L.take k) n).take i.toNat))++(Gp (ku (WH (st (L.take k) i)))++pk ((HZ (L.take k) n).drop (i.toNat+1))):=by
   conv=>lhs;unfold encI;dsimp only;arg 2;rw[g]
   unfold pk;rw[XX,ID,A0]
  have O:BZ (encI (s,((n:Int),HZ (L.take k) n)),20+266*i)=some (ku (WH (st (L.take k) i)),(20+266*(i+1),0)):=by have:=AIJ (A:=Gp (ke (s,((n:Int),HZ (L.take k) n)))++pk ((HZ (L.take k) n).take i.toNat)) (p:=ku (WH (st (L.take k) i))) (R:=pk ((HZ (L.take k) n).drop (i.toNat+1))) (by rw[H,e];omega) (by rw[e];decide);rw[<-M,H,e]at this;rw[show(20+266*i:Int)=((20+266*i.toNat:Nat):Int) by omega,this];refine congrArg (λw=>some (ku (WH (st (L.take k) i)),(w,(0:Int)))) ?_;omega
  have q:(cF (st (L.take k) i)).length=256:=mr (Wt h ⟨x,o!⟩ B k);have F:ku (WH (st (L.take k) i))=Cy i 2++cF (st (L.take k) i):=by unfold ku WH;rw[Sc]
  have V:BR (ku (WH (st (L.take k) i)),(0,2))=some i:=by rw[F];exact AAc (a:=[]) (t:=Cy i 2++cF (st (L.take k) i)) (n:=i) (k:=2) (by rw[Ac,Ax,q];decide) g! g! (by rw[Ac,Ax,q];decide) (Fb (Ax _ _)) x (by simp[Int.reduceToNat];omega) o!
  obtain⟨w1,J,K⟩:=Bt (s:=ku (WH (st (L.take k) i))) (lo:=2) (hi:=258) g! g! (by rw[e];decide);have w2:w1=cF (st (L.take k) i):=by rw[K.1,F];show List.take 256 (List.drop 2 (Cy i 2++cF (st (L.take k) i)))=_;rw[jk (Ax _ _),BO o!]
  have o:len (ku (WH (st (L.take k) i)))=258:=by unfold len;rw[e];rfl
  rw[O,AD];dsimp only;rw[bne_self_eq_false,cond_false,o,bne_self_eq_false,cond_false,J,AD,V,AD,w2,pG h B ⟨x,o!⟩,AD];refine AA (AZ (by rw[BQ,H9];simp;omega)) λad C=>?_;rw[AY];refine Aq.next ⟨d!,d!,rfl,z,?_⟩ d!
  dsimp only;rw[C.1,show(i+1).toNat=i.toNat+1 by omega,C3,d];unfold WH;rw[Sc];rfl
 obtain⟨z,rfl⟩:=hr;apply BA;dsimp only;rw[show((20+266*(n:Int)) !=len (encI (s,((n:Int),HZ (L.take k) n))))=false by unfold len;rw[D];simp,cond_false,nk h B N hn,Option.bind_some,Bool.not_true,cond_false];exact AB rfl
def PI(L:List EN)(d:Int)(m:Nat)(x:Ak):Prop:= ∃j:Nat,(j:Int)<=d/\1<=x.1/\x.1<=1073741824/\x=(x.1,((m:Int),HZ (L.take j) m))
def FI(L:List EN)(d:Int)(m:Nat)(f:Au):Prop:= ∃x,PI L d m x/\f.2.2=encI x
def AB6{L:List EN}(h:HF L)(c:L.length<=1099511627776){d:Int}{m:Nat}(hn:1<=m/\m<=64){x:Ak}(a:PI L d m x):Aq (J3 x) λf=>FI L d m f:=by have⟨j,i,e,g,b⟩:=id a;have:=yO h c (k:=j) ⟨e,g⟩ hn;rw[<-b]at this;unfold J3;rw[this,AD];exact AB ⟨x,a,rfl⟩
def AB9{n:Int}{L:List EN}{b:AT}{a:AK}{l:Ad}{m:Nat}(O:CX b)(N:LI n L)(o:HF L)(M:AR L a)(z:Wk L l)(w:0<=l.2.2/\l.2.2<=L.length)(Q:(m:Int)=a.2.1)(hn:1<=m/\m<=64):Aq (LD b ((m:Int),(a,l))) λr=>CX r.2/\r.1.length<=8/\ ∀f∈r.1,FI L l.2.2 m f:=by
 have A:=z.len;have V:PI L l.2.2 m (1,((m:Int),HZ [] m)):=⟨0,w.1,d!,d!,rfl⟩
 unfold LD;rw[ADF hn.2,AD];refine AA (Af O g!) λv1 H=>?_;have⟨E,_,_⟩:=H;refine AA (P:=λh=>h.length<=1/\ ∀f∈h,FI L l.2.2 m f) ?_ λv3 v=>?_;refine AC (λ_=>AA (AB6 o o! hn V) λf hf=>AB ⟨k!,λg y=>?_⟩) (λ_=>AB ⟨k!,λg y=>by simp at y⟩);grind[List.mem_singleton]
 ·refine AA (P:=λr=>CX r.2.1/\r.1.length<=8/\ ∀f∈r.1,FI L l.2.2 m f) ?_ λr hr=>AB hr;refine Cn (λ(s:Int×Int×List Au×AT×Ak)=>0<=s.1/\s.1<=l.2.2/\2<=s.2.1/\s.2.1<=4/\s.2.2.1.length<=s.2.1/\(∀f∈s.2.2.1,FI L l.2.2 m f)/\CX s.2.2.2.1/\1<=s.2.2.2.2.1/\s.2.2.2.2.1<=1073741824/\s.2.2.2.2=(s.2.2.2.2.1,((m:Int),HZ (L.take s.1.toNat) m))) (λs=>(4-s.2.1).toNat) ⟨Ae _,w.1,d!,d!,by have:=v.1;dsimp only;omega,v.2,E,d!,d!,rfl⟩ ?_;rintro⟨t,i,h,c,x⟩ ⟨W,X,T,U,G,e,u,B,C,D⟩;dsimp only at W X T U G e u B C D;unfold R8;dsimp only;refine AA (Af u g!) λY I=>?_;have⟨q,m5,n5⟩:=I;rw[AY (x:=2+Y.1)];refine AC (λhc=>?_) (λ_=>Aq.done ⟨q,d!,e⟩);rw[AY (x:=l.2.2-t),AY (x:=l.2.2-t+1)];refine AA (Af q o!) λd J=>?_;have⟨F,m6,n6⟩:=J;rw[AY (x:=t+d.1),D];rw[(by omega:t+d.1=(((t+d.1).toNat:Nat):Int))];refine AA (ACB (s:=i) N o M z (j:=t.toNat) (k:=(t+d.1).toNat) o! o! Q hn ⟨B,C⟩) λZ K=>AJ (λ_=>Aq.done ⟨F,d!,e⟩) (λS=>?_);have⟨y1,y2,p⟩:=K S;have R:PI L l.2.2 m Z.1:=⟨(t+d.1).toNat,o!,by rw[p];exact y1,by rw[p];exact y2,by rw[p]⟩
  refine AA (AB6 o o! hn R) λv8 h8=>AA (AZ w!) λv9 h9=>?_;rw[AY (x:=i+1)];grind[Aq.next,List.length_singleton,Int.toNat_natCast,List.mem_singleton]
end Go.Pm
