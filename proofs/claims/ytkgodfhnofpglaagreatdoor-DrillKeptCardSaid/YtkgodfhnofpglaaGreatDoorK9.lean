/- Texts of wip, joined and shortened by wip/tools/pack.py; nothing is assumed. -/
import Derived.Test.YtkgodfhnofpglaaGreatDoorK8
noncomputable section
set_option linter.all false
set_option maxHeartbeats 1000000
open Option renaming some->D
open List renaming length->Z
open Go renaming Ψ->E
open Bool renaming false->X
open Option renaming none->A
open Bool renaming true->Y
open Go renaming Ω->V
open Option renaming some->δ,none->ε,bind->σ
open Bool renaming true->ζ,false->η
open List renaming length->θ
open Go.IntKind renaming wrap->ι
open Nat renaming beq->ξ
open Int renaming toNat->ο
open Decidable renaming decide->τ
open _root_ renaming Int->W,Nat->U
open Go.Ab renaming len->T
namespace Go.Pm
open Go Go.Ab
def AEk(L:E EN)(a:AL)(F G s:W)(nf:E AS):Prop:=∀(j:U)(f:AS),nf[j]?=D f->
 ∃r,f=(1,s+j,SG r)/\VR r/\lG L r/\r.1=F/\r.2.1=G/\a.1[j]?=D r.2.2.1/\r.2.2.2.1=ou a j
def Dg.uq{l}(h:Dg l):Uq l.2.1:=λx b y c a=>V9 h.nodup b c a
def ADx{l}(h:Dg l){F G:W}{v:E EN}(g:l.1<=F)(i:F<=G)(j:G<=l.1+Z l.2.1-1)(b:v=(l.2.1.drop (F-l.1).toNat).take ((G-l.1+1).toNat-(F-l.1).toNat))(e:EN):e∈v↔e∈l.2.1/\F<=e.1/\e.1<=G:=by subst b;have⟨l1,l2,m,n,o,c⟩:=h;rw[HS,HS];constructor;grind;rintro⟨⟨k,a⟩,d,f⟩;have:=(c _ e a).1;refine⟨k-(F-l.1).toNat,?_⟩;rw[dV,C! o!,IW,show(F-l.1).toNat+(k-(F-l.1).toNat)=k by omega,a]
theorem uN{x:AL×Aa×Int}(h:SA x.1)(hb:VB x.1)(t:Dg x.2.1):Ao (GN x) λr=>r.2=0→r.1=x.1∨
  ∃F G a,r.1=(x.1.1,(x.1.2.1,(x.1.2.2.1++a,(G+1,x.1.2.2.2.2+a.length))))/\(x.1.2.2.2.1<=F/\(x.2.1.1<=x.1.2.2.2.1->F=x.1.2.2.2.1)/\(x.2.1.1<=F/\G<=x.2.1.2.2))/\F<=G/\a.length=x.1.1.length/\AEk x.2.1.2.1 x.1 F G x.1.2.2.2.2 a:=by
 unfold GN;refine AA PD λv0 h0=>AP (λ_=>AB λb=>absurd (show(54:Int)=0 from b) (by decide)) (λl=>?_);have⟨a1,a2,a3,a4,a5,a6,a7,a8,a9⟩:=h0 l;refine AA BM λv1 h1=>AP (λ_=>AB λb=>absurd (show(26:Int)=0 from b) (by decide)) (λag=>?_);have⟨l1,l2,l3,l4,l5,l6⟩:=id t;refine AC (λ_=>AB λb=>absurd (show(1:Int)=0 from b) (by decide)) (λc1=>AC (λ_=>AB λb=>absurd (show(1:Int)=0 from b) (by decide)) (λc2=>?_));have p: ∃F,(if(x.2.1.1>x.1.2.2.2.1)then x.2.1.1 else x.1.2.2.2.1)=F:=⟨_,rfl⟩
 have⟨F,p⟩:=p;have f1:x.2.1.1<=F/\x.1.2.2.2.1<=F/\F<=1099511627777:=by grind
 have f2:x.2.1.1<=x.1.2.2.2.1->F=x.1.2.2.2.1:=by grind
 have H:=AX (x:=F+x.2.2) (by omega);have I:=AX (x:=F+x.2.2-1) (by omega);have q: ∃G,(if(x.2.1.2.2<(F+x.2.2-1))then x.2.1.2.2 else(F+x.2.2-1))=G:=⟨_,rfl⟩
 have⟨G,q⟩:=q;have g1:G<=x.2.1.2.2/\G<=F+x.2.2-1:=by grind
 rw[p,H,I,q];refine AC (λ_=>AB λ_=>.inl rfl) (λc3=>?_);have V:=AX (x:=F-x.2.1.1) (by omega);have W:=AX (x:=G-x.2.1.1) (by omega);have X_:=AX (x:=G-x.2.1.1+1) (by omega);rw[V,W,X_];have Y_:=AX (x:=len x.1.2.2.1+len x.1.1) (by simp[len];omega);have Z:=AX (x:=x.1.2.2.2.2+len x.1.1) (by simp[len];omega);rw[Y_,Z,(AX (x:=G+1) (by omega))];refine AC (λ_=>AB λb=>absurd (show(21:Int)=0 from b) (by decide)) (λT=>AC (λ_=>AB λb=>absurd (show(21:Int)=0 from b) (by decide)) (λU=>?_));simp[len]at T U;refine AA (Bs (by omega) (by omega) (by omega)) λv2 J=>?_;have al:=J.2;have m:=ADx t (F:=F) (G:=G) f1.1 (by omega) (by omega) J.1;refine AA (Sp ⟨AY _,by dsimp only;omega,by omega⟩) λv8 h8=>BE (λu c=>AB λb=>absurd b (h8 u c)) (λu c=>AA (Ac (by simp;omega)) λao v=>?_);have i:=v.1;rw[Cq]at i;subst i;refine AA (P:=λr=>(∀u,r= .inl u->u.1≠0)/\ ∀u,r= .inr u-> ∃(a:List AS),(u.1,(u.2.1,(u.2.2.1,(u.2.2.2.1,u.2.2.2.2.1))))=(x.1.2.2.1++a,(x.1.1,(x.1.2.1,(x.1.2.2.2.1,x.1.2.2.2.2+a.length))))/\a.length=x.1.1.length/\AEk x.2.1.2.1 x.1 F G x.1.2.2.2.2 a) ?_ λr hr=>BE (λu c=>AB λb=>absurd b (hr.1 u c)) (λu c=>AB λ_=>.inr ?_)
 ·refine CE (λ(s:Int×(List AS)×(List Int)×Int×Int×Int×AL)=> ∃(k:Nat) (a:List AS) (z:AL),s=((k:Int),(x.1.2.2.1++a,(x.1.1,(x.1.2.1,(x.1.2.2.2.1,(x.1.2.2.2.2+(k:Int),z))))))/\k<=x.1.1.length/\a.length=k/\AEk x.2.1.2.1 x.1 F G x.1.2.2.2.2 a) (λs=>x.1.1.length-s.1.toNat)
   ⟨0,[],u,by simp,Bh _,rfl,λj f d=>by simp at d⟩ ?_
  rintro s ⟨k,a,z,rfl,i2,B,L⟩;unfold PC;dsimp only;simp only[len];rw[p,H,I,q];refine AC (λl=>?_) (λl=>Ao.done ⟨λu c=>(by cases c),λu c=>(by cases c;exact⟨a,by dsimp only;rw[B],by omega,L⟩)⟩);have K:x.1.1[k]? =some (x.1.1[k]'(by omega)):=Ar (by omega);rw[lF hb.1 K,AD];refine AA (AIq t.uq (λe he=>((m e).1 he).1) (by omega)) λo w=>AK (λl=>Ao.done ⟨λu c=>(by cases c;exact l),λu c=>(by cases c)⟩) (λb=>?_);have⟨C,es,n,m3⟩:=w b;rw[zR C,AD];refine AA (Ac (by simp;omega)) λap ad=>?_;rw[AX (x:=x.1.2.2.2.2+(k:Int)+1) (by omega),AX (x:=(k:Int)+1) (by omega)];refine Ao.next ⟨k+1,a++[(1,(x.1.2.2.2.2+(k:Int),SG o.1))],z,?_,by omega,by rw[Ae,B];rfl,λj f d=>?_⟩ (by dsimp only;omega)
  ·grind
  ·by_cases hj:j<a.length
   ·rw[CW hj]at d;exact L j f d
   ·have A_:=CZ d;rw[Ae,CY,CO]at A_;have y:j=k:=by omega
    subst y;rw[Cm (by omega),B,Gw]at d;cases d;refine⟨o.1,rfl,C,C.runOf t.uq λe=>?_,by rw[n],by rw[n],by rw[n];exact K,by rw[n]⟩;rw[n];dsimp only;rw[m3,m];constructor
    ·grind
    ·rintro⟨g,D_,E,q4,R,S⟩;exact⟨⟨g,R,S⟩,D_,E,q4,R,S⟩
 ·have⟨a,g,D_,E⟩:=hr.2 u c;refine⟨F,G,a,?_,⟨by omega,f2,by omega,by omega⟩,by omega,D_,E⟩;have M:=congrArg (·.1) g;have N:=congrArg (·.2.1) g;have O:=congrArg (·.2.2.1) g;have Q:=congrArg (·.2.2.2.2) g;dsimp only at M N O Q;dsimp only;rw[M,N,O,Q]
def Nf.congr{a b:AL}(e:b.1=a.1)(f:b.2.1=a.2.1){d c}:Nf a d c↔Nf b d c:=by grind[Nf,ou]
def Good.congr{a b:AL}(c:b.1=a.1)(d:b.2.1=a.2.1){f}{r}(h:Good a f r):Good b f r:=⟨h.1,h.2.1,h.2.2.1,(Nf.congr c d).1 h.2.2.2⟩
def Good.run{a}{f}{r s}(h:Good a f r)(g:Good a f s):r=s:=uu h.2.2.1 g.2.2.1 (h.2.1.symm.trans g.2.1)
def AR.step{L:List EN}{a b:AL}{F G:Int}{s:List AS}(h:AR L a)(e:b=(a.1,a.2.1,a.2.2.1++s,G+1,a.2.2.2.2+θ s))(hF:a.2.2.2.1<=F)(hG:F<=G)(hn:AEk L a F G a.2.2.2.2 s)(D_:VB b):AR L b/\(AG a->AG b)/\∀c,RC a c->RC b (c+1):=by
 have P:b.1=a.1:=by rw[e]
 have Q:b.2.1=a.2.1:=by rw[e]
 have Y_:b.2.2.1=a.2.2.1++s:=by rw[e]
 have h4:b.2.2.2.1=G+1:=by rw[e]
 have q:∀f∈s,∃(j:Nat)(r:Af),Good b f r/\lG L r/\r.1=F/\r.2.1=G/\a.1[j]?=δ r.2.2.1/\s[j]?=δ f:=λf k=>by have⟨j,hj⟩:=HS.1 k;have⟨r,l,M,w,r4,W,S,r7⟩:=hn j f hj;refine⟨j,r,⟨by rw[l],by rw[l],M,(Nf.congr P Q).1 ⟨j,S,r7⟩⟩,w,r4,W,S,hj⟩
 have K:∀f∈a.2.2.1,Bad f\/∃r,Good b f r/\lG L r/\r.2.1<a.2.2.2.1:=λf k=>(h.files f k).imp id λ⟨r,l,M,w⟩=>⟨r,l.congr P Q,M,w⟩
 have d:∀x∈GP b,(x∈GP a/\x.1.2.1<a.2.2.2.1)\/∃(j:Nat)(f:AS),s[j]?=δ f/\Good b f x.1/\x.2=f.2.1/\x.1.1=F/\a.1[j]?=δ x.1.2.2.1:=λx m=>by unfold GP at m;rw[Y_]at m;have⟨f,k,z⟩:=T6.1 m;rcases Al.1 k with k|k;rcases K f k with E|⟨r,l,M,w⟩;rw[E.intR D_.1]at z;cases z;rw[l.intR D_.1]at z;cases z;exact .inl ⟨gD h.vb.1 k (l.congr P.symm Q.symm),w⟩;have⟨j,r,l,M,w,r4,W,S⟩:=q f k;rw[l.intR D_.1]at z;cases z;exact .inr ⟨j,f,S,l,rfl,w,W⟩
 refine⟨⟨D_,λf k=>?_,λx m y R J p=>?_⟩,λU f k=>?_,λc Z v=>?_⟩;grind;rcases d x m with⟨n,A_⟩|⟨i,f,n,A_,N,x4,B⟩;rcases d y R with⟨o,C⟩|⟨j,g,o,C,T,y4,O⟩;exact h.dis x n y o J p;grind;rcases d y R with⟨o,C⟩|⟨j,g,o,C,T,y4,O⟩;exact .inr o!;rw[<-p]at O;have t:=h.vb.1.inj B O;subst t;rw[n]at o;cases o;exact O! (Dh (A_.run C) (N.trans T.symm)) J;rw[Y_]at k;rcases Al.1 k with k|k;have⟨r,hr⟩:=U f k;exact⟨r,hr.congr P Q⟩;have⟨j,r,l,_⟩:=q f k;exact⟨r,l⟩;have I:=(Xm D_).filter λe=>e.1.2.2.1==v;by_cases H:∃y∈(GP b).filter (λe=>e.1.2.2.1==v),∃(j:Nat)(f:AS),s[j]?=δ f/\Good b f y.1/\y.2=f.2.1/\a.1[j]?=δ y.1.2.2.1;have⟨y,R,j,g,o,C,T,O⟩:=H;have V:y.1.2.2.1=v:=eq_of_beq (BZ.1 R).2;have:=uA _ (y::(GP a).filter λe=>e.1.2.2.1==v) I λx m=>by have⟨X_,u⟩:=BZ.1 m;rcases d x X_ with⟨n,_⟩|⟨i,f,n,A_,N,x4,B⟩;grind;rw[eq_of_beq u,<-V]at B;have t:=h.vb.1.inj B O;subst t;rw[n]at o;cases o;exact A3.2 (.inl (Dh (A_.run C) (N.trans T.symm)))
 rw[CY]at this;have:=Z v;omega;have:=uA _ ((GP a).filter λe=>e.1.2.2.1==v) I λx m=>by have⟨X_,u⟩:=BZ.1 m;rcases d x X_ with⟨n,_⟩|⟨i,f,n,A_,N,x4,B⟩;exact BZ.2 ⟨n,u⟩;exact O! ⟨x,m,i,f,n,A_,N,B⟩ H
 have:=Z v;omega
def AK7(a:AL)(lo n:W):Prop:=∃e∈GP a,e.1.2.2.1=lo/\e.1.1<=n/\n<=e.1.2.1
def AF(a:AL):Prop:=∀lo∈a.1,∀n:W,1<=n->n<a.2.2.2.1->AK7 a lo n
def AF.step{L}{a b:AL}{F G:W}{c:Ψ AS}(w:AF a)(h:AR L a)(e:b=(a.1,a.2.1,a.2.2.1++c,G+1,a.2.2.2.2+Z c))(H:F=a.2.2.2.1)(z:Z c=Z a.1)(hn:AEk L a F G a.2.2.2.2 c)(s:VB b):AF b:=by
 have k:b.1=a.1:=by rw[e]
 have p:b.2.1=a.2.1:=by rw[e]
 have q:b.2.2.1=a.2.2.1++c:=by rw[e]
 have E:b.2.2.2.1=G+1:=by rw[e]
 intro A_ d n B I;rw[k]at d;rcases mm n a.2.2.2.1 with g|g;obtain⟨r,hr,i,m,u⟩:=w A_ d n B g;have⟨f,l,v,D_,_⟩:=h.mem hr;exact⟨(r.1,f.2.1),gD s.1 (by rw[q];exact FA _ l) (v.congr k p),i,m,u⟩;have⟨j,t⟩:=HS.1 d;have y:=CZ t;have l:c[j]?=D (c[j]' o!):=Ar o!;have⟨r,i,m,u,J,K,o,C⟩:=hn j _ l;have x:Good b (c[j]' o!) r:=⟨by rw[i],by rw[i],m,(Nf.congr k p).1 ⟨j,o,C⟩⟩
 refine⟨(r,(c[j]' o!).2.1),gD s.1 (by rw[q];exact La _ (Of _)) x,?_,d!⟩;rw[t]at o;exact(BL o).symm
def SF(a:AL)(m:W):Prop:=a.2.2.2.2+Z a.2.2.1<=m
def AGv{x:AL×Aa×W}{m}(h:AR x.2.1.2.1 x.1)(f:Dg x.2.1)(u:SF x.1 m):Ao (GN x) λr=>r.2=0->AR x.2.1.2.1 r.1/\(AG x.1->AG r.1)/\(∀c,RC x.1 c->RC r.1 (c+1))/\SF r.1 (m+32)/\r.1.2.1=x.1.2.1/\(r.1.2.2.2.1=x.1.2.2.2.1\/r.1.2.2.2.1<=x.2.1.2.2+1)/\(GF x.2.1.2.1->AF x.1->AF r.1):=by
 refine((AGw h.sa h.vb).and (uN h.sa h.vb f)).mono λr hr k=>?_;have⟨z,l,A_,B⟩:=hr.1 k;rcases hr.2 k with e|⟨F,G,v,g,i,n,o,j⟩;rw[e];exact⟨h,id,λc s t=>Nat.le_succ_of_le (s t),by unfold SF at*;omega,rfl,.inl rfl,λ_=>id⟩
 ·have a:=h.step g i.1 n j l;have b:0<Z x.2.1.2.1:=by have:=f.2.2.2.2.1;omega
  have d:GF x.2.1.2.1->AF x.1->AF r.1:=λp q=>q.step h g (i.2.1 (by have w:=(p 0 _ (Ar b)).1;have y:=(f.2.2.2.2.2 0 _ (Ar b)).1;have:=h.vb.2.1;omega)) o j l;have:=h.sa.1;refine⟨a.1,a.2.1,a.2.2,?_,?_,?_,d⟩;all_goals unfold SF at*;grind
def AEl{L}{x:W×E W}(h:BD x.1 x.2):Ao (Fu x) λr=>AR L r.1/\AG r.1/\RC r.1 0/\SF r.1 1/\r.1.2.1=x.1/\r.1.2.2.2.1=1:=by
 have a:Ao (Fu x) λr=>r.2=0->r.1.2.2.1=[]/\r.1.2.2.2.2=1:=by refine AA gg λo b=>AP (λj=>AB λm=>?_) (λ_=>?_);grind;have l:=h.2.2.2.1;grind[AA,Ac,AB]
 refine((AIr h).and a).mono λr hr=>?_;have⟨⟨b,c,d,g⟩,i⟩:=hr;refine⟨⟨c,λf a=>?_,λe k=>?_⟩,λf a=>?_,λn=>?_,?_,d,g⟩;grind;grind[GP];grind;grind[GP];unfold SF;grind
theorem AEp{n p:Int}{l:List Int}(h:BD n l):Ao (Jy (l,p)) λr=>0<=r.1/\r.1<=l.length/\(∀(i:Nat) (v:Int),(i:Int)<r.1->l[i]? =some v->v<p)/\(∀(i:Nat) (v:Int),r.1<=(i:Int)->l[i]? =some v->p<=v)/\(r.2=true->l[r.1.toNat]? =some p)/\(r.2=false-> ∀v,l[r.1.toNat]? =some v->p<v):=by
 have t:=h.2.2.2.1;refine AA (P:=λ(r:Int)=>0<=r/\r<=l.length/\(∀(i:Nat) (v:Int),(i:Int)<r->l[i]? =some v->v<p)/\ ∀(i:Nat) (v:Int),r<=(i:Int)->l[i]? =some v->p<=v) ?_ λJ u=>?_
 ·refine CE (λ(s:Int×Int)=>0<=s.1/\s.1<=s.2/\s.2<=l.length/\(∀(i:Nat) (v:Int),(i:Int)<s.1->l[i]? =some v->v<p)/\ ∀(i:Nat) (v:Int),s.2<=(i:Int)->l[i]? =some v->p<=v) (λ(s:Int×Int)=>(s.2-s.1).toNat) ⟨AY _,by grind,by grind,λi v e=>by grind,λi v e b=>by grind⟩ (λs y=>?_);have⟨o,G,C,D_,E⟩:=y;unfold Nc;rw[ABq o (by omega) (by omega)];refine AC (λa=>?_) (λa=>Ao.done ?_)
  ·refine AA (AE (by omega) (by grind)) λF g=>?_;refine AA fO λH k=>?_;rw[(AX (x:=(s.1+s.2)/2+1) (by omega))];refine AA (P:=λ(q:Int×Int)=>(0<=q.1/\q.1<=q.2/\q.2<=(l.length:Int)/\(∀(i:Nat) (v:Int),(i:Int)<q.1->l[i]? =some v->v<p)/\ ∀(i:Nat) (v:Int),q.2<=(i:Int)->l[i]? =some v->p<=v)/\(q.2-q.1).toNat<(s.2-s.1).toNat) ?_ λI m=>Ao.next m.1 m.2
   refine AJ (λB=>AB ⟨⟨by grind,by grind,C,λi v e b=>?_,E⟩,by grind⟩) (λz=>AB ⟨⟨o,by omega,by omega,D_,λi v e b=>?_⟩,by omega⟩)
   ·have f:=k.1 B;have:=h.le (i:=i) (j:=((s.1+s.2)/2).toNat) (by omega) b g.1;omega
   ·have f: ¬F<p:=λq=>by have:=k.2 q;rw[z]at this;cases this
    have:=h.le (i:=((s.1+s.2)/2).toNat) (j:=i) (by omega) g.1 b;omega
  ·grind
 ·have⟨a1,a2,a3,a4⟩:=u;refine AC (λa=>?_) (λa=>AB ⟨a1,a2,a3,a4,λc=>(by cases c),λ_ v b=>?_⟩)
  ·simp[len]at a;refine AA (AE a1 a) λK w=>?_;refine AT (λd=>AB ⟨a1,a2,a3,a4,λ_=>by dsimp only;rw[w.1,d],λc=>(by cases c)⟩) (λA_=>?_);refine AA (AE a1 a) λL _=>?_;refine AJ (λc=>?_) (λ_=>AB ⟨a1,a2,a3,a4,λc=>(by cases c),λ_ v b=>?_⟩)
   ·grind
   ·grind
  ·grind
def VN(a:AL)(p lo hi:Int):Prop:= ∃i:Nat,a.1[i]? =some lo/\hi=ou a i/\lo<=p/\p<=hi
def AEn{a}{p:W}(h:VB a)(z:0<=p/\p<a.2.1):∃b d,GQ (a,p)=D (b,d,Y)/\VN a p b d:=by
 have key:Ao (GQ (a,p)) λr=>r.2.2=Y/\VN a p r.1 r.2.1:=by
  unfold GQ;dsimp only;refine AA (HV h) λG m=>?_;rw[m,Ce,A!,F! o!,A!,F! o!,A!];refine AA (AEp h.1) λc n=>?_;have⟨D_,E,v,F,k,x⟩:=n;have q:=h.1.2.2.2.1;refine AA (P:=λl:W=>∃(i:U)(b:W),l=i/\a.1[i]?=D b/\b<=p/\∀w,a.1[i+1]?=D w->p<w) ?_ λl s=>?_;refine AP (λt=>AB ?_) (λf=>AB ?_);have e:0<c.1:=by refine R5 λy=>?_;have:=x t 0 (by rw[show c.1.toNat=0 by omega];exact h.1.2.2.2.2.1);omega
  rw[AX];refine⟨c.1.toNat-1,a.1[c.1.toNat-1],o!,Ar o!,?_,λw g=>?_⟩;have:=v (c.1.toNat-1) _ o! (Ar o!);omega;grind;refine⟨c.1.toNat,p,o!,k f,AY _,λw g=>?_⟩;exact h.1.lt 0 c.1.toNat p w (k f) g;obtain⟨i,b,rfl,j,u,A_⟩:=s;rw[zj h.1 j,AD];refine AB ⟨rfl,i,j,rfl,u,?_⟩;grind[ou]
 have⟨⟨b,d,o⟩,k1,B,C⟩:=key;grind
def VN.uniq{a b:AL}{p l1 l2 f g}(h:BD a.2.1 a.1)(d:b.1=a.1)(e:b.2.1=a.2.1)(m:VN a p l1 f)(n:VN b p l2 g):l1=l2:=by
 obtain⟨i,s,t,u,v⟩:=m;obtain⟨j,w,z,A,B⟩:=n;have o:ou b j=ou a j:=by unfold ou;rw[d,e]
 have key:∀{i j:U}{x y:W},a.1[i]?=D x->a.1[j]?=D y->i<j->ou a i<y:=λ{i j x y} q c k=>by have r:=CZ c;have l:a.1[i+1]?=D (a.1[i+1]' o!):=Ar o!;have:=h.le (by omega:i+1<=j) l c;unfold ou;grind
 grind
def wK(P:Int->Prop)(j fl:Int):Prop:=0<=fl/\fl<=j/\(∀n,fl<n->n<=j->P n)/\(fl=0\/ ¬P fl)
def wK.uniq{P Q:W->Prop}{j r s}(h:∀n,P n↔Q n)(hr:wK P j r)(a:wK Q j s):r=s:=by obtain⟨b,c,d,e⟩:=hr;obtain⟨f,g,i,k⟩:=a;grind
structure QH(L:List EN)(l:Aa):Prop where
 vl:Dg l
 sorted:L.Pairwise λx y=>x.1<y.1
 tail:∀e,e∈l.2.1↔e∈L/\l.1<=e.1/\e.1<=l.1+l.2.1.length-1
 len:L.length<=4096
def AIp{B}{L}{a}{l}{p i j:W}(q:CP B)(D:B≤16777216)(v:j-i≤B)(t:0≤i)(F:i≤j)(E:j≤1099511627776)(h:AR L a)(w:QH L l)(y:0≤p∧p<a.2.1):
  ∃o t d,VN a p o t/\wK (ka a l o) j d/\Q6 (a,l,p,i,j)=δ (τ (d<=i))/\Ao (IE (a,l,p,i,j)) λr=>(d>i/\r=([],42))\/(d<=i/\((Y1 i (L.filter (Ki p i j))/\r=(L.filter (Ki p i j),0))\/(¬Y1 i (L.filter (Ki p i j))/\r=([],13)))):=by
 obtain⟨o,u,x,n⟩:=AEn h.vb y;obtain⟨k,k1,G,H,I⟩:=id n;obtain⟨d,z,C,A⟩:=AIo q D v t F E h.vb h.ds w.vl y x rfl w.sorted w.tail (λe s=>by
  obtain⟨f,_,_,_,g,_⟩:=h.mem s;exact g) h.dis (λe s m=>by
  obtain⟨f,_,g,_⟩:=h.mem s;have c:e.1.2.2.1=o:=m;have b:=g.2.2.2;rw[c]at b;have:=b.uniq h.vb.1 ⟨k,k1,G⟩;exact⟨H,o!⟩)
 exact⟨o,u,d,n,z,C,A⟩
def Dg.sorted{l}(h:Dg l):l.2.1.Pairwise λx y=>x.1<y.1:=by have⟨l1,l2,a,b,c,d⟩:=h;rw[Ek];grind
theorem X1{l}(h:Dg l):QH l.2.1 l:=⟨h,h.sorted,λe=>⟨λa=>⟨a,by have⟨k,b⟩:=HS.1 a;have:=(h.2.2.2.2.2 k e b).1;have:=CZ b;omega⟩,λa=>a.1⟩,h.2.2.1⟩
theorem AIM{l}{f:W}(h:Dg l)(n:l.2.2=l.1+Z l.2.1-1)(i:l.1<=f)(j:f<=l.2.2+1)(m:f<=1099511627776):Ao (Gx (l,f)) λr=>QH l.2.1 r.1/\r.1.1=f/\r.1.2.2=l.2.2:=by
 have o:Ao (Gx (l,f)) λr=>r.2=0->r.1=(f,l.2.1.drop (f-l.1).toNat,l.2.2):=by have⟨a1,a2,a3,a4,a5,a6⟩:=id h;refine AA BM λv t=>AP (y? λa=>O! (show(26:W)=0 from a) g!) (λ_=>?_);refine AC (y? λa=>O! (show(1:W)=0 from a) g!) (λ_=>?_);refine AC (y? λa=>O! (show(1:W)=0 from a) g!) (λ_=>?_);refine AC (y? λa=>O! (show(1:W)=0 from a) g!) (λ_=>?_);refine AC (y? λa=>O! (show(15:W)=0 from a) g!) (λ_=>?_);grind[AX,AA,Bs,Ac,AB,List.take_of_length_le]
 refine((kh (x:=(l,f)) h n i j m).and o).mono λr hr=>?_;have⟨⟨c,q,s⟩,d⟩:=hr;refine⟨⟨q,h.sorted,λe=>?_,h.2.2.1⟩,s,by rw[(d c)]⟩;rw[(d c)];have⟨l1,l2,u,w,y,p⟩:=h;rw[HS,HS];constructor;grind;rintro⟨⟨k,b⟩,g,_⟩;have:=(p _ e b).1;exact⟨k-(f-l.1).toNat,by rw[IW,show(f-l.1).toNat+(k-(f-l.1).toNat)=k by omega];exact b⟩
def yO{p i j}{e}:Ki p i j e=(cI p e&&(τ (e.1>i)&&τ (e.1<=j))):=by unfold Ki cI ik;grind
def Y1.snoc{i}{s}{e:EN}(h:Y1 i s)(m:s=[]->e.2.2.2.2.1<=i)(n:∀f,s[Z s-1]?=D f->e.2.2.2.2.1=f.1):Y1 i (s++[e]):=by
 intro k g b;rcases Aw k (Z s)with d|d;rw[CW d]at b;refine⟨(h k g b).1,λf a c=>(h k g b).2 f a ?_⟩;grind;have o:=CZ b;rw[Ae,gT]at o;have l:k=Z s:=o!
 subst l;have j:e=g:=q!
 subst j;refine⟨λp=>m (EX p),λf a c=>n f ?_⟩;rwa[CW o!]at c
def w9{n p i j:W}{L}(H:LI n L)(I:L.Pairwise λx y=>x.1<y.1)(J:0≤i):∀m:U,m≤Z L→
  Y1 i ((L.take m).filter (Ki p i j))/\((∀f∈L.take m,f.1<=j)->((L.take m).filter (Ki p i j)=[]->BW (L.take m) p<=i)/\∀f,((L.take m).filter (Ki p i j))[((L.take m).filter (Ki p i j)).length-1]?=D f->BW (L.take m) p=f.1)
 |0,_=>by rw[List.take_zero];exact⟨λk e G=>by simp at G,λ_=>⟨λ_=>J,λf a=>by simp at a⟩⟩
 |m+1,hm=>by
  obtain⟨E,F⟩:=w9 (j:=j) H I J m o!;have d:m<Z L:=o!
  have B:L.take (m+1)=L.take m++[L[m]]:=by rw[CC,Ar d];rfl
  have l:∀f∈L.take m,f.1<L[m].1:=λf a=>by obtain⟨k,w⟩:=Cu a;have z:=CZ w;rw[BK]at z;rw[JO o!,Ar o!]at w;rw[<-BL w];exact Ek.1 I k m o! d o!
  have A_:=H m _ (Ar d);rw[B,F7];generalize K:L.take m=M at*;generalize L[m]=e at*;by_cases t:Ki p i j e=Y;have g:=t;rw[yO]at g;simp only[BS,K!]at g;obtain⟨s,O,P⟩:=g;have q:e.2.2.2.2.2.2.1.1=p/\(e.2.1=1\/e.2.1=2):=by unfold cI at s;simp only[BS,Wy,J!]at s;exact⟨s.2,s.1⟩
  obtain⟨C,D_⟩:=F λf a=>by have:=l f a;omega
  have b:=A_.1 q.2;rw[q.1]at b;rw[wq t,ms];refine⟨E.snoc (λh=>by rw[b.1];exact C h) (λf a=>by rw[b.1];exact D_ f a),λ_=>⟨λh=>by simp at h,λf a=>?_⟩⟩;rw[QE,C! s];have:e=f:=by simpa using a
  rw[this];rw[wo t,ms,D1];refine⟨E,λc=>?_⟩;have G:=c e k!;obtain⟨C,D_⟩:=F λf a=>c f (FA _ a);rw[QE];by_cases u:cI p e=Y;have v:e.1<=i:=by refine R5 λN=>t ?_;rw[yO,u];simp;omega
  have o:M.filter (Ki p i j)=[]:=List.filter_eq_nil_iff.2 λf a r=>by rw[yO]at r;simp only[BS,K!]at r;have:=l f a;omega
  rw[C! u,o];exact⟨λ_=>v,λf a=>by simp at a⟩;rw[D! u];exact⟨C,D_⟩
def wz{n p i j:W}{L}(a:LI n L)(b:L.Pairwise λx y=>x.1<y.1)(c:0<=i):Y1 i (L.filter (Ki p i j)):=by have:=(w9 (p:=p) (j:=j) a b c (Z L) (Am _)).1;grind
theorem uH{B:Nat}{n:Int}{L:List EN}{a:AL}{l:Aa}{p i j:Int}(f:CP B)(v:B≤16777216)(x:LI n L)(g:j-i≤B)(c:0≤i)(y:i≤j)(w:j≤1099511627776)(h:AR L a)(m:QH L l)(z:0≤p∧p<a.2.1):
  ∃d c b,VN a p d c/\wK (ka a l d) j b/\Q6 (a,(l,(p,(i,j))))=some (decide (b<=i))/\((b>i/\IE (a,(l,(p,(i,j))))=some ([],42))\/(b<=i/\IE (a,(l,(p,(i,j))))=some (L.filter (Ki p i j),0))):=by
 obtain⟨d,u,b,A_,s,t,r,q,C⟩:=AIp f v g c y w h m z;refine⟨d,u,b,A_,s,t,?_⟩;rcases C with⟨k,e⟩|⟨k,⟨e,o⟩|⟨e,o⟩⟩
 ·exact .inl ⟨k,by rw[q,e]⟩
 ·exact .inr ⟨k,by rw[q,o]⟩
 ·exact absurd (wz x m.sorted c) e
def AD8{x:AV×Do}(a:Pc x.2)(c:x.2.1=x.1.1)(b:F4 x.1.2.2 x.2.2.1=D x.2.2.2.1):Vn x=D ((x.1.1,x.1.2.1,Xw x.1.2.2 x.2.2.1 x.2.2.2.2),0):=by grind[Ao,Vn,Xw,AA,fN,AP,AK,BA,AB]
def AHs{x}{e}(h:HP x)(d:Ml e)(j:e.2.1=1\/e.2.1=2)(b:e.2.2.2.2.2.2.1.1=x.1)(f:e.2.2.2.2.1=x.2.1)(c:F4 x.2.2 e.2.2.2.2.2.2.1.2.1=D e.2.2.2.2.2.2.1.2.2.1):V5 (x,e)=D (upd x e,0):=by
 suffices g:Ao (V5 (x,e)) λr=>r=(upd x e,0) by obtain⟨r,hr,rfl⟩:=g;exact hr
 have a:Pc e.2.2.2.2.2.2.1:=by grind[Ml,WM]
 unfold V5;refine AA Ke λv i=>AP (λa=>O! (i d) (by simp[a])) (λ_=>?_);rw[oe,(by grind[ik]:ik e=Y),nO h,AD,Ce,A!];refine BA (AK (O! rfl ·) (λ_=>AK (O! b ·) (λ_=>AK (O! f ·) (λ_=>?_))));rw[AD8 a b c];exact BA (AK (O! rfl ·) (y? rfl))
theorem AHu{x:AV}{a:List AI}(q:OKs x a)(d:a.length<=4096):V7 (x,a)=some (a.foldl upd x,0):=by
 suffices t:Ao (V7 (x,a)) λr=>r=(a.foldl upd x,0) by obtain⟨r,hr,rfl⟩:=t;exact hr
 generalize v:a.foldl upd x=y;refine AA (P:=λr=> ∃z,r= .inr (y,z)) ?_ λr hr=>?_
 ·refine CE (λ(s:Int×AV×AV)=> ∃A_ B,a=A_++B/\s.1=A_.length/\OKs s.2.1 B/\B.foldl upd s.2.1=y) (λ(s:Int×AV×AV)=>((a.length:Int)-s.1).toNat) ⟨[],a,rfl,rfl,q,v⟩ ?_;rintro⟨i,x,z⟩ ⟨A_,B,rfl,g,h,c⟩;dsimp only at g h c;subst g;unfold bD;dsimp[len];rw[Ae]at d;refine AC (λb=>?_) (λb=>Ao.done ?_)
  ·obtain _|⟨e,B⟩:=B
   ·simp at b
   have u:ix (A_++e::B) (A_.length:Int)=some e:=by unfold ix;rw[if_pos (by omega),C5,Cm (Am _),Gw];rfl
   have⟨⟨j,f,k,l,m,n⟩,o⟩:=h;have p:e.2.2.2.2.1<e.1:=f.2.2.2.2.2.1;rw[u,AD,decide_eq_false (by omega),cond_false,AHs j f k l m n,AD,AX (x:=(A_.length:Int)+1) (by omega)];refine AK (λb=>absurd rfl b) (λ_=>Ao.next ⟨A_++[e],B,by simp,by simp,o,c⟩ (by dsimp only;omega))
  ·obtain _|⟨e,B⟩:=B
   ·exact⟨z,by rw[<-c];rfl⟩
   ·simp at b;omega
 ·grind[Au,AB]
def zL{L}(h:GF L){p}{a b:U}(g:a<=b):L.filter (Ki p a b)=((L.take b).drop a).filter (cI p):=by
 have j:∀(i:U)(e:AI),L[i]?=D e->Ki p a b e=(cI p e&&(τ (a<=i)&&τ (i<b))):=λi e d=>by have:=(h i e d).1;rw[yO,show τ (e.1>(a:W))=τ (a<=i)from decide_eq_decide.2 o!,show τ (e.1<=(b:W))=τ (i<b)from decide_eq_decide.2 o!]
 conv=>lhs;rw[<-Cr b L,wE L g]
 rw[F7,F7];rw[(List.filter_eq_nil_iff (l:=L.take a)).2 λe d=>by obtain⟨i,c⟩:=Cu d;have f:=CZ c;rw[BK]at f;rw[JO o!]at c;rw[j i e c,F! (show¬a<=i by omega)];simp];rw[(List.filter_eq_nil_iff (l:=L.drop b)).2 λe d=>by obtain⟨i,c⟩:=Cu d;rw[IW]at c;rw[j _ e c,F! (show¬b+i<b by omega)];simp];rw[Cq,D1];refine List.filter_congr λe d=>?_;obtain⟨i,c⟩:=Cu d;rw[IW]at c;have f:=CZ c;rw[BK]at f;rw[JO o!]at c;rw[j _ e c,G! (show a<=a+i by omega),G! (show a+i<b by omega)];simp
def AF5{a}{l}(h:VB a)(b:Dg l):RI (a,l)=D 0:=by obtain⟨v,c,rfl⟩:=HV h;obtain⟨w,d,rfl⟩:=KE b;grind[RI,p?,Bool.not_true]
def Xc(x:AV):Cp:=(x.1,(x.2.1,fA x))
def Hq(L:List EN)(n:Nat):List Cp:=(List.range n).map λ(i:Nat)=>Xc (st L i)
abbrev c!(s:W)(n:U)(L:List EN)(k:U):=(s,(n:W),Hq (L.take k) n)
theorem Iw(L:E EN)(n:U):(Hq L n).length=n:=by grind[Hq,List.length_map,List.length_range]
theorem rk{L}{n i:U}(h:i<n):(Hq L n)[i]?=D (Xc (st L i)):=by grind[Hq,List.getElem?_range]
theorem dJ{L}{n:U}{i:W}(a:0<=i)(h:i<n):ix (Hq L n) i=D (Xc (st L i)):=by have⟨v,c,b,_⟩:=AE (l:=Hq L n) a (by rw[Iw];exact h);grind[rk,Int.toNat_of_nonneg,Option.some.inj]
def AAQ(L:E EN)(n:U):Hq L (n+1)=Hq L n++[Xc (st L n)]:=by grind[Hq,List.range_succ]
theorem ADK{L}(h:GF L){p}{k}(a:(st (L.take k) p).2.1=0):st (L.take k) p=(p,0,F5.all (X,[])):=by rw[Kh]at a;exact(nS h (j:=k) (k:=0) (by rw[a];rfl)).trans rfl
def vI{L}(h:GF L)(a:Z L<=1099511627776){p:W}(b:0<=p/\p<64){k}:GU (fA (st (L.take k) p),p)=D (st (L.take k) p,0):=by grind[AFw,Xq,ADK,S0]
theorem qQ{L:List EN}(h:GF L)(l:L.length<=1099511627776){s:Int}{n k:Nat}(d:1<=s/\s<=1073741824)(hn:1<=n/\n<=64):LO (s,((n:Int),Hq (L.take k) n))=some true:=by
 suffices d:Ao (LO (s,((n:Int),Hq (L.take k) n))) λr=>r=true by obtain⟨r,hr,rfl⟩:=d;exact hr
 unfold LO;dsimp only;have c:len (Hq (L.take k) n)=n:=by grind[Iw]
 rw[decide_eq_false (by omega),cond_false,decide_eq_false (by omega),cond_false,decide_eq_false (by omega),cond_false,decide_eq_false (by omega),cond_false,c,decide_eq_false (by omega),cond_false];refine AA (P:=λr=>r= .inr ()) ?_ λr hr=>by rw[hr];exact Au (AB rfl)
 refine CE (λ(s:Int)=>0<=s/\s<=n) (λs=>((n:Int)-s).toNat) ⟨AY _,by omega⟩ (λi j=>?_);have⟨e,o⟩:=j;unfold fS;dsimp only;rw[c];refine AC (λa=>?_) (λ_=>Ao.done rfl);have f:Ao (some (Step.next (wi (i+1))):Option (Step Int (Bool ⊕ Unit))) (Kj (λ(s:Int)=>0<=s/\s<=n) (λs=>((n:Int)-s).toNat) ((n:Int)-i).toNat λr=>r= .inr ()):=by grind[AX,Ao.next]
 have g:(Xc (st (L.take k) i)).1=i:=S0 _ _;rw[dJ e a,AD,g,decide_eq_false (by omega),cond_false];have b:GU ((Xc (st (L.take k) i)).2.2,i)=some (st (L.take k) i,0):=vI h l ⟨e,by omega⟩;refine AC (λm=>?_) (λ_=>?_)
 ·rw[AX (by omega),dJ (by omega) (by omega),AD,show(Xc (st (L.take k) (i-1))).1=i-1 from S0 _ _,decide_eq_false (by omega),cond_false,b,AD];exact AK (λa=>absurd rfl a) (λ_=>AK (λa=>absurd rfl a) (λ_=>f))
 ·rw[b,AD];exact AK (λa=>absurd rfl a) (λ_=>AK (λa=>absurd rfl a) (λ_=>f))
theorem AIJ{L:List EN}(h:GF L)(a:L.length<=1099511627776){s:Int}{n k:Nat}(b:1<=s/\s<=1073741824)(hn:1<=n/\n<=64):XQ (s,((n:Int),Hq (L.take k) n))=some true:=by unfold XQ;rw[qQ h a b hn,AD,cond_true];dsimp only;rw[(by grind[Iw]:len (Hq (L.take k) n)=n),beq_self_eq_true]
theorem AFj{m:Nat}(h:m<=64):Jr (1,(m:Int))=some (1,((m:Int),Hq [] m)):=by
 suffices d:Ao (Jr (1,(m:Int))) λr=>r=(1,((m:Int),Hq [] m)) by obtain⟨r,hr,rfl⟩:=d;exact hr
 unfold Jr;refine AA (P:=λr=>r=(Hq [] m,(1,(m:Int)))) ?_ λr hr=>AB (by rw[hr]);refine CE (λ(t:Int×List Cp×Int×Int)=>0<=t.1/\t.1<=m/\t.2=(Hq [] t.1.toNat,(1,(m:Int)))) (λt=>((m:Int)-t.1).toNat) ⟨AY _,by dsimp only;omega,rfl⟩ ?_;rintro⟨i,t⟩ ⟨b,f,c⟩;dsimp only at b f c;subst c;unfold Up;dsimp only;refine AC (λa=>?_) (λa=>Ao.done ?_)
 ·rw[td,AD];refine AA (Ac (by rw[Iw];simp;omega)) λv e=>?_;rw[AX (by omega)];refine Ao.next ⟨by dsimp only;omega,by dsimp only;omega,?_⟩ (by dsimp only;omega)
  dsimp only;rw[e.1,show(i+1).toNat=i.toNat+1 by omega,AAQ,IU b];rfl
 ·rw[show i.toNat=m by omega]
def GF.nil:GF []:=λi e h=>by simp at h
theorem AE9{l:List Int}(h: ∀c∈l,0≤c∧c<256):Ao (bif (decide ((len l)>500))then
    Option.bind (WB l 0 500) λd=>
    some d
   else
   some l) λr=>CX (r,0):=by
 refine AC (λa=>?_) (λa=>AB ⟨AY _,by simp only[len]at a;dsimp only;omega,h⟩);simp only[len]at a;refine AA (Bs (by omega) (by omega) (by omega)) λd e=>AB ⟨AY _,by dsimp only;omega,λc b=>?_⟩;dsimp only at b;rw[e.1]at b;exact h c (RV (Fv b))
theorem o9{a:Type}{l r:List a}(h:r.Perm l):Nat.beq r.length l.length=true:=by rw[h.length_eq];exact HT _
theorem ABf{g v:Type}{c:g×g->Option v}{n:v->Bool}(y: ∀p,Ao (c p) λ_=>True){l:List g}{b:Nat}(w:b<=l.length)(K:l.length<=16777000):Ao (AFV c n l (0,(b:Int))) λr=>r.Perm l:=by
 unfold AFV;refine AA (P:=λr=>r.Perm l) ?_ λr hr=>AB hr;refine CE (λ(s:Int×List g)=>1<=s.1/\s.1<=b+1/\s.2.Perm l) (λs=>((b:Int)+1-s.1).toNat) ⟨by show 1<=wi (0+1);rw[AX (by omega)];decide,by show wi (0+1)<=_;rw[AX (by omega)];omega,qm _⟩ ?_;rintro⟨M,N⟩ ⟨B,C,h⟩;dsimp only at B C h;refine AC (λw=>?_) (λ_=>Ao.done h);have q:=h.length_eq;refine AA (P:=λr=>r.Perm l) ?_ λr hr=>?_
 ·refine CE (λ(t:Int×List g)=>0<=t.1/\t.1<l.length/\t.2.Perm l) (λt=>t.1.toNat) ⟨by dsimp only;omega,by dsimp only;omega,h⟩ ?_;rintro⟨e,j⟩ ⟨d,D_,i⟩;dsimp only at d D_ i;have O:=i.length_eq;unfold AIU;dsimp only;refine AA (P:=λr:Unit ⊕ Unit=>r= .inr ()->e>0) ?_ λr hr=>?_
  ·refine AC (λa=>?_) (λ_=>AB λA_=>by cases A_);rw[AX (x:=e-1) (by omega)];refine AA (AE d (by omega)) λQ _=>?_;refine AA (AE d (by omega)) λR _=>?_;refine AA (AE (by omega) (by omega)) λS _=>?_;refine AA (AE (by omega) (by omega)) λT _=>?_;refine AA (y _) λU _=>?_;exact AJ (λ_=>AB λ_=>a) (λ_=>AB λ_=>a)
  ·refine BE (λu _=>Ao.done i) (λu z=>?_);have a:=hr (by cases u;exact z);rw[AX (x:=e-1) (by omega)];refine AA (AE (by omega) (by omega)) λE _=>?_;refine AA (AE (by omega) (by omega)) λf k=>?_;refine AA (AE d (by omega)) λF _=>?_;refine AA (AE d (by omega)) λo m=>?_;refine AA (AE d (by omega)) λG _=>?_;refine AA (AE d (by omega)) λH _=>?_;have L:(FM j e f).length=j.length:=vX;refine AA (AE (by omega) (by omega)) λI _=>?_;refine AA (AE (by omega) (by omega)) λJ _=>?_;refine Ao.next ⟨by dsimp only;omega,by dsimp only;omega,?_⟩ (by dsimp only;omega)
   dsimp only;unfold FM;rw[(by have:=k.1;rw[Ar (by omega)]at this;exact(BL this).symm:f=j[(e-1).toNat]),(by have:=m.1;rw[Ar (by omega)]at this;exact(BL this).symm:o=j[e.toNat])];exact(List.set_set_perm (by omega) (by omega)).trans i
 ·grind[AX,Ao.next]
def AIb{a:Type}{f:E a->W×W->V (E a)}{l:E a}(d:Ao (f l (0,(Z l:W))) λr=>r.Perm l)(h:Z l<=12)(n:W):Ao (tU (λ(_:E a×(W×(W×W))->V (E a)) p=>pdG f p.1 p.2) (l,0,T l,n)) λr=>r.Perm l:=by
 have step:Ao (pdG f l (0,T l,n)) λr=>r.Perm l:=by unfold pdG;refine AA (P:=λr=>r.Perm l) ?_ λr hr=>AB hr;rw[Eh];unfold AKd;dsimp[T];rw[AX,G! o!,B!];have⟨r,hr,e⟩:=d;grind[p?,o9]
 have⟨r,hr,e⟩:=step;have⟨s,c⟩:=iu (f:=λ(_:E a×(W×(W×W))->V (E a)) p=>pdG f p.1 p.2) (x:=(l,0,T l,n)) (n:=1) hr;have⟨N,b⟩:=fF c;refine⟨s,c,?_⟩;cases N with
 |zero=>cases b
 |succ N=>exact step.get b
def AIf{a:Type}{f:E a->W×(W×W)->V (E a)}{l:E a}(b:∀n,Ao (f l (0,T l,n)) λr=>r.Perm l)(h:Z l<=12):Ao (soG f l) λr=>r.Perm l:=by unfold soG Kf;obtain⟨n,g,-,-⟩:=yC (x:=Z l) o!;grind[Xt,p?,AA,o9,AB]
def AIC{l:E W}(h:Z l<=12):Ao (Mf l ()) λr=>r.Perm l:=AIf (λn=>AIb (ABf (λp=>fO.mono λ_ _=>P!) (Am _) o!) h n) h
def ALC(p:Ai×Ai):Ao (Q5 p) λ_=>True:=by grind[Q5,AA,S5,AB]
def ALD(p:BP×BP):Ao (Q4 p) λ_=>True:=by grind[Q4,AA,S5,AB]
theorem AID{l:List Ai}(h:l.length<=12):Ao (Gm l ()) λr=>r.Perm l:=AIf (λn=>AIb (ABf ALC (Am _) (by omega)) h n) h
theorem AIF{l:List BP}(h:l.length<=12):Ao (ES l ()) λr=>r.Perm l:=by
 unfold ES;refine AA (P:=λr=>r.Perm l) ?_ λr hr=>by rw[o9 hr,cond_true];exact AB hr
 unfold JS;rw[Eh];unfold Mj;dsimp[len];rw[decide_eq_false (by omega),cond_false];dsimp[Option.bind];have⟨r,hr,b⟩:=ABf (n:=λa=>decide (a<0)) ALD (Am l.length) (by omega);grind[Ep,o9,Eh,Mk,AB]
theorem yx{a:AL}{r:Af}(h:BD a.2.1 a.1):Ao (Iu (a,r)) λk=>0<=k->a.1[k.toNat]? =some r.2.2.1:=by
 have b:=h.2.2.2.1;refine AA (P:=λq=> ∀k:Int,q= .inl k->a.1[k.toNat]? =some r.2.2.1) ?_ λq f=>?_
 ·refine CE (λ(s:Int)=>0<=s/\s<=a.1.length) (λs=>((a.1.length:Int)-s).toNat) ⟨AY _,by omega⟩ (λs c=>?_);have⟨g,i⟩:=c;unfold Kg;dsimp[len];refine AC (λe=>?_) (λ_=>Ao.done λk d=>by cases d);have hr:=lF h (Ar (by omega):a.1[s.toNat]? =some (a.1[s.toNat]'(by omega)));grind[Int.toNat_of_nonneg,AX,AT,Ao.done,Ao.next]
 ·grind[BE,AB]
def Good.refE{a}{f}{r}(h:Good a f r)(c:BD a.2.1 a.1):∃k:U,Gl (a,f)=D (r,(k:W))/\a.1[k]?=D r.2.2.1:=by have⟨e,g,i,b⟩:=h;have⟨k,k1,d,j⟩:=(AAm (r:=r) c).and (yx (r:=r) c);refine⟨ο k,?_,j (d.2 b)⟩;unfold Gl;rw[e,g,H!,A!,AB6 i,AD,show(((r,(0:W)):Af×W).2 !=0)=X from rfl,A!,k1,AD,IU (d.2 b)]
def Beh(a b:NE):Prop:=a.1.2.1<b.1.1
def Lt(a b:NE):Prop:=a.1.2.2.1<b.1.2.2.1\/(a.1.2.2.1=b.1.2.2.1/\Beh a b)
def tu{L}{x}(h:AR L x)(e:NE):e∈GP x↔∃f∈x.2.2.1,Good x f e.1/\e.2=f.2.1:=⟨λd=>by have⟨f,a,b,c,_⟩:=h.mem d;exact⟨f,a,b,c⟩,λ⟨f,a,b,c⟩=>by have:=gD h.vb.1 a b;rw[<-c]at this;exact this⟩
def sM{L}{x}(h:AR L x){e:NE}(a:e∈GP x):1<=e.1.1/\e.1.1<=e.1.2.1:=by have⟨f,_,g,_⟩:=h.mem a;have:=g.2.2.1.1;exact⟨this.1,this.2.1⟩
theorem ADW{s2:List Af×List Int×Int}{v4:Af×Int}(h:s2.1.length<=16777215):Ao (Ad (OE s2 v4) (len s2.1)) λr=>0<=r/\r<=s2.1.length/\(∀e∈s2.1.drop r.toNat,v4.1.1<=e.1)/\(0<r-> ∀e,s2.1[r.toNat-1]? =some e->e.1<=v4.1.1):=by
 refine CE (λ(s:Int)=>0<=s/\s<=s2.1.length/\ ∀e∈s2.1.drop s.toNat,v4.1.1<=e.1) (λ(s:Int)=>s.toNat) ⟨by unfold len;omega,by unfold len;omega,λe a=>by simp[len]at a⟩ (λs i=>?_);have⟨f,g,b⟩:=i;unfold OE;refine AC (λj=>?_) (λj=>Ao.done ⟨f,g,b,λl=>absurd l (by omega)⟩);rw[AX (by omega)];refine AA (AE (by omega) (by omega)) λm c=>AC (λk=>Ao.next ⟨by omega,by omega,λe a=>?_⟩ (by omega)) (λk=>Ao.done ⟨f,g,b,λ_ e a=>?_⟩)
 ·rw[show s.toNat=(s-1).toNat+1 by omega]at b;have d:=CZ c.1;rw[J4 d]at a;rcases A3.1 a with q|q
  ·have:=c.1;rw[Ar d]at this;grind[Option.some.inj]
  ·exact b e q
 ·have:=c.1;rw[show(s-1).toNat=s.toNat-1 by omega,a]at this;rw[BL this];omega
def W2(x:AL)(k:U)(s:E Af×E W×W):Prop:=0<=s.2.2/\s.2.2<=Z x.2.2.1/\∃M:E NE,s.1=M.map (·.1)/\s.2.1=M.map (·.2)/\Z M<=s.2.2/\M.Pairwise Beh/\∀e,e∈M↔(∃f∈x.2.2.1.take s.2.2.toNat,Good x f e.1/\e.2=f.2.1)/\x.1[k]?=D e.1.2.2.1
theorem ADV{x:AL}{L:List EN}{s1:Int×List Af×List Int×List Bool}(h:AR L x){k:Nat}(hp:s1.1=k):Ao (Ad (OD x s1) ([],([],0))) λr=> ∃M:List NE,r=(M.map (·.1),M.map (·.2))/\M.length<=256/\M.Pairwise Beh/\ ∀e,e∈M↔e∈GP x/\x.1[k]? =some e.1.2.2.1:=by
 obtain⟨⟨b1,b2,b3,b4,b5,b6,b7⟩,a1,a2,a3,a4,a5,a6⟩:=h.vb;refine CE (W2 x k) (λs=>((x.2.2.1.length:Int)-s.2.2).toNat) ⟨AY _,by dsimp only;omega,[],rfl,rfl,by simp,List.Pairwise.nil,λe=>by simp⟩ ?_;rintro⟨A_,B,i⟩ ⟨i1,i2,M,eA,eB,i4,W,X_⟩;dsimp only at i1 i2 eA eB i4 X_;subst eA eB;unfold OD;dsimp only[len];rw[AX (x:=i+1) (by omega)];refine AC (λhc=>?_) (λhc=>Ao.done ⟨M,rfl,by omega,W,λe=>by rw[X_ e,tu h,BG (by omega)]⟩);refine AA (AE i1 hc) λv3 P=>?_;have et:x.2.2.1.take (i+1).toNat=x.2.2.1.take i.toNat++[v3]:=by rw[show(i+1).toNat=i.toNat+1 by omega,CC,P.1];rfl
 have C:(∀e:NE,Good x v3 e.1->x.1[k]? ≠some e.1.2.2.1)->Ao (some (Step.next (M.map (·.1),(M.map (·.2),i+1))):Option (Step (List Af×List Int×Int) (List Af×List Int))) (Kj (W2 x k) (λs=>((x.2.2.1.length:Int)-s.2.2).toNat) ((x.2.2.1.length:Int)-i).toNat λr=> ∃M:List NE,r=(M.map (·.1),M.map (·.2))/\M.length<=256/\M.Pairwise Beh/\ ∀e,e∈M↔e∈GP x/\x.1[k]? =some e.1.2.2.1):=λhn=>by
  refine Ao.next ⟨by dsimp only;omega,by dsimp only;omega,M,rfl,rfl,by dsimp only;omega,W,λe=>?_⟩ (by dsimp only;omega)
  dsimp only;rw[X_ e,et];constructor
  ·rintro⟨⟨f,o,l⟩,m⟩;exact⟨⟨f,Al.2 (.inl o),l⟩,m⟩
  ·rintro⟨⟨f,o,l⟩,m⟩;rcases Al.1 o with q|q
   ·exact⟨⟨f,q,l⟩,m⟩
   ·rw[A7.1 q]at l;exact absurd m (hn e l.1)
 rcases h.files v3 P.2 with u|⟨r,D_,_⟩
 ·obtain⟨r,hr⟩:=u.ref (a:=x);rw[hr,AD];dsimp only;rw[show((-1:Int) !=s1.1)=true by rw[hp];exact bne_iff_ne.2 (by omega),cond_true];exact C λe v=>absurd v.2.1 (u.2 _ v.2.2.1.wr)
 obtain⟨kk,hr,F⟩:=D_.refE h.vb.1;rw[hr,AD];dsimp only;rw[hp];refine AK (λa8=>C λe v hk=>a8 ?_) (λT=>?_)
 ·have e1:=uu v.2.2.1 D_.2.2.1 (v.2.1.symm.trans D_.2.1);rw[e1]at hk;rw[h.vb.1.inj F hk]
 have T:kk=k:=by omega
 subst T;refine AA (ADW (s2:=(M.map (·.1),(M.map (·.2),i))) (v4:=(r,(kk:Int))) (by dsimp only;rw[BY];omega)) λc h7=>?_;obtain⟨Z,g2,g3,g4⟩:=h7;dsimp only at g2 g3 g4;rw[BY]at g2;have m1:(M.map (·.1)).length=M.length:=BY _;have m2:(M.map (·.2)).length=M.length:=BY _;refine AA (Bs (AY _) Z (by omega)) λv8 h8=>?_;refine AA (Bs Z (by omega) (by omega)) λv9 h9=>?_;have l8:=h8.2;have l9:=h9.2;refine AA (Ac (by simp;omega)) λb' H=>?_;have a':=H.2.1;simp only[CO]at a';refine AA (Ac (by simp;omega)) λca I=>?_;have bb:=I.2.1;simp only[CO,CY]at bb;refine AA (Ac (by omega)) λbt ar=>?_;refine AA (Bs (AY _) Z (by omega)) λbz J=>?_;have b8:=J.2;refine AA (AE i1 hc) λd ax=>?_;have al:d=v3:=by have:=ax.1;rw[P.1]at this;exact(BL this).symm
 subst al;refine AA (Bs Z (by omega) (by omega)) λbG K=>?_;have b9:=K.2;refine AA (Ac (by simp;omega)) λcb N=>?_;have bl:=N.2.1;simp only[CO]at bl;refine AA (Ac (by simp;omega)) λcc O=>?_;have bm:=O.2.1;simp only[CO,CY]at bm;refine AA (Ac (by omega)) λbN a0=>?_;have z: ∀{β:Type} (g:NE->β) (a b:List β),a=List.take (c.toNat-Int.toNat 0) (List.drop (Int.toNat 0) (M.map g))->b=List.take (((M.map g).length:Int).toNat-c.toNat) (List.drop c.toNat (M.map g))->a=(M.take c.toNat).map g/\b=(M.drop c.toNat).map g:=λg a b t u=>by
  refine⟨?_,?_⟩
  ·rw[t,List.map_take];rfl
  ·rw[u,oN];exact BG (by rw[Dr];omega)
 obtain⟨e8,e9⟩:=z (·.1) v8 v9 h8.1 h9.1;obtain⟨ag,ao⟩:=z (·.2) bz bG J.1 K.1;have ad:bt=(M.take c.toNat++(r,d.2.1)::M.drop c.toNat).map (·.1):=by rw[ar.1,I.1,H.1,e8,e9];simp
 have ap:bN=(M.take c.toNat++(r,d.2.1)::M.drop c.toNat).map (·.2):=by rw[a0.1,O.1,N.1,ag,ao];simp
 have y:=gD h.vb.1 P.2 D_;have U: ∀a∈M,a∈GP x/\a.1.2.2.1=r.2.2.1/\a≠(r,d.2.1):=λa t=>by
  obtain⟨⟨f,o,l,m⟩,G⟩:=(X_ a).1 t;refine⟨(tu h a).2 ⟨f,Fv o,l,m⟩,?_,λv=>?_⟩
  ·rw[F]at G;exact(BL G).symm
  ·obtain⟨j,p⟩:=Cu o;have E:=CZ p;rw[BK]at E;rw[JO (by omega),Ar (by omega)]at p;have Q:=P.1;rw[Ar (by omega)]at Q;have:=Ek.1 (xG h.vb) j i.toNat (by omega) (by omega) (by omega)
   rw[BL p,BL Q]at this;rw[v]at m;dsimp only at m;omega
 have S: ∀a∈M.take c.toNat,Beh a (r,d.2.1):=λa t=>by
  have a7:=Fv t;obtain⟨Y_,q2,q3⟩:=U a a7;have ra:=sM h Y_;have rr:=sM h y;obtain⟨j,p⟩:=Cu t;have E:=CZ p;rw[BK]at E;rw[JO (by omega)]at p;have n:M[c.toNat-1]? =some (M[c.toNat-1]'(by omega)):=Ar (by omega);have V:(M[c.toNat-1]'(by omega)).1.1<=r.1:=g4 (by omega) _ (by rw[B9,n];rfl);have b0:a.1.1<=r.1:=by
   by_cases v:j=c.toNat-1
   ·rw[v,n]at p;rw[<-BL p];exact V
   ·have:=Ek.1 W j (c.toNat-1) (by omega) (by omega) (by omega);rw[Ar (by omega)]at p;rw[BL p]at this;unfold Beh at this;omega
  rcases h.dis a Y_ _ y q3 q2 with w|w
  ·exact w
  ·dsimp only at w rr;omega
 have R: ∀b∈M.drop c.toNat,Beh (r,d.2.1) b:=λb u=>by
  obtain⟨Y_,q2,q3⟩:=U b (RV u);have rb:=sM h Y_;have rr:=sM h y;have V:=g3 b.1 (by rw[<-oN];exact T7 u);rcases h.dis _ y b Y_ (Pf q3) q2.symm with w|w
  ·exact w
  ·dsimp only at w rr;omega
 rw[ad,ap];refine Ao.next ⟨by dsimp only;omega,by dsimp only;omega,_,rfl,rfl,by simp[Ae,CY,BK,Dr];omega,?_,λe=>?_⟩ (by dsimp only;omega)
 ·rw[<-Cr c.toNat M]at W;obtain⟨p1,p2,p3⟩:=List.pairwise_append.1 W;refine List.pairwise_append.2 ⟨p1,List.pairwise_cons.2 ⟨R,p2⟩,λa t b u=>?_⟩;rcases A3.1 u with q|q
  ·rw[q];exact S a t
  ·exact p3 a t b q
 ·dsimp only;rw[et];have a9:e∈M.take c.toNat++(r,d.2.1)::M.drop c.toNat↔e∈M\/e=(r,d.2.1):=by
   conv=>rhs;rw[<-Cr c.toNat M]
   simp only[Al,A3];constructor
   ·rintro(q|q|q)
    ·exact .inl (.inl q)
    ·exact .inr q
    ·exact .inl (.inr q)
   ·rintro((q|q)|q)
    ·exact .inl q
    ·exact .inr (.inr q)
    ·exact .inr (.inl q)
  rw[a9,X_ e];constructor
  ·rintro(⟨⟨f,o,l⟩,m⟩|q)
   ·exact⟨⟨f,Al.2 (.inl o),l⟩,m⟩
   ·rw[q];exact⟨⟨d,Al.2 (.inr (A7.2 rfl)),D_,rfl⟩,F⟩
  ·rintro⟨⟨f,o,l,G⟩,m⟩;rcases Al.1 o with q|q
   ·exact .inl ⟨⟨f,q,l,G⟩,m⟩
   ·rw[A7.1 q]at l G;have e1:=uu l.2.2.1 D_.2.2.1 (l.2.1.symm.trans D_.2.1);exact .inr (Dh e1 G)
theorem ADX{M:List NE}{t:List Af×List Int×List Bool}(v:M.Pairwise Beh)(m: ∀e∈M,1<=e.1.1/\e.1.1<=e.1.2.1)(w:M.length<=256)(z:t.1.length<=100000)(A_:t.2.1.length<=100000)(B:t.2.2.length<=100000):Ao (Ad (OF (M.map (·.1),M.map (·.2))) (0,(0,t))) λr=>r=(t.1++M.map (·.1),(t.2.1++M.map (·.2),t.2.2++M.map λ_=>true)):=by
 have y:(M.map (·.1)).length=M.length:=BY _;refine CE (λ(s:Int×Int×List Af×List Int×List Bool)=> ∃k:Nat,s.2.1=k/\k<=M.length/\s.2.2=(t.1++(M.take k).map (·.1),(t.2.1++(M.take k).map (·.2),t.2.2++(M.take k).map λ_=>true))/\((k=0/\s.1=0)\/ ∃e,0<k/\M[k-1]? =some e/\s.1=e.1.2.1)) (λs=>((M.length:Int)-s.2.1).toNat) ⟨0,rfl,Bh _,by simp,.inl ⟨rfl,rfl⟩⟩ ?_;rintro⟨j,_,T⟩ ⟨k,rfl,k1,rfl,o⟩;dsimp only at o;unfold OF;dsimp[len];rw[AX (x:=(k:Int)+1) (by omega)];refine AC (λl=>?_) (λl=>Ao.done (by rw[BG (by omega)]));have a:k<M.length:=by omega
 have h:ix (M.map (·.1)) (k:Int)=some M[k].1:=by unfold ix;rw[if_pos (by omega),Int.toNat_natCast,List.getElem?_map,List.getElem?_eq_getElem a];rfl
 have i:ix (M.map (·.2)) (k:Int)=some M[k].2:=by unfold ix;rw[if_pos (by omega),Int.toNat_natCast,List.getElem?_map,List.getElem?_eq_getElem a];rfl
 have n:=m _ (Of a);have b:j<M[k].1.1:=by grind[List.pairwise_iff_getElem,List.getElem?_eq_getElem,Option.some.inj,Beh]
 have g:M.take (k+1)=M.take k++[M[k]]:=by grind[List.take_add_one,List.getElem?_eq_getElem]
 have l1:=gU k M;rw[h,AD,decide_eq_false (by omega),cond_false,AD,i,AD,AD];rw[show KV (M[k].1,j)=some M[k].1 by unfold KV;rw[decide_eq_true (by exact b)];rfl,Option.bind_some];refine AA (Ac (by simp;omega)) λp c=>?_;refine AA (Ac (by simp;omega)) λq d=>?_;refine AA (Ac (by simp;omega)) λu f=>?_;rw[AD];refine Ao.next ⟨k+1,rfl,a,?_,.inr ⟨M[k],by omega,Ar a,rfl⟩⟩ (by dsimp only;omega)
 dsimp only;rw[c.1,d.1,f.1,g,decide_eq_true (by exact b)];simp only[Gt,Bz,Hz,A5]
theorem AG0{x:AL}{L:List EN}(h:AR L x):Ao (Mc x) λr=> ∃W:List NE,r=(W.map (·.1),(W.map (·.2),W.map λ_=>true))/\W.Pairwise Lt/\ ∀e,e∈W↔e∈GP x:=by
 obtain⟨⟨G,H,I,J,K,N,O⟩,a1,a2,a3,a4,a5,a6⟩:=h.vb;unfold Mc;refine AA ND λS A_=>AP (λt=>absurd (A_.2 h.vb) (by simp[t])) (λ_=>?_);refine AA (P:=λr=> ∃W:List NE,r=(W.map (·.1),(W.map (·.2),W.map λ_=>true))/\W.Pairwise Lt/\ ∀e,e∈W↔e∈GP x) ?_ λr hr=>AB hr;refine CE (λ(s:Int×List Af×List Int×List Bool)=> ∃(i:Nat) (W:List NE),s.1=i/\i<=x.1.length/\s.2=(W.map (·.1),(W.map (·.2),W.map λ_=>true))/\W.length<=256*i/\W.Pairwise Lt/\ ∀e,e∈W↔e∈GP x/\ ∃k:Nat,k<i/\x.1[k]? =some e.1.2.2.1) (λs=>((x.1.length:Int)-s.1).toNat) ⟨0,[],rfl,Bh _,rfl,by simp,List.Pairwise.nil,λe=>by simp⟩ ?_;rintro⟨_,_⟩ ⟨i,W,rfl,Q,rfl,R,y,v⟩;unfold Tj;dsimp only[len];rw[AX (x:=(i:Int)+1) (by omega)];refine AC (λt=>?_) (λt=>Ao.done ⟨W,rfl,y,λe=>?_⟩)
 ·refine AA (ADV h rfl) λE l=>?_;obtain⟨M,rfl,B,z,j⟩:=l;refine AA (ADX z (λe u=>sM h ((j e).1 u).1) B (by rw[BY];omega) (by rw[BY];omega) (by rw[BY];omega)) λF m=>?_;refine Ao.next ⟨i+1,W++M,rfl,by omega,by rw[m];simp,by rw[Ae];omega,List.pairwise_append.2 ⟨y,?_,λa n b p=>?_⟩,λe=>?_⟩ (by dsimp only;omega)
  ·refine qj ?_ z;intro a b n p o;have w:=((j a).1 n).2;rw[((j b).1 p).2]at w;exact .inr ⟨(BL w).symm,o⟩
  ·obtain⟨_,k,k1,c⟩:=(v a).1 n;obtain⟨d,rfl⟩: ∃d,i=k+1+d:=⟨i-(k+1),by omega⟩
   exact .inl (h.vb.1.lt d k _ _ c ((j b).1 p).2)
  ·rw[Al,v e,j e];constructor
   ·rintro(⟨q,k,k1,c⟩|⟨C,D_⟩)
    ·exact⟨q,k,by omega,c⟩
    ·exact⟨C,i,by omega,D_⟩
   ·rintro⟨q,k,k1,c⟩;by_cases u:k=i
    ·rw[u]at c;exact .inr ⟨q,c⟩
    ·exact .inl ⟨q,k,by omega,c⟩
 ·rw[v e];refine⟨λq=>q.1,λq=>⟨q,?_⟩⟩;obtain⟨f,_,g,_⟩:=h.mem q;obtain⟨k,k1,_⟩:=g.2.2.2;have:=CZ k1;exact⟨k,by omega,k1⟩
def AEo{x}{L}(h:AR L x):Ao (Jw x) λr=>∃W:E NE,r=(W.map (·.1),W.map (·.2))/\W.Pairwise Lt/\Z W<=256/\∀e,e∈W↔e∈GP x:=by refine AA (AG0 h) λr hr=>?_;obtain⟨W,rfl,i,g⟩:=hr;refine AB ⟨W,rfl,i,?_,g⟩;have f:W.Nodup:=H7.2 (i.imp_of_mem λ{a b} j k c d=>by subst d;have:=sM h ((g a).1 j);rcases c with q|⟨_,q⟩;omega;unfold Beh at q;omega);have l:=uA W (GP x) f λe d=>(g e).1 d;have m:(GP x).length<=Z x.2.2.1:=List.length_filterMap_le _ _;have:=h.vb.2.2.2.2.2.1;omega
def Src(L:E EN)(p:W)(rs:E Af):Prop:=Z rs<=256/\∀r∈rs,VR r/\lG L r/\r.2.2.1<=p/\p<=r.2.2.2.1
def AH0{a:AL}{l:Aa}{p i j:W}:Ao (JD (a,l,p,i,j)) λr=>r=0->0<=p/\p<a.2.1/\0<=i/\i<=j:=by refine AA PD λk g=>AP (y? n!) (λ_=>AA BM λm h=>AP (y? n!) (λ_=>AC (y? n!) (λc=>AC (y? n!) (λd=>AC (y? n!) (λe=>AC (y? n!) (λf=>AB λ_=>?_))))));dsimp only at c d e f;omega
theorem AIv{a:AL}{p:Int}(h:VB a)(o:0<=p/\p<a.2.1):Ao (Rv (a,p)) λr=> ∃k:Nat,a.1[k]? =some r.1/\r.1<=p/\p<=ou a k:=by
 have i:=h.1.2.2.2.1;have w:=h.1.2.2.1;refine AA ND λB g=>AP (λc=>absurd (g.2 h) (by simp[c])) (λ_=>?_);dsimp only;rw[decide_eq_false (by omega),cond_false,decide_eq_false (by omega),cond_false];refine AA (P:=λk:Int=> ∃m:Nat,k=m/\ ∃b,a.1[m]? =some b/\b<=p/\p<=ou a m) ?_ λk n=>?_
 ·refine CE (λ(s:Int)=>0<=s/\s<a.1.length/\ ∃b,a.1[s.toNat]? =some b/\b<=p) (λs=>((a.1.length:Int)-s).toNat) ⟨AY _,by omega,0,h.1.2.2.2.2.1,o.1⟩ (λs j=>?_);have⟨x,y,b,e,f⟩:=j;unfold U5;dsimp[len];rw[AX (by omega)];refine AC (λc=>AA (AE (by omega) c) λv q=>?_) (λc=>Ao.done ⟨s.toNat,by omega,b,e,f,?_⟩)
  ·have u:(s+1).toNat=s.toNat+1:=by omega
   refine AC (λd=>Ao.next ⟨by omega,by omega,v,q.1,d⟩ (by omega)) (λl=>Ao.done ⟨s.toNat,by omega,b,e,f,?_⟩);grind[ou]
  ·grind[ou,List.getElem?_eq_none]
 ·obtain⟨m,rfl,b,t,z,A_⟩:=n;rw[lF h.1 t,AD];grind[AB]
def AHz{a}{l}{p i j:W}(c:VB a)(e:Dg l)(f:0<=p/\p<a.2.1)(d:0<=i)(b:i<=j):JD (a,l,p,i,j)=D 0:=by grind[Ao,JD,AA,ND,AP,BM,AB]
theorem wB{L:List EN}{a:AL}{l:Aa}{p:Int}(h:AR L a)(F:0<=p/\p<a.2.1):Ao (Jj (a,(l,p))) λr=> ∃(M:List NE) (v D_:Int),VN a p v D_/\r=(M.map (·.1),(M.map (·.2),l))/\M.Pairwise Beh/\(∀e,e∈M↔e∈GP a/\e.1.2.2.1=v)/\Src L p (M.map (·.1)):=by
 refine AA (AIv h.vb F) λc A_=>AA (AEo h) λv1 B=>?_;have⟨k,k1,t,u⟩:=A_;dsimp only at k1 t u;obtain⟨W,rfl,O,Q,w⟩:=B;have X_:(W.map (·.1)).length=W.length:=BY _;refine AA (P:=λr=>r=((W.filter λe=>e.1.2.2.1==c.1).map (·.1),((W.filter λe=>e.1.2.2.1==c.1).map (·.2),l))) ?_ λr hr=>AB ⟨W.filter λe=>e.1.2.2.1==c.1,c.1,ou a k,⟨k,k1,rfl,t,u⟩,hr,?_,?_,?_⟩
 ·refine CE (λ(s:Int×List Af×List Int×Aa)=> ∃k:Nat,s.1=k/\k<=W.length/\s.2=(((W.take k).filter λe=>e.1.2.2.1==c.1).map (·.1),(((W.take k).filter λe=>e.1.2.2.1==c.1).map (·.2),l))) (λs=>((W.length:Int)-s.1).toNat) ⟨0,rfl,Bh _,rfl⟩ ?_;rintro⟨_,_⟩ ⟨k,rfl,V,rfl⟩;unfold RE;dsimp[len];rw[AX (x:=(k:Int)+1) (by omega)];refine AC (λC=>?_) (λC=>Ao.done (by rw[BG (by omega)]));have d:k<W.length:=by omega
  have j:ix (W.map (·.1)) (k:Int)=some W[k].1:=by unfold ix;rw[if_pos (by omega),Int.toNat_natCast,List.getElem?_map,List.getElem?_eq_getElem d];rfl
  have m:ix (W.map (·.2)) (k:Int)=some W[k].2:=by unfold ix;rw[if_pos (by omega),Int.toNat_natCast,List.getElem?_map,List.getElem?_eq_getElem d];rfl
  have H:W.take (k+1)=W.take k++[W[k]]:=by grind[List.take_add_one,List.getElem?_eq_getElem]
  have Y_:=EV (λe:NE=>e.1.2.2.1==c.1) (W.take k);have Z:=gU k W;rw[j,AD];refine AA (P:=λr=>r=(((W.take (k+1)).filter λe=>e.1.2.2.1==c.1).map (·.1),(((W.take (k+1)).filter λe=>e.1.2.2.1==c.1).map (·.2),l))) (AT (λo=>?_) (λE=>AB ?_)) λr hr=>Ao.next ⟨k+1,rfl,d,hr⟩ (by dsimp only;omega)
  ·rw[AD,m,AD];refine AA (Ac (by simp;omega)) λv6 T=>AA (Ac (by simp;omega)) λv7 U=>AB ?_;grind
  ·grind
 ·refine(O.filter _).imp_of_mem ?_;intro x y I J n;have R:=eq_of_beq (BZ.1 I).2;have S:=eq_of_beq (BZ.1 J).2;rcases n with q|⟨_,q⟩
  ·omega
  ·exact q
 ·intro e;rw[BZ,w e,beq_iff_eq]
 ·refine⟨by rw[BY];exact Cs (EV _ _) Q,λq G=>?_⟩;obtain⟨e,o,rfl⟩:=Bo.1 G;have⟨K,N⟩:=BZ.1 o;have⟨f,_,g,_,z,_⟩:=h.mem ((w e).1 K);have i:=eq_of_beq N;have b:=g.2.2.2;rw[i]at b;have:=b.uniq h.vb.1 ⟨k,k1,rfl⟩;exact⟨g.2.2.1,z,by omega,by omega⟩
def WY(rs:E Af)(l:Aa)(m:W):Prop:=(∃r∈rs,r.1<=m/\m<=r.2.1)\/(l.1<=m/\m<=l.1+Z l.2.1-1)
def yi{l}{m:W}(h:Dg l):JC (l,m)=D (τ (l.1<=m/\m<=l.1+Z l.2.1-1)):=by have a:=h.1;have b:=h.2.1;have d:=h.2.2.1;unfold JC;dsimp[T];rw[AX];by_cases c:l.1<=m<;>grind
theorem AFo{L:List EN}{p m:Int}{a:List Af}{F:List Int}{l:Aa}(h:Src L p a)(y:Dg l)(hm:0<=m/\m<=2199023255552):Ao (Rw ((a,(F,l)),m)) λv=>m-1<=v/\v<=2199023255552/\(∀q,m<=q->q<=v->WY a l q)/\(v=m-1-> ¬WY a l m):=by
 have Z:=y.1;have h2:=y.2.1;have h3:=y.2.2.1;refine AA (P:=λv=>m-1<=v/\v<=2199023255552/\(∀q,m<=q->q<=v->WY a l q)/\ ∀r∈a,r.1<=m->m<=r.2.1->m<=v) ?_ λv5 N=>?_
 ·refine CE (λ(s:Int×Int)=>0<=s.2/\s.2<=a.length/\m-1<=s.1/\s.1<=2199023255552/\(∀q,m<=q->q<=s.1->WY a l q)/\ ∀r∈a.take s.2.toNat,r.1<=m->m<=r.2.1->m<=s.1) (λs=>((a.length:Int)-s.2).toNat) ⟨AY _,by dsimp only;omega,by dsimp only;rw[AX (by omega)];omega,by dsimp only;rw[AX (by omega)];omega,λq G f=>by dsimp only at f;rw[AX (by omega)]at f;omega,λr hr=>by simp at hr⟩ ?_;rintro⟨b,k⟩ ⟨z,T,j,n,o,E⟩;dsimp only at z T j n o E;have S:=h.1;unfold U7;dsimp[len];refine AC (λw=>?_) (λw=>Ao.done ⟨j,n,o,by rw[BG (by omega)]at E;exact E⟩);rw[AX (x:=k+1) (by omega)];refine AA (AE z w) λt e=>?_;have Y_:a.take (k+1).toNat=a.take k.toNat++[t]:=by rw[show(k+1).toNat=k.toNat+1 by omega,CC,e.1];rfl
  have hr:=(h.2 t e.2).1.1;have keep: ∀u,b<=u->(t.1<=m->m<=t.2.1->m<=u)-> ∀r∈a.take (k+1).toNat,r.1<=m->m<=r.2.1->m<=u:=λu hb D_ r R G f=>by grind[List.mem_singleton]
  refine AC (λQ=>?_) (λC=>Ao.next ⟨by dsimp only;omega,by dsimp only;omega,j,n,o,keep b (AY _) λq=>absurd q C⟩ (by dsimp only;omega));refine AA (AE z w) λH A_=>?_;have K:H=t:=by grind[Option.some.inj]
  subst K;refine AA (P:=λv=>m-1<=v/\v<=2199023255552/\(∀q,m<=q->q<=v->WY a l q)/\b<=v/\(m<=H.2.1->m<=v)) ?_ λX_ c=>Ao.next ⟨by dsimp only;omega,by dsimp only;omega,c.1,c.2.1,c.2.2.1,keep X_ c.2.2.2.1 λ_=>c.2.2.2.2⟩ (by dsimp only;omega)
  refine AC (λi=>AA (AE z w) λJ B=>AB ?_) (λi=>AB ⟨j,n,o,AY _,λq=>absurd q i⟩);have M:J=H:=by grind[Option.some.inj]
  subst M;have I:=hr.2.2.1;split
  ·exact⟨by omega,by omega,λq G f=>.inl ⟨J,e.2,by omega,f⟩,by omega,id⟩
  ·exact⟨j,n,o,AY _,λq=>by omega⟩
 ·rw[yi y,AD];dsimp[len];have⟨e,A_,B,c⟩:=N;refine AA (P:=λv=>m-1<=v/\v<=2199023255552/\(∀q,m<=q->q<=v->WY a l q)/\(v=m-1-> ¬WY a l m)) ?_ λv7 O=>AB O;refine AC (λg=>AB ?_) (λg=>AB ⟨e,A_,B,λD_ d=>?_⟩)
  ·rw[AX (x:=l.1+l.2.1.length) (by omega),AX (by omega)];split
   ·exact⟨by omega,by omega,λq G f=>.inr ⟨by omega,by omega⟩,λD_=>by omega⟩
   ·exact⟨e,A_,B,λD_=>by omega⟩
  ·rcases d with⟨r,U,V,W⟩|d
   ·have:=c r U V W;omega
   ·exact g d
def ADl{L}{p i j:W}{a}{c:E W}{l}(h:Src L p a)(t:Dg l)(n:0<=i)(o:j<=1099511627776)(k:i<=j):Ao (KW ((a,c,l),i,j)) λb=>b=Y↔∀q,i<q->q<=j->WY a l q:=by
 refine AA (P:=λr=>(r=.inl X/\∃q,i<q/\q<=j/\¬WY a l q)\/(r=.inr ()/\∀q,i<q->q<=j->WY a l q)) ?_ λr hr=>?_
 ·refine CE (λs=>i<=s/\s<=2199023255552/\∀q,i<q->q<=s->WY a l q) (λs=>(j-s).toNat) ⟨AY _,d!,λq d e=>by dsimp only at e;omega⟩ (λs f=>?_);have⟨u,v,m⟩:=f;unfold Lx;dsimp only;refine AC (λg=>?_) (λg=>k? (.inr ⟨rfl,λq d e=>m q d o!⟩));grind[AX,AA,AFo,AT,k?,y!]
 grind[BB,AB,Au]
def ACo{a:AL}{l}{d:W}{M:E NE}(h:∀e,e∈M↔e∈GP a/\e.1.2.2.1=d)(m:W):WY (M.map (·.1)) l m↔ka a l d m:=by constructor;rintro(⟨r,i,j⟩|q);obtain⟨e,g,rfl⟩:=Bo.1 i;have⟨b,c⟩:=(h e).1 g;exact .inr ⟨e,b,c,j⟩;exact .inl q;rintro(q|⟨e,b,c,f⟩);exact .inr q;exact .inl ⟨e.1,T7 ((h e).2 ⟨b,c⟩),f⟩
theorem AAw{r:Af}{p:Int}(h:VR r):Ao (P9 (r,p)) λv=>v=r.2.2.2.2.2.filter λe=>e.2.2.2.2.2.2.1.1==p:=by have m:=h.1.2.2.2.2.2.2.2.2;refine AA dP λn f=>AP (λa=>absurd (f.2 h) (by simp[a])) (λ_=>?_);refine AA (P:=λv=>v=r.2.2.2.2.2.filter λe=>e.2.2.2.2.2.2.1.1==p) ?_ λv j=>AB j;refine CE (λ(s:Int×List EN)=>0<=s.1/\s.1<=r.2.2.2.2.2.length/\s.2=(r.2.2.2.2.2.take s.1.toNat).filter λe=>e.2.2.2.2.2.2.1.1==p) (λs=>((r.2.2.2.2.2.length:Int)-s.1).toNat) ⟨AY _,by dsimp only;omega,by simp⟩ ?_;rintro⟨s,A_⟩ ⟨b,k,d⟩;dsimp only at b k d;unfold Sn;dsimp[len];refine AC (λa=>?_) (λa=>Ao.done (by rw[d,BG (by omega)]));refine AA (AE b a) λo g=>?_;have i:=nI (p:=λe:EN=>e.2.2.2.2.2.2.1.1==p) b g.1;have c:=pk (l:=r.2.2.2.2.2) (p:=λe:EN=>e.2.2.2.2.2.2.1.1==p) b;rw[<-d]at c;rw[AX (by omega)];grind[AA,Ao.next,AT,AE,Ac,AB,Option.some.inj]
theorem ABK{L:List EN}{p i j:Int}{f:List Af}(Z:Uq L)(h:Src L p f):Ao (Ji (f,(p,(i,j)))) λr=>r.length<=1048576/\ ∀y,y∈r↔ ∃q∈f,y∈q.2.2.2.2.2/\y.2.2.2.2.2.2.1.1=p/\i<y.1/\y.1<=j:=by
 have ad:=h.1;refine AA (P:=λr=>r.length<=1048576/\ ∀y,y∈r↔ ∃q∈f,y∈q.2.2.2.2.2/\y.2.2.2.2.2.2.1.1=p/\i<y.1/\y.1<=j) ?_ λr hr=>AB hr;refine CE (λ(s:List EN×Int)=>0<=s.2/\s.2<=f.length/\s.1.length<=4096*s.2/\ ∀y,y∈s.1↔ ∃q∈f.take s.2.toNat,y∈q.2.2.2.2.2/\y.2.2.2.2.2.2.1.1=p/\i<y.1/\y.1<=j) (λs=>((f.length:Int)-s.2).toNat) ⟨AY _,by dsimp only;omega,by simp,λy=>by simp⟩ ?_;rintro⟨A_,k⟩ ⟨Q,i1,i2,t⟩;dsimp only at Q i1 i2 t;unfold LG;dsimp[len];refine AC (λO=>?_) (λO=>Ao.done ⟨by omega,λy=>by rw[t y,BG (by omega)]⟩);refine AA (AE Q O) λC M=>?_;have⟨K,W,g3,g4⟩:=h.2 C M.2;have hl:=K.1.2.2.2.2.2.2.2.2;refine AA (AAw K) λc F=>?_;have J:=EV (λe:EN=>e.2.2.2.2.2.2.1.1==p) C.2.2.2.2.2;rw[<-F]at J;have G: ∀y∈A_,y∈L:=λy l=>by have⟨q,a,b,_⟩:=(t y).1 l;exact(((h.2 q (Fv a)).2.1.mem y).1 b).1
 have n: ∀y∈c,y∈L:=λy l=>by rw[F]at l;exact((W.mem y).1 (BZ.1 l).1).1
 refine AA (P:=λr=>r.length<=A_.length+c.length/\ ∀y,y∈r↔y∈A_\/(y∈c/\i<y.1/\y.1<=j)) ?_ λr hr=>?_
 ·refine CE (λ(s:List EN×Int)=>0<=s.2/\s.2<=c.length/\s.1.length<=A_.length+s.2/\ ∀y,y∈s.1↔y∈A_\/(y∈c.take s.2.toNat/\i<y.1/\y.1<=j)) (λs=>((c.length:Int)-s.2).toNat) ⟨AY _,by dsimp only;omega,by dsimp only;omega,λy=>by simp⟩ ?_;rintro⟨B,m⟩ ⟨u,j1,j2,v⟩;dsimp only at u j1 j2 v;unfold LH;dsimp[len];refine AC (λd=>?_) (λd=>Ao.done ⟨by omega,λy=>by rw[v y,BG (by omega)]⟩);refine AA (AE u d) λD_ o=>?_;rw[AX (x:=m+1) (by omega)];have E:c.take (m+1).toNat=c.take m.toNat++[D_]:=by rw[show(m+1).toNat=m.toNat+1 by omega,CC,o.1];rfl
  have g: ¬(i<D_.1/\D_.1<=j)-> ∀y,y∈B↔y∈A_\/(y∈c.take (m+1).toNat/\i<y.1/\y.1<=j):=λhn y=>by grind[List.mem_singleton]
  refine AC (λH=>?_) (λH=>Ao.next ⟨by dsimp only;omega,by dsimp only;omega,by dsimp only;omega,g λq=>by omega⟩ (by dsimp only;omega));refine AA (AE u d) λS X_=>?_;have U:S=D_:=by have:=X_.1;rw[o.1]at this;exact(BL this).symm
  subst U;refine AA (P:=λr=>r.length<=B.length+1/\ ∀y,y∈r↔y∈A_\/(y∈c.take (m+1).toNat/\i<y.1/\y.1<=j)) ?_ λr hr=>Ao.next ⟨by dsimp only;omega,by dsimp only;omega,by have:=hr.1;dsimp only;omega,hr.2⟩ (by dsimp only;omega)
  refine AC (λI=>?_) (λI=>AB ⟨by omega,g λq=>by omega⟩);refine AA (AE u d) λT Y_=>?_;have V:T=S:=by have:=Y_.1;rw[o.1]at this;exact(BL this).symm
  subst V;refine AA (uL Z (λy l=>?_) (n T o.2) (by omega)) λv7 N=>AB ⟨N.1,λy=>?_⟩
  ·rcases(v y).1 l with q|q
   ·exact G y q
   ·exact n y (Fv q.1)
  ·rw[N.2 y,v y,E,Al,A7];constructor
   ·rintro((q|⟨a,b⟩)|q)
    ·exact .inl q
    ·exact .inr ⟨.inl a,b⟩
    ·exact .inr ⟨.inr q,by rw[q];omega⟩
   ·rintro(q|⟨a|a,b⟩)
    ·exact .inl (.inl q)
    ·exact .inl (.inr ⟨a,b⟩)
    ·exact .inr a
 ·rw[AX (by omega)];refine Ao.next ⟨by dsimp only;omega,by dsimp only;omega,by have:=hr.1;dsimp only;omega,λy=>?_⟩ (by dsimp only;omega)
  dsimp only;have E:f.take (k+1).toNat=f.take k.toNat++[C]:=by rw[show(k+1).toNat=k.toNat+1 by omega,CC,M.1];rfl
  rw[hr.2 y,t y,E,F,BZ,beq_iff_eq];constructor
  ·rintro(⟨q,a,b⟩|⟨⟨a,b⟩,z⟩)
   ·exact⟨q,FA _ a,b⟩
   ·exact⟨C,La _ (A7.2 rfl),a,b,z⟩
  ·rintro⟨q,a,b,z,R⟩;rcases Al.1 a with w|w
   ·exact .inl ⟨q,w,b,z,R⟩
   ·rw[A7.1 w]at b;exact .inr ⟨⟨b,z⟩,R⟩
theorem AAZ{l:Aa}{p i j:Int}(h:Dg l):Ao (QC (l,(p,(i,j)))) λr=>r=l.2.1.filter (Ki p i j):=by
 have B:=h.2.2.1;refine AA (P:=λr=>r=l.2.1.filter (Ki p i j)) ?_ λr hr=>AB hr;refine CE (λ(q:Int×List EN)=>0<=q.1/\q.1<=l.2.1.length/\q.2=(l.2.1.take q.1.toNat).filter (Ki p i j)) (λq=>((l.2.1.length:Int)-q.1).toNat) ⟨AY _,by dsimp only;omega,by simp⟩ (λq y=>?_);have⟨n,C,o⟩:=y;unfold Sq;dsimp[len];refine AC (λt=>?_) (λt=>Ao.done (by rw[o,BG (by omega)]));refine AA (AE n t) λu v=>?_;have k:=nI (p:=Ki p i j) n v.1;have f:=pk (l:=l.2.1) (p:=Ki p i j) n;rw[<-o]at f;rw[AX (x:=q.1+1) (by omega)];have m:Ki p i j u=false->Ao (some (Step.next (q.1+1,q.2)):Option (Step (Int×List EN) (List EN))) (Kj (λ(q:Int×List EN)=>0<=q.1/\q.1<=l.2.1.length/\q.2=(l.2.1.take q.1.toNat).filter (Ki p i j)) (λq=>((l.2.1.length:Int)-q.1).toNat) ((l.2.1.length:Int)-q.1).toNat λr=>r=l.2.1.filter (Ki p i j)):=λz=>Ao.next ⟨by dsimp only;omega,by dsimp only;omega,by dsimp only;rw[k,z,o];simp⟩ (by dsimp only;omega)
 refine AA CD λs w=>?_;have e:ik u=s:=by grind[ik]
 refine AJ (λa=>?_) (λa=>m (by unfold Ki;rw[e,a];rfl));refine AT (λc=>?_) (λc=>m (by unfold Ki;rw[beq_eq_false_iff_ne.2 c];simp));refine AC (λb=>?_) (λb=>m (by unfold Ki;rw[decide_eq_false b];simp));refine AA (P:=λr=>r=(l.2.1.take (q.1+1).toNat).filter (Ki p i j)) ?_ λA_ d=>Ao.next ⟨by dsimp only;omega,by dsimp only;omega,d⟩ (by dsimp only;omega)
 refine AC (λg=>?_) (λg=>AB ?_)
 ·grind[AA,Ac,AB,Ki]
 ·grind[Ki]
theorem AFU{a:List Af}{m:Int}(h:a.length<=256):Ao (LJ (a,m)) λ_=>True:=by refine AA (P:=λ_=>True) ?_ λr _=>BE (λu _=>AB trivial) (λu _=>AB trivial);refine CE (λ(s:Int)=>0<=s/\s<=a.length) (λs=>((a.length:Int)-s).toNat) ⟨AY _,by omega⟩ (λs d=>?_);have⟨c,e⟩:=d;unfold M6;dsimp[len];refine AC (λb=>?_) (λ_=>Ao.done trivial);rw[AX (by omega)];refine AA (AE c b) λf _=>AC (λ_=>AA (AE c b) λg _=>AC (λ_=>Ao.done trivial) (λ_=>Ao.next ⟨by omega,by omega⟩ (by omega))) (λ_=>Ao.next ⟨by omega,by omega⟩ (by omega))
theorem AIT{l:List EN}{e:EN}(h:l.length<=16777216):Ao (Ib (l,e)) λ_=>True:=by refine AA (P:=λ_=>True) ?_ λr _=>BE (λu _=>AB trivial) (λu _=>AB trivial);refine CE (λ(s:Int)=>0<=s/\s<=l.length) (λs=>((l.length:Int)-s).toNat) ⟨AY _,by omega⟩ (λs a=>?_);have⟨c,d⟩:=a;unfold QB;dsimp[len];refine AC (λb=>?_) (λ_=>Ao.done trivial);rw[AX (by omega)];exact AA (AE c b) λf _=>AJ (λ_=>Ao.done trivial) (λ_=>Ao.next ⟨by omega,by omega⟩ (by omega))
theorem AGy{L A_ B:List EN}{m:List Af}{l:Aa}(Q:Uq L)(v:Dg l)(N: ∀y∈A_,y∈L)(O: ∀y∈B,y∈L)(q:m.length<=256)(K:A_.length<=1048576)(M:B.length<=4096):Ao (Md (m,(l,(A_,B)))) λr=>r.2=true->r.1.length<=1052672/\ ∀y,y∈r.1↔y∈A_\/y∈B:=by
 refine AA (Ac (by simp;omega)) λz p=>?_;have h:=p.1;rw[Cq]at h;dsimp only at h;subst z;refine AA (P:=λr=>(∃u,r= .inl u/\u.2=false)\/ ∃C,r= .inr C/\C.length<=A_.length+B.length/\ ∀y,y∈C↔y∈A_\/y∈B) ?_ λr hr=>?_
 ·refine CE (λ(s:List EN×Int)=>0<=s.2/\s.2<=B.length/\s.1.length<=A_.length+s.2/\ ∀y,y∈s.1↔y∈A_\/y∈B.take s.2.toNat) (λs=>((B.length:Int)-s.2).toNat) ⟨AY _,by dsimp only;omega,by dsimp only;omega,λy=>by simp⟩ ?_;rintro⟨C,k⟩ ⟨c,i,w,j⟩;dsimp only at c i w j;unfold OG;dsimp[len];refine AC (λa=>?_) (λa=>Ao.done (.inr ⟨C,rfl,by omega,λy=>by rw[j y,BG (by omega)]⟩));refine AA (AE c a) λG o=>AA (AFU q) λR _=>?_;rw[AX (x:=k+1) (by omega)];have J:B.take (k+1).toNat=B.take k.toNat++[G]:=by rw[show(k+1).toNat=k.toNat+1 by omega,CC,o.1];rfl
  have f: ∀d,B[k.toNat]? =some d/\d∈B->Ao (Option.bind (Ck (C,d)) λH=>some (Step.next (H.1,k+1)):Option (Step (List EN×Int) ((List EN×Bool)⊕ List EN))) (Kj (λ(s:List EN×Int)=>0<=s.2/\s.2<=B.length/\s.1.length<=A_.length+s.2/\ ∀y,y∈s.1↔y∈A_\/y∈B.take s.2.toNat) (λs=>((B.length:Int)-s.2).toNat) ((B.length:Int)-k).toNat λr=>(∃u,r= .inl u/\u.2=false)\/ ∃C,r= .inr C/\C.length<=A_.length+B.length/\ ∀y,y∈C↔y∈A_\/y∈B):=λd g=>by grind[Option.some.inj,AA,uL,List.mem_of_mem_take,Ao.next,List.mem_singleton]
  refine AC (λ_=>AA (AE c a) λS _=>AA (AIT (by omega)) λT _=>AP (λ_=>Ao.done (.inl ⟨_,rfl,rfl⟩)) (λ_=>AA (AE c a) λd g=>f d g)) (λ_=>AA (AE c a) λd g=>f d g)
 ·rcases hr with⟨u,rfl,b⟩|⟨C,rfl,I,n⟩
  ·exact BB (AB λe=>by rw[b]at e;cases e)
  ·refine Au (AA (P:=λr=> ∀u,r= .inl u->u.2=false) ?_ λr hr=>BE (λu b=>AB λe=>by rw[hr u b]at e;cases e) (λu b=>AB λ_=>⟨by dsimp only;omega,n⟩));refine CE (λ(s:Int)=>0<=s/\s<=A_.length) (λs=>((A_.length:Int)-s).toNat) ⟨AY _,by omega⟩ (λs t=>?_);have⟨c,i⟩:=t;unfold OH;dsimp[len];refine AC (λa=>?_) (λ_=>Ao.done λu b=>by cases b);rw[AX (by omega)];refine AA (AE c a) λD_ _=>?_;rw[yi v,AD];exact AC (λ_=>AA (AE c a) λE _=>AA (AIT (by omega)) λF _=>AP (λ_=>Ao.done λu b=>by cases b;rfl) (λ_=>Ao.next ⟨by omega,by omega⟩ (by omega))) (λ_=>Ao.next ⟨by omega,by omega⟩ (by omega))
theorem AIs{L:List EN}{a:AL}{l:Aa}{p i j:Int}(hN:GF L)(hA:AR L a)(t:QH L l)(hj:j<=1099511627776):Ao (Fg (a,(l,(p,(i,j))))) λr=>r.2=0->r.1=L.filter (Ki p i j):=by
 have I:=t.sorted;have hU:Uq L:=λx hx y G O=>V9 (by refine H7.2 ((RX).2 (I.imp λh=>?_));omega) hx G O;refine AA AH0 λv0 h0=>AK (λJ=>AB λo=>absurd o J) (λo=>?_);have⟨p0,p1,i0,ij⟩:=h0 o;refine AA (wB hA ⟨p0,p1⟩) λv1 h1=>?_;obtain⟨M,lo,hh,a0,rfl,ap,hM,B⟩:=h1;dsimp only at B;refine AA (ADl B t.vl i0 hj ij) λv2 h2=>AP (λ_=>AB λo=>absurd o (by decide)) (λN=>?_);have al:=h2.1 N;refine AA (ABK hU B) λv3 Z=>AA (AAZ t.vl) λv4 h4=>?_;have ad: ∀y∈v3,y∈L:=λy G=>by have⟨q,z,A_,_⟩:=(Z.2 y).1 G;exact(((B.2 q z).2.1.mem y).1 A_).1
 have ag: ∀y∈v4,y∈L:=λy G=>by rw[h4]at G;exact((t.tail y).1 (BZ.1 G).1).1
 have C:v4.length<=4096:=by rw[h4];exact Cs (EV _ _) t.vl.2.2.1
 refine AA (AGy hU t.vl ad ag B.1 Z.1 C) λc h5=>AP (λ_=>AB λo=>absurd o (by decide)) (λht=>?_);have⟨u1,u2⟩:=h5 ht;have w: ∀y,y∈c.1↔y∈L.filter (Ki p i j):=λy=>by
  rw[u2 y,Z.2 y,h4,BZ,BZ];constructor
  ·rintro(⟨q,z,A_,q3,q4,q5⟩|⟨z,A_⟩)
   ·have:=((B.2 q z).2.1.mem y).1 A_;refine⟨this.1,?_⟩;unfold Ki;rw[this.2.1,beq_iff_eq.2 q3,decide_eq_true (show y.1>i from q4),decide_eq_true q5];rfl
   ·exact⟨((t.tail y).1 z).1,A_⟩
  ·rintro⟨z,A_⟩;have hw:=A_;unfold Ki at hw;simp[BS,decide_eq_true_eq,beq_iff_eq]at hw;have⟨w1,w2,w3,w4⟩:=hw;rcases al y.1 w3 w4 with⟨r,V,r2,r3⟩|⟨V,r2⟩
   ·have⟨_,g2,g3,g4⟩:=B.2 r V;exact .inl ⟨r,V,(g2.mem y).2 ⟨z,w1,by omega,by omega,r2,r3⟩,w2,w3,w4⟩
   ·exact .inr ⟨(t.tail y).2 ⟨z,V,r2⟩,A_⟩
 refine AA (P:=λr=>(∀u,r= .inl u->u.2=13)/\(r= .inr ()-> ∀(k:Nat) (e f:EN),c.1[k]? =some e->c.1[k+1]? =some f->f.2.2.2.2.1=e.1)) ?_ λr hr=>BE (λu D_=>AB λo=>by rw[hr.1 u D_]at o;cases o) (λu D_=>AB λ_=>?_)
 ·refine CE (λ(s:Int)=>0<=s/\s<=c.1.length/\ ∀(k:Nat) (e f:EN),(k:Int)+1<s->c.1[k]? =some e->c.1[k+1]? =some f->f.2.2.2.2.1=e.1) (λs=>((c.1.length:Int)-s).toNat) ⟨AY _,by omega,λk e f n=>by omega⟩ (λs hI=>?_);have⟨s0,s1,s2⟩:=hI;unfold Qt;dsimp[len];have H: ∀u:List EN×Int,u=([],13)->(∀v,(Sum.inl u:(List EN×Int)⊕ Unit)= .inl v->v.2=13)/\((Sum.inl u:(List EN×Int)⊕ Unit)= .inr ()-> ∀(k:Nat) (e f:EN),c.1[k]? =some e->c.1[k+1]? =some f->f.2.2.2.2.1=e.1):=λu D_=>⟨λv hv=>by cases hv;rw[D_],λh=>by cases h⟩
  refine AC (λJ=>?_) (λJ=>Ao.done ⟨λu D_=>(by cases D_),λ_ k e f n g=>s2 k e f (by have:=CZ g;omega) n g⟩);rw[AX (x:=s+1) (by omega)];have S:0<s->Ao (Option.bind (ix c.1 s) λT=>Option.bind (ix c.1 (wi (s-1))) λU=>bif (T.2.2.2.2.1 !=U.1)then some (.done (.inl ([],13)))else some (.next (s+1)):Option (Step Int ((List EN×Int)⊕ Unit))) (Kj (λ(s:Int)=>0<=s/\s<=c.1.length/\ ∀(k:Nat) (e f:EN),(k:Int)+1<s->c.1[k]? =some e->c.1[k+1]? =some f->f.2.2.2.2.1=e.1) (λs=>((c.1.length:Int)-s).toNat) ((c.1.length:Int)-s).toNat λr=>(∀u,r= .inl u->u.2=13)/\(r= .inr ()-> ∀(k:Nat) (e f:EN),c.1[k]? =some e->c.1[k+1]? =some f->f.2.2.2.2.1=e.1)):=λF=>by
   rw[AX (by omega)];refine AA (AE s0 J) λT X_=>AA (AE (by omega) (by omega)) λU Y_=>AK (λ_=>Ao.done (H _ rfl)) (λO=>Ao.next ⟨by omega,by omega,λk e f n Q g=>?_⟩ (by omega));by_cases ao:(k:Int)+1<s
   ·exact s2 k e f ao Q g
   ·have ek:k+1=s.toNat:=by omega
    have W:(s-1).toNat=k:=by omega
    rw[ek,X_.1]at g;have:=Y_.1;rw[W,Q]at this;rw[<-BL g,BL this];exact O
  refine AT ?_ ?_<;>intro hs
  ·refine AA (AE s0 J) λv7 g7=>AC (λ_=>Ao.done (H _ rfl)) (λ_=>AC (λF=>absurd F (by omega)) (λ_=>Ao.next ⟨by omega,by omega,λk e f n=>by omega⟩ (by omega)))
  ·exact AC (λF=>S F) (λF=>absurd F (by omega))
 ·subst D_;dsimp only;have K:=hr.2 rfl;refine mc ?_ (I.filter _) w;have R: ∀e∈c.1,e.2.2.2.2.1<e.1:=λe O=>by have⟨k,n⟩:=HS.1 (BZ.1 ((w e).1 O)).1;exact(hN k e n).2.2.2.2.2.2.1
  have step: ∀(d k:Nat) (e f:EN),c.1[k]? =some e->c.1[k+1+d]? =some f->e.1<f.1:=by
   intro d;induction d with
   |zero=>intro k e f n E;have:=K k e f n E;have:=R f (BQ E);omega
   |succ d ih=>intro k e f n E;have ax:=CZ E;have hg:c.1[k+1+d]? =some (c.1[k+1+d]'(by omega)):=Ar (by omega);have a:=ih k e _ n hg;have b:=K (k+1+d) _ f hg E;have:=R f (BQ E);omega
  rw[Ek];intro k m n hm ar;obtain⟨d,rfl⟩: ∃d,m=k+1+d:=⟨m-(k+1),by omega⟩
  exact step d k _ _ (Ar n) (Ar hm)
theorem zY{x:AV}{a:List AI}(q:OKs x a)(d:a.length<=4096):NZ (x,a)=some (a.foldl upd x,0):=by
 suffices t:Ao (NZ (x,a)) λr=>r=(a.foldl upd x,0) by obtain⟨r,hr,rfl⟩:=t;exact hr
 generalize v:a.foldl upd x=y;refine AA (P:=λr=> ∃z,r= .inr (y,z)) ?_ λr hr=>?_
 ·refine CE (λ(s:Int×AV×AV)=> ∃A_ B,a=A_++B/\s.1=A_.length/\OKs s.2.1 B/\B.foldl upd s.2.1=y) (λ(s:Int×AV×AV)=>((a.length:Int)-s.1).toNat) ⟨[],a,rfl,rfl,q,v⟩ ?_;rintro⟨i,x,z⟩ ⟨A_,B,rfl,g,h,c⟩;dsimp only at g h c;subst g;unfold VC;dsimp[len];rw[Ae]at d;refine AC (λb=>?_) (λb=>Ao.done ?_)
  ·obtain _|⟨e,B⟩:=B
   ·simp at b
   have u:ix (A_++e::B) (A_.length:Int)=some e:=by unfold ix;rw[if_pos (by omega),C5,Cm (Am _),Gw];rfl
   have⟨⟨j,f,k,l,m,n⟩,o⟩:=h;have p:e.2.2.2.2.1<e.1:=f.2.2.2.2.2.1;rw[u,AD,decide_eq_false (by omega),cond_false,AD,ACS j f k l m n,AD,AX (x:=(A_.length:Int)+1) (by omega)];refine AK (λb=>absurd rfl b) (λ_=>Ao.next ⟨A_++[e],B,by simp,by simp,o,c⟩ (by dsimp only;omega))
  ·obtain _|⟨e,B⟩:=B
   ·exact⟨z,by rw[<-c];rfl⟩
   ·simp at b;omega
 ·grind[Au,AB]
def AEm{n}{L}{a}{l}{p:W}{j k:U}(t:LI n L)(b:GF L)(h:AR L a)(f:QH L l)(e:j<=k)(v:k<=Z L)(m:0<=p/\p<a.2.1)(d:p<64):Ao (Hm (st (L.take j) p,a,l,(k:W))) λr=>r.2=0->r.1=st (L.take k) p:=by have i:=f.len;have w:=T1 b p j;have u:=WA (b.take j) p;rw[BK]at u;refine AA ND λx o=>AP (λc=>O! (o.2 h.vb) (by simp[c])) (λ_=>AA BM λy q=>AP (λc=>O! (q.2 f.vl) (by simp[c])) (λ_=>?_));rw[Y3 ((Xq b ⟨m.1,d⟩ (by omega:Z L<=1099511627776)) j),AD];refine AK (O! rfl ·) (λ_=>?_);dsimp only;rw[Kh,S0,F! o!,A!];refine AA (AIs b h f o!) λz s=>AK (λc=>AB λg=>O! g c) (λg=>?_);rw[s g,show BW (L.take j) p=(((BW (L.take j) p).toNat:U):W) by omega,zL b o!,nG b (j:=j) o! (XH b),zY (vf b t ⟨m.1,d⟩ o! j k e) (by have:=EV (cI p) ((L.take k).drop j);rw[Dr,BK]at this;omega),<-jr e,AD];exact AB λ_=>rfl
def AIA{A t:Bc}{b:UInt8}:six (A++b::t) (Z A:W)=D (b.toNat:W):=by grind[six]
def AHx{x}(h:HP x):Ao (Ad (Gq (IB x)) (0,(x.1,x.2.1,F5.all (X,[])),0,0,F5.all (X,[]))) λr=>∃z,r=.inr (x,z):=by
 have y:=fB h;refine CE (λs=>0<=s.1/\s.1<=16/\s.2.1.1=x.1/\s.2.1.2.1=x.2.1/\∀j:Fin 16,s.2.1.2.2 j=if(j.val:W)<s.1 then x.2.2 j else(X,[])) (λs=>(16-s.1).toNat) ⟨AY _,u!,rfl,rfl,λj=>by rw[D! d!];rfl⟩ ?_;rintro⟨i,⟨p,n,a⟩,z⟩ ⟨l,J,C,hn,g⟩;dsimp only at l J C hn g;subst C hn;unfold Gq;dsimp only;refine AC (λk=>?_) (λk=>k? ⟨z,?_⟩)
 ·rw[AX (x:=i*13),AX (x:=12+i*13),AX (x:=12+i*13+1),AX (x:=i+1)];have⟨N,D_⟩:=oA (a:=x.2.2) (i:=i.toNat) o!;have⟨A_,r,t,M⟩:=xE h (i:=i.toNat) o!;have b:=h.cl i.toNat
  generalize G:cl x.2.2 i.toNat=c at*;have B:Z A_+(13+Z r)=256:=by have:=y;rw[t,Ae,Ae,eu b.1]at this;exact this
  have f:six (IB x) (12+i*13)=D (if c.1=Y then(Z c.2:W)else 255):=by have q:=b.1;have e:Xb c=UInt8.ofNat ((if c.1=Y then(Z c.2:W)else 255)%256).toNat::(c.2++lA (12-Z c.2)):=rfl;rw[t,show(12+i*13:W)=(Z A_:W) by omega,e,dS,AIA,UInt8.toNat_ofNat'];apply E! D;split<;>omega
  rw[f,AD];have E:∀m:F5 16 Co,(∀j:Fin 16,m j=if(j.val:W)<i+1 then x.2.2 j else(X,[]))->Ao (D (Step.next (i+1,(x.1,x.2.1,m),z)):V (Step (W×AV×AV) ((W×AV)⊕(AV×AV)))) (Kj (λs=>0<=s.1/\s.1<=16/\s.2.1.1=x.1/\s.2.1.2.1=x.2.1/\∀j:Fin 16,s.2.1.2.2 j=if(j.val:W)<s.1 then x.2.2 j else(X,[])) (λs=>(16-s.1).toNat) (16-i).toNat λr=>∃z,r=.inr (x,z)):=λm o=>y! ⟨d!,d!,rfl,rfl,o⟩ d!
  by_cases d:c.1=Y;have q:=b.1;rw[C! d,AX (x:=(Z c.2:W)),beq_eq_false_iff_ne.2 o!,A!,F! o!,A!,AX];have⟨s,I,u⟩:=Cj (s:=IB x) (lo:=12+i*13+1) (hi:=12+i*13+1+(Z c.2:W)) o! o! (by rw[y];omega);have w:s=c.2:=by
   rw[u.1,t];have K:(12+i*13+1).toNat=Z A_+1:=o!
   have L:(12+i*13+1+(Z c.2:W)).toNat-(12+i*13+1).toNat=Z c.2:=o!
   grind[List.drop_drop,List.drop_left,Xb,t?,List.drop_left',A0,List.take_left]
  rw[I,w,AD];have⟨v,F,_⟩:=Ca (a:=a) l k;rw[F,AD,AD];exact E _ (ACc g ⟨l,k⟩ λH=>D_.symm.trans (Dh d rfl));rw[D! d,AX,beq_iff_eq.2 rfl,B!];exact E _ (zm g ⟨l,k⟩ λH=>D_.symm.trans (Dh (by simpa using d) (b.2.resolve_left d)))
 refine E! Sum.inr (Dh (Dh rfl (Dh rfl (funext λj=>?_))) rfl);exact(g j).trans (C! o!)
def zB{a t:Bc}{n k:W}(h:(Z a:W)+Z t<=2199023255552)(b:1<=k)(d:k<=8)(e:k<=Z t)(g:t.take (ο k)=DE n (ο k))(hn:0<=n)(f:n<256^ο k)(c:n<9223372036854775808):Ay (a++t,(Z a:W),k)=D (n,0):=by grind[lD,ACA]
theorem AEC{x}(h:HP x)(hn:x.2.1≠0):EZ (IB x)=D (x,0):=by
 have b:=fB h;have A_:=h.2.1;have B:=h.2.2.2.1;unfold EZ;have⟨y,e,m⟩:=Cj (s:=IB x) (lo:=0) (hi:=8) g! g! (by rw[b];decide);have⟨u,f,o⟩:=Cj (s:=IB x) (lo:=248) (hi:=256) g! g! (by rw[b];decide);have⟨w,g,p⟩:=Cj (s:=IB x) (lo:=0) (hi:=244) g! g! (by rw[b];decide);have q:u=DE x.2.1 8:=by rw[o.1];show List.take 8 (List.drop 248 (IB x))=_;rw[pj h,BG (by rw[A0];exact Am _)]
 have r:w=Ld x:=p.1.trans (by show List.take 244 (IB x)=_;unfold IB;exact El (G4 h));have c:=im (Ld x);have i:Ay (IB x,244,4)=D (W8 (Ld x),0):=by have:=zB (a:=Ld x) (t:=DE (W8 (Ld x)) 4++DE x.2.1 8) (n:=W8 (Ld x)) (k:=4) (by simp only[Ae,A0,G4 h];decide) g! g! (by simp only[Ae,A0];decide) (El (A0 _ _)) o! (by simp[Int.reduceToNat];omega) o!;rw[G4 h]at this;exact this
 have j:Ay (IB x,8,4)=D (x.1,0):=by have:=zB (a:=DE x.2.1 8) (t:=DE x.1 4++(Pq x.2.2 16++(lA 24++(DE (W8 (Ld x)) 4++DE x.2.1 8)))) (n:=x.1) (k:=4) (by simp only[Ae,A0,JP h,lA,GH];omega) g! g! (by simp[Ae,A0];omega) (by exact El (A0 _ _)) h.1 (by simp[Int.reduceToNat];omega) o!;grind[A0,IB,Ld,t?]
 have l:Ay (IB x,0,8)=D (x.2.1,0):=zB (a:=[]) (t:=IB x) (n:=x.2.1) (k:=8) (by rw[b];decide) g! g! (by rw[b];decide) Vi h.2.2.1 (by simp[Int.reduceToNat];omega) o!;obtain⟨v,d,z,rfl⟩:=AHx h;rw[(by simp[T];omega:T (IB x)=256),H!,A!,td,AD,beq_eq_false_iff_ne.2 (ACr h hn),A!,e,AD,f,AD,m.1.trans Vi,q,H!,A!,i,AD,g,AD,r,yG (by rw[G4 h];decide),AD,show ι .u32 (W8 (Ld x))=W8 (Ld x) by rw[xz];omega,H!,A!,l,AD,j,AD,d,AD,oV,Y3 h,AD,H!,H!];rfl
theorem AF8{x}(h:HP x)(a:x.2.1=0->x=(x.1,0,F5.all (X,[]))):Ch (fA x,x.1)=D (x,0):=by have b:=h.1;have c:=h.2.1;unfold Ch fA;dsimp only;rw[F! o!,A!,F! o!,A!];by_cases hn:x.2.1=0;rw[C! hn];rw[(by grind[EZ,lA,List.length_replicate,td,p?]:EZ (lA 256)=D ((0,0,F5.all (X,[])),7)),AD];exact E! (λq=>D (q,(0:W))) (a hn).symm;grind[AEC,p?]
def sK{L}(h:GF L)(a:Z L<=1099511627776){p:W}(b:0<=p/\p<64){k}:Ch (fA (st (L.take k) p),p)=D (st (L.take k) p,0):=by grind[AF8,Xq,ADK,S0]
def AKr{A p R:Bc}(h:(Z A:W)+Z p+Z R<=1099511627776)(a:Z p<=8392):Bd (A++(HD p++R),(Z A:W))=D (p,(Z A:W)+8+Z p,0):=by grind[Pb,n?,EA,bM]
theorem mP(L:E EN)(n:U):T (Hq L n)=n:=by grind[Iw]
theorem qV{L:List EN}(h:GF L)(j:L.length<=1099511627776){s:Int}{n k:Nat}(c:1<=s/\s<=1073741824)(hn:1<=n/\n<=64):EJ (s,((n:Int),Hq (L.take k) n))=some true:=by
 suffices c:Ao (EJ (s,((n:Int),Hq (L.take k) n))) λr=>r=true by obtain⟨r,hr,rfl⟩:=c;exact hr
 unfold EJ;dsimp only;rw[decide_eq_false (by omega),cond_false,decide_eq_false (by omega),cond_false,decide_eq_false (by omega),cond_false,decide_eq_false (by omega),cond_false];refine AA (P:=λr=>r= .inr ()) ?_ λr hr=>by rw[hr];exact Au (AB rfl)
 refine CE (λ(s:Int)=>0<=s/\s<=n) (λs=>((n:Int)-s).toNat) ⟨AY _,by omega⟩ (λi g=>?_);have⟨d,m⟩:=g;unfold Tk;dsimp only;rw[mP];refine AC (λa=>?_) (λ_=>Ao.done rfl);have e:Ao (some (Step.next (wi (i+1))):Option (Step Int (Bool ⊕ Unit))) (Kj (λ(s:Int)=>0<=s/\s<=n) (λs=>((n:Int)-s).toNat) ((n:Int)-i).toNat λr=>r= .inr ()):=by grind[AX,Ao.next]
 have f:(Xc (st (L.take k) i)).1=i:=S0 _ _;rw[dJ d a,AD,f,decide_eq_false (by omega),cond_false,decide_eq_false (by omega),cond_false];have b:Ch ((Xc (st (L.take k) i)).2.2,i)=some (st (L.take k) i,0):=sK h j ⟨d,by omega⟩;refine AC (λl=>?_) (λ_=>?_)
 ·rw[AX (by omega),dJ (by omega) (by omega),AD,show(Xc (st (L.take k) (i-1))).1=i-1 from S0 _ _,decide_eq_false (by omega),cond_false,b,AD];exact AK (λa=>absurd rfl a) (λ_=>AK (λa=>absurd rfl a) (λ_=>e))
 ·rw[b,AD];exact AK (λa=>absurd rfl a) (λ_=>AK (λa=>absurd rfl a) (λ_=>e))
def ADM{L}(h:GF L)(a:Z L<=1099511627776){s:W}{n k:U}(b:1<=s/\s<=1073741824)(hn:1<=n/\n<=64):JE (c! s n L k)=D Y:=by grind[JE,qV,p?,mP]
def ABY{L}(h:GF L)(d:Z L<=1099511627776){s i:W}{n k:U}(e:1<=s/\s<=1073741824)(hn:1<=n/\n<=64)(c:0<=i/\i<n):GO ((c! s n L k),i)=D (Xc (st (L.take k) i),Y):=by
 suffices a:Ao (GO ((c! s n L k),i)) λr=>r=(Xc (st (L.take k) i),Y) by obtain⟨r,hr,rfl⟩:=a;exact hr
 refine AA (P:=λr=>r=.inl (Y,Xc (st (L.take k) i))) ?_ λr hr=>by rw[hr];exact BB (AB rfl)
 refine CE (λt=>0<=t.1/\t.1<=i) (λt=>(i-t.1).toNat) ⟨AY _,c.1⟩ ?_;rintro⟨t,z⟩ ⟨b,f⟩;dsimp only at b f;unfold U8;dsimp only;rw[mP,G! o!,B!,qV h d e hn,AD,B!,dJ b o!,AD,show(Xc (st (L.take k) t)).1=t from S0 _ _];grind[AT,p?,k?,AX,y!]
def AF1{L}(h:GF L)(a:Z L<=1099511627776){s i:W}{n k:U}(c:1<=s/\s<=1073741824)(hn:1<=n/\n<=64)(b:0<=i/\i<n):Jx ((c! s n L k),i)=D (st (L.take k) i,0):=by unfold Jx;dsimp only;rw[qV h a c hn,AD,Ce,A!,ABY h a c hn b,AD];dsimp only;rw[Ce,A!,show Ch ((Xc (st (L.take k) i)).2.2,i)=D (st (L.take k) i,0)from sK h a ⟨b.1,o!⟩];rfl
theorem AEg{n:Int}{L:List EN}{a:AL}{l:Aa}{y s:Int}{m j k:Nat}(K:LI n L)(e:GF L)(B:AR L a)(q:QH L l)(f:j<=k)(M:k<=L.length)(U:(m:Int)=a.2.1)(hn:1<=m/\m<=64)(A_:1<=y/\y<=1073741824):Ao (NY ((y,((m:Int),Hq (L.take j) m)),(a,(l,(s,(k:Int)))))) λr=>r.2=0->1<=s/\s<=1073741824/\r.1=(s,((m:Int),Hq (L.take k) m)):=by
 have C:=q.len;have N:=λp h=>Xq e (p:=p) h (by omega:L.length<=1099511627776);unfold NY;rw[ADM e (by omega) A_ hn,AD,Ce,cond_false];refine AA ND λV o=>AP (λd=>absurd (o.2 B.vb) (by simp[d])) (λ_=>?_);refine AA BM λW G=>AP (λd=>absurd (G.2 q.vl) (by simp[d])) (λ_=>?_);dsimp only;refine AC (λ_=>AB λc=>absurd c (by decide)) (λQ=>AC (λ_=>AB λc=>absurd c (by decide)) (λR=>AC (λ_=>AB λc=>absurd c (by decide)) (λS=>AC (λ_=>AB λc=>absurd c (by decide)) (λT=>?_))));refine AA (P:=λr=>(∀u,r= .inl u->u.1≠0)/\ ∀u,r= .inr u->(u.1,(u.2.1,u.2.2.1))=(Hq (L.take k) m,(s,(m:Int)))) ?_ λr hr=>BE (λu b=>AB λc=>absurd c (hr.1 u b)) (λu b=>AB λ_=>⟨by omega,by omega,?_⟩)
 ·refine CE (λ(t:Int×List Cp×Int×Int×Ai)=>0<=t.1/\t.1<=m/\ ∃z,t.2=(Hq (L.take k) t.1.toNat,(s,((m:Int),z)))) (λt=>((m:Int)-t.1).toNat) ⟨AY _,by dsimp only;omega,_,rfl⟩ ?_;rintro⟨i,t⟩ ⟨g,O,z,D_⟩;dsimp only at g O D_;subst D_;unfold U9;dsimp only;rw[mP];refine AC (λd=>?_) (λd=>Ao.done ⟨λu b=>(by cases b),λu b=>(by cases b;rw[show i.toNat=m by omega])⟩);have F:(Xc (st (L.take j) i)).1=i:=S0 _ _;rw[dJ g d,AD,F,AF1 e (by omega) A_ hn ⟨g,d⟩,AD];refine AA (AEm K e B q f M ⟨g,by omega⟩ (by omega)) λX_ H=>AK (λd=>Ao.done ⟨λu b=>(by cases b;exact d),λu b=>(by cases b)⟩) (λc=>?_);rw[H c];refine AA (P:=λv=>v=Xc (st (L.take k) i)) ?_ λY_ I=>AA (Ac (by rw[Iw];simp;omega)) λZ J=>?_
  ·refine AC (λh=>?_) (λh=>AB ?_)
   ·grind[Y3,AB,Xc,fA]
   ·rw[Kh]at h;have w:=SN e i j k f;have x:=T1 e i j;grind[nS]
  ·rw[AX (by omega)];refine Ao.next ⟨by dsimp only;omega,by dsimp only;omega,z,?_⟩ (by dsimp only;omega)
   dsimp only;rw[J.1,I,show(i+1).toNat=i.toNat+1 by omega,AAQ,IU g]
 ·have:=hr.2 u b;dsimp only;have w:=congrArg (·.1) this;have x:=congrArg (·.2.1) this;have E:=congrArg (·.2.2) this;dsimp only at w x E;rw[w,x,E]
def qX(c:Cp):Bc:=DE c.1 2++c.2.2
def tW(cs:E Cp):Bc:=cs.flatMap λc=>HD (qX c)
def oD(x:Ai):Bc:=[80,77,73,77]++(DE x.1 4++(DE x.2.1 2++DE (Z x.2.2:W) 2))
def encI(x:Ai):Bc:=HD (oD x)++tW x.2.2
def ti(x:Ai):(oD x).length=12:=by grind[oD,n?,A0,List.length_cons,List.length_nil]
theorem pZ{x}(h:HP x):(fA x).length=256:=by grind[fA,lA,List.length_replicate,fB]
def yU{L}(h:GF L)(b:Z L<=1099511627776){k n:U}(hn:n<=64){c:Cp}(a:c∈Hq (L.take k) n):(qX c).length=258:=by grind[List.mem_iff_getElem?,CZ,Iw,rk,Option.some.inj,qX,Xc,n?,A0,pZ,Xq]
theorem iv{a:E Cp}(h:∀c∈a,(qX c).length=258):(tW a).length=266*Z a:=by induction a<;>grind[tW,HD,qX,n?,EA,List.length_cons]
theorem ABA{L:List EN}(h:GF L)(m:L.length<=1099511627776){s:Int}{n k:Nat}(y:1<=s/\s<=1073741824)(hn:1<=n/\n<=64):IQ (s,((n:Int),Hq (L.take k) n))=some (encI (s,((n:Int),Hq (L.take k) n)),0):=by
 suffices o:Ao (IQ (s,((n:Int),Hq (L.take k) n))) λr=>r=(encI (s,((n:Int),Hq (L.take k) n)),0) by obtain⟨r,hr,rfl⟩:=o;exact hr
 have j: ∀c∈Hq (L.take k) n,(qX c).length=258:=λc d=>yU h m hn.2 d;unfold IQ;rw[qV h m y hn,AD,Ce,cond_false];refine AA (pD (by simp) (by decide)) λE q=>AA (pD (by rw[q];simp[A0]) (by decide)) λF w=>AA (pD (by rw[w,q];simp[A0]) (by decide)) λB D_=>?_;rw[(by grind[oD,List.append_assoc,Int.reduceToNat]:B=oD (s,((n:Int),Hq (L.take k) n))),Y4 (by rw[ti];decide),AD];refine AA (P:=λr=>r=encI (s,((n:Int),Hq (L.take k) n))) ?_ λr hr=>AB (by rw[hr]);refine CE (λ(t:Bc×Int)=>0<=t.2/\t.2<=n/\t.1=HD (oD (s,((n:Int),Hq (L.take k) n)))++tW ((Hq (L.take k) n).take t.2.toNat)) (λt=>((n:Int)-t.2).toNat) ⟨AY _,by dsimp only;omega,by simp[tW]⟩ ?_;rintro⟨t,i⟩ ⟨e,z,u⟩;dsimp only at e z u;subst u;unfold Ss;dsimp only;rw[mP];refine AC (λd=>?_) (λd=>Ao.done (by rw[BG (l:=Hq (L.take k) n) (by rw[Iw];omega)];rfl));have a:=rk (L:=L.take k) (n:=n) (i:=i.toNat) (by omega);rw[IU e]at a;rw[dJ e d,AD,AD,AX (by omega)];have x:(tW ((Hq (L.take k) n).take i.toNat)).length<=17024:=by grind[iv,List.mem_of_mem_take,List.length_take,Iw]
 have b:=j _ (BQ a);have g:(Xc (st (L.take k) i)).2.2.length=256:=pZ (Xq h ⟨e,by omega⟩ m k);refine AA (pD (by simp) (by decide)) λG p=>AA (Cb (by rw[p,Cq,A0,g];decide)) λC v=>?_;rw[(by rw[v.1,p];rfl:C=qX (Xc (st (L.take k) i))),Y4 (by rw[b];decide),AD];refine AA (Cb (by rw[Ae,EA,EA,ti,b];omega)) λA_ f=>Ao.next ⟨by dsimp only;omega,by dsimp only;omega,?_⟩ (by dsimp only;omega)
 dsimp only;rw[f.1,show(i+1).toNat=i.toNat+1 by omega,CC,a,A5];grind[tW,Option.toList_some]
def ADA{a t:Bc}{n k:W}(h:(Z a:W)+Z t<=2199023255552)(b:1<=k)(d:k<=8)(e:k<=Z t)(g:t.take (ο k)=DE n (ο k))(hn:0<=n)(f:n<256^ο k)(c:n<9223372036854775808):Bl (a++t,(Z a:W),k)=D n:=by unfold Bl;rw[zB h b d e g hn f c];rfl
theorem AA9{L:List EN}(h:GF L)(B:L.length<=1099511627776){s:Int}{n k:Nat}(N:1<=s/\s<=1073741824)(hn:1<=n/\n<=64):Ef (encI (s,((n:Int),Hq (L.take k) n)))=some ((s,((n:Int),Hq (L.take k) n)),0):=by
 suffices E:Ao (Ef (encI (s,((n:Int),Hq (L.take k) n)))) λr=>r=((s,((n:Int),Hq (L.take k) n)),0) by obtain⟨r,hr,rfl⟩:=E;exact hr
 have f: ∀c∈Hq (L.take k) n,(qX c).length=258:=λc m=>yU h B hn.2 m;have u:(tW (Hq (L.take k) n)).length=266*n:=by rw[iv f,Iw]
 have b:=ti (s,((n:Int),Hq (L.take k) n));have D_:(encI (s,((n:Int),Hq (L.take k) n))).length=20+266*n:=by unfold encI;rw[Ae,EA,b,u]
 have Z:Bd (encI (s,((n:Int),Hq (L.take k) n)),0)=some (oD (s,((n:Int),Hq (L.take k) n)),(20,0)):=by have:=AKr (A:=[]) (p:=oD (s,((n:Int),Hq (L.take k) n))) (R:=tW (Hq (L.take k) n)) (by rw[b,u,CO];omega) (by rw[b];decide);rw[b]at this;exact this
 unfold Ef;rw[Z,AD];dsimp only;have y:oD (s,((n:Int),Hq (L.take k) n))=[80,77,73,77]++(DE s 4++(DE (n:Int) 2++DE (n:Int) 2)):=by unfold oD;dsimp only;rw[Iw]
 have S:Bl (oD (s,((n:Int),Hq (L.take k) n)),(4,4))=some s:=by rw[y];exact ADA (a:=[80,77,73,77]) (t:=DE s 4++(DE (n:Int) 2++DE (n:Int) 2)) (n:=s) (k:=4) (by simp only[Ae,A0];decide) (by decide) (by decide) (by simp only[Ae,A0];decide) (El (A0 _ _)) (by omega) (by simp[Int.reduceToNat];omega) (by omega)
 have T:Bl (oD (s,((n:Int),Hq (L.take k) n)),(8,2))=some (n:Int):=by rw[y,<-A5];exact ADA (a:=[80,77,73,77]++DE s 4) (t:=DE (n:Int) 2++DE (n:Int) 2) (n:=n) (k:=2) (by simp only[Ae,A0];decide) (by decide) (by decide) (by simp only[Ae,A0];decide) (El (A0 _ _)) (by omega) (by simp[Int.reduceToNat];omega) (by omega)
 have U:Bl (oD (s,((n:Int),Hq (L.take k) n)),(10,2))=some (n:Int):=by rw[y,<-A5,<-A5];exact ADA (a:=[80,77,73,77]++DE s 4++DE (n:Int) 2) (t:=DE (n:Int) 2) (n:=n) (k:=2) (by simp only[Ae,A0];decide) (by decide) (by decide) (by simp only[A0];decide) (BG (by rw[A0];decide)) (by omega) (by simp[Int.reduceToNat];omega) (by omega)
 obtain⟨v1,W,X_⟩:=Cj (s:=oD (s,((n:Int),Hq (L.take k) n))) (lo:=0) (hi:=4) (by decide) (by decide) (by rw[b];decide);have Y_:v1=[80,77,73,77]:=X_.1.trans (by rw[y];rfl);rw[bne_self_eq_false,cond_false,show(len (oD (s,((n:Int),Hq (L.take k) n))) !=12)=false by unfold len;rw[b];rfl,cond_false,W,Option.bind_some,Y_,bne_self_eq_false,cond_false,S,Option.bind_some,T,Option.bind_some,U,Option.bind_some,decide_eq_false (by omega),cond_false];refine AA (P:=λr=> ∃z,r= .inr (20+266*(n:Int),(Hq (L.take k) n,(s,((n:Int),z))))) ?_ λr hr=>?_
 ·refine CE (λ(t:Int×Int×List Cp×Int×Int×Ai)=>0<=t.2.1/\t.2.1<=n/\t.1=20+266*t.2.1/\ ∃z,t.2.2=((Hq (L.take k) n).take t.2.1.toNat,(s,((n:Int),z)))) (λt=>((n:Int)-t.2.1).toNat) ⟨AY _,by dsimp only;omega,by dsimp only;omega,_,rfl⟩ ?_;rintro⟨I,i,t⟩ ⟨x,Q,j,z,G⟩;dsimp only at x Q j G;subst G j;unfold Sr;dsimp only;refine AC (λm=>?_) (λm=>Ao.done ⟨z,by rw[show i=n by omega,BG (l:=Hq (L.take k) n) (by rw[Iw];omega)]⟩);have d:=rk (L:=L.take k) (n:=n) (i:=i.toNat) (by omega);rw[IU x]at d;have e:=f _ (BQ d);have g:Hq (L.take k) n=(Hq (L.take k) n).take i.toNat++(Xc (st (L.take k) i)::(Hq (L.take k) n).drop (i.toNat+1)):=by
   have v:=CZ d;conv=>lhs;rw[<-Cr i.toNat (Hq (L.take k) n),J4 v]
   rw[Ar v]at d;rw[BL d]
  have H:(HD (oD (s,((n:Int),Hq (L.take k) n)))++tW ((Hq (L.take k) n).take i.toNat)).length=20+266*i.toNat:=by rw[Ae,EA,b,iv λc m=>f c (Fv m),BK,Iw];omega
  have lr:(tW ((Hq (L.take k) n).drop (i.toNat+1))).length<=17024:=by rw[iv λc m=>f c (RV m),Dr,Iw];omega
  have M:encI (s,((n:Int),Hq (L.take k) n))=(HD (oD (s,((n:Int),Hq (L.take k) n)))++tW ((Hq (L.take k) n).take i.toNat))++(HD (qX (Xc (st (L.take k) i)))++tW ((Hq (L.take k) n).drop (i.toNat+1))):=by
   conv=>lhs;unfold encI;dsimp only;arg 2;rw[g]
   unfold tW;rw[Yu,IV,A5]
  have O:Bd (encI (s,((n:Int),Hq (L.take k) n)),20+266*i)=some (qX (Xc (st (L.take k) i)),(20+266*(i+1),0)):=by have:=AKr (A:=HD (oD (s,((n:Int),Hq (L.take k) n)))++tW ((Hq (L.take k) n).take i.toNat)) (p:=qX (Xc (st (L.take k) i))) (R:=tW ((Hq (L.take k) n).drop (i.toNat+1))) (by rw[H,e];omega) (by rw[e];decide);rw[<-M,H,e]at this;rw[show(20+266*i:Int)=((20+266*i.toNat:Nat):Int) by omega,this];refine congrArg (λw=>some (qX (Xc (st (L.take k) i)),(w,(0:Int)))) ?_;omega
  have q:(fA (st (L.take k) i)).length=256:=pZ (Xq h ⟨x,by omega⟩ B k);have F:qX (Xc (st (L.take k) i))=DE i 2++fA (st (L.take k) i):=by unfold qX Xc;rw[S0]
  have V:Bl (qX (Xc (st (L.take k) i)),(0,2))=some i:=by rw[F];exact ADA (a:=[]) (t:=DE i 2++fA (st (L.take k) i)) (n:=i) (k:=2) (by rw[Ae,A0,q];decide) (by decide) (by decide) (by rw[Ae,A0,q];decide) (El (A0 _ _)) x (by simp[Int.reduceToNat];omega) (by omega)
  obtain⟨w1,J,K⟩:=Cj (s:=qX (Xc (st (L.take k) i))) (lo:=2) (hi:=258) (by decide) (by decide) (by rw[e];decide);have w2:w1=fA (st (L.take k) i):=by rw[K.1,F];show List.take 256 (List.drop 2 (DE i 2++fA (st (L.take k) i)))=_;rw[mr (A0 _ _),BG (by omega)]
  have o:len (qX (Xc (st (L.take k) i)))=258:=by unfold len;rw[e];rfl
  rw[O,AD];dsimp only;rw[bne_self_eq_false,cond_false,o,bne_self_eq_false,cond_false,J,AD,V,AD,w2,sK h B ⟨x,by omega⟩,AD];refine AA (Ac (by rw[BK,Iw];simp;omega)) λad C=>?_;rw[AX (by omega)];refine Ao.next ⟨by dsimp only;omega,by dsimp only;omega,rfl,z,?_⟩ (by dsimp only;omega)
  dsimp only;rw[C.1,show(i+1).toNat=i.toNat+1 by omega,CC,d];unfold Xc;rw[S0];rfl
 ·obtain⟨z,rfl⟩:=hr;refine Au ?_;dsimp only;rw[show((20+266*(n:Int)) !=len (encI (s,((n:Int),Hq (L.take k) n))))=false by unfold len;rw[D_];simp,cond_false,qV h B N hn,Option.bind_some,Bool.not_true,cond_false];exact AB rfl
def PI(L:List EN)(d:Int)(m:Nat)(x:Ai):Prop:= ∃j:Nat,(j:Int)<=d/\1<=x.1/\x.1<=1073741824/\x=(x.1,((m:Int),Hq (L.take j) m))
def FI(L:E EN)(d:W)(m:U)(f:AS):Prop:=∃x,PI L d m x/\f.2.2=encI x
theorem AEb{L:List EN}(h:GF L)(c:L.length<=1099511627776){d:Int}{m:Nat}(hn:1<=m/\m<=64){x:Ai}(a:PI L d m x):Ao (Ko x) λf=>FI L d m f:=by have⟨j,i,e,g,b⟩:=id a;have:=ABA h c (k:=j) ⟨e,g⟩ hn;rw[<-b]at this;unfold Ko;rw[this,AD];exact AB ⟨x,a,rfl⟩
theorem AEe{n:Int}{L:List EN}{b:Ag}{a:AL}{l:Aa}{m:Nat}(O:CX b)(N:LI n L)(o:GF L)(M:AR L a)(z:QH L l)(w:0<=l.2.2/\l.2.2<=L.length)(Q:(m:Int)=a.2.1)(hn:1<=m/\m<=64):Ao (MD b ((m:Int),(a,l))) λr=>CX r.2/\r.1.length<=8/\ ∀f∈r.1,FI L l.2.2 m f:=by
 have A_:=z.len;have V:PI L l.2.2 m (1,((m:Int),Hq [] m)):=⟨0,w.1,by dsimp only;omega,by dsimp only;omega,rfl⟩
 unfold MD;rw[AFj hn.2,AD];refine AA (A8 O (by decide)) λv1 H=>?_;have⟨E,_,_⟩:=H;refine AA (P:=λh=>h.length<=1/\ ∀f∈h,FI L l.2.2 m f) ?_ λv3 v=>?_
 ·refine AC (λ_=>AA (AEb o (by omega) hn V) λf hf=>AB ⟨by simp,λg y=>?_⟩) (λ_=>AB ⟨by simp,λg y=>by simp at y⟩);grind[List.mem_singleton]
 ·refine AA (P:=λr=>CX r.2.1/\r.1.length<=8/\ ∀f∈r.1,FI L l.2.2 m f) ?_ λr hr=>AB hr;refine CE (λ(s:Int×Int×List AS×Ag×Ai)=>0<=s.1/\s.1<=l.2.2/\2<=s.2.1/\s.2.1<=4/\s.2.2.1.length<=s.2.1/\(∀f∈s.2.2.1,FI L l.2.2 m f)/\CX s.2.2.2.1/\1<=s.2.2.2.2.1/\s.2.2.2.2.1<=1073741824/\s.2.2.2.2=(s.2.2.2.2.1,((m:Int),Hq (L.take s.1.toNat) m))) (λs=>(4-s.2.1).toNat) ⟨AY _,w.1,by dsimp only;omega,by dsimp only;omega,by have:=v.1;dsimp only;omega,v.2,E,by dsimp only;omega,by dsimp only;omega,rfl⟩ ?_;rintro⟨t,i,h,c,x⟩ ⟨W,X_,T,U,G,e,u,B,C,D_⟩;dsimp only at W X_ T U G e u B C D_;unfold TS;dsimp only;refine AA (A8 u (by decide)) λY_ I=>?_;have⟨q,m5,n5⟩:=I;rw[AX (x:=2+Y_.1) (by omega)];refine AC (λhc=>?_) (λ_=>Ao.done ⟨q,by dsimp only;omega,e⟩);rw[AX (x:=l.2.2-t) (by omega),AX (x:=l.2.2-t+1) (by omega)];refine AA (A8 q (by omega)) λd J=>?_;have⟨F,m6,n6⟩:=J;rw[AX (x:=t+d.1) (by omega),D_];rw[(by omega:t+d.1=(((t+d.1).toNat:Nat):Int))];refine AA (AEg (s:=i) N o M z (j:=t.toNat) (k:=(t+d.1).toNat) (by omega) (by omega) Q hn ⟨B,C⟩) λZ K=>AK (λ_=>Ao.done ⟨F,by dsimp only;omega,e⟩) (λS=>?_);have⟨y1,y2,p⟩:=K S;have R:PI L l.2.2 m Z.1:=⟨(t+d.1).toNat,by omega,by rw[p];exact y1,by rw[p];exact y2,by rw[p]⟩
  refine AA (AEb o (by omega) hn R) λv8 h8=>AA (Ac (by simp;omega)) λv9 h9=>?_;rw[AX (x:=i+1) (by omega)];grind[Ao.next,List.length_singleton,Int.toNat_natCast,List.mem_singleton]
def yz{a t:Bc}{n k:W}(h:(Z a:W)+Z t<=2199023255552)(b:1<=k)(d:k<=8)(e:k<=Z t)(g:t.take (ο k)=DE n (ο k))(hn:0<=n)(f:n<256^ο k)(c:n<9223372036854775808):By (a++t,(Z a:W),k)=D (n,0):=by grind[Yo,ACA]
def AIc{A p R:Bc}(h:(Z A:W)+Z p+Z R<=1099511627776)(a:Z p<=8392):Dk (A++(HD p++R),(Z A:W))=D (p,(Z A:W)+8+Z p,0):=by grind[Xl,n?,EA,bM]
theorem AAi{L:List EN}(h:GF L)(E:L.length<=1099511627776){s:Int}{n k:Nat}(T:1<=s/\s<=1073741824)(hn:1<=n/\n<=64):Jq (encI (s,((n:Int),Hq (L.take k) n)))=some ((s,((n:Int),Hq (L.take k) n)),0):=by
 suffices H:Ao (Jq (encI (s,((n:Int),Hq (L.take k) n)))) λr=>r=((s,((n:Int),Hq (L.take k) n)),0) by obtain⟨r,hr,rfl⟩:=H;exact hr
 have g: ∀c∈Hq (L.take k) n,(qX c).length=258:=λc u=>yU h E hn.2 u;have y:(tW (Hq (L.take k) n)).length=266*n:=by rw[iv g,Iw]
 have b:=ti (s,((n:Int),Hq (L.take k) n));have G:(encI (s,((n:Int),Hq (L.take k) n))).length=20+266*n:=by unfold encI;rw[Ae,EA,b,y]
 have u0:Dk (encI (s,((n:Int),Hq (L.take k) n)),0)=some (oD (s,((n:Int),Hq (L.take k) n)),(20,0)):=by have:=AIc (A:=[]) (p:=oD (s,((n:Int),Hq (L.take k) n))) (R:=tW (Hq (L.take k) n)) (by rw[b,y,CO];omega) (by rw[b];decide);rw[b]at this;exact this
 unfold Jq;rw[u0,AD];dsimp only;have D_:oD (s,((n:Int),Hq (L.take k) n))=[80,77,73,77]++(DE s 4++(DE (n:Int) 2++DE (n:Int) 2)):=by unfold oD;dsimp only;rw[Iw]
 have W:By (oD (s,((n:Int),Hq (L.take k) n)),(4,4))=some (s,0):=by rw[D_];exact yz (a:=[80,77,73,77]) (t:=DE s 4++(DE (n:Int) 2++DE (n:Int) 2)) (n:=s) (k:=4) (by simp only[Ae,A0];decide) (by decide) (by decide) (by simp only[Ae,A0];decide) (El (A0 _ _)) (by omega) (by simp[Int.reduceToNat];omega) (by omega)
 have X_:By (oD (s,((n:Int),Hq (L.take k) n)),(8,2))=some ((n:Int),0):=by rw[D_,<-A5];exact yz (a:=[80,77,73,77]++DE s 4) (t:=DE (n:Int) 2++DE (n:Int) 2) (n:=n) (k:=2) (by simp only[Ae,A0];decide) (by decide) (by decide) (by simp only[Ae,A0];decide) (El (A0 _ _)) (by omega) (by simp[Int.reduceToNat];omega) (by omega)
 have Y_:By (oD (s,((n:Int),Hq (L.take k) n)),(10,2))=some ((n:Int),0):=by rw[D_,<-A5,<-A5];exact yz (a:=[80,77,73,77]++DE s 4++DE (n:Int) 2) (t:=DE (n:Int) 2) (n:=n) (k:=2) (by simp only[Ae,A0];decide) (by decide) (by decide) (by simp only[A0];decide) (BG (by rw[A0];decide)) (by omega) (by simp[Int.reduceToNat];omega) (by omega)
 have S:E5 (oD (s,((n:Int),Hq (L.take k) n)),([80,77,73,77]:List UInt8))=some true:=by obtain⟨v,q,r⟩:=Cj (s:=oD (s,((n:Int),Hq (L.take k) n))) (lo:=0) (hi:=4) (by decide) (by decide) (by rw[b];decide);have e:v=[80,77,73,77]:=r.1.trans (by rw[D_];rfl);unfold E5 EY;rw[decide_eq_true (by simp only[len,b];decide),cond_true];show Option.bind (Option.bind (US (oD (s,((n:Int),Hq (L.take k) n))) 0 4) _) _=_;rw[q,e];rfl
 rw[bne_self_eq_false,cond_false,show(len (oD (s,((n:Int),Hq (L.take k) n))) !=12)=false by unfold len;rw[b];rfl,cond_false,S,Option.bind_some,Bool.not_true,cond_false,W,Option.bind_some,X_,Option.bind_some,Y_,Option.bind_some,decide_eq_false (by dsimp only;omega),cond_false];refine AA (P:=λr=> ∃z,r= .inr (20+266*(n:Int),(Hq (L.take k) n,(s,((n:Int),z))))) ?_ λr hr=>?_
 ·refine CE (λ(t:Int×Int×List Cp×Int×Int×Ai)=>0<=t.2.1/\t.2.1<=n/\t.1=20+266*t.2.1/\ ∃z,t.2.2=((Hq (L.take k) n).take t.2.1.toNat,(s,((n:Int),z)))) (λt=>((n:Int)-t.2.1).toNat) ⟨AY _,by dsimp only;omega,by dsimp only;omega,_,rfl⟩ ?_;rintro⟨M,i,t⟩ ⟨C,V,o,z,J⟩;dsimp only at C V o J;subst J o;unfold bC;dsimp only;refine AC (λu=>?_) (λu=>Ao.done ⟨z,by rw[show i=n by omega,BG (l:=Hq (L.take k) n) (by rw[Iw];omega)]⟩);have d:=rk (L:=L.take k) (n:=n) (i:=i.toNat) (by omega);rw[IU C]at d;have f:=g _ (BQ d);have j:Hq (L.take k) n=(Hq (L.take k) n).take i.toNat++(Xc (st (L.take k) i)::(Hq (L.take k) n).drop (i.toNat+1)):=by
   have B:=CZ d;conv=>lhs;rw[<-Cr i.toNat (Hq (L.take k) n),J4 B]
   rw[Ar B]at d;rw[BL d]
  have K:(HD (oD (s,((n:Int),Hq (L.take k) n)))++tW ((Hq (L.take k) n).take i.toNat)).length=20+266*i.toNat:=by rw[Ae,EA,b,iv λc u=>g c (Fv u),BK,Iw];omega
  have lr:(tW ((Hq (L.take k) n).drop (i.toNat+1))).length<=17024:=by rw[iv λc u=>g c (RV u),Dr,Iw];omega
  have Q:encI (s,((n:Int),Hq (L.take k) n))=(HD (oD (s,((n:Int),Hq (L.take k) n)))++tW ((Hq (L.take k) n).take i.toNat))++(HD (qX (Xc (st (L.take k) i)))++tW ((Hq (L.take k) n).drop (i.toNat+1))):=by
   conv=>lhs;unfold encI;dsimp only;arg 2;rw[j]
   unfold tW;rw[Yu,IV,A5]
  have U:Dk (encI (s,((n:Int),Hq (L.take k) n)),20+266*i)=some (qX (Xc (st (L.take k) i)),(20+266*(i+1),0)):=by have:=AIc (A:=HD (oD (s,((n:Int),Hq (L.take k) n)))++tW ((Hq (L.take k) n).take i.toNat)) (p:=qX (Xc (st (L.take k) i))) (R:=tW ((Hq (L.take k) n).drop (i.toNat+1))) (by rw[K,f];omega) (by rw[f];decide);rw[<-Q,K,f]at this;rw[show(20+266*i:Int)=((20+266*i.toNat:Nat):Int) by omega,this];refine congrArg (λw=>some (qX (Xc (st (L.take k) i)),(w,(0:Int)))) ?_;omega
  have x:(fA (st (L.take k) i)).length=256:=pZ (Xq h ⟨C,by omega⟩ E k);have I:qX (Xc (st (L.take k) i))=DE i 2++fA (st (L.take k) i):=by unfold qX Xc;rw[S0]
  have Z:By (qX (Xc (st (L.take k) i)),(0,2))=some (i,0):=by rw[I];exact yz (a:=[]) (t:=DE i 2++fA (st (L.take k) i)) (n:=i) (k:=2) (by rw[Ae,A0,x];decide) (by decide) (by decide) (by rw[Ae,A0,x];decide) (El (A0 _ _)) C (by simp[Int.reduceToNat];omega) (by omega)
  have m:len (qX (Xc (st (L.take k) i)))=258:=by unfold len;rw[f];rfl
  obtain⟨w1,N,O⟩:=Cj (s:=qX (Xc (st (L.take k) i))) (lo:=2) (hi:=258) (by decide) (by decide) (by rw[f];decide);have w2:w1=fA (st (L.take k) i):=by rw[O.1,I];show List.take 256 (List.drop 2 (DE i 2++fA (st (L.take k) i)))=_;rw[mr (A0 _ _),BG (by omega)]
  have rc:SL (qX (Xc (st (L.take k) i)))=some (Xc (st (L.take k) i)):=by unfold SL;rw[m,N,AD,Z,AD,w2];dsimp only;rw[vI h E ⟨C,by omega⟩];unfold Xc;rw[S0];rfl
  rw[U,AD];dsimp only;rw[bne_self_eq_false,cond_false,m,bne_self_eq_false,cond_false,rc,AD];refine AA (Ac (by rw[BK,Iw];simp;omega)) λad F=>?_;rw[AX (by omega)];refine Ao.next ⟨by dsimp only;omega,by dsimp only;omega,rfl,z,?_⟩ (by dsimp only;omega)
  dsimp only;rw[F.1,show(i+1).toNat=i.toNat+1 by omega,CC,d];rfl
 ·obtain⟨z,rfl⟩:=hr;refine Au ?_;dsimp only;rw[decide_eq_false (by unfold len;rw[G];omega),cond_false,qQ h E T hn,Option.bind_some,Bool.not_true,cond_false];exact AB rfl
theorem AAe{b:Type}(n k:Int)(v:b): ∀m:List (Int×b),L3 k (Qw n v m)=if k=n then some v else L3 k m
 |[]=>by
  simp only[Qw,L3];by_cases h:k=n
  ·rw[if_pos h,h,beq_self_eq_true,cond_true]
  ·rw[if_neg h,beq_eq_false_iff_ne.2 (Pf h),cond_false]
 |p::r=>by
  simp only[Qw];by_cases a:p.1=n
  ·rw[beq_iff_eq.2 a,cond_true];simp only[L3];by_cases h:k=n
   ·rw[if_pos h,h,beq_self_eq_true,cond_true]
   ·rw[if_neg h,beq_eq_false_iff_ne.2 (Pf h),cond_false,a,beq_eq_false_iff_ne.2 (Pf h),cond_false]
  ·rw[beq_eq_false_iff_ne.2 a,cond_false];simp only[L3];rw[AAe n k v r];by_cases h:p.1=k
   ·rw[beq_iff_eq.2 h,cond_true,cond_true,if_neg (by rw[<-h];exact a)]
   ·rw[beq_eq_false_iff_ne.2 h,cond_false,cond_false]
theorem yy{L:List EN}(h:GF L)(c:L.length<=1099511627776){d:Int}{m:Nat}(hn:1<=m/\m<=64){x:Ai}(a:PI L d m x):Jq (encI x)=some (x,0):=by have⟨j,b,e,f,g⟩:=a;grind[AAi]
def FB(D:Bc->Option (Ai×Int))(L:List EN)(d:Int)(m:Nat)(f:AS):Prop:=FI L d m f\/Ao (D f.2.2) λr=>r.2≠0
def zZ(L:List EN)(d:Int)(m:Nat)(fs:List AS)(n:Nat)(f:AS)(x:Ai):Prop:=f.1=2/\(∀(k:Nat) (g:AS),k<n->fs[k]? =some g->g.1=2->g.2.1≠f.2.1)/\PI L d m x/\f.2.2=encI x/\x.1=f.2.1
def Ql(L:List EN)(d:Int)(m:Nat)(fs:List AS)(n:Nat)(x:Ai):Prop:= ∃(i:Nat) (f:AS),i<n/\fs[i]? =some f/\zZ L d m fs i f x
def Ql.step{L}{d}{m}{b:E AS}{n:Nat}{f:AS}(e:b[n]?=D f)(x:Ai):Ql L d m b (n+1) x↔Ql L d m b n x\/zZ L d m b n f x:=by constructor;rintro⟨i,g,k,a,c⟩;by_cases j:i=n;subst j;rw[e]at a;cases a;exact .inr c;exact .inl ⟨i,g,o!,a,c⟩;rintro(⟨i,g,k,a⟩|h);exact⟨i,g,o!,a⟩;exact⟨n,f,o!,e,h⟩
theorem lq{L:List EN}(h:GF L)(a:L.length<=1099511627776){d:Int}{m:Nat}(hn:1<=m/\m<=64){x y:Ai}(b:PI L d m x)(c:PI L d m y)(e:encI x=encI y):x=y:=by grind[yy,Prod.ext_iff,Option.some.inj]
def Ql.uniq{L}(h:GF L)(A_:Z L<=1099511627776){d}{m:Nat}(hn:1<=m/\m<=64){a}{n}{x y}(b:Ql L d m a n x)(c:Ql L d m a n y)(e:x.1=y.1):x=y:=by have⟨i,f,_,w,k,l,o,p,q⟩:=b;have⟨j,g,_,z,r,s,t,u,v⟩:=c;grind[Nat.lt_trichotomy,lq]
def ACb(L:List EN)(d:Int)(m:Nat)(fs:List AS)(s:Int×List (Int×Bool)×List Ai):Prop:= ∃n:Nat,s.1=n/\n<=fs.length/\s.2.2.length<=n/\(∀id,Option.getD (L3 id s.2.1) false=true↔ ∃(k:Nat) (g:AS),k<n/\fs[k]? =some g/\g.1=2/\g.2.1=id)/\ ∀x,x∈s.2.2↔Ql L d m fs n x
theorem xj{L:List EN}(h:GF L)(z:L.length<=1099511627776){d:Int}{m:Nat}(hn:1<=m/\m<=64){fs:List AS}(h8:fs.length<=8)(R: ∀f∈fs,FB Jq L d m f):Ao (HK fs) λr=>r.length<=8/\ ∀x,x∈r↔Ql L d m fs fs.length x:=by
 unfold HK;refine AA (P:=λr=>r.2.length<=8/\ ∀x,x∈r.2↔Ql L d m fs fs.length x) ?_ λv U=>?_
 ·refine CE (ACb L d m fs) (λs=>((fs.length:Int)-s.1).toNat) ⟨0,rfl,Bh _,Am _,λid=>⟨λq=>(by cases q),λ⟨k,g,k0,_⟩=>absurd k0 (Nat.not_lt_zero _)⟩,λx=>⟨λq=>(by cases q),λ⟨k,g,k0,_⟩=>absurd k0 (Nat.not_lt_zero _)⟩⟩ ?_;rintro⟨_,t,o⟩ ⟨n,rfl,n1,V,D_,J⟩;dsimp only at V D_ J;unfold ZO;dsimp[len];refine AC (λN=>?_) (λN=>Ao.done ⟨by dsimp only;omega,by rw[show fs.length=n by omega];exact J⟩);rw[AX (x:=(n:Int)+1) (by omega)];refine AA (AE (by omega) N) λb K=>?_;have i:=K.1;rw[C5]at i;have same:(∀x,¬zZ L d m fs n b x)->(b.1=2-> ∃(k:Nat) (g:AS),k<n/\fs[k]? =some g/\g.1=2/\g.2.1=b.2.1)->Ao (some (Step.next ((n:Int)+1,(t,o))):Option (Step (Int×List (Int×Bool)×List Ai) (List (Int×Bool)×List Ai))) (Kj (ACb L d m fs) (λs=>((fs.length:Int)-s.1).toNat) ((fs.length:Int)-n).toNat λr=>r.2.length<=8/\ ∀x,x∈r.2↔Ql L d m fs fs.length x):=λc T=>by
   refine Ao.next ⟨n+1,rfl,by omega,by dsimp only;omega,λid=>?_,λx=>?_⟩ (by dsimp only;omega)
   ·dsimp only;rw[D_ id];refine⟨λ⟨k,g,k0,k1⟩=>⟨k,g,by omega,k1⟩,λ⟨k,g,k0,k1,p,u⟩=>?_⟩;by_cases l:k=n<;>grind
   ·simp_all[Ql.step]
  refine AK (λw=>same (λx q=>w q.1) λq=>absurd q w) (λw=>AJ (λE=>?_) (λE=>?_))
  ·have⟨k,g,k0,k1,p,u⟩:=(D_ b.2.1).1 E;exact same (λx q=>q.2.1 k g k0 k1 p u) λ_=>⟨k,g,k0,k1,p,u⟩
  have e: ∀(k:Nat) (g:AS),k<n->fs[k]? =some g->g.1=2->g.2.1≠b.2.1:=λk g k0 k1 p u=>by rw[(D_ b.2.1).2 ⟨k,g,k0,k1,p,u⟩]at E;cases E
  have O: ∀F,F.length<=n+1->(∀x,x∈F↔x∈o\/zZ L d m fs n b x)->Ao (some (Step.next ((n:Int)+1,(Qw b.2.1 true t,F))):Option (Step (Int×List (Int×Bool)×List Ai) (List (Int×Bool)×List Ai))) (Kj (ACb L d m fs) (λs=>((fs.length:Int)-s.1).toNat) ((fs.length:Int)-n).toNat λr=>r.2.length<=8/\ ∀x,x∈r.2↔Ql L d m fs fs.length x):=λF G S=>by
   refine Ao.next ⟨n+1,rfl,by omega,G,λid=>?_,λx=>?_⟩ (by dsimp only;omega)
   ·dsimp only;rw[AAe];by_cases a:id=b.2.1
    ·rw[if_pos a];exact⟨λ_=>⟨n,b,by omega,i,w,a.symm⟩,λ_=>rfl⟩
    ·rw[if_neg a,D_ id];refine⟨λ⟨k,g,k0,k1⟩=>⟨k,g,by omega,k1⟩,λ⟨k,g,k0,k1,p,u⟩=>?_⟩;by_cases l:k=n<;>grind
   ·dsimp only;rw[Ql.step i,S x,J x]
  have none:(∀x,¬zZ L d m fs n b x)->Ao (some (Step.next ((n:Int)+1,(Qw b.2.1 true t,o))):Option (Step (Int×List (Int×Bool)×List Ai) (List (Int×Bool)×List Ai))) (Kj (ACb L d m fs) (λs=>((fs.length:Int)-s.1).toNat) ((fs.length:Int)-n).toNat λr=>r.2.length<=8/\ ∀x,x∈r.2↔Ql L d m fs fs.length x):=λc=>O o (by omega) λx=>⟨.inl,λq=>q.elim id λq=>absurd q (c x)⟩
  rcases R _ K.2 with⟨x,C,l⟩|c
  ·have⟨j,hj,X_,Y_,Z⟩:=id C;have B:=AIJ h z (k:=j) ⟨X_,Y_⟩ hn;rw[<-Z]at B;rw[l,yy h z hn C,AD];dsimp only;rw[beq_self_eq_true,cond_true,B,AD,cond_true];refine AT (λa=>?_) (λa=>none λy H=>a ?_)
   ·refine AA (Ac (by simp;omega)) λW M=>O W (by rw[M.1];simp;omega) λy=>?_;rw[M.1,Al,A7];refine⟨λq=>q.imp id λq=>by rw[q];exact⟨w,e,C,l,a⟩,λq=>q.imp id λq=>lq h z hn q.2.2.1 C (q.2.2.2.1.symm.trans l)⟩
   ·rw[<-lq h z hn H.2.2.1 C (H.2.2.2.1.symm.trans l)];exact H.2.2.2.2
  ·have A_: ∀x,¬zZ L d m fs n b x:=λx q=>by have⟨r,hr,I⟩:=c;rw[q.2.2.2.1,yy h z hn q.2.2.1]at hr;cases hr;exact I rfl
   exact AA c λv2 Q=>AT (λI=>absurd I Q) (λ_=>none A_)
 ·refine AA (AID (by omega)) λr hr=>?_;rw[o9 hr,cond_true];exact AB ⟨by have:=hr.length_eq;omega,λx=>by rw[hr.mem_iff];exact U.2 x⟩
theorem AHn{L:List EN}{s:Int}{m j:Nat}(n:m<=64){p:Int}(c:0<=p/\p<m):TQ ((s,((m:Int),Hq (L.take j) m)),p)=some (p,true):=by
 suffices k:Ao (TQ ((s,((m:Int),Hq (L.take j) m)),p)) λv=>v=(p,true) by obtain⟨r,hr,rfl⟩:=k;exact hr
 unfold TQ;dsimp only;rw[(by grind[Iw]:len (Hq (L.take j) m)=m)];refine AA (P:=λr=>r=p) ?_ λr hr=>?_
 ·refine CE (λ(t:Int×Int)=>0<=t.1/\t.1<=p/\p<=t.2/\t.2<=m) (λt=>(t.2-t.1).toNat) ⟨AY _,c.1,by dsimp only;omega,AY _⟩ ?_;rintro⟨a,b⟩ ⟨f,g,i,h⟩;dsimp only at f g i h;unfold fT;dsimp only;rw[ABq (by omega) (by omega) (by omega)];refine AC (λl=>?_) (λ_=>Ao.done (by omega));rw[dJ (by omega) (by omega),AD,AX (x:=(a+b)/2+1) (by omega)];unfold QW;rw[AD,show((Xc (st (L.take j) ((a+b)/2)),p):Cp×Int).1.1=(a+b)/2 from S0 _ _,AX (by dsimp only;omega)];exact Bi (AC (λe=>Ao.next ⟨by dsimp only;omega,by dsimp only at e⊢;omega,i,h⟩ (by dsimp only;omega)) (λd=>Ao.next ⟨f,g,by dsimp only at d⊢;omega,by dsimp only;omega⟩ (by dsimp only;omega)))
 ·rw[hr,decide_eq_true c.2,cond_true,dJ c.1 c.2,AD];unfold QW;rw[AD,show((Xc (st (L.take j) p),p):Cp×Int).1.1=p from S0 _ _,Int.sub_self];exact AB rfl
theorem AEd{L:List EN}(h:GF L)(a:L.length<=1099511627776){s:Int}{m j:Nat}(c:1<=s/\s<=1073741824)(hn:1<=m/\m<=64){p:Int}(b:0<=p/\p<m):Vs ((s,((m:Int),Hq (L.take j) m)),p)=some (Xc (st (L.take j) p),true):=by grind[Vs,qQ,Bool.not_true,AHn,dJ]
theorem AGq{L:List EN}(h:GF L)(a:L.length<=1099511627776){s:Int}{m j:Nat}(c:1<=s/\s<=1073741824)(hn:1<=m/\m<=64){p:Int}(b:0<=p/\p<m):YY ((s,((m:Int),Hq (L.take j) m)),p)=some (st (L.take j) p,0):=by unfold YY;rw[qQ h a c hn,AD,Ce,cond_false,AEd h a c hn b,AD,Ce,cond_false,show GU ((Xc (st (L.take j) p)).2.2,p)=some (st (L.take j) p,0)from vI h a ⟨b.1,by omega⟩,AD]
def TD(x:Ai)(p:Int):Int:=((x.2.2[p.toNat]?).getD (0,(0,[]))).2.1
theorem sT{L:List EN}{s:Int}{m j:Nat}{p:Int}(a:0<=p/\p<m):TD (s,((m:Int),Hq (L.take j) m)) p=BW (L.take j) p:=by unfold TD;dsimp only;rw[(rk (L:=L.take j) (n:=m) (i:=p.toNat) (by omega)),IU a.1];exact Kh _ _
theorem AEZ{L:List EN}(h:GF L)(w:L.length<=1099511627776){d:Int}{m:Nat}(hn:1<=m/\m<=64){f:List AS}{V:List Ai}(q:HK f=some V)(G:V.length<=8)(n: ∀x∈V,PI L d m x){p k:Int}(A_:0<=p/\p<m):Ao (Tw (f,(p,k))) λr=>r.length<=8/\ ∀y,y∈r↔ ∃x∈V,TD x p<=k/\y=(TD x p,(x.1,TD x p)):=by
 unfold Tw;dsimp only;rw[q,AD];refine AA (P:=λr=>r.length<=8/\ ∀y,y∈r↔ ∃x∈V,TD x p<=k/\y=(TD x p,(x.1,TD x p))) ?_ λr hr=>?_
 ·dsimp[len];rw[AX (by omega)];refine CE (λ(s:Int×List BP)=> -1<=s.1/\s.1<V.length/\(s.2.length:Int)+s.1+1<=V.length/\ ∀y,y∈s.2↔ ∃x∈V.drop (s.1+1).toNat,TD x p<=k/\y=(TD x p,(x.1,TD x p))) (λs=>(s.1+1).toNat) ⟨by dsimp only;omega,by dsimp only;omega,by simp,λy=>by dsimp only;rw[M9 (by omega)];simp⟩ ?_;rintro⟨i,o⟩ ⟨B,g,C,e⟩;dsimp only at B g C e;unfold ZN;dsimp only;refine AC (λt=>?_) (λ_=>Ao.done ⟨by omega,by rw[show(i+1).toNat=0 by omega]at e;exact e⟩);rw[AX (by omega)];refine AA (AE t g) λb l=>?_;have⟨j,I,D_,E,F⟩:=n b l.2;have a:=AEd h w (j:=j) ⟨D_,E⟩ hn A_;rw[<-F]at a;have H:V.drop (i-1+1).toNat=b::V.drop (i+1).toNat:=by grind[CZ,List.getElem?_eq_getElem,List.drop_eq_getElem_cons,Option.some.inj]
  rw[a,AD];dsimp only;rw[cond_true,show(Xc (st (L.take j) p)).2.1=TD b p from(Kh _ _).trans (by grind[sT]:TD b p=BW (L.take j) p).symm];refine AC (λz=>?_) (λu=>Ao.next ⟨by dsimp only;omega,by dsimp only;omega,by dsimp only;omega,λy=>?_⟩ (by dsimp only;omega))
  ·grind[AA,Ac,Ao.next,List.mem_singleton,List.mem_cons_of_mem,List.mem_cons_self]
  ·grind[List.mem_cons_of_mem]
 ·refine AA (AIF (by omega)) λv c=>?_;rw[o9 c,cond_true];exact AB ⟨by have:=c.length_eq;omega,λy=>by rw[c.mem_iff];exact hr.2 y⟩
theorem AKM{V:List Ai}(f:V.length<=8){y:BP}(b: ∃x∈V,x.1=y.2.1):Ao (Ad (S7 V) (0,y)) λr=> ∃(i:Int) (x:Ai),r= .inl (i,y)/\0<=i/\V[i.toNat]? =some x/\x.1=y.2.1:=by
 refine CE (λ(s:Int×BP)=>s.2=y/\0<=s.1/\s.1<=V.length/\ ∀i:Nat,i<s.1-> ∀x,V[i]? =some x->x.1≠y.2.1) (λs=>((V.length:Int)-s.1).toNat) ⟨rfl,AY _,by dsimp only;omega,λi a=>by dsimp only at a;omega⟩ ?_;rintro⟨i,h⟩ ⟨rfl,c,d,e⟩;dsimp only at c d e b;unfold S7;dsimp[len];refine AC ?_ ?_<;>intro g
 ·grind[AA,AE,UP,AX,AT,Ao.done,Ao.next,Option.some.inj]
 ·grind[List.getElem?_of_mem,CZ]
theorem AGz{L C:List EN}{a:AL}{l:Aa}{p i k:Int}{c:Nat}(h:AR L a)(D_:QH L l)(H:0<=p/\p<a.2.1)(r:RC a c)(j:c<=12)(G:IE (a,(l,(p,(i,k))))=some (C,0)):Ao (Oo (a,(l,(p,(i,k))))) λu=>u.2.2.2=0:=by
 unfold Oo;dsimp only;rw[G,AD,bne_self_eq_false,cond_false];refine AA (fU D_.vl) λV _=>?_;have⟨f,R,t,_⟩:=AEn h.vb H;rw[t,AD,Ce,cond_false];obtain⟨q,w,v,M,W,rfl,X_,Y_⟩:=ABG h.vb h.ds (Xm h.vb) h.dis;rw[w,AD];have Q:(v.filter λe=>e.1.2.2.1==f).length<=12:=by rw[(M.filter _).length_eq];exact Cs (r f) j
 refine AA (P:=λb=>b.length<=12) ?_ λJ m=>?_
 ·refine CE (λ(s:Int×List Int)=> ∃k:Nat,s.1=k/\s.2.length<=((v.take k).filter λe=>e.1.2.2.1==f).length/\k<=v.length) (λs=>v.length-s.1.toNat) ⟨0,rfl,Bh _,Bh _⟩ ?_;rintro⟨_,o⟩ ⟨k,rfl,ok,S⟩;dsimp only at ok;unfold bA;dsimp[len];have F:(v.map (·.1)).length=v.length:=BY _;refine AC (λr=>?_) (λr=>Ao.done (by rw[BG (by omega)]at ok;omega));have d:k<v.length:=by omega
  have I:v.take (k+1)=v.take k++[v[k]]:=by grind[List.take_add_one,List.getElem?_eq_getElem]
  have y:ix (v.map (·.1)) (k:Int)=some v[k].1:=by unfold ix;rw[if_pos (by omega),Int.toNat_natCast,List.getElem?_map,List.getElem?_eq_getElem d];rfl
  have z:ix (v.map (·.2)) (k:Int)=some v[k].2:=by unfold ix;rw[if_pos (by omega),Int.toNat_natCast,List.getElem?_map,List.getElem?_eq_getElem d];rfl
  rw[y,AD,z,AX (x:=(k:Int)+1) (by omega)];have E:((v.take k).filter λe=>e.1.2.2.1==f).length<=((v.take (k+1)).filter λe=>e.1.2.2.1==f).length:=by grind[List.length_append]
  have A_:Ao (some (Step.next ((k:Int)+1,o)):Option (Step (Int×List Int) (List Int))) (Kj (λ(s:Int×List Int)=> ∃k:Nat,s.1=k/\s.2.length<=((v.take k).filter λe=>e.1.2.2.1==f).length/\k<=v.length) (λs=>v.length-s.1.toNat) (v.length-k) λb=>b.length<=12):=Ao.next ⟨k+1,rfl,by dsimp only;omega,d⟩ (by dsimp only;omega)
  refine AT (λO=>?_) (λ_=>A_);rw[AD];have T:=EV (λe=>e.1.2.2.1==f) (v.take k);have U:=gU k v;have g:Ao (Option.bind (app o [v[k].2]) λB=>some (Step.next ((k:Int)+1,B)):Option (Step (Int×List Int) (List Int))) (Kj (λ(s:Int×List Int)=> ∃k:Nat,s.1=k/\s.2.length<=((v.take k).filter λe=>e.1.2.2.1==f).length/\k<=v.length) (λs=>v.length-s.1.toNat) (v.length-k) λb=>b.length<=12):=by
   refine AA (Ac (by simp;omega)) λB N=>Ao.next ⟨k+1,rfl,?_,d⟩ (by dsimp only;omega)
   grind[List.length_append]
  exact AC (λ_=>A_) (λ_=>AC (λ_=>g) (λ_=>AC (λ_=>g) (λ_=>AC (λ_=>g) (λ_=>A_))))
 ·refine AA (AIC m) λK n=>?_;rw[o9 n,cond_true];exact AC (λ_=>AB rfl) (λ_=>AB rfl)
def AGW{L}(h:GF L){p}{j k:U}(a:BW (L.take j) p<=k):∃i:U,i<=k/\BW (L.take i) p=BW (L.take j) p/\st (L.take i) p=st (L.take j) p:=by have b:=T1 h p j;have e:=XH h (p:=p) (k:=j);exact⟨(BW (L.take j) p).toNat,o!,e,nS h e⟩
theorem AHi{n}{L}{a}{l}{p:W}{j k:U}(h:LI n L)(b:GF L)(g:AR L a)(d:QH L l)(i:IE (a,l,p,BW (L.take j) p,(k:W))=D (L.filter (Ki p (BW (L.take j) p) k),0))(c:j<=k)(o:k<=Z L)(f:0<=p/\p<64):Jz (st (L.take j) p,a,l,(k:W))=D (st (L.take k) p,0):=by have e:=d.len;have q:=T1 b p j;have m:=WA (b.take j) p;rw[BK]at m;unfold Jz;dsimp only;rw[AF5 g.vb d.vl,AD,H!,A!,nO ((Xq b f (by omega:Z L<=1099511627776)) j),AD];dsimp only;rw[H!,A!,Kh,S0,F! o!,A!,i,AD];dsimp only;rw[H!,A!,show BW (L.take j) p=(((BW (L.take j) p).toNat:U):W) by omega,zL b o!,nG b (j:=j) o! (XH b),AHu (vf b h f o! j k c) (by have:=EV (cI p) ((L.take k).drop j);rw[Dr,BK]at this;omega),<-jr c];rfl
theorem ALQ{n:Int}{L:List EN}{a:AL}{l:Aa}{p x D_ d:Int}{k c:Nat}(C:LI n L)(g:GF L)(f:AR L a)(m:QH L l)(hr:RC a c)(y:c<=12)(M:k<=L.length)(v:0<=p/\p<a.2.1)(e:p<64)(I:VN a p x D_)(A_:wK (ka a l x) k d){j:Nat}(w:BW (L.take j) p<=k):(d<=BW (L.take j) p/\Jz (st (L.take j) p,(a,(l,(k:Int))))=some (st (L.take k) p,0)/\Ao (Oo (a,(l,(p,(BW (L.take j) p,(k:Int)))))) λu=>u.2.2.2=0)\/(¬d<=BW (L.take j) p/\Ao (Jz (st (L.take j) p,(a,(l,(k:Int))))) λr=>r.2≠0):=by
 have t:=m.len;have⟨i,E,s,z⟩:=AGW g w;have G:=T1 g p i;rw[<-s,<-z];rw[<-s]at w;have⟨H,K,B,q,b,_,r⟩:=uH (p:=p) (i:=BW (L.take i) p) (j:=(k:Int)) (CPa 4096) (by decide) C (by omega) G (by omega) (by omega) f m v;have o:=I.uniq f.vb.1 rfl rfl q;subst o;have h:=A_.uniq (λ_=>Iff.rfl) b;subst h;rcases r with⟨J,F⟩|⟨J,F⟩
 ·refine .inr ⟨by omega,?_⟩;unfold Jz;dsimp only;rw[AF5 f.vb m.vl,AD,bne_self_eq_false,cond_false,nO (Xq g ⟨v.1,e⟩ (by omega:L.length<=1099511627776) i),AD];grind[Kh,S0,AK,AB]
 ·grind[AHi,AGz]
theorem ADU{n d:Int}{L:List EN}{a:AL}{l:Aa}{p:Int}{k m c:Nat}{h:List AS}(hL:LI n L)(E:GF L)(X_:AR L a)(N:QH L l)(hr:RC a c)(T:c<=12)(hk:k<=L.length)(hm:(m:Int)=a.2.1)(hn:1<=m/\m<=64)(h8:h.length<=8)(hf: ∀f∈h,FB Jq L d m f)(O:0<=p/\p<a.2.1): ∃R Y_ e,VN a p R Y_/\wK (ka a l R) k e/\Ao (SM (h,(a,(l,(p,(k:Int)))))) λr=>(r.2.2=49/\e≠0/\ ∀x,Ql L d m h h.length x->TD x p<=k-> ¬e<=TD x p)\/(r.2.2=0/\r.1=st (L.take k) p/\r.2.1.1=p/\r.2.1.2.2.2.1=k/\(e=0\/ ∃x,Ql L d m h h.length x/\TD x p<=k/\e<=TD x p)):=by
 have ax:=N.len;have ap:0<=p/\p<64:=⟨O.1,by omega⟩
 have pm:0<=p/\p<m:=⟨O.1,by omega⟩
 obtain⟨R,Y_,e,p1,U,_,_⟩:=uH (p:=p) (i:=0) (j:=(k:Int)) (CPa 4096) (by decide) hL (by omega) (AY _) (by omega) (by omega) X_ N O;refine⟨R,Y_,e,p1,U,?_⟩;obtain⟨v,hv,rfl⟩:=HV X_.vb;obtain⟨w,hw,rfl⟩:=KE N.vl;have pg:=λj (hq:BW (L.take j) p<=k)=>ALQ hL E X_ N hr T hk O ap.2 p1 U (j:=j) hq;obtain⟨V,hV,v8,F⟩:=xj E (by omega) hn h8 hf;have hP: ∀x∈V,PI L d m x:=λx hx=>by obtain⟨i,f,_,_,q⟩:=(F x).1 hx;exact q.2.2.1
 unfold SM;dsimp only;rw[hv,AD,Ce,cond_false,hw,AD,Ce,cond_false,decide_eq_false (by omega),cond_false,decide_eq_false (by omega),cond_false,decide_eq_false (by omega),cond_false,hV,AD];refine AA (AEZ E (by omega) hn hV v8 hP pm) λb D_=>?_;obtain⟨r8,A_⟩:=D_;refine AA (P:=λ(r:(Int×AV×Gs)⊕ (AV×Gs))=>((∃z,r= .inr z)/\ ∀y∈b,¬e<=y.1)\/ ∃y:Gs,r= .inl (0,(st (L.take k) p,y))/\y.1=p/\y.2.2.2.1=k/\ ∃x,Ql L d m h h.length x/\TD x p<=k/\e<=TD x p) ?_ λr ag=>?_
 ·refine CE (λ(s:Int×AV×Gs)=>0<=s.1/\s.1<=b.length/\ ∀y∈b.take s.1.toNat,¬e<=y.1) (λs=>((b.length:Int)-s.1).toNat) ⟨AY _,by dsimp only;omega,λy I=>by simp at I⟩ ?_;rintro⟨i,s⟩ ⟨i0,i1,Q⟩;dsimp only at i0 i1 Q;unfold YQ;dsimp only[len];refine AC (λG=>?_) (λG=>Ao.done (.inl ⟨⟨_,rfl⟩,by rw[BG (by omega)]at Q;exact Q⟩));rw[AX (x:=i+1) (by omega)];refine AA (AE i0 G) λv5 h5=>?_;obtain⟨x,S,xk,xe⟩:=(A_ v5).1 h5.2;obtain⟨j,hj,x1,x2,ex⟩:=hP x S;have a0:TD x p=BW (L.take j) p:=by rw[ex];exact sT pm
  refine AA (AKM v8 (y:=v5) ⟨x,S,by rw[xe]⟩) λv9 h9=>?_;obtain⟨g,J,rfl,g0,gx,W⟩:=h9;have ao:J=x:=Ql.uniq E (by omega) hn ((F J).1 (BQ gx)) ((F x).1 S) (W.trans (by rw[xe]));subst ao;refine BB ?_;have Z:ix V g=some J:=by unfold ix;rw[if_pos g0,gx]
  have o:=AGq E (by omega:L.length<=1099511627776) (j:=j) ⟨x1,x2⟩ hn pm;rw[<-ex]at o;rw[Z,AD,o,AD,bne_self_eq_false,cond_false,Kh];rcases pg j (by omega)with⟨K,t,M⟩|⟨K,t⟩
  ·rw[t,AD,bne_self_eq_false,cond_false];refine AA M λu hu=>AT (λ_=>Ao.done (.inr ⟨_,rfl,rfl,rfl,J,(F J).1 S,xk,by omega⟩)) (λC=>absurd hu C)
  ·refine AA t λar B=>AK (λ_=>Ao.next ⟨by dsimp only;omega,by dsimp only;omega,λy I=>?_⟩ (by dsimp only;omega)) (λhz=>absurd hz B);dsimp only at I;rw[show(i+1).toNat=i.toNat+1 by omega,CC,h5.1]at I;rcases Al.1 I with q|q
   ·exact Q y q
   ·have q:=A7.1 q;rw[q,xe];dsimp only;omega
 ·rcases ag with⟨⟨z,rfl⟩,ad⟩|⟨y,rfl,K,t,M⟩
  ·refine Au ?_;have H: ∀x,Ql L d m h h.length x->TD x p<=k-> ¬e<=TD x p:=λx hx al=>ad _ ((A_ _).2 ⟨x,(F x).2 hx,al,rfl⟩);have l0:BW (L.take 0) p=0:=rfl;have f0:=U.1;rw[show EP p=some (st (L.take 0) p)from rfl,AD,Kh];rcases pg 0 (by rw[l0];omega)with⟨K,t,M⟩|⟨K,t⟩
   ·rw[t,AD,bne_self_eq_false,cond_false];exact AA M λu hu=>AT (λ_=>AB (.inr ⟨rfl,rfl,rfl,rfl,.inl (by omega)⟩)) (λC=>absurd hu C)
   ·exact AA t λar B=>AK (λ_=>AB (.inl ⟨rfl,by omega,H⟩)) (λhz=>absurd hz B)
  ·exact BB (AB (.inr ⟨rfl,rfl,K,t,.inr M⟩))
end Go.Pm
