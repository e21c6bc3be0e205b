/- Texts of wip, joined and shortened by wip/tools/pack.py; nothing is assumed. -/
import Derived.Test.YtdbincbpjobdpaaGreatK11
import Derived.Sort.AssemblyPlain
import Derived.KernelRfl
noncomputable section
set_option linter.all false
set_option maxHeartbeats 1000000
open Option renaming some->Z
open List renaming length->U
open Go renaming Ψ->S
open Bool renaming false->Y
open Bool renaming true->V
open Option renaming none->W
open Option renaming some->δ,none->ε,bind->σ
open Bool renaming true->ζ,false->η
open List renaming length->θ
open Go.IntKind renaming wrap->ι
open BitVec renaming ofInt->κ,toNat->π
open Nat renaming beq->ξ
open Int renaming toNat->ο
open Decidable renaming decide->τ
namespace Go.Pm
open Go Go.Ab
def ACd{x:AZ×Int}(h:De x.1)(c:x.2=x.1.1+U x.1.2.1-1):Ap (EP x) λr=>r.1.2.2=r.1.1+U r.1.2.1-1/\r.1.1=x.1.1:=by refine AA Bb λv e=>AO (λa=>?_) (λ_=>?_);grind;refine AA Du λf b=>?_;rw[h.last]at b;have d:=h.2.2.2.2.1;refine AC (N! · o!) (y? ⟨?_,rfl⟩);grind
def AAZ{b}{x:Int}(h:CX b)(f:x<=1000/\ -1000<=x):Ap (Fm b x) λr=>r.2.1.2.2=r.2.1.1+U r.2.1.2.1-1/\r.2.1.1=1:=by refine AA (Jt h f) λj d=>?_;obtain⟨c,g,i,q2,q3,q4,_⟩:=d;refine AA Em λk e=>AA (ACd q3 (e q3)) λl a=>AB ⟨a.1,a.2.trans q4⟩
def jR{x:AZ×Int}(h:De x.1)(p:x.1.2.2=x.1.1+U x.1.2.1-1)(l:x.1.1<=x.2)(m:x.2<=x.1.2.2+1)(n:x.2<=1099511627776):Ap (Kh x) λr=>r.2=0/\De r.1/\r.1.1=x.2:=by obtain⟨a1,a2,a3,a4,a5,a6⟩:=id h;refine AA Bb λv q=>AO (λa=>?_) (λ_=>?_);grind;refine AC (N! · o!) (λ_=>AA Du λf d=>?_);rw[h.last]at d;have g:=AY (x:=f+1);have j:=AY (x:=x.1.2.2+1);have k:=AY (x:=x.2-x.1.1);refine AC (N! · o!) (λ_=>AC (N! · o!) (λ_=>AC (N! · o!) (λ_=>AA (Bg o! k! k!) λs b=>?_)));have l2:=b.2;simp only[len]at l2;refine AA (Aa w!) λt c=>AB ⟨rfl,?_,rfl⟩;refine⟨k!,k!,k!,k!,k!,λi e o=>?_⟩;grind
def Ris(l:S Int)(n:Int):Prop:=∀(i:Nat)(a b:Int),(i:Int)+1<n->l[i]?=Z a->l[i+1]?=Z b->a<b
def BD(n:Int)(l:S Int):Prop:=1<=n/\n<=64/\1<=U l/\U l<=16/\l[0]?=Z 0/\Ris l (U l)/\∀a,l[U l-1]?=Z a->a<n
def nL{x:Int×List Int}:Ap (Fv x) λr=>r=ζ↔BD x.1 x.2:=by
 unfold Fv;refine AC (λc=>AB ⟨λd=>(by cases d),λh=>(by have:=h.1;omega)⟩) (λL=>AC (λc=>AB ⟨λd=>(by cases d),λh=>(by have:=h.2.1;omega)⟩) (λM=>AC (λc=>AB ⟨λd=>(by cases d),λh=>(by have:=h.2.2.1;simp only[len]at c;omega)⟩) (λy=>AC (λc=>AB ⟨λd=>(by cases d),λh=>(by have:=h.2.2.2.1;simp only[len]at c;omega)⟩) (λz=>?_))));simp only[len]at y z;refine AA (AJ (Ae _)) λQ E=>?_;have f:=E.1;refine AL (λc=>AB ⟨λd=>(by cases d),λh=>?_⟩) (λo=>?_);have:=h.2.2.2.2.1;simp only[lK]at f;rw[f]at this;exact N! (Ba this) c;rw[o]at f;refine AA (P:=λr=>(r=.inl η/\¬Ris x.2 (θ x.2))\/(r=.inr ()/\Ris x.2 (θ x.2))) ?_ λr hr=>?_;refine AW (λ(s:Int)=>1<=s/\s<=θ x.2/\Ris x.2 s) (λ(s:Int)=>((θ x.2:Int)-s).toNat) ⟨Ae _,o!,λi a b v=>N! v o!⟩ (λs G=>?_);obtain⟨N,O,w⟩:=G;unfold Ma;have A:=AY (x:=s-1);have B:=AY (x:=s+1);rw[A,B];refine AC (λk=>?_) (λk=>AB (.inr ⟨rfl,?_⟩));simp only[len]at k;refine AA (AJ) λa j=>AA (AJ o! k) λb u=>?_;have t:(s-1).toNat+1=s.toNat:=o!
 refine AC (λJ=>AB (.inl ⟨rfl,λH=>?_⟩)) (λm=>AB ⟨⟨o!,o!,λi p q v n l=>?_⟩,o!⟩);have:=H (s-1).toNat a b o! j.1 (by rw[t];exact u.1);omega;by_cases I:(i:Int)+1<s;exact w i p q I n l;have C:i=(s-1).toNat:=o!
 subst C;rw[t]at l;rw[j.1]at n;rw[u.1]at l;have:=Ba n;have:=Ba l;omega;simp only[len]at k;have:s=θ x.2:=o!
 rw[<-this];exact w;rcases hr with⟨rfl,hr⟩|⟨rfl,hr⟩;exact BB (AB ⟨λd=>(by cases d),λh=>N! h.2.2.2.2.2.1 hr⟩);apply Ax;have e:=AY (x:=len x.2-1) i!;rw[e];refine AA (AJ i! i!) λK F=>AB ?_;have g:=F.1;have D:(len x.2-1).toNat=θ x.2-1:=i!
 rw[D]at g;rw[K!];refine⟨λm=>⟨o!,o!,o!,o!,f,hr,λa j=>?_⟩,λh=>h.2.2.2.2.2.2 K g⟩;rw[g]at j;have:=Ba j;omega
def BI(i:Int)(l:S Int):Prop:=1<=U l/\U l<=16/\l[0]?=Z 0/\Ris l (U l)/\∀a,l[U l-1]?=Z a->a<i
def BI.mono{i}{l}(h:BI i l):BI (i+1) l:=⟨h.1,h.2.1,h.2.2.1,h.2.2.2.1,λa b=>by have:=h.2.2.2.2 a b;omega⟩
def BI.push{i}{l m:S Int}(h:BI i l)(u:U l<16)(r:m=l++[i]):BI (i+1) m:=by
 subst r;obtain⟨s,t,n,o,p⟩:=h;have g:(l++[i]).length=U l+1:=q!
 refine⟨o!,o!,?_,λk a b q c d=>?_,λa c=>?_⟩;rw[CW o!];exact n;rw[g]at q;rw[CW o!]at c;by_cases f:k+1<U l;rw[CW f]at d;exact o k a b o! c d;have j:k=U l-1:=o!
 subst j;rw[Cl o!]at d;have e:U l-1+1-U l=0:=o!
 rw[e]at d;simp at d;have:=p a c;omega;rw[g]at c;rw[Cl o!]at c;have e:U l+1-1-U l=0:=o!
 rw[e]at c;simp at c;omega
def ACb{b}{x:Int}(h:CX b)(d:1<=x/\x<=64):Ap (Lj b x) λr=>CX r.2/\BD x r.1:=by
 unfold Lj;refine AA (P:=λr=>CX r.2/\BD x r.1) ?_ λr hr=>AB hr;refine AW (λs=>1<=s.1/\s.1<=x/\BI s.1 s.2.1/\CX s.2.2) (λs=>(x-s.1).toNat) ⟨Ae _,d.1,⟨q!,q!,q!,λi a b q=>N! q w!,λa o=>by simp at o;omega⟩,h⟩ (λs n=>?_);obtain⟨u,v,c,g⟩:=n;unfold Sj;have e:=AY (x:=s.1+1);rw[e];refine AC (λp=>?_) (λp=>AB ⟨g,?_⟩);refine AA (Ag g g!) λw f=>AP (λ_=>?_) (y? ⟨⟨d!,d!,c.mono,f.1⟩,d!⟩);refine AA (P:=λl=>BI (s.1+1) l) ?_ λz m=>AB ⟨⟨d!,d!,m,f.1⟩,d!⟩;refine AC (λt=>?_) (y? c.mono);simp only[len]at t;exact AA (Aa w!) λy k=>AB (c.push o! k.1);have j:s.1=x:=o!
 rw[j]at c;exact⟨d.1,d.2,c.1,c.2.1,c.2.2.1,c.2.2.2.1,c.2.2.2.2⟩
def FR(l:S Aq)(m n:Int):Prop:=(∀(i:Nat)(f:Aq),(i:Int)<n->l[i]?=Z f->0<f.2.1/\f.2.1<m)/\∀(i:Nat)(f g:Aq),(i:Int)+1<n->l[i]?=Z f->l[i+1]?=Z g->f.2.1<g.2.1
def VB(a:AI):Prop:=BD a.2.1 a.1/\1<=a.2.2.2.1/\a.2.2.2.1<=1099511627777/\1<=a.2.2.2.2/\a.2.2.2.2<=1073741825/\U a.2.2.1<=256/\FR a.2.2.1 a.2.2.2.2 (U a.2.2.1)
def Wl{x:AI}:Ap (C7 x) λr=>r=ζ↔VB x:=by
 unfold C7;refine AA nL λU w=>AO (λj=>AB ⟨λb=>(by cases b),λh=>(by rw[w.2 h.1]at j;cases j)⟩) (λj=>?_);have H:=w.1 j;refine AC (λc=>AB ⟨λb=>(by cases b),λh=>(by have:=h.2.1;omega)⟩) (λN=>AC (λc=>AB ⟨λb=>(by cases b),λh=>(by have:=h.2.2.1;omega)⟩) (λO=>AC (λc=>AB ⟨λb=>(by cases b),λh=>(by have:=h.2.2.2.1;omega)⟩) (λQ=>AC (λc=>AB ⟨λb=>(by cases b),λh=>(by have:=h.2.2.2.2.1;omega)⟩) (λR=>AC (λc=>AB ⟨λb=>(by cases b),λh=>(by have:=h.2.2.2.2.2.1;simp only[len]at c;omega)⟩) (λA=>?_)))));simp only[len]at A;refine AA (P:=λr=>(r=.inl η/\¬FR x.2.2.1 x.2.2.2.2 (θ x.2.2.1))\/(r=.inr ()/\FR x.2.2.1 x.2.2.2.2 (θ x.2.2.1))) ?_ λr hr=>?_;refine AW (λ(s:Int×Int)=>0<=s.2/\s.2<=θ x.2.2.1/\FR x.2.2.1 x.2.2.2.2 s.2/\0<=s.1/\(s.2=0->s.1=0)/\∀f,0<s.2->x.2.2.1[(s.2-1).toNat]?=δ f->f.2.1=s.1) (λ(s:Int×Int)=>((θ x.2.2.1:Int)-s.2).toNat) ⟨Ae _,d!,⟨λi f k=>N! k d!,λi f g k=>N! k d!⟩,Ae _,λ_=>rfl,λf d=>N! d d!⟩ (λs G=>?_);obtain⟨q,S,t,T,L,z⟩:=G;unfold Jn;have e:=AY (x:=s.2+1);rw[e];refine AC (λj=>?_) (λj=>AB (.inr ⟨rfl,?_⟩));simp only[len]at j;refine AA (AJ q j) λu D=>?_;have a:=D.1;refine AC (λJ=>AB (.inl ⟨rfl,λn=>?_⟩)) (λK=>?_);by_cases b:s.2=0;have:=(n.1 s.2.toNat u o! a).1;have:=L b;omega;obtain⟨f,d⟩:∃f,x.2.2.1[(s.2-1).toNat]?=δ f:=⟨_,As o!⟩
 have m:(s.2-1).toNat+1=s.2.toNat:=o!
 have:=n.2 (s.2-1).toNat f u o! d (by rw[m];exact a);have:=z f o! d;omega;refine AA (AJ q j) λv E=>?_;have B:v=u:=by have:=E.1;rw[a]at this;exact(Ba this).symm
 subst B;refine AC (λI=>AB (.inl ⟨rfl,λn=>?_⟩)) (λy=>?_);have:=(n.1 s.2.toNat v o! a).2;omega;refine AA (AJ q j) λM F=>AB ?_;have C:M=v:=by have:=F.1;rw[a]at this;exact(Ba this).symm
 subst C;refine⟨⟨d!,d!,⟨λi f k d=>?_,λi f g k d p=>?_⟩,d!,λb=>N! b d!,λf _ d=>?_⟩,d!⟩;dsimp only at k;by_cases l:(i:Int)<s.2;exact t.1 i f l d;have o:i=s.2.toNat:=o!
 subst o;rw[a]at d;have:=Ba d;subst this;exact o!;dsimp only at k;by_cases l:(i:Int)+1<s.2;exact t.2 i f g l d p;have o:i=(s.2-1).toNat:=o!
 have m:i+1=s.2.toNat:=o!
 rw[m,a]at p;have:=Ba p;subst this;rw[o]at d;have:=z f o! d;omega;dsimp only at d⊢;have m:(s.2+1-1).toNat=s.2.toNat:=o!
 rw[m,a]at d;have:=Ba d;rw[this];simp only[len]at j;have:s.2=θ x.2.2.1:=o!
 rw[<-this];exact t;rcases hr with⟨rfl,hr⟩|⟨rfl,hr⟩;exact BB (AB ⟨λb=>(by cases b),λh=>N! h.2.2.2.2.2.2 hr⟩);exact Ax (AB ⟨λ_=>⟨H,o!,o!,o!,o!,o!,hr⟩,λ_=>rfl⟩)
def qU{x}:Ap (IQ x) λr=>r=V↔0<=x/\x<64:=by
 unfold IQ;exact x!
theorem dn{x}:Ap (OB x) λr=>r=V↔Ow x:=by
 unfold OB Ow
 exact x!
def K8{x}:Ap (OD x) λr=>r=V↔0<=x.1/\x.1<x.2.1:=by
 unfold OD;exact x!
def uW{x}:Ap (Mk x) λr=>r=V↔x=QL:=by grind[Mk,QL,AB,Prod.ext_iff]
def o7{x}:Ap (Gf x) λr=>r=V:=by grind[Gf,AB]
def o8{x}:Ap (TF x) λr=>r=V↔1<=x.2.2.2.2.2.1/\x.2.2.2.2.2.1<=x.2.2.2.1:=by
 unfold TF;exact x!
def o9{x}:Ap (TG x) λr=>r=V↔0<=x.1/\x.1<64/\x.2=QL.2:=by
 unfold TG QL;have⟨a,b,⟨c,d⟩,e,f⟩:=x;refine AK (λg=>?_) (λg=>AB ?_);refine AC (λh=>AB ?_) (λh=>AB ?_);simp at g;simp[g,h];try omega
 simp;try omega
 grind[Prod.ext_iff]
theorem Ka{x}:Ap (Ge x) λr=>MI x->r=V:=by
 unfold Ge;refine AC (λi=>AB λh=>?_) (λs=>?_);have:=h.1;omega;refine AC (λi=>AB λh=>?_) (λt=>?_);have:=h.2.1;omega;refine AC (λi=>AB λh=>?_) (λu=>?_);have:=h.2.2.2.2.2.2.2.2;unfold Va at this;omega;refine AC (λi=>AB λh=>?_) (λv=>?_);have:=h.2.2.2.2.2.2.2.2;unfold Va at this;omega;refine AA K8 λw j=>AO (λi=>AB λh=>?_) (λn=>?_);rw[j.2 ⟨h.2.2.1,h.2.2.2.1⟩]at i;cases i;refine AA K8 λy k=>AO (λi=>AB λh=>?_) (λo=>?_);rw[k.2 ⟨h.2.2.2.2.1,h.2.2.2.2.2.1⟩]at i;cases i;refine AA K8 λz l=>AO (λi=>AB λh=>?_) (λp=>?_);rw[l.2 ⟨h.2.2.2.2.2.2.1,h.2.2.2.2.2.2.2.1⟩]at i;cases i;refine Ap.mono (P:=λr=>Va x->r=V) ?_ λr h q=>h q.2.2.2.2.2.2.2.2;clear j k l n o p;have⟨a,b,c,d,e,f,g,m⟩:=x;unfold Va;dsimp only at*;refine AC (N! · o!) (λk0=>?_);exact x!
def il{x}:Ap (Ck x) λr=>r=wi (wi (x.1+len x.2.1)-1):=by grind[Ck,AB]
def HB{x:AZ}(h:De x):Ap (Ha x) λr=>r=true:=by have⟨a1,a2,a3,a4,a5,a6⟩:=id h;unfold Ha;refine AC (λa=>absurd a o!) (λ_=>AC (λa=>absurd a o!) (λ_=>AC (λa=>absurd a (by simp[len];omega)) (λ_=>?_)));rw[(AY (x:=x.1-1))];refine AC (λa=>absurd a o!) (λ_=>AA il λf b=>?_);rw[h.last]at b;refine AC (λa=>absurd a o!) (λ_=>AA (P:=λr=> ∃u,r= .inr u) ?_ λr hr=>?_);refine AW (λ(s:Int)=>0<=s/\s<=x.2.1.length) (λ(s:Int)=>((x.2.1.length:Int)-s).toNat) ⟨Ae _,o!⟩ (λs c=>?_);have⟨d,e⟩:=c;unfold Yr;refine AC (λa=>?_) (λ_=>AB ⟨_,rfl⟩);grind[AA,AJ,AY,AL,Ka,AO,AB];grind[Ax,AB]
def Rc{x}(h:De x):Ap (OE x) λr=>r=x.1+U x.2.1-1:=by unfold OE;refine AA (HB h) λv c=>AO (λb=>?_) (λ_=>?_);rw[c]at b;cases b;refine AA il λd a=>AB ?_;rw[h.last]at a;exact a
def Fl{x:AI}(h:VB x):Ap (F6 x) λr=>r=true:=by
 obtain⟨⟨L,M,N,O,p,t,v⟩,a1,a2,a3,a4,a5,a6⟩:=id h;unfold F6;refine AC (λa=>absurd a o!) (λ_=>AC (λa=>absurd a o!) (λ_=>AC (λa=>absurd a i!) (λ_=>AC (λa=>absurd a i!) (λ_=>AA (AJ (Ae _)) λQ B=>?_))));have b:=B.1;rw[show((0:Int).toNat)=0 from rfl,p]at b;injection b with b;refine AL (λa=>absurd b.symm a) (λ_=>?_);have w:=AY (x:=len x.1-1) i!;rw[w];refine AA (AJ i! i!) λI C=>?_;have c:=C.1;have y:(len x.1-1).toNat=x.1.length-1:=i!
 rw[y]at c;refine AC (λa=>absurd a (by have:=v I c;omega)) (λ_=>AA (P:=λr=> ∃u,r= .inr u) ?_ λr hr=>?_);refine AW (λ(s:Int)=>1<=s/\s<=x.1.length) (λ(s:Int)=>((x.1.length:Int)-s).toNat) ⟨Ae _,o!⟩ (λs i=>?_);obtain⟨o,F⟩:=i;unfold Xn;refine AC (λa=>?_) (λ_=>AB ⟨_,rfl⟩);simp only[len]at a;have z:=AY (x:=s-1);have e:=AY (x:=s+1);rw[z,e];refine AA (AJ) λJ D=>AA (AJ o! a) λK E=>?_
 have q:=t (s-1).toNat J K o! D.1 (by have:(s-1).toNat+1=s.toNat:=o!;rw[this];exact E.1)
 refine AC (λa=>absurd a o!) (λ_=>AB ⟨o!,o!⟩);obtain⟨u,rfl⟩:=hr;apply Ax;refine AC (λa=>absurd a o!) (λ_=>AC (λa=>absurd a o!) (λ_=>AC (λa=>absurd a o!) (λ_=>AC (λa=>absurd a o!) (λ_=>AC (λa=>absurd a i!) (λ_=>AA (P:=λr=> ∃u,r= .inr u) ?_ λr hr=>?_)))));refine AW (λ(s:Int×Int)=>0<=s.2/\s.2<=x.2.2.1.length/\(s.2=0->s.1=0)/\ ∀f:Aq,0<s.2->x.2.2.1[(s.2-1).toNat]? =some f->s.1=f.2.1) (λ(s:Int×Int)=>((x.2.2.1.length:Int)-s.2).toNat) ⟨Ae _,d!,λ_=>rfl,λf m=>by dsimp only at m;omega⟩ (λs i=>?_);obtain⟨o,F,G,H⟩:=i;unfold Xo;refine AC (λa=>?_) (λ_=>AB ⟨_,rfl⟩);simp only[len]at a;have e:=AY (x:=s.2+1);rw[e];refine AA (AJ o a) λl g=>?_;have q1:=a6.1 s.2.toNat l o! g.1;have q2:s.1<l.2.1:=by
  by_cases k:s.2=0;rw[G k];exact q1.1;have j:(s.2-1).toNat<x.2.2.1.length:=o!
  have n:x.2.2.1[(s.2-1).toNat]? =some x.2.2.1[(s.2-1).toNat]:=As j
  have:=a6.2 (s.2-1).toNat _ l o! n (by have:(s.2-1).toNat+1=s.2.toNat:=o!;rw[this];exact g.1)
  rw[H _ o! n];exact this
 refine AC (λa=>absurd a o!) (λ_=>AC (λa=>absurd a (by have:=q1.2;omega)) (λ_=>AB ⟨⟨d!,d!,λk=>?_,λf m d=>?_⟩,d!⟩));dsimp only at k;omega;dsimp only at d⊢;have A:(s.2+1-1).toNat=s.2.toNat:=o!
 rw[A,g.1]at d;injection d with d;rw[d];obtain⟨u,rfl⟩:=hr;exact Ax (AB rfl)
def aF{x:AI×AZ×Int×Int}(h:VB x.1)(c:De x.2.1)(e:0<=x.2.2.1/\x.2.2.1<x.1.2.1/\0<=x.2.2.2):Ap (Ps x) λr=>r=0:=by unfold Ps;refine AA (Fl h) λv d=>AO (λa=>?_) (λ_=>?_);rw[d]at a;cases a;refine AA (HB c) λf b=>AO (λa=>?_) (λ_=>?_);rw[b]at a;cases a;refine AC (N! · o!) (λ_=>AC (N! · o!) (λ_=>AC (N! · o!) (y? rfl)))
def bu{x p}{c}{k:Nat}(h:CS x p c)(o:U x<=1099511627776)(q:1<=k)(m:k<=8):Ap (B4 c (k:Int)) λr=>CS x (p++C9 r.1 k) r.2/\(r.2.2.2=0->cF k r.1)/\(c.2.2≠0->r=(0,c)):=by obtain⟨s,i,e⟩:=c;obtain⟨j,l⟩:=h;subst j;refine AL (λd=>AB ⟨⟨rfl,λb=>N! b d⟩,λb=>N! b d,λ_=>rfl⟩) (λd=>?_);subst d;obtain⟨a,hr,n⟩:=l rfl;subst hr n;rw[Ac]at o;rw[YD o! o! o!];by_cases g:(k:Int)<=U a;rw[C! g,AD,CA];obtain⟨q1,q2⟩:=tJ (t:=a) (k:=k) o! m;refine AB ⟨⟨rfl,λ_=>⟨a.drop k,?_,?_⟩⟩,λ_=>q1,λf=>N! rfl f⟩;simp_all;dsimp only;rw[AY,Ac,A2];omega;rw[D! g,AD];exact AB ⟨⟨rfl,λb=>N! (show(5:Int)=0 from b) g!⟩,λb=>N! (show(5:Int)=0 from b) g!,λf=>N! rfl f⟩
def AFH{x p}{c}{n:Int}(h:CS x p c)(l:U x<=1099511627776)(hn:c.2.2=0->0<=n/\n<4294967296):Ap (FJ c n) λr=>CS x (p++r.1) r.2/\(r.2.2.2=0->(U r.1:Int)=n/\c.2.2=0):=by
 obtain⟨s,f,e⟩:=c;obtain⟨g,i⟩:=h;subst g;unfold FJ;by_cases d:e=0;subst d;obtain⟨a,hr,j⟩:=i rfl;obtain⟨o,t⟩:=hn rfl;subst hr j;obtain⟨m,rfl⟩:=Ef o;rw[Ac]at l;rw[show wi (((p++a).length:Int)-(U p:Int))=U a by rw[Ac,AY];omega];by_cases q:(m:Int)<=U a;rw[F! o!,A!,AD,show((0:Int) !=0)=Y by decide,A!];have k:SL (p++a) (wi (wi ((U p:Int)+(m:Int))-(m:Int))) (wi ((U p:Int)+(m:Int)))=Z (a.take m):=by rw[AY (x:=(U p:Int)+(m:Int)),AY];unfold SL;rw[C! k!,show((U p:Int)+(m:Int)-(m:Int)).toNat=U p by omega,RS,show((U p:Int)+(m:Int)).toNat-U p=m by omega]
 rw[k,AD];refine AB ⟨⟨rfl,λ_=>⟨a.drop m,?_,?_⟩⟩,λ_=>⟨?_,k!⟩⟩;simp_all;dsimp only;rw[AY,Ac,BQ];omega;grind;rw[G! o!,B!,AD,show((5:Int) !=0)=V by decide,B!];exact AB ⟨⟨rfl,λb=>N! (show(5:Int)=0 from b) g!⟩,λb=>N! (show(5:Int)=0 from b) g!⟩;rw[beq_false_of_ne d,A!,bne_iff_ne.2 d,B!];exact AB ⟨⟨rfl,λb=>N! b d⟩,λb=>N! b d⟩
def AFF{x p}{c}(h:CS x p c)(j:U x<=1099511627776):Ap (FH c ()) λr=>CS x (p++Ut r.1) r.2/\(r.2.2.2=0->G9 r.1):=by
 refine AA (bu (k:=1) h j g! g!) λv o=>?_;obtain⟨⟨g,l⟩,s,z⟩:=o;refine AL (λd=>AB ⟨⟨g,λa=>N! a d⟩,λa=>N! a d⟩) (λd=>?_);obtain⟨f,hr,i⟩:=l d;have y:=(s d).1 g!;refine AP (λb=>AB ⟨⟨g,λ_=>⟨f,?_,?_⟩⟩,λ_=>⟨BR _,.inr rfl⟩⟩) (λb=>?_);dsimp only;rw[b]at hr;exact hr;dsimp only;rw[b]at i;exact i;refine AC (y? ⟨⟨g,λa=>N! (show(4:Int)=0 from a) g!⟩,λa=>N! (show(4:Int)=0 from a) g!⟩) (λn=>AA (AFH (x:=x) (p:=p++C9 v.1 1) ⟨g,l⟩ j (λ_=>o!)) λw q=>AB ?_);obtain⟨⟨t,A⟩,u⟩:=q;refine⟨⟨t,λa=>?_⟩,λa=>?_⟩;dsimp only at a⊢;obtain⟨m,_⟩:=u a;have e:Ut (V,w.1)=C9 v.1 1++w.1:=by unfold Ut;rw[B!,m]
 grind;dsimp only at a⊢;exact⟨k!,.inl rfl⟩
def ZL{x p a:BZ}{n}{k}(c:x=p++(C9 n k++a))(f:U x<=1099511627776)(e:1<=k)(d:k<=8)(hn:cF k n):B4 (x,(U p:Int),0) (k:Int)=Z (n,x,((p++C9 n k).length:Int),0):=by
 have b:=E! U c;simp only[Ac,A2]at b;unfold B4;dsimp only;rw[show((0:Int) !=0)=Y by decide,A!];conv=>lhs;arg 1;rw[c]
 rw[YD k! o! o!,C! k!,AD,CA,G4 (A2 _ _),qv d hn];rw[Ac,A2];rw[AY];rfl
def AFG{x p w a:BZ}(c:x=p++(w++a))(e:U x<=1099511627776):FJ (x,(U p:Int),0) (U w:Int)=Z (w,x,((p++w).length:Int),0):=by
 have b:=E! U c;simp at b;unfold FJ;rw[show τ (wi ((U x:Int)-(U p:Int))<(U w:Int))=Y from F! (by rw[AY];omega),A!];rw[AD,show((0:Int) !=0)=Y by decide,A!];dsimp only;have d:SL x (wi (wi ((U p:Int)+(U w:Int))-(U w:Int))) (wi ((U p:Int)+(U w:Int)))=Z w:=by rw[AY (x:=(U p:Int)+(U w:Int)),AY];unfold SL;rw[C! o!,c,show((U p:Int)+(U w:Int)-(U w:Int)).toNat=U p by omega,RS,show((U p:Int)+(U w:Int)).toNat-U p=U w by omega,Ya]
 rw[d,AD,AY,Ac];rfl
def AFE{x p a:BZ}{c}(e:x=p++(Ut c++a))(f:U x<=1099511627776)(j:G9 c):FH (x,(U p:Int),0) ()=Z (c,x,((p++Ut c).length:Int),0):=by
 obtain⟨b,d⟩:=c;obtain⟨h,i⟩:=j;dsimp only at h i;unfold FH;cases b with
 |false=>
  have k:d=[]:=k!
  subst k;rw[show(1:Int)=((1:Nat):Int)from rfl,ZL e f g! g! ⟨λ_=>g!,g!,g!⟩];rfl
 |true=>have g:Ut (V,d)=C9 (U d:Int) 1++d:=rfl;rw[g,A6]at e;rw[g];rw[show(1:Int)=((1:Nat):Int)from rfl,ZL e f g! g! ⟨λ_=>k!,o!⟩,AD];rw[show((0:Int) !=0)=Y by decide,A!,show((U d:Int)==255)=Y by grind,A!,F! o!,A!];rw[AFG (by rw[e,A6]) f,AD,A6]
def AJM{x:BZ}(a:U x<=1099511627776):Ap (Js x) λr=>r.2=0->x=By r.1/\G9 r.1.2.2.2.2.2.2.1.2.2.1/\G9 r.1.2.2.2.2.2.2.1.2.2.2/\cF 4 (U r.1.2.2.2.2.2.2.2:Int)/\Ge r.1=Z V:=by
 unfold Js;have I:CS x [] (x,0,0):=⟨rfl,λ_=>⟨x,rfl,rfl⟩⟩
 refine AA (bu (k:=8) I a g! g!) λO y=>AA (bu (k:=1) y.1 a g! g!) λP z=>AA (bu (k:=4) z.1 a g! g!) λQ A=>AA (bu (k:=8) A.1 a g! g!) λR B=>AA (bu (k:=8) B.1 a g! g!) λ_ C=>AA (bu (k:=8) C.1 a g! g!) λ_ D=>AA (bu (k:=4) D.1 a g! g!) λ_ E=>AA (bu (k:=1) E.1 a g! g!) λ_ F=>EA (AFF F.1 a) λq M o=>EA (AFF o.1 a) λs w p=>AA (bu (k:=4) p.1 a g! g!) λj b=>AA (AFH (n:=j.1) b.1 a (λc=>?_)) λJ f=>?_;have:=(b.2.1 c).1 g!;rw[show(256:Int)^4=4294967296 by decide]at this;exact this;refine AL (λh=>AB λc=>N! c h) (λh=>AL (y? n!) (λG=>EA (Ka) λK i _=>AO (y? n!) (λH=>AB λ_=>?_)));subst H;obtain⟨q11,d⟩:=f.2 h;have l:s.2.2.2=0:=Tp λe=>by have:=b.2.2 e;rw[this]at d;exact e d
 have u:=p.2 l;have L:q.2.2.2=0:=Tp λe=>by
  have:s=((Y,[]),q.2):=by have:=w;unfold FH B4 at this;rw[bne_iff_ne.2 e,B!,AD,bne_iff_ne.2 e,B!]at this;injection this with this;exact this.symm
  rw[this]at l;exact e l
 have t:=o.2 L;obtain⟨g,m,N⟩:=f.1.2 h;have hr:g=[]:=by simp only[len]at G;have v:=E! U m;rw[Ac]at v;exact Eh o!
 subst hr;refine⟨?_,t,u,?_,i⟩;rw[m];unfold By;dsimp only;rw[q11];simp only[A6,CG,Do];dsimp only;rw[q11];exact b.2.1 d
def AJL{e}(h:MI e):Js (By e)=Z (e,0):=by
 obtain⟨s,t,H,w,y,z,A,B,C,D,E⟩:=h.cells;have I:=Sf h;have g:cF 4 (U e.2.2.2.2.2.2.2:Int):=⟨λ_=>by rw[show(256:Int)^4=4294967296 by decide];omega,o!⟩
 have a:By e=[]++(C9 e.1 8++(C9 e.2.1 1++(C9 e.2.2.1 4++(C9 e.2.2.2.1 8++(C9 e.2.2.2.2.1 8++(C9 e.2.2.2.2.2.1 8++(C9 e.2.2.2.2.2.2.1.1 4++(C9 e.2.2.2.2.2.2.1.2.1 1++
 (Ut e.2.2.2.2.2.2.1.2.2.1++(Ut e.2.2.2.2.2.2.1.2.2.2++(C9 (U e.2.2.2.2.2.2.2:Int) 4++(e.2.2.2.2.2.2.2++[])))))))))))):=by rw[Do];rfl
 generalize By e=x at*;have i:B4 (x,((0:Int)),0) 8=_:=ZL (p:=[]) (k:=8) a o! g! g! w;rw[CG]at i;rw[CG]at a;have j:=ZL (k:=1) a o! g! g! y;rw[<-A6]at a;have l:=ZL (k:=4) a o! g! g! z;rw[<-A6]at a;have m:=ZL (k:=8) a o! g! g! A;rw[<-A6]at a;have n:=ZL (k:=8) a o! g! g! B;rw[<-A6]at a;have o:=ZL (k:=8) a o! g! g! C;rw[<-A6]at a;have q:=ZL (k:=4) a o! g! g! D;rw[<-A6]at a;have r:=ZL (k:=1) a o! g! g! E;rw[<-A6]at a;have F:=AFE a o! s;rw[<-A6]at a;have G:=AFE a o! t;rw[<-A6]at a;have c:=ZL (k:=4) a o! g! g! g;rw[<-A6]at a;have d:=AFG a o!;rw[Do]at a;rw[<-a]at d;unfold Js;rw[i,AD];rw[show((1:Nat):Int)=1 from rfl]at j r;rw[show((4:Nat):Int)=4 from rfl]at l q c;rw[show((8:Nat):Int)=8 from rfl]at m n o;rw[j,AD,l,AD,m,AD,n,AD,o,AD,q,AD,r,AD,F,AD,G,AD,c,AD,d,AD];obtain⟨b,u,v⟩:=Ka (x:=e);have f:b=V:=v h;subst f;dsimp only[len];rw[show((0:Int) !=0)=Y by decide,A!,H!,A!];rw[show(e.1,e.2.1,e.2.2.1,e.2.2.2.1,e.2.2.2.2.1,e.2.2.2.2.2.1,(e.2.2.2.2.2.2.1.1,e.2.2.2.2.2.2.1.2.1,e.2.2.2.2.2.2.1.2.2.1,e.2.2.2.2.2.2.1.2.2.2),e.2.2.2.2.2.2.2)=e from rfl,u,AD,B9,A!]
def ABH{a v i:Int}(f:0≤i)(c:i<8)(e:0≤a)(b:a<2^(8*ο i))(g:0≤v)(d:v<256):
  0<=ι .u64 (((π ((κ 64 a)|||(κ 64 (ι .u64 ((ι .u64 v)*(2^(min (ο (wi (8*i))) 64))))))):Nat):Int)/\
  ι .u64 (((π ((κ 64 a)|||(κ 64 (ι .u64 ((ι .u64 v)*(2^(min (ο (wi (8*i))) 64))))))):Nat):Int)<2^(8*(wi (i+1)).toNat):=by
 have h:=zS f c e b g d;rw[(by rw[(AY),XH];omega:ι .u64 (wi (8*i))=wi (8*i))]at h;exact h
def AHM{n:Int}(h:n<=1):(2:Int)^(8*ο n)<=256:=by
 have:ο n=0\/ο n=1:=o!
 rcases this with h|h<;>rw[h]<;>decide
def Jf{x:BZ×Int×Int}(h:U x.1<=2199023255552):Ap (Bx x) λr=>(r.2=0->0<=x.2.1/\x.2.1+x.2.2<=U x.1/\(x.2.2<=4->0<=r.1/\r.1<4294967296)/\(x.2.2<=1->r.1<256))/\(r.2≠0->r.1=0):=by
 unfold Bx;refine AC (y? ⟨n!,λ_=>rfl⟩) (λo=>AC (y? ⟨n!,λ_=>rfl⟩) (λp=>AC (y? ⟨n!,λ_=>rfl⟩) (λq=>AC (y? ⟨n!,λ_=>rfl⟩) (λf=>?_))));simp[len]at f⊢;rw[(AY (x:=(U x.1:Int)-x.2.1))];refine AC (y? ⟨n!,λ_=>rfl⟩) (λt=>AA (P:=λr=>0<=r/\r<2^(8*x.2.2.toNat)) ?_ λA y=>AB ⟨λ_=>⟨o!,o!,λg=>?_,λc=>?_⟩,λb=>N! rfl b⟩);refine AW (λs=>0<=s.2/\s.2<=x.2.2/\0<=s.1/\s.1<2^(8*s.2.toNat)) (λs=>(x.2.2-s.2).toNat) ⟨Ae _,d!,Ae _,u!⟩ (λs j=>?_);have⟨m,z,d,e⟩:=j;unfold Uz;refine AC (λk=>?_) (λk=>AB ⟨d,?_⟩);rw[(AY (x:=x.2.1+s.2))];refine AA (RY o! o!) λn c=>AC (λl=>?_) (y? ?_);grind[AY];have⟨u,w⟩:=ABH (a:=s.1) (v:=n) (i:=s.2) m o! d e c.1 c.2;grind[AY];have:s.2=x.2.2:=o!
 rw[<-this];exact e;have:=ACM g;grind[AY];have:=AHM c;grind[AY]
def rF(a:BitVec 32):0<=ι .u32 (((π (a&&&κ 32 15):Nat)):Int)/\ι .u32 (((π (a&&&κ 32 15):Nat)):Int)<16:=by grind[xN,BitVec.toNat_and,κ,Nat.and_le_right]
def kR{x}:Ap (LK x) λr=>True:=by unfold LK;refine AA (P:=λ_=>True) ?_ λv _=>AB trivial;refine AW (λs=>0<=s.1/\s.1<=16) (λs=>(16-s.1).toNat) ⟨Ae _,g!⟩ (λs a=>?_);have⟨c,d⟩:=a;unfold Vn;refine AC (λb=>?_) (y? trivial);refine AA (P:=λ_=>True) ?_ λg _=>?_;refine AW (λs=>0<=s.2/\s.2<=4) (λs=>(4-s.2).toNat) ⟨Ae _,d!⟩ (λs a=>?_);have⟨e,f⟩:=a;unfold Lh;rw[(AY (x:=s.2+1))];refine AC (λb=>?_) (y? trivial);refine AA (P:=λ_=>True) (AK (y? trivial) (y? trivial)) λv _=>AB ⟨d!,d!⟩;rw[(AY (x:=s.1+1))];refine AA (Dc c b) λh _=>AA (Dc c b) λi _=>AB ⟨d!,d!⟩
theorem vn{x:BZ}(h:x.length<=2199023255552):Ap (Oh x) λr=>True:=by unfold Oh;refine AA kR λe _=>AA (P:=λ_=>True) ?_ λv _=>AB trivial;refine AW (λ(s:Int×Int)=>0<=s.2/\s.2<=x.length) (λ(s:Int×Int)=>((x.length:Int)-s.2).toNat) ⟨Ae _,d!⟩ (λs b=>?_);have⟨c,d⟩:=b;unfold U0;rw[(AY (x:=s.2+1))];refine AC (λa=>?_) (λ_=>AB trivial);simp[len]at a;refine AA (RY c a) λf _=>AA (Dc (rF _).1 (rF _).2) λg _=>AA (Dc (rF _).1 (rF _).2) λi _=>AA (Dc (rF _).1 (rF _).2) λj _=>AA (Dc (rF _).1 (rF _).2) λk _=>AB ⟨d!,d!⟩
theorem aE{x:BZ×Int}(h:U x.1<=2199023255552):Ap (Dr x) λr=>r.2.2=0->U r.1<=8392/\x.2+8+U r.1=r.2.1/\0<=x.2/\r.2.1<=U x.1:=by unfold Dr;refine AC (y? n!) (λg=>AC (y? n!) (λe=>?_));simp[len]at e;refine AA (Jf h) λd f=>AL (λb=>AB λa=>N! a b) (λc=>?_);have⟨a1,a2,a3,_⟩:=f.1 c;have a5:=a3 d!;dsimp only at a2;refine AC (y? n!) (λi=>?_);rw[(AY (x:=x.2+4)),AY (x:=x.2+4+d.1),(AY (x:=x.2+4+d.1+4))];refine AA (Jf h) λk j=>?_;grind[AL,AB,AA,Ca,vn]
def ja{x}:Ap (FM x) λr=>True:=by unfold FM Ej;refine AA (P:=λ_=>True) ?_ λv _=>AB trivial;refine AC (λa=>?_) (y? trivial);simp[len]at a;exact AA (Ca (Ae _) i! b!) λv _=>AB trivial
def RB(b:Fy):Prop:=U b.1<=2199023255552/\0<=b.2.1/\b.2.1<=U b.1
def Dd{b}{x:Int}(h:RB b)(j:1<=x/\x<=8):Ap (B4 b x) λr=>RB r.2/\(x<=4->0<=r.1/\r.1<4294967296):=by have⟨a1,a2,a3⟩:=id h;unfold B4;refine AL (y? ⟨h,λ_=>d!⟩) (λ_=>AA (Jf (by exact a1)) λf a=>?_);dsimp only at a;refine AA (P:=λr=>RB r) ?_ λk d=>AB ⟨d,λe=>?_⟩;refine AP (λc=>AB ?_) (y? ⟨a1,a2,a3⟩);have⟨g,i,_⟩:=a.1 c;rw[AY];exact⟨a1,d!⟩;by_cases c:f.2=0<;>grind
theorem Vp{b}{x:Int}(h:RB b)(n:0<=x/\x<4294967296):Ap (FJ b x) λr=>RB r.2:=by have⟨a1,a2,a3⟩:=id h;unfold FJ;refine AP (λd=>?_) (λl=>?_);rw[(AY (x:=len b.1-b.2.1) b!)];refine AA (P:=λr=>RB r/\(r.2.2=0->r.2.1+x<=U r.1)) ?_ λe j=>?_;refine AC (y? ⟨⟨a1,a2,a3⟩,λd=>N! d u!⟩) (λk=>AB ⟨h,λ_=>?_⟩);simp[len]at k;omega;have⟨⟨c,f,g⟩,i⟩:=j;refine AL (y? ⟨c,f,g⟩) (λa=>?_);have m:=i a;rw[(AY (x:=e.2.1+x)),(AY (x:=e.2.1+x-x))];exact AA (Ca) λo _=>AB ⟨c,d!⟩;grind[AL,AB]
def Vo{b}{x}(h:RB b):Ap (FH b x) λr=>RB r.2:=by unfold FH;refine AA (Dd h g!) λc a=>AL (y? a.1) (λ_=>AP (y? a.1) (λ_=>?_));have q:=a.2 g!;refine AC (y? a.1) (λ_=>?_);grind[AA,Vp,AB]
theorem qV{x:BZ}(h:U x<=2199023255552):Ap (Js x) λr=>True:=by unfold Js;refine AA (Dd (b:=(x,0,0)) ⟨h,Ae _,d!⟩ g!) λs c=>AA (Dd c.1 g!) λt d=>AA (Dd d.1 g!) λu f=>AA (Dd f.1 g!) λv g=>AA (Dd g.1 g!) λw i=>AA (Dd i.1 g!) λy j=>AA (Dd j.1 g!) λz k=>AA (Dd k.1 g!) λA l=>AA (Vo l.1) λB m=>AA (Vo m) λC n=>AA (Dd n g!) λo a=>AA (Vp a.1 (a.2 g!)) λp e=>AL (y? trivial) (λ_=>AL (y? trivial) (λ_=>AA Ka λq _=>AO (y? trivial) (y? trivial)))
theorem SG{x}:Ap (EK x) λr=>True:=by unfold EK F3;refine BL (BL ?_);refine AK (λ_=>AK (y? trivial) (y? trivial)) (λ_=>AK (y? trivial) (λ_=>AC (y? trivial) (λ_=>AC (y? trivial) (y? trivial))))
theorem uV{x:List Int}(h:x.length<=16777216):Ap (Kq x) λr=>True:=by unfold Kq;refine AA (P:=λ_=>True) ?_ λv _=>BG (λ_ _=>AB trivial) (λ_ _=>AB trivial);refine AW (λ(s:Int)=>0<=s/\s<=x.length) (λ(s:Int)=>((x.length:Int)-s).toNat) ⟨Ae _,o!⟩ (λs a=>?_);have⟨c,d⟩:=a;unfold KZ;rw[(AY (x:=s+1))];refine AC (λb=>?_) (λ_=>AB trivial);grind[AA,AJ,AL,AB]
def pA{x}:Ap (Md x) λr=>r=V->1<=x.1/\x.1<=x.2.1/\x.2.1<=1099511627776/\0<=x.2.2.1/\x.2.2.1<=x.2.2.2.1/\x.2.2.2.1<64/\0<=x.2.2.2.2.1/\x.2.2.2.2.1<=8:=by
 unfold Md;exact x!
def o6{x}:Ap (BF x) λr=>True:=by grind[BF,AP,AB]
def sT{x}:Ap (P4 x) λr=>True:=by unfold P4;refine AA o6 λv _=>AK (λ_=>?_) (y? trivial);refine AC (λ_=>?_) (y? trivial);refine AC (λ_=>?_) (y? trivial);exact AC (y? trivial) (y? trivial)
def qW{x}:Ap (Oe x) λr=>True:=by unfold Oe;grind[AA,SG,uV,AB]
def uX{x:AS}:Ap (VJ x) λr=>r=true->aS x:=by
 unfold VJ;refine AA pA λj d=>AO (λ_=>AB λb=>by cases b) (λa=>?_);have hn:=d a;refine AC (λ_=>AB λb=>by cases b) (λf=>?_);simp[len]at f;have q:aS x:=⟨hn.1,hn.2.1,hn.2.2.1,hn.2.2.2.1,hn.2.2.2.2.1,hn.2.2.2.2.2.1,hn.2.2.2.2.2.2.1,hn.2.2.2.2.2.2.2,o!⟩
 refine AA (P:=λ_=>True) ?_ λv _=>BG (λ_ _=>AB λ_=>q) (λ_ _=>AB λ_=>q);refine AW (λ(s:Int)=>0<=s/\s<=x.2.2.2.2.2.length) (λ(s:Int)=>((x.2.2.2.2.2.length:Int)-s).toNat) ⟨Ae _,o!⟩ (λs e=>?_);have⟨h,i⟩:=e;unfold TI;rw[(AY (x:=s+1)),(AY (x:=s-1))];refine AC (λa=>?_) (λ_=>AB trivial);simp[len]at a;have c:((0<=s+1/\s+1<=x.2.2.2.2.2.length)/\((x.2.2.2.2.2.length:Int)-(s+1)).toNat<((x.2.2.2.2.2.length:Int)-s).toNat):=⟨o!,o!⟩
 refine AA (AJ h a) λk _=>AA Ka λl _=>AO (λ_=>AB trivial) (λ_=>AA sT λm _=>AO (λ_=>AB trivial) (λ_=>AP (λ_=>AC (λ_=>AB trivial) (λ_=>AB c)) (λg=>AA (AJ) λn _=>AC (λ_=>AC (λ_=>AB trivial) (λ_=>AB c)) (λ_=>AA (AJ) λo _=>AA qW λp _=>AC (λ_=>AB trivial) (λ_=>AL (λ_=>AB trivial) (λ_=>AB c))))))
def sS{x:BZ}(h:x.length<=2199023255552):Ap (K5 x) λr=>r.2=0->aS r.1:=by
 unfold K5;refine AA (aE (by exact h)) λp k=>AL (λf=>AB λa=>absurd a f) (λg=>?_);have⟨a1,a2,a3,a4⟩:=k g;dsimp only at a1 a2 a3 a4;refine AL (λ_=>AB n!) (λl=>AA ja λy _=>AO (λ_=>AB n!) (λ_=>?_));have b:p.1.length<=2199023255552:=o!
 refine AA (Jf b) λz _=>AA (Jf b) λA _=>AA (Jf b) λB _=>AA (Jf b) λC _=>AA (Jf b) λD _=>AA (Jf b) λi _=>AO (λ_=>AB n!) (λm=>?_);have n:i.1<=4096:=by simpa using m
 refine AA (P:=λr=> ∀u,r= .inl u->u.1≠0) ?_ λr hr=>BG (λu c=>AB λa=>absurd a (hr u c)) (λu c=>?_);refine AW (λ(s:Int×(Int×((List AE)×(Int×(Int×(Int×(Int×(Int×AS))))))))=>0<=s.2.1/\(s.2.1<=i.1\/s.2.1=0)/\s.2.2.1.length<=s.2.1) (λ(s:Int×(Int×((List AE)×(Int×(Int×(Int×(Int×(Int×AS))))))))=>(i.1-s.2.1).toNat) ⟨Ae _,.inr rfl,q!⟩ (λs o=>?_);have⟨t,v,w⟩:=o;unfold K9;refine AC (λj=>?_) (λ_=>AB λu c=>by cases c);have e:=AY (x:=s.2.1+1);grind[AA,aE,AL,AB,qV,Aa,List.length_cons,List.length_nil];refine AC (λ_=>AB n!) (λ_=>AA uX λq d=>AO (λ_=>AB n!) (λj=>AB λ_=>d j))
abbrev EN:=AE
def AAp(x y:Int):EK (x,y)=Z (if x<y then-1 else if x>y then 1 else 0):=by unfold EK F3;simp only[H!,AD,A!];by_cases a:x<y;simp[a];by_cases b:x>y;simp[a,b];simp[a,b]
theorem oA{x:Int}(h:0<=x/\x<=1099511627776:=by omega):wi x=x:=AY
theorem wip{i:Nat}(h:i<=16777216:=by omega):wi ((i:Int)+1)=((i+1:Nat):Int):=by grind[oA]
def wim{i:Nat}(h:i<=16777216:=by omega):wi ((i:Int)-1)=(i:Int)-1:=by grind[AY]
def bl8(n:Nat):Nat:=if n=0 then 0 else if n<2 then 1 else if n<4 then 2 else if n<8 then 3 else if n<16 then 4 else if n<32 then 5 else if n<64 then 6 else if n<128 then 7 else 8
def pz{n:Nat}(h:n<256):bl8 n<=8/\(1<=n->2^bl8 n<=2*n):=by grind[bl8]
def T8:BZ:=(List.range 256).map λn=>UInt8.ofNat (bl8 n)
def ALE{n:Nat}(h:n<256):six T8 (n:Int)=Z ((bl8 n:Nat):Int):=by have a:=(pz h).1;unfold six T8;simp[h];omega
noncomputable def Lz(x:Int):Ω Int:=
 σ ((
   bif (τ (x>=4294967296))then
    Z ((Int.fdiv x (2^(min (ο 32) 64))),32)
   else
   Z (x,0)):(Ω (Int×Int))) λv0=>
 σ ((
   bif (τ (v0.1>=65536))then
    Z ((Int.fdiv v0.1 (2^(min (ο 16) 64))),wi (v0.2+16))
   else
   Z v0):(Ω (Int×Int))) λv1=>
 σ ((
   bif (τ (v1.1>=256))then
    Z ((Int.fdiv v1.1 (2^(min (ο 8) 64))),wi (v1.2+8))
   else
   Z v1):(Ω (Int×Int))) λv2=>
 σ (six T8 (ι .u8 v2.1)) λv3=>
 Z (wi (v2.2+(wi v3)))
def AJw:QT=Lz:=h!
def AK3(n:Nat):Int.fdiv (n:Int) (2^(min (ο 16) 64))=((n/65536:Nat):Int):=by grind[ο,Int.fdiv_eq_ediv_of_nonneg]
def fd8(n:Nat):Int.fdiv (n:Int) (2^(min (ο 8) 64))=((n/256:Nat):Int):=by grind[ο,Int.fdiv_eq_ediv_of_nonneg]
def xS{y s:Nat}(h:y<256)(c:s<=64):(σ (six T8 (ι .u8 (y:Int))) λa=>δ (wi ((s:Int)+(wi a))))=δ ((s+bl8 y:Nat):Int):=by have b:=(pz h).1;rw[AHs,show(y:Int)%256=(y:Int) by omega,ALE h,AD,oA (x:=((bl8 y:Nat):Int)),oA];exact E! δ o!
def ABk{x:Nat}(h:x<=16777216):∃r:Nat,QT (x:Int)=Z (r:Int)/\r<=32/\(1<=x->2^r<=2*x):=by
 rw[AJw];unfold Lz;have c:τ ((x:Int)>=4294967296)=Y:=w!
 rw[c,A!,AD];by_cases f:x>=65536;have:τ (((x:Int),(0:Int)).1>=65536)=V:=w!
 have e:wi (((x:Int),(0:Int)).2+16)=((16:Nat):Int):=by show wi (0+16)=_;decide
 rw[this,B!,AD,e,AK3];by_cases g:x/65536>=256;have:τ (((((x/65536:Nat):Int),((16:Nat):Int)):Int×Int).1>=256)=V:=w!
 have e:wi (((((x/65536:Nat):Int),((16:Nat):Int)):Int×Int).2+8)=((24:Nat):Int):=by show wi (((16:Nat):Int)+8)=_;decide
 rw[this,B!,AD,e,fd8];have a:x/65536/256<256:=o!
 have b:=pz a;refine⟨_,xS a o!,o!,λ_=>?_⟩;grind[Nat.pow_add];have:τ (((((x/65536:Nat):Int),((16:Nat):Int)):Int×Int).1>=256)=Y:=w!
 rw[this,A!,AD];have a:x/65536<256:=o!
 have b:=pz a;refine⟨_,xS a o!,o!,λ_=>?_⟩;grind[Nat.pow_add];have:τ (((x:Int),(0:Int)).1>=65536)=Y:=w!
 rw[this,A!,AD];by_cases g:x>=256;have:τ (((x:Int),(0:Int)).1>=256)=V:=w!
 have e:wi (((x:Int),(0:Int)).2+8)=((8:Nat):Int):=by show wi (0+8)=_;decide
 rw[this,B!,AD,e,fd8];have a:x/256<256:=o!
 have b:=pz a;refine⟨_,xS a o!,o!,λ_=>?_⟩;grind[Nat.pow_add];have:τ (((x:Int),(0:Int)).1>=256)=Y:=w!
 rw[this,A!,AD];have a:x<256:=o!
 have b:=pz a;refine⟨_,xS (s:=0) a o!,o!,λd=>?_⟩;have:=b.2 d;rw[DZ];omega
def CP(B:Nat):Prop:=True
def CPa(B:Nat):CP B:=O!
def PT{α:Type}(T:Prop)(o:Ω α)(Q:α->Prop):Prop:=(T->∃r,o=Z r)/\∀r,o=Z r->Q r
section
variable {α β γ:Type}{T:Prop}
def PT.some{r:α}{Q:α->Prop}(h:Q r):PT T (.some r) Q:=⟨λ_=>⟨r,rfl⟩,λs e=>k!⟩
def kN{o}{Q:α->Prop}(h:Ap o Q):PT T o Q:=by obtain⟨r,rfl,h⟩:=h;exact PT.some h
def PT.bind{o}{k:α->Ω β}{P:α->Prop}{Q:β->Prop}(h:PT T o P)(a:∀r,P r->PT T (k r) Q):PT T (σ o k) Q:=by
 cases o with
 |none=>exact⟨λt=>(by have⟨r,h⟩:=h.1 t;cases h),λr e=>(by cases e)⟩
 |some r=>exact a r (h.2 r rfl)
def PT.cond{c:Bool}{a b}{Q:α->Prop}(d:c=V->PT T a Q)(e:c=Y->PT T b Q):PT T (bif c then a else b) Q:=k!
def PT.dec{p:Prop}{_:Decidable p}{a b}{Q:α->Prop}(c:p->PT T a Q)(d:¬p->PT T b Q):PT T (bif decide p then a else b) Q:=k!
def bF{n m:Nat}{a b:Ω α}{Q:α->Prop}(e:n=m)(h:PT T a Q):PT T (bif ξ n m then a else b) Q:=t!
end
def o0{x:AI×Int}(h:U x.1.1<=16)(a:0<=x.2/\x.2<U x.1.1):Ap (KY x) λr=>True:=by unfold KY;have e:=AY (x:=x.2+1);rw[e];refine AC (λb=>?_) (λ_=>?_);simp only[len]at b;refine AA (AJ a.1 a.2) λc _=>AA (AJ o! b) λd _=>AB trivial;exact AA (AJ a.1 a.2) λf _=>AB trivial
def mT{x:AI×AS}(h:x.1.1.length<=16):Ap (Mj x) λr=>True:=by
 unfold Mj;refine AA (P:=λ_=>True) ?_ λv _=>BG (λ_ _=>AB trivial) (λ_ _=>AB trivial);refine AW (λ(s:Int)=>0<=s/\s<=x.1.1.length) (λ(s:Int)=>((x.1.1.length:Int)-s).toNat) ⟨Ae _,o!⟩ (λs c=>?_);unfold Qy;have e:=AY (x:=s+1);rw[e];refine AC (λa=>?_) (λ_=>AB trivial);simp only[len]at a;have b:((0<=s+1/\s+1<=x.1.1.length)/\((x.1.1.length:Int)-(s+1)).toNat<((x.1.1.length:Int)-s).toNat):=⟨o!,o!⟩
 refine AA (o0 h ⟨c.1,a⟩) λd _=>AP (λ_=>?_) (λ_=>AB b);exact AP (λ_=>AB trivial) (λ_=>AB b)
def mS{x:AI×Aq}(h:U x.1.1<=16)(c:U x.2.2.2<=2199023255552):Ap (HA x) λr=>r.2=V->aS r.1:=by unfold HA;refine AL (y? n!) (λ_=>AA (sS c) λd b=>AP (λa=>?_) (y? λa=>by cases a));exact AA (mT h) λe _=>AB λ_=>b a
def AA7{a b:Int}(f:0<=a:=by omega)(g:0<=b:=by omega)(h:a+b<=1099511627776:=by omega):wi (Int.fdiv (IntKind.wrap .u64 (wi (a+b))) (2^(min (Int.toNat 1) 64)))=(a+b)/2:=by
 have c:wi (a+b)=a+b:=AY;have d:IntKind.wrap .u64 (a+b)=a+b:=by rw[XH];omega
 have e:(2:Int)^(min (Int.toNat 1) 64)=2:=by decide
 rw[c,d,e,lI _ (by decide)];exact AY
def WT{x}:Ap (OC x) λr=>r=V↔x.1<x.2:=by unfold OC F3;apply BL;refine AK (λa=>?_) (y? q!);simp at a
def MT{α:Type}(b:Bool)(o:Ω α)(Q:α->Prop):Prop:=(b=V->∃r,o=Z r)/\∀r,o=Z r->Q r
section
variable {α β:Type}{b:Bool}
def MT.some{r:α}{Q:α->Prop}(h:Q r):MT b (.some r) Q:=⟨λ_=>⟨r,rfl⟩,λs e=>by injection e with e;rw[<-e];exact h⟩
def kP{o}{Q:α->Prop}(h:Ap o Q):MT b o Q:=⟨λ_=>by have⟨r,e,_⟩:=h;exact⟨r,e⟩,λr e=>h.get e⟩
def MT.bind{o}{k:α->Ω β}{P:α->Prop}{Q:β->Prop}(h:MT b o P)(d:∀r,P r->MT b (k r) Q):MT b (σ o k) Q:=by refine⟨λc=>?_,λr e=>?_⟩;have⟨r,e⟩:=h.1 c;have⟨s,a⟩:=(d r (h.2 r e)).1 c;exact⟨s,by rw[e];exact a⟩;have⟨s,f,a⟩:=Dn.1 e;exact(d s (h.2 s f)).2 r a
def MT.cond{c:Bool}{x y}{Q:α->Prop}(a:c=V->MT b x Q)(d:c=Y->MT b y Q):MT b (bif c then x else y) Q:=by cases c<;>grind
def MT.dec{p:Prop}{_:Decidable p}{x y}{Q:α->Prop}(a:p->MT b x Q)(c:¬p->MT b y Q):MT b (bif decide p then x else y) Q:=by simp_all[MT.cond]
end
def pI{a:Type}{l}{i}{x:a}:(ER l i x).length=U l:=by simp[ER]
abbrev NL:=S A1
def DS(a:AI):Prop:=∀f∈a.2.2.1,U f.2.2<=2199023255552
def SpL(l:S FO):Prop:=U l<=16777216/\∀s∈l,1<=s.1
theorem eW{n:Int}{v:EN}:∀{m:S (Int×EN)},(m.map (·.1)).Nodup->∀q,q∈QJ n v m↔q=(n,v)\/(q∈m/\q.1≠n)
 |[],_,q=>by simp[QJ]
 |p::r,h,q=>by
  rw[CQ,G3]at h;unfold QJ;by_cases b:p.1=n;grind[List.mem_cons_of_mem,List.mem_map_of_mem];have:(p.1==n)=Y:=by simp[b]
  rw[this,A!];constructor;intro a;rcases Aw.1 a with a|a;grind;rcases(eW h.2 q).1 a with a|⟨a,hn⟩;exact .inl a;grind[List.mem_cons_of_mem];rintro(a|⟨a,hn⟩);exact Ch _ ((eW h.2 q).2 (.inl a));rcases Aw.1 a with a|a;grind;exact Ch _ ((eW h.2 q).2 (.inr ⟨a,hn⟩))
def ww{n}{v}:∀{m:S (Int×EN)},(m.map (·.1)).Nodup->((QJ n v m).map (·.1)).Nodup
 |[],_=>by simp[QJ]
 |p::r,h=>by
  have b:=h;rw[CQ,G3]at h;unfold QJ;by_cases a:p.1=n;grind[List.nodup_cons];have:(p.1==n)=Y:=by simp[a]
  rw[this,A!,CQ,G3];refine⟨λc=>?_,ww h.2⟩;grind[eW,List.mem_map_of_mem]
def wq{n}{e:EN}:∀{m:S (Int×EN)},LY n m=Z e->(n,e)∈m
 |[],h=>by cases h
 |p::r,h=>by
  unfold LY at h;by_cases a:p.1=n;grind;have:(p.1==n)=Y:=by simp[a]
  rw[this,A!]at h;exact Ch _ (wq h)
def wo{n}:∀{m:S (Int×EN)},LY n m=W->∀q∈m,q.1≠n
 |[],_,q,a=>by cases a
 |p::r,h,q,a=>by
  unfold LY at h;by_cases b:p.1=n;have:(p.1==n)=V:=by simp[b]
  rw[this,B!]at h;cases h;have:(p.1==n)=Y:=by simp[b]
  rw[this,A!]at h;rcases Aw.1 a with a|a;rw[a];exact b;exact wo h q a
def Ql(m:S (Int×EN))(P:EN->Prop):Prop:=(m.map (·.1)).Nodup/\(∀q∈m,q.1=q.2.1)/\∀e,(e.1,e)∈m↔P e
def Ql.nil:Ql [] λ_=>False:=⟨Qq,q!,q!⟩
def Ql.put{m}{P:EN->Prop}{v:EN}(h:Ql m P):Ql (QJ v.1 v m) λe=>e=v\/(P e/\e.1≠v.1):=by refine⟨ww h.1,λq a=>?_,λe=>?_⟩;rcases(eW h.1 q).1 a with a|⟨a,_⟩;rw[a];exact h.2.1 q a;rw[eW h.1];constructor;rintro(a|⟨a,hn⟩);injection a with _ a;exact .inl a;exact .inr ⟨(h.2.2 e).1 a,hn⟩;rintro(rfl|⟨a,hn⟩);exact .inl rfl;exact .inr ⟨(h.2.2 e).2 a,hn⟩
def Ql.congr{m}{P Q:EN->Prop}(h:Ql m P)(a:∀e,P e↔Q e):Ql m Q:=⟨h.1,h.2.1,λe=>(h.2.2 e).trans (a e)⟩
def Ql.get{m}{P:EN->Prop}(h:Ql m P){e:EN}(g:P e):LY e.1 m=Z e:=by
 have d:=(h.2.2 e).2 g;cases c:LY e.1 m with
 |none=>exact N! rfl (wo c _ d)
 |some f=>
  have i:∀{l:S (Int×EN)},(l.map (·.1)).Nodup->∀{n:Int}{a b:EN},(n,a)∈l->(n,b)∈l->a=b:=by intro l;induction l<;>grind
  rw[i h.1 d (wq c)]
def jN(e:EN):Bool:=(e.2.1==1)||(e.2.1==2)
def nQ(e:EN):BF e=Z (jN e):=by grind[BF,jN]
def IF(p i j:Int)(e:EN):Bool:=jN e&&((e.2.2.2.2.2.2.1.1==p)&&(τ (e.1>i)&&τ (e.1<=j)))
def QI(s:Int×Int)(n:Int):Bool:=τ (n>=s.1)&&τ (n<=s.2)
def has_eq(s:Int×Int)(n:Int):JU (s,n)=Z (QI s n):=by grind[JU,QI]
def AKM{e:EN}{l:List (Int×Int)}(j:l.length<=16777216):Ap (Aj (XS e l) 0) λr=>(∀u,r= .inl u->0<=u/\(l.any λs=>QI s e.1)=true)/\(∀u,r= .inr u->(l.any λs=>QI s e.1)=false):=by refine AW (λ(s:Int)=>0<=s/\s<=l.length/\ ∀x∈l.take s.toNat,QI x e.1=false) (λ(s:Int)=>((l.length:Int)-s).toNat) ⟨Ae _,o!,q!⟩ (λs d=>?_);have⟨g,m,h⟩:=d;unfold XS;refine AC (λa=>?_) (λa=>AB ⟨λu b=>(by cases b),λu _=>?_⟩);simp[len]at a;rw[(AY (x:=s+1))];refine AA (AJ g a) λn c=>?_;rw[has_eq,AD];refine AK (λk=>AB ⟨λu b=>?_,λu b=>(by cases b)⟩) (λi=>AB ⟨⟨o!,o!,λx f=>?_⟩,o!⟩);grind[List.any_eq_true];rw[show(s+1).toNat=s.toNat+1 by omega,Cr,c.1]at f;grind[Option.toList_some,List.mem_singleton];simp[len]at a;rw[BO o!]at h;rw[Bool.eq_false_iff];grind[List.any_eq_true]
def AKL{a:AI}{l:AZ}{p i j:Int}{d:List (Int×Int)}(R:De l)(hv:1≤d.length)(S:d.length≤16777216):
  Ap (Aj (XQ (a,(l,(p,(i,j)))) d) (0,(0,[]))) λr=>r.1=((l.2.1.filter λe=>IF p i j e&&(d.tail.any λs=>QI s e.1)).length:Int)/\Ql r.2 λe=>e∈l.2.1/\IF p i j e=true:=by
 obtain⟨l1,l2,l3,l4,l5,K⟩:=R;refine AW (λ(s:Int×(Int×List (Int×EN)))=>0<=s.1/\s.1<=l.2.1.length/\s.2.1=(((l.2.1.take s.1.toNat).filter λe=>IF p i j e&&(d.tail.any λs=>QI s e.1)).length:Int)/\Ql s.2.2 λe=>e∈l.2.1.take s.1.toNat/\IF p i j e=true) (λs=>((l.2.1.length:Int)-s.1).toNat)
  ⟨Ae _,d!,q!,Ql.nil.congr λe=>q!⟩ (λs O=>?_)
 obtain⟨T,i2,A,B⟩:=O;unfold XQ;dsimp only;refine AC (λy=>?_) (λy=>AB ?_);simp only[len]at y;have L:=AY (x:=s.1+1);rw[L];refine AA (AJ T y) λq I=>?_;rw[nQ,AD];have g:l.2.1.take (s.1+1).toNat=l.2.1.take s.1.toNat++[q]:=by rw[show(s.1+1).toNat=s.1.toNat+1 by omega,Cr,I.1];rfl
 have f:IF p i j q=false->(0<=s.1+1/\s.1+1<=l.2.1.length/\s.2.1=(((l.2.1.take (s.1+1).toNat).filter λe=>IF p i j e&&(d.tail.any λs=>QI s e.1)).length:Int)/\Ql s.2.2 λe=>e∈l.2.1.take (s.1+1).toNat/\IF p i j e=true)/\((l.2.1.length:Int)-(s.1+1)).toNat<((l.2.1.length:Int)-s.1).toNat:=λw=>by
  refine⟨⟨o!,o!,?_,?_⟩,o!⟩;rw[g,GO,A];simp[w];rw[g];refine B.congr λe=>⟨λh=>⟨Am.2 (.inl h.1),h.2⟩,λh=>⟨?_,h.2⟩⟩
  rcases Am.1 h.1 with m|m;exact m;rw[A9.1 m,w]at h;cases h.2
 refine AK (λC=>?_) (λC=>AB (f (by simp[IF,C])));refine AK (λD=>?_) (λD=>AB (f (by simp[IF,D])));refine AK (λE=>?_) (λE=>AB (f (by unfold IF;rw[E];simp)));refine AK (λF=>?_) (λF=>AB (f (by unfold IF;rw[F];simp)));have w:IF p i j q=true:=by unfold IF;rw[C,D,E,F];rfl
 refine AA (Bg (lo:=1) (hi:=(d.length:Int))) λV_ N=>?_;have H:V_=d.tail:=by
  rw[N.1,BO (by rw[DB];omega)];cases d with
  |nil=>rfl
  |cons a r=>rfl
 subst H;refine AA (AKM (by rw[List.length_tail];omega)) λU o=>?_;have M:=K s.1.toNat q I.1;have n:Ql (QJ q.1 q s.2.2) λe=>e∈l.2.1.take (s.1+1).toNat/\IF p i j e=true:=by
  rw[g];refine B.put.congr λe=>⟨?_,λh=>?_⟩
  rintro(rfl|⟨h,_⟩);exact⟨Am.2 (.inr (A9.2 rfl)),w⟩;exact⟨Am.2 (.inl h.1),h.2⟩;rcases Am.1 h.1 with m|m;refine .inr ⟨⟨m,h.2⟩,λZ=>?_⟩;obtain⟨k,Q,v⟩:=WB.1 m;rw[BQ]at Q;rw[mw]at v;have:=(K k e (by rw[<-v];exact As o!)).1;omega;exact .inl (A9.1 m)
 have t: ∀b:Bool,(d.tail.any λs=>QI s q.1)=b->((((l.2.1.take (s.1+1).toNat).filter λe=>IF p i j e&&(d.tail.any λs=>QI s e.1)).length:Nat):Int)=s.2.1+(if b=true then 1 else 0):=λb P=>by rw[g,GO,Ac,A];cases b<;>simp[w,P]
 have J:(((l.2.1.take s.1.toNat).filter λe=>IF p i j e&&(d.tail.any λs=>QI s e.1)).length:Int)<=4096:=by have W_:=EM (λe=>IF p i j e&&(d.tail.any λs=>QI s e.1)) (l.2.1.take s.1.toNat);have X:=fH s.1.toNat l.2.1;have Y_:=List.length_take_le' s.1.toNat l.2.1;omega
 have G:=AY (x:=s.2.1+1);rw[G];refine BG (λu z=>?_) (λu z=>AB ⟨⟨d!,d!,?_,n⟩,d!⟩);refine AC (λ_=>AB ⟨⟨d!,d!,?_,n⟩,d!⟩) (λc=>absurd (o.1 u z).1 c);rw[t true (o.1 u z).2];rfl;rw[t false (o.2 u z)];simp;simp only[len]at y;rw[BO o!]at A B;exact⟨A,B⟩
def ltC(f e:EN):Prop:=f.2.2.2.2.2.2.1.1<e.2.2.2.2.2.2.1.1\/(f.2.2.2.2.2.2.1.1=e.2.2.2.2.2.2.1.1/\f.1<e.1)
theorem AA6(e:EN):¬ltC e e:=by unfold ltC;omega
def ADI{a b c}(h:ltC a b)(g:ltC b c):ltC a c:=by unfold ltC at*;omega
def AH2(f e:EN):∃c:Int,D5 (f,e)=Z c/\(c<0↔ltC f e)/\(c=0↔f.2.2.2.2.2.2.1.1=e.2.2.2.2.2.2.1.1/\f.1=e.1):=by
 have:Ap (D5 (f,e)) λc=>(c<0↔ltC f e)/\(c=0↔f.2.2.2.2.2.2.1.1=e.2.2.2.2.2.2.1.1/\f.1=e.1):=by
  unfold D5;unfold ltC;dsimp only;repeat' with_reducible first|intro a|apply AC|apply AP|apply AK|apply AB
  all_goals omega
 exact this
def ym(x:AS)(i:Nat):Prop:=∀e,x.2.2.2.2.2[i]?=Z e->
 (MI e/\jN e=V/\x.1<=e.1/\e.1<=x.2.1/\x.2.2.1<=e.2.2.2.2.2.2.1.1/\e.2.2.2.2.2.2.1.1<=x.2.2.2.1)/\(i=0->e.2.2.2.2.1<x.1)/\
 ∀f,0<i->x.2.2.2.2.2[i-1]?=Z f->ltC f e/\(f.2.2.2.2.2.2.1.1=e.2.2.2.2.2.2.1.1->e.2.2.2.2.1=f.1)/\(f.2.2.2.2.2.2.1.1≠e.2.2.2.2.2.2.1.1->e.2.2.2.2.1<x.1)
def VR(x:AS):Prop:=aS x/\∀i,ym x i
def VR.ent{x}(h:VR x){e:EN}(a:e∈x.2.2.2.2.2):MI e/\jN e=V/\x.1<=e.1/\e.1<=x.2.1/\x.2.2.1<=e.2.2.2.2.2.2.1.1/\e.2.2.2.2.2.2.1.1<=x.2.2.2.1:=by obtain⟨i,b,rfl⟩:=WB.1 a;exact(h.2 i _ (As b)).1
def AAd{x:AS}(Q:x.2.2.2.2.2.length<=4096):Ap (Aj (HT x) 0) λr=>(r= .inl false/\ ¬ ∀i,ym x i)\/(r= .inr ()/\ ∀i,ym x i):=by
 refine Ce (λ(s:Int)=>0<=s/\s<=x.2.2.2.2.2.length/\ ∀i:Nat,(i:Int)<s->ym x i) (λ(s:Int)=>((x.2.2.2.2.2.length:Int)-s).toNat) ⟨Ae _,o!,λi z=>o!⟩ (λs J=>?_);obtain⟨G,R,H⟩:=J;unfold HT;simp only[len];refine AC (λE=>?_) (λE=>Ap.done (.inr ⟨rfl,λi=>?_⟩))
 case refine_2=>by_cases z:(i:Int)<s;exact H i z;intro e m;rw[Cq o!]at m;cases m
 obtain⟨k,rfl⟩:=Ef G;refine AA (AJ G E) λv d=>?_;have d:=d.1;rw[CA]at d;have a:(ym x k->False)->Ap (some (Step.done (.inl false)):Option (Step Int (Bool ⊕ Unit))) (N2 (λ(s:Int)=>0<=s/\s<=x.2.2.2.2.2.length/\ ∀i:Nat,(i:Int)<s->ym x i) (λ(s:Int)=>((x.2.2.2.2.2.length:Int)-s).toNat) ((x.2.2.2.2.2.length:Int)-(k:Int)).toNat λr=>(r= .inl false/\ ¬ ∀i,ym x i)\/(r= .inr ()/\ ∀i,ym x i)):=λh=>Ap.done (.inl ⟨rfl,λu=>h (u k)⟩);have j:ym x k->Ap (some (Step.next (wi ((k:Int)+1))):Option (Step Int (Bool ⊕ Unit))) (N2 (λ(s:Int)=>0<=s/\s<=x.2.2.2.2.2.length/\ ∀i:Nat,(i:Int)<s->ym x i) (λ(s:Int)=>((x.2.2.2.2.2.length:Int)-s).toNat) ((x.2.2.2.2.2.length:Int)-(k:Int)).toNat λr=>(r= .inl false/\ ¬ ∀i,ym x i)\/(r= .inr ()/\ ∀i,ym x i)):=λh=>by
  rw[AY];refine Ap.next ⟨o!,o!,λi z=>?_⟩ o!
  by_cases A:i=k;rw[A];exact h;exact H i o!
 refine AA CC λN C=>AO (λl=>a λok=>?_) (λl=>?_);have:=C.2 (ok v d).1.1;rw[l]at this;cases this;have q1:=C.1 l;refine AA CO λO D=>?_;have q:jN v=true↔v.2.1=1\/v.2.1=2:=by unfold jN;simp
 refine AO (λl=>a λok=>?_) (λl=>?_);have:=D.2 (q.1 (ok v d).1.2.1);rw[l]at this;cases this;have q2:=q.2 (D.1 l);refine AC (λt=>a λok=>?_) (λq3=>?_);have:=(ok v d).1.2.2;omega;refine AC (λt=>a λok=>?_) (λq4=>?_);have:=(ok v d).1.2.2;omega;refine AC (λt=>a λok=>?_) (λq5=>?_);have:=(ok v d).1.2.2;omega;refine AC (λt=>a λok=>?_) (λq6=>?_);have:=(ok v d).1.2.2;omega;have q0:MI v/\jN v=true/\x.1<=v.1/\v.1<=x.2.1/\x.2.2.1<=v.2.2.2.2.2.2.1.1/\v.2.2.2.2.2.2.1.1<=x.2.2.2.1:=⟨q1,q2,o!⟩
 apply AC<;>intro L;have M:wi ((k:Int)-1)=((k-1:Nat):Int):=by rw[AY];omega
 have F:k-1<x.2.2.2.2.2.length:=o!
 have w:ix x.2.2.2.2.2 (wi ((k:Int)-1))=some (x.2.2.2.2.2[k-1]):=by rw[M];unfold ix;rw[if_pos o!,CA,As F]
 have n:x.2.2.2.2.2[k-1]? =some (x.2.2.2.2.2[k-1]):=As F;generalize x.2.2.2.2.2[k-1]=f at w n;obtain⟨c,y,p,K⟩:=AH2 f v;rw[w,AD,y,AD];refine AC (λt=>a λok=>?_) (λt=>?_);have:=p.2 ((ok v d).2.2 f o! n).1;omega;have q7:=p.1 o!;rw[decide_eq_true o!,cond_true,AD];refine AA (P:=λr:Bool ⊕ Unit=>(r= .inl false/\ ¬ym x k)\/(r= .inr ()/\ym x k)) ?_ λr hr=>?_;apply AP<;>intro m;rw[AD];refine AL (λhn=>AB (.inl ⟨rfl,λok=>hn (((ok v d).2.2 f o! n).2.1 m)⟩)) (λhn=>AB (.inr ⟨rfl,λe g=>?_⟩));rw[d]at g;injection g with g;subst g;refine⟨q0,λo=>absurd o o!,λI _ b=>?_⟩;rw[n]at b;injection b with b;subst b;exact⟨q7,λ_=>hn,λu=>absurd m u⟩;refine AC (λhn=>AB (.inl ⟨rfl,λok=>?_⟩)) (λhn=>AB (.inr ⟨rfl,λe g=>?_⟩));have:=((ok v d).2.2 f o! n).2.2 m;omega;rw[d]at g;injection g with g;subst g;refine⟨q0,λo=>absurd o o!,λI _ b=>?_⟩;rw[n]at b;injection b with b;subst b;exact⟨q7,λu=>absurd u m,λ_=>o!⟩;rcases hr with⟨rfl,hr⟩|⟨rfl,hr⟩;exact BB (a hr);exact Ax (j hr);rw[decide_eq_false L,cond_false];have B:k=0:=o!
 apply Bp;apply AC<;>intro hn;rw[AD];refine BB (a λok=>?_);have:=(ok v d).2.1 B;omega;rw[AD];refine Ax (j λe g=>?_);rw[d]at g;injection g with g;subst g;exact⟨q0,λ_=>o!,λf o=>absurd o o!⟩
def YG{x}:Ap (EQ x) λr=>r=V↔VR x:=by unfold EQ;refine AA I0 λf c=>AO (λb=>AB ⟨λa=>(by cases a),λa=>?_⟩) (λb=>?_);obtain⟨⟨a1,a2,a3,a4,a5,a6,a7,a8,a9⟩,_⟩:=a;have:=c.2 ⟨a1,a2,a3,a4,a5,a6,a7,a8⟩;rw[b]at this;cases this;have hn:=c.1 b;dsimp only at hn;refine AC (λd=>AB ⟨λa=>(by cases a),λa=>?_⟩) (λe=>?_);have:=a.1.2.2.2.2.2.2.2.2;simp only[len]at d;omega;simp only[len]at e;refine AA (AAd o!) λr hr=>?_;rcases hr with⟨rfl,hr⟩|⟨rfl,hr⟩;exact BB (AB ⟨λa=>(by cases a),λa=>N! a.2 hr⟩);exact Ax (AB ⟨λ_=>⟨⟨hn.1,hn.2.1,hn.2.2.1,hn.2.2.2.1,hn.2.2.2.2.1,hn.2.2.2.2.2.1,hn.2.2.2.2.2.2.1,hn.2.2.2.2.2.2.2,o!⟩,hr⟩,λ_=>rfl⟩)
abbrev NE:=A1
def lN(x y:NE):Bool:=τ (x.1.2.2.1<y.1.2.2.1\/(x.1.2.2.1=y.1.2.2.1/\(x.1.1<y.1.1\/(x.1.1=y.1.1/\x.2<y.2))))
def vM:Sort.SWO lN where
 irrefl x:=by simp[lN]
 trans x y z h1 h2:=by simp[lN,K!]at*;omega
 ntrans x y z h1 h2:=by simp[lN,decide_eq_false_iff_not]at*;omega
def pK{l:S Int}{k:Nat}{v:Int}(h:l[k]?=Z v)(b:k<1000)(c:U l<1000):Aj (KZ l) (k:Int)=if v=0 then Aj (KZ l) ((k+1:Nat):Int)else Z (.inl v):=by
 rw[HX];have a:=(EU.1 h).1;have d:τ ((k:Int)<len l)=V:=w!
 have e:ix l (k:Int)=Z v:=by unfold ix;rw[C! o!];simpa using h
 grind[wip,KZ]
def AKR(a b c:Int):Kq [a,b,c]=Z (if a≠0 then a else if b≠0 then b else c):=by unfold Kq;rw[show(0:Int)=((0:Nat):Int)from rfl,pK (k:=0) (v:=a) rfl o! q!];by_cases d:a=0;rw[C! d,pK (k:=1) (v:=b) rfl o! q!];by_cases e:b=0;rw[C! e,pK (k:=2) (v:=c) rfl o! q!];grind[HX,KZ];rw[D! e];simp[d,e];rw[D! d];simp[d]
def AHZ(x y:NE):∃v,IP (x,y)=Z v/\τ (v<0)=lN x y:=by
 unfold IP;dsimp only;simp only[AAp,AD,AKR];refine⟨_,rfl,?_⟩;unfold lN;apply decide_eq_decide.2;repeat' split
 all_goals omega
section
variable {α:Type} [Inhabited α]
theorem ixG{d:Array α}{i:Int}{k:Nat}(a:i=k)(b:k<d.size:=by omega):ix d.toList i=some d[k]! :=by subst a;unfold ix;rw[if_pos (by omega)];simp[b]
omit [Inhabited α] in
theorem AJV{d:Array α}{i:Int}{k:Nat}(a:i=k)(x:α):ER d.toList i x=(d.setIfInBounds k x).toList:=by subst a;unfold ER;simp
def AHl{d:Array α}{i j:Int}{a b:Nat}(c:i=a)(e:j=b):ER (ER d.toList i d[b]!) j d[a]! =(Sort.swp d a b).toList:=by rw[AJV c,AJV e];rfl
def AG2{d:Array α}{i j:Int}{a b:Nat}{x:α}(e:i=a)(f:j=b)(c:b<d.size:=by omega):ix (ER d.toList i x) j=some (d.setIfInBounds a x)[b]! :=by grind[AJV,ixG]
theorem kh(lt:α->α->Bool)(k:Nat):∀(j:Nat)(d:Array α),(Sort.insInner lt k j d).size=d.size
 |0,_=>rfl
 |j+1,d=>by unfold Sort.insInner;split;rw[kh lt k j,Sort.size_swp];rfl
end
theorem ACD{a b:Int}{k:Nat}(g:a=k): ∀(j:Nat) (d:Array NE),j<d.size->d.size<=16777216->Aj (Dm (a,b)) ((j:Int),d.toList)=some (Sort.insInner lN k j d).toList
 |0,d,hj,hd=>by
  rw[HX];have:decide (((0:Nat):Int)>a)=false:=by simp;omega
  simp only[Dm,this,cond_false];rfl
 |j+1,d,hj,hd=>by
  rw[HX];have⟨v,e,f⟩:=AHZ d[j+1]! d[j]!;simp only[Dm,(by grind[oA]:wi (((j+1:Nat):Int)-1)=(j:Int)),(ixG rfl hj),(ixG rfl:ix d.toList (j:Int)=some d[j]!),(AG2 rfl rfl:ix (ER d.toList ((j+1:Nat):Int) d[j]!) (j:Int)=some (d.setIfInBounds (j+1) d[j]!)[j]!),AD,e,f,AHl (d:=d) (a:=j+1) (b:=j) rfl rfl];unfold Sort.insInner;by_cases c:j+1>k;have:decide (((j+1:Nat):Int)>a)=true:=by simp;omega
  rw[this];cases h:lN d[j+1]! d[j]! with
  |true=>simp[cond_true,c,decide_true,YH,if_true];exact ACD g j _ (by rw[Sort.size_swp];omega) (by rw[Sort.size_swp];omega)
  |false=>simp[c]
  have:decide (((j+1:Nat):Int)>a)=false:=by simp;omega
  rw[this];simp[c]
def AEp{a b:Int}{k m:Nat}(g:a=k)(h:b=m):∀(n i:Nat)(d:Array NE),m-i<=n->m<=d.size->d.size<=16777216->Aj (Dl (a,b)) ((i:Int),d.toList)=Z (Sort.insOuter lN k m i d).toList:=by
 intro n;induction n with
 |zero=>grind[HX,Sort.insOuter,Dl]
 |succ n j=>intro i d c e f;rw[HX,Sort.insOuter];grind[oA,kh,Dl,ACD]
def ACC{d:Array NE}{a b:Int}{k m:Nat}(c:a=k)(e:b=m)(g:m<=d.size)(h:k<=m)(f:d.size<=16777216):C5 d.toList (a,b)=Z (Sort.insertionSort lN d k m).toList:=by unfold C5;dsimp only;rw[(by grind[oA]:wi (a+1)=((k+1:Nat):Int)),AEp c e (m-(k+1)) (k+1) d o! g f];rfl
def swR(a b n:Nat)(d:Array NE)(k:Nat):NE:=if a<=k/\k<a+n then d[b+(k-a)]! else if b<=k/\k<b+n then d[a+(k-b)]! else d[k]!
def yg{d:Array NE}{a b n:Nat}(f:a+n≤b)(l:b+n≤d.size)(m:d.size≤16777216):
  Ap (Ct d.toList ((a:Int),((b:Int),(n:Int)))) λr=> ∃e:Array NE,r=e.toList/\e.size=d.size/\ ∀k,k<d.size->e[k]! =swR a b n d k:=by
 unfold Ct;refine AA (P:=λr=> ∃e:Array NE,r=e.toList/\e.size=d.size/\ ∀k,k<d.size->e[k]! =swR a b n d k) ?_ λr h=>AB h;refine AW (λ(s:Int×List NE)=> ∃(t:Nat) (e:Array NE),s.1=t/\s.2=e.toList/\t<=n/\e.size=d.size/\ ∀k,k<d.size->e[k]! =swR a b t d k) (λs=>n-s.1.toNat) ⟨0,d,rfl,rfl,BR _,rfl,λk _=>by unfold swR;rw[if_neg (by omega),if_neg (by omega)]⟩ ?_;rintro⟨q,u⟩ ⟨t,e,q1,q2,q3,q4,q5⟩;dsimp only at q1 q2;subst q1 q2;unfold IG;dsimp only;refine AC (λg=>?_) (λg=>AB ⟨e,rfl,q4,?_⟩);have o:t<n:=by omega
 simp only[(by grind[oA]:wi ((b:Int)+(t:Int))=((b+t:Nat):Int)),(by grind[oA]:wi ((a:Int)+(t:Int))=((a+t:Nat):Int)),(ixG rfl:ix e.toList ((b+t:Nat):Int)=some e[b+t]!),(ixG rfl:ix e.toList ((a+t:Nat):Int)=some e[a+t]!),(AG2 rfl rfl:ix (ER e.toList ((a+t:Nat):Int) e[b+t]!) ((b+t:Nat):Int)=some (e.setIfInBounds (a+t) e[b+t]!)[b+t]!),AD,wip (i:=t),AHl (d:=e) (a:=a+t) (b:=b+t) rfl rfl];refine AB ⟨⟨t+1,_,rfl,rfl,by omega,by rw[Sort.size_swp,q4],λk j=>?_⟩,?_⟩;rw[Sort.swp_get e (by omega) (by omega)];rw[(q5 (a+t) (by omega)),(q5 (b+t) (by omega)),(q5 k j)];unfold swR;by_cases k1:k=a+t;subst k1;rw[if_neg (by omega),if_pos rfl,if_neg (by omega),if_neg (by omega),if_pos (by omega)];exact congrArg (λz=>d[z]!) (by omega);by_cases c:k=b+t;subst c;rw[if_pos rfl,if_neg (by omega),if_neg (by omega),if_neg (by omega),if_pos (by omega)];exact congrArg (λz=>d[z]!) (by omega);rw[if_neg c,if_neg k1];by_cases p:a<=k/\k<a+t<;>grind;show n-((t+1:Nat):Int).toNat<n-((t:Nat):Int).toNat
 omega;have:t=n:=by omega
 rw[<-this];exact q5
def fF(x:AS):BZ:=[80,77,82,78]++(C9 x.1 8++(C9 x.2.1 8++(C9 x.2.2.1 4++(C9 x.2.2.2.1 4++(C9 x.2.2.2.2.1 1++C9 (U x.2.2.2.2.2:Int) 4)))))
def NG(x:AS):BZ:=Ht (fF x)++Kp x.2.2.2.2.2
theorem aI(x:AS):(fF x).length=33:=rfl
def aS.inr{x}(h:aS x):cF 8 x.1/\cF 8 x.2.1/\cF 4 x.2.2.1/\cF 4 x.2.2.2.1/\cF 1 x.2.2.2.2.1/\cF 4 (U x.2.2.2.2.2:Int):=by have⟨a1,a2,a3,a4,a5,a6,a7,a8,a9⟩:=h;grind[cF]
def VR.len{x}(h:VR x):(NG x).length<=34406441:=by have b:=se (l:=x.2.2.2.2.2) λe a=>(h.ent a).1;have c:=h.1.2.2.2.2.2.2.2.2;grind[NG,n?,E2,aI]
def AF9{x}(h:aS x):H7 x=Z (fF x):=by unfold H7;rw[IE q! g! g!,AD];rw[IE (by simp only[Ac,A2];simp) g! g!,AD];rw[IE (by simp only[Ac,A2];simp) g! g!,AD];rw[IE (by simp only[Ac,A2];simp) g! g!,AD];rw[IE (by simp only[Ac,A2];simp) g! g!,AD];rw[IE (by simp only[Ac,A2];simp) g! g!,AD];rfl
def rD{x:AS}(h:VR x):Gu x=some (NG x,0):=by
 have q:=h.1.2.2.2.2.2.2.2.2;have⟨b,g,d⟩:=YG (x:=x);have c:=d.2 h;subst c;unfold Gu;rw[g,AD,B9,cond_false,AF9 h.1,AD,cE (by rw[aI];decide),AD];have key:Ap (Aj (MY x) (Ht (fF x),0)) λr=>r=NG x:=by
  refine Ce (λ(s:BZ×Int)=> ∃k:Nat,s.2=k/\k<=x.2.2.2.2.2.length/\s.1=Ht (fF x)++Kp (x.2.2.2.2.2.take k)) (λs=>x.2.2.2.2.2.length-s.2.toNat) ⟨0,rfl,BR _,by simp[Kp]⟩ ?_;rintro⟨y,z⟩ ⟨k,o,u,p⟩;subst o p;unfold MY;simp only[len];refine AC (λf=>?_) (λf=>Ap.done (by rw[BO o!];rfl));refine AA (AJ o! f) λv d=>?_;have a:=(h.ent d.2).1;have m:=Sf a;have j:=se (l:=x.2.2.2.2.2.take k) λe i=>(h.ent (GY i)).1;have n:(x.2.2.2.2.2.take k).length<=4096:=k!
  rw[rC a,AD,cE m,AD];refine AA (CL (by rw[Ac,E2,E2,aI];omega)) λw t=>?_;rw[AY];refine Ap.next ⟨k+1,k!,o!,?_⟩ k!
  grind[Int.toNat_natCast,List.take_add_one,Option.toList_some,Sh,List.append_assoc]
 obtain⟨r,hr,rfl⟩:=key;rw[hr];rfl
def WR(x:AS):Prop:=aS x/\∀e∈x.2.2.2.2.2,G9 e.2.2.2.2.2.2.1.2.2.1/\G9 e.2.2.2.2.2.2.1.2.2.2/\e.2.2.2.2.2.2.2=[]
def AEN{e}(h:MI e)(b:jN e=V):e.2.2.2.2.2.2.2=[]:=by
 have a:e.2.1=1\/e.2.1=2:=by grind[jN]
 have⟨_,_,_,_,_,_,_,_,c⟩:=h;grind[Va]
def VR.wr{x}(h:VR x):WR x:=⟨h.1,λe b=>by have a:=h.ent b;exact⟨a.1.cells.1,a.1.cells.2.1,AEN a.1 a.2.1⟩⟩
def ADM{e}(h:Ge e=Z V)(f:jN e=V):e.2.2.2.2.2.2.2=[]:=by
 have d:e.2.1=1\/e.2.1=2:=by unfold jN at f;simpa using f
 have key:∀r,Ge e=Z r->r=V->e.2.2.2.2.2.2.2=[]:=by
  have main:MT Y (Ge e) λr=>r=V->e.2.2.2.2.2.2.2=[]:=by
   have o:∀{Q:Bool->Prop},(∀r,r=Y->Q r)->MT Y (Z Y) Q:=λm=>MT.some (m _ rfl);have a:MT Y (Z Y) λr=>r=V->e.2.2.2.2.2.2.2=[]:=MT.some λb=>by cases b
   unfold Ge;refine MT.dec (λ_=>a) λ_=>MT.dec (λ_=>a) λ_=>MT.dec (λ_=>a) λ_=>MT.dec (λ_=>a) λ_=>MT.bind (kP K8) λp _=>MT.cond (λ_=>a) λ_=>MT.bind (kP K8) λq _=>MT.cond (λ_=>a) λ_=>MT.bind (kP K8) λs _=>MT.cond (λ_=>a) λ_=>MT.dec (N! · o!) λ_=>MT.dec (λi=>?_) λi=>?_;refine MT.dec (λ_=>a) λ_=>MT.bind (P:=λ_=>True) (MT.dec (λ_=>MT.some trivial) λ_=>MT.some trivial) λn _=>MT.cond (λ_=>a) λ_=>MT.bind (P:=λr=>r=Y->e.2.2.2.2.2.2.2=[]) ?_ λt k=>?_;refine MT.cond (λl=>MT.some λb=>?_) λ_=>MT.some λb=>?_;rw[l]at b;cases b;simpa using b;refine MT.cond (λ_=>a) λb=>?_;exact⟨λc=>(by cases c),λr _ _=>k b⟩;refine MT.dec (λj=>?_) λj=>N! d o!;refine MT.dec (λ_=>a) λ_=>MT.bind (P:=λ_=>True) (MT.dec (λ_=>MT.some trivial) λ_=>MT.some trivial) λn _=>MT.cond (λ_=>a) λ_=>MT.cond (λ_=>a) λb=>?_;exact⟨λc=>(by cases c),λr _ _=>by simpa using b⟩
  exact main.2
 exact key V h rfl
def uz{e}:BF e=Z (jN e):=by unfold BF jN;grind
def zr{x}:Ap (Md x) λr=>r=V↔1<=x.1/\x.1<=x.2.1/\x.2.1<=1099511627776/\0<=x.2.2.1/\x.2.2.1<=x.2.2.2.1/\x.2.2.2.1<64/\0<=x.2.2.2.2.1/\x.2.2.2.2.1<=8:=by
 unfold Md;exact x!
def ADO{x:AS}{e:EN}:Ap (P4 (x,e)) λr=>r=V↔jN e=V/\x.2.2.1<=e.2.2.2.2.2.2.1.1/\e.2.2.2.2.2.2.1.1<=x.2.2.2.1/\x.1<=e.1/\e.1<=x.2.1:=by
 unfold P4;rw[uz,AD];refine AK (λa=>?_) (λa=>AB ⟨λb=>(by cases b),λb=>k!⟩);exact x!
def AJI(a b:Int):Kq [a,b]=Z (if a≠0 then a else b):=by unfold Kq;rw[show(0:Int)=((0:Nat):Int)from rfl,pK (k:=0) (v:=a) rfl o! q!];by_cases c:a=0;rw[C! c,pK (k:=1) (v:=b) rfl o! q!];grind[HX,KZ];grind
def ABF(f e:EN):∃c:Int,Oe (f,e)=Z c/\(c<0↔ltC f e):=by unfold Oe;rw[AAp,AAp,AD,AD,AJI,AD];unfold ltC;grind
def ADN{x:AS}(I:x.2.2.2.2.2.length<=4096):Ap (Aj (TI x) 0) λr=>(r= .inl false/\ ¬ ∀i,ym x i)\/(r= .inr ()/\ ∀e∈x.2.2.2.2.2,jN e=true/\e.2.2.2.2.2.2.2=[]):=by
 refine Ce (λ(s:Int)=>0<=s/\s<=x.2.2.2.2.2.length/\ ∀e∈x.2.2.2.2.2.take s.toNat,jN e=true/\e.2.2.2.2.2.2.2=[]) (λ(s:Int)=>((x.2.2.2.2.2.length:Int)-s).toNat) ⟨Ae _,o!,λe p=>by simp at p⟩ (λs C=>?_);have⟨w,J,y⟩:=C;unfold TI;simp only[len];refine AC (λu=>?_) (λu=>Ap.done (.inr ⟨rfl,by rw[BO o!]at y;exact y⟩));obtain⟨k,rfl⟩:=Ef w;refine AA (AJ w u) λv d=>?_;have d:=d.1;rw[CA]at d;have a:(ym x k->False)->Ap (some (Step.done (.inl false)):Option (Step Int (Bool ⊕ Unit))) (N2 (λ(s:Int)=>0<=s/\s<=x.2.2.2.2.2.length/\ ∀e∈x.2.2.2.2.2.take s.toNat,jN e=true/\e.2.2.2.2.2.2.2=[]) (λ(s:Int)=>((x.2.2.2.2.2.length:Int)-s).toNat) ((x.2.2.2.2.2.length:Int)-(k:Int)).toNat λr=>(r= .inl false/\ ¬ ∀i,ym x i)\/(r= .inr ()/\ ∀e∈x.2.2.2.2.2,jN e=true/\e.2.2.2.2.2.2.2=[])):=λh=>Ap.done (.inl ⟨rfl,λD=>h (D k)⟩);refine EA Ka λG z B=>AO (λj=>a λok=>?_) (λj=>?_);have:=B (ok v d).1.1;rw[j]at this;cases this;refine AA ADO λH t=>AO (λj=>a λok=>?_) (λm=>?_);have q:=(ok v d).1;have:=t.2 ⟨q.2.1,q.2.2.2.2.1,q.2.2.2.2.2,q.2.2.1,q.2.2.2.1⟩;rw[j]at this;cases this;have q3:=ADM (by rw[z,j]) ((t.1 m).1);have b:Ap (some (Step.next (wi ((k:Int)+1))):Option (Step Int (Bool ⊕ Unit))) (N2 (λ(s:Int)=>0<=s/\s<=x.2.2.2.2.2.length/\ ∀e∈x.2.2.2.2.2.take s.toNat,jN e=true/\e.2.2.2.2.2.2.2=[]) (λ(s:Int)=>((x.2.2.2.2.2.length:Int)-s).toNat) ((x.2.2.2.2.2.length:Int)-(k:Int)).toNat λr=>(r= .inl false/\ ¬ ∀i,ym x i)\/(r= .inr ()/\ ∀e∈x.2.2.2.2.2,jN e=true/\e.2.2.2.2.2.2.2=[])):=by
  rw[AY];refine Ap.next ⟨o!,o!,λe p=>?_⟩ o!
  rw[show((k:Int)+1).toNat=k+1 by omega,Cr,d]at p;grind[Option.toList_some,List.mem_singleton]
 have F: ∀f,0<k->x.2.2.2.2.2[k-1]? =some f->ix x.2.2.2.2.2 (wi ((k:Int)-1))=some f:=λf A g=>by rw[show wi ((k:Int)-1)=((k-1:Nat):Int) by rw[AY];omega];unfold ix;grind[Int.toNat_natCast]
 apply AP<;>intro A;refine AC (λo=>a λok=>?_) (λ_=>b);have:=(ok v d).2.1 o!;omega;have g:x.2.2.2.2.2[k-1]? =some (x.2.2.2.2.2[k-1]):=As o!;generalize x.2.2.2.2.2[k-1]=f at g;rw[F f o! g,AD];apply AC<;>intro E;refine AC (λo=>a λok=>?_) (λ_=>b);have:=((ok v d).2.2 f o! g).2.2 o!;omega;have⟨c,n,l⟩:=ABF f v;rw[AD,n,AD];refine AC (λo=>a λok=>?_) (λo=>?_);have:=l.2 ((ok v d).2.2 f o! g).1;omega;refine AL (λhn=>a λok=>hn ?_) (λ_=>b);have:=l.1 o!;unfold ltC at this;exact((ok v d).2.2 f o! g).2.1 o!
def zt{x}:Ap (VJ x) λr=>(VR x->r=V)/\(r=V->aS x/\∀e∈x.2.2.2.2.2,jN e=V/\e.2.2.2.2.2.2.2=[]):=by refine AA zr λg c=>AO (λb=>AB ⟨λa=>?_,λa=>(by cases a)⟩) (λb=>?_);have⟨⟨a1,a2,a3,a4,a5,a6,a7,a8,a9⟩,_⟩:=a;grind;have hn:=c.1 b;refine AC (λf=>AB ⟨λa=>?_,λa=>(by cases a)⟩) (λd=>?_);have:=a.1.2.2.2.2.2.2.2.2;grind;simp[len]at d;refine AA (ADN o!) λr hr=>?_;rcases hr with⟨rfl,hr⟩|⟨rfl,hr⟩;exact BB (AB ⟨λa=>N! a.2 hr,λa=>(by cases a)⟩);exact Ax (AB ⟨λ_=>rfl,λ_=>⟨⟨hn.1,hn.2.1,hn.2.2.1,hn.2.2.2.1,hn.2.2.2.2.1,hn.2.2.2.2.2.1,hn.2.2.2.2.2.2.1,hn.2.2.2.2.2.2.2,o!⟩,hr⟩⟩)
def zy{p:BZ}(h:U p=33):FM (p,([80,77,82,78]:S UInt8))=Z (p.take 4==[80,77,82,78]):=by grind[FM,Ej,SL,σ]
abbrev ZR:=Int×(Int×(Int×(Int×(Int×AS))))
def wa{p:BZ}(x:U p=33)(t:p.take 4=[80,77,82,78]):∃b c d e f a:Int,(Az (p,4,8)=Z (b,0)∧Az (p,12,8)=Z (c,0)∧Az (p,20,4)=Z (d,0)∧Az (p,24,4)=Z (e,0)∧Az (p,28,1)=Z (f,0)∧Az (p,29,4)=Z (a,0))∧
  (Bx (p,4,8)=Z (b,0)/\Bx (p,12,8)=Z (c,0)/\Bx (p,20,4)=Z (d,0)/\Bx (p,24,4)=Z (e,0)/\Bx (p,28,1)=Z (f,0)/\Bx (p,29,4)=Z (a,0))/\
  p=[80,77,82,78]++(C9 b 8++(C9 c 8++(C9 d 4++(C9 e 4++(C9 f 1++C9 a 4)))))/\0<=a:=by
 have D:(p.drop 4).length=29:=by rw[DB];omega
 have⟨b,J,a2,g,n,y,l2⟩:=ADA (k:=8) (at_:=4) (by rw[<-t,DY]:p=[80,77,82,78]++p.drop 4) g! o! g! g! o!;have⟨c,K,a3,h,o,z,E⟩:=ADA (k:=8) (at_:=12) n (by simp only[Ac,A2];decide) o! g! g! o!;have⟨d,L,a4,i,q,A,F⟩:=ADA (k:=4) (at_:=20) o (by simp only[Ac,A2];decide) o! g! g! o!;have⟨e,M,a5,j,r,B,G⟩:=ADA (k:=4) (at_:=24) q (by simp only[Ac,A2];decide) o! g! g! o!;have⟨f,N,a6,l,s,C,H⟩:=ADA (k:=1) (at_:=28) r (by simp only[Ac,A2];decide) o! g! g! o!;have⟨a,v,a7,m,w,u,I⟩:=ADA (k:=4) (at_:=29) s (by simp only[Ac,A2];decide) o! g! g! o!;have:v=[]:=Eh o!;subst this;refine⟨b,c,d,e,f,a,⟨a2,a3,a4,a5,a6,a7⟩,⟨g,h,i,j,l,m⟩,?_,(u.1 g!).1⟩;grind[t?]
def zV{x}(h:aS x):(Az (fF x,4,8)=Z (x.1,0)∧Az (fF x,12,8)=Z (x.2.1,0)∧Az (fF x,20,4)=Z (x.2.2.1,0)∧Az (fF x,24,4)=Z (x.2.2.2.1,0)∧Az (fF x,28,1)=Z (x.2.2.2.2.1,0)∧Az (fF x,29,4)=Z ((U x.2.2.2.2.2:Int),0))∧
  (Bx (fF x,4,8)=Z (x.1,0)/\Bx (fF x,12,8)=Z (x.2.1,0)/\Bx (fF x,20,4)=Z (x.2.2.1,0)/\Bx (fF x,24,4)=Z (x.2.2.2.1,0)/\Bx (fF x,28,1)=Z (x.2.2.2.2.1,0)/\Bx (fF x,29,4)=Z ((U x.2.2.2.2.2:Int),0)):=by
 have⟨i,j,l,m,n,o⟩:=h.inr;have q:=aI x;have a:fF x=[80,77,82,78]++(C9 x.1 8++(C9 x.2.1 8++(C9 x.2.2.1 4++(C9 x.2.2.2.1 4++(C9 x.2.2.2.2.1 1++(C9 (U x.2.2.2.2.2:Int) 4++[])))))):=by rw[Do];rfl
 generalize fF x=p at*;have b:=kZ (k:=8) (at_:=4) a g! o! g! g! i;rw[<-A6]at a;have c:=kZ (k:=8) (at_:=12) a (by simp only[Ac,A2];decide) o! g! g! j;rw[<-A6]at a;have d:=kZ (k:=4) (at_:=20) a (by simp only[Ac,A2];decide) o! g! g! l;rw[<-A6]at a;have e:=kZ (k:=4) (at_:=24) a (by simp only[Ac,A2];decide) o! g! g! m;rw[<-A6]at a;have f:=kZ (k:=1) (at_:=28) a (by simp only[Ac,A2];decide) o! g! g! n;rw[<-A6]at a;have g:=kZ (k:=4) (at_:=29) a (by simp only[Ac,A2];decide) o! g! g! o;exact⟨⟨b.1,c.1,d.1,e.1,f.1,g.1⟩,b.2,c.2,d.2,e.2,f.2,g.2⟩
def AKX{x p:BZ}{n:Int}{z:ZR}{j:BZ}(D:U x≤1099511627776)(l:x=Ht p++j)(hn:0≤n)(o:n≤4096):Ap (Aj (G0 x n) (((Ht p).length:Int),0,[],z)) λr=>(∃u,r=.inl u∧u.1≠0)∨
  ∃a b,r=.inr (((Ht p++Kp a).length:Int),a,z)/\(U a:Int)=n/\x=(Ht p++Kp a)++b/\∀e∈a,G9 e.2.2.2.2.2.2.1.2.2.1/\G9 e.2.2.2.2.2.2.1.2.2.2:=by
 refine Ce (λs=>∃a b,s=(((Ht p++Kp a).length:Int),(U a:Int),a,z)/\(U a:Int)<=n/\x=(Ht p++Kp a)++b/\∀e∈a,G9 e.2.2.2.2.2.2.1.2.2.1/\G9 e.2.2.2.2.2.2.1.2.2.2) (λs=>(n-s.2.1).toNat)
  ⟨[],j,by simp[Kp],by simpa using hn,by simpa[Kp]using l,λe c=>by cases c⟩ ?_
 rintro s ⟨a,b,rfl,E,h,i⟩;unfold G0;dsimp only;refine AC (λm=>?_) (λm=>k? (.inr ⟨a,b,rfl,o!,h,i⟩));have g:=E! U h;rw[Ac]at g;rw[(by grind[V9]:CV (x,((Ht p++Kp a).length:Int))=Z (UF (Ht p++Kp a).length b)),AD];refine AL (λc=>k? (.inl ⟨_,rfl,c⟩)) (λc=>?_);have⟨H,⟨d,t⟩,I⟩:=yu c;refine AA (AJZ o!) λv q=>AL (λc=>k? (.inl ⟨_,rfl,c⟩)) (λf=>?_);have⟨y,A,B,J,K⟩:=q f;refine AA (Aa w!) λw C=>?_;have k:Ht p++Kp (a++[v.1])=(Ht p++Kp a)++Ht (By v.1):=by rw[Sh,A6]
 rw[AY];refine y! ⟨a++[v.1],d,?_,by rw[Ac,BY,Bj];omega,?_,λe c=>?_⟩ d!
 have F:((Ht p++Kp (a++[v.1])).length:Int)=((Ht p++Kp a).length:Int)+8+((UF (Ht p++Kp a).length b).1.length:Int):=by grind[n?,Ht,Kp,E2]
 have G:((a++[v.1]).length:Int)=(U a:Int)+1:=by grind[n?,List.length_cons,List.length_nil]
 grind[Prod.ext];rw[k,<-y,A6,<-t];exact h;rcases Am.1 c with c|c;exact i e c;rw[A9.1 c];exact⟨A,B⟩
def AJa{x:BZ}(w:U x<=1099511627776):Ap (Fu x) λr=>r.2=0->x=NG r.1/\VR r.1:=by unfold Fu;have q:CV (x,0)=Z (UF 0 x):=V9 (a:=[]) (t:=x) w!;rw[q,AD];refine AL (λh=>AB λb=>N! b h) (λh=>?_);have⟨Q,⟨P,z⟩,A⟩:=yu h;generalize UF 0 x=v0 at*;refine AL (y? λb=>N! (show(4:Int)=0 from b) g!) (λg=>?_);simp[len]at g;rw[(by grind[SL]:SL v0.1 0 4=Z (v0.1.take 4)),AD];refine AL (y? λb=>N! (show(4:Int)=0 from b) g!) (λm=>?_);have⟨K,L,M,N,O,y,⟨a2,a3,a4,a5,a6,a7⟩,⟨C,D,E,F,G,H⟩,J,j⟩:=wa (by omega:U v0.1=33) (by simpa using m);unfold DM;rw[a2,a3,a4,a5,a6,a7];simp only[AD];refine AC (y? λb=>N! (show(4:Int)=0 from b) g!) (λo=>?_);rw[(by rw[A,E2];omega:v0.2.1=((Ht v0.1).length:Int))];refine AA (AKX (n:=y) w z j (by first|omega|(dsimp only;omega))) λr hr=>?_;rcases hr with⟨u,rfl,s⟩|⟨I,e,rfl,i,k,p⟩;grind[BB,AB];apply Ax;dsimp only at i⊢;have l:=E! U k;rw[Ac]at l;refine AL (y? λb=>N! (show(4:Int)=0 from b) g!) (λd=>?_);have c:e=[]:=Eh (by simp only[len]at d;omega);subst c;refine AA (YG) λB f=>AO (y? λb=>N! (show(40:Int)=0 from b) g!) (λv=>AB λ_=>⟨?_,f.1 v⟩);grind[NG,fF]
def yU{x}(h:VR x):Fu (NG x)=Z (x,0):=by
 have D:=h.1.2.2.2.2.2.2.2.2;have j:=h.len;have o:=aI x;have⟨⟨a2,a3,a4,a5,a6,a7⟩,v,y,z,A,B,C⟩:=zV h.1;unfold Fu;have p:CV (NG x,0)=Z (fF x,((Ht (fF x)).length:Int),0):=by refine(V9 (a:=[]) (t:=NG x) w!).trans (E! Z ?_);grind[NG,mr,E2,Prod.ext,List.length_nil]
 have l:(fF x).take 4=[80,77,82,78]:=rfl;rw[p,AD];dsimp only[len];rw[show((0:Int) !=0)=Y by decide,A!,o,show(((33:Nat):Int) !=33)=Y by decide,A!];rw[(by grind[SL]:SL (fF x) 0 4=Z ((fF x).take 4)),AD,l,H!,A!];unfold DM;rw[a2,a3,a4,a5,a6,a7];simp only[AD];rw[F! o!,A!];have key:Ap (Aj (G0 (NG x) (U x.2.2.2.2.2:Int)) (((Ht (fF x)).length:Int),0,[],x.1,x.2.1,x.2.2.1,x.2.2.2.1,x.2.2.2.2.1,0,0,0,0,0,[])) λr=>r=.inr (((NG x).length:Int),x.2.2.2.2.2,x.1,x.2.1,x.2.2.1,x.2.2.2.1,x.2.2.2.2.1,0,0,0,0,0,[]):=by
  refine Ce (λs=>∃k:Nat,k<=U x.2.2.2.2.2/\s=(((Ht (fF x)++Kp (x.2.2.2.2.2.take k)).length:Int),(k:Int),x.2.2.2.2.2.take k,x.1,x.2.1,x.2.2.1,x.2.2.2.1,x.2.2.2.2.1,0,0,0,0,0,[])) (U x.2.2.2.2.2-·.2.1.toNat)
   ⟨0,BR _,by simp[Kp]⟩ ?_
  rintro s ⟨k,F,rfl⟩;unfold G0;dsimp only;refine AC (λn=>?_) (λn=>k? ?_)
  ·have i:k<U x.2.2.2.2.2:=o!
   have c:=(h.ent (GW i)).1;have e:Kp x.2.2.2.2.2=Kp (x.2.2.2.2.2.take k)++(Ht (By x.2.2.2.2.2[k])++Kp (x.2.2.2.2.2.drop (k+1))):=by grind[ov,List.drop_eq_getElem_cons,Kp,List.flatten_append,List.take_append_drop]
   have d:NG x=(Ht (fF x)++Kp (x.2.2.2.2.2.take k))++(Ht (By x.2.2.2.2.2[k])++Kp (x.2.2.2.2.2.drop (k+1))):=by grind[NG,t?]
   have g:=E! U d;rw[Ac]at g;have f:CV (NG x,((Ht (fF x)++Kp (x.2.2.2.2.2.take k)).length:Int))=Z (By x.2.2.2.2.2[k],((Ht (fF x)++Kp (x.2.2.2.2.2.take k)).length:Int)+8+((By x.2.2.2.2.2[k]).length:Int),0):=by
    conv=>lhs;arg 1;rw[d]
    rw[V9 o!,mr (Sf c)]
   rw[f,AD];dsimp only;rw[show((0:Int) !=0)=Y by decide,A!,AFR c,AD];dsimp only;rw[show((0:Int) !=0)=Y by decide,A!];refine AA (Aa (by rw[BQ];simp;omega)) λw u=>?_;rw[AY];refine y! ⟨k+1,o!,?_⟩ d!
   rw[u.1,Cr,As i,nH,Sh,<-A6,Ac (b:=Ht (By x.2.2.2.2.2[k])),E2];grind[Prod.ext]
  rw[BO o!];rfl
 obtain⟨r,hr,rfl⟩:=key;rw[hr,AD,nI];dsimp only;rw[show(((NG x).length:Int) !=len (NG x))=Y from H! _,A!];obtain⟨b,E,q⟩:=(YG)
 have m:b=V:=q.2 h;grind[Bool.not_true]
def AKS{x p:BZ}{n:(Int×Int)}{z:ZR}{j:BZ}(D:U x≤1099511627776)(l:x=Ht p++j)(hn:0≤n.1)(o:n.1≤4096):Ap (Aj (K9 x n) (((Ht p).length:Int),0,[],z)) λr=>(∃u,r=.inl u∧u.1≠0)∨
  ∃a b,r=.inr (((Ht p++Kp a).length:Int),a,z)/\(U a:Int)=n.1/\x=(Ht p++Kp a)++b/\∀e∈a,G9 e.2.2.2.2.2.2.1.2.2.1/\G9 e.2.2.2.2.2.2.1.2.2.2:=by
 refine Ce (λs=>∃a b,s=(((Ht p++Kp a).length:Int),(U a:Int),a,z)/\(U a:Int)<=n.1/\x=(Ht p++Kp a)++b/\∀e∈a,G9 e.2.2.2.2.2.2.1.2.2.1/\G9 e.2.2.2.2.2.2.1.2.2.2) (λs=>(n.1-s.2.1).toNat)
  ⟨[],j,by simp[Kp],by simpa using hn,by simpa[Kp]using l,λe c=>by cases c⟩ ?_
 rintro s ⟨a,b,rfl,E,h,i⟩;unfold K9;dsimp only;refine AC (λm=>?_) (λm=>k? (.inr ⟨a,b,rfl,o!,h,i⟩));have g:=E! U h;rw[Ac]at g;rw[(by grind[XB]:Dr (x,((Ht p++Kp a).length:Int))=Z (UF (Ht p++Kp a).length b)),AD];refine AL (λc=>k? (.inl ⟨_,rfl,c⟩)) (λc=>?_);have⟨H,⟨d,t⟩,I⟩:=yu c;refine AA (AJM o!) λv q=>AL (λc=>k? (.inl ⟨_,rfl,c⟩)) (λf=>?_);have⟨y,A,B,J,K⟩:=q f;refine AA (Aa w!) λw C=>?_;have k:Ht p++Kp (a++[v.1])=(Ht p++Kp a)++Ht (By v.1):=by rw[Sh,A6]
 rw[AY];refine y! ⟨a++[v.1],d,?_,by rw[Ac,BY,Bj];omega,?_,λe c=>?_⟩ d!
 have F:((Ht p++Kp (a++[v.1])).length:Int)=((Ht p++Kp a).length:Int)+8+((UF (Ht p++Kp a).length b).1.length:Int):=by grind[n?,Ht,Kp,E2]
 have G:((a++[v.1]).length:Int)=(U a:Int)+1:=by grind[n?,List.length_cons,List.length_nil]
 grind[Prod.ext];rw[k,<-y,A6,<-t];exact h;rcases Am.1 c with c|c;exact i e c;rw[A9.1 c];exact⟨A,B⟩
def AJO{x:BZ}(H:θ x<=1099511627776):Ap (K5 x) λr=>r.2=0->x=NG r.1/\WR r.1:=by
 unfold K5;have E:Dr (x,0)=Z (UF 0 x):=XB (a:=[]) (t:=x) w!;rw[E,AD];refine AL (λc=>AB λb=>N! b c) (λc=>?_);have⟨U,⟨T,J⟩,K⟩:=yu c;generalize UF 0 x=v0 at*;refine AL (y? λb=>N! (show(4:Int)=0 from b) g!) (λk=>?_);simp[len]at k;have q:θ v0.1=33:=o!
 rw[zy q,AD];refine AO (y? λb=>N! (show(4:Int)=0 from b) g!) (λD=>?_);have⟨O,P,Q,R,S,I,⟨a2,a3,a4,a5,a6,a7⟩,⟨s,v,w,y,z,A⟩,N,m⟩:=wa q (by simpa using D);rw[show wi (4+8)=12 from rfl,show wi (12+8)=20 from rfl,show wi (20+4)=24 from rfl,show wi (24+4)=28 from rfl,show wi (28+1)=29 from rfl];rw[s,v,w,y,z,A];simp only[AD];refine AO (y? λb=>N! (show(4:Int)=0 from b) g!) (λf=>?_);have f:=M! f;rw[(by rw[K,E2];omega:v0.2.1=((Ht v0.1).length:Int))];refine AA (AKS (n:=(I,0)) H J m (by first|omega|(dsimp only;omega))) λr hr=>?_;rcases hr with⟨u,rfl,F⟩|⟨M,i,rfl,l,o,g⟩;grind[BB,AB];apply Ax;dsimp only at l⊢;have p:=E! θ o;rw[Ac]at p;refine AC (y? λb=>N! (show(4:Int)=0 from b) g!) (λh=>?_);have d:i=[]:=Eh (by simp only[len]at h;omega);subst d;refine AA (zt) λL j=>AO (y? λb=>N! (show(40:Int)=0 from b) g!) (λG=>AB λ_=>⟨?_,?_⟩);grind[NG,fF];have⟨B,C⟩:=j.2 G;exact⟨B,λe c=>⟨(g e c).1,(g e c).2,(C e c).2⟩⟩
def AJN{x}(h:VR x):K5 (NG x)=Z (x,0):=by
 have E:=h.1.2.2.2.2.2.2.2.2;have j:=h.len;have l:=aI x;have⟨⟨a2,a3,a4,a5,a6,a7⟩,m,n,o,p,q,u⟩:=zV h.1;unfold K5;have B:Dr (NG x,0)=Z (fF x,((Ht (fF x)).length:Int),0):=by refine(XB (a:=[]) (t:=NG x) w!).trans (E! Z ?_);grind[NG,mr,E2,Prod.ext,List.length_nil]
 have v:(fF x).take 4=[80,77,82,78]:=rfl;rw[B,AD];dsimp only[len];rw[show((0:Int) !=0)=Y by decide,A!,l,show(((33:Nat):Int) !=33)=Y by decide,A!];rw[zy l,AD,v,L!,B9,A!];rw[show wi (4+8)=12 from rfl,show wi (12+8)=20 from rfl,show wi (20+4)=24 from rfl,show wi (24+4)=28 from rfl,show wi (28+1)=29 from rfl];rw[m,n,o,p,q,u];simp only[AD];rw[G! o!,B9,A!];have key:Ap (Aj (K9 (NG x) ((U x.2.2.2.2.2:Int),0)) (((Ht (fF x)).length:Int),0,[],x.1,x.2.1,x.2.2.1,x.2.2.2.1,x.2.2.2.2.1,0,0,0,0,0,[])) λr=>r=.inr (((NG x).length:Int),x.2.2.2.2.2,x.1,x.2.1,x.2.2.1,x.2.2.2.1,x.2.2.2.2.1,0,0,0,0,0,[]):=by
  refine Ce (λs=>∃k:Nat,k<=U x.2.2.2.2.2/\s=(((Ht (fF x)++Kp (x.2.2.2.2.2.take k)).length:Int),(k:Int),x.2.2.2.2.2.take k,x.1,x.2.1,x.2.2.1,x.2.2.2.1,x.2.2.2.2.1,0,0,0,0,0,[])) (U x.2.2.2.2.2-·.2.1.toNat)
   ⟨0,BR _,by simp[Kp]⟩ ?_
  rintro s ⟨k,F,rfl⟩;unfold K9;dsimp only;refine AC (λz=>?_) (λz=>k? ?_)
  ·have i:k<U x.2.2.2.2.2:=o!
   have c:=(h.ent (GW i)).1;have A:=Sf c;have d:Kp x.2.2.2.2.2=Kp (x.2.2.2.2.2.take k)++(Ht (By x.2.2.2.2.2[k])++Kp (x.2.2.2.2.2.drop (k+1))):=by grind[ov,List.drop_eq_getElem_cons,Kp,List.flatten_append,List.take_append_drop]
   have g:NG x=(Ht (fF x)++Kp (x.2.2.2.2.2.take k))++(Ht (By x.2.2.2.2.2[k])++Kp (x.2.2.2.2.2.drop (k+1))):=by grind[NG,t?]
   have f:=E! U g;rw[Ac]at f;rw[(by grind[XB,mr]:Dr (NG x,((Ht (fF x)++Kp (x.2.2.2.2.2.take k)).length:Int))=Z (By x.2.2.2.2.2[k],((Ht (fF x)++Kp (x.2.2.2.2.2.take k)).length:Int)+8+((By x.2.2.2.2.2[k]).length:Int),0)),AD];dsimp only;rw[show((0:Int) !=0)=Y by decide,A!,AJL c,AD];dsimp only;rw[show((0:Int) !=0)=Y by decide,A!];refine AA (Aa (by rw[BQ];simp;omega)) λw D=>?_;rw[AY];refine y! ⟨k+1,o!,?_⟩ d!
   rw[D.1,Cr,As i,nH,Sh,<-A6,Ac (b:=Ht (By x.2.2.2.2.2[k])),E2];grind[Prod.ext]
  rw[BO o!];rfl
 obtain⟨r,hr,rfl⟩:=key;rw[hr,AD,nI];dsimp only;rw[F! (by first|omega|(simp[len];omega)),A!];obtain⟨b,y,C⟩:=(zt)
 have e:b=V:=C.1 h;subst e;rw[y,AD,B9,A!]
def frames(P:S BZ):BZ:=(P.map Ht).flatten
def Sml(P:S BZ):Prop:=∀p∈P,33<=U p/\U p<=255
def T9(p:BZ)(P:S BZ):frames (p::P)=Ht p++frames P:=rfl
def Sg{p:BZ}(h:U p<=255):Ht p=UInt8.ofNat (U p)::0::0::0::(p++C9 (Pq (C9 (U p:Int) 4++p)) 4):=by
 have e:C9 (U p:Int) 4=[UInt8.ofNat (U p),0,0,0]:=by simp only[C9];rw[show((U p:Int)%256).toNat=U p by omega,show((U p:Int)/256%256).toNat=0 by omega,show((U p:Int)/256/256%256).toNat=0 by omega,show((U p:Int)/256/256/256%256).toNat=0 by omega];rfl
 unfold Ht;grind
theorem qm{m n:Nat}(a:m<=255)(hn:n<=255)(h:UInt8.ofNat m=UInt8.ofNat n):m=n:=by grind[UInt8.toNat,UInt8.toNat_ofNat']
def zo{n:Nat}(h:33<=n)(hn:n<=255)(e:UInt8.ofNat n=0):False:=by have:=E! UInt8.toNat e;rw[fQ]at this;grind
def yD:∀(P Q:S BZ),Sml P->Sml Q->∀(u v:BZ)(b:UInt8),frames P=u++v->frames Q=u++b::v->False
 |P,[],hP,hQ,u,v,b,h1,d=>by have:=E! U d;simp[frames]at this
 |[],q::Q,hP,hQ,u,v,b,h1,d=>by have B:=E! U h1;have y:=E! U d;rw[T9,Ac,E2]at y;simp only[frames,Hi,List.flatten_nil,Bj,Ac,BY]at B y;have:=hQ q (Aw.2 (.inl rfl));omega
 |p::P,q::Q,hP,hQ,u,v,b,h1,d=>by
  obtain⟨I,n⟩:=hP p (Aw.2 (.inl rfl));obtain⟨q1,q2⟩:=hQ q (Aw.2 (.inl rfl));have f:Sml P:=λx w=>hP x (Aw.2 (.inr w));have g:Sml Q:=λx w=>hQ x (Aw.2 (.inr w));rw[T9]at h1 d;cases u with
  |nil=>rw[CG]at h1 d;rw[<-h1,Sg n,Sg q2,ET,ET]at d;injection d with _ d;injection d with d _;exact zo I n d.symm
  |cons a u=>
   have i:=h1;have j:=d;rw[Sg n,ET,ET]at i;rw[Sg q2,ET,ET]at j;injection i with C _;injection j with D _;have o:U p=U q:=qm n q2 (C.trans D.symm);have h:(Ht p).length=(Ht q).length:=by rw[E2,E2,o]
   rcases pp.1 h1 with⟨t,l,m⟩|⟨t,l,m⟩;rw[l,A6]at d;obtain⟨G,e⟩:=Eg d h.symm;exact yD P Q f g t v b m e
   
   cases z:t.reverse with
   |nil=>
    have s:t=[]:=by simpa using z
    subst s;rw[Do]at l;rw[CG]at m;rw[<-l,m]at d;obtain⟨G,e⟩:=Eg d h.symm;exact yD P Q f g [] (frames P) b (by rw[CG]) (by rw[CG];exact e)
   |cons c r=>
    have k:t=r.reverse++[c]:=by have:=E! List.reverse z;rwa [List.reverse_reverse,List.reverse_cons]at this
    have E:Ht q++frames Q=((a::u)++b::r.reverse)++(c::frames P):=by rw[d,m,k];simp only[A6,ET,CG]
    have F:(Ht q).length=((a::u)++b::r.reverse).length:=by have:=E! U l;rw[k]at this;simp only[Ac,BY,Bj]at this⊢;omega
    obtain⟨_,e⟩:=Eg E F;cases Q with
    |nil=>exact N! (E! U e) (by simp[frames])
    |cons J Q=>
     obtain⟨M,K⟩:=g J (Aw.2 (.inl rfl));rw[T9,Sg K,ET,ET]at e;injection e with _ e;cases P with
     |nil=>exact N! (E! U e) (by simp[frames])
     |cons H P=>obtain⟨L,A⟩:=f H (Aw.2 (.inl rfl));rw[T9,Sg A,ET]at e;injection e with e _;exact zo L A e.symm
def AGw{p q u w:BZ}{a b:UInt8}(m:U p=U q)(g:Ht p=u++a::w)(d:Ht q=u++b::w):a=b:=by
 have r:Ht p=(C9 (U p:Int) 4++p)++C9 (Pq (C9 (U p:Int) 4++p)) 4:=by unfold Ht;rw[t?]
 have v:Ht q=(C9 (U p:Int) 4++q)++C9 (Pq (C9 (U p:Int) 4++q)) 4:=by unfold Ht;rw[t?,m]
 rw[r]at g;rw[v]at d;have h:(C9 (U p:Int) 4++p).length=(C9 (U p:Int) 4++q).length:=by rw[Ac,Ac,m]
 generalize C9 (U p:Int) 4++p=A at*;generalize C9 (U p:Int) 4++q=B at*;have l:∀s,cF 4 (Pq s):=λs=>by have:=aB s;exact⟨λ_=>by rw[show(256:Int)^4=4294967296 by decide];omega,o!⟩
 have C:=A2 4 (Pq A);have D:=A2 4 (Pq B);rcases pp.1 g with⟨t,f,j⟩|⟨t,f,j⟩
 
 have:B=A:=by rw[f,A6]at d;exact(Eg d h.symm).1
 subst this;have:=g.symm.trans d;have:=(Eg this rfl).2;injection this;cases t with
 |nil=>
  rw[Do]at f;rw[f]at h;have i:=(Eg d o!)
  have:B=A:=by rw[i.1,f]
  rw[this]at d;rw[d]at g;have:=(Eg g rfl).2;injection this with e _;exact e.symm
 |cons c t=>
  rw[ET]at j;injection j with n o;subst n o;have z:B++C9 (Pq B) 4=(u++b::t)++C9 (Pq A) 4:=by rw[d,A6,ET]
  obtain⟨x,y⟩:=Eg z (by rw[<-h,f,Ac,Ac,BY,BY]);have k:=YC g! (l B) (l A) y;rw[x,f]at k;exact(AGh k).symm
def ABC:∀(P Q:S BZ),Sml P→Sml Q→(∀(i:Nat)(p q s t:BZ),P[i]?=Z p→Q[i]?=Z q→p++s=q++t→U p=U q)→
  ∀(u v:BZ)(a b:UInt8),frames P=u++a::v->frames Q=u++b::v->a=b
 |[],Q,hP,hQ,hf,u,v,a,b,f,e=>by have:=E! U f;simp[frames]at this
 |P,[],hP,hQ,hf,u,v,a,b,f,e=>by have:=E! U e;simp[frames]at this
 |p::P,q::Q,hP,hQ,hf,u,v,a,b,f,e=>by
  obtain⟨G,E⟩:=hP p (Aw.2 (.inl rfl));obtain⟨q1,q2⟩:=hQ q (Aw.2 (.inl rfl));have k:Sml P:=λx C=>hP x (Aw.2 (.inr C));have l:Sml Q:=λx C=>hQ x (Aw.2 (.inr C));have m:∀(i:Nat)(p q s t:BZ),P[i]?=Z p->Q[i]?=Z q->p++s=q++t->U p=U q:=λi p q s t A B=>hf (i+1) p q s t (by simpa using A) (by simpa using B);rw[T9]at f e;cases u with
  |nil=>rw[CG]at f e;rw[Sg E,ET]at f;rw[Sg q2,ET]at e;injection f with y f;injection e with z e;rw[<-f]at e;simp only[ET,A6]at e;injection e with _ e;injection e with _ e;injection e with _ e;have:=hf 0 p q _ _ rfl rfl e.symm;rw[<-y,<-z,this]
  |cons c u=>
   have n:=f;have o:=e;rw[Sg E,ET,ET]at n;rw[Sg q2,ET,ET]at o;injection n with A _;injection o with B _;have r:U p=U q:=qm E q2 (A.trans B.symm);have g:(Ht p).length=(Ht q).length:=by rw[E2,E2,r]
   rcases pp.1 f with⟨t,h,j⟩|⟨t,h,j⟩;rw[h,A6]at e;obtain⟨D,w⟩:=Eg e g.symm;exact ABC P Q k l m t v a b j w;cases t with
   |nil=>rw[Do]at h;rw[CG]at j;rw[<-h]at e;obtain⟨D,w⟩:=Eg e g.symm;exact ABC P Q k l m [] v a b (by rw[CG];exact j.symm) (by rw[CG];exact w)
   |cons d t=>
    rw[ET]at j;injection j with y z;subst y z;have F:Ht q++frames Q=((c::u)++b::t)++frames P:=by rw[e];simp only[A6,ET]
    obtain⟨D,w⟩:=Eg F (by rw[<-g,h];simp only[Ac,BY]);exact AGw r h D
def wO{c d}(e:G9 c)(f:G9 d){s t:BZ}(h:Ut c++s=Ut d++t):(Ut c).length=(Ut d).length:=by
 have g:∀{c:Cj},G9 c->∃(n:Nat)(r:BZ),Ut c=UInt8.ofNat n::r/\n<=255/\(Ut c).length=if n=255 then 1 else n+1:=λ{c} e=>by
  have⟨b,w⟩:=c;have a:=e.1;dsimp only at a;unfold Ut;cases b with
  |false=>exact⟨255,[],rfl,Al _,rfl⟩
  |true=>refine⟨U w,w,?_,o!,?_⟩;grind[C9];grind[n?,A2]
 grind[qm]
def AC5{e f:EN}(d:G9 e.2.2.2.2.2.2.1.2.2.1/\G9 e.2.2.2.2.2.2.1.2.2.2/\e.2.2.2.2.2.2.2=[])(g:G9 f.2.2.2.2.2.2.1.2.2.1/\G9 f.2.2.2.2.2.2.1.2.2.2/\f.2.2.2.2.2.2.2=[]){s t:BZ}(h:By e++s=By f++t):(By e).length=(By f).length:=by have⟨a1,a2,a3⟩:=d;have⟨a,b,c⟩:=g;unfold By at*;rw[a3,c]at*;simp at h;have st:∀{n m:Int}{k:Nat}{x y:BZ},C9 n k++x=C9 m k++y->x=y:=λi=>(Eg i (by rw[A2,A2])).2;have h:=st (st (st (st (st (st (st (st h)))))));have l1:=wO a1 a h;simp[Ac,A2,l1,(wO a2 b ((Eg h l1).2))]
def AFI(x:AS):S BZ:=fF x::x.2.2.2.2.2.map By
def rQ(x:AS):NG x=frames (AFI x):=by unfold NG AFI;rw[T9];unfold Kp frames;rw[Oz];rfl
def WR.sml{x}(h:WR x):Sml (AFI x):=λp a=>by rcases Aw.1 a with rfl|a;rw[aI];decide;obtain⟨e,f,rfl⟩:=Bn.1 a;have⟨b,c,d⟩:=h.2 e f;have l1:=kI b;have l2:=kI c;unfold By;rw[d];simp[Ac,A2,Bj];omega
inductive AHz(s t:BZ):Prop where
 |more (u v:BZ) (b:UInt8) (h1:s=u++v) (h2:t=u++b::v)
 |less (u v:BZ) (b:UInt8) (h1:s=u++b::v) (h2:t=u++v)
 |other (u v:BZ) (a b:UInt8) (h:a≠b) (h1:s=u++a::v) (h2:t=u++b::v)
def AE8{x y}(g:WR x)(j:WR y)(h:AHz (NG x) (NG y)):False:=by
 rw[rQ,rQ]at h;rcases h with⟨u,v,b,c,d⟩|⟨u,v,b,c,d⟩|⟨u,v,a,b,h,c,d⟩;exact yD _ _ g.sml j.sml u v b c d;exact yD _ _ j.sml g.sml u v b d c;refine h (ABC _ _ g.sml j.sml (λi p q s t k l o=>?_) u v a b c d);cases i with
 |zero=>grind[AFI,List.getElem?_cons_zero,Option.some.injEq,aI]
 |succ i=>simp only[AFI,lQ,CR,TU]at k l;obtain⟨e,m,rfl⟩:=k;obtain⟨f,n,rfl⟩:=l;exact AC5 (g.2 e (BN m)) (j.2 f (BN n)) o
def AFp{a b n k:Nat}{d:Array NE}(h:a<=k:=by omega)(c:k<a+n:=by omega):swR a b n d k=d[b+(k-a)]! :=if_pos ⟨h,c⟩
def AFq{a b n k:Nat}{d:Array NE}(e:a+n<=b)(h:b<=k:=by omega)(c:k<b+n:=by omega):swR a b n d k=d[a+(k-b)]! :=by unfold swR;rw[if_neg (by omega),if_pos ⟨h,c⟩]
def sI{a b n k:Nat}{d:Array NE}(h:k<a\/a+n<=k:=by omega)(c:k<b\/b+n<=k:=by omega):swR a b n d k=d[k]! :=by unfold swR;rw[if_neg (by omega),if_neg (by omega)]
def yW(s m e:Nat)(d:Array NE)(k:Nat):NE:=if s<=k/\k<s+(e-m)then d[m+(k-s)]! else if s+(e-m)<=k/\k<e then d[s+(k-(s+(e-m)))]! else d[k]!
def kz{s m e k:Nat}{d:Array NE}(h:s<=k:=by omega)(a:k<s+(e-m):=by omega):yW s m e d k=d[m+(k-s)]! :=if_pos ⟨h,a⟩
def pN{s m e k:Nat}{d:Array NE}(h:s+(e-m)<=k:=by omega)(a:k<e:=by omega):yW s m e d k=d[s+(k-(s+(e-m)))]! :=by unfold yW;rw[if_neg (by omega),if_pos ⟨h,a⟩]
theorem VO{s m e k:Nat}{d:Array NE}(a:s<=m:=by omega)(b:m<=e:=by omega)(h:k<s\/e<=k:=by omega):yW s m e d k=d[k]! :=by unfold yW;rw[if_neg (by omega),if_neg (by omega)]
def rH{d:Array NE}{x y:Nat}(h:x=y):d[x]! =d[y]! :=by rw[h]
theorem AFX{m i j k:Nat}{d e:Array NE}(o:i<=m)(p:1<=j)(l:j<i)(n:m+j<=d.size)(a: ∀k,k<d.size->e[k]! =swR (m-i) m j d k)(b:k<d.size):yW (m-(i-j)) m (m+j) e k=yW (m-i) m (m+j) d k:=by
 rcases Ay k (m-i)with c|c
 ·rw[VO (by omega) (by omega) (by omega),VO (by omega) (by omega) (by omega),a k b,sI (by omega) (by omega)]
 rcases Ay k (m-i+j)with f|f
 ·rw[VO (by omega) (by omega) (by omega),kz (by omega) (by omega),a k b,AFp (by omega) (by omega)]
 rcases Ay k (m-(i-j)+j)with g|g
 ·rw[kz (by omega) (by omega),pN (by omega) (by omega),a _ (by omega),AFq (by omega) (by omega) (by omega)];exact rH (by omega)
 rcases Ay k (m+j)with h|h
 ·rw[pN (by omega) (by omega),pN (by omega) (by omega),a _ (by omega),sI (by omega) (by omega)];exact rH (by omega)
 ·rw[VO (by omega) (by omega) (by omega),VO (by omega) (by omega) (by omega),a k b,sI (by omega) (by omega)]
theorem AFY{m i j k:Nat}{d e:Array NE}(p:i<=m)(n:1<=i)(l:i<j)(o:m+j<=d.size)(a: ∀k,k<d.size->e[k]! =swR (m-i) (m+j-i) i d k)(b:k<d.size):yW (m-i) m (m+(j-i)) e k=yW (m-i) m (m+j) d k:=by
 rcases Ay k (m-i)with c|c
 ·rw[VO (by omega) (by omega) (by omega),VO (by omega) (by omega) (by omega),a k b,sI (by omega) (by omega)]
 rcases Ay k (m-i+(j-i))with f|f
 ·rw[kz (by omega) (by omega),kz (by omega) (by omega),a _ (by omega),sI (by omega) (by omega)]
 rcases Ay k (m+(j-i))with g|g
 ·rw[pN (by omega) (by omega),kz (by omega) (by omega),a _ (by omega),AFp (by omega) (by omega)];exact rH (by omega)
 rcases Ay k (m+j)with h|h
 ·rw[VO (by omega) (by omega) (by omega),pN (by omega) (by omega),a _ (by omega),AFq (by omega) (by omega) (by omega)];exact rH (by omega)
 ·rw[VO (by omega) (by omega) (by omega),VO (by omega) (by omega) (by omega),a k b,sI (by omega) (by omega)]
def ADX{d:Array NE}{a m b:Nat}(C:a<m)(D:m<b)(E:b≤d.size)(G:d.size≤16777216):
  Ap (E5 d.toList ((a:Int),((m:Int),(b:Int)))) λr=> ∃e:Array NE,r=e.toList/\e.size=d.size/\ ∀k,k<d.size->e[k]! =yW a m b d k:=by
 unfold E5;have q:wi ((m:Int)-(a:Int))=((m-a:Nat):Int):=by rw[oA];omega
 have t:wi ((b:Int)-(m:Int))=((b-m:Nat):Int):=by rw[oA];omega
 dsimp only;rw[q,t];refine AA (P:=λ(r:Int×List NE)=> ∃(i:Nat) (e:Array NE),r.1=i/\r.2=e.toList/\1<=i/\i<=m-a/\m+i<=b/\e.size=d.size/\ ∀k,k<d.size->yW (m-i) m (m+i) e k=yW a m b d k) ?_ ?_;refine AW (λ(s:Int×(Int×List NE))=> ∃(i j:Nat) (e:Array NE),s.1=i/\s.2.1=j/\s.2.2=e.toList/\1<=i/\1<=j/\i<=m-a/\m+j<=b/\e.size=d.size/\ ∀k,k<d.size->yW (m-i) m (m+j) e k=yW a m b d k) (λs=>(s.1+s.2.1).toNat)
  ⟨m-a,b-m,d,rfl,rfl,rfl,by omega,by omega,Al _,by omega,rfl,λk _=>by rw[show m-(m-a)=a by omega,show m+(b-m)=b by omega]⟩ ?_
 rintro⟨H,I,J⟩ ⟨i,j,e,q1,q2,q3,q4,q5,q6,q7,q8,q9⟩;dsimp only at q1 q2 q3;subst q1 q2 q3;unfold JJ;dsimp only;have o:wi ((m:Int)-(i:Int))=((m-i:Nat):Int):=by rw[oA];omega
 rw[o];refine AL (λB=>?_) (λA=>AB ⟨i,e,rfl,rfl,q4,q6,by omega,q8,λk g=>?_⟩);apply AC<;>intro F;apply AA (yg (d:=e) (a:=m-i) (b:=m) (n:=j) (by omega) (by omega) (by omega));rintro v ⟨f,rfl,h,l⟩;have c:Nat.beq (List.length f.toList) (List.length e.toList)=true:=by rw[D2,D2,h];exact Hk _
 have p:wi ((i:Int)-(j:Int))=((i-j:Nat):Int):=by rw[oA];omega
 rw[c,cond_true,p];refine AB ⟨⟨i-j,j,f,rfl,rfl,rfl,by omega,q5,by omega,q7,by omega,λk g=>?_⟩,?_⟩;rw[AFX (by omega) q5 (by omega) (by omega) l (by omega),q9 k g];show(((i-j:Nat):Int)+(j:Int)).toNat<((i:Int)+(j:Int)).toNat
 omega;have u:wi (wi ((m:Int)+(j:Int))-(i:Int))=((m+j-i:Nat):Int):=by rw[oA (x:=(m:Int)+(j:Int)),oA];omega
 rw[u];apply AA (yg (d:=e) (a:=m-i) (b:=m+j-i) (n:=i) (by omega) (by omega) (by omega));rintro v ⟨f,rfl,h,l⟩;have c:Nat.beq (List.length f.toList) (List.length e.toList)=true:=by rw[D2,D2,h];exact Hk _
 have p:wi ((j:Int)-(i:Int))=((j-i:Nat):Int):=by rw[oA];omega
 rw[c,cond_true,p];refine AB ⟨⟨i,j-i,f,rfl,rfl,rfl,q4,by omega,q6,by omega,by omega,λk g=>?_⟩,?_⟩;rw[AFY (by omega) q4 (by omega) (by omega) l (by omega),q9 k g];show((i:Int)+((j-i:Nat):Int)).toNat<((i:Int)+(j:Int)).toNat
 omega;have:j=i:=by omega
 subst this;exact q9 k g;rintro⟨K,L⟩ ⟨i,e,q1,q2,q3,q4,q5,q6,q7⟩;dsimp only at q1 q2;subst q1 q2;dsimp only;have o:wi ((m:Int)-(i:Int))=((m-i:Nat):Int):=by rw[oA];omega
 rw[o];apply AA (yg (d:=e) (a:=m-i) (b:=m) (n:=i) (by omega) (by omega) (by omega));rintro v ⟨f,rfl,h,l⟩;have c:Nat.beq (List.length f.toList) (List.length e.toList)=true:=by rw[D2,D2,h];exact Hk _
 rw[c,cond_true];refine AB ⟨f,rfl,by omega,λk g=>?_⟩;rw[<-q7 k g,l k (by omega)];rcases Ay k (m-i)with w|w;rw[sI,VO];rcases Ay k m with y|y;rw[AFp,kz];rcases Ay k (m+i)with z|z;rw[AFq (by omega),pN];exact rH (by omega);rw[sI,VO]
def zm{i j:Nat}(h:i+j<=1099511627776):wi (Int.fdiv (IntKind.wrap .u64 (wi ((i:Int)+(j:Int)))) (2^(min (Int.toNat 1) 64)))=(((i+j)/2:Nat):Int):=by rw[AA7];omega
def bs{body:Int×Int→Ω (Step (Int×Int) Int)}{P:Nat→Bool}{b a:Nat}(m:∀i:Nat,body ((i:Int),(i:Int))=Z (.done (i:Int)))
  (s:∀i j:Nat,b<=i->i<j->j<=a->body ((i:Int),(j:Int))=Z (.next (if P ((i+j)/2)=V then((((i+j)/2+1:Nat):Int),(j:Int))else((i:Int),(((i+j)/2:Nat):Int))))) (l:b<=a):
  ∃r:Nat,Aj body ((b:Int),(a:Int))=Z (r:Int)/\b<=r/\r<=a/\(b<r->P (r-1)=V)/\(r<a->P r=Y):=by
 suffices h:∀n i j:Nat,j-i<=n->b<=i->i<=j->j<=a->(b<i->P (i-1)=V)->(j<a->P j=Y)->∃r:Nat,Aj body ((i:Int),(j:Int))=Z (r:Int)/\b<=r/\r<=a/\(b<r->P (r-1)=V)/\(r<a->P r=Y)from
  h _ b a (Al _) (Al _) l (Al _) (N! · o!) (N! · o!)
 intro n;induction n with
 |zero=>
  intro i j p c q d e f;have:i=j:=o!
  subst this;rw[HX,m];exact⟨i,rfl,c,d,e,f⟩
 |succ n o=>intro i j p c q d e f;rw[HX];by_cases k:i=j;subst k;rw[m];exact⟨i,rfl,c,d,e,f⟩;rw[s i j c o! d];by_cases g:P ((i+j)/2)=V;rw[C! g];exact o _ j o! o! o! d (λ_=>by rw[nC];exact g) f;rw[D! g];exact o i _ o! c o! o! e (λ_=>by simpa using g)
def AKb{d:Array NE}{a m b:Nat}(o:a<d.size)(g:m≤b)(p:b≤d.size)(q:d.size≤16777216)(c:Int×Int):
  ∃r:Nat,Aj (DQ d.toList ((a:Int),c)) ((m:Int),(b:Int))=some (r:Int)/\m<=r/\r<=b/\(m<r->lN d[r-1]! d[a]! =true)/\(r<b->lN d[r]! d[a]! =false):=by
 refine bs (P:=λk=>lN d[k]! d[a]!) (λi=>?_) (λi j h l n=>?_) g;unfold DQ;have:decide ((i:Int)<(i:Int))=false:=q!
 dsimp only;rw[this,cond_false];unfold DQ;have:decide ((i:Int)<(j:Int))=true:=w!
 dsimp only;rw[this,cond_true,zm o!];obtain⟨v,e,f⟩:=AHZ d[(i+j)/2]! d[a]!;rw[ixG (k:=(i+j)/2) rfl,ixG (k:=a) rfl];simp only[AD,e,f,wip (i:=(i+j)/2)];cases lN d[(i+j)/2]! d[a]! <;>rfl
def AKc{d:Array NE}{a r b:Nat}(h:a<r)(hr:r≤b)(w:b≤d.size)(x:d.size≤16777216):
  Ap (Aj (EE (r:Int)) ((a:Int),d.toList)) λq=>∃e:Array NE,q=e.toList/\Sort.PermIn a b d e/\(∀t,a<=t->t<r-1->e[t]! =d[t+1]!)/\e[r-1]! =d[a]! /\∀t,r<=t->e[t]! =d[t]! :=by
 refine AW (λ(s:Int×List NE)=>∃(k:Nat)(e:Array NE),s.1=k/\s.2=e.toList/\a<=k/\k<r/\Sort.PermIn a b d e/\(∀t,a<=t->t<k->e[t]! =d[t+1]!)/\e[k]! =d[a]! /\∀t,k<t->e[t]! =d[t]!) (λs=>r-s.1.toNat) ⟨a,d,rfl,rfl,Al _,h,Sort.permIn_refl _ _ _,λt _ _=>o!,rfl,λt _=>rfl⟩ ?_;rintro⟨z,A⟩ ⟨k,e,q1,q2,q3,q4,q5,q6,q7,q8⟩;dsimp only at q1 q2;subst q1 q2;have y:=q5.1;unfold EE;dsimp only;have l:wi ((r:Int)-1)=((r-1:Nat):Int):=by rw[wim];omega
 rw[l];refine AC (λn=>?_) (λn=>AB ⟨e,rfl,q5,λt g m=>q6 t g o!,?_,λt o=>q8 t o!⟩);have p:ix e.toList ((k+1:Nat):Int)=δ e[k+1]! :=ixG rfl;have u:ix e.toList (k:Int)=δ e[k]! :=ixG rfl;have v:ix (ER e.toList (k:Int) e[k+1]!) ((k+1:Nat):Int)=δ (e.setIfInBounds k e[k+1]!)[k+1]! :=AG2 rfl rfl;simp only[wip (i:=k),p,u,v,AD,AHl (d:=e) (a:=k) (b:=k+1) rfl rfl];have c:=Sort.swp_get e (i:=k) (j:=k+1) o! o!;refine AB ⟨⟨k+1,_,rfl,rfl,o!,o!,Sort.permIn_trans _ _ _ _ _ q5 (Sort.swp_permIn e a b k (k+1) q3 o! o! o! o!),λt g m=>?_,?_,λt o=>?_⟩,?_⟩;rw[c,D! o!];by_cases f:t=k;subst f;rw[C! rfl];exact q8 _ o!;rw[D! f];exact q6 t g o!;rw[c,C! rfl];exact q7;rw[c,D! o!,D! o!];exact q8 t o!;show r-((k+1:Nat):Int).toNat<r-((k:Nat):Int).toNat
 omega;have:k=r-1:=o!
 rw[<-this];exact q7
def AFg{d:Array NE}{a b:Nat}(o:a+1≤b)(z:b≤d.size)(A:d.size≤16777216)(k:Sort.SortedIn lN (a+1) b d)(c:Int×Int):
  Ap (σ (Aj (DQ d.toList ((a:Int),c)) (((a+1:Nat):Int),(b:Int))) λv=>σ (Aj (EE v) ((a:Int),d.toList)) λw=>Z w) λq=>∃e:Array NE,q=e.toList/\Sort.PermIn a b d e/\Sort.SortedIn lN a b e:=by
 obtain⟨r,g,H,I,J,K⟩:=AKb (d:=d) (a:=a) (m:=a+1) (b:=b) o! o z A c;rw[g,AD];apply AA (AKc (d:=d) (a:=a) (r:=r) (b:=b) o! I z A);rintro q ⟨e,rfl,G,n,B,C⟩;refine AB ⟨e,rfl,G,λx y p s u=>?_⟩;have W_:=vM;have F:∀t,a+1<=t->t<r->lN d[a]! d[t]! =Y:=λt h l=>by
  have f:=J o!;cases D:lN d[a]! d[t]! with
  |false=>rfl
  |true=>have i:=W_.trans _ _ _ f D;rcases Ay t (r-1)with j|j;exact N! i (by rw[k t (r-1) h j o!];decide);rw[show t=r-1 by omega,W_.irrefl]at i;cases i
 have E:∀t,r<=t->t<b->lN d[t]! d[a]! =Y:=λt h l=>by have f:=K o!;rcases Ay r t with j|j;exact W_.ntrans _ _ _ (k r t H j l) f;rw[show t=r by omega];exact f
 rcases Ay y (r-1)with h|h;rw[n x p o!,n y o! h];exact k (x+1) (y+1) o! o! o!;rcases Ay (r-1) y with l|l;rw[C y o!];rcases Ay x (r-1)with f|f;rw[n x p f];exact k (x+1) y o! o! u;rcases Ay (r-1) x with i|i;rw[C x o!];exact k x y o! s u;rw[show x=r-1 by omega,B];exact E y o! u;rw[show y=r-1 by omega,B,n x p o!];exact F (x+1) o! o!
def AKd{d:Array NE}{a m:Nat}(l:a≤m)(w:m<d.size)(u:d.size≤16777216)(b:Int):
  ∃r:Nat,Aj (CY d.toList ((a:Int),((m:Int),b))) ((a:Int),(m:Int))=some (r:Int)/\a<=r/\r<=m/\(a<r->lN d[m]! d[r-1]! =false)/\(r<m->lN d[m]! d[r]! =true):=by
 have c: ∀i:Nat,CY d.toList ((a:Int),((m:Int),b)) ((i:Int),(i:Int))=some (.done (i:Int)):=λi=>by
  unfold CY;have:decide ((i:Int)<(i:Int))=false:=q!
  dsimp only;rw[this,cond_false]
 have e: ∀i j:Nat,a<=i->i<j->j<=m->CY d.toList ((a:Int),((m:Int),b)) ((i:Int),(j:Int))=some (.next (if(!lN d[m]! d[(i+j)/2]!)=true then((((i+j)/2+1:Nat):Int),(j:Int))else((i:Int),(((i+j)/2:Nat):Int)))):=λi j q s t=>by
  unfold CY;have:decide ((i:Int)<(j:Int))=true:=w!
  dsimp only;rw[this,cond_true,zm o!];obtain⟨v,f,g⟩:=AHZ d[m]! d[(i+j)/2]!;rw[ixG (k:=(i+j)/2) rfl,ixG (k:=m) rfl];simp only[AD,f,g,wip (i:=(i+j)/2)];cases lN d[m]! d[(i+j)/2]! <;>rfl
 obtain⟨r,f,g,n,o,p⟩:=bs (P:=λk=>!lN d[m]! d[k]!) c e l;exact⟨r,f,g,n,λh=>by simpa using o h,λh=>by simpa using p h⟩
def AKe{d:Array NE}{a r m:Nat}(n:a≤r)(hr:r≤m)(y:m<d.size)(x:d.size≤16777216):
  Ap (Aj (EF (r:Int)) ((m:Int),d.toList)) λq=>∃e:Array NE,q=e.toList/\Sort.PermIn a (m+1) d e/\(∀t,r<t->t<=m->e[t]! =d[t-1]!)/\e[r]! =d[m]! /\∀t,t<r->e[t]! =d[t]! :=by
 refine AW (λ(s:Int×List NE)=>∃(k:Nat)(e:Array NE),s.1=k/\s.2=e.toList/\r<=k/\k<=m/\Sort.PermIn a (m+1) d e/\(∀t,k<t->t<=m->e[t]! =d[t-1]!)/\e[k]! =d[m]! /\∀t,t<k->e[t]! =d[t]!) (λs=>s.1.toNat) ⟨m,d,rfl,rfl,hr,Al _,Sort.permIn_refl _ _ _,λt _ _=>o!,rfl,λt _=>rfl⟩ ?_;rintro⟨A,B⟩ ⟨k,e,q1,q2,q3,q4,q5,q6,q7,q8⟩;dsimp only at q1 q2;subst q1 q2;have z:=q5.1;unfold EF;dsimp only;refine AC (λo=>?_) (λo=>AB ⟨e,rfl,q5,λt l g=>q6 t o! g,?_,λt p=>q8 t o!⟩);have h:wi ((k:Int)-1)=((k-1:Nat):Int):=by rw[wim];omega
 have u:ix e.toList ((k-1:Nat):Int)=δ e[k-1]! :=ixG rfl;have v:ix e.toList (k:Int)=δ e[k]! :=ixG rfl;have w:ix (ER e.toList (k:Int) e[k-1]!) ((k-1:Nat):Int)=δ (e.setIfInBounds k e[k-1]!)[k-1]! :=AG2 rfl rfl;simp only[h,u,v,w,AD,AHl (d:=e) (a:=k) (b:=k-1) rfl rfl];have c:=Sort.swp_get e (i:=k) (j:=k-1) o! o!;refine AB ⟨⟨k-1,_,rfl,rfl,o!,o!,Sort.permIn_trans _ _ _ _ _ q5 (Sort.swp_permIn e a (m+1) k (k-1) o! o! o! o! o!),λt l g=>?_,?_,λt p=>?_⟩,?_⟩;rw[c,D! o!];by_cases f:t=k;subst f;rw[C! rfl];exact q8 _ o!;rw[D! f];exact q6 t o! g;rw[c,C! rfl];exact q7;rw[c,D! o!,D! o!];exact q8 t o!;show((k-1:Nat):Int).toNat<((k:Nat):Int).toNat
 omega;have:k=r:=o!
 rw[<-this];exact q7
def AHf{d:Array NE}{a m:Nat}(n:a≤m)(u:m<d.size)(s:d.size≤16777216)(k:Sort.SortedIn lN a m d)(b:Int):
  Ap (σ (Aj (CY d.toList ((a:Int),(m:Int),b)) ((a:Int),(m:Int))) λv=>σ (Aj (EF v) ((m:Int),d.toList)) λw=>Z w) λq=>∃e:Array NE,q=e.toList/\Sort.PermIn a (m+1) d e/\Sort.SortedIn lN a (m+1) e:=by
 obtain⟨r,g,B,G,H,I⟩:=AKd (d:=d) (a:=a) (m:=m) n u s b;rw[g,AD];apply AA (AKe (d:=d) (a:=a) (r:=r) (m:=m) B G u s);rintro q ⟨e,rfl,F,z,A,l⟩;refine AB ⟨e,rfl,F,λx y o p J=>?_⟩;have W_:=vM;have E:∀t,a<=t->t<r->lN d[m]! d[t]! =Y:=λt h i=>by have c:=H o!;rcases Ay t (r-1)with j|j;exact W_.ntrans _ _ _ c (k t (r-1) h j o!);rw[show t=r-1 by omega];exact c
 have D:∀t,r<=t->t<m->lN d[t]! d[m]! =Y:=λt h i=>by
  have c:=I o!;cases C:lN d[t]! d[m]! with
  |false=>rfl
  |true=>have f:=W_.trans _ _ _ C c;rcases Ay r t with j|j;exact N! f (by rw[k r t B j i];decide);rw[show t=r by omega,W_.irrefl]at f;cases f
 rcases Ay y r with h|h;rw[l x o!,l y h];exact k x y o p o!;rcases Ay r y with i|i;rw[z y i o!];rcases Ay x r with c|c;rw[l x c];exact k x (y-1) o o! o!;rcases Ay r x with f|f;rw[z x f o!];exact k (x-1) (y-1) o! o! o!;rw[show x=r by omega,A];exact D (y-1) o! o!;rw[show y=r by omega,A,l x o!];exact E x o o!
def AKf{d:Array NE}{a m b lo hi:Nat}(l:lo≤hi)(s:a≤lo)(t:hi≤m)(u:(a+b)/2+m-lo≤b)(y:hi≤(a+b)/2+m)(w:m≤b)(z:b≤d.size)(A:d.size≤16777216):
  ∃r:Nat,Aj (Cn d.toList ((a:Int),((m:Int),(b:Int)))) ((lo:Int),(hi:Int))=some (r:Int)/\lo<=r/\r<=hi/\(lo<r->lN d[(a+b)/2+m-1-(r-1)]! d[r-1]! =false)/\(r<hi->lN d[(a+b)/2+m-1-r]! d[r]! =true):=by
 have c: ∀i:Nat,Cn d.toList ((a:Int),((m:Int),(b:Int))) ((i:Int),(i:Int))=some (.done (i:Int)):=λi=>by
  unfold Cn;have:decide ((i:Int)<(i:Int))=false:=q!
  dsimp only;rw[this,cond_false]
 have e: ∀i j:Nat,lo<=i->i<j->j<=hi->Cn d.toList ((a:Int),((m:Int),(b:Int))) ((i:Int),(j:Int))=some (.next (if(!lN d[(a+b)/2+m-1-(i+j)/2]! d[(i+j)/2]!)=true then((((i+j)/2+1:Nat):Int),(j:Int))else((i:Int),(((i+j)/2:Nat):Int)))):=λi j s t u=>by
  unfold Cn;have:decide ((i:Int)<(j:Int))=true:=w!
  dsimp only;rw[this,cond_true,zm (i:=i) (j:=j) o!,zm (i:=a) (j:=b) o!];have n:wi (wi (wi ((((a+b)/2:Nat):Int)+(m:Int))-1)-(((i+j)/2:Nat):Int))=(((a+b)/2+m-1-(i+j)/2:Nat):Int):=by rw[oA (x:=(((a+b)/2:Nat):Int)+(m:Int)),oA (x:=(((a+b)/2:Nat):Int)+(m:Int)-1),oA];omega
  obtain⟨v,f,g⟩:=AHZ d[(a+b)/2+m-1-(i+j)/2]! d[(i+j)/2]!;rw[n,ixG (k:=(i+j)/2) rfl,ixG (k:=(a+b)/2+m-1-(i+j)/2) rfl];simp only[AD,f,g,wip (i:=(i+j)/2)];cases lN d[(a+b)/2+m-1-(i+j)/2]! d[(i+j)/2]! <;>rfl
 obtain⟨r,f,g,o,p,q⟩:=bs (P:=λk=>!lN d[(a+b)/2+m-1-k]! d[k]!) c e l;exact⟨r,f,g,o,λh=>by simpa using p h,λh=>by simpa using q h⟩
def AHY{s m e:Nat}{d f:Array NE}(o:s<=m)(p:m<=e)(b:e<=d.size)(c:f.size=d.size)(h:∀k,k<d.size->f[k]! =yW s m e d k):Sort.PermIn s e d f:=by
 refine⟨c,λi a=>?_,?_⟩;grind[Nat.lt_or_ge,VO];have key:∀(g:Nat->NE)(s n:Nat),(List.range' s n).map g=(List.range n).map λi=>g (s+i):=λg s n=>by rw[List.range'_eq_map_range,Oz];rfl
 rw[Sort.extract_toList f s e o!,Sort.extract_toList d s e b];have j:List.range' s (e-s)=List.range' s (e-m)++List.range' (s+(e-m)) (m-s):=k!
 have l:List.range' s (e-s)=List.range' s (m-s)++List.range' (s+(m-s)) (e-m):=k!
 have l1:(List.range' s (e-m)).map (λi=>f[i]!)=(List.range' (s+(m-s)) (e-m)).map λi=>d[i]! :=by rw[key,key];refine M9 λi a=>?_;have:=IK.1 a;rw[h _ o!,kz];simp_all
 have l2:(List.range' (s+(e-m)) (m-s)).map (λi=>f[i]!)=(List.range' s (m-s)).map λi=>d[i]! :=by rw[key,key];refine M9 λi a=>?_;have:=IK.1 a;rw[h _ o!,pN];simp_all
 grind
def yq(a b:Nat)(d e:Array NE):Prop:=Sort.PermIn a b d e/\Sort.SortedIn lN a b e
def pO{a m b:Nat}{d}(h:m<=a\/b<=m)(c:Sort.SortedIn lN a m d)(e:Sort.SortedIn lN m b d)(f:a<=m)(g:m<=b):Sort.SortedIn lN a b d:=by
 rcases h with h|h;have:m=a:=o!
 rw[<-this];exact e;have:m=b:=o!
 rw[<-this];exact c
def ALF{C:List NE×(Int×(Int×Int))→Option (List NE)}{N a m b:Nat}{d:Array NE}(a4:a<m)(a5:m<b)(hb:b≤d.size)(hd:d.size≤16777216)(s:Sort.SortedIn lN a m d)(A:Sort.SortedIn lN m b d)
  (O: ∀(S:Array NE) (V_ m' R:Nat),V_<m'->m'<R->R<=S.size->S.size<=16777216->Sort.SortedIn lN V_ m' S->Sort.SortedIn lN m' R S->PT (R-V_<=N) (C (S.toList,((V_:Int),((m':Int),(R:Int))))) λr=> ∃e:Array NE,r=e.toList/\yq V_ R S e):
  PT (b-a<=N+1) (CM C d.toList ((a:Int),((m:Int),(b:Int)))) λr=> ∃e:Array NE,r=e.toList/\yq a b d e:=by
 have W_:=vM;unfold CM;have e0:wi ((m:Int)-(a:Int))=((m-a:Nat):Int):=by grind[oA]
 have e1:wi ((b:Int)-(m:Int))=((b-m:Nat):Int):=by grind[oA]
 dsimp only;rw[e0,e1,zm (i:=a) (j:=b) o!];apply PT.cond<;>intro Q;have Q:m=a+1:=by have:=eq_of_beq Q;omega
 subst Q;exact kN (AFg o! hb hd A _);apply PT.cond<;>intro n;have n:b=m+1:=by have:=eq_of_beq n;omega
 subst n;exact kN (AHf o! hb hd s _);have n1:m-a≠1:=λh=>by rw[h]at Q;exact absurd Q g!
 have n2:b-m≠1:=λh=>by rw[h]at n;exact absurd n g!
 have Y_:a<(a+b)/2/\(a+b)/2<b:=o!
 generalize hM:(a+b)/2=M at Y_⊢;have e2:wi ((M:Int)+(m:Int))=((M+m:Nat):Int):=by rw[oA];omega
 rw[e2];refine PT.bind (P:=λv=> ∃L J:Nat,v=((L:Int),(J:Int))/\L<=J/\a<=L/\J<=m/\J<=M/\M+m-L<=b/\(L=a\/M+m-L=b)/\(J=m\/J=M)) ?_ ?_;refine PT.dec (λhc=>PT.some ⟨M+m-b,M,?_,o!⟩) (λhc=>PT.some ⟨a,m,rfl,o!⟩);rw[oA];exact congrArg (λz=>(z,(M:Int))) o!;rintro v ⟨L,J,rfl,f1,f2,f3,f4,f5,f6,f7⟩;have⟨r,g,r1,r2,r3,r4⟩:=AKf (d:=d) (a:=a) (m:=m) (b:=b) (lo:=L) (hi:=J) f1 f2 f3 o! o! o! hb hd;rw[hM]at r3 r4;rw[g,AD];have e3:wi (((M+m:Nat):Int)-(r:Int))=((M+m-r:Nat):Int):=by rw[oA];omega
 simp only[e3];obtain⟨E,hE⟩: ∃E,E=M+m-r:=⟨_,rfl⟩
 rw[<-hE];have c1:a<r->E<b->lN d[E]! d[r-1]! =false:=λQ n=>by have:=r3 o!;rw[show M+m-1-(r-1)=E by omega]at this;exact this
 have c2:r<m->m<E->lN d[E-1]! d[r]! =true:=λQ n=>by have:=r4 o!;rw[show M+m-1-r=E-1 by omega]at this;exact this
 have s3: ∀c l:Array NE,Sort.PermIn a b d c->(∀k,k<d.size->c[k]! =yW r m E d k)->yq a M c l->PT (b-a<=N+1) (bif decide ((M:Int)<(E:Int))then Option.bind (bif decide ((E:Int)<(b:Int))then Option.bind (C (l.toList,((M:Int),((E:Int),(b:Int))))) λv=>bif Nat.beq (List.length v) (List.length l.toList)then some v else none else some l.toList) λv=>some v else some l.toList) λq=> ∃e:Array NE,q=e.toList/\yq a b d e:=by
  intro c l U f n;have z1:c.size=d.size:=U.1;have z2:l.size=c.size:=n.1.1;have ar: ∀k,k<r->c[k]! =d[k]! :=λk hk=>by rw[f k o!,VO]
  have ax: ∀k,r<=k->k<M->c[k]! =d[m+(k-r)]! :=λk h h'=>by rw[f k o!,kz]
  have H: ∀k,M<=k->k<E->c[k]! =d[r+(k-M)]! :=λk h h'=>by rw[f k o!,pN];exact rH o!
  have I: ∀k,E<=k->k<b->c[k]! =d[k]! :=λk h h'=>by rw[f k o!,VO]
  have a0: ∀x y,a<=x->x<M->M<=y->y<b->lN c[y]! c[x]! =false:=by
   intro x y F a3 G K;rcases Ay x r with q1|q1;rw[ar x q1];rcases Ay y E with q2|q2;rw[H y G q2];exact s x _ F o! o!;rw[I y q2 K];have k1:lN d[y]! d[E]! =false:=by rcases Ay E y with q3|q3;exact A E y o! q3 K;rw[show y=E by omega];exact W_.irrefl _
   have k2:lN d[r-1]! d[x]! =false:=by rcases Ay x (r-1)with q3|q3;exact s x (r-1) F q3 o!;rw[show r-1=x by omega];exact W_.irrefl _
   exact W_.ntrans _ _ _ (W_.ntrans _ _ _ k1 (c1 o! o!)) k2;rw[ax x q1 a3];rcases Ay y E with q2|q2;rw[H y G q2];have hc:=c2 o! o!;have k1:lN d[E-1]! d[m+(x-r)]! =false:=by rcases Ay (m+(x-r)) (E-1)with q3|q3;exact A _ (E-1) o! q3 o!;rw[show m+(x-r)=E-1 by omega];exact W_.irrefl _
   refine W_.ntrans _ d[E-1]! _ ?_ k1;cases hk:lN d[r+(y-M)]! d[E-1]! with
   |false=>rfl
   |true=>have k2:=W_.trans _ _ _ hk hc;rcases Ay r (r+(y-M))with q3|q3;exact absurd k2 (by rw[s r _ o! q3 o!];decide);rw[show r+(y-M)=r by omega,W_.irrefl]at k2;cases k2
   rw[I y q2 K];exact A _ y o! o! K
  have X: ∀d3:Array NE,yq M b l d3->yq a b d d3:=λd3 T=>by refine⟨Sort.permIn_trans _ _ _ _ _ U (Sort.permIn_trans _ _ _ _ _ (Sort.permIn_mono _ _ a M a b o! o! o! n.1) (Sort.permIn_mono _ _ M b a b o! o! o! T.1)),λx y F B G=>?_⟩;rcases Ay y M with q1|q1;rw[T.1.2.1 x o!,T.1.2.1 y o!];exact n.2 x y F B q1;rcases Ay x M with q2|q2;rw[T.1.2.1 x o!];refine Sort.permIn_all l d3 M b (λz=>lN z l[x]! =false) o! T.1 (λw hw a2=>?_) y q1 G;rw[n.1.2.1 w o!];exact Sort.permIn_all c l a M (λz=>lN c[w]! z=false) o! n.1 (λu hu a1=>a0 u w hu a1 hw a2) x F q2;exact T.2 x y q2 B G
  have ao:Sort.SortedIn lN M E l:=λx y F B G=>by rw[n.1.2.1 x o!,n.1.2.1 y o!,H x F o!,H y o! G];exact s _ _ o! o! o!
  have ap:Sort.SortedIn lN E b l:=λx y F B G=>by rw[n.1.2.1 x o!,n.1.2.1 y o!,I x F o!,I y o! G];exact A _ _ o! o! o!
  have o:E<=M\/b<=E->yq a b d l:=λh=>X l ⟨Sort.permIn_refl _ _ _,pO h ao ap o! o!⟩;refine PT.dec (λq1=>PT.bind (P:=λq=> ∃e:Array NE,q=e.toList/\yq a b d e) (PT.dec (λq2=>?_) (λq2=>PT.some ⟨l,rfl,o o!⟩)) λr h=>PT.some h) (λq1=>PT.some ⟨l,rfl,o o!⟩);have hr:=O l M E b o! o! o! o! ao ap;refine PT.bind (P:=λq=> ∃e:Array NE,q=e.toList/\yq M b l e) ⟨λt=>hr.1 o!,hr.2⟩ ?_;rintro q ⟨e,rfl,D⟩;exact bF (by rw[D2,D2,D.1.1]) (PT.some ⟨e,rfl,X e D⟩)
 have s2: ∀c:Array NE,Sort.PermIn a b d c->(∀k,k<d.size->c[k]! =yW r m E d k)->PT (b-a<=N+1) (bif decide ((a:Int)<(r:Int))then Option.bind (bif decide ((r:Int)<(M:Int))then Option.bind (C (c.toList,((a:Int),((r:Int),(M:Int))))) λv=>bif Nat.beq (List.length v) (List.length c.toList)then some v else none else some c.toList) λv=>(bif decide ((M:Int)<(E:Int))then Option.bind (bif decide ((E:Int)<(b:Int))then Option.bind (C (v,((M:Int),((E:Int),(b:Int))))) λw=>bif Nat.beq (List.length w) (List.length v)then some w else none else some v) λw=>some w else some v)else(bif decide ((M:Int)<(E:Int))then Option.bind (bif decide ((E:Int)<(b:Int))then Option.bind (C (c.toList,((M:Int),((E:Int),(b:Int))))) λw=>bif Nat.beq (List.length w) (List.length c.toList)then some w else none else some c.toList) λw=>some w else some c.toList)) λq=> ∃e:Array NE,q=e.toList/\yq a b d e:=by
  intro c U f;have z1:c.size=d.size:=U.1;have ad:Sort.SortedIn lN a r c:=λx y F B G=>by rw[f x o!,f y o!,VO,VO];exact s _ _ o! o! o!
  have al:Sort.SortedIn lN r M c:=λx y F B G=>by rw[f x o!,f y o!,kz,kz];exact A _ _ o! o! o!
  have o:r<=a\/M<=r->yq a M c c:=λh=>⟨Sort.permIn_refl _ _ _,pO h ad al o! o!⟩
  refine PT.dec (λq1=>PT.bind (P:=λq=> ∃e:Array NE,q=e.toList/\yq a M c e) ?_ ?_) (λq1=>s3 c c U f (o o!));refine PT.dec (λq2=>?_) (λq2=>PT.some ⟨c,rfl,o o!⟩);have hr:=O c a r M o! o! o! o! ad al;refine PT.bind (P:=λq=> ∃e:Array NE,q=e.toList/\yq a M c e) ⟨λt=>hr.1 o!,hr.2⟩ ?_;rintro q ⟨e,rfl,D⟩;exact bF (by rw[D2,D2,D.1.1]) (PT.some ⟨e,rfl,D⟩);rintro q ⟨e,rfl,D⟩;exact s3 c e U f D
 have Z_:r=m\/E=m-> ∀k,k<d.size->d[k]! =yW r m E d k:=λh k hk=>by rcases Ay k r with q1|q1;rw[VO];rcases Ay k (r+(E-m))with q2|q2;rw[kz q1 q2];exact rH o!;rcases Ay k E with q3|q3;rw[pN q2 q3];exact rH o!;rw[VO]
 refine PT.dec (λq1=>PT.bind (P:=λq=> ∃e:Array NE,q=e.toList/\Sort.PermIn a b d e/\ ∀k,k<d.size->e[k]! =yW r m E d k) ?_ ?_) (λq1=>s2 d (Sort.permIn_refl _ _ _) (Z_ o!));refine PT.dec (λq2=>PT.bind (kN (ADX (d:=d) (a:=r) (m:=m) (b:=E) o! o! o! hd)) ?_) (λq2=>PT.some ⟨d,rfl,Sort.permIn_refl _ _ _,Z_ o!⟩);rintro q ⟨e,rfl,z,D⟩;exact bF (by rw[D2,D2,z]) (PT.some ⟨e,rfl,Sort.permIn_mono _ _ r E a b o! o! hb (AHY o! o! o! z D),D⟩);rintro q ⟨e,rfl,p,D⟩;exact s2 e p D
def AJe(n:Nat)(p:S NE×(Int×(Int×Int))):om (λg (p:S NE×(Int×(Int×Int)))=>CM g p.1 p.2) (n+1) p=CM (om (λg (p:S NE×(Int×(Int×Int)))=>CM g p.1 p.2) n) p.1 p.2:=rfl
def ABb:∀(N:Nat)(d:Array NE)(a m b:Nat),a<m→m<b→b≤d.size→d.size≤16777216→Sort.SortedIn lN a m d→Sort.SortedIn lN m b d→
  PT (b-a<=N) (om (λg (p:S NE×(Int×(Int×Int)))=>CM g p.1 p.2) N (d.toList,(a:Int),(m:Int),(b:Int))) λr=>∃e:Array NE,r=e.toList/\yq a b d e
 |0,d,a,m,b,h1,h2,h3,h4,h5,h6=>⟨λt=>N! t o!,λr e=>by cases e⟩
 |N+1,d,a,m,b,h1,h2,h3,h4,h5,h6=>by rw[AJe];exact ALF h1 h2 h3 h4 h5 h6 (ABb N)
def AII{d:Array NE}{a m b:Nat}(c:a<m)(f:m<b)(g:b≤d.size)(h:d.size≤16777216)(i:Sort.SortedIn lN a m d)(j:Sort.SortedIn lN m b d):
  Ap (Eb d.toList ((a:Int),(m:Int),(b:Int))) λr=>∃e:Array NE,r=e.toList/\yq a b d e:=by
 have⟨r,hr⟩:=(ABb (b-a) d a m b c f g h i j).1 (Al _);have⟨s,k⟩:=gY hr;have⟨N,l⟩:=dc k;exact⟨s,k,(ABb N d a m b c f g h i j).2 s l⟩
def Mul(s a:Nat):Prop:=∃k,a=k*s
def Mul.zero{s}:Mul s 0:=⟨0,q!⟩
def Mul.add{s a}(h:Mul s a):Mul s (a+s):=by obtain⟨k,rfl⟩:=h;exact⟨k+1,k!⟩
def Mul.half{s a:Nat}(h:Mul (2*s) a):Mul s a:=by obtain⟨k,rfl⟩:=h;exact⟨k*2,k!⟩
def Mul.lt{s a b}(c:Mul s a)(d:Mul s b)(h:a<b):a+s<=b:=by obtain⟨k,rfl⟩:=c;obtain⟨j,rfl⟩:=d;have:k<j:=Nat.lt_of_mul_lt_mul_right h;have:=NB s (Nat.succ_le_of_lt this);grind
theorem aN{a b c:Nat}{d}(h:Sort.SortedIn lN a b d)(i:c<=b):Sort.SortedIn lN a c d:=λx y e f g=>h x y e f o!
def XE{a b x y}{d e}(h:Sort.SortedIn lN a b d)(c:Sort.PermIn x y d e)(l:b<=x\/y<=a):Sort.SortedIn lN a b e:=λi j f g k=>by rw[c.2.1 i o!,c.2.1 j o!];exact h i j f g k
def Blk(s n:Nat)(d:Array NE):Prop:=∀a b,Mul s a->b<=a+s->b<=n->Sort.SortedIn lN a b d
def ADc{d0:Array NE}{n:Nat}(hn:n=d0.size)(hd:n<=1048576):Ap (E6 d0.toList (n:Int)) λr=>∃e:Array NE,r=e.toList/\yq 0 n d0 e:=by
 unfold E6;refine AA (P:=λ(r:Int×List NE)=>∃(a:Nat)(d:Array NE),r.1=a/\r.2=d.toList/\a<=n/\n<a+20/\Mul 20 a/\Sort.PermIn 0 n d0 d/\∀c,Mul 20 c->c<a->Sort.SortedIn lN c (c+20) d) ?_ ?_;refine AW (λ(s:Int×(Int×List NE))=>∃(a:Nat)(d:Array NE),s.1=a/\s.2.1=((a+20:Nat):Int)/\s.2.2=d.toList/\a<=n/\Mul 20 a/\Sort.PermIn 0 n d0 d/\∀c,Mul 20 c->c<a->Sort.SortedIn lN c (c+20) d) (λs=>n-s.1.toNat) ⟨0,d0,rfl,rfl,rfl,BR _,Mul.zero,Sort.permIn_refl _ _ _,λc _ h=>N! h o!⟩ ?_;rintro⟨Y_,Z_,s3⟩ ⟨a,d,q1,q2,q3,q4,q5,q6,q7⟩;dsimp only at q1 q2 q3;subst q1 q2 q3;have hz:d.size=n:=by rw[q6.1,hn]
 unfold JK;dsimp only;refine AC (λO=>?_) (λO=>AB ⟨a,d,rfl,rfl,q4,o!,q5,q6,q7⟩);have A:=Sort.insertionSort_holds vM d a (a+20) o! o!;rw[ACC (d:=d) (k:=a) (m:=a+20) rfl rfl o! o! o!,AD];have j:ξ (θ (Sort.insertionSort lN d a (a+20)).toList) (θ d.toList)=ζ:=by rw[D2,D2,A.1.1];exact Hk _
 have e1:wi (((a+20:Nat):Int)+20)=((a+20+20:Nat):Int):=by grind[oA]
 rw[j,B!,e1];refine AB ⟨⟨a+20,_,rfl,rfl,rfl,o!,q5.add,Sort.permIn_trans _ _ _ _ _ q6 (Sort.permIn_mono _ _ a (a+20) 0 n o! o! o! A.1),λc g w=>?_⟩,?_⟩;rcases Ay c a with l|l;exact XE (q7 c g l) A.1 (.inl (g.lt q5 l));have:c=a:=by rcases Ay a c with i|i;have:=q5.lt g i;omega;omega
 rw[this];exact A.2;show n-((a+20:Nat):Int).toNat<n-((a:Nat):Int).toNat
 omega;rintro⟨r1,r2⟩ ⟨a,d,q1,q2,q3,q4,q5,q6,q7⟩;dsimp only at q1 q2;subst q1 q2;have hz:d.size=n:=by rw[q6.1,hn]
 dsimp only;have A:=Sort.insertionSort_holds vM d a n q3 o!;rw[ACC (d:=d) (k:=a) (m:=n) rfl rfl o! o! o!,AD];have j:ξ (θ (Sort.insertionSort lN d a n).toList) (θ d.toList)=ζ:=by rw[D2,D2,A.1.1];exact Hk _
 rw[j,B!];have C:Sort.PermIn 0 n d0 (Sort.insertionSort lN d a n):=Sort.permIn_trans _ _ _ _ _ q6 (Sort.permIn_mono _ _ a n 0 n o! o! o! A.1);have u:Blk 20 n (Sort.insertionSort lN d a n):=λc o g w l=>by rcases Ay c a with i|i;exact aN (XE (q7 c g i) A.1 (.inl (g.lt q5 i))) w;rcases Ay a c with E|E;have:=q5.lt g E;exact λx y H I J=>N! J o!;grind[aN]
 revert C u;generalize Sort.insertionSort lN d a n=d1;intro C u;refine AA (P:=λr=>∃e:Array NE,r=e.toList/\yq 0 n d0 e) (AW (λ(s:Int×List NE)=>∃(t:Nat)(e:Array NE),s.1=t/\s.2=e.toList/\1<=t/\t<=2097172/\Sort.PermIn 0 n d0 e/\Blk t n e) (λs=>n-s.1.toNat) ⟨20,d1,rfl,rfl,o!,o!,C,u⟩ ?_) λr h=>AB h;rintro⟨Y_,Z_⟩ ⟨t,e,H,I,J,g4,V_,W_⟩;dsimp only at H I;subst H I;unfold JL;dsimp only;refine AC (λO=>?_) (λO=>AB ⟨e,rfl,V_,W_ 0 n Mul.zero o! (Al _)⟩);have U:wi (2*(t:Int))=((2*t:Nat):Int):=by rw[oA];omega
 have e3:wi ((t:Int)*2)=((2*t:Nat):Int):=by rw[oA];omega
 rw[U,e3];refine AA (P:=λ(r:Int×List NE)=>∃(a:Nat)(f:Array NE),r.1=a/\r.2=f.toList/\a<=n/\n<a+2*t/\Mul (2*t) a/\Sort.PermIn 0 n d0 f/\(∀c,Mul (2*t) c->c<a->Sort.SortedIn lN c (c+2*t) f)/\∀c o,Mul t c->a<=c->o<=c+t->o<=n->Sort.SortedIn lN c o f) ?_ ?_;refine AW (λ(s:Int×(Int×List NE))=>∃(a:Nat)(f:Array NE),s.1=a/\s.2.1=((a+2*t:Nat):Int)/\s.2.2=f.toList/\a<=n/\Mul (2*t) a/\Sort.PermIn 0 n d0 f/\(∀c,Mul (2*t) c->c<a->Sort.SortedIn lN c (c+2*t) f)/\∀c o,Mul t c->a<=c->o<=c+t->o<=n->Sort.SortedIn lN c o f) (λs=>n-s.1.toNat)
  ⟨0,e,rfl,q!,rfl,BR _,Mul.zero,V_,λc _ h=>N! h o!,λc o g _ w l=>W_ c o g w l⟩ ?_
 rintro⟨Y_,Z_,s3⟩ ⟨a,f,k1,G,T,X,p,D,K,B⟩;dsimp only at k1 G T;subst k1 G T;have S:f.size=n:=by rw[D.1,hn]
 unfold JM;dsimp only;refine AC (λQ=>?_) (λQ=>AB ⟨a,f,rfl,rfl,X,o!,p,D,K,B⟩);have N:wi ((a:Int)+(t:Int))=((a+t:Nat):Int):=by rw[oA];omega
 have e5:wi (((a+2*t:Nat):Int)+((2*t:Nat):Int))=((a+2*t+2*t:Nat):Int):=by rw[oA];omega
 rw[N,U,e5];apply AA (AII (d:=f) (a:=a) (m:=a+t) (b:=a+2*t) o! o! o! o! (B a (a+t) p.half (Al _) (Al _) o!) (B (a+t) (a+2*t) p.half.add o! o! o!));rintro r ⟨q,rfl,v,F⟩;have j:ξ (θ q.toList) (θ f.toList)=ζ:=by rw[D2,D2,v.1];exact Hk _
 rw[j,B!];refine AB ⟨⟨a+2*t,q,rfl,rfl,rfl,o!,p.add,Sort.permIn_trans _ _ _ _ _ D (Sort.permIn_mono _ _ a (a+2*t) 0 n o! o! o! v),λc g w=>?_,λc o g w l i=>XE (B c o g o! l i) v (.inr w)⟩,?_⟩;rcases Ay c a with l|l;exact XE (K c g l) v (.inl (g.lt p l));have:c=a:=by rcases Ay a c with i|i;have:=p.lt g i;omega;omega
 rw[this];exact F;show n-((a+2*t:Nat):Int).toNat<n-((a:Nat):Int).toNat
 omega;rintro⟨v1,v2⟩ ⟨a,f,k1,G,T,X,p,D,K,B⟩;dsimp only at k1 G;subst k1 G;have S:f.size=n:=by rw[D.1,hn]
 dsimp only;have N:wi ((a:Int)+(t:Int))=((a+t:Nat):Int):=by rw[oA];omega
 rw[N];have z:∀q:Array NE,Sort.PermIn a n f q->Sort.SortedIn lN a n q->(∃(L:Nat)(M:Array NE),((2*t:Nat):Int)=L/\q.toList=M.toList/\1<=L/\L<=2097172/\Sort.PermIn 0 n d0 M/\Blk L n M)/\n-((2*t:Nat):Int).toNat<n-((t:Nat):Int).toNat:=λq v F=>by refine⟨⟨2*t,q,rfl,rfl,o!,o!,Sort.permIn_trans _ _ _ _ _ D (Sort.permIn_mono _ _ a n 0 n o! o! o! v),λc o g w l=>?_⟩,o!⟩;rcases Ay c a with i|i;exact aN (XE (K c g i) v (.inl (g.lt p i))) w;rcases Ay a c with E|E;have:=p.lt g E;exact λx y H I J=>N! J o!;rw[show c=a by omega];exact aN F l
 refine AC (λR=>AA (AII (d:=f) (a:=a) (m:=a+t) (b:=n) o! o! o! o! (B a (a+t) p.half (Al _) (Al _) o!) (B (a+t) n p.half.add o! o! (Al _))) ?_) (λR=>AB (z f (Sort.permIn_refl _ _ _) (B a n p.half (Al _) o! (Al _))));rintro r ⟨q,rfl,v,F⟩;have j:ξ (θ q.toList) (θ f.toList)=ζ:=by rw[D2,D2,v.1];exact Hk _
 rw[j,B!];exact AB (z q v F)
def AHj{l:S NE}(h:U l<=1048576):Ap (C0 l ()) λr=>r.Perm l/\r.Pairwise λx y=>lN y x=Y:=by
 unfold C0;apply AA (ADc (d0:=l.toArray) (n:=U l) q! h);rintro r ⟨R,rfl,d,f⟩;have e:R.size=U l:=by rw[d.1];simp
 have g:ξ (U R.toList) (U l)=V:=by simp[e]
 rw[g,B!];refine AB ⟨?_,?_⟩;have:=d.2.2;rw[show R.extract 0 (U l)=R by rw[<-e];exact oI,show l.toArray.extract 0 (U l)=l.toArray by rw[show U l=l.toArray.size by simp];exact oI]at this;exact this;rw[Ed];intro i j k m b;have a:i<R.size:=by simpa using k
 have c:j<R.size:=by simpa using m
 have:=f i j (BR _) b o!;rw[getElem!_pos R j c,getElem!_pos R i a]at this;simpa using this
def AF7(l:S NE):Prop:=∀x∈l,∀y∈l,x≠y->x.1.2.2.1=y.1.2.2.1->x.1.2.1<y.1.1\/y.1.2.1<x.1.1
def AHb{N a:List NE}(W_:θ N=θ a)(G:θ a≤256)(I:∀e∈a,1≤e.1.1∧e.1.1≤e.1.2.1∧e.1.2.1≤1099511627776∧0≤e.1.2.2.1)(P:a.Pairwise λx y=>lN y x=η)(hn:a.Nodup)(O:AF7 a):
  Ap (Aj (Tf N a) (0,(-1),0,[],[])) λr=>r=(a.map (·.1),a.map (·.2)):=by
 refine AW (λ(s:Int×(Int×(Int×(List AS×List Int))))=>∃k:Nat,s.1=k/\k<=θ a/\s.2.2.2=((a.take k).map (·.1),(a.take k).map (·.2))/\((k=0/\s.2.1= -1)\/∃e,0<k/\a[k-1]?=δ e/\s.2.1=e.1.2.2.1/\s.2.2.1=e.1.2.1)) (λs=>θ a-s.1.toNat) ⟨0,rfl,BR _,rfl,.inl ⟨rfl,rfl⟩⟩ ?_;rintro⟨Y_,R,Z_,s4⟩ ⟨k,q1,q2,q3,q4⟩;dsimp only at q1 q3 q4;subst q1 q3;unfold Tf;dsimp only;refine AC (λw=>?_) (λw=>AB ?_)
 ·simp only[len]at w;refine AA (AJ) λv8 _=>AA (AJ) λv h=>?_;have z:a[k]?=δ v:=by simpa using h.1
  obtain⟨S,T,U,V_⟩:=I v h.2;have C:a.take (k+1)=a.take k++[v]:=by rw[Cr,z];rfl
  have X:(a.take k).length<=256:=by rw[BQ];omega
  have j:∀D:Int,D=v.1.2.2.1→Ap (σ (app ((a.take k).map (·.1)) [v.1]) λf=>σ (app ((a.take k).map (·.2)) [v.2]) λg=>δ (Step.next (wi ((k:Int)+1),D,v.1.2.1,f,g))) λ(st:Step (Int×(Int×(Int×(List AS×List Int)))) (List AS×List Int))=>match st with
    |.next i=>(∃d:Nat,i.1=d/\d<=θ a/\i.2.2.2=((a.take d).map (·.1),(a.take d).map (·.2))/\((d=0/\i.2.1= -1)\/∃e,0<d/\a[d-1]?=δ e/\i.2.1=e.1.2.2.1/\i.2.2.1=e.1.2.1))/\θ a-i.1.toNat<θ a-((k:Nat):Int).toNat
    |.done r=>r=(a.map (·.1),a.map (·.2)):=λD A=>by
   refine AA (Aa w!) λf t=>AA (Aa w!) λg u=>AB ⟨⟨k+1,?_,o!,?_,.inr ⟨v,o!,by rw[nC];exact z,A,rfl⟩⟩,?_⟩;show wi ((k:Int)+1)=_;rw[wip];show(f,g)=_;rw[t.1,u.1,C,LD,LD];rfl;show θ a-(wi ((k:Int)+1)).toNat<θ a-((k:Nat):Int).toNat
   rw[wip];omega
  have b:∀n:Int,n<v.1.1->OA (v.1,n)=δ v.1:=λn hn=>by unfold OA;have:τ (v.1.1>n)=ζ:=G! hn;dsimp only;rw[this,B!]
  refine AL (λm=>?_) (λc=>?_);refine AC (λq=>N! q o!) (λ_=>?_);rw[b 0 o!,AD];obtain⟨st,E,F⟩:=j v.1.2.2.1 rfl;exact⟨st,E,by cases st<;>exact F⟩;rcases q4 with⟨_,q4⟩|⟨e,q5,q6,q7,q8⟩;exact N! (c.trans q4) o!;have B:e.1.2.1<v.1.1:=by
   have H:=BN q6;obtain⟨J,K⟩:=EU.1 q6;obtain⟨L,M⟩:=EU.1 z;have m:e≠v:=λp=>by have:=(Ed.1 (IL.1 hn)) (k-1) k J L o!;rw[K,M]at this;exact this p
   have o:=(Ed.1 P) (k-1) k J L o!;rw[K,M]at o;have Q:=I e H;have l:e.1.2.2.1=v.1.2.2.1:=by rw[<-q7];exact c.symm
   rcases O e H v h.2 m l with p|p;exact p;simp only[lN,decide_eq_false_iff_not]at o;omega
  rw[q8];refine AC (λq=>N! q o!) (λ_=>?_);rw[b _ B,AD];obtain⟨st,E,F⟩:=j R c.symm;exact⟨st,E,by cases st<;>exact F⟩
 simp only[len]at w;rw[BO o!]
noncomputable def intR(a:AI)(f:Aq):Ω NE:=
 match HA (a,f)with
 |some (r,V)=>Z (r,f.2.1)
 |_=>W
noncomputable def DW(a:AI):S NE:=a.2.2.1.filterMap (intR a)
def AHa{x:AI}(h:VB x)(t:DS x):Ap (Aj (Te x) (0,[])) λr=>r=DW x/\θ r<=256/\∀e∈r,aS e.1:=by
 obtain⟨⟨v,w,y,n,z,A,B⟩,a1,a2,a3,a4,a5,a6⟩:=id h;refine AW (λ(s:Int×NL)=>0<=s.1/\s.1<=θ x.2.2.1/\θ s.2<=s.1/\(∀e∈s.2,aS e.1)/\s.2=(x.2.2.1.take s.1.toNat).filterMap (intR x)) (λ(s:Int×NL)=>((θ x.2.2.1:Int)-s.1).toNat) ⟨Ae _,d!,q!,λe a=>by simp at a,q!⟩ (λs q=>?_);obtain⟨u,C,D,j,k⟩:=q;unfold Te;refine AC (λf=>?_) (λf=>AB ⟨?_,o!,j⟩);simp only[len]at f;have e:=AY (x:=s.1+1);rw[e];refine AA (AJ u f) λg m=>?_;have c:x.2.2.1.take (s.1+1).toNat=x.2.2.1.take s.1.toNat++[g]:=by rw[show(s.1+1).toNat=s.1.toNat+1 by omega,Cr,m.1];rfl
 refine EA (mS n (t _ m.2)) λl d p=>AK (λb=>?_) (λb=>AB ⟨⟨d!,d!,d!,j,?_⟩,d!⟩);have hr:intR x g=δ (l.1,g.2.1):=by unfold intR;rw[d];obtain⟨r,o⟩:=l;dsimp only at b;subst b;rfl
 refine AA (Aa w!) λE i=>AB ⟨⟨d!,d!,?_,λe a=>?_,?_⟩,d!⟩;have:=i.2.1;simp only[BY,Bj]at this;dsimp only;omega;dsimp only at a;rw[i.1]at a;rcases Am.1 a with a|a;exact j e a;rw[A9.1 a];exact p b;dsimp only;rw[c,wD,i.1,k];simp[hr];have hr:intR x g=ε:=by unfold intR;rw[d];obtain⟨r,o⟩:=l;dsimp only at b;subst b;rfl
 dsimp only;rw[c,wD,k];simp[hr];simp only[len]at f;rw[k,BO o!];rfl
def tN{x}(h:VB x)(m:DS x)(hn:(DW x).Nodup)(b:AF7 (DW x)):Ap (HY x) λr=>∃v:S NE,v.Perm (DW x)/\(v.Pairwise λp q=>lN q p=Y)/\r=(v.map (·.1),v.map (·.2))/\U v<=256/\∀e∈v,aS e.1:=by
 unfold HY;refine AA (Fl h) λt j=>?_;rw[j,B9,A!];refine AA (AHa h m) λu k=>?_;obtain⟨rfl,g,s⟩:=k;refine AA (AHj o!) λf a=>?_;have i:=a.1.length_eq;have l:ξ (U f) (U (DW x))=V:=by rw[i];exact Hk _
 rw[l,B!];have c:∀e∈f,aS e.1:=λe d=>s e (a.1.mem_iff.1 d);refine AA (AHb i.symm o! (λe d=>?_) a.2 (a.1.nodup_iff.2 hn) (λp n q o=>b p (a.1.mem_iff.1 n) q (a.1.mem_iff.1 o))) λr hr=>AB ⟨f,a.1,a.2,hr,o!,c⟩;have:=c e d;exact⟨this.1,this.2.1,this.2.2.1,this.2.2.2.1⟩
def zF(l:S (Int×Int))(n:Int):Prop:=∃s∈l,s.1<=n/\n<=s.2
def AEh{l:List (Int×Int)}{u b:Int}(p:θ l<=16777216):Ap (Aj (Tg (l,u)) (0,b)) λr=>(∀q,r=.inl q->0<=q.1/\q.1<θ l/\q.2=b/\∀e,l[q.1.toNat]?=δ e->e.1<=b/\b<=e.2)/\(∀q,r=.inr q->q=b/\¬zF l b):=by refine AW (λ(s:Int×Int)=>0<=s.1/\s.1<=θ l/\s.2=b/\∀e∈l.take s.1.toNat,¬(e.1<=b/\b<=e.2)) (λ(s:Int×Int)=>((θ l:Int)-s.1).toNat) ⟨Ae _,d!,rfl,q!⟩ (λt n=>?_);obtain⟨k,v,m,g⟩:=n;unfold Tg;refine AC (λd=>?_) (λd=>AB ⟨λu c=>(by cases c),λu c=>?_⟩);simp only[len]at d;have e:=AY (x:=t.1+1);rw[e];refine AA (AJ k d) λw h=>?_;unfold U2;rw[has_eq,AD,AD,m];refine AK (λf=>AB ⟨λu c=>?_,λu c=>(by cases c)⟩) (λi=>AB ⟨⟨d!,d!,rfl,λe a=>?_⟩,d!⟩);cases c;refine⟨k,d,rfl,λe a=>?_⟩;dsimp only at a;rw[h.1]at a;injection a with a;subst a;unfold QI at f;simp only[BV,K!]at f;exact f;dsimp only at a;rw[show(t.1+1).toNat=t.1.toNat+1 by omega,Cr,h.1]at a;rcases Am.1 a with a|a;exact g e a;rw[nH,A9]at a;subst a;intro j;unfold QI at i;simp only[wB,decide_eq_false_iff_not]at i;omega;cases c;simp only[len]at d;rw[BO o!]at g;exact⟨m,by rw[show zF l b↔∃s∈l,s.1<=b/\b<=s.2 from YJ];rintro⟨s,o,j⟩;exact g s o j⟩
def AAu{l}{u:Int}(h:SpL l)(w:0<=u)(A:u<=1099511627776):Ap (Mc (l,u)) λr=>0<=r/\r<=u/\(∀n,r<n->n<=u->zF l n)/\(r=0\/¬zF l r):=by obtain⟨a1,a2⟩:=h;unfold Mc;refine AA (P:=λr=>0<=r/\r<=u/\(∀n,r<n->n<=u->zF l n)/\(r=0\/¬zF l r)) ?_ λr hr=>AB hr;refine AW (λs=>0<=s/\s<=u/\∀n,s<n->n<=u->zF l n) (·.toNat) ⟨w,Ae _,λn k m=>by dsimp only at k;omega⟩ (λs v=>?_);obtain⟨p,t,g⟩:=v;unfold Yq;refine AA (AEh (b:=s) a1) λr hr=>BG (λq f=>?_) (λq f=>?_);obtain⟨i,j,y,z⟩:=hr.1 q f;refine AC (N! · o!) (λ_=>AC (λd=>AB ?_) (λB=>?_));rw[y]at d⊢;exact⟨p,t,g,.inl o!⟩;refine AA (AJ i j) λa c=>?_;have q1:=z a c.1;have q2:=a2 a c.2;have e:=AY (x:=a.1-1);rw[e];refine AB ⟨⟨o!,o!,λn k m=>?_⟩,o!⟩;rcases lJ s n with o|o;exact g n o m;exact⟨a,c.2,o!⟩;obtain⟨i,j⟩:=hr.2 q f;rw[i];exact AB ⟨p,t,g,.inr j⟩
def wS{x}(h:VB x):x.2.2.1.Pairwise λf g=>f.2.1<g.2.1:=by
 have c:=h.2.2.2.2.2.2.2;rw[Ed];have step:∀n i:Nat,∀(a:i<U x.2.2.1)(b:i+1+n<U x.2.2.1),(x.2.2.1[i]).2.1<(x.2.2.1[i+1+n]).2.1:=by
  intro n;induction n with
  |zero=>intro i a b;exact c i _ _ o! (As a) (As b)
  |succ n m=>intro i a b;have d:=m i a o!;have k:=c (i+1+n) _ _ o! (As o!) (As b);exact Int.lt_trans d k
 intro i j a b l;have:=step (j-(i+1)) i a o!;have e:i+1+(j-(i+1))=j:=o!
 simp only[e]at this;exact this
theorem lz{x}(h:VB x):((DW x).map (·.2)).Pairwise (· < ·):=by
 unfold DW;rw[TQ,List.pairwise_filterMap];refine(wS h).imp λ{f g} b y a z c=>?_;have one:∀(f:Aq)(y:NE),intR x f=Z y->y.2=f.2.1:=λf y a=>by unfold intR at a;split at a;injection a with a;rw[<-a];cases a
 rw[one f y a,one g z c];exact b
def K7{x}(h:VB x):(DW x).Nodup:=by have:=lz h;rw[TQ]at this;exact IL.2 (this.imp λh e=>by rw[e]at h;omega)
def AKP{a:AI}{l:AZ}{p i j:Int}{Q:List (Int×Int)}{d:Int×Int}{r:AS}{W_:List (Int×EN)}{u:Int}{P:EN→Prop}(hr:θ r.2.2.2.2.2≤4096)(Y_:Q[0]?=δ d)(hm:Ql W_ P)(hn:0≤u∧u≤1099511627776)
  (S:∀v∈r.2.2.2.2.2,IF p i j v=ζ->(QI d v.1=ζ->P v)/\∀e,(P e\/(e∈r.2.2.2.2.2/\IF p i j e=ζ))->e.1=v.1->e=v):
  Ap (Aj (XU (a,l,p,i,j) Q r) (0,W_,u,[],0)) λq=>∃m n,q=.inl (m,n,[],0)/\Ql m (λe=>P e\/(e∈r.2.2.2.2.2/\IF p i j e=ζ))/\n=u+((r.2.2.2.2.2.filter λe=>IF p i j e&&QI d e.1).length:Int):=by
 generalize hL:r.2.2.2.2.2=L at hr S⊢;refine AW (λ(s:Int×(List (Int×EN)×(Int×(List EN×Int))))=>0<=s.1/\s.1<=θ L/\s.2.2.2=([],0)/\s.2.2.1=u+(((L.take s.1.toNat).filter λe=>IF p i j e&&QI d e.1).length:Int)/\Ql s.2.1 λe=>P e\/(e∈L.take s.1.toNat/\IF p i j e=ζ)) (λs=>((θ L:Int)-s.1).toNat)
  ⟨Ae _,d!,rfl,q!,hm.congr λe=>q!⟩ (λs Z_=>?_)
 obtain⟨c,E,F,s4⟩:=s;obtain⟨U,i2,V_,C,z⟩:=Z_;dsimp only at U i2 V_ C z;subst V_;unfold XU;dsimp only;rw[hL];refine AC (λf=>?_) (λf=>AB ?_);simp only[len]at f;have X:=AY (x:=c+1);rw[X];refine AA (AJ U f) λv R=>?_;rw[nQ,AD];have o:L.take (c+1).toNat=L.take c.toNat++[v]:=by rw[show(c+1).toNat=c.toNat+1 by omega,Cr,R.1];rfl
 have k:IF p i j v=η->(0<=c+1/\c+1<=θ L/\(([],0):List EN×Int)=([],0)/\F=u+(((L.take (c+1).toNat).filter λe=>IF p i j e&&QI d e.1).length:Int)/\Ql E λe=>P e\/(e∈L.take (c+1).toNat/\IF p i j e=ζ))/\((θ L:Int)-(c+1)).toNat<((θ L:Int)-c).toNat:=λy=>by
  refine⟨⟨o!,o!,rfl,?_,?_⟩,o!⟩;rw[o,GO,C];simp[y];rw[o];refine z.congr λe=>⟨?_,?_⟩
  rintro(h|h);exact .inl h;exact .inr ⟨Am.2 (.inl h.1),h.2⟩;rintro(h|⟨h,w⟩);exact .inl h;rcases Am.1 h with h|h;exact .inr ⟨h,w⟩;rw[A9.1 h,y]at w;cases w
 refine AK (λG=>?_) (λG=>AB (k (by simp[IF,G])));refine AK (λH=>?_) (λH=>AB (k (by simp[IF,H])));refine AK (λI=>?_) (λI=>AB (k (by unfold IF;rw[I];simp)));refine AO (λJ=>AB (k (by unfold IF;rw[J];simp))) (λJ=>?_);have y:IF p i j v=ζ:=by unfold IF;rw[G,H,I,J];rfl
 have O:ix Q 0=δ d:=by unfold ix;rw[C! (Ae _)];exact Y_
 rw[O,AD,has_eq,AD];obtain⟨M,A⟩:=S v R.2 y;have t:Ql (QJ v.1 v E) λe=>P e\/(e∈L.take (c+1).toNat/\IF p i j e=ζ):=by
  rw[o];refine z.put.congr λe=>⟨?_,λh=>?_⟩
  rintro(rfl|⟨h|h,_⟩);exact .inr ⟨Am.2 (.inr (A9.2 rfl)),y⟩;exact .inl h;exact .inr ⟨Am.2 (.inl h.1),h.2⟩;by_cases g:e=v;exact .inl g;rcases h with h|⟨h,w⟩;exact .inr ⟨.inl h,λN=>g (A e (.inl h) N)⟩;rcases Am.1 h with h|h;exact .inr ⟨.inr ⟨h,w⟩,λN=>g (A e (.inr ⟨GY h,w⟩) N)⟩;exact N! (A9.1 h) g
 have T:(((L.take c.toNat).filter λe=>IF p i j e&&QI d e.1).length:Int)<=4096:=by have h1:=EM (λe=>IF p i j e&&QI d e.1) (L.take c.toNat);have h3:=List.length_take_le' c.toNat L;omega
 have K:=AY (x:=F+1);rw[K];have B:∀b:Bool,QI d v.1=b->u+((((L.take (c+1).toNat).filter λe=>IF p i j e&&QI d e.1).length:Nat):Int)=F+(if b=ζ then 1 else 0):=λb hb=>by rw[o,GO,Ac,C];cases b<;>simp[y,hb]<;>omega
 refine AK (λD=>?_) (λD=>AB ⟨⟨d!,d!,rfl,?_,t⟩,d!⟩);have hg:LY v.1 E=δ v:=z.get (.inl (M D));rw[hg];simp only[Option.isSome_some,B9,A!,nF,L!,YH];refine AB ⟨⟨d!,d!,rfl,?_,t⟩,d!⟩;rw[B ζ D];rfl;rw[B η D];simp;simp only[len]at f;rw[BO o!]at C z;exact⟨E,F,rfl,z,C⟩
def Kc(low:Int)(rs:S AS):S EN:=(rs.filter λr=>r.2.2.1==low).flatMap λr=>r.2.2.2.2.2
def AKO{a:AI}{l:AZ}{p i j:Int}{X:List (Int×Int)}{sp:Int×Int}{b:Int×(Int×Bool)}{c:List AS}{E:List Int}{W_:List (Int×EN)}{P:EN→Prop}(Z_:X[0]? =some sp)(hm:Ql W_ P)
  (U:c.length=E.length) (T:c.length<=256) (hr: ∀r∈c,r.2.2.2.2.2.length<=4096)
  (hc: ∀v∈Kc b.1 c,IF p i j v=true->(QI sp v.1=true->P v)/\ ∀e,(P e\/(e∈Kc b.1 c/\IF p i j e=true))->e.1=v.1->e=v):
  Ap (Aj (XT (a,(l,(p,(i,j)))) X b (c,E)) (0,(W_,(0,([],0))))) λq=> ∃m n,q= .inl (m,(n,([],0)))/\Ql m (λe=>P e\/(e∈Kc b.1 c/\IF p i j e=true))/\n=(((Kc b.1 c).filter λe=>IF p i j e&&QI sp e.1).length:Int):=by
 have B: ∀k:Nat,(Kc b.1 (c.take k)).length<=k*4096:=by
  intro k;induction k with
  |zero=>simp[Kc]
  |succ k ih=>rw[Cr];grind[Kc,List.length_append,Nat.succ_mul,Nat.add_le_add]
 refine AW (λ(s:Int×(List (Int×EN)×(Int×(List EN×Int))))=>0<=s.1/\s.1<=c.length/\s.2.2.2=([],0)/\s.2.2.1=(((Kc b.1 (c.take s.1.toNat)).filter λe=>IF p i j e&&QI sp e.1).length:Int)/\Ql s.2.1 λe=>P e\/(e∈Kc b.1 (c.take s.1.toNat)/\IF p i j e=true)) (λs=>((c.length:Int)-s.1).toNat)
  ⟨Ae _,d!,rfl,by simp[Kc],hm.congr λe=>by simp[Kc]⟩ (λs hI=>?_)
 have⟨d,s2,S,s4⟩:=s;have⟨R,i2,V_,C,D⟩:=hI;dsimp only at R i2 V_ C D;subst V_;unfold XT;dsimp only;refine AC (λo=>?_) (λo=>AB ?_);simp[len]at o;have Y_:=AY (x:=d+1);rw[Y_];refine AA (AJ R o) λv G=>?_;have t:c.take (d+1).toNat=c.take d.toNat++[v]:=by rw[show(d+1).toNat=d.toNat+1 by omega,Cr,G.1];rfl
 refine AK (λF=>?_) (λF=>AB ⟨⟨d!,d!,rfl,?_,?_⟩,d!⟩);refine AA (AJ R) λad _=>?_;have u: ∀e∈v.2.2.2.2.2,e∈Kc b.1 c:=λe g=>GX.2 ⟨v,BS.2 ⟨G.2,F⟩,g⟩;have z: ∀e∈Kc b.1 (c.take d.toNat),e∈Kc b.1 c:=λe g=>by have⟨r,L,M⟩:=GX.1 g;have⟨N,O⟩:=BS.1 L;exact GX.2 ⟨r,BS.2 ⟨GY N,O⟩,M⟩
 have K:0<=S/\S<=1099511627776:=by
  have h1:=EM (λe=>IF p i j e&&QI sp e.1) (Kc b.1 (c.take d.toNat));have h2:=B d.toNat
  omega
 have f:Kc b.1 (c.take d.toNat++[v])=Kc b.1 (c.take d.toNat)++v.2.2.2.2.2:=by grind[Kc]
 refine AA (AKP (hr v G.2) Z_ D K λw hw Q=>?_) ?_;have⟨q1,q2⟩:=hc w (u w hw) Q;refine⟨λh=>.inl (q1 h),λe g H=>q2 e ?_ H⟩;rcases g with(g|⟨g,y⟩)|⟨g,y⟩;exact .inl g;exact .inr ⟨z e g,y⟩;exact .inr ⟨u e g,y⟩;rintro q ⟨m,n,rfl,I,J⟩;refine BB (AB ⟨⟨d!,d!,rfl,?_,?_⟩,d!⟩);dsimp only;rw[t,f,J,C,GO,Ac];omega;dsimp only;rw[t,f];refine I.congr λe=>?_;rw[Am];constructor;rintro((h|⟨h,A⟩)|⟨h,A⟩);exact .inl h;exact .inr ⟨.inl h,A⟩;exact .inr ⟨.inr h,A⟩;rintro(h|⟨h|h,A⟩);exact .inl (.inl h);exact .inl (.inr ⟨h,A⟩);exact .inr ⟨h,A⟩;have f:Kc b.1 (c.take d.toNat++[v])=Kc b.1 (c.take d.toNat):=by unfold Kc;rw[GO,YM];simp[F]
 dsimp only;rw[t,f];exact C;have f:Kc b.1 (c.take d.toNat++[v])=Kc b.1 (c.take d.toNat):=by unfold Kc;rw[GO,YM];simp[F]
 dsimp only;rw[t,f];exact D;simp[len]at o;rw[BO o!]at C D;exact⟨s2,S,rfl,D,C⟩
end Go.Pm
