/- Texts of wip, joined and shortened by wip/tools/pack.py; nothing is assumed. -/
import Derived.Test.YtkgodfhnofpglaaGreatK8
noncomputable section
set_option linter.all false
set_option maxHeartbeats 1000000
open Option renaming some->D
open List renaming length->Z
open Go renaming Ψ->E
open Bool renaming false->X
open Bool renaming true->A
open Option renaming none->U
open Go renaming Ω->W
open Option renaming some->δ,none->ε,bind->σ
open Bool renaming true->ζ,false->η
open List renaming length->θ
open Go.IntKind renaming wrap->ι
open BitVec renaming ofInt->κ,toNat->π
open Nat renaming beq->ξ
open Int renaming toNat->ο
open Decidable renaming decide->τ
open _root_ renaming Int->Y,Nat->V
open Go.Ab renaming len->S
namespace Go.Pm
open Go Go.Ab
def oy(l:E (Y×Y))(n:Y):Prop:=∃s∈l,s.1<=n/\n<=s.2
def zG{l:List (Int×Int)}{u b:Int}(p:θ l<=16777216):An (Ak (T7 (l,u)) (0,b)) λr=>(∀q,r=.inl q->0<=q.1/\q.1<θ l/\q.2=b/\∀e,l[q.1.toNat]?=δ e->e.1<=b/\b<=e.2)/\(∀q,r=.inr q->q=b/\¬oy l b):=by refine AY (λ(s:Int×Int)=>0<=s.1/\s.1<=θ l/\s.2=b/\∀e∈l.take s.1.toNat,¬(e.1<=b/\b<=e.2)) (λ(s:Int×Int)=>((θ l:Int)-s.1).toNat) ⟨Ag _,d!,rfl,k!⟩ (λt n=>?_);obtain⟨k,v,m,g⟩:=n;unfold T7;refine AC (λd=>?_) (λd=>AB ⟨λu c=>(by cases c),λu c=>?_⟩);simp only[len]at d;have e:=Aa (x:=t.1+1);rw[e];refine AA (AI k d) λw h=>?_;unfold VV;rw[has_eq,AD,AD,m];refine AM (λf=>AB ⟨λu c=>?_,λu c=>(by cases c)⟩) (λi=>AB ⟨⟨d!,d!,rfl,λe a=>?_⟩,d!⟩);cases c;refine⟨k,d,rfl,λe a=>?_⟩;dsimp only at a;rw[h.1]at a;injection a with a;subst a;unfold Fq at f;simp only[BQ,K!]at f;exact f;dsimp only at a;rw[show(t.1+1).toNat=t.1.toNat+1 by omega,Ca,h.1]at a;rcases Ah.1 a with a|a;exact g e a;rw[nX,Ax]at a;subst a;intro j;unfold Fq at i;simp only[Bool.and_eq_false_iff,decide_eq_false_iff_not]at i;omega;cases c;simp only[len]at d;rw[BN o!]at g;exact⟨m,by rw[show oy l b↔∃s∈l,s.1<=b/\b<=s.2 from Iff.rfl];rintro⟨s,o,j⟩;exact g s o j⟩
def AAo{l}{u:Y}(h:SpL l)(w:0<=u)(A_:u<=1099511627776):An (Ht (l,u)) λr=>0<=r/\r<=u/\(∀n,r<n->n<=u->oy l n)/\(r=0\/¬oy l r):=by obtain⟨a1,a2⟩:=h;unfold Ht;refine AA (P:=λr=>0<=r/\r<=u/\(∀n,r<n->n<=u->oy l n)/\(r=0\/¬oy l r)) ?_ λr hr=>AB hr;refine AY (λs=>0<=s/\s<=u/\∀n,s<n->n<=u->oy l n) (·.toNat) ⟨w,Ag _,λn k m=>by dsimp only at k;omega⟩ (λs v=>?_);obtain⟨p,t,g⟩:=v;unfold T6;refine AA (zG (b:=s) a1) λr hr=>BA (λq f=>?_) (λq f=>?_);obtain⟨i,j,y,z⟩:=hr.1 q f;refine AC (O! · o!) (λ_=>AC (λd=>AB ?_) (λB=>?_));rw[y]at d⊢;exact⟨p,t,g,.inl o!⟩;refine AA (AI i j) λa c=>?_;have C:=z a c.1;have D_:=a2 a c.2;have e:=Aa (x:=a.1-1);rw[e];refine AB ⟨⟨o!,o!,λn k m=>?_⟩,o!⟩;rcases cU s n with o|o;exact g n o m;exact⟨a,c.2,o!⟩;obtain⟨i,j⟩:=hr.2 q f;rw[i];exact AB ⟨p,t,g,.inr j⟩
def wS{x:AJ}(h:VB x):x.2.2.1.Pairwise λf g=>f.2.1<g.2.1:=by
 have c:=h.2.2.2.2.2.2.2;rw[FA];have step:∀n i:Nat,∀(a:i<θ x.2.2.1)(b:i+1+n<θ x.2.2.1),(x.2.2.1[i]).2.1<(x.2.2.1[i+1+n]).2.1:=by
  intro n;induction n with
  |zero=>intro i a b;exact c i _ _ o! (Au a) (Au b)
  |succ n m=>intro i a b;have d:=m i a o!;have k:=c (i+1+n) _ _ o! (Au o!) (Au b);exact Int.lt_trans d k
 intro i j a b l;have:=step (j-(i+1)) i a o!;have e:i+1+(j-(i+1))=j:=o!
 simp only[e]at this;exact this
theorem rI{x}(h:VB x):((D8 x).map (·.2)).Pairwise (· < ·):=by
 unfold D8;rw[Pj,List.pairwise_filterMap];refine(wS h).imp λ{f g} b y a z c=>?_;have one:∀f(y:NE),intR x f=D y->y.2=f.2.1:=λf y a=>by unfold intR at a;split at a;injection a with a;rw[<-a];cases a
 rw[one f y a,one g z c];exact b
def Nl{x}(h:VB x):(D8 x).Nodup:=by have:=rI h;rw[Pj]at this;exact F5.2 (this.imp λh e=>by rw[e]at h;omega)
structure Yg(L:List EN)(r:AS):Prop where
 mem:∀e,e∈r.2.2.2.2.2↔e∈L/\fU e=true/\r.2.2.1<=e.2.2.2.2.2.2.1.1/\e.2.2.2.2.2.2.1.1<=r.2.2.2.1/\r.1<=e.1/\e.1<=r.2.1
 nd:(r.2.2.2.2.2.map (·.1)).Nodup
def AEK{L:E EN}{l:Ad}{k:E AS}{b p i j:Y}(a:∀e,e∈l.2.1↔e∈L∧l.1≤e.1∧e.1≤l.1+Z l.2.1-1)(hr:∀r∈k,Yg L r)
  (t:∀r∈k,r.2.2.1=b->b<=p/\p<=r.2.2.2.1) (h:(k.filter λr=>r.2.2.1==b).Pairwise λr s=>r.2.1<s.1\/s.2.1<r.1):AH1 l b p i j k where
 fromLog f hf hw hh:=by obtain⟨r,c,g⟩:=En.1 hf;have d:=((hr r (BG.1 c).1).mem f).1 g;unfold Fq at hh;simp only[BQ,K!]at hh;exact(a f).2 ⟨d.1,o!⟩
 inRuns e o hw ha:=by obtain⟨r,c,g⟩:=YS.1 ha;have d:=BG.1 c;have q:r.2.2.1=b:=eq_of_beq d.2;have A:=t r d.1 q;unfold GG at hw;unfold Fq at g;simp only[BQ,K!,J!]at hw g;exact En.2 ⟨r,c,((hr r d.1).mem e).2 ⟨((a e).1 o).1,hw.1,o!⟩⟩
 own r hrr f hf:=by have d:=((hr r hrr).mem f).1 hf;unfold Fq;simp only[BQ,K!];omega
 once:=by unfold D1;rw[List.map_flatMap,F5,tZ];refine⟨λr c=>F5.1 (hr r (BG.1 c).1).nd,?_⟩;refine cV ?_ h;intro r s c g d x u y v o;obtain⟨e,m,rfl⟩:=BY.1 u;obtain⟨f,n,rfl⟩:=BY.1 v;have w:=((hr r (BG.1 c).1).mem e).1 m;have z:=((hr s (BG.1 g).1).mem f).1 n;omega
def zC{L}{d:E AS}{a p i j:Y}(hr:∀r∈d,Yg L r)(n:∀r∈d,r.2.2.1=a→a≤p∧p≤r.2.2.2.1){e}(l:GG p i j e=A):
  e∈D1 a d↔e∈L/\∃r∈d,r.2.2.1=a/\r.1<=e.1/\e.1<=r.2.1:=by
 unfold GG at l;simp only[BQ,K!,J!]at l;constructor;intro h;obtain⟨r,f,b⟩:=En.1 h;obtain⟨c,k⟩:=BG.1 f;have g:=((hr r c).mem e).1 b;exact⟨g.1,r,c,eq_of_beq k,g.2.2.2.2.1,g.2.2.2.2.2⟩;rintro⟨f,r,b,c,k,m⟩;have g:=n r b c;exact En.2 ⟨r,BG.2 ⟨b,by simp[c]⟩,((hr r b).mem e).2 ⟨f,l.1,o!,o!,k,m⟩⟩
def uF(a:AJ)(l:Ad)(low n:Y):Prop:=(l.1<=n/\n<=l.1+Z l.2.1-1)\/∃e∈D8 a,e.1.2.2.1=low/\e.1.1<=n/\n<=e.1.2.1
def AIZ{B:Nat}{a:AJ}{l:Ad}{L:Ψ EN}{p i j:Int}{c:Int×(Int×Bool)}(O:CP B)(hB:B≤16777216)(P:j-i≤B)(Y:0≤i)(Z:i≤j)(hJ:j≤1099511627776)
  (h:VB a) (hd:DS a) (J:Dc l) (S:0<=p/\p<a.2.1) (G:GI (a,p)=D c) (ht:c.2.2=A) (K:L.Pairwise λx y=>x.1<y.1) (b:∀e,e∈l.2.1↔e∈L/\l.1<=e.1/\e.1<=l.1+θ l.2.1-1)
  (hR:∀e∈D8 a,Yg L e.1) (z:AGN (D8 a)) (T:∀e∈D8 a,e.1.2.2.1=c.1->c.1<=p/\p<=e.1.2.2.2.1):
  ∃k,(0<=k/\k<=j/\(∀n,k<n->n<=j->uF a l c.1 n)/\(k=0\/¬uF a l c.1 k))/\Qy (a,l,p,i,j)=D (τ (k<=i))/\An (EQ (a,l,p,i,j)) λr=>(k>i/\r=([],42))\/(k<=i/\((Uz i (L.filter (GG p i j))/\r=(L.filter (GG p i j),0))\/(¬Uz i (L.filter (GG p i j))/\r=([],13)))):=by
 obtain⟨q,H,v,E,w2,rfl,w4,w5⟩:=xN h hd (Nl h) z;have o:∀r∈v.map (·.1),∃e∈D8 a,e.1=r:=λr hr=>by obtain⟨e,d,rfl⟩:=BY.1 hr;exact⟨e,E.mem_iff.1 d,rfl⟩
 have D_:∀r∈v.map (·.1),Yg L r:=λr hr=>by obtain⟨e,d,rfl⟩:=o r hr;exact hR e d
 have C:∀r∈v.map (·.1),r.2.2.1=c.1->c.1<=p/\p<=r.2.2.2.1:=λr hr=>by obtain⟨e,d,rfl⟩:=o r hr;exact T e d
 have U_:((v.map (·.1)).filter λr=>r.2.2.1==c.1).Pairwise λr s=>r.2.1<s.1\/s.2.1<r.1:=by rw[List.filter_map,Pj];have R:v.Pairwise λx y=>x≠y:=F5.1 (E.nodup_iff.2 (Nl h));refine cV ?_ (R.filter _);intro x y hx hy Q;obtain⟨x1,x2⟩:=BG.1 hx;obtain⟨V,W⟩:=BG.1 hy;exact z x (E.mem_iff.1 x1) y (E.mem_iff.1 V) Q ((eq_of_beq x2).trans (eq_of_beq W).symm)
 have ad:(KA l c.1 (v.map (·.1))).length<=257:=by have:=EP (λr:AS=>r.2.2.1==c.1) (v.map (·.1));rw[BX]at this;simp only[KA,BW,BX];omega
 have M:SpL (KA l c.1 (v.map (·.1))):=by refine⟨o!,λs f=>?_⟩;rcases As.1 f with f|f;rw[f];exact J.1;obtain⟨r,hr,rfl⟩:=BY.1 f;obtain⟨e,d,rfl⟩:=BY.1 (BG.1 hr).1;exact(w5 e d).1
 have m:∀n,oy (KA l c.1 (v.map (·.1))) n↔uF a l c.1 n:=λn=>by constructor;rintro⟨s,f,t,w⟩;rcases As.1 f with f|f;rw[f]at t w;exact .inl ⟨t,w⟩;obtain⟨r,hr,rfl⟩:=BY.1 f;obtain⟨g1,I⟩:=BG.1 hr;obtain⟨e,d,rfl⟩:=o r g1;exact .inr ⟨e,d,eq_of_beq I,t,w⟩;rintro(⟨t,w⟩|⟨e,d,h0,t,w⟩);exact⟨_,As.2 (.inl rfl),t,w⟩;exact⟨(e.1.1,e.1.2.1),As.2 (.inr (BY.2 ⟨e.1,BG.2 ⟨Kr (E.mem_iff.2 d),by simp[h0]⟩,rfl⟩)),t,w⟩
 obtain⟨k,F,f1,f2,X_,f4⟩:=AAo M (u:=j) o! hJ;refine⟨k,⟨f1,f2,λn t w=>(m n).1 (X_ n t w),f4.imp id λhh N=>hh ((m k).2 N)⟩,?_,?_⟩;obtain⟨v0,ev,hv⟩:=VU (x:=(a,l,p,i)) h J ⟨S.1,S.2,Y⟩;unfold Qy;dsimp only;rw[ev,AD,beq_iff_eq.2 hv,B!,G! Z,B!,vQ J G ht H (by rw[BX,BX]) (by rw[BX];exact w4),AD,F,AD];refine(AKu O hB P Y Z h J S G ht H (by rw[BX,BX]) (by rw[BX];exact w4) (λr hr=>?_) F (AEK b D_ C U_)).mono λr hr=>?_;obtain⟨e,d,rfl⟩:=BY.1 hr;exact(w5 e d).2.2.2.2.2.2.2.2;rcases hr with hr|⟨hr,s,s1,s2,s3⟩;exact .inl hr;refine .inr ⟨hr,?_⟩;have f:s=L.filter (GG p i j):=lO s1 (K.filter _) λe=>by rw[s2,BG];constructor;rintro⟨g|g,A_⟩;exact⟨((b e).1 g).1,A_⟩;exact⟨((zC D_ C A_).1 g).1,A_⟩;rintro⟨g,A_⟩;refine⟨?_,A_⟩;have I:=A_;unfold GG at I;simp only[BQ,K!]at I;rcases(m e.1).1 (X_ e.1 o! o!)with N|⟨y,V,W,y3,y4⟩;exact .inl ((b e).2 ⟨g,N⟩);exact .inr ((zC D_ C A_).2 ⟨g,y.1,Kr (E.mem_iff.2 V),W,y3,y4⟩)
 rw[<-f];exact s3
def BD.lt{n}{l}(h:BD n l):∀(d i:V)(x y:Y),l[i]?=D x->l[i+1+d]?=D y->x<y
 |0,i,x,y,hx,hy=>by have:=Ce hy;exact h.2.2.2.2.2.1 i x y o! hx hy
 |d+1,i,x,y,hx,hy=>by have e:=Ce hy;have a:l[i+1+d]?=D (l[i+1+d]' o!):=Au o!;have b:=BD.lt h d i x _ hx a;have c:=h.2.2.2.2.2.1 (i+1+d) _ y o! a q!;omega
def BD.le{n}{l}(h:BD n l){i j:V}{x y:Y}(a:i<=j)(b:l[i]?=D x)(c:l[j]?=D y):x<=y:=by
 by_cases e:i=j;grind;obtain⟨d,rfl⟩:∃d,j=i+1+d:=⟨j-(i+1),o!⟩
 have:=h.lt d i x y b c;omega
def BD.mem{n}{l}(h:BD n l){i:V}{x:Y}(a:l[i]?=D x):0<=x/\x<n:=by have f:=Ce a;have b:l[Z l-1]?=D (l[Z l-1]' o!):=Au o!;have c:=h.le (BS i) h.2.2.2.2.1 a;have d:=h.le (by omega:i<=Z l-1) a b;have e:=h.2.2.2.2.2.2 _ b;omega
def BD.inj{n}{l}(h:BD n l){i j:V}{x:Y}(b:l[i]?=D x)(c:l[j]?=D x):i=j:=by
 rcases RP i j with a|a|a;obtain⟨d,rfl⟩:∃d,j=i+1+d:=⟨j-(i+1),o!⟩
 have:=h.lt d i x x b c;omega;exact a;obtain⟨d,rfl⟩:∃d,i=j+1+d:=⟨i-(j+1),o!⟩
 have:=h.lt d j x x c b;omega
def qe(a:AJ)(i:V):Y:=match a.1[i+1]? with
 |some h=>h-1
 |none=>a.2.1-1
def Ld(a:AJ)(lo hi:Y):Prop:=∃i:V,a.1[i]?=D lo/\hi=qe a i
def AEu{a:AJ}(h:BD a.2.1 a.1){i:V}(c:i<Z a.1):(∀w,a.1[i+1]?=D w->wi (w-1)=qe a i)/\(Z a.1<=i+1->wi (a.2.1-1)=qe a i):=by refine⟨λw b=>?_,λd=>?_⟩;have:=h.mem b;have:=h.2.1;grind[qe,Aa];have:=h.1;have:=h.2.1;grind[qe,u?,Aa]
def oO{a:AJ}(h:BD a.2.1 a.1){i:V}{b:Y}(c:a.1[i]?=D b):FQ (a,(i:Y))=D (b,qe a i):=by
 have f:=Ce c;have d:=h.2.2.2.1;have⟨j,k⟩:=AEu h f;unfold FQ;rw[Aa (x:=(i:Y)+1),(by unfold ix;rw[C! o!,s?,c]:ix a.1 (i:Y)=D b)];by_cases e:i+1<Z a.1;have g:ix a.1 ((i:Y)+1)=D a.1[i+1]:=by unfold ix;rw[C! o!,show((i:Y)+1).toNat=i+1 by omega,(m? e)]
 grind;grind
def yl{a:AJ}(h:BD a.2.1 a.1){i:V}{b:Y}(c:a.1[i]?=D b):Ks (a,(i:Y))=D (b,qe a i):=by
 have f:=Ce c;have d:=h.2.2.2.1;have⟨j,k⟩:=AEu h f;unfold Ks;rw[Aa (x:=(i:Y)+1),(by unfold ix;rw[C! o!,s?,c]:ix a.1 (i:Y)=D b)];by_cases e:i+1<Z a.1;have g:ix a.1 ((i:Y)+1)=D a.1[i+1]:=by unfold ix;rw[C! o!,show((i:Y)+1).toNat=i+1 by omega,(m? e)]
 grind;grind
def sQ{a:AJ}{r:AS}(h:BD a.2.1 a.1):An (Fz (a,r)) λk=>0<=k↔Ld a r.2.2.1 r.2.2.2.1:=by
 have g:=h.2.2.2.1;refine AA (P:=λq=>(∃k:Int,q=.inl k/\0<=k/\Ld a r.2.2.1 r.2.2.2.1)\/(q=.inr ()/\¬Ld a r.2.2.1 r.2.2.2.1)) ?_ λq p=>?_
 ·refine CV (λ(s:Int)=>0<=s/\s<=θ a.1/\∀i:Nat,(i:Int)<s->¬(a.1[i]?=δ r.2.2.1/\r.2.2.2.1=qe a i)) (λs=>((θ a.1:Int)-s).toNat) ⟨Ag _,o!,λi m=>o!⟩ (λs j=>?_);have⟨e,t,u⟩:=j;unfold Hz;dsimp[len];refine AC (λl=>?_) (λl=>An.done (.inr ⟨rfl,?_⟩))
  ·obtain⟨k,rfl⟩:=Et e;rw[oO h (Au o!),AD,Aa];have f:¬(a.1[k]?=δ r.2.2.1/\r.2.2.2.1=qe a k)->An (δ (Step.next ((k:Int)+1)):Option (Step Int (Int⊕Unit))) (Jj (λ(s:Int)=>0<=s/\s<=θ a.1/\∀i:Nat,(i:Int)<s->¬(a.1[i]?=δ r.2.2.1/\r.2.2.2.1=qe a i)) (λs=>((θ a.1:Int)-s).toNat) ((θ a.1:Int)-(k:Int)).toNat λq=>(∃k:Int,q=.inl k/\0<=k/\Ld a r.2.2.1 r.2.2.2.1)\/(q=.inr ()/\¬Ld a r.2.2.1 r.2.2.2.1)):=λhn=>by
    refine An.next ⟨o!,o!,λi m=>?_⟩ o!
    grind
   refine AQ (λb=>?_) (λb=>f λd=>b ?_)
   ·refine AQ (λc=>An.done (.inl ⟨_,rfl,e,k,?_,?_⟩)) (λc=>f λd=>c d.2.symm);grind;grind
   grind
  rintro⟨i,n,o⟩;grind
 grind[BC,AB,A3]
def AFL{a:AJ}{r:AS}(h:BD a.2.1 a.1):An (NG (a,r)) λk=>0<=k↔Ld a r.2.2.1 r.2.2.2.1:=by
 have g:=h.2.2.2.1;refine AA (P:=λq=>(∃k:Int,q=.inl k/\0<=k/\Ld a r.2.2.1 r.2.2.2.1)\/(q=.inr ()/\¬Ld a r.2.2.1 r.2.2.2.1)) ?_ λq p=>?_
 ·refine CV (λ(s:Int)=>0<=s/\s<=θ a.1/\∀i:Nat,(i:Int)<s->¬(a.1[i]?=δ r.2.2.1/\r.2.2.2.1=qe a i)) (λs=>((θ a.1:Int)-s).toNat) ⟨Ag _,o!,λi m=>o!⟩ (λs j=>?_);have⟨e,t,u⟩:=j;unfold RX;dsimp[len];refine AC (λl=>?_) (λl=>An.done (.inr ⟨rfl,?_⟩))
  ·obtain⟨k,rfl⟩:=Et e;rw[yl h (Au o!),AD,Aa];have f:¬(a.1[k]?=δ r.2.2.1/\r.2.2.2.1=qe a k)->An (δ (Step.next ((k:Int)+1)):Option (Step Int (Int⊕Unit))) (Jj (λ(s:Int)=>0<=s/\s<=θ a.1/\∀i:Nat,(i:Int)<s->¬(a.1[i]?=δ r.2.2.1/\r.2.2.2.1=qe a i)) (λs=>((θ a.1:Int)-s).toNat) ((θ a.1:Int)-(k:Int)).toNat λq=>(∃k:Int,q=.inl k/\0<=k/\Ld a r.2.2.1 r.2.2.2.1)\/(q=.inr ()/\¬Ld a r.2.2.1 r.2.2.2.1)):=λhn=>by
    refine An.next ⟨o!,o!,λi m=>?_⟩ o!
    grind
   refine AQ (λb=>?_) (λb=>f λd=>b ?_)
   ·refine AQ (λc=>An.done (.inl ⟨_,rfl,e,k,?_,?_⟩)) (λc=>f λd=>c d.2.symm);grind;grind
   grind
  rintro⟨i,n,o⟩;grind
 grind[BC,AB,A3]
def Good(a:AJ)(f:Ap)(r:AS):Prop:=f.1=1/\f.2.2=Ns r/\VR r/\Ld a r.2.2.1 r.2.2.2.1
def Bad(f:Ap):Prop:=Z f.2.2<=1099511627776/\∀r,WR r->f.2.2≠Ns r
def Good.intact{a}{f}{r}(h:Good a f r)(e:BD a.2.1 a.1):HN (a,f)=D (r,A):=by have⟨b,c,d,g⟩:=h;have⟨k,k1,i⟩:=AFL (r:=r) e;unfold HN;rw[b,c,H!,A!,AJR d,AD,show(((r,(0:Y)):AS×Y).2==0)=A from rfl,B!];grind
def Good.intR{a}{f}{r}(h:Good a f r)(b:BD a.2.1 a.1):intR a f=D (r,f.2.1):=by unfold Go.Pm.intR;rw[h.intact b]
def Good.ref{a}{f}{r}(h:Good a f r)(g:BD a.2.1 a.1):∃k,Da (a,f)=D (r,k)/\0<=k:=by have⟨b,c,d,e⟩:=h;have⟨k,k1,i⟩:=sQ (r:=r) g;refine⟨k,?_,i.2 e⟩;unfold Da;rw[b,c,H!,A!,yM d,AD,show(((r,(0:Y)):AS×Y).2 !=0)=X from rfl,A!];grind
def Bad.intR{a:AJ}{f}(h:Bad f)(d:BD a.2.1 a.1):intR a f=U:=by
 have key:An (HN (a,f)) λr=>r.2=X:=by exact AK (y? rfl) (λ_=>AA (AJS h.1) λv b=>AQ (λc=>O! (b c).1 (h.2 _ (b c).2)) (y? rfl))
 have⟨⟨r,o⟩,k1,e⟩:=key;grind[Go.Pm.intR]
def Bad.ref{a:AJ}{f}(h:Bad f):∃r,Da (a,f)=D (r,-1):=by
 have key:An (Da (a,f)) λr=>r.2= -1:=by exact AK (y? rfl) (λ_=>AA (AJa h.1) λv b=>AK (y? rfl) (λc=>O! (b c).1 (h.2 _ (b c).2.wr)))
 have⟨⟨r,o⟩,k1,d⟩:=key;grind
def uM{x y}(b:VR x)(c:VR y)(h:Ns x=Ns y):x=y:=by have a:=yM b;rw[h,yM c]at a;injection a with a;exact(Prod.ext_iff.1 a).1.symm
structure AR(L:List EN)(a:AJ):Prop where
 vb:VB a
 files:∀f∈a.2.2.1,Bad f\/∃r,Good a f r/\Yg L r/\r.2.1<a.2.2.2.1
 dis:AGN (D8 a)
def AG(a:AJ):Prop:=∀f∈a.2.2.1,∃r,Good a f r
def RC(a:AJ)(c:V):Prop:=∀lo,((D8 a).filter λe=>e.1.2.2.1==lo).length<=c
def jE{b:Type}:∀(l m:E b),l.Nodup->(∀x∈l,x∈m)->Z l<=Z m
 |[],m,_,_=>BS _
 |a::l,m,hn,hs=>by
  obtain⟨s,t,rfl⟩:=List.append_of_mem (hs a (As.2 (.inl rfl)));rw[Gk]at hn;have:=jE l (s++t) hn.2 λx c=>q!
  grind
def AR.mem{L}{a}(h:AR L a){e:NE}(g:e∈D8 a):∃f∈a.2.2.1,Good a f e.1/\e.2=f.2.1/\Yg L e.1/\e.1.2.1<a.2.2.2.1:=by have⟨f,i,b⟩:=Pg.1 g;rcases h.files f i with d|⟨r,c,j,k⟩;rw[d.intR h.vb.1]at b;cases b;rw[c.intR h.vb.1]at b;grind
def Qj{a:AJ}(b:BD a.2.1 a.1){f:Ap}{r}(c:f∈a.2.2.1)(h:Good a f r):(r,f.2.1)∈D8 a:=by exact Pg.2 ⟨f,c,h.intR b⟩
def Good.size{a}{f}{r}(h:Good a f r):Z f.2.2<=34406441:=by rw[h.2.1];exact h.2.2.1.len
def AR.sa{L}{a}(h:AR L a):SA a:=by have⟨⟨g,i,j,b,k,l,m⟩,a1,a2,a3,a4,a5,a6⟩:=h.vb;refine⟨b,o!,λf e=>?_⟩;rcases h.files f e with d|⟨r,c,_⟩;exact d.1;have:=c.size;omega
def AR.ds{L}{a}(h:AR L a):DS a:=λf b=>by have:=h.sa.2.2 f b;omega
def Ld.uniq{a:AJ}(e:BD a.2.1 a.1){d b c}(p:Ld a d b)(q:Ld a d c):b=c:=by obtain⟨i,f,g⟩:=p;obtain⟨j,h,k⟩:=q;have:=e.inj f h;subst this;rw[g,k]
def AAS{l:Ψ EN}{e:EN}(h:Z l<=16777000):An (Cc (l,e)) λr=>Z r.1<=Z l+1/\((∀y,y∈r.1↔y∈l\/y=e)\/(r.1=l/\∃z∈l,z.1=e.1)):=by
 unfold Cc;refine AA (Q4 (x:=(l,e)) ⟨Ag _,o!,d!⟩) λp g=>?_;dsimp only at g⊢;have main:An (σ (Wp l 0 p) λi=>
  σ (Wp l p (S l)) λj=>
  σ (app [] i) λk=>
  σ (app k ([e]:Ψ (Y×(Y×(Y×(Y×(Y×(Y×((Y×(Y×((Bool×Bc)×(Bool×Bc))))×Bc))))))))) λv=>
  σ (app v j) λw=>
  D (w,A)) λr=>Z r.1<=Z l+1/\((∀y,y∈r.1↔y∈l\/y=e)\/(r.1=l/\∃z∈l,z.1=e.1)):=by
  refine AA (Bd (Ag _) g.1 g.2) λt a=>AA (Bd g.1 b! i!) λu n=>?_;have B:=a.2;have o:=n.2;simp[S]at o;refine AA (Ac w!) λi b=>?_;have q:=b.2.1;simp[Be]at q;refine AA (Ac w!) λj d=>?_;have s:=d.2.1;simp[Be,BW]at s;refine AA (Ac o!) λk f=>AB ?_;have C:=f.2.1;refine⟨d!,.inl λy=>?_⟩;have m:t=l.take p.toNat:=by rw[a.1];simp
  dsimp only;rw[f.1,d.1,b.1,m,(by grind[List.take_of_length_le,List.length_drop]:u=l.drop p.toNat),Bt];conv=>rhs;rw[<-C4 p.toNat l]
  grind[a!]
 refine AC (λA_=>?_) (λ_=>main);simp[S]at A_;refine AA (AI g.1 A_) λD_ H=>?_;have⟨c,E,F,G⟩:=AH6 D_ e;grind[AQ,AA,AI,AB]
def Uq(L:E EN):Prop:=∀x∈L,∀y∈L,x.1=y.1->x=y
theorem oM{L l:E EN}{e:EN}(c:Uq L)(f:∀x∈l,x∈L)(d:e∈L)(h:Z l<=16777000):An (Cc (l,e)) λr=>Z r.1<=Z l+1/\∀y,y∈r.1↔y∈l\/y=e:=by
 refine(AAS h).mono λr hr=>⟨hr.1,?_⟩
 rcases hr.2 with hr|⟨b,z,a,i⟩;exact hr;have:=c z (f z a) e d i;subst this;intro y;rw[b];exact⟨.inl,λg=>g.elim id λh=>h▸a⟩
def VR.sorted{r:AS}(h:VR r):r.2.2.2.2.2.Pairwise ltC:=by
 rw[FA];have step:∀d i:Nat,∀(a:i<θ r.2.2.2.2.2)(b:i+1+d<θ r.2.2.2.2.2),ltC r.2.2.2.2.2[i] r.2.2.2.2.2[i+1+d]:=by
  intro d;induction d with
  |zero=>intro i a b;exact((h.2 (i+1) _ (Au b)).2.2 _ o! (Au a)).1
  |succ d e=>intro i a b;exact ADM (e i a o!) (((h.2 (i+1+(d+1)) _ (Au b)).2.2 _ o! (Au (by omega:i+1+d<_))).1)
 intro i j a b c;have:=step (j-(i+1)) i a o!;simp[(by omega:i+1+(j-(i+1))=j)]at this;exact this
def VR.nd{L}{r}(b:Uq L)(h:VR r)(a:∀e∈r.2.2.2.2.2,e∈L):(r.2.2.2.2.2.map (·.1)).Nodup:=by rw[F5,Pj];refine h.sorted.imp_of_mem λ{x y} f g d c=>?_;have:=b x (a x f) y (a y g) c;grind[AA2]
def VR.runOf{L}{r}(b:Uq L)(h:VR r)(a:∀e,e∈r.2.2.2.2.2↔e∈L/\fU e=A/\r.2.2.1<=e.2.2.2.2.2.2.1.1/\e.2.2.2.2.2.2.1.1<=r.2.2.2.1/\r.1<=e.1/\e.1<=r.2.1):Yg L r:=⟨a,h.nd b λe c=>((a e).1 c).1⟩
def ABv{v}:fU v=A↔v.2.1=1\/v.2.1=2:=by grind[fU]
def AGQ{L d:Ψ EN}{F T g f i:Y}(C:Uq L)(B:∀e∈d,e∈L)(H:Z d≤16777000):
  An (Ak (Kk (d,F,T,g,f,i)) (X,0,F,T,g,f,i,[])) λr=>∃a:Ψ EN,r.2=(F,T,g,f,i,a)/\Z a<=Z d/\∀y,y∈a↔y∈d/\fU y=A/\g<=y.2.2.2.2.2.2.1.1/\y.2.2.2.2.2.2.1.1<=f/\F<=y.1/\y.1<=T:=by
 refine CV (λs=>∃(k:V)(a:Ψ EN),s.2=((k:Y),F,T,g,f,i,a)/\k<=Z d/\Z a<=k/\∀y,y∈a↔y∈d.take k/\fU y=A/\g<=y.2.2.2.2.2.2.1.1/\y.2.2.2.2.2.2.1.1<=f/\F<=y.1/\y.1<=T) (Z d-·.2.1.toNat)
  ⟨0,[],rfl,BS _,Ao _,λy=>k!⟩ ?_
 rintro⟨Q,P⟩ ⟨k,a,rfl,I,J,n⟩;unfold Kk;dsimp only;simp only[S];refine AC (λw=>?_) (λw=>k? ⟨a,rfl,o!,by rw[BN o!]at n;exact n⟩);refine AA (AI o! w) λv l=>?_;have A_:=l.1;rw[DF]at A_;have q:d.take (k+1)=d.take k++[v]:=by rw[Ca,A_];rfl
 rw[Aa]
 have c:∀m:Bool,¬(fU v=A∧g≤v.2.2.2.2.2.2.1.1∧v.2.2.2.2.2.2.1.1≤f∧F≤v.1∧v.1≤T)→
   An (D (Step.next (m,(k:Y)+1,F,T,g,f,i,a)):W (Step (Bool×(Y×AS)) (Bool×AS))) (Jj (λs=>∃(k:V)(a:Ψ EN),s.2=((k:Y),F,T,g,f,i,a)/\k<=Z d/\Z a<=k/\∀y,y∈a↔y∈d.take k/\fU y=A/\g<=y.2.2.2.2.2.2.1.1/\y.2.2.2.2.2.2.1.1<=f/\F<=y.1/\y.1<=T) (Z d-·.2.1.toNat) (Z d-((k:V):Y).toNat)
    λr=>∃a:Ψ EN,r.2=(F,T,g,f,i,a)/\Z a<=Z d/\∀y,y∈a↔y∈d/\fU y=A/\g<=y.2.2.2.2.2.2.1.1/\y.2.2.2.2.2.2.1.1<=f/\F<=y.1/\y.1<=T):=λm hn=>by
  refine y! ⟨k+1,a,rfl,o!,o!,λy=>?_⟩ d!
  grind[a!]
 refine AA CA λb u=>AP (λz=>c _ λj=>?_) (λD_=>?_);rw[u.2 (ABv.1 j.1)]at z;cases z;refine AC (λ_=>c _ λj=>o!) (λK=>AC (λ_=>c _ λj=>o!) (λM=>AC (λ_=>c _ λj=>o!) (λN=>AC (λ_=>c _ λj=>o!) (λO=>AA (Sf ⟨Ag _,d!⟩) λG _=>AA (oM C (λx E=>B x (EJ ((n x).1 E).1)) (B v l.2) o!) λt o=>y! ⟨k+1,t.1,rfl,o!,o!,λy=>?_⟩ d!))))
 rw[o.2,n,q,Ah,Ax];constructor;rintro(⟨h,p⟩|h);exact⟨.inl h,p⟩;subst h;exact⟨.inr rfl,ABv.2 (u.1 D_),o!⟩;rintro⟨h|h,p⟩;exact .inl ⟨h,p⟩;exact .inr h
def AIb{L c:E EN}{F T h g j:Y}(n:Uq L)(q:∀e∈c,e∈L)(p:Z c<=16777000):An (J6 (c,F,T,h,g,j)) λr=>r.2=0->VR r.1/\∃b:E EN,r.1=(F,T,h,g,j,b)/\∀y,y∈b↔y∈c/\fU y=A/\h<=y.2.2.2.2.2.2.1.1/\y.2.2.2.2.2.2.1.1<=g/\F<=y.1/\y.1<=T:=by unfold J6;refine AA JI λw _=>AP (y? λa=>O! (show(1:Y)=0 from a) g!) (λ_=>?_);refine AA (Se ⟨Ag _,d!⟩) λx m=>BA (λu i=>AB λa=>O! a (m u i)) (λu i=>AA (AGQ n q p) λs d=>?_);have⟨b,k,v,l⟩:=d;refine AM (y? λa=>O! (show(41:Y)=0 from a) g!) (λ_=>?_);refine AC (y? λa=>O! (show(21:Y)=0 from a) g!) (λ_=>?_);refine AA YR λt f=>AP (y? λa=>O! (show(13:Y)=0 from a) g!) (λo=>AB λ_=>⟨f.1 o,b,k,l⟩)
def AIc{x:Y×E Y}(h:BD x.1 x.2):An (I3 x) λr=>r.2=0/\VB r.1/\r.1.2.1=x.1/\r.1.2.2.2.1=1:=by refine AA na λl c=>AP (λb=>(by rw[c.2 h]at b;cases b)) (λ_=>?_);have k:=h.2.2.2.1;refine AA (Ac w!) λm e=>AB ⟨rfl,⟨?_,u!,u!,u!,u!,k!,⟨λi f d a=>by simp at a,λi f g d a j=>by simp at a⟩⟩,rfl,rfl⟩;grind
def FR.push{l m:E Ap}{f:Ap}{c}(h:FR l c (Z l))(v:1<=c)(r:f.2.1=c)(u:m=l++[f]):FR m (c+1) (Z m):=by
 subst u;obtain⟨q,t⟩:=h;have p:(l++[f]).length=Z l+1:=k!
 have b:∀(i:V)(g:Ap),¬i<Z l->(l++[f])[i]?=D g->g=f:=λi g j a=>by
  have o:=Ce a;rw[p]at o;have s:i=Z l:=o!
  subst s;rw[Cu (Ao _)]at a;simp at a;exact a.symm
 refine⟨λi g j a=>?_,λi g k j a n=>?_⟩;by_cases e:i<Z l;rw[Cb e]at a;have:=q i g o! a;exact⟨this.1,o!⟩;rw[b i g e a,r];exact o!;rw[p]at j;have e:i<Z l:=o!
 rw[Cb e]at a;by_cases d:i+1<Z l;rw[Cb d]at n;exact t i g k o! a n;rw[b (i+1) k d n,r];exact(q i g o! a).2
def AGW{x:AJ×Ad×Int}(h:SA x.1)(l:VB x.1):An (E7 x) λr=>r.2=0->SA r.1/\VB r.1/\r.1.2.1=x.1.2.1/\(r.1.2.2.2.1=x.1.2.2.2.1\/r.1.2.2.2.1<=x.2.1.2.2+1):=by
 unfold E7;refine AA Kl λv0 R=>AP (λ_=>AB n!) (λd=>?_);obtain⟨a1,a2,a3,a4,a5,a6,a7,a8,a9⟩:=R d;refine AA BZ λv1 q=>AP (λ_=>AB n!) (λm=>?_);obtain⟨l1,l2,l3,l4,l5,l6⟩:=q.1 m;refine AC (λ_=>AB n!) (λc1=>AC (λ_=>AB n!) (λc2=>?_));generalize U_:(if(x.2.1.1>x.1.2.2.2.1)then x.2.1.1 else x.1.2.2.2.1)=F;have f1:x.2.1.1<=F/\x.1.2.2.2.1<=F/\F<=1099511627777:=by rw[<-U_];split<;>omega
 have H:=Aa (x:=F+x.2.2);have I:=Aa (x:=F+x.2.2-1);rw[H,I];generalize V:(if(x.2.1.2.2<(F+x.2.2-1))then x.2.1.2.2 else(F+x.2.2-1))=G;have g1:G<=x.2.1.2.2/\G<=F+x.2.2-1:=by rw[<-V];split<;>omega
 refine AC (λ_=>AB λ_=>⟨h,l,rfl,.inl rfl⟩) (λc3=>?_);have J:=Aa (x:=F-x.2.1.1);have K:=Aa (x:=G-x.2.1.1);have L:=Aa (x:=G-x.2.1.1+1);rw[J,K,L];have M:=Aa (x:=len x.1.2.2.1+len x.1.1) i!;have N:=Aa (x:=x.1.2.2.2.2+len x.1.1) i!;have O:=Aa (x:=G+1);rw[M,N,O];have W:G<=1099511627776:=by
  have Z:θ x.2.1.2.1≠0:=o!
  obtain⟨i,n⟩:∃i,x.2.1.2.1[θ x.2.1.2.1-1]?=δ i:=⟨_,Au o!⟩
  have:=l6 _ i n;have q:=this.1;have t:=this.2.2.1;omega
 refine AC (λ_=>AB n!) (λD_=>AC (λ_=>AB n!) (λE=>?_));simp only[len]at D_ E;refine AA (Bd) λv2 t=>?_;have Y:=t.2;refine AA (Sh ⟨Ag _,d!,o!⟩) λv8 T=>BA (λu b=>AB λa=>O! a (T u b)) (λu b=>AA (Ac w!) λad j=>?_);have c:=j.1;rw[Bt]at c;refine AA (P:=λr=>(∀u,r=.inl u->u.1≠0)/\∀u,r=.inr u->u.2.1=x.1.1/\θ u.1<=256/\(∀f∈u.1,θ f.2.2<=1099511627776)/\u.2.2.1=x.1.2.1/\u.2.2.2.2.1=x.1.2.2.2.2+θ x.1.1/\FR u.1 u.2.2.2.2.1 (θ u.1)) ?_ λr hr=>BA (λu b=>AB λa=>O! a (hr.1 u b)) (λu b=>AB λ_=>?_);refine AY (λ(s:Int×List Ap×List Int×Int×Int×Int×AJ)=>0<=s.1/\s.1<=θ x.1.1/\s.2.2.1=x.1.1/\(θ s.2.1:Int)=θ x.1.2.2.1+s.1/\(∀f∈s.2.1,θ f.2.2<=1099511627776)/\s.2.2.2.1=x.1.2.1/\s.2.2.2.2.2.1=x.1.2.2.2.2+s.1/\FR s.2.1 s.2.2.2.2.2.1 (θ s.2.1)) (λ(s:Int×List Ap×List Int×Int×Int×Int×AJ)=>((θ x.1.1:Int)-s.1).toNat) ⟨Ag _,d!,rfl,by dsimp only;rw[c];omega,by dsimp only;rw[c];exact h.2.2,rfl,d!,by dsimp only;rw[c];exact l.2.2.2.2.2.2⟩ (λs X_=>?_);obtain⟨i1,i2,v,i4,y,z,i7,A_⟩:=X_;unfold PG;have e:=Aa (x:=s.1+1);rw[e];refine AC (λd=>?_) (λd=>AB ⟨λu b=>(by cases b),λu b=>(by cases b;simp only[len]at d;exact⟨v,o!,y,z,o!,A_⟩)⟩);simp only[len]at d;refine AA (Ul a4 ⟨i1,d⟩) λal _=>AA (iX d!) λao S=>AK (λd=>AB ⟨λu b=>(by cases b;exact d),λu b=>(by cases b)⟩) (λ_=>AA bw λap k=>AA (Ac w!) λar g=>AB ?_);have p:=g.2.1;simp only[BW,Be]at p;have Q:=Aa (x:=s.2.2.2.2.2.1+1);rw[Q];refine⟨⟨d!,d!,v,d!,λf o=>?_,z,d!,A_.push o! rfl g.1⟩,d!⟩;dsimp only at o;rw[g.1]at o;rcases Ah.1 o with w|w;exact y f w;simp at w;rw[w];exact k;obtain⟨B,q2,q3,C,q5,q6⟩:=hr.2 u b;refine⟨⟨by dsimp only;rw[B];exact a4,d!,q3⟩,⟨?_,d!,d!,d!,d!,q2,q6⟩,C,.inr d!⟩;dsimp only;rw[B,C];exact l.1
def FP(l:E Ap)(m:Y):Prop:=(∀f∈l,0<f.2.1/\f.2.1<m)/\l.Pairwise λf g=>f.2.1<g.2.1
def AAn{l}{m}(h:FP l m):FR l m (Z l):=by refine⟨λi f e a=>h.1 f (BP a),λi f g e a d=>?_⟩;have b:=Ce a;have c:=Ce d;have:=FA.1 h.2 i (i+1) b c o!;grind
def FR.fp{l}{m}(h:FR l m (Z l)):FP l m:=by
 refine⟨λf e=>?_,FA.2 λi j b c g=>?_⟩;obtain⟨i,b⟩:=Eo.1 e;have:=Ce b;exact h.1 i f o! b;obtain⟨d,rfl⟩:∃d,j=i+1+d:=⟨j-(i+1),o!⟩
 induction d with
 |zero=>exact h.2 i _ _ o! (Au b) (Au c)
 |succ d k=>
  have a:i+1+d<Z l:=o!
  have n:=k a o!;have o:=h.2 (i+1+d) l[i+1+d] l[i+1+(d+1)] o! (Au a) (Au c);omega
def FR.sub{l k:E Ap}{m}(h:FR l m (Z l))(a:k.Sublist l):FR k m (Z k):=AAn ⟨λf b=>h.fp.1 f (a.subset b),h.fp.2.sublist a⟩
def ACk{b}{x}{m}(v:FR x m (θ x))(h:CX b)(hx:θ x<=1000000)(j:∀f∈x,θ f.2.2<=1099511627776):An (EF b x) λr=>CX r.2/\θ r.1<=θ x/\FR r.1 m (θ r.1)/\∀f∈r.1,θ f.2.2<=1099511627777:=by
 unfold EF;refine AQ (y? ⟨h,k!,⟨λi f s j=>by simp at j,λi f g s j c=>by simp at j⟩,λf j=>by simp at j⟩) (λA_=>?_);simp only[len]at A_;refine AA (AW h i!) λd Q=>?_;obtain⟨M,t,N⟩:=Q;simp only[len]at N;have e:=Aa (x:=d.1+1);rw[e];refine AA (AW M g!) λv1 D_=>AQ (λ_=>?_) (λ_=>?_);refine AA (Bd (Ag _) t) λv2 E=>AA (Bd o! i! i!) λv3 F=>?_;have l2:=E.2;have T:=F.2;simp only[len]at T;refine AA (Ac w!) λv4 G=>?_;have U_:=G.2.1;simp only[Be]at U_;refine AA (Ac o!) λY H=>AB ⟨D_.1,?_,?_⟩;have l5:=H.2.1;dsimp only;omega;have J:Y.Sublist x:=by
  rw[H.1,G.1,E.1,F.1,Bt];have O:x=x.take d.1.toNat++x.drop d.1.toNat:=(C4 _ _).symm;suffices n:((x.drop (0:Int).toNat).take (d.1.toNat-(0:Int).toNat)++(x.drop (d.1+1).toNat).take ((len x).toNat-(d.1+1).toNat)).Sublist (x.take d.1.toNat++x.drop d.1.toNat) by rw[<-O]at n;exact n
  apply List.Sublist.append;simp;apply (ff _ _).trans;have P:(d.1+1).toNat=d.1.toNat+1:=o!
  rw[P,<-Od];exact UH _ _
 exact⟨v.sub J,λf l=>by have:=j f (J.subset l);omega⟩;refine AA (Ac w!) λy R=>?_;have C:=R.1;rw[Bt]at C;subst C;refine AA (AI t) λv7 _=>AA (AI t) λK z=>AA (XJ D_.1 (j _ z.2)) λL I=>AA (AI t) λX_ _=>AA (AI t) λa u=>AB ⟨I.1,by simp[Es],?_,λf l=>?_⟩;have q:=v.fp;have Z:K=a:=by have:=z.1;rw[u.1]at this;exact(BL this).symm
 have key:∀(i:Nat)(g:Ap),(Es y d.1 (a.1,a.2.1,L.1))[i]?=D g->∃k,y[i]?=D k/\k.2.1=g.2.1:=λi g c=>by simp only[Es]at c;rw[R2]at c;split at c;rename_i s;subst s;split at c;exact⟨a,u.1,by rw[<-BL c]⟩;cases c;exact⟨g,c,rfl⟩
 have el:(Es y d.1 (a.1,a.2.1,L.1)).length=θ y:=by simp[Es]
 refine⟨λi g s c=>?_,λi g k s c S=>?_⟩;obtain⟨p,B,W⟩:=key i g c;have:=v.1 i p (by dsimp only at s;omega) B;omega;obtain⟨p,B,W⟩:=key i g c;obtain⟨o,V,o2⟩:=key (i+1) k S;have:=v.2 i p o (by dsimp only at s;omega) B V;omega;simp only[Es]at l;rcases Ph l with w|w;have:=j f w;omega;rw[w];have:=I.2;have:=j K z.2;dsimp only;omega
def AD8(L:E EN)(a:AJ)(F G s:Y)(nf:E Ap):Prop:=∀(j:V)(f:Ap),nf[j]?=D f->
 ∃r,f=(1,s+j,Ns r)/\VR r/\Yg L r/\r.1=F/\r.2.1=G/\a.1[j]?=D r.2.2.1/\r.2.2.2.1=qe a j
def Dc.uq{l}(h:Dc l):Uq l.2.1:=λx b y c a=>Nk h.nodup b c a
def ADJ{l}(h:Dc l){F G:Y}{v:E EN}(g:l.1<=F)(i:F<=G)(j:G<=l.1+Z l.2.1-1)(b:v=(l.2.1.drop (F-l.1).toNat).take ((G-l.1+1).toNat-(F-l.1).toNat))(e:EN):e∈v↔e∈l.2.1/\F<=e.1/\e.1<=G:=by subst b;have⟨l1,l2,m,n,o,c⟩:=h;rw[Eo,Eo];constructor;grind;rintro⟨⟨k,a⟩,d,f⟩;have:=(c _ e a).1;refine⟨k-(F-l.1).toNat,?_⟩;rw[cj,C! o!,KJ,show(F-l.1).toNat+(k-(F-l.1).toNat)=k by omega,a]
def AAV{x:AJ×Ad×Int}(h:SA x.1)(hb:VB x.1)(t:Dc x.2.1):An (E7 x) λr=>r.2=0→r.1=x.1∨
  ∃F G a,r.1=(x.1.1,x.1.2.1,x.1.2.2.1++a,G+1,x.1.2.2.2.2+θ a)/\(x.1.2.2.2.1<=F/\(x.2.1.1<=x.1.2.2.2.1->F=x.1.2.2.2.1)/\(x.2.1.1<=F/\G<=x.2.1.2.2))/\F<=G/\θ a=θ x.1.1/\AD8 x.2.1.2.1 x.1 F G x.1.2.2.2.2 a:=by
 unfold E7;refine AA Kl λv0 h0=>AP (y? λb=>O! (show(54:Int)=0 from b) g!) (λl=>?_);have⟨a1,a2,a3,a4,a5,a6,a7,a8,a9⟩:=h0 l;refine AA BZ λv1 h1=>AP (y? λb=>O! (show(26:Int)=0 from b) g!) (λal=>?_);have⟨l1,l2,l3,l4,l5,l6⟩:=id t;refine AC (y? λb=>O! (show(1:Int)=0 from b) g!) (λc1=>AC (y? λb=>O! (show(1:Int)=0 from b) g!) (λc2=>?_));have p:∃F,(if(x.2.1.1>x.1.2.2.2.1)then x.2.1.1 else x.1.2.2.2.1)=F:=⟨_,rfl⟩
 have⟨F,p⟩:=p;have f1:x.2.1.1<=F/\x.1.2.2.2.1<=F/\F<=1099511627777:=q!
 have f2:x.2.1.1<=x.1.2.2.2.1->F=x.1.2.2.2.1:=q!
 have H:=Aa (x:=F+x.2.2);have I:=Aa (x:=F+x.2.2-1);have q:∃G,(if(x.2.1.2.2<(F+x.2.2-1))then x.2.1.2.2 else(F+x.2.2-1))=G:=⟨_,rfl⟩
 have⟨G,q⟩:=q;have g1:G<=x.2.1.2.2/\G<=F+x.2.2-1:=q!
 rw[p,H,I,q];refine AC (y? λ_=>.inl rfl) (λc3=>?_);have V:=Aa (x:=F-x.2.1.1);have W:=Aa (x:=G-x.2.1.1);have X_:=Aa (x:=G-x.2.1.1+1);rw[V,W,X_];have Y:=Aa (x:=len x.1.2.2.1+len x.1.1) b!;have Z:=Aa (x:=x.1.2.2.2.2+len x.1.1) b!;rw[Y,Z,(Aa (x:=G+1))];refine AC (y? λb=>O! (show(21:Int)=0 from b) g!) (λT=>AC (y? λb=>O! (show(21:Int)=0 from b) g!) (λU_=>?_));simp[len]at T U_;refine AA (Bd) λv2 J=>?_;have ao:=J.2;have m:=ADJ t (F:=F) (G:=G) f1.1 o! o! J.1;refine AA (Sh ⟨Ag _,d!,o!⟩) λv8 h8=>BA (λu c=>AB λb=>O! b (h8 u c)) (λu c=>AA (Ac w!) λap v=>?_);have i:=v.1;rw[Bt]at i;subst i;refine AA (P:=λr=>(∀u,r=.inl u->u.1≠0)/\∀u,r=.inr u->∃(a:Ψ Ap),(u.1,u.2.1,u.2.2.1,u.2.2.2.1,u.2.2.2.2.1)=(x.1.2.2.1++a,x.1.1,x.1.2.1,x.1.2.2.2.1,x.1.2.2.2.2+θ a)/\θ a=θ x.1.1/\AD8 x.2.1.2.1 x.1 F G x.1.2.2.2.2 a) ?_ λr hr=>BA (λu c=>AB λb=>O! b (hr.1 u c)) (λu c=>AB λ_=>.inr ?_)
 ·refine CV (λs=>∃(k:Nat)(a:Ψ Ap)(z:AJ),s=((k:Int),x.1.2.2.1++a,x.1.1,x.1.2.1,x.1.2.2.2.1,x.1.2.2.2.2+(k:Int),z)/\k<=θ x.1.1/\θ a=k/\AD8 x.2.1.2.1 x.1 F G x.1.2.2.2.2 a) (θ x.1.1-·.1.toNat)
   ⟨0,[],u,k!,BS _,rfl,λj f d=>by simp at d⟩ ?_
  rintro s ⟨k,a,z,rfl,i2,B,L⟩;unfold PG;dsimp only;simp only[len];rw[p,H,I,q];refine AC (λl=>?_) (λl=>k? ⟨λu c=>(by cases c),λu c=>(by cases c;exact⟨a,by dsimp only;rw[B],o!,L⟩)⟩);have K:x.1.1[k]?=D (x.1.1[k]' o!):=Au o!;rw[oO hb.1 K,AD];refine AA (AIb t.uq (λe he=>((m e).1 he).1) o!) λo w=>AK (λl=>k? ⟨λu c=>(by cases c;exact l),λu c=>(by cases c)⟩) (λb=>?_);have⟨C,es,n,m3⟩:=w b;rw[rL C,AD];refine AA (Ac w!) λar ad=>?_;rw[Aa (x:=x.1.2.2.2.2+(k:Int)+1),Aa (x:=(k:Int)+1)];refine y! ⟨k+1,a++[(1,x.1.2.2.2.2+(k:Int),Ns o.1)],z,?_,o!,by rw[AV,B];rfl,λj f d=>?_⟩ d!
  grind;by_cases hj:j<θ a;rw[Cb hj]at d;exact L j f d;have A_:=Ce d;rw[AV,BW,Be]at A_;have y:j=k:=o!
  subst y;rw[Cu o!,B,HG]at d;cases d;refine⟨o.1,rfl,C,C.runOf t.uq λe=>?_,by rw[n],by rw[n],by rw[n];exact K,by rw[n]⟩;rw[n];dsimp only;rw[m3,m];constructor;grind;rintro⟨g,D_,E,q4,R,S⟩;exact⟨⟨g,R,S⟩,D_,E,q4,R,S⟩
 have⟨a,g,D_,E⟩:=hr.2 u c;refine⟨F,G,a,?_,⟨o!,f2,o!⟩,o!,D_,E⟩;have M:=E! (·.1) g;have N:=E! (·.2.1) g;have O:=E! (·.2.2.1) g;have Q:=E! (·.2.2.2.2) g;dsimp only at M N O Q;dsimp only;rw[M,N,O,Q]
def Ld.congr{a b:AJ}(e:b.1=a.1)(f:b.2.1=a.2.1){d c}:Ld a d c↔Ld b d c:=by grind[Ld,qe]
def Good.congr{a b:AJ}(c:b.1=a.1)(d:b.2.1=a.2.1){f}{r}(h:Good a f r):Good b f r:=⟨h.1,h.2.1,h.2.2.1,(Ld.congr c d).1 h.2.2.2⟩
def Good.run{a}{f}{r s}(h:Good a f r)(g:Good a f s):r=s:=uM h.2.2.1 g.2.2.1 (h.2.1.symm.trans g.2.1)
def AR.step{L:List EN}{a b:AJ}{F G:Int}{s:List Ap}(h:AR L a)(e:b=(a.1,a.2.1,a.2.2.1++s,G+1,a.2.2.2.2+θ s))(hF:a.2.2.2.1<=F)(hG:F<=G)(hn:AD8 L a F G a.2.2.2.2 s)(D_:VB b):AR L b/\(AG a->AG b)/\∀c,RC a c->RC b (c+1):=by
 have P:b.1=a.1:=by rw[e]
 have Q:b.2.1=a.2.1:=by rw[e]
 have Y:b.2.2.1=a.2.2.1++s:=by rw[e]
 have h4:b.2.2.2.1=G+1:=by rw[e]
 have q:∀f∈s,∃(j:Nat)(r:AS),Good b f r/\Yg L r/\r.1=F/\r.2.1=G/\a.1[j]?=δ r.2.2.1/\s[j]?=δ f:=λf k=>by have⟨j,hj⟩:=Eo.1 k;have⟨r,l,M,w,r4,W,S,r7⟩:=hn j f hj;refine⟨j,r,⟨by rw[l],by rw[l],M,(Ld.congr P Q).1 ⟨j,S,r7⟩⟩,w,r4,W,S,hj⟩
 have K:∀f∈a.2.2.1,Bad f\/∃r,Good b f r/\Yg L r/\r.2.1<a.2.2.2.1:=λf k=>(h.files f k).imp id λ⟨r,l,M,w⟩=>⟨r,l.congr P Q,M,w⟩
 have d:∀x∈D8 b,(x∈D8 a/\x.1.2.1<a.2.2.2.1)\/∃(j:Nat)(f:Ap),s[j]?=δ f/\Good b f x.1/\x.2=f.2.1/\x.1.1=F/\a.1[j]?=δ x.1.2.2.1:=λx m=>by unfold D8 at m;rw[Y]at m;have⟨f,k,z⟩:=Pg.1 m;rcases Ah.1 k with k|k;rcases K f k with E|⟨r,l,M,w⟩;rw[E.intR D_.1]at z;cases z;rw[l.intR D_.1]at z;cases z;exact .inl ⟨Qj h.vb.1 k (l.congr P.symm Q.symm),w⟩;have⟨j,r,l,M,w,r4,W,S⟩:=q f k;rw[l.intR D_.1]at z;cases z;exact .inr ⟨j,f,S,l,rfl,w,W⟩
 refine⟨⟨D_,λf k=>?_,λx m y R J p=>?_⟩,λU_ f k=>?_,λc Z v=>?_⟩;grind;rcases d x m with⟨n,A_⟩|⟨i,f,n,A_,N,x4,B⟩;rcases d y R with⟨o,C⟩|⟨j,g,o,C,T,y4,O⟩;exact h.dis x n y o J p;grind;rcases d y R with⟨o,C⟩|⟨j,g,o,C,T,y4,O⟩;exact .inr o!;rw[<-p]at O;have t:=h.vb.1.inj B O;subst t;rw[n]at o;cases o;exact O! (Di (A_.run C) (N.trans T.symm)) J;rw[Y]at k;rcases Ah.1 k with k|k;have⟨r,hr⟩:=U_ f k;exact⟨r,hr.congr P Q⟩;have⟨j,r,l,_⟩:=q f k;exact⟨r,l⟩;have I:=(Nl D_).filter λe=>e.1.2.2.1==v;by_cases H:∃y∈(D8 b).filter (λe=>e.1.2.2.1==v),∃(j:Nat)(f:Ap),s[j]?=δ f/\Good b f y.1/\y.2=f.2.1/\a.1[j]?=δ y.1.2.2.1;have⟨y,R,j,g,o,C,T,O⟩:=H;have V:y.1.2.2.1=v:=eq_of_beq (BG.1 R).2;have:=jE _ (y::(D8 a).filter λe=>e.1.2.2.1==v) I λx m=>by have⟨X_,u⟩:=BG.1 m;rcases d x X_ with⟨n,_⟩|⟨i,f,n,A_,N,x4,B⟩;grind;rw[eq_of_beq u,<-V]at B;have t:=h.vb.1.inj B O;subst t;rw[n]at o;cases o;exact As.2 (.inl (Di (A_.run C) (N.trans T.symm)))
 rw[BW]at this;have:=Z v;omega;have:=jE _ ((D8 a).filter λe=>e.1.2.2.1==v) I λx m=>by have⟨X_,u⟩:=BG.1 m;rcases d x X_ with⟨n,_⟩|⟨i,f,n,A_,N,x4,B⟩;exact BG.2 ⟨n,u⟩;exact O! ⟨x,m,i,f,n,A_,N,B⟩ H
 have:=Z v;omega
def AIX(a:AJ)(lo n:Y):Prop:=∃e∈D8 a,e.1.2.2.1=lo/\e.1.1<=n/\n<=e.1.2.1
def AF(a:AJ):Prop:=∀lo∈a.1,∀n:Y,1<=n->n<a.2.2.2.1->AIX a lo n
def AF.step{L}{a b:AJ}{F G:Y}{c:Ψ Ap}(w:AF a)(h:AR L a)(e:b=(a.1,a.2.1,a.2.2.1++c,G+1,a.2.2.2.2+Z c))(H:F=a.2.2.2.1)(z:Z c=Z a.1)(hn:AD8 L a F G a.2.2.2.2 c)(s:VB b):AF b:=by
 have k:b.1=a.1:=by rw[e]
 have p:b.2.1=a.2.1:=by rw[e]
 have q:b.2.2.1=a.2.2.1++c:=by rw[e]
 have E:b.2.2.2.1=G+1:=by rw[e]
 intro A_ d n B I;rw[k]at d;rcases cU n a.2.2.2.1 with g|g;obtain⟨r,hr,i,m,u⟩:=w A_ d n B g;have⟨f,l,v,D_,_⟩:=h.mem hr;exact⟨(r.1,f.2.1),Qj s.1 (by rw[q];exact F4 _ l) (v.congr k p),i,m,u⟩;have⟨j,t⟩:=Eo.1 d;have y:=Ce t;have l:c[j]?=D (c[j]' o!):=Au o!;have⟨r,i,m,u,J,K,o,C⟩:=hn j _ l;have x:Good b (c[j]' o!) r:=⟨by rw[i],by rw[i],m,(Ld.congr k p).1 ⟨j,o,C⟩⟩
 refine⟨(r,(c[j]' o!).2.1),Qj s.1 (by rw[q];exact Kq _ (KM _)) x,?_,d!⟩;rw[t]at o;exact(BL o).symm
def SF(a:AJ)(m:Y):Prop:=a.2.2.2.2+Z a.2.2.1<=m
def AGV{x:AJ×Ad×Y}{m}(h:AR x.2.1.2.1 x.1)(f:Dc x.2.1)(u:SF x.1 m):An (E7 x) λr=>r.2=0->AR x.2.1.2.1 r.1/\(AG x.1->AG r.1)/\(∀c,RC x.1 c->RC r.1 (c+1))/\SF r.1 (m+32)/\r.1.2.1=x.1.2.1/\(r.1.2.2.2.1=x.1.2.2.2.1\/r.1.2.2.2.1<=x.2.1.2.2+1)/\(HS x.2.1.2.1->AF x.1->AF r.1):=by
 refine((AGW h.sa h.vb).and (AAV h.sa h.vb f)).mono λr hr k=>?_;have⟨z,l,A_,B⟩:=hr.1 k;rcases hr.2 k with e|⟨F,G,v,g,i,n,o,j⟩;rw[e];exact⟨h,id,λc s t=>Nat.le_succ_of_le (s t),by unfold SF at*;omega,rfl,.inl rfl,λ_=>id⟩
 ·have a:=h.step g i.1 n j l;have b:0<Z x.2.1.2.1:=by have:=f.2.2.2.2.1;omega
  have d:HS x.2.1.2.1->AF x.1->AF r.1:=λp q=>q.step h g (i.2.1 (by have w:=(p 0 _ (Au b)).1;have y:=(f.2.2.2.2.2 0 _ (Au b)).1;have:=h.vb.2.1;omega)) o j l;have:=h.sa.1;refine⟨a.1,a.2.1,a.2.2,?_,?_,?_,d⟩;all_goals unfold SF at*;grind
def AH0{c d:Type}(l:E c)(m:E d)(n:V):l.zip m=(l.take n).zip (m.take n)++(l.drop n).zip (m.drop n):=by
 induction n generalizing l m with
 |zero=>simp
 |succ n e=>
  cases l with
  |nil=>simp
  |cons a l=>
   cases m with
   |nil=>simp
   |cons b m=>grind[List.zip_cons_cons]
theorem AJl{c d:Type}{l:E c}{m:E d}{k:V}{a:c}{b:d}(e:l[k]?=D a)(f:m[k]?=D b):(a,b)∈l.zip m:=by refine Eo.2 ⟨k,?_⟩;grind[List.getElem?_zip_eq_some]
def AEH{x:AJ}{L:List EN}{U_:Int×List AS×List Int×List Bool}(h:AR L x)(b:0<=U_.1):An (Ak (FH x U_) ([],[],0)) λr=>θ r.2=θ r.1/\∀p∈r.1.zip r.2,p∈D8 x:=by
 obtain⟨⟨b1,b2,b3,b4,b5,b6,b7⟩,a1,a2,a3,a4,a5,a6⟩:=h.vb;refine CV (λ(s:List AS×List Int×Int)=>0<=s.2.2/\s.2.2<=θ x.2.2.1/\θ s.2.1=θ s.1/\θ s.1<=s.2.2/\∀p∈s.1.zip s.2.1,p∈D8 x) (λ(s:List AS×List Int×Int)=>((θ x.2.2.1:Int)-s.2.2).toNat) ⟨Ag _,d!,rfl,k!,λp b=>by simp at b⟩ (λs X_=>?_);obtain⟨S,i2,T,i4,u⟩:=X_;unfold FH;have e:=Aa (x:=s.2.2+1);rw[e];refine AC (λE=>?_) (λ_=>An.done ⟨T,u⟩);simp only[len]at E;refine AA (AI S E) λv D_=>?_;have q:∃w,Da (x,v)=δ w/\(w.2= -1\/Good x v w.1):=by rcases h.files v D_.2 with Y|⟨r,R,_⟩;obtain⟨r,hr⟩:=Y.ref (a:=x);exact⟨_,hr,.inl rfl⟩;obtain⟨k,hk,ad⟩:=R.ref h.vb.1;exact⟨_,hk,.inr R⟩
 obtain⟨w,F,t⟩:=q;rw[F,AD];refine AK (λ_=>An.next ⟨d!,d!,T,d!,u⟩ d!) (λZ=>?_);have c:Good x v w.1:=t.elim (λhz=>O! hz o!) id;refine AA (Rr ⟨i!,i!,o!⟩) λy o=>AA (Bd (Ag _) o.1 o.2) λv8 P=>AA (Bd o.1 i! i!) λv9 Q=>?_;have l8:=P.2;have l9:=Q.2;simp only[len]at l9;refine AA (Ac w!) λar d=>?_;have G:=d.2.1;simp only[Be]at G;refine AA (Ac w!) λax f=>?_;have H:=f.2.1;simp only[Be,BW]at H;refine AA (Ac o!) λa0 g=>?_;have al:=g.2.1;refine AA (Bd (Ag _) o.1) λM i=>?_;have ao:=i.2;refine AA (AI S E) λN C=>AA (Bd o.1 i! i!) λO j=>?_;have I:=j.2;simp only[len]at I;refine AA (Ac w!) λa7 l=>?_;have J:=l.2.1;simp only[Be]at J;refine AA (Ac w!) λa8 m=>?_;have K:=m.2.1;simp[Be,BW]at K;refine AA (Ac o!) λa9 n=>?_;have ap:=n.2.1;have A_:N=v:=by have:=C.1;rw[D_.1]at this;exact(BL this).symm
 have V:v8=s.1.take y.toNat:=by rw[P.1];simp
 have W:v9=s.1.drop y.toNat:=by rw[Q.1];exact BN (by rw[DO];simp only[len];omega)
 have z:M=s.2.1.take y.toNat:=by rw[i.1];simp
 have B:O=s.2.1.drop y.toNat:=by rw[j.1];exact BN (by rw[DO];simp only[len];omega)
 refine An.next ⟨d!,d!,d!,d!,λp b=>?_⟩ d!
 dsimp only at b;rw[g.1,f.1,d.1,n.1,m.1,l.1,V,W,z,B,Bt,Bt]at b;rw[fg (by simp[AV,BU,BW,Be];omega),fg (by simp[BU];omega)]at b;rw[AH0 s.1 s.2.1 y.toNat]at u;rcases Ah.1 b with b|b;rcases Ah.1 b with b|b;exact u p (Ah.2 (.inl b));rw[List.zip_cons_cons,List.zip_nil_left,Ax]at b;rw[b,A_];exact Qj h.vb.1 D_.2 c;exact u p (Ah.2 (.inr b))
def Wh(x:AJ)(t:E AS×E Y×E Bool):Prop:=∀p∈(t.1.zip t.2.1).zip t.2.2,p.2=A->p.1∈D8 x
def AEI{x:AJ}{a:List AS×List Int}{n:Int}{t:List AS×List Int×List Bool}(h:θ a.2=θ a.1/\θ a.1<=256/\RL a.1)(hn:n<=100000)(m:T3 n t)(R:∀p∈a.1.zip a.2,p∈D8 x)(G:Wh x t):An (Ak (FJ a) (0,0,t)) λr=>Wh x r:=by
 refine CV (λ(s:Int×Int×List AS×List Int×List Bool)=>0<=s.2.1/\s.2.1<=θ a.1/\T3 (n+s.2.1) s.2.2/\Wh x s.2.2) (λ(s:Int×Int×List AS×List Int×List Bool)=>((θ a.1:Int)-s.2.1).toNat) ⟨Ag _,d!,by simpa using m,G⟩ (λs F=>?_);have⟨g,S,⟨z,H,T,A_⟩,o⟩:=F;have⟨P,Q,E⟩:=h;unfold FJ;rw[(Aa (x:=s.2.1+1))];refine AC (λf=>?_) (λ_=>An.done o);simp[len]at f;refine AA (AI g f) λI _=>AC (λ_=>An.next ⟨d!,d!,⟨z,H,d!,A_⟩,o⟩ d!) (λ_=>AA (AI g f) λy k=>AA (AI g) λJ C=>AA (AI g f) λi D_=>?_);have j:i=y:=by grind[Option.some.inj]
 subst j;refine EM (Si (E i k.2)) λK B l=>AA (Ac w!) λL b=>?_;have q:=b.2.1;simp[Be,BW]at q;refine AA (Ac w!) λM d=>?_;have u:=d.2.1;simp[Be,BW]at u;refine AA (Ac w!) λN e=>?_;have v:=e.2.1;simp[Be,BW]at v;refine AA (AI g f) λO _=>An.next ⟨d!,d!,⟨d!,d!,d!,λr hr=>?_⟩,λp c m=>?_⟩ d!
 dsimp only at hr;rw[b.1]at hr;rcases Ah.1 hr with w|w;exact A_ r w;simp at w;rw[w];exact l;dsimp only at c;rw[b.1,d.1,e.1,fg z.symm,fg (by rw[List.length_zip];omega)]at c;rcases Ah.1 c with c|c;exact o p c m;grind[List.zip_cons_cons,List.zip_nil_left,List.mem_singleton,Fm,AJl]
def AEG{x:AJ}{L:List EN}(h:AR L x):An (GW x) λr=>T3 4096 r/\Wh x r:=by unfold GW;refine AA Kl λo i=>AP (λ_=>AB ⟨⟨rfl,rfl,k!,λr hr=>by simp at hr⟩,λp d=>by simp at d⟩) (λc=>?_);have e:=i c;have a4:=e.2.2.2.1;refine AA (P:=λr=>T3 4096 r/\Wh x r) ?_ λr hr=>AB hr;refine CV (λ(s:Int×List AS×List Int×List Bool)=>0<=s.1/\s.1<=θ x.1/\T3 (256*s.1) s.2/\Wh x s.2) (λ(s:Int×List AS×List Int×List Bool)=>((θ x.1:Int)-s.1).toNat) ⟨Ag _,d!,⟨rfl,rfl,k!,λr hr=>by simp at hr⟩,λp d=>by simp at d⟩ (λs k=>?_);have⟨f,n,b,g⟩:=k;unfold OI;rw[(Aa (x:=s.1+1))];refine AC (λc=>?_) (λ_=>An.done ⟨⟨b.1,b.2.1,by have:=b.2.2.1;omega,b.2.2.2⟩,g⟩);simp[len]at c;refine AA ((ZO e h.sa f).and (AEH h f)) λl a=>AA ((ZP a.1 o! b).and (AEI a.1 o! b a.2.2 g)) λm j=>?_;grind[An.next]
def yH{a:AJ}{r:AS}(h:BD a.2.1 a.1):An (Fz (a,r)) λk=>0<=k->a.1[k.toNat]?=δ r.2.2.1:=by
 have b:=h.2.2.2.1;refine AA (P:=λq=>∀k:Int,q=.inl k->a.1[k.toNat]?=δ r.2.2.1) ?_ λq f=>?_
 ·refine CV (λ(s:Int)=>0<=s/\s<=θ a.1) (λs=>((θ a.1:Int)-s).toNat) ⟨Ag _,o!⟩ (λs c=>?_);have⟨g,i⟩:=c;unfold Hz;dsimp[len];refine AC (λe=>?_) (λ_=>An.done λk d=>by cases d);have hr:=oO h (Au o!:a.1[s.toNat]?=δ (a.1[s.toNat]' o!));grind[Int.toNat_of_nonneg,Aa,AQ,An.done,An.next]
 grind[BA,AB]
def Good.refE{a}{f}{r}(h:Good a f r)(c:BD a.2.1 a.1):∃k:V,Da (a,f)=D (r,(k:Y))/\a.1[k]?=D r.2.2.1:=by have⟨e,g,i,b⟩:=h;have⟨k,k1,d,j⟩:=(sQ (r:=r) c).and (yH (r:=r) c);refine⟨ο k,?_,j (d.2 b)⟩;unfold Da;rw[e,g,H!,A!,yM i,AD,show(((r,(0:Y)):AS×Y).2 !=0)=X from rfl,A!,k1,AD,Iz (d.2 b)]
def Beh(a b:NE):Prop:=a.1.2.1<b.1.1
def Lt(a b:NE):Prop:=a.1.2.2.1<b.1.2.2.1\/(a.1.2.2.1=b.1.2.2.1/\Beh a b)
def ACT{L}{x}(h:AR L x)(e:NE):e∈D8 x↔∃f∈x.2.2.1,Good x f e.1/\e.2=f.2.1:=⟨λd=>by have⟨f,a,b,c,_⟩:=h.mem d;exact⟨f,a,b,c⟩,λ⟨f,a,b,c⟩=>by have:=Qj h.vb.1 a b;rw[<-c]at this;exact this⟩
def rH{L}{x}(h:AR L x){e:NE}(a:e∈D8 x):1<=e.1.1/\e.1.1<=e.1.2.1:=by have⟨f,_,g,_⟩:=h.mem a;have:=g.2.2.1.1;exact⟨this.1,this.2.1⟩
def ACr{s2:List AS×List Int×Int}{v4:AS×Int}(h:θ s2.1<=16777215):An (Ak (Hk s2 v4) (len s2.1)) λr=>0<=r/\r<=θ s2.1/\(∀e∈s2.1.drop r.toNat,v4.1.1<=e.1)/\(0<r->∀e,s2.1[r.toNat-1]?=δ e->e.1<=v4.1.1):=by refine CV (λ(s:Int)=>0<=s/\s<=θ s2.1/\∀e∈s2.1.drop s.toNat,v4.1.1<=e.1) (λ(s:Int)=>s.toNat) ⟨by unfold len;omega,by unfold len;omega,λe a=>by simp[len]at a⟩ (λs i=>?_);have⟨f,g,b⟩:=i;unfold Hk;refine AC (λj=>?_) (λj=>An.done ⟨f,g,b,λl=>O! l o!⟩);rw[Aa];refine AA (AI) λm c=>AC (λk=>An.next ⟨o!,o!,λe a=>?_⟩ o!) (λk=>An.done ⟨f,g,b,λ_ e a=>?_⟩);rw[show s.toNat=(s-1).toNat+1 by omega]at b;have d:=Ce c.1;rw[KH d]at a;rcases As.1 a with q|q;have:=c.1;rw[Au d]at this;grind[Option.some.inj];exact b e q;have:=c.1;rw[show(s-1).toNat=s.toNat-1 by omega,a]at this;rw[BL this];omega
def W2(x:AJ)(k:V)(s:E AS×E Y×Y):Prop:=0<=s.2.2/\s.2.2<=Z x.2.2.1/\∃M:E NE,s.1=M.map (·.1)/\s.2.1=M.map (·.2)/\Z M<=s.2.2/\M.Pairwise Beh/\∀e,e∈M↔(∃f∈x.2.2.1.take s.2.2.toNat,Good x f e.1/\e.2=f.2.1)/\x.1[k]?=D e.1.2.2.1
def ACq{x}{L}{s1:Int×Ψ AS×Ψ Int×Ψ Bool}(h:AR L x){k:Nat}(hp:s1.1=k):An (Ak (FH x s1) ([],[],0)) λr=>∃M:Ψ NE,r=(M.map (·.1),M.map (·.2))/\θ M<=256/\M.Pairwise Beh/\∀e,e∈M↔e∈D8 x/\x.1[k]?=D e.1.2.2.1:=by
 obtain⟨⟨b1,b2,b3,b4,b5,b6,b7⟩,a1,a2,a3,a4,a5,a6⟩:=h.vb;refine CV (W2 x k) (λs=>((θ x.2.2.1:Int)-s.2.2).toNat) ⟨Ag _,d!,[],rfl,rfl,k!,List.Pairwise.nil,λe=>k!⟩ ?_;rintro⟨A_,B,i⟩ ⟨i1,i2,M,eA,eB,i4,W,X_⟩;dsimp only at i1 i2 eA eB i4 X_;subst eA eB;unfold FH;dsimp only[len];rw[Aa (x:=i+1)];refine AC (λhc=>?_) (λhc=>k? ⟨M,rfl,o!,W,λe=>by rw[X_ e,ACT h,BN o!]⟩);refine AA (AI i1 hc) λv3 P=>?_;have et:x.2.2.1.take (i+1).toNat=x.2.2.1.take i.toNat++[v3]:=by rw[show(i+1).toNat=i.toNat+1 by omega,Ca,P.1];rfl
 have C:(∀e:NE,Good x v3 e.1->x.1[k]? ≠D e.1.2.2.1)->An (D (Step.next (M.map (·.1),M.map (·.2),i+1)):Ω (Step (Ψ AS×Ψ Int×Int) (Ψ AS×Ψ Int))) (Jj (W2 x k) (λs=>((θ x.2.2.1:Int)-s.2.2).toNat) ((θ x.2.2.1:Int)-i).toNat λr=>∃M:Ψ NE,r=(M.map (·.1),M.map (·.2))/\θ M<=256/\M.Pairwise Beh/\∀e,e∈M↔e∈D8 x/\x.1[k]?=D e.1.2.2.1):=λhn=>by
  refine y! ⟨d!,d!,M,rfl,rfl,d!,W,λe=>?_⟩ d!
  dsimp only;rw[X_ e,et];constructor;rintro⟨⟨f,o,l⟩,m⟩;exact⟨⟨f,Ah.2 (.inl o),l⟩,m⟩;rintro⟨⟨f,o,l⟩,m⟩;rcases Ah.1 o with q|q;exact⟨⟨f,q,l⟩,m⟩;rw[Ax.1 q]at l;exact O! m (hn e l.1)
 rcases h.files v3 P.2 with u|⟨r,D_,_⟩;obtain⟨r,hr⟩:=u.ref (a:=x);rw[hr,AD];dsimp only;rw[show((-1:Int) !=s1.1)=A by rw[hp];exact bne_iff_ne.2 o!,B!];exact C λe v=>O! v.2.1 (u.2 _ v.2.2.1.wr);obtain⟨kk,hr,F⟩:=D_.refE h.vb.1;rw[hr,AD];dsimp only;rw[hp];refine AK (λa9=>C λe v hk=>a9 ?_) (λT=>?_);have e1:=uM v.2.2.1 D_.2.2.1 (v.2.1.symm.trans D_.2.1);rw[e1]at hk;rw[h.vb.1.inj F hk];have T:kk=k:=o!
 subst T;refine AA (ACr (s2:=(M.map (·.1),M.map (·.2),i)) (v4:=(r,(kk:Int))) (by dsimp only;rw[BX];omega)) λc h7=>?_;obtain⟨Z,g2,g3,g4⟩:=h7;dsimp only at g2 g3 g4;rw[BX]at g2;have m1:(M.map (·.1)).length=θ M:=BX _;have m2:(M.map (·.2)).length=θ M:=BX _;refine AA (Bd (Ag _) Z) λv8 h8=>AA (Bd Z) λv9 h9=>?_;have l8:=h8.2;have l9:=h9.2;refine AA (Ac w!) λca H=>?_;have bb:=H.2.1;simp only[Be]at bb;refine AA (Ac w!) λcb I=>?_;have bl:=I.2.1;simp only[Be,BW]at bl;refine AA (Ac o!) λbz ax=>AA (Bd (Ag _) Z) λbG J=>?_;have b9:=J.2;refine AA (AI i1 hc) λd a0=>?_;have ao:d=v3:=by have:=a0.1;rw[P.1]at this;exact(BL this).symm
 subst ao;refine AA (Bd Z) λbN K=>?_;have b':=K.2;refine AA (Ac w!) λcc N=>?_;have bm:=N.2.1;simp only[Be]at bm;refine AA (Ac w!) λcd O=>?_;have bt:=O.2.1;simp only[Be,BW]at bt;refine AA (Ac o!) λb0 a7=>?_;have z:∀{β:Type}g(a b:Ψ β),a=List.take (c.toNat-ο 0) (List.drop (ο 0) (M.map g))->b=List.take (((M.map g).length:Int).toNat-c.toNat) (List.drop c.toNat (M.map g))->a=(M.take c.toNat).map g/\b=(M.drop c.toNat).map g:=λg a b t u=>by refine⟨?_,?_⟩;rw[t,List.map_take];rfl;rw[u,nP];exact BN (by rw[DO];omega)
 obtain⟨e8,e9⟩:=z (·.1) v8 v9 h8.1 h9.1;obtain⟨al,ap⟩:=z (·.2) bG bN J.1 K.1;have ad:bz=(M.take c.toNat++(r,d.2.1)::M.drop c.toNat).map (·.1):=by rw[ax.1,I.1,H.1,e8,e9];simp
 have ar:b0=(M.take c.toNat++(r,d.2.1)::M.drop c.toNat).map (·.2):=by rw[a7.1,O.1,N.1,al,ap];simp
 have y:=Qj h.vb.1 P.2 D_;have U_:∀a∈M,a∈D8 x/\a.1.2.2.1=r.2.2.1/\a≠(r,d.2.1):=λa t=>by
  obtain⟨⟨f,o,l,m⟩,G⟩:=(X_ a).1 t;refine⟨(ACT h a).2 ⟨f,EJ o,l,m⟩,?_,λv=>?_⟩;rw[F]at G;exact(BL G).symm;obtain⟨j,p⟩:=Dk o;have E:=Ce p;rw[BU]at E;rw[KK o!,Au o!]at p;have Q:=P.1;rw[Au o!]at Q;have:=FA.1 (wS h.vb) j i.toNat o! o! o!
  rw[BL p,BL Q]at this;rw[v]at m;dsimp only at m;omega
 have S:∀a∈M.take c.toNat,Beh a (r,d.2.1):=λa t=>by
  have a8:=EJ t;obtain⟨Y,q2,q3⟩:=U_ a a8;have ra:=rH h Y;have rr:=rH h y;obtain⟨j,p⟩:=Dk t;have E:=Ce p;rw[BU]at E;rw[KK o!]at p;have n:M[c.toNat-1]?=D (M[c.toNat-1]' o!):=Au o!;have V:(M[c.toNat-1]' o!).1.1<=r.1:=g4 o! _ (by rw[CO,n];rfl);have b8:a.1.1<=r.1:=by by_cases v:j=c.toNat-1;rw[v,n]at p;rw[<-BL p];exact V;have:=FA.1 W j (c.toNat-1) o! o! o!;rw[Au o!]at p;rw[BL p]at this;unfold Beh at this;omega
  rcases h.dis a Y _ y q3 q2 with w|w;exact w;dsimp only at w rr;omega
 have R:∀b∈M.drop c.toNat,Beh (r,d.2.1) b:=λb u=>by obtain⟨Y,q2,q3⟩:=U_ b (Nn u);have rb:=rH h Y;have rr:=rH h y;have V:=g3 b.1 (by rw[<-nP];exact Kr u);rcases h.dis _ y b Y (Lk q3) q2.symm with w|w;exact w;dsimp only at w rr;omega
 rw[ad,ar];refine y! ⟨d!,d!,_,rfl,rfl,by simp[AV,BW,BU,DO];omega,?_,λe=>?_⟩ d!
 rw[<-C4 c.toNat M]at W;obtain⟨p1,p2,p3⟩:=List.pairwise_append.1 W;refine List.pairwise_append.2 ⟨p1,List.pairwise_cons.2 ⟨R,p2⟩,λa t b u=>?_⟩;rcases As.1 u with q|q;rw[q];exact S a t;exact p3 a t b q;dsimp only;rw[et];have a':e∈M.take c.toNat++(r,d.2.1)::M.drop c.toNat↔e∈M\/e=(r,d.2.1):=by
  conv=>rhs;rw[<-C4 c.toNat M]
  simp only[Ah,As];constructor;rintro(q|q|q);exact .inl (.inl q);exact .inr q;exact .inl (.inr q);rintro((q|q)|q);exact .inl q;exact .inr (.inr q);exact .inr (.inl q)
 rw[a',X_ e];constructor;rintro(⟨⟨f,o,l⟩,m⟩|q);exact⟨⟨f,Ah.2 (.inl o),l⟩,m⟩;rw[q];exact⟨⟨d,Ah.2 (.inr (Ax.2 rfl)),D_,rfl⟩,F⟩;rintro⟨⟨f,o,l,G⟩,m⟩;rcases Ah.1 o with q|q;exact .inl ⟨⟨f,q,l,G⟩,m⟩;rw[Ax.1 q]at l G;have e1:=uM l.2.2.1 D_.2.2.1 (l.2.1.symm.trans D_.2.1);exact .inr (Di e1 G)
def ACs{M:List NE}{t:List AS×List Int×List Bool}(v:M.Pairwise Beh)(m:∀e∈M,1<=e.1.1/\e.1.1<=e.1.2.1)(w:θ M<=256)(z:θ t.1<=100000)(A_:θ t.2.1<=100000)(B:θ t.2.2<=100000):An (Ak (FJ (M.map (·.1),M.map (·.2))) (0,0,t)) λr=>r=(t.1++M.map (·.1),(t.2.1++M.map (·.2),t.2.2++M.map λ_=>ζ)):=by
 have y:(M.map (·.1)).length=θ M:=BX _;refine CV (λ(s:Int×Int×List AS×List Int×List Bool)=>∃k:Nat,s.2.1=k/\k<=θ M/\s.2.2=(t.1++(M.take k).map (·.1),(t.2.1++(M.take k).map (·.2),t.2.2++(M.take k).map λ_=>ζ))/\((k=0/\s.1=0)\/∃e,0<k/\M[k-1]?=δ e/\s.1=e.1.2.1)) (λs=>((θ M:Int)-s.2.1).toNat) ⟨0,rfl,BS _,k!,.inl ⟨rfl,rfl⟩⟩ ?_;rintro⟨j,_,T⟩ ⟨k,rfl,k1,rfl,o⟩;dsimp only at o;unfold FJ;dsimp[len];rw[Aa (x:=(k:Int)+1)];refine AC (λl=>?_) (λl=>An.done (by rw[BN o!]));have a:k<θ M:=o!
 have h:ix (M.map (·.1)) (k:Int)=δ M[k].1:=by unfold ix;rw[C! o!,Int.toNat_natCast,List.getElem?_map,List.getElem?_eq_getElem a];rfl
 have i:ix (M.map (·.2)) (k:Int)=δ M[k].2:=by unfold ix;rw[C! o!,Int.toNat_natCast,List.getElem?_map,List.getElem?_eq_getElem a];rfl
 have n:=m _ (KM a);have b:j<M[k].1.1:=by grind[List.pairwise_iff_getElem,List.getElem?_eq_getElem,Option.some.inj,Beh]
 have g:M.take (k+1)=M.take k++[M[k]]:=by grind[List.take_add_one,List.getElem?_eq_getElem]
 have l1:=WP k M;rw[h,AD,F! o!,A!,AD,i,AD,AD];rw[show Fm (M[k].1,j)=δ M[k].1 by unfold Fm;rw[G! (by exact b)];rfl,Option.bind_some];refine AA (Ac w!) λp c=>AA (Ac w!) λq d=>AA (Ac w!) λu f=>?_;rw[AD];refine An.next ⟨k+1,rfl,a,?_,.inr ⟨M[k],o!,Au a,rfl⟩⟩ d!
 dsimp only;rw[c.1,d.1,f.1,g,G! (by exact b)];simp only[Kp,Bs,H5,A2]
def AGa{x:AJ}{L:List EN}(h:AR L x):An (GW x) λr=>∃W:List NE,r=(W.map (·.1),(W.map (·.2),W.map λ_=>ζ))/\W.Pairwise Lt/\∀e,e∈W↔e∈D8 x:=by
 obtain⟨⟨G,H,I,J,K,N,O⟩,a1,a2,a3,a4,a5,a6⟩:=h.vb;unfold GW;refine AA NC λS A_=>AP (λt=>O! (A_.2 h.vb) (by simp[t])) (λ_=>AA (P:=λr=>∃W:List NE,r=(W.map (·.1),(W.map (·.2),W.map λ_=>ζ))/\W.Pairwise Lt/\∀e,e∈W↔e∈D8 x) ?_ λr hr=>AB hr);refine CV (λ(s:Int×List AS×List Int×List Bool)=>∃(i:Nat)(W:List NE),s.1=i/\i<=θ x.1/\s.2=(W.map (·.1),(W.map (·.2),W.map λ_=>ζ))/\θ W<=256*i/\W.Pairwise Lt/\∀e,e∈W↔e∈D8 x/\∃k:Nat,k<i/\x.1[k]?=δ e.1.2.2.1) (λs=>((θ x.1:Int)-s.1).toNat) ⟨0,[],rfl,BS _,rfl,k!,List.Pairwise.nil,λe=>k!⟩ ?_;rintro⟨_,_⟩ ⟨i,W,rfl,Q,rfl,R,y,v⟩;unfold OI;dsimp only[len];rw[Aa (x:=(i:Int)+1)];refine AC (λt=>?_) (λt=>An.done ⟨W,rfl,y,λe=>?_⟩)
 ·refine AA (ACq h rfl) λE l=>?_;obtain⟨M,rfl,B,z,j⟩:=l;refine AA (ACs z (λe u=>rH h ((j e).1 u).1) B (by rw[BX];omega) (by rw[BX];omega) (by rw[BX];omega)) λF m=>An.next ⟨i+1,W++M,rfl,o!,by rw[m];simp,by rw[AV];omega,List.pairwise_append.2 ⟨y,?_,λa n b p=>?_⟩,λe=>?_⟩ d!
  refine cV ?_ z;intro a b n p o;have w:=((j a).1 n).2;rw[((j b).1 p).2]at w;exact .inr ⟨(BL w).symm,o⟩;obtain⟨_,k,k1,c⟩:=(v a).1 n;obtain⟨d,rfl⟩:∃d,i=k+1+d:=⟨i-(k+1),o!⟩
  exact .inl (h.vb.1.lt d k _ _ c ((j b).1 p).2);rw[Ah,v e,j e];constructor;rintro(⟨q,k,k1,c⟩|⟨C,D_⟩);exact⟨q,k,o!,c⟩;exact⟨C,i,o!,D_⟩;rintro⟨q,k,k1,c⟩;by_cases u:k=i;rw[u]at c;exact .inr ⟨q,c⟩;exact .inl ⟨q,k,o!,c⟩
 rw[v e];refine⟨λq=>q.1,λq=>⟨q,?_⟩⟩;obtain⟨f,_,g,_⟩:=h.mem q;obtain⟨k,k1,_⟩:=g.2.2.2;have:=Ce k1;exact⟨k,o!,k1⟩
def AIl{x}{L}(h:AR L x):An (Rq x) λr=>∃W:E NE,r=(W.map (·.1),W.map (·.2))/\W.Pairwise Lt/\Z W<=256/\∀e,e∈W↔e∈D8 x:=by refine AA (AGa h) λr hr=>?_;obtain⟨W,rfl,i,g⟩:=hr;refine AB ⟨W,rfl,i,?_,g⟩;have f:W.Nodup:=F5.2 (i.imp_of_mem λ{a b} j k c d=>by subst d;have:=rH h ((g a).1 j);rcases c with q|⟨_,q⟩;omega;unfold Beh at q;omega);have l:=jE W (D8 x) f λe d=>(g e).1 d;have m:(D8 x).length<=Z x.2.2.1:=List.length_filterMap_le _ _;have:=h.vb.2.2.2.2.2.1;omega
def ADE{L}{x:E AS×E Bool}{k:V}{z t:AS}{F T lo hi lv:Y}{b:E EN}(i:Uq L)(m:x.1[k]?=D t)(f:∀e∈t.2.2.2.2.2,e∈L)(n:Z t.2.2.2.2.2≤4096)(l:∀e∈b,e∈L)(q:Z b≤1000000){o:AS}:
  An (Ak (Hl x ((k:Y),o,z)) (0,F,T,lo,hi,lv,b)) λr=>∃a:E EN,r=(F,T,lo,hi,lv,a)/\Z a<=Z b+4096/\∀y,y∈a↔y∈b\/y∈t.2.2.2.2.2:=by
 refine CV (λs=>∃(j:V)(a:E EN),s=((j:Y),F,T,lo,hi,lv,a)/\j<=Z t.2.2.2.2.2/\Z a<=Z b+j/\∀y,y∈a↔y∈b\/y∈t.2.2.2.2.2.take j) (Z t.2.2.2.2.2-·.1.toNat)
  ⟨0,b,rfl,BS _,o!,λy=>k!⟩ ?_
 rintro s ⟨j,a,rfl,A_,B,p⟩;unfold Hl;rw[(by unfold ix;rw[C! o!,s?,m]:ix x.1 (k:Y)=D t),p?];simp only[S];refine AC (λd=>?_) (λd=>k? ⟨a,rfl,o!,q!⟩);rw[AD];refine AA (AI o! d) λv g=>?_;have c:=g.1;rw[DF]at c;refine AA (oM i (λe h=>((p e).1 h).elim (l e) λh=>f e (EJ h)) (f v g.2) o!) λw u=>?_;rw[Aa];refine y! ⟨j+1,w.1,q!,o!,o!,λy=>?_⟩ o!
 grind[List.take_add_one,Option.toList_some,a!]
def vv(x:E AS×E Bool)(lo hi:Y)(k:V):Prop:=x.2[k]?=D A/\∃r,x.1[k]?=D r/\r.2.2.1=lo/\r.2.2.2.1=hi/\(0<k->∀p,x.1[k-1]?=D p->r.1=p.2.1+1)
def AG9{L}{x:Ψ AS×Ψ Bool}{a l:AS}(hL:Uq L)(h:∀(k:Nat)(r:AS),x.1[k]?=D r→x.2[k]?=D A→VR r∧ ∀e∈r.2.2.2.2.2,e∈L)(h1:1≤θ x.1∧θ x.1≤8)(h2:θ x.2=θ x.1)(V:x.1[0]?=D a)(W:x.1[θ x.1-1]?=D l):
  An (Mj x) λr=>r.2=A->VR r.1/\∃(d:Int)(b:Ψ EN),r.1=(a.1,l.2.1,a.2.2.1,a.2.2.2.1,d,b)/\(∀k,k<θ x.1->vv x a.2.2.1 a.2.2.2.1 k)/\∀y,y∈b↔∃(k:Nat)(r:AS),x.1[k]?=D r/\y∈r.2.2.2.2.2:=by
 have G:ix x.1 0=D a:=by unfold ix;rw[C! o!];exact V
 have R:ix x.1 (wi (len x.1-1))=D l:=by rw[Aa (x:=len x.1-1) b!];unfold ix;simp only[len];rw[C! o!,show((θ x.1:Int)-1).toNat=θ x.1-1 by omega,W]
 unfold Mj;rw[G,R,AD,AD,AD,AD,AD];generalize wi (a.2.2.2.2.1+1)=d;refine AA (P:=λr=>(∃u,r=.inl u/\u.1=X)\/∃z b,r=.inr ((a.1,l.2.1,a.2.2.1,a.2.2.2.1,d,b),z)/\(∀k,k<θ x.1->vv x a.2.2.1 a.2.2.2.1 k)/\∀y,y∈b↔∃(k:Nat)(r:AS),x.1[k]?=D r/\y∈r.2.2.2.2.2) ?_ λr hr=>?_
 ·refine CV (λs=>∃(k:Nat)(z:AS)(b:Ψ EN),s=((k:Int),(a.1,l.2.1,a.2.2.1,a.2.2.2.1,d,b),z)/\k<=θ x.1/\θ b<=4096*k/\(∀j,j<k->vv x a.2.2.1 a.2.2.2.1 j)/\∀y,y∈b↔∃(j:Nat)(r:AS),j<k/\x.1[j]?=D r/\y∈r.2.2.2.2.2) (θ x.1-·.1.toNat)
   ⟨0,_,[],rfl,BS _,BS _,λj H=>O! H o!,λy=>⟨λhy=>by simp at hy,λ⟨j,r,H,_⟩=>O! H o!⟩⟩ ?_
  rintro s ⟨k,z,b,rfl,i2,i3,X_,Y⟩;unfold Tc;dsimp only;simp only[len];refine AC (λhc=>?_) (λhc=>k? (.inr ⟨z,b,rfl,λj H=>X_ j o!,λy=>?_⟩))
  ·have hk:k<θ x.1:=o!
   have c:x.1[k]?=D x.1[k]:=Au hk;generalize x.1[k]=t at c;have i:x.2[k]?=D (x.2[k]' o!):=Au o!;generalize x.2[k]' o!=bb at i;have U_:ix x.1 (k:Int)=D t:=by unfold ix;rw[C! o!,s?,c]
   have Q:ix x.2 (k:Int)=D bb:=by unfold ix;rw[C! o!,s?,i]
   rw[Q,AD];refine AP (λ_=>k? (.inl ⟨_,rfl,rfl⟩)) (λO=>?_);rw[O]at i;have⟨tv,tm⟩:=h k t c i;rw[U_,AD,G,AD];refine AK (λ_=>k? (.inl ⟨_,rfl,rfl⟩)) (λq1=>?_);rw[AD,AD];refine AK (λ_=>k? (.inl ⟨_,rfl,rfl⟩)) (λq2=>?_);rw[AD,AD];refine AK (λ_=>k? (.inl ⟨_,rfl,rfl⟩)) (λq3=>?_);have E:∀e∈b,e∈L:=λe he=>by have⟨j,r,B,m,v⟩:=(Y e).1 he;exact(h j r m (X_ j B).1).2 e v
   have J:=ADE (x:=x) (k:=k) (z:=z) (o:=(a.1,l.2.1,a.2.2.1,a.2.2.2.1,d,b)) (F:=a.1) (T:=l.2.1) (lo:=a.2.2.1) (hi:=a.2.2.2.1) (lv:=d) hL c tm tv.1.2.2.2.2.2.2.2.2 E o!
   have D_:vv x a.2.2.1 a.2.2.2.1 k→ ∀f:Ψ EN,θ f≤θ b+4096→(∀y,y∈f↔y∈b∨y∈t.2.2.2.2.2)→
     An (D (Step.next (wi ((k:Int)+1),(a.1,l.2.1,a.2.2.1,a.2.2.2.1,d,f),z)):Ω (Step (Int×AS×AS) ((Bool×AS)⊕(AS×AS)))) (Jj (λs=>∃(k:Nat)(z:AS)(b:Ψ EN),s=((k:Int),(a.1,l.2.1,a.2.2.1,a.2.2.2.1,d,b),z)/\k<=θ x.1/\θ b<=4096*k/\(∀j,j<k->vv x a.2.2.1 a.2.2.2.1 j)/\∀y,y∈b↔∃(j:Nat)(r:AS),j<k/\x.1[j]?=D r/\y∈r.2.2.2.2.2) (θ x.1-·.1.toNat) (θ x.1-((k:Nat):Int).toNat)
      λr=>(∃u,r=.inl u/\u.1=X)\/∃z b,r=.inr ((a.1,l.2.1,a.2.2.1,a.2.2.2.1,d,b),z)/\(∀k,k<θ x.1->vv x a.2.2.1 a.2.2.2.1 k)/\∀y,y∈b↔∃(k:Nat)(r:AS),x.1[k]?=D r/\y∈r.2.2.2.2.2):=λhm f M C=>by
    rw[Aa];refine y! ⟨k+1,z,f,by rw[show(k:Int)+1=((k+1:Nat):Int) by omega],o!,o!,λj H=>?_,λy=>?_⟩ d!
    grind;rw[C,Y];constructor;rintro(⟨j,r,B,m,v⟩|g);exact⟨j,r,o!,m,v⟩;exact⟨k,t,o!,c,g⟩;rintro⟨j,r,B,m,v⟩;by_cases ao:j=k<;>grind
   apply AC<;>intro al
   ·have hp:k-1<θ x.1:=o!
    have q:x.1[k-1]?=D x.1[k-1]:=Au hp;generalize x.1[k-1]=p at q;have S:ix x.1 (wi ((k:Int)-1))=D p:=by rw[Aa];unfold ix;rw[C! o!,show((k:Int)-1).toNat=k-1 by omega,q]
    rw[AD,S,AD];have A_:=(h (k-1) p q (X_ (k-1) o!).1).1.1;have ad:=A_.2.2.1;have ap:=A_.1;have ar:=A_.2.1;rw[Aa (x:=p.2.1+1)];refine AK (λ_=>k? (.inl ⟨_,rfl,rfl⟩)) (λq4=>AA J λZ w=>?_);obtain⟨f,rfl,M,C⟩:=w;refine D_ ⟨i,t,c,q1,q2,λ_ p' n=>?_⟩ f M C;rw[q]at n;injection n with n;rw[<-n];exact q4
   have K:An (Ak (Hl x ((k:Int),(a.1,l.2.1,a.2.2.1,a.2.2.2.1,d,b),z)) (0,a.1,l.2.1,a.2.2.1,a.2.2.2.1,d,b)) λr=>∃f:Ψ EN,r=(a.1,l.2.1,a.2.2.1,a.2.2.2.1,d,f)/\θ f<=θ b+4096/\∀y,y∈f↔y∈b\/y∈t.2.2.2.2.2:=J;refine AA K λZ w=>?_;obtain⟨f,rfl,M,C⟩:=w;exact D_ ⟨i,t,c,q1,q2,λh0=>O! h0 o!⟩ f M C
  rw[Y];constructor;rintro⟨j,r,B,m,v⟩;exact⟨j,r,m,v⟩;rintro⟨j,r,m,v⟩;exact⟨j,r,by have:=Ce m;omega,m,v⟩
 rcases hr with⟨u,rfl,hu⟩|⟨z,b,rfl,B,m⟩;exact BC (AB λI=>by dsimp only at I;rw[hu]at I;cases I);refine A3 (AA YR λax N=>AB λI=>⟨N.1 I,d,b,rfl,B,m⟩)
def jH(a b:AJ):Prop:=∀lo n,AIX a lo n↔AIX b lo n
def xB{a}(h:VB a){x y:NE}(c:x∈D8 a)(d:y∈D8 a)(b:x.2=y.2):x=y:=by grind[rI,List.pairwise_iff_getElem,List.mem_iff_getElem]
structure Grp(M:List NE)(lo hi:Int):Prop where
 same:∀(k:Nat)(e:NE),M[k]?=some e->e.1.2.2.1=lo/\e.1.2.2.2.1=hi/\e.1.1<=e.1.2.1
 next:∀(k:Nat)(e f:NE),M[k]?=some e->M[k+1]?=some f->f.1.1=e.1.2.1+1
def Grp.cover{M}{m l}(h:Grp M m l){c:NE}(d:M[0]?=D c):∀(k:V)(b:NE),M[k]?=D b->c.1.1<=b.1.1/\∀n:Y,c.1.1<=n->n<=b.1.2.1->∃j e,j<=k/\M[j]?=D e/\e.1.1<=n/\n<=e.1.2.1
 |0,b,a=>by rw[d]at a;injection a with a;subst a;exact⟨Ag _,λn g i=>⟨0,c,Ao _,d,g,i⟩⟩
 |k+1,b,a=>by
  have o:=Ce a;have f:M[k]?=D (M[k]' o!):=Au o!;have q:=Grp.cover h d k _ f;have hn:=h.next k _ _ f a
  have p:=(h.same k _ f).2.2;grind
def Grp.le{M}{g c}(h:Grp M g c){k:V}{a:NE}(f:M[k]?=D a):∀(d:V)(e:NE),M[k+d]?=D e->a.1.2.1<=e.1.2.1
 |0,e,he=>q!
 |d+1,e,he=>by
  have i:=Ce he;have b:M[k+d]?=D (M[k+d]' o!):=Au o!;have l:=Grp.le h f d _ b;have hn:=h.next (k+d) _ _ b he
  have j:=(h.same _ _ he).2.2;omega
def ACY{c:Type}{l:E c}{a b:c}(d:a∈l)(e:b∈l)(h:a≠b):2<=Z l:=by cases l<;>grind
def oA{b:Type}(p:b->Bool):∀l:E b,(l.filter p).length+(l.filter λa=>!p a).length=Z l
 |[]=>rfl
 |a::r=>by have:=oA p r;grind
def aT(M:E NE)(l:E Ap):E Ap:=l.filter λf=>!(M.any λe=>e.2==f.2.1)
def mK{M:E NE}{l:E Ap}{f:Ap}:f∈aT M l↔f∈l/\∀e∈M,e.2≠f.2.1:=by grind[aT]
def zV{L}{a}{M:E NE}{r q}(h:AR L a)(c:∀e∈M,e∈D8 a)(l:Grp M r q)(w:2<=Z M):(aT M a.2.2.1).length+2<=Z a.2.2.1:=by
 have d:M[0]?=D (M[0]' o!):=Au o!;have k:M[1]?=D (M[1]' o!):=Au o!;have n:=BP d;have o:=BP k;have i:(M[0]' o!).2≠(M[1]' o!).2:=λm=>by
  have j:=l.next 0 _ _ d k
  have:=(l.same 0 _ d).2.2;rw[<-(xB h.vb (c _ n) (c _ o) m)]at j;omega
 have⟨f,s,_,t,_⟩:=h.mem (c _ n);have⟨g,u,_,v,_⟩:=h.mem (c _ o);have p:=oA (λf:Ap=>!(M.any λe=>e.2==f.2.1)) a.2.2.1;have:2<=(a.2.2.1.filter λf=>!!(M.any λe=>e.2==f.2.1)).length:=by refine ACY (a:=f) (b:=g) ?_ ?_ λm=>i q!;grind;grind
 unfold aT;omega
def AFC{L}{a}{M:E NE}{m l}{s:Bc}(h:AR L a)(j:∀e∈M,e∈D8 a)(k:Grp M m l)(i:2<=Z M)(q:a.2.2.2.2<=1073741824):VB (a.1,a.2.1,aT M a.2.2.1++[(1,a.2.2.2.2,s)],a.2.2.2.1,a.2.2.2.2+1):=by have p:=zV h j k i;have⟨b,c,d,f,n,o,g⟩:=h.vb;refine⟨b,c,d,q!,q!,q!,?_⟩;exact(g.sub (List.filter_sublist)).push f rfl rfl
def notM(M:E NE)(x:NE):Bool:= !(M.any λe=>e.2==x.2)
def vo{L:Ψ EN}{a b:AJ}{M:Ψ NE}{r:AS}{lo t:Int}{K V:NE}(hL:Uq L)(h:AR L a)(N:∀e∈M,e∈D8 a)(X_:Grp M lo t)(h2:2≤θ M)(h0:M[0]?=D K)(hn:M[θ M-1]?=D V)
  (hr:VR r) (r1:r.1=K.1.1) (r2:r.2.1=V.1.2.1) (Q:r.2.2.1=lo) (r4:r.2.2.2.1=t) (r5:∀y,y∈r.2.2.2.2.2↔∃e∈M,y∈e.1.2.2.2.2.2)
  (hb:b=(a.1,a.2.1,aT M a.2.2.1++[(1,a.2.2.2.2,Ns r)],a.2.2.2.1,a.2.2.2.2+1)) (q:VB b):
  AR L b/\jH a b/\(AG a->AG b)/\∀c,RC a c->RC b c:=by
 have b1:b.1=a.1:=by rw[hb]
 have b2:b.2.1=a.2.1:=by rw[hb]
 have U_:b.2.2.1=aT M a.2.2.1++[(1,a.2.2.2.2,Ns r)]:=by rw[hb]
 have b4:b.2.2.2.1=a.2.2.2.1:=by rw[hb]
 have m0:=BP h0;have mn:=BP hn;have z:∀n:Int,(r.1<=n/\n<=r.2.1)↔∃e∈M,e.1.1<=n/\n<=e.1.2.1:=λn=>by constructor;rintro⟨B,C⟩;obtain⟨j,e,_,F,q3⟩:=(X_.cover h0 _ V hn).2 n o! o!;exact⟨e,BP F,q3⟩;rintro⟨e,i,B,C⟩;obtain⟨k,Y⟩:=Eo.1 i;have J:=(X_.cover h0 k e Y).1;have a4:=Ce Y;have F:=X_.le Y (θ M-1-k) V (by rw[show k+(θ M-1-k)=θ M-1 by omega];exact hn);omega
 have al:∀e∈M,Yg L e.1:=λe i=>by obtain⟨f,_,_,_,g,_⟩:=h.mem (N e i);exact g
 have p:∀e∈M,e.1.2.2.1=lo/\e.1.2.2.2.1=t/\e.1.1<=e.1.2.1:=λe i=>by obtain⟨k,Y⟩:=Eo.1 i;exact X_.same k e Y
 have ao:Yg L r:=by refine hr.runOf hL λy=>?_;rw[r5,Q,r4];constructor;rintro⟨e,i,P⟩;have g:=((al e i).mem y).1 P;obtain⟨p1,p2,p3⟩:=p e i;have:=(z y.1).2 ⟨e,i,g.2.2.2.2⟩;exact⟨g.1,g.2.1,o!,o!,this.1,this.2⟩;rintro⟨B,C,R,g4,g5,g6⟩;obtain⟨e,i,J,F⟩:=(z y.1).1 ⟨g5,g6⟩;obtain⟨p1,p2,p3⟩:=p e i;exact⟨e,i,((al e i).mem y).2 ⟨B,C,o!,o!,J,F⟩⟩
 have O:Ld a r.2.2.1 r.2.2.2.1:=by obtain⟨f,_,g,_⟩:=h.mem (N K m0);obtain⟨p1,p2,p3⟩:=p K m0;rw[Q,r4,<-p1,<-p2];exact g.2.2.2
 have u:Good b (1,a.2.2.2.2,Ns r) r:=⟨rfl,rfl,hr,(Ld.congr b1 b2).1 O⟩
 have v:∀{f}{s},Good a f s->Good b f s:=λg=>g.congr b1 b2;have l:∀x∈D8 b,(x∈D8 a/\∀e∈M,e.2≠x.2)\/x=(r,a.2.2.2.2):=λx w=>by unfold D8 at w;rw[U_]at w;obtain⟨f,d,t⟩:=Pg.1 w;rcases Ah.1 d with d|d;obtain⟨f1,f2⟩:=mK.1 d;rcases h.files f f1 with W|⟨s,s1,s2,s3⟩;rw[W.intR q.1]at t;cases t;rw[(v s1).intR q.1]at t;injection t with t;subst t;exact .inl ⟨Qj h.vb.1 f1 s1,f2⟩;rw[Ax]at d;subst d;rw[u.intR q.1]at t;injection t with t;exact .inr t.symm
 have a0:∀x∈D8 a,(∀e∈M,e.2≠x.2)->x∈D8 b:=λx w S=>by
  obtain⟨f,f1,f2,f3,_⟩:=h.mem w;have:f∈b.2.2.1:=by rw[U_];exact Ah.2 (.inl (mK.2 ⟨f1,λe i=>f3▸S e i⟩))
  have:=Qj q.1 this (v f2);rw[<-f3]at this;exact this
 have ad:(r,a.2.2.2.2)∈D8 b:=Qj q.1 (by rw[U_];exact Ah.2 (.inr (Ax.2 rfl))) u;have ap:∀x∈D8 a,x.1.1<=x.1.2.1:=λx w=>by obtain⟨f,_,g,_⟩:=h.mem w;exact g.2.2.1.1.2.1
 have a2:r.1<=r.2.1:=hr.1.2.1;have A_:∀y∈D8 a,(∀e∈M,e.2≠y.2)->y.1.2.2.1=lo->r.2.1<y.1.1\/y.1.2.1<r.1:=λy P S o=>by refine Qe λG=>?_;have a6:=ap y P;obtain⟨e,i,J,F⟩:=(z (if y.1.1<=r.1 then r.1 else y.1.1)).1 (by split<;>omega);have D_:e≠y:=λG=>S e i (by rw[G]);have:=h.dis e (N e i) y P D_ ((p e i).1.trans o.symm);split at J<;>split at F<;>omega
 refine⟨⟨q,λf d=>?_,λx w y P D_ o=>?_⟩,λm n=>?_,λar f d=>?_,λc hc m=>?_⟩;rw[U_]at d;rw[b4];rcases Ah.1 d with d|d;exact(h.files f (mK.1 d).1).imp id λ⟨s,s1,s2,s3⟩=>⟨s,v s1,s2,s3⟩
 rw[Ax]at d;subst d;obtain⟨f,_,_,_,_,g⟩:=h.mem (N V mn);exact .inr ⟨r,u,ao,o!⟩;rcases l x w with⟨T,x2⟩|rfl;rcases l y P with⟨y1,y2⟩|rfl;exact h.dis x T y y1 D_ o;have:=A_ x T x2 (o.trans Q);exact this.symm;rcases l y P with⟨y1,y2⟩|rfl;exact A_ y y1 y2 (o.symm.trans Q);exact O! rfl D_;constructor;rintro⟨e,i,B,C,R⟩;by_cases S:∃f∈M,f.2=e.2;obtain⟨f,d,ax⟩:=S;have:=xB h.vb (N f d) i ax;subst this;have hc:=(z n).2 ⟨f,d,C,R⟩;exact⟨_,ad,by rw[<-B,(p f d).1];exact Q,hc.1,hc.2⟩;exact⟨e,a0 e i λf d G=>S ⟨f,d,G⟩,B,C,R⟩;rintro⟨e,i,B,C,R⟩;rcases l e i with⟨J,F⟩|rfl;exact⟨e,J,B,C,R⟩;obtain⟨f,d,J,F⟩:=(z n).1 ⟨C,R⟩;exact⟨f,N f d,by rw[(p f d).1,<-B];exact Q.symm,J,F⟩;rw[U_]at d;rcases Ah.1 d with d|d;obtain⟨s,hs⟩:=ar f (mK.1 d).1;exact⟨s,v hs⟩;rw[Ax]at d;subst d;exact⟨r,u⟩
 ·have Z:=(Nl q).filter λe=>e.1.2.2.1==m;have a3:=hc m;by_cases hl:m=lo
  ·subst hl;have I:=jE _ ((r,a.2.2.2.2)::((D8 a).filter λe=>e.1.2.2.1==m).filter (notM M)) Z λx w=>by obtain⟨x0,E⟩:=BG.1 w;rcases l x x0 with⟨T,x2⟩|rfl;refine As.2 (.inr (BG.2 ⟨BG.2 ⟨T,E⟩,?_⟩));unfold notM;simp only[WW,List.any_eq_false,J!];exact x2;exact As.2 (.inl rfl)
   have a5:=oA (notM M) ((D8 a).filter λe=>e.1.2.2.1==m);have h1:M[1]?=D (M[1]' o!):=Au o!;have m1:=BP h1;have a7:2<=(((D8 a).filter λe=>e.1.2.2.1==m).filter λx=>!notM M x).length:=by
    have H:∀e∈M,e∈((D8 a).filter λe=>e.1.2.2.1==m).filter λx=>!notM M x:=λe i=>by refine BG.2 ⟨BG.2 ⟨N e i,by rw[(p e i).1];exact L! _⟩,?_⟩;unfold notM;rw[Bool.not_not];exact YS.2 ⟨e,i,L! _⟩
    refine ACY (H K m0) (H _ m1) λG=>?_;have a1:=X_.next 0 K _ h0 h1
    have:=(p K m0).2.2;rw[<-G]at a1;omega
   rw[BW]at I;omega
  have I:=jE _ ((D8 a).filter λe=>e.1.2.2.1==m) Z λx w=>by obtain⟨x0,E⟩:=BG.1 w;rcases l x x0 with⟨T,x2⟩|rfl;exact BG.2 ⟨T,E⟩;exact O! (eq_of_beq E) λG=>hl (G.symm.trans Q)
  omega
def Vx(v1:E AS×E Y×E Bool)(i n:V):E NE:=((v1.1.zip v1.2.1).drop i).take n
def xl{a}{i n k:V}{e:NE}(b:k<n):(Vx a i n)[k]?=D e↔a.1[i+k]?=D e.1/\a.2.1[i+k]?=D e.2:=by grind[Vx]
def AGT{x:AJ×Y}{a:E AS×E Y×E Bool}{i n j:V}{f:Ap}{z:AJ}{w:E Ap×E Y×Y×Y×Y}(hn:x.2=n)(o:n<=8)(t:Z a.2.1=Z a.1)(p:i+n<=Z a.1)(m:Z a.1<=4096)(h:x.1.2.2.1[j]?=D f):An (Ak (PJ x a ((i:Y),z) ((j:Y),w)) (X,(i:Y))) λr=>r=(Vx a i n).any λe=>e.2==f.2.1:=by
 have l:(Vx a i n).length=n:=by grind[Vx,r?,List.length_drop,List.length_zip]
 refine CV (λs=>∃k:V,s=(((Vx a i n).take k).any (·.2==f.2.1),((i+k:V):Y))/\k<=n) (i+n-·.2.toNat) ⟨0,k!,BS _⟩ ?_;rintro s ⟨k,rfl,q⟩;unfold PJ;dsimp only;rw[hn,Aa (x:=(i:Y)+(n:Y)),Aa (x:=((i+k:V):Y)+1)];refine AC (λg=>?_) (λg=>k? q!);have b:k<n:=o!
 have d:a.2.1[i+k]?=D (a.2.1[i+k]' o!):=Au o!;refine AM (λc=>y! ⟨k+1,?_,b⟩ q!) (λc=>?_);grind
 ·rw[(by unfold ix;rw[C! o!,s?,d]:ix a.2.1 ((i+k:V):Y)=D (a.2.1[i+k]' o!)),p?,(by unfold ix;rw[C! o!,s?,h]:ix x.1.2.2.1 (j:Y)=D f),p?];refine y! ⟨k+1,?_,b⟩ o!
  rw[(by rw[Ca,((xl (e:=(a.1[i+k]' o!,a.2.1[i+k]' o!)) b).2 ⟨Au o!,d⟩)];rfl:(Vx a i n).take (k+1)=(Vx a i n).take k++[(a.1[i+k]' o!,a.2.1[i+k]' o!)]),List.any_append,c,Bool.false_or];refine Di ?_ q!;dsimp only;rw[List.any_cons,List.any_nil,Bool.or_false]
def AGS{x:AJ×Y}{a:E AS×E Y×E Bool}{i n:V}{z:AJ}(hn:x.2=n)(g:n<=8)(o:Z a.2.1=Z a.1)(l:i+n<=Z a.1)(f:Z a.1<=4096)(u:Z x.1.2.2.1<=256):An (Ak (PH x a ((i:Y),z)) (0,[],x.1.1,x.1.2.1,x.1.2.2.2)) λr=>r=(aT (Vx a i n) x.1.2.2.1,x.1.1,x.1.2.1,x.1.2.2.2):=by
 refine CV (λq=>∃j:V,q=((j:Y),aT (Vx a i n) (x.1.2.2.1.take j),x.1.1,x.1.2.1,x.1.2.2.2)/\j<=Z x.1.2.2.1) (Z x.1.2.2.1-·.1.toNat) ⟨0,rfl,BS _⟩ ?_;rintro q ⟨j,rfl,v⟩;unfold PH;simp only[S];rw[Aa];refine AC (λk=>?_) (λk=>k? q!);have d:x.1.2.2.1[j]?=D (x.1.2.2.1[j]' o!):=Au o!;have m:ix x.1.2.2.1 (j:Y)=D (x.1.2.2.1[j]' o!):=by unfold ix;rw[C! o!,s?,d]
 refine AA (AGT hn g o l f d) λc e=>?_;have p:aT (Vx a i n) (x.1.2.2.1.take (j+1))=aT (Vx a i n) (x.1.2.2.1.take j)++(if c=A then []else [x.1.2.2.1[j]' o!]):=by grind[List.take_add_one,Option.toList_some,aT]
 refine AA (P:=λt=>t=(aT (Vx a i n) (x.1.2.2.1.take (j+1)),x.1.1,x.1.2.1,x.1.2.2.2)) ?_ λs b=>?_;refine AP (λh=>?_) (λh=>AB ?_);grind[aT,Vx,Nat.le_trans,List.length_filter_le,r?,AA,Ac,AB];grind
 ·rw[b];exact y! ⟨j+1,q!,o!⟩ q!
def AH3(L:E EN)(x:AJ×Y)(r:AJ×Bool×Y):Prop:=
 (x.1.2.2.2.2<=1073741824->r.2.2=0)/\(r.2.2=0->(r.2.1=X/\r.1=x.1)\/(r.2.1=A/\AR L r.1/\jH x.1 r.1/\(AG x.1->AG r.1)/\(∀c,RC x.1 c->RC r.1 c)/\r.1.1=x.1.1/\r.1.2.1=x.1.2.1/\r.1.2.2.2.1=x.1.2.2.2.1/\r.1.2.2.2.2=x.1.2.2.2.2+1/\Z r.1.2.2.1+1<=Z x.1.2.2.1/\x.1.2.2.2.2<=1073741824))
def AIe{L:List EN}{x:AJ×Int}(hL:Uq L)(h:AR L x.1)(hf:2<=x.2/\x.2<=8):An (Nc x) (AH3 L x):=by
 have hs:=h.sa;have⟨n,hn⟩:=Et (show 0<=x.2 by omega);have v:θ x.1.2.2.1<=256:=by have:=h.vb.2.2.2.2.2.1;omega
 have ao:=h.vb.2.2.2.1;unfold Nc;have⟨v0,X_,Y⟩:=NC (x:=x.1);have ad:=Y.2 h.vb;subst ad;rw[X_,AD,CE,A!,F! o!,A!,F! o!,A!];refine AA (AEG h) λa q=>?_;have⟨⟨t1,t2,t3,t4⟩,hw⟩:=q;have w:∀e∈D8 x.1,VR e.1/\∀y∈e.1.2.2.2.2.2,y∈L:=λe A_=>by have⟨f,_,g,_,g2,_⟩:=h.mem A_;exact⟨g.2.2.1,λy hy=>((g2.mem y).1 hy).1⟩
 refine AA (P:=λr=>(∃z,r=.inr z)\/∃u,r=.inl u/\AH3 L x (u.2.2,u.1,u.2.1)) ?_ λr hr=>?_
 ·refine CV (λ(s:Int×AJ)=>0<=s.1/\s.1<=θ a.1) (λ(s:Int×AJ)=>((θ a.1:Int)-s.1).toNat) ⟨Ag _,d!⟩ (λs hI=>?_);have⟨i',z⟩:=s;have⟨G,i2⟩:=hI;dsimp only at G i2;obtain⟨i,rfl⟩:=Et G;unfold Um;dsimp only;rw[Aa (x:=(i:Int)+1),Aa (x:=(i:Int)+x.2)];refine AC (λhc=>?_) (λ_=>An.done (.inl ⟨_,rfl⟩));simp[len]at hc;refine AA (Bd G) λj h3=>AA (Bd G) λv4 h4=>?_;have l3:=h3.2;have l4:=h4.2;have o:∀k,k<n->j[k]?=a.1[i+k]? :=λk c=>by grind[Int.toNat_natCast]
  have I:∀k,k<n->v4[k]?=a.2.2[i+k]? :=λk c=>by grind[Int.toNat_natCast]
  have C:∀{k:Nat}{r:AS},j[k]?=δ r->k<n:=λ{k r} c=>by have:=Ce c;omega
  have whole:∀(k:Nat)(r:AS),j[k]?=δ r->v4[k]?=δ ζ->∃id,a.2.1[i+k]?=δ id/\(r,id)∈D8 x.1:=λk r q h2=>by have c:=C q;rw[o k c]at q;rw[I k c]at h2;have ar:=Ce q;have m:a.2.1[i+k]?=δ (a.2.1[i+k]' o!):=Au o!;refine⟨_,m,?_⟩;refine hw ((r,a.2.1[i+k]' o!),ζ) ?_ rfl;refine Eo.2 ⟨i+k,?_⟩;rw[wF,wF];exact⟨⟨q,m⟩,h2⟩
  have V:θ j=n:=o!
  have M:j[0]?=δ (j[0]' o!):=Au o!;have N:j[θ j-1]?=δ (j[θ j-1]' o!):=Au o!;generalize j[0]' o!=r0 at M;generalize j[θ j-1]' o!=rn at N;refine AA (AG9 (x:=(j,v4)) hL (λk r l d=>?_) d! d! M N) λv5 h5=>?_;have⟨id,_,t⟩:=whole k r l d;exact w _ t;refine AP (λ_=>An.next d! d!) (λW=>?_);have⟨w1,lv,es,E,H,w4⟩:=h5 W;dsimp only at H w4;refine AC (λal=>An.done (.inr ⟨_,rfl,λhh=>O! hh o!,λhz=>O! (show(21:Int)=0 from hz) g!⟩)) (λax=>?_);have hi:i+n<=θ a.1:=o!
  have T:(Vx a i n).length=n:=by unfold Vx;rw[List.length_take,List.length_drop,List.length_zip];omega
  have b:∀(k:Nat)(e:NE),(Vx a i n)[k]?=δ e->k<n/\j[k]?=δ e.1/\a.2.1[i+k]?=δ e.2:=λk e c=>by
   have p:k<n:=q!
   have:=(xl p).1 c;exact⟨p,by rw[o k p];exact this.1,this.2⟩
  have F:∀e∈Vx a i n,e∈D8 x.1:=λe A_=>by have⟨k,c⟩:=Eo.1 A_;have⟨k1,B,k3⟩:=b k e c;have⟨l,_⟩:=H k o!;have⟨id,d,t⟩:=whole k e.1 B l;rw[k3]at d;injection d with d;rw[<-d]at t;exact t
  have R:Grp (Vx a i n) r0.2.2.1 r0.2.2.2.1:=by refine⟨λk e c=>?_,λk e f c hf=>?_⟩;have⟨k1,B,k3⟩:=b k e c;have⟨_,r,l,d,t,_⟩:=H k o!;dsimp only at l;rw[B]at l;cases l;exact⟨d,t,(w e (F e (BP c))).1.1.2.1⟩;have⟨k1,B,k3⟩:=b k e c;have⟨f1,f2,f3⟩:=b (k+1) f hf;have⟨_,r,l,_,_,d⟩:=H (k+1) o!;dsimp only at l d;rw[f2]at l;cases l;exact d o! e.1 (by rw[nS];exact B)
  have J:(Vx a i n)[0]?=δ ((Vx a i n)[0]' o!):=Au o!;have K:(Vx a i n)[(Vx a i n).length-1]?=δ ((Vx a i n)[(Vx a i n).length-1]' o!):=Au o!;generalize (Vx a i n)[0]' o!=m0 at J;generalize (Vx a i n)[(Vx a i n).length-1]' o!=mn at K;have S:m0.1=r0:=by have:=(b 0 m0 J).2.1;rw[M]at this;exact(BL this).symm
  have U_:mn.1=rn:=by have:=(b _ mn K).2.1;rw[T,<-V,N]at this;exact(BL this).symm
  refine AA (AGS hn o! t1 hi o! v) λa0 O=>?_;subst O;rw[rL w1,AD];dsimp only;have ap:=zV h F R o!;refine AA (Ac w!) λa1 Q=>?_;rw[Aa (x:=x.1.2.2.2.2+1),Q.1];have Z:=AFC (s:=Ns v5.1) h F R o! o!;have key:=vo (r:=v5.1) hL h F R o! J K w1 (by rw[E,S]) (by rw[E,U_]) (by rw[E]) (by rw[E]) (λy=>by rw[E];dsimp only;rw[w4];constructor;rintro⟨k,r,l,d⟩;have c:=C l;have D_:=l;rw[o k c]at D_;have m:a.2.1[i+k]?=δ (a.2.1[i+k]' o!):=Au o!;exact⟨(r,_),BP ((xl (e:=(r,a.2.1[i+k]' o!)) c).2 ⟨D_,m⟩),d⟩;rintro⟨e,A_,d⟩;have⟨k,c⟩:=Eo.1 A_;exact⟨k,e.1,(b k e c).2.1,d⟩) rfl Z;refine An.done (.inr ⟨_,rfl,λ_=>rfl,λ_=>.inr ⟨rfl,key.1,key.2.1,key.2.2.1,key.2.2.2,rfl,rfl,rfl,rfl,?_,o!⟩⟩);dsimp only;rw[AV,BW,Be];omega
 rcases hr with⟨z,rfl⟩|⟨u,rfl,hu⟩;exact A3 (AB ⟨λ_=>rfl,λ_=>.inl ⟨rfl,rfl⟩⟩);exact BC (AB hu)
def jH.refl(a:AJ):jH a a:=λ_ _=>Iff.rfl
def jH.trans{a b c}(h:jH a b)(g:jH b c):jH a c:=λd n=>(h d n).trans (g d n)
def AIo{L:List EN}{x:AJ×Int}{m:Int}(z:Uq L)(h:AR L x.1)(B:2<=x.2/\x.2<=8)(C:SF x.1 m)(D_:m<=1073741824):An (J7 x) λr=>r.2=0/\AR L r.1/\jH x.1 r.1/\(AG x.1->AG r.1)/\(∀c,RC x.1 c->RC r.1 c)/\SF r.1 m/\r.1.1=x.1.1/\r.1.2.1=x.1.2.1/\r.1.2.2.2.1=x.1.2.2.2.1:=by
 unfold J7;refine AA (P:=λr=>r.1=0/\AR L r.2/\jH x.1 r.2/\(AG x.1->AG r.2)/\(∀c,RC x.1 c->RC r.2 c)/\SF r.2 m/\r.2.1=x.1.1/\r.2.2.1=x.1.2.1/\r.2.2.2.2.1=x.1.2.2.2.1) ?_ λr hr=>AB hr;refine CV (λ(s:AJ×AJ)=>AR L s.1/\jH x.1 s.1/\(AG x.1->AG s.1)/\(∀c,RC x.1 c->RC s.1 c)/\SF s.1 m/\s.1.1=x.1.1/\s.1.2.1=x.1.2.1/\s.1.2.2.2.1=x.1.2.2.2.1) (λs=>θ s.1.2.2.1) ⟨h,jH.refl _,id,λ_=>id,C,rfl,rfl,rfl⟩ (λs y=>?_);obtain⟨f,g,n,o,i,j,k,l⟩:=y;unfold Un;refine AA (AIe (x:=(s.1,x.2)) z f B) λM w=>?_;obtain⟨E,F⟩:=w;have b:s.1.2.2.2.2<=1073741824:=by unfold SF at i;omega
 have e:=E b;refine AK (λA_=>O! e A_) (λ_=>?_);rcases F e with⟨d,p⟩|⟨d,p,q,I,J,t,u,v,G,H,K⟩
 ·rw[d,pq,B!];exact An.done ⟨rfl,f,g,n,o,i,j,k,l⟩
 ·rw[d,CE,A!];dsimp only at q t u v G H;exact An.next ⟨p,g.trans q,λa=>I (n a),λc a=>J c (o c a),by unfold SF at*;dsimp only;omega,t.trans j,u.trans k,v.trans l⟩ d!
def ABc{b:UInt8}{n:Y}(a:0<=n)(e:n<255):Ew ([ι .u8 (((π ((κ 8 (b.toNat:Y))^^^(κ 8 (ι .u8 (wi (1+n)))))):V):Y)]:E Y)=[UInt8.ofNat (BitVec.ofNat 8 b.toNat^^^BitVec.ofNat 8 (1+n).toNat).toNat]/\b≠UInt8.ofNat (BitVec.ofNat 8 b.toNat^^^BitVec.ofNat 8 (1+n).toNat).toNat:=by obtain⟨m,rfl⟩:=Et a;rw[(by grind[Aa]:wi (1+(m:Y))=((1+m:V):Y)),(by rw[AHz];omega:ι .u8 ((1+m:V):Y)=((1+m:V):Y)),(by omega:(1+(m:Y)).toNat=1+m),cQ,cQ];refine⟨?_,λd=>?_⟩;rw[(by rw[AHz];omega:ι .u8 (((BitVec.ofNat 8 b.toNat^^^BitVec.ofNat 8 (1+m)).toNat:V):Y)=(((BitVec.ofNat 8 b.toNat^^^BitVec.ofNat 8 (1+m)).toNat:V):Y))];rfl;have c:=E! UInt8.toNat d;rw[fm,Ts o!]at c;have f:=E! (BitVec.ofNat 8 b.toNat^^^ ·) (by grind:BitVec.ofNat 8 b.toNat=BitVec.ofNat 8 b.toNat^^^BitVec.ofNat 8 (1+m));grind[BitVec.xor_assoc,BitVec.xor_self,BitVec.zero_xor]
def yh{b}{s:Bc}(h:CX b)(C:Z s≠0)(D_:Z s<=1099511627775):An (GY b s) λr=>CX r.2/\rN s r.1/\Z r.1<=Z s+1:=by
 unfold GY;simp only[S];refine AQ (O! · o!) (λ_=>AA (AW h o!) λG m=>?_);have⟨l,k0,k1⟩:=m;have⟨k,t⟩:=Et k0;refine AA (AW l g!) λH e=>?_;rw[t,Aa];have u:k<Z s:=o!
 have a:s=s.take k++s[k]::s.drop (k+1):=t!
 have i:SH s 0 (k:Y)=D (s.take k):=by grind[SH]
 have j:SH s ((k:Y)+1) (Z s:Y)=D (s.drop (k+1)):=by unfold SH;grind[List.take_of_length_le]
 have E:(s.take k).length=k:=q!
 have F:(s.drop (k+1)).length=Z s-(k+1):=DO;refine AQ (λ_=>?_) (λ_=>?_);rw[i,AD,j,AD];refine AA (CR o!) λI o=>AB ⟨e.1,.less _ _ _ a o.1,q!⟩;refine AQ (λ_=>?_) (λ_=>?_);refine AA (AW e.1 g!) λB p=>AA (CR (by rw[ND];simp;omega)) λJ q=>AB ⟨p.1,?_,?_⟩;exact .more s [] (UInt8.ofNat (ι .u8 B.1).toNat) (DR s).symm (by rw[q.1];rfl);grind[ND,List.length_cons,List.length_nil];rw[i,AD];have f:six s (k:Y)=D ((s[k].toNat:V):Y):=by grind[six,s?,m?]
 rw[f,AD,j,AD];refine AA (AW e.1 g!) λy c=>?_;have⟨w,x⟩:=ABc (b:=s[k]) c.2.1 o!;rw[w];refine AA (CR w!) λz d=>?_;have g:=d.2;simp[BW,Be]at g;refine AA (CR o!) λA_ n=>AB ⟨c.1,.other _ _ _ _ x a ?_,q!⟩;grind[t?]
theorem AAP{a:AJ}{b:AL}(y:AG a)(h:CX b)(I:a.2.2.1.length<=1000000):An (EF b a.2.2.1) λr=>CX r.2/\ ∀f∈r.1,f∈a.2.2.1\/Bad f:=by
 unfold EF;generalize B:a.2.2.1=x at*;refine AQ (λ_=>AB ⟨h,λf v=>by simp at v⟩) (λg=>?_);simp only[len]at g;refine AA (AW h (by grind)) λC p=>?_;have⟨n,c,o⟩:=p;simp[len]at o;rw[Aa (x:=C.1+1) (by omega)];refine AA (AW n (by decide)) λJ q=>AQ (λ_=>?_) (λ_=>?_)
 ·refine AA (Bd (Ag _) c (by omega)) λK F=>AA (Bd (by omega) (by grind) (by grind)) λL G=>?_;grind[AA,Ac,List.length_nil,AB]
 ·refine AA (Ac (by simp;omega)) λM u=>?_;have j:=u.1;rw[Bt]at j;subst j;refine AA (AI c (by omega)) λN _=>AA (AI c (by omega)) λm H=>?_;have⟨r,hr⟩:=y m (by grind);have A_:=hr.size;have i:m.2.2.length≠0:=by rw[hr.2.1];grind[Ns,List.length_append,DY]
  refine AA (yh q.1 i (by omega)) λO k=>AA (AI c (by omega)) λD_ _=>AA (AI c (by omega)) λE t=>AB ⟨k.1,λf e=>?_⟩;rcases Ph e with w|w
  ·grind
  ·refine .inr ?_;rw[w];refine⟨by grind,λs z l=>?_⟩;dsimp only at l;have d:=k.2.1;rw[l,hr.2.1]at d;exact AFK hr.2.2.1.wr z d
def ACj{L}{a}{b}{m}(h:AR L a)(p:AG a)(k:CX b)(J:SF a m):An (EF b a.2.2.1) λr=>CX r.2/\AR L (a.1,a.2.1,r.1,a.2.2.2)/\(∀c,RC a c->RC (a.1,a.2.1,r.1,a.2.2.2) c)/\SF (a.1,a.2.1,r.1,a.2.2.2) m:=by
 obtain⟨B,C,D_,E,F,K,G⟩:=id h.vb;refine((ACk G k o! h.sa.2.2).and (AAP p k o!)).mono λr hr=>?_;obtain⟨⟨H,M,I,N⟩,_,u⟩:=hr;have i:VB (a.1,a.2.1,r.1,a.2.2.2):=⟨B,C,D_,E,F,d!,I⟩
 have g:∀e∈D8 (a.1,a.2.1,r.1,a.2.2.2),e∈D8 a:=λe o=>by unfold D8 at o;obtain⟨f,d,j⟩:=Pg.1 o;rcases u f d with d|d;obtain⟨s,q⟩:=p f d;have n:Good (a.1,a.2.1,r.1,a.2.2.2) f s:=q.congr rfl rfl;rw[n.intR i.1]at j;injection j with j;subst j;exact Qj h.vb.1 d q;rw[d.intR i.1]at j;cases j
 refine⟨H,⟨i,λf d=>?_,λx l y v=>h.dis x (g x l) y (g y v)⟩,λc k t=>?_,by unfold SF at*;dsimp only;omega⟩;rotate_left;exact C5 (jE _ ((D8 a).filter λe=>e.1.2.2.1==t) ((Nl i).filter _) λx l=>BG.2 ⟨g x (BG.1 l).1,(BG.1 l).2⟩) (k t);rcases u f d with d|d;exact(h.files f d).imp id λ⟨s,w,z,A_⟩=>⟨s,w.congr rfl rfl,z,A_⟩
 exact .inl d
def AD9{L}{x:Y×E Y}(h:BD x.1 x.2):An (I3 x) λr=>AR L r.1/\AG r.1/\RC r.1 0/\SF r.1 1/\r.1.2.1=x.1/\r.1.2.2.2.1=1:=by
 have a:An (I3 x) λr=>r.2=0->r.1.2.2.1=[]/\r.1.2.2.2.2=1:=by refine AA na λo b=>AP (λj=>AB λm=>?_) (λ_=>?_);grind;have l:=h.2.2.2.1;grind[AA,Ac,AB]
 refine((AIc h).and a).mono λr hr=>?_;have⟨⟨b,c,d,g⟩,i⟩:=hr;refine⟨⟨c,λf a=>?_,λe k=>?_⟩,λf a=>?_,λn=>?_,?_,d,g⟩;grind;grind[D8];grind;grind[D8];unfold SF;grind
def AX(L:E EN)(n d m:Y)(a:AJ):Prop:=AR L a/\AG a/\(∃c:V,RC a c/\100*(c:Y)<=m+99)/\SF a m/\a.2.1=n/\a.2.2.2.1<=d+1/\(HS L->AF a)
def AX.step{n m}{a}{l}{c:Y}(p:Dc l)(h:AX l.2.1 n l.2.2 m a):An (E7 (a,l,c)) λr=>r.2=0->AX l.2.1 n l.2.2 (m+100) r.1:=by have⟨d,e,⟨k,j,o⟩,f,g,y,i⟩:=h;refine(AGV (x:=(a,l,c)) d p f).mono λr hr q=>?_;have⟨s,t,w,z,u,A_,v⟩:=hr q;exact⟨s,t e,⟨k+1,w k j,o!⟩,by unfold SF at*;omega,u.trans g,q!,λb=>v b (i b)⟩
def AX.mono{L}{n d m k:Y}{a}(h:AX L n d m a)(o:m<=k):AX L n d k a:=by have⟨b,e,⟨c,i,j⟩,l,f,g⟩:=h;exact⟨b,e,⟨c,i,o!⟩,by unfold SF at*;omega,f,g⟩
def AX.tidy{L}{n d m}{a}{c:Y}(p:Uq L)(h:AX L n d m a)(u:m<=1073741824)(s:2<=c/\c<=8):An (J7 (a,c)) λr=>AX L n d m r.1:=by have⟨g,i,⟨k,t,b⟩,j,l,G,o⟩:=h;refine(AIo (x:=(a,c)) p g s j u).mono λr hr=>?_;have⟨H,y,z,A_,F,B,C,D_,E⟩:=hr;exact⟨y,A_ i,⟨k,F k t,b⟩,B,D_.trans l,q!,λq f e n v w=>(z f n).1 (o q f (C▸e) n v (E▸w))⟩
def AAK{b}{x:Int×Ad}(h:CX b)(C:1<=x.1/\x.1<=64)(e:Dc x.2):An (Px b x) λr=>CX r.2/\AX x.2.2.1 x.1 x.2.2.2 901 r.1:=by
 have T:=e.1;have U_:=e.2.2.2.1;refine AA (ACg h C) λv0 m=>AA (AD9 (L:=x.2.2.1) m.2) λI v=>?_;have⟨D_,E,H,F,G,s5⟩:=v;have A_:AX x.2.2.1 x.1 x.2.2.2 1 I.1:=⟨D_,E,⟨0,H,g!⟩,F,G,o!,λ_ lo _ n n1 n2=>o!⟩
 refine AA (AW m.1 g!) λv2 w=>?_;have⟨t,u,S⟩:=w;refine AA (P:=λr=>CX r.1/\AX x.2.2.1 x.1 x.2.2.2 801 r.2) ?_ λK c=>AA (AW c.1 g!) λM f=>AA (P:=λa=>AX x.2.2.1 x.1 x.2.2.2 901 a) (AM (λ_=>AA (c.2.step e) λN g=>AA (P:=λa=>AX x.2.2.1 x.1 x.2.2.2 901 a) (AQ (λk=>AB ((g k).mono g!)) (y? (c.2.mono g!))) λO i=>AB i) (y? (c.2.mono g!))) λQ j=>AB ⟨f.1,j⟩;refine CV (λs=>0<=s.1/\s.1<=8/\CX s.2.1/\AX x.2.2.1 x.1 x.2.2.2 (801-100*s.1) s.2.2) (·.1.toNat) ⟨u,q!,t,A_.mono q!⟩ (λs B=>?_);have⟨Y,Z,q,l⟩:=B;unfold SS;rw[(Aa (x:=s.1-1))];refine AC (λX_=>AA (AW q g!) λv4 y=>AA (l.step e) λv5 z=>AA (P:=λa=>AX x.2.2.1 x.1 x.2.2.2 (801-100*(s.1-1)) a) (AQ (λk=>AB ((z k).mono o!)) (y? (l.mono o!))) λv6 o=>AA (AW y.1 g!) λv7 p=>?_) (λ_=>k? ⟨q,l.mono o!⟩);refine AA (P:=λr=>CX r.1/\AX x.2.2.1 x.1 x.2.2.2 (801-100*(s.1-1)) r.2) ?_ λJ d=>y! ⟨q!,q!,d.1,d.2⟩ q!
 refine AM (λ_=>AA (AW p.1 g!) λR V=>?_) (y? ⟨p.1,o⟩);rw[Aa (x:=2+R.1)];refine AA (o.tidy e.uq o! o!) λv9 W=>?_;grind[AA,AQ,AB]
def AEE{n p:Int}{l:List Int}(h:BD n l):An (J9 (l,p)) λr=>0<=r.1/\r.1<=θ l/\(∀(i:Nat)(v:Int),(i:Int)<r.1->l[i]?=δ v->v<p)/\(∀(i:Nat)(v:Int),r.1<=(i:Int)->l[i]?=δ v->p<=v)/\(r.2=ζ->l[r.1.toNat]?=δ p)/\(r.2=η->∀v,l[r.1.toNat]?=δ v->p<v):=by
 have t:=h.2.2.2.1;refine AA (P:=λ(r:Int)=>0<=r/\r<=θ l/\(∀(i:Nat)(v:Int),(i:Int)<r->l[i]?=δ v->v<p)/\∀(i:Nat)(v:Int),r<=(i:Int)->l[i]?=δ v->p<=v) ?_ λJ u=>?_
 ·refine CV (λ(s:Int×Int)=>0<=s.1/\s.1<=s.2/\s.2<=θ l/\(∀(i:Nat)(v:Int),(i:Int)<s.1->l[i]?=δ v->v<p)/\∀(i:Nat)(v:Int),s.2<=(i:Int)->l[i]?=δ v->p<=v) (λ(s:Int×Int)=>(s.2-s.1).toNat) ⟨Ag _,q!,q!,λi v e=>q!,λi v e b=>q!⟩ (λs y=>?_);have⟨o,G,C,D_,E⟩:=y;unfold Ni;rw[AA3 o];refine AC (λa=>?_) (λa=>An.done ?_)
  ·refine AA (AI o! q!) λF g=>AA Wg λH k=>?_;rw[(Aa (x:=(s.1+s.2)/2+1))];refine AA (P:=λ(q:Int×Int)=>(0<=q.1/\q.1<=q.2/\q.2<=(θ l:Int)/\(∀(i:Nat)(v:Int),(i:Int)<q.1->l[i]?=δ v->v<p)/\∀(i:Nat)(v:Int),q.2<=(i:Int)->l[i]?=δ v->p<=v)/\(q.2-q.1).toNat<(s.2-s.1).toNat) ?_ λI m=>An.next m.1 m.2
   refine AM (λB=>AB ⟨⟨q!,q!,C,λi v e b=>?_,E⟩,q!⟩) (λz=>AB ⟨⟨o,o!,o!,D_,λi v e b=>?_⟩,o!⟩);have f:=k.1 B;have:=h.le (i:=i) (j:=((s.1+s.2)/2).toNat) o! b g.1;omega;have f:¬F<p:=λq=>by have:=k.2 q;rw[z]at this;cases this
   have:=h.le (i:=((s.1+s.2)/2).toNat) (j:=i) o! g.1 b;omega
  grind
 have⟨a1,a2,a3,a4⟩:=u;refine AC (λa=>?_) (λa=>AB ⟨a1,a2,a3,a4,λc=>(by cases c),λ_ v b=>?_⟩);simp[len]at a;refine AA (AI a1 a) λK w=>AQ (λd=>AB ⟨a1,a2,a3,a4,λ_=>by dsimp only;rw[w.1,d],λc=>(by cases c)⟩) (λA_=>AA (AI a1 a) λL _=>AM (λc=>?_) (λ_=>AB ⟨a1,a2,a3,a4,λc=>(by cases c),λ_ v b=>?_⟩));grind;grind;grind
def Yf(a:AJ)(p lo hi:Y):Prop:=∃i:V,a.1[i]?=D lo/\hi=qe a i/\lo<=p/\p<=hi
def xM{a}{p:Y}(h:VB a)(z:0<=p/\p<a.2.1):∃b d,GI (a,p)=D (b,d,A)/\Yf a p b d:=by
 have key:An (GI (a,p)) λr=>r.2.2=A/\Yf a p r.1 r.2.1:=by
  unfold GI;dsimp only;refine AA (Gl h) λG m=>?_;rw[m,CE,A!,F! o!,A!,F! o!,A!];refine AA (AEE h.1) λc n=>?_;have⟨D_,E,v,F,k,x⟩:=n;have q:=h.1.2.2.2.1;refine AA (P:=λl:Y=>∃(i:V)(b:Y),l=i/\a.1[i]?=D b/\b<=p/\∀w,a.1[i+1]?=D w->p<w) ?_ λl s=>?_;refine AP (λt=>AB ?_) (λf=>AB ?_);have e:0<c.1:=by refine Qe λy=>?_;have:=x t 0 (by rw[show c.1.toNat=0 by omega];exact h.1.2.2.2.2.1);omega
  rw[Aa];refine⟨c.1.toNat-1,a.1[c.1.toNat-1],o!,Au o!,?_,λw g=>?_⟩;have:=v (c.1.toNat-1) _ o! (Au o!);omega;grind;refine⟨c.1.toNat,p,o!,k f,Ag _,λw g=>?_⟩;exact h.1.lt 0 c.1.toNat p w (k f) g;obtain⟨i,b,rfl,j,u,A_⟩:=s;rw[yl h.1 j,AD];refine AB ⟨rfl,i,j,rfl,u,?_⟩;grind[qe]
 have⟨⟨b,d,o⟩,k1,B,C⟩:=key;grind
def Yf.uniq{a b:AJ}{p l1 l2 f g}(h:BD a.2.1 a.1)(d:b.1=a.1)(e:b.2.1=a.2.1)(m:Yf a p l1 f)(n:Yf b p l2 g):l1=l2:=by
 obtain⟨i,s,t,u,v⟩:=m;obtain⟨j,w,z,A,B⟩:=n;have o:qe b j=qe a j:=by unfold qe;rw[d,e]
 have key:∀{i j:V}{x y:Y},a.1[i]?=D x->a.1[j]?=D y->i<j->qe a i<y:=λ{i j x y} q c k=>by have r:=Ce c;have l:a.1[i+1]?=D (a.1[i+1]' o!):=Au o!;have:=h.le (by omega:i+1<=j) l c;unfold qe;grind
 grind
def ya(P:Y->Prop)(j fl:Y):Prop:=0<=fl/\fl<=j/\(∀n,fl<n->n<=j->P n)/\(fl=0\/¬P fl)
def ya.uniq{P Q:Y->Prop}{j r s}(h:∀n,P n↔Q n)(hr:ya P j r)(a:ya Q j s):r=s:=by obtain⟨b,c,d,e⟩:=hr;obtain⟨f,g,i,k⟩:=a;grind
structure Ye(L:List EN)(l:Ad):Prop where
 vl:Dc l
 sorted:L.Pairwise λx y=>x.1<y.1
 tail:∀e,e∈l.2.1↔e∈L/\l.1<=e.1/\e.1<=l.1+l.2.1.length-1
 len:L.length<=4096
def AIa{B}{L}{a}{l}{p i j:Y}(q:CP B)(D:B≤16777216)(v:j-i≤B)(t:0≤i)(F:i≤j)(E:j≤1099511627776)(h:AR L a)(w:Ye L l)(y:0≤p∧p<a.2.1):
  ∃o t d,Yf a p o t/\ya (uF a l o) j d/\Qy (a,l,p,i,j)=δ (τ (d<=i))/\An (EQ (a,l,p,i,j)) λr=>(d>i/\r=([],42))\/(d<=i/\((Uz i (L.filter (GG p i j))/\r=(L.filter (GG p i j),0))\/(¬Uz i (L.filter (GG p i j))/\r=([],13)))):=by
 obtain⟨o,u,x,n⟩:=xM h.vb y;obtain⟨k,k1,G,H,I⟩:=id n;obtain⟨d,z,C,A⟩:=AIZ q D v t F E h.vb h.ds w.vl y x rfl w.sorted w.tail (λe s=>by
  obtain⟨f,_,_,_,g,_⟩:=h.mem s;exact g) h.dis (λe s m=>by
  obtain⟨f,_,g,_⟩:=h.mem s;have c:e.1.2.2.1=o:=m;have b:=g.2.2.2;rw[c]at b;have:=b.uniq h.vb.1 ⟨k,k1,G⟩;exact⟨H,o!⟩)
 exact⟨o,u,d,n,z,C,A⟩
def Dc.sorted{l}(h:Dc l):l.2.1.Pairwise λx y=>x.1<y.1:=by have⟨l1,l2,a,b,c,d⟩:=h;rw[FA];grind
def Xd{l}(h:Dc l):Ye l.2.1 l:=⟨h,h.sorted,λe=>⟨λa=>⟨a,by have⟨k,b⟩:=Eo.1 a;have:=(h.2.2.2.2.2 k e b).1;have:=Ce b;omega⟩,λa=>a.1⟩,h.2.2.1⟩
def AJt{l}{f:Y}(h:Dc l)(n:l.2.2=l.1+Z l.2.1-1)(i:l.1<=f)(j:f<=l.2.2+1)(m:f<=1099511627776):An (Ky (l,f)) λr=>Ye l.2.1 r.1/\r.1.1=f/\r.1.2.2=l.2.2:=by
 have o:An (Ky (l,f)) λr=>r.2=0->r.1=(f,l.2.1.drop (f-l.1).toNat,l.2.2):=by have⟨a1,a2,a3,a4,a5,a6⟩:=id h;refine AA BZ λv t=>AP (y? λa=>O! (show(26:Y)=0 from a) g!) (λ_=>?_);refine AC (y? λa=>O! (show(1:Y)=0 from a) g!) (λ_=>?_);refine AC (y? λa=>O! (show(1:Y)=0 from a) g!) (λ_=>?_);refine AC (y? λa=>O! (show(1:Y)=0 from a) g!) (λ_=>?_);refine AC (y? λa=>O! (show(15:Y)=0 from a) g!) (λ_=>?_);grind[Aa,AA,Bd,Ac,AB,List.take_of_length_le]
 refine((jj (x:=(l,f)) h n i j m).and o).mono λr hr=>?_;have⟨⟨c,q,s⟩,d⟩:=hr;refine⟨⟨q,h.sorted,λe=>?_,h.2.2.1⟩,s,by rw[(d c)]⟩;rw[(d c)];have⟨l1,l2,u,w,y,p⟩:=h;rw[Eo,Eo];constructor;grind;rintro⟨⟨k,b⟩,g,_⟩;have:=(p _ e b).1;exact⟨k-(f-l.1).toNat,by rw[KJ,show(f-l.1).toNat+(k-(f-l.1).toNat)=k by omega];exact b⟩
def xU{p i j}{e}:GG p i j e=(dr p e&&(τ (e.1>i)&&τ (e.1<=j))):=by unfold GG dr fU;grind
def Uz.snoc{i}{s}{e:EN}(h:Uz i s)(m:s=[]->e.2.2.2.2.1<=i)(n:∀f,s[Z s-1]?=D f->e.2.2.2.2.1=f.1):Uz i (s++[e]):=by
 intro k g b;rcases A1 k (Z s)with d|d;rw[Cb d]at b;refine⟨(h k g b).1,λf a c=>(h k g b).2 f a ?_⟩;grind;have o:=Ce b;rw[AV,tX]at o;have l:k=Z s:=o!
 subst l;have j:e=g:=q!
 subst j;refine⟨λp=>m (Eu p),λf a c=>n f ?_⟩;rwa[Cb o!]at c
def wK{n p i j:Y}{L}(H:LI n L)(I:L.Pairwise λx y=>x.1<y.1)(J:0≤i):∀m:V,m≤Z L→
  Uz i ((L.take m).filter (GG p i j))/\((∀f∈L.take m,f.1<=j)->((L.take m).filter (GG p i j)=[]->Bn (L.take m) p<=i)/\∀f,((L.take m).filter (GG p i j))[((L.take m).filter (GG p i j)).length-1]?=D f->Bn (L.take m) p=f.1)
 |0,_=>by rw[List.take_zero];exact⟨λk e G=>by simp at G,λ_=>⟨λ_=>J,λf a=>by simp at a⟩⟩
 |m+1,hm=>by
  obtain⟨E,F⟩:=wK (j:=j) H I J m o!;have d:m<Z L:=o!
  have B:L.take (m+1)=L.take m++[L[m]]:=by rw[Ca,Au d];rfl
  have l:∀f∈L.take m,f.1<L[m].1:=λf a=>by obtain⟨k,w⟩:=Dk a;have z:=Ce w;rw[BU]at z;rw[KK o!,Au o!]at w;rw[<-BL w];exact FA.1 I k m o! d o!
  have A_:=H m _ (Au d);rw[B,Gx];generalize K:L.take m=M at*;generalize L[m]=e at*;by_cases t:GG p i j e=A;have g:=t;rw[xU]at g;simp only[BQ,K!]at g;obtain⟨s,O,P⟩:=g;have q:e.2.2.2.2.2.2.1.1=p/\(e.2.1=1\/e.2.1=2):=by unfold dr at s;simp only[BQ,WX,J!]at s;exact⟨s.2,s.1⟩
  obtain⟨C,D_⟩:=F λf a=>by have:=l f a;omega
  have b:=A_.1 q.2;rw[q.1]at b;rw[wE t,lq];refine⟨E.snoc (λh=>by rw[b.1];exact C h) (λf a=>by rw[b.1];exact D_ f a),λ_=>⟨λh=>by simp at h,λf a=>?_⟩⟩;rw[QG,C! s];have:e=f:=by simpa using a
  rw[this];rw[wD t,lq,DR];refine⟨E,λc=>?_⟩;have G:=c e k!;obtain⟨C,D_⟩:=F λf a=>c f (F4 _ a);rw[QG];by_cases u:dr p e=A;have v:e.1<=i:=by refine Qe λN=>t ?_;rw[xU,u];simp;omega
  have o:M.filter (GG p i j)=[]:=List.filter_eq_nil_iff.2 λf a r=>by rw[xU]at r;simp only[BQ,K!]at r;have:=l f a;omega
  rw[C! u,o];exact⟨λ_=>v,λf a=>by simp at a⟩;rw[D! u];exact⟨C,D_⟩
def ACz{n p i j:Y}{L}(a:LI n L)(b:L.Pairwise λx y=>x.1<y.1)(c:0<=i):Uz i (L.filter (GG p i j)):=by have:=(wK (p:=p) (j:=j) a b c (Z L) (Ao _)).1;grind
def AD2{B}{n}{L}{a}{l}{p i j:Y}(f:CP B)(v:B≤16777216)(x:LI n L)(g:j-i≤B)(c:0≤i)(y:i≤j)(w:j≤1099511627776)(h:AR L a)(m:Ye L l)(z:0≤p∧p<a.2.1):
  ∃d c b,Yf a p d c/\ya (uF a l d) j b/\Qy (a,l,p,i,j)=D (τ (b<=i))/\((b>i/\EQ (a,l,p,i,j)=D ([],42))\/(b<=i/\EQ (a,l,p,i,j)=D (L.filter (GG p i j),0))):=by
 obtain⟨d,u,b,A_,s,t,r,q,C⟩:=AIa f v g c y w h m z;refine⟨d,u,b,A_,s,t,?_⟩;rcases C with⟨k,e⟩|⟨k,⟨e,o⟩|⟨e,o⟩⟩;exact .inl ⟨k,by rw[q,e]⟩;exact .inr ⟨k,by rw[q,o]⟩;exact O! (ACz x m.sorted c) e
def Src(L:E EN)(p:Y)(rs:E AS):Prop:=Z rs<=256/\∀r∈rs,VR r/\Yg L r/\r.2.2.1<=p/\p<=r.2.2.2.1
def AHd{a:AJ}{l:Ad}{p i j:Y}:An (Hf (a,l,p,i,j)) λr=>r=0->0<=p/\p<a.2.1/\0<=i/\i<=j:=by refine AA Kl λk g=>AP (y? n!) (λ_=>AA BZ λm h=>AP (y? n!) (λ_=>AC (y? n!) (λc=>AC (y? n!) (λd=>AC (y? n!) (λe=>AC (y? n!) (λf=>AB λ_=>?_))))));dsimp only at c d e f;omega
def AIg{a:AJ}{p:Int}(h:VB a)(o:0<=p/\p<a.2.1):An (Rp (a,p)) λr=>∃k:Nat,a.1[k]?=δ r.1/\r.1<=p/\p<=qe a k:=by
 have i:=h.1.2.2.2.1;have w:=h.1.2.2.1;refine AA NC λB g=>AP (λc=>O! (g.2 h) (by simp[c])) (λ_=>?_);dsimp only;rw[F! o!,A!,F! o!,A!];refine AA (P:=λk:Int=>∃m:Nat,k=m/\∃b,a.1[m]?=δ b/\b<=p/\p<=qe a m) ?_ λk n=>?_
 ·refine CV (λ(s:Int)=>0<=s/\s<θ a.1/\∃b,a.1[s.toNat]?=δ b/\b<=p) (λs=>((θ a.1:Int)-s).toNat) ⟨Ag _,o!,0,h.1.2.2.2.2.1,o.1⟩ (λs j=>?_);have⟨x,y,b,e,f⟩:=j;unfold Uk;dsimp[len];rw[Aa];refine AC (λc=>AA (AI o! c) λv q=>?_) (λc=>An.done ⟨s.toNat,o!,b,e,f,?_⟩)
  ·have u:(s+1).toNat=s.toNat+1:=o!
   refine AC (λd=>An.next ⟨o!,o!,v,q.1,d⟩ o!) (λl=>An.done ⟨s.toNat,o!,b,e,f,?_⟩);grind[qe]
  grind[qe,List.getElem?_eq_none]
 obtain⟨m,rfl,b,t,z,A_⟩:=n;rw[oO h.1 t,AD];grind[AB]
def AHc{a}{l}{p i j:Y}(c:VB a)(e:Dc l)(f:0<=p/\p<a.2.1)(d:0<=i)(b:i<=j):Hf (a,l,p,i,j)=D 0:=by grind[An,Hf,AA,NC,AP,BZ,AB]
def vP{L:List EN}{a:AJ}{l:Ad}{p:Int}(h:AR L a)(F:0<=p/\p<a.2.1):An (Jv (a,l,p)) λr=>∃(M:List NE)(v D_:Int),Yf a p v D_/\r=(M.map (·.1),M.map (·.2),l)/\M.Pairwise Beh/\(∀e,e∈M↔e∈D8 a/\e.1.2.2.1=v)/\Src L p (M.map (·.1)):=by
 refine AA (AIg h.vb F) λc A_=>AA (AIl h) λv1 B=>?_;have⟨k,k1,t,u⟩:=A_;dsimp only at k1 t u;obtain⟨W,rfl,O,Q,w⟩:=B;have X_:(W.map (·.1)).length=θ W:=BX _;refine AA (P:=λr=>r=((W.filter λe=>e.1.2.2.1==c.1).map (·.1),(W.filter λe=>e.1.2.2.1==c.1).map (·.2),l)) ?_ λr hr=>AB ⟨W.filter λe=>e.1.2.2.1==c.1,c.1,qe a k,⟨k,k1,rfl,t,u⟩,hr,?_,?_,?_⟩
 ·refine CV (λ(s:Int×List AS×List Int×Ad)=>∃k:Nat,s.1=k/\k<=θ W/\s.2=(((W.take k).filter λe=>e.1.2.2.1==c.1).map (·.1),((W.take k).filter λe=>e.1.2.2.1==c.1).map (·.2),l)) (λs=>((θ W:Int)-s.1).toNat) ⟨0,rfl,BS _,rfl⟩ ?_;rintro⟨_,_⟩ ⟨k,rfl,V,rfl⟩;unfold Q5;dsimp[len];rw[Aa (x:=(k:Int)+1)];refine AC (λC=>?_) (λC=>An.done (by rw[BN o!]));have d:k<θ W:=o!
  have j:ix (W.map (·.1)) (k:Int)=δ W[k].1:=by unfold ix;rw[C! o!,Int.toNat_natCast,List.getElem?_map,List.getElem?_eq_getElem d];rfl
  have m:ix (W.map (·.2)) (k:Int)=δ W[k].2:=by unfold ix;rw[C! o!,Int.toNat_natCast,List.getElem?_map,List.getElem?_eq_getElem d];rfl
  have H:W.take (k+1)=W.take k++[W[k]]:=by grind[List.take_add_one,List.getElem?_eq_getElem]
  have Y:=EP (λe:NE=>e.1.2.2.1==c.1) (W.take k);have Z:=WP k W;rw[j,AD];refine AA (P:=λr=>r=(((W.take (k+1)).filter λe=>e.1.2.2.1==c.1).map (·.1),((W.take (k+1)).filter λe=>e.1.2.2.1==c.1).map (·.2),l)) (AQ (λo=>?_) (λE=>AB ?_)) λr hr=>An.next ⟨k+1,rfl,d,hr⟩ d!
  rw[AD,m,AD];refine AA (Ac w!) λv6 T=>AA (Ac w!) λv7 U_=>AB ?_;grind;grind
 apply (O.filter _).imp_of_mem;intro x y I J n;have R:=eq_of_beq (BG.1 I).2;have S:=eq_of_beq (BG.1 J).2;rcases n with q|⟨_,q⟩;omega;exact q;intro e;rw[BG,w e,J!];refine⟨by rw[BX];exact C5 (EP _ _) Q,λq G=>?_⟩;obtain⟨e,o,rfl⟩:=BY.1 G;have⟨K,N⟩:=BG.1 o;have⟨f,_,g,_,z,_⟩:=h.mem ((w e).1 K);have i:=eq_of_beq N;have b:=g.2.2.2;rw[i]at b;have:=b.uniq h.vb.1 ⟨k,k1,rfl⟩;exact⟨g.2.2.1,z,o!⟩
def V6(rs:E AS)(l:Ad)(m:Y):Prop:=(∃r∈rs,r.1<=m/\m<=r.2.1)\/(l.1<=m/\m<=l.1+Z l.2.1-1)
def xn{l}{m:Y}(h:Dc l):JT (l,m)=D (τ (l.1<=m/\m<=l.1+Z l.2.1-1)):=by have a:=h.1;have b:=h.2.1;have d:=h.2.2.1;unfold JT;dsimp[S];rw[Aa];by_cases c:l.1<=m<;>grind
theorem AFJ{L:List EN}{p m:Int}{a:List AS}{F:List Int}{l:Ad}(h:Src L p a)(y:Dc l)(hm:0<=m/\m<=2199023255552):An (Rs ((a,F,l),m)) λv=>m-1<=v/\v<=2199023255552/\(∀q,m<=q->q<=v->V6 a l q)/\(v=m-1->¬V6 a l m):=by
 have Z:=y.1;have h2:=y.2.1;have h3:=y.2.2.1;refine AA (P:=λv=>m-1<=v/\v<=2199023255552/\(∀q,m<=q->q<=v->V6 a l q)/\∀r∈a,r.1<=m->m<=r.2.1->m<=v) ?_ λv5 N=>?_
 ·refine CV (λ(s:Int×Int)=>0<=s.2/\s.2<=θ a/\m-1<=s.1/\s.1<=2199023255552/\(∀q,m<=q->q<=s.1->V6 a l q)/\∀r∈a.take s.2.toNat,r.1<=m->m<=r.2.1->m<=s.1) (λs=>((θ a:Int)-s.2).toNat) ⟨Ag _,d!,by dsimp only;rw[Aa];omega,by dsimp only;rw[Aa];omega,λq G f=>by dsimp only at f;rw[Aa]at f;omega,λr hr=>by simp at hr⟩ ?_;rintro⟨b,k⟩ ⟨z,T,j,n,o,E⟩;dsimp only at z T j n o E;have S:=h.1;unfold Uo;dsimp[len];refine AC (λw=>?_) (λw=>An.done ⟨j,n,o,by rw[BN o!]at E;exact E⟩);rw[Aa (x:=k+1)];refine AA (AI z w) λt e=>?_;have Y:a.take (k+1).toNat=a.take k.toNat++[t]:=by rw[show(k+1).toNat=k.toNat+1 by omega,Ca,e.1];rfl
  have hr:=(h.2 t e.2).1.1;have keep:∀u,b<=u->(t.1<=m->m<=t.2.1->m<=u)->∀r∈a.take (k+1).toNat,r.1<=m->m<=r.2.1->m<=u:=λu hb D_ r R G f=>by grind[List.mem_singleton]
  refine AC (λQ=>?_) (λC=>An.next ⟨d!,d!,j,n,o,keep b (Ag _) λq=>O! q C⟩ d!);refine AA (AI z w) λH A_=>?_;have K:H=t:=by grind[Option.some.inj]
  subst K;refine AA (P:=λv=>m-1<=v/\v<=2199023255552/\(∀q,m<=q->q<=v->V6 a l q)/\b<=v/\(m<=H.2.1->m<=v)) ?_ λX_ c=>An.next ⟨d!,d!,c.1,c.2.1,c.2.2.1,keep X_ c.2.2.2.1 λ_=>c.2.2.2.2⟩ d!
  refine AC (λi=>AA (AI z w) λJ B=>AB ?_) (λi=>AB ⟨j,n,o,Ag _,λq=>O! q i⟩);have M:J=H:=by grind[Option.some.inj]
  subst M;have I:=hr.2.2.1;split;exact⟨o!,o!,λq G f=>.inl ⟨J,e.2,o!,f⟩,o!,id⟩;exact⟨j,n,o,Ag _,λq=>o!⟩
 rw[xn y,AD];dsimp[len];have⟨e,A_,B,c⟩:=N;refine AA (P:=λv=>m-1<=v/\v<=2199023255552/\(∀q,m<=q->q<=v->V6 a l q)/\(v=m-1->¬V6 a l m)) ?_ λv7 O=>AB O;refine AC (λg=>AB ?_) (λg=>AB ⟨e,A_,B,λD_ d=>?_⟩);rw[Aa (x:=l.1+θ l.2.1),Aa];split;exact⟨o!,o!,λq G f=>.inr o!,λD_=>o!⟩;exact⟨e,A_,B,λD_=>o!⟩;rcases d with⟨r,U_,V,W⟩|d;have:=c r U_ V W;omega;exact g d
def AC5{L}{p i j:Y}{a}{c:E Y}{l}(h:Src L p a)(t:Dc l)(n:0<=i)(o:j<=1099511627776)(k:i<=j):An (Km ((a,c,l),i,j)) λb=>b=A↔∀q,i<q->q<=j->V6 a l q:=by
 refine AA (P:=λr=>(r=.inl X/\∃q,i<q/\q<=j/\¬V6 a l q)\/(r=.inr ()/\∀q,i<q->q<=j->V6 a l q)) ?_ λr hr=>?_
 ·refine CV (λs=>i<=s/\s<=2199023255552/\∀q,i<q->q<=s->V6 a l q) (λs=>(j-s).toNat) ⟨Ag _,d!,λq d e=>by dsimp only at e;omega⟩ (λs f=>?_);have⟨u,v,m⟩:=f;unfold L7;dsimp only;refine AC (λg=>?_) (λg=>k? (.inr ⟨rfl,λq d e=>m q d o!⟩));grind[Aa,AA,AFJ,AQ,k?,y!]
 grind[BC,AB,A3]
def AB0{a:AJ}{l}{d:Y}{M:E NE}(h:∀e,e∈M↔e∈D8 a/\e.1.2.2.1=d)(m:Y):V6 (M.map (·.1)) l m↔uF a l d m:=by constructor;rintro(⟨r,i,j⟩|q);obtain⟨e,g,rfl⟩:=BY.1 i;have⟨b,c⟩:=(h e).1 g;exact .inr ⟨e,b,c,j⟩;exact .inl q;rintro(q|⟨e,b,c,f⟩);exact .inr q;exact .inl ⟨e.1,Kr ((h e).2 ⟨b,c⟩),f⟩
def AI5{P:Y->Prop}{i j a:Y}(h:ya P j a)(k:0<=i):(∀q,i<q->q<=j->P q)↔a<=i:=by have⟨g,b,c,d⟩:=h;refine⟨λq=>Qe λe=>?_,λq n l f=>c n o! f⟩;rcases d with w|w;omega;exact w (q a o! b)
def z7{r:AS}{p:Int}(h:VR r):An (QD (r,p)) λv=>v=r.2.2.2.2.2.filter λe=>e.2.2.2.2.2.2.1.1==p:=by have m:=h.1.2.2.2.2.2.2.2.2;refine AA YR λn f=>AP (λa=>O! (f.2 h) (by simp[a])) (λ_=>AA (P:=λv=>v=r.2.2.2.2.2.filter λe=>e.2.2.2.2.2.2.1.1==p) ?_ λv j=>AB j);refine CV (λ(s:Int×List EN)=>0<=s.1/\s.1<=θ r.2.2.2.2.2/\s.2=(r.2.2.2.2.2.take s.1.toNat).filter λe=>e.2.2.2.2.2.2.1.1==p) (λs=>((θ r.2.2.2.2.2:Int)-s.1).toNat) ⟨Ag _,d!,k!⟩ ?_;rintro⟨s,A_⟩ ⟨b,k,d⟩;dsimp only at b k d;unfold Sg;dsimp[len];refine AC (λa=>?_) (λa=>An.done (by rw[d,BN o!]));refine AA (AI b a) λo g=>?_;have i:=mH (p:=λe:EN=>e.2.2.2.2.2.2.1.1==p) b g.1;have c:=o9 (l:=r.2.2.2.2.2) (p:=λe:EN=>e.2.2.2.2.2.2.1.1==p) b;rw[<-d]at c;rw[Aa];grind[AA,An.next,AQ,AI,Ac,AB,Option.some.inj]
def AAZ{L:List EN}{p i j:Int}{f:List AS}(Z:Uq L)(h:Src L p f):An (Ju (f,p,i,j)) λr=>θ r<=1048576/\∀y,y∈r↔∃q∈f,y∈q.2.2.2.2.2/\y.2.2.2.2.2.2.1.1=p/\i<y.1/\y.1<=j:=by
 have ad:=h.1;refine AA (P:=λr=>θ r<=1048576/\∀y,y∈r↔∃q∈f,y∈q.2.2.2.2.2/\y.2.2.2.2.2.2.1.1=p/\i<y.1/\y.1<=j) ?_ λr hr=>AB hr;refine CV (λ(s:List EN×Int)=>0<=s.2/\s.2<=θ f/\θ s.1<=4096*s.2/\∀y,y∈s.1↔∃q∈f.take s.2.toNat,y∈q.2.2.2.2.2/\y.2.2.2.2.2.2.1.1=p/\i<y.1/\y.1<=j) (λs=>((θ f:Int)-s.2).toNat) ⟨Ag _,d!,k!,λy=>k!⟩ ?_;rintro⟨A_,k⟩ ⟨Q,i1,i2,t⟩;dsimp only at Q i1 i2 t;unfold LM;dsimp[len];refine AC (λO=>?_) (λO=>An.done ⟨o!,λy=>by rw[t y,BN o!]⟩);refine AA (AI Q O) λC M=>?_;have⟨K,W,g3,g4⟩:=h.2 C M.2;have hl:=K.1.2.2.2.2.2.2.2.2;refine AA (z7 K) λc F=>?_;have J:=EP (λe:EN=>e.2.2.2.2.2.2.1.1==p) C.2.2.2.2.2;rw[<-F]at J;have G:∀y∈A_,y∈L:=λy l=>by have⟨q,a,b,_⟩:=(t y).1 l;exact(((h.2 q (EJ a)).2.1.mem y).1 b).1
 have n:∀y∈c,y∈L:=λy l=>by rw[F]at l;exact((W.mem y).1 (BG.1 l).1).1
 refine AA (P:=λr=>θ r<=θ A_+θ c/\∀y,y∈r↔y∈A_\/(y∈c/\i<y.1/\y.1<=j)) ?_ λr hr=>?_
 ·refine CV (λ(s:List EN×Int)=>0<=s.2/\s.2<=θ c/\θ s.1<=θ A_+s.2/\∀y,y∈s.1↔y∈A_\/(y∈c.take s.2.toNat/\i<y.1/\y.1<=j)) (λs=>((θ c:Int)-s.2).toNat) ⟨Ag _,d!,d!,λy=>k!⟩ ?_;rintro⟨B,m⟩ ⟨u,j1,j2,v⟩;dsimp only at u j1 j2 v;unfold LN;dsimp[len];refine AC (λd=>?_) (λd=>An.done ⟨o!,λy=>by rw[v y,BN o!]⟩);refine AA (AI u d) λD_ o=>?_;rw[Aa (x:=m+1)];have E:c.take (m+1).toNat=c.take m.toNat++[D_]:=by rw[show(m+1).toNat=m.toNat+1 by omega,Ca,o.1];rfl
  have g:¬(i<D_.1/\D_.1<=j)->∀y,y∈B↔y∈A_\/(y∈c.take (m+1).toNat/\i<y.1/\y.1<=j):=λhn y=>by grind[List.mem_singleton]
  refine AC (λH=>?_) (λH=>An.next ⟨d!,d!,d!,g λq=>o!⟩ d!);refine AA (AI u d) λS X_=>?_;have U_:S=D_:=by have:=X_.1;rw[o.1]at this;exact(BL this).symm
  subst U_;refine AA (P:=λr=>θ r<=θ B+1/\∀y,y∈r↔y∈A_\/(y∈c.take (m+1).toNat/\i<y.1/\y.1<=j)) ?_ λr hr=>An.next ⟨d!,d!,by have:=hr.1;dsimp only;omega,hr.2⟩ d!
  refine AC (λI=>?_) (λI=>AB ⟨o!,g λq=>o!⟩);refine AA (AI u d) λT Y=>?_;have V:T=S:=by have:=Y.1;rw[o.1]at this;exact(BL this).symm
  subst V;refine AA (oM Z (λy l=>?_) (n T o.2) o!) λv7 N=>AB ⟨N.1,λy=>?_⟩;rcases(v y).1 l with q|q;exact G y q;exact n y (EJ q.1);rw[N.2 y,v y,E,Ah,Ax];constructor;rintro((q|⟨a,b⟩)|q);exact .inl q;exact .inr ⟨.inl a,b⟩;exact .inr ⟨.inr q,by rw[q];omega⟩;rintro(q|⟨a|a,b⟩);exact .inl (.inl q);exact .inl (.inr ⟨a,b⟩);exact .inr a
 ·rw[Aa];refine An.next ⟨d!,d!,by have:=hr.1;dsimp only;omega,λy=>?_⟩ d!
  dsimp only;have E:f.take (k+1).toNat=f.take k.toNat++[C]:=by rw[show(k+1).toNat=k.toNat+1 by omega,Ca,M.1];rfl
  rw[hr.2 y,t y,E,F,BG,J!];constructor;rintro(⟨q,a,b⟩|⟨⟨a,b⟩,z⟩);exact⟨q,F4 _ a,b⟩;exact⟨C,Kq _ (Ax.2 rfl),a,b,z⟩;rintro⟨q,a,b,z,R⟩;rcases Ah.1 a with w|w;exact .inl ⟨q,w,b,z,R⟩;rw[Ax.1 w]at b;exact .inr ⟨⟨b,z⟩,R⟩
def zY{l:Ad}{p i j:Int}(h:Dc l):An (QE (l,p,i,j)) λr=>r=l.2.1.filter (GG p i j):=by
 have B:=h.2.2.1;refine AA (P:=λr=>r=l.2.1.filter (GG p i j)) ?_ λr hr=>AB hr;refine CV (λ(q:Int×List EN)=>0<=q.1/\q.1<=θ l.2.1/\q.2=(l.2.1.take q.1.toNat).filter (GG p i j)) (λq=>((θ l.2.1:Int)-q.1).toNat) ⟨Ag _,d!,k!⟩ (λq y=>?_);have⟨n,C,o⟩:=y;unfold Sj;dsimp[len];refine AC (λt=>?_) (λt=>An.done (by rw[o,BN o!]));refine AA (AI n t) λu v=>?_;have k:=mH (p:=GG p i j) n v.1;have f:=o9 (l:=l.2.1) (p:=GG p i j) n;rw[<-o]at f;rw[Aa (x:=q.1+1)];have m:GG p i j u=η->An (δ (Step.next (q.1+1,q.2)):Option (Step (Int×List EN) (List EN))) (Jj (λ(q:Int×List EN)=>0<=q.1/\q.1<=θ l.2.1/\q.2=(l.2.1.take q.1.toNat).filter (GG p i j)) (λq=>((θ l.2.1:Int)-q.1).toNat) ((θ l.2.1:Int)-q.1).toNat λr=>r=l.2.1.filter (GG p i j)):=λz=>An.next ⟨d!,d!,by dsimp only;rw[k,z,o];simp⟩ d!
 refine AA CA λs w=>?_;have e:fU u=s:=by grind[fU]
 refine AM (λa=>?_) (λa=>m (by unfold GG;rw[e,a];rfl));refine AQ (λc=>?_) (λc=>m (by unfold GG;rw[beq_eq_false_iff_ne.2 c];simp));refine AC (λb=>?_) (λb=>m (by unfold GG;rw[F! b];simp));refine AA (P:=λr=>r=(l.2.1.take (q.1+1).toNat).filter (GG p i j)) ?_ λA_ d=>An.next ⟨d!,d!,d⟩ d!
 refine AC (λg=>?_) (λg=>AB ?_);grind[AA,Ac,AB,GG];grind[GG]
def AEw{a:List AS}{m:Int}(h:θ a<=256):An (LP (a,m)) λ_=>True:=by refine AA (P:=λ_=>True) ?_ λr _=>BA (λu _=>AB trivial) (λu _=>AB trivial);refine CV (λ(s:Int)=>0<=s/\s<=θ a) (λs=>((θ a:Int)-s).toNat) ⟨Ag _,o!⟩ (λs d=>?_);have⟨c,e⟩:=d;unfold M6;dsimp[len];refine AC (λb=>?_) (λ_=>An.done trivial);rw[Aa];refine AA (AI c b) λf _=>AC (λ_=>AA (AI c b) λg _=>AC (λ_=>An.done trivial) (λ_=>An.next o! o!)) (λ_=>An.next o! o!)
def AIA{l:List EN}{e:EN}(h:θ l<=16777216):An (HI (l,e)) λ_=>True:=by refine AA (P:=λ_=>True) ?_ λr _=>BA (λu _=>AB trivial) (λu _=>AB trivial);refine CV (λ(s:Int)=>0<=s/\s<=θ l) (λs=>((θ l:Int)-s).toNat) ⟨Ag _,o!⟩ (λs a=>?_);have⟨c,d⟩:=a;unfold LO;dsimp[len];refine AC (λb=>?_) (λ_=>An.done trivial);rw[Aa];exact AA (AI c b) λf _=>AM (λ_=>An.done trivial) (λ_=>An.next o! o!)
def AGY{L A_ B:List EN}{m:List AS}{l:Ad}(Q:Uq L)(v:Dc l)(N:∀y∈A_,y∈L)(O:∀y∈B,y∈L)(q:θ m<=256)(K:θ A_<=1048576)(M:θ B<=4096):An (Ml (m,l,A_,B)) λr=>r.2=ζ->θ r.1<=1052672/\∀y,y∈r.1↔y∈A_\/y∈B:=by
 refine AA (Ac w!) λz p=>?_;have h:=p.1;rw[Bt]at h;dsimp only at h;subst z;refine AA (P:=λr=>(∃u,r=.inl u/\u.2=η)\/∃C,r=.inr C/\θ C<=θ A_+θ B/\∀y,y∈C↔y∈A_\/y∈B) ?_ λr hr=>?_
 ·refine CV (λ(s:List EN×Int)=>0<=s.2/\s.2<=θ B/\θ s.1<=θ A_+s.2/\∀y,y∈s.1↔y∈A_\/y∈B.take s.2.toNat) (λs=>((θ B:Int)-s.2).toNat) ⟨Ag _,d!,d!,λy=>k!⟩ ?_;rintro⟨C,k⟩ ⟨c,i,w,j⟩;dsimp only at c i w j;unfold OJ;dsimp[len];refine AC (λa=>?_) (λa=>An.done (.inr ⟨C,rfl,o!,λy=>by rw[j y,BN o!]⟩));refine AA (AI c a) λG o=>AA (AEw q) λR _=>?_;rw[Aa (x:=k+1)];have J:B.take (k+1).toNat=B.take k.toNat++[G]:=by rw[show(k+1).toNat=k.toNat+1 by omega,Ca,o.1];rfl
  have f:∀d,B[k.toNat]?=δ d/\d∈B->An (σ (Cc (C,d)) λH=>δ (Step.next (H.1,k+1)):Option (Step (List EN×Int) ((List EN×Bool)⊕List EN))) (Jj (λ(s:List EN×Int)=>0<=s.2/\s.2<=θ B/\θ s.1<=θ A_+s.2/\∀y,y∈s.1↔y∈A_\/y∈B.take s.2.toNat) (λs=>((θ B:Int)-s.2).toNat) ((θ B:Int)-k).toNat λr=>(∃u,r=.inl u/\u.2=η)\/∃C,r=.inr C/\θ C<=θ A_+θ B/\∀y,y∈C↔y∈A_\/y∈B):=λd g=>by grind[Option.some.inj,AA,oM,List.mem_of_mem_take,An.next,List.mem_singleton]
  refine AC (λ_=>AA (AI c a) λS _=>AA (AIA o!) λT _=>AP (λ_=>An.done (.inl ⟨_,rfl,rfl⟩)) (λ_=>AA (AI c a) λd g=>f d g)) (λ_=>AA (AI c a) λd g=>f d g)
 ·rcases hr with⟨u,rfl,b⟩|⟨C,rfl,I,n⟩;exact BC (AB λe=>by rw[b]at e;cases e)
  ·refine A3 (AA (P:=λr=>∀u,r=.inl u->u.2=η) ?_ λr hr=>BA (λu b=>AB λe=>by rw[hr u b]at e;cases e) (λu b=>AB λ_=>⟨d!,n⟩));refine CV (λ(s:Int)=>0<=s/\s<=θ A_) (λs=>((θ A_:Int)-s).toNat) ⟨Ag _,o!⟩ (λs t=>?_);have⟨c,i⟩:=t;unfold OK;dsimp[len];refine AC (λa=>?_) (λ_=>An.done λu b=>by cases b);rw[Aa];refine AA (AI c a) λD_ _=>?_;rw[xn v,AD];exact AC (λ_=>AA (AI c a) λE _=>AA (AIA o!) λF _=>AP (λ_=>An.done λu b=>by cases b;rfl) (λ_=>An.next o! o!)) (λ_=>An.next o! o!)
def vB{s:Bc}{n k:Y}(h:Z s<=1099511627776)(a:1<=k/\k<=8):PQ (s,n,k)=D (s++DB n (ο k)):=by grind[PQ]
theorem yC{n:Y}(h:0<=n/\n<=8000):Lc ([0],n)=D (jt (ο n)):=by unfold Lc;dsimp only;rw[G! h.1,G! h.2];rfl
theorem ABM{n:Y}{k:V}(hn:0<=n)(h:n<256^k)(a:n<9223372036854775808):rd (DB n k)=n:=by unfold rd;grind[tF,Int.emod_eq_of_lt,Aa]
def AHO{b:Bc}{c:Cr}(h:Z b<=1000)(i:Z c.2<=12):Kv b c=D (b++XH c):=by
 suffices e:An (Kv b c) λr=>r=b++XH c by obtain⟨r,hr,rfl⟩:=e;exact hr
 unfold Kv;refine AA (P:=λv=>v=if c.1=A then(Z c.2:Y)else 255) ?_ λj g=>?_;simp_all[AM,AB];rw[vB o! g!,AD];refine AA (CR (by rw[AV,A0];simp[Int.reduceToNat];omega)) λk d=>?_;rw[Aa b!,yC b!,AD];rw[(by simp only[S];omega:(12-S c.2).toNat=12-Z c.2)];refine AA (CR (by rw[d.2,AV,A0];simp[jt,H4,Int.reduceToNat];omega)) λf a=>AB ?_;grind[XH,t?,Int.reduceToNat]
def zp{x:Y}(h:0<=x/\x<64):GJ x=D A:=by grind[GJ]
def ADZ{x}(h:Eb x):Nu x=D A:=by unfold Nu;rw[zp ⟨h.1,h.2.1⟩,AD,G! (show x.2.1>=0 from h.2.2.1),G! h.2.2.2.1];rfl
def AFX{x}(h:Eb x):Pw x=D A:=by
 suffices e:An (Pw x) λr=>r=A by obtain⟨r,hr,rfl⟩:=e;exact hr
 unfold Pw;refine AA (P:=λr=>r=.inr ()) ?_ λr hr=>by rw[hr];exact A3 (AB rfl)
 refine CV (λs=>0<=s/\s<=16) (λs=>(16-s).toNat) ⟨Ag _,g!⟩ (λs d=>?_);have⟨g,k⟩:=d;unfold Xi;refine AC (λa=>?_) (λ_=>k? rfl);have i:An (D (Step.next (wi (s+1))):W (Step Y (Bool⊕Unit))) (Jj (λs=>0<=s/\s<=16) (λs=>(16-s).toNat) (16-s).toNat λr=>r=.inr ()):=by grind[Aa,y!]
 refine AA (Ch g a) λv f=>?_;have b:=h.2.2.2.2 ⟨s.toNat,o!⟩;rw[<-f]at b;refine AC (λa=>O! a (by have:=b.1.1;simp[S];omega)) (λ_=>AP (λc=>?_) (λj=>?_));refine AK (λhn=>O! (b.1.2.resolve_left (by rw[c];decide)) hn) (λ_=>AM (λa=>by rw[c]at a;cases a) (λ_=>i));simp_all[AM,AQ]
def Ut{x}(h:Eb x):Gu x=D (Ij x,0):=by
 suffices c:An (Gu x) λr=>r=(Ij x,0) by obtain⟨r,hr,rfl⟩:=c;exact hr
 unfold Gu;rw[ADZ h,AD,AFX h,AD,CE,A!,A!,vB g! g!,AD,vB (by rw[Bt,A0];decide) g!,AD];refine AA (P:=λr=>r=DB x.2.1 8++(DB x.1 4++Pu x.2.2 16)) ?_ λb g=>?_
 ·refine CV (λs=>0<=s.1/\s.1<=16/\s.2=DB x.2.1 8++(DB x.1 4++Pu x.2.2 s.1.toNat)) (λs=>(16-s.1).toNat) ⟨Ag _,u!,by simp[Pu]⟩ ?_;rintro⟨i,s⟩ ⟨f,m,c⟩;dsimp only at f m c;subst c;unfold eJ;dsimp only;refine AC (λk=>?_) (λk=>k? (by rw[show i.toNat=16 by omega]));have⟨e,o⟩:=nA (a:=x.2.2) (i:=i.toNat) o!;rw[Iz f]at e;rw[e,AD,AHO (by simp[AV,A0,Jd h];omega) (h.cl i.toNat).1,AD,Aa (x:=i+1)];refine y! ⟨d!,d!,?_⟩ d!
  dsimp only;rw[show(i+1).toNat=i.toNat+1 by omega,RU];simp[A2]
 have n:Z b=220:=by grind[n?,A0,Jd]
 rw[show wi (244-S b)=24 by rw[Aa b!];simp[S];omega,yC g!,AD];refine AA (CR (by simp[jt,H4,Int.reduceToNat];omega)) λd j=>?_;rw[(by grind[Ll,t?,Int.reduceToNat]:d=Ll x),yD (by rw[HV h];decide),AD];have l:=aJ (Ll x);rw[Aa,vB (by rw[HV h];decide) g!,AD,vB (by rw[AV,HV h,A0];decide) g!,AD];grind[AB,Ij,t?,Int.reduceToNat]
def uC(a:Ge 16 Cr)(i:V):∀k:V,i<=k->∃r,Pu a k=Pu a i++r
 |0,h=>⟨[],by rw[show i=0 by omega];rfl⟩
 |k+1,h=>by by_cases e:i=k+1;exact⟨[],by rw[e,DR]⟩;obtain⟨r,hr⟩:=uC a i k o!;exact⟨r++XH (cl a k),by rw[RU,hr,A2]⟩
def wQ{x}(h:Eb x){i:V}(a:i<16):∃A_ r,Ij x=A_++(XH (cl x.2.2 i)++r)/\Z A_=12+13*i:=by have⟨r,hr⟩:=uC x.2.2 (i+1) 16 o!;refine⟨DB x.2.1 8++(DB x.1 4++Pu x.2.2 i),r++(jt 24++(DB (QR (Ll x)) 4++DB x.2.1 8)),?_,by simp[AV,A0,Jd h];omega⟩;grind[Ij,Ll,RU,t?]
def ABo{x a:Ge 16 Cr}{i:Y}{c:Cr}(h:∀j:Fin 16,a j=if(j.val:Y)<i then x j else(X,[]))(e:0<=i/\i<16)(d:∀b,x ⟨ο i,b⟩=c):∀j:Fin 16,W6 a i c j=if(j.val:Y)<i+1 then x j else(X,[]):=by grind[W6,Fin.ext]
def yn{x a:Ge 16 Cr}{i:Y}(h:∀j:Fin 16,a j=if(j.val:Y)<i then x j else(X,[]))(d:0<=i/\i<16)(c:∀b,x ⟨ο i,b⟩=(X,[])):∀j:Fin 16,a j=if(j.val:Y)<i+1 then x j else(X,[]):=by grind[Fin.ext]
def yK{a t:Bc}{n k:Y}(h:(Z a:Y)+Z t<=2199023255552)(b:1<=k)(d:k<=8)(e:k<=Z t)(g:t.take (ο k)=DB n (ο k))(hn:0<=n)(f:n<256^ο k)(c:n<9223372036854775808):Fu (a++t,(Z a:Y),k)=D n:=by grind[Fu,YN,p?,ABM]
def AHU{x}(h:Eb x):RZ (Ij x)=D (x,A):=by
 suffices C:An (RZ (Ij x)) λr=>r=(x,A) by obtain⟨r,hr,rfl⟩:=C;exact hr
 have l:=Yz h;have R:=h.1;have U_:=h.2.1;have S:=h.2.2.1;have V:=h.2.2.2.1;have O:Fu (Ij x,8,4)=D x.1:=by have:=yK (a:=DB x.2.1 8) (t:=DB x.1 4++(Pu x.2.2 16++(jt 24++(DB (QR (Ll x)) 4++DB x.2.1 8)))) (n:=x.1) (k:=4) (by simp only[AV,A0,Jd h,jt,H4];omega) g! g! (by simp[AV,A0];omega) (by exact F6 (A0 _ _)) R (by simp[Int.reduceToNat];omega) o!;rw[A0]at this;rw[<-this];simp only[Ij,Ll,A2];rfl
 have Q:Fu (Ij x,0,8)=D x.2.1:=by have:=yK (a:=[]) (t:=Ij x) (n:=x.2.1) (k:=8) (by rw[l];decide) g! g! (by rw[l];decide) VN S (by simp[Int.reduceToNat];omega) o!;exact this
 unfold RZ;rw[O,AD,Q,AD];refine AA (P:=λr=>∃z,r=.inr (x,z)) ?_ λr hr=>by obtain⟨z,rfl⟩:=hr;exact A3 (AB rfl)
 refine CV (λs=>0<=s.1/\s.1<=16/\s.2.1.1=x.1/\s.2.1.2.1=x.2.1/\∀j:Fin 16,s.2.1.2.2 j=if(j.val:Y)<s.1 then x.2.2 j else(X,[])) (λs=>(16-s.1).toNat) ⟨Ag _,u!,rfl,rfl,λj=>by rw[D! d!];rfl⟩ ?_;rintro⟨i,⟨p,n,a⟩,z⟩ ⟨o,N,G,hn,f⟩;dsimp only at o N G hn f;subst G hn;unfold Y0;dsimp only;refine AC (λg=>?_) (λg=>k? ⟨z,?_⟩)
 ·rw[Aa (x:=i*13),Aa (x:=12+i*13),Aa (x:=12+i*13+1),Aa (x:=i+1)];have⟨T,m⟩:=nA (a:=x.2.2) (i:=i.toNat) o!;obtain⟨A_,r,B,K⟩:=wQ h (i:=i.toNat) o!;have b:=h.cl i.toNat
  generalize L:cl x.2.2 i.toNat=c at*;have F:Z A_+(13+Z r)=256:=by have:=l;rw[B,AV,AV,dp b.1]at this;exact this
  have e:Fu (Ij x,12+i*13,1)=D (if c.1=A then(Z c.2:Y)else 255):=by have y:=b.1;have:=yK (a:=A_) (t:=XH c++r) (n:=if c.1=A then(Z c.2:Y)else 255) (k:=1) (by rw[AV,dp b.1];omega) g! g! (by rw[AV,dp b.1];omega) (by unfold XH;rw[t?];exact List.take_left' (A0 _ _)) (by split<;>omega) (by simp[Int.reduceToNat];split<;>omega) (by split<;>omega);rw[<-B]at this;rw[<-this,K];congr 3;omega
  rw[e,AD];have H:∀q:Ge 16 Cr,(∀j:Fin 16,q j=if(j.val:Y)<i+1 then x.2.2 j else(X,[]))->An (D (Step.next (i+1,(x.1,x.2.1,q),z)):W (Step (Y×AT×AT) ((Bool×AT)⊕(AT×AT)))) (Jj (λs=>0<=s.1/\s.1<=16/\s.2.1.1=x.1/\s.2.1.2.1=x.2.1/\∀j:Fin 16,s.2.1.2.2 j=if(j.val:Y)<s.1 then x.2.2 j else(X,[])) (λs=>(16-s.1).toNat) (16-i).toNat λr=>∃z,r=.inr (x,z)):=λq w=>y! ⟨d!,d!,rfl,rfl,w⟩ d!
  by_cases d:c.1=A;rw[C! d];have y:=b.1;rw[beq_eq_false_iff_ne.2 o!,A!,F! o!,A!,Aa];obtain⟨s,C,D_⟩:=Bx (s:=Ij x) (lo:=12+i*13+1) (hi:=12+i*13+1+(Z c.2:Y)) o! o! (by rw[l];omega);have E:s=c.2:=by
   rw[D_.1,B];have I:(12+i*13+1).toNat=Z A_+1:=o!
   have J:(12+i*13+1+(Z c.2:Y)).toNat-(12+i*13+1).toNat=Z c.2:=o!
   rw[J,I,<-Od,Rz];unfold XH;rw[C! d,A2,lm (A0 _ _),A2,Yl]
  rw[C,E,AD];have u:∃v,HF a i=D v:=by obtain⟨v,m,_⟩:=Ch (a:=a) o g;exact⟨v,m⟩
  have⟨v,u⟩:=u;rw[u,AD,AD,AD,Sum.elim_inl];exact H _ (ABo f ⟨o,g⟩ λM=>m.symm.trans (Di d rfl));rw[D! d,beq_iff_eq.2 rfl,B!,AD,Sum.elim_inl];exact H _ (yn f ⟨o,g⟩ λM=>m.symm.trans (Di (by simpa using d) (b.2.resolve_left d)))
 refine E! Sum.inr (Di (Di rfl (Di rfl (funext λj=>?_))) rfl);exact(f j).trans (C! o!)
theorem AB4{x:AT}(h:Eb x)(hn:x.2.1≠0):Ij x≠jt 256:=λe=>hn (by have:=congrArg (List.take 8) e;rw[VN]at this;have a:=h.2.2.1;have b:=h.2.2.2.1;exact YM (k:=8) (by decide) ⟨λ_=>by omega,by omega,by omega⟩ ⟨λ_=>by omega,by omega,by omega⟩ (this.trans (by decide)))
theorem zi:VZ ()=D (jt 256):=by grind[VZ,yC]
theorem ADQ{x}(h:Eb x)(hn:x.2.1≠0):LV (Ij x)=D (x,0):=by
 have b:=Yz h;unfold LV;have⟨r,d,i⟩:=Bx (s:=Ij x) (lo:=0) (hi:=8) g! g! (by rw[b];decide);have⟨p,e,j⟩:=Bx (s:=Ij x) (lo:=248) (hi:=256) g! g! (by rw[b];decide);have⟨q,f,l⟩:=Bx (s:=Ij x) (lo:=0) (hi:=244) g! g! (by rw[b];decide);have m:p=DB x.2.1 8:=by rw[j.1];show List.take 8 (List.drop 248 (Ij x))=_;rw[o8 h,BN (by rw[A0];exact Ao _)]
 have o:q=Ll x:=l.1.trans (by show List.take 244 (Ij x)=_;unfold Ij;exact F6 (HV h));have c:=aJ (Ll x);have g:Fu (Ij x,244,4)=D (QR (Ll x)):=by have:=yK (a:=Ll x) (t:=DB (QR (Ll x)) 4++DB x.2.1 8) (n:=QR (Ll x)) (k:=4) (by simp only[AV,A0,HV h];decide) g! g! (by simp only[AV,A0];decide) (F6 (A0 _ _)) o! (by simp[Int.reduceToNat];omega) o!;rw[HV h]at this;exact this
 rw[(by simp[S];omega:S (Ij x)=256),H!,A!,zi,AD,beq_eq_false_iff_ne.2 (AB4 h hn),A!,d,AD,e,AD,i.1.trans VN,m,H!,A!,f,AD,o,g,AD,yD (by rw[HV h];decide),AD,Aa,H!,A!,AHU h,AD,Ut h,AD,H!,H!];rfl
def dt(x:AT):Bc:=if x.2.1=0 then jt 256 else Ij x
theorem AFQ{x}(h:Eb x)(a:x.2.1=0->x=(x.1,0,Ge.all (X,[]))):Ev (dt x,x.1)=D (x,0):=by unfold Ev dt;rw[zp ⟨h.1,h.2.1⟩,AD,CE,A!];by_cases hn:x.2.1=0;rw[C! hn];rw[(by grind[LV,jt,List.length_replicate,zi,p?]:LV (jt 256)=D ((0,0,Ge.all (X,[])),7)),AD];exact E! (λq=>D (q,(0:Y))) (a hn).symm;grind[ADQ,p?]
def ADX{x:AT×CZ}(a:Pe x.2)(c:x.2.1=x.1.1)(b:HF x.1.2.2 x.2.2.1=D x.2.2.2.1):Lq x=D ((x.1.1,x.1.2.1,W6 x.1.2.2 x.2.2.1 x.2.2.2.2),0):=by grind[An,Lq,W6,AA,Ol,AP,AK,BJ,AB]
def AHV{x}{e}(h:Eb x)(d:KD e)(j:e.2.1=1\/e.2.1=2)(b:e.2.2.2.2.2.2.1.1=x.1)(f:e.2.2.2.2.1=x.2.1)(c:HF x.2.2 e.2.2.2.2.2.2.1.2.1=D e.2.2.2.2.2.2.1.2.2.1):LQ (x,e)=D (upd x e,0):=by
 suffices g:An (LQ (x,e)) λr=>r=(upd x e,0) by obtain⟨r,hr,rfl⟩:=g;exact hr
 have a:Pe e.2.2.2.2.2.2.1:=by grind[KD,SI]
 unfold LQ;refine AA Hs λv i=>AP (λa=>O! (i d) (by simp[a])) (λ_=>?_);rw[Yv,(by grind[fU]:fU e=A),Ut h,AD,CE,A!];refine BJ (AK (O! rfl ·) (λ_=>AK (O! b ·) (λ_=>AK (O! f ·) (λ_=>?_))));rw[ADX a b c];exact BJ (AK (O! rfl ·) (y? rfl))
def AHX{x:AT}{a:List AE}(q:OKs x a)(d:θ a<=4096):PN (x,a)=δ (a.foldl upd x,0):=by
 suffices t:An (PN (x,a)) λr=>r=(a.foldl upd x,0) by obtain⟨r,hr,rfl⟩:=t;exact hr
 generalize v:a.foldl upd x=y;refine AA (P:=λr=>∃z,r=.inr (y,z)) ?_ λr hr=>?_
 ·refine CV (λ(s:Int×AT×AT)=>∃A_ B,a=A_++B/\s.1=θ A_/\OKs s.2.1 B/\B.foldl upd s.2.1=y) (λ(s:Int×AT×AT)=>((θ a:Int)-s.1).toNat) ⟨[],a,rfl,rfl,q,v⟩ ?_;rintro⟨i,x,z⟩ ⟨A_,B,rfl,g,h,c⟩;dsimp only at g h c;subst g;unfold Q7;dsimp[len];rw[AV]at d;refine AC (λb=>?_) (λb=>An.done ?_)
  ·obtain _|⟨e,B⟩:=B;simp at b;have u:ix (A_++e::B) (θ A_:Int)=δ e:=by unfold ix;rw[C! o!,DF,Cu (Ao _),HG];rfl
   have⟨⟨j,f,k,l,m,n⟩,o⟩:=h;have p:e.2.2.2.2.1<e.1:=f.2.2.2.2.2.1;rw[u,AD,F! o!,A!,AHV j f k l m n,AD,Aa (x:=(θ A_:Int)+1)];refine AK (λb=>O! rfl b) (λ_=>An.next ⟨A_++[e],B,k!,k!,o,c⟩ d!)
  obtain _|⟨e,B⟩:=B;exact⟨z,by rw[<-c];rfl⟩;simp at b;omega
 grind[A3,AB]
def ACd{L}(h:HS L){p}{a b:V}(g:a<=b):L.filter (GG p a b)=((L.take b).drop a).filter (dr p):=by
 have j:∀(i:V)(e:AE),L[i]?=D e->GG p a b e=(dr p e&&(τ (a<=i)&&τ (i<b))):=λi e d=>by have:=(h i e d).1;rw[xU,show τ (e.1>(a:Y))=τ (a<=i)from decide_eq_decide.2 o!,show τ (e.1<=(b:Y))=τ (i<b)from decide_eq_decide.2 o!]
 conv=>lhs;rw[<-C4 b L,vT L g]
 rw[Gx,Gx];rw[(List.filter_eq_nil_iff (l:=L.take a)).2 λe d=>by obtain⟨i,c⟩:=Dk d;have f:=Ce c;rw[BU]at f;rw[KK o!]at c;rw[j i e c,F! (show¬a<=i by omega)];simp];rw[(List.filter_eq_nil_iff (l:=L.drop b)).2 λe d=>by obtain⟨i,c⟩:=Dk d;rw[KJ]at c;rw[j _ e c,F! (show¬b+i<b by omega)];simp];rw[Bt,DR];refine List.filter_congr λe d=>?_;obtain⟨i,c⟩:=Dk d;rw[KJ]at c;have f:=Ce c;rw[BU]at f;rw[KK o!]at c;rw[j _ e c,G! (show a<=a+i by omega),G! (show a+i<b by omega)];simp
def Cov(a:AJ)(l:Ad)(k:V):Prop:=∀m:Y,1<=m->m<=k->∀p lo hi,Yf a p lo hi->uF a l lo m
def ABH{a}{l}(h:VB a)(b:Dc l):Q8 (a,l)=D 0:=by obtain⟨v,c,rfl⟩:=Gl h;obtain⟨w,d,rfl⟩:=Il b;grind[Q8,p?,Bool.not_true]
def Ww(x:AT):Ck:=(x.1,x.2.1,dt x)
def IP(L:List EN)(n:Nat):List Ck:=(List.range n).map λ(i:Nat)=>Ww (st L i)
abbrev c!(s:Y)(n:V)(L:List EN)(k:V):=(s,(n:Y),IP (L.take k) n)
theorem Ix(L:E EN)(n:V):(IP L n).length=n:=by grind[IP,List.length_map,List.length_range]
theorem qi{L}{n i:V}(h:i<n):(IP L n)[i]?=D (Ww (st L i)):=by grind[IP,List.getElem?_range]
theorem cF{L}{n:V}{i:Y}(a:0<=i)(h:i<n):ix (IP L n) i=D (Ww (st L i)):=by have⟨v,c,b,_⟩:=AI (l:=IP L n) a (by rw[Ix];exact h);grind[qi,Int.toNat_of_nonneg,Option.some.inj]
def zN(L:E EN)(n:V):IP L (n+1)=IP L n++[Ww (st L n)]:=by grind[IP,List.range_succ]
theorem ACX{L}(h:HS L){p}{k}(a:(st (L.take k) p).2.1=0):st (L.take k) p=(p,0,Ge.all (X,[])):=by rw[KB]at a;exact(mP h (j:=k) (k:=0) (by rw[a];rfl)).trans rfl
def uc{L}(h:HS L)(a:Z L<=1099511627776){p:Y}(b:0<=p/\p<64){k}:Ev (dt (st (L.take k) p),p)=D (st (L.take k) p,0):=by grind[AFQ,X2,ACX,Rw]
theorem pX{L:List EN}(h:HS L)(l:θ L<=1099511627776){s:Int}{n k:Nat}(d:1<=s/\s<=1073741824)(hn:1<=n/\n<=64):Ia (s,(n:Int),IP (L.take k) n)=δ ζ:=by
 suffices d:An (Ia (s,(n:Int),IP (L.take k) n)) λr=>r=ζ by obtain⟨r,hr,rfl⟩:=d;exact hr
 unfold Ia;dsimp only;have c:len (IP (L.take k) n)=n:=by grind[Ix]
 rw[F! o!,A!,F! o!,A!,F! o!,A!,F! o!,A!,c,F! o!,A!];refine AA (P:=λr=>r=.inr ()) ?_ λr hr=>by rw[hr];exact A3 (AB rfl)
 refine CV (λ(s:Int)=>0<=s/\s<=n) (λs=>((n:Int)-s).toNat) ⟨Ag _,o!⟩ (λi j=>?_);have⟨e,o⟩:=j;unfold Wi;dsimp only;rw[c];refine AC (λa=>?_) (λ_=>An.done rfl);have f:An (δ (Step.next (wi (i+1))):Option (Step Int (Bool⊕Unit))) (Jj (λ(s:Int)=>0<=s/\s<=n) (λs=>((n:Int)-s).toNat) ((n:Int)-i).toNat λr=>r=.inr ()):=by grind[Aa,An.next]
 have g:(Ww (st (L.take k) i)).1=i:=Rw _ _;rw[cF e a,AD,g,F! o!,A!];have b:Ev ((Ww (st (L.take k) i)).2.2,i)=δ (st (L.take k) i,0):=uc h l ⟨e,o!⟩;refine AC (λm=>?_) (λ_=>?_);rw[Aa,cF o! o!,AD,show(Ww (st (L.take k) (i-1))).1=i-1 from Rw _ _,F! o!,A!,b,AD];exact AK (λa=>O! rfl a) (λ_=>AK (λa=>O! rfl a) (λ_=>f));rw[b,AD];exact AK (λa=>O! rfl a) (λ_=>AK (λa=>O! rfl a) (λ_=>f))
def ACZ{L}(h:HS L)(a:Z L<=1099511627776){s:Y}{n k:V}(b:1<=s/\s<=1073741824)(hn:1<=n/\n<=64):W5 (c! s n L k)=D A:=by unfold W5;rw[pX h a b hn,AD,B!];dsimp only;rw[(by grind[Ix]:S (IP (L.take k) n)=n),L!]
def AFB{m:Nat}(h:m<=64):J2 (1,(m:Int))=δ (1,(m:Int),IP [] m):=by
 suffices d:An (J2 (1,(m:Int))) λr=>r=(1,(m:Int),IP [] m) by obtain⟨r,hr,rfl⟩:=d;exact hr
 unfold J2;refine AA (P:=λr=>r=(IP [] m,1,(m:Int))) ?_ λr hr=>AB (by rw[hr]);refine CV (λ(t:Int×List Ck×Int×Int)=>0<=t.1/\t.1<=m/\t.2=(IP [] t.1.toNat,1,(m:Int))) (λt=>((m:Int)-t.1).toNat) ⟨Ag _,d!,rfl⟩ ?_;rintro⟨i,t⟩ ⟨b,f,c⟩;dsimp only at b f c;subst c;unfold UY;dsimp only;refine AC (λa=>?_) (λa=>An.done ?_)
 ·rw[sy,AD];refine AA (Ac (by rw[Ix];simp;omega)) λv e=>?_;rw[Aa];refine An.next ⟨d!,d!,?_⟩ d!
  dsimp only;rw[e.1,show(i+1).toNat=i.toNat+1 by omega,zN,Iz b];rfl
 rw[show i.toNat=m by omega]
def AId{L:List EN}{a:AJ}{l:Ad}{p i j:Int}(hN:HS L)(hA:AR L a)(t:Ye L l)(hj:j<=1099511627776):An (EK (a,l,p,i,j)) λr=>r.2=0->r.1=L.filter (GG p i j):=by
 have I:=t.sorted;have hU:Uq L:=λx hx y G O=>Nk (by refine F5.2 ((Pj).2 (I.imp λh=>?_));omega) hx G O;refine AA AHd λv0 h0=>AK (λJ=>AB λo=>O! o J) (λo=>?_);have⟨p0,p1,i0,ij⟩:=h0 o;refine AA (vP hA ⟨p0,p1⟩) λv1 h1=>?_;obtain⟨M,lo,hh,a1,rfl,ar,hM,B⟩:=h1;dsimp only at B;refine AA (AC5 B t.vl i0 hj ij) λv2 h2=>AP (λ_=>AB n!) (λN=>?_);have ao:=h2.1 N;refine AA (AAZ hU B) λv3 Z=>AA (zY t.vl) λv4 h4=>?_;have ad:∀y∈v3,y∈L:=λy G=>by have⟨q,z,A_,_⟩:=(Z.2 y).1 G;exact(((B.2 q z).2.1.mem y).1 A_).1
 have al:∀y∈v4,y∈L:=λy G=>by rw[h4]at G;exact((t.tail y).1 (BG.1 G).1).1
 have C:θ v4<=4096:=by rw[h4];exact C5 (EP _ _) t.vl.2.2.1
 refine AA (AGY hU t.vl ad al B.1 Z.1 C) λc h5=>AP (λ_=>AB n!) (λht=>?_);have⟨u1,u2⟩:=h5 ht;have w:∀y,y∈c.1↔y∈L.filter (GG p i j):=λy=>by rw[u2 y,Z.2 y,h4,BG,BG];constructor;rintro(⟨q,z,A_,q3,q4,q5⟩|⟨z,A_⟩);have:=((B.2 q z).2.1.mem y).1 A_;refine⟨this.1,?_⟩;unfold GG;rw[this.2.1,beq_iff_eq.2 q3,G! (show y.1>i from q4),G! q5];rfl;exact⟨((t.tail y).1 z).1,A_⟩;rintro⟨z,A_⟩;have hw:=A_;unfold GG at hw;simp[BQ,K!,J!]at hw;have⟨w1,w2,w3,w4⟩:=hw;rcases ao y.1 w3 w4 with⟨r,V,r2,r3⟩|⟨V,r2⟩;have⟨_,g2,g3,g4⟩:=B.2 r V;exact .inl ⟨r,V,(g2.mem y).2 ⟨z,w1,o!,o!,r2,r3⟩,w2,w3,w4⟩;exact .inr ⟨(t.tail y).2 ⟨z,V,r2⟩,A_⟩
 refine AA (P:=λr=>(∀u,r=.inl u->u.2=13)/\(r=.inr ()->∀(k:Nat)(e f:EN),c.1[k]?=δ e->c.1[k+1]?=δ f->f.2.2.2.2.1=e.1)) ?_ λr hr=>BA (λu D_=>AB λo=>by rw[hr.1 u D_]at o;cases o) (λu D_=>AB λ_=>?_)
 ·refine CV (λ(s:Int)=>0<=s/\s<=θ c.1/\∀(k:Nat)(e f:EN),(k:Int)+1<s->c.1[k]?=δ e->c.1[k+1]?=δ f->f.2.2.2.2.1=e.1) (λs=>((θ c.1:Int)-s).toNat) ⟨Ag _,o!,λk e f n=>o!⟩ (λs hI=>?_);have⟨s0,s1,s2⟩:=hI;unfold Mk;dsimp[len];have H:∀u:List EN×Int,u=([],13)->(∀v,(Sum.inl u:(List EN×Int)⊕Unit)=.inl v->v.2=13)/\((Sum.inl u:(List EN×Int)⊕Unit)=.inr ()->∀(k:Nat)(e f:EN),c.1[k]?=δ e->c.1[k+1]?=δ f->f.2.2.2.2.1=e.1):=λu D_=>⟨λv hv=>by cases hv;rw[D_],λh=>by cases h⟩
  refine AC (λJ=>?_) (λJ=>An.done ⟨λu D_=>(by cases D_),λ_ k e f n g=>s2 k e f (by have:=Ce g;omega) n g⟩);rw[Aa (x:=s+1)];have S:0<s->An (σ (ix c.1 s) λT=>σ (ix c.1 (wi (s-1))) λU_=>bif (T.2.2.2.2.1 !=U_.1)then δ (.done (.inl ([],13)))else δ (.next (s+1)):Option (Step Int ((List EN×Int)⊕Unit))) (Jj (λ(s:Int)=>0<=s/\s<=θ c.1/\∀(k:Nat)(e f:EN),(k:Int)+1<s->c.1[k]?=δ e->c.1[k+1]?=δ f->f.2.2.2.2.1=e.1) (λs=>((θ c.1:Int)-s).toNat) ((θ c.1:Int)-s).toNat λr=>(∀u,r=.inl u->u.2=13)/\(r=.inr ()->∀(k:Nat)(e f:EN),c.1[k]?=δ e->c.1[k+1]?=δ f->f.2.2.2.2.1=e.1)):=λF=>by
   rw[Aa];refine AA (AI s0 J) λT X_=>AA (AI) λU_ Y=>AK (λ_=>An.done (H _ rfl)) (λO=>An.next ⟨o!,o!,λk e f n Q g=>?_⟩ o!);by_cases ap:(k:Int)+1<s;exact s2 k e f ap Q g;have ek:k+1=s.toNat:=o!
   have W:(s-1).toNat=k:=o!
   rw[ek,X_.1]at g;have:=Y.1;rw[W,Q]at this;rw[<-BL g,BL this];exact O
  apply AQ<;>intro hs
  ·refine AA (AI s0 J) λv7 g7=>AC (λ_=>An.done (H _ rfl)) (λ_=>AC (λF=>O! F o!) (λ_=>An.next ⟨o!,o!,λk e f n=>o!⟩ o!))
  exact AC (λF=>S F) (λF=>O! F o!)
 subst D_;dsimp only;have K:=hr.2 rfl;refine lO ?_ (I.filter _) w;have R:∀e∈c.1,e.2.2.2.2.1<e.1:=λe O=>by have⟨k,n⟩:=Eo.1 (BG.1 ((w e).1 O)).1;exact(hN k e n).2.2.2.2.2.2.1
 have step:∀(d k:Nat)(e f:EN),c.1[k]?=δ e->c.1[k+1+d]?=δ f->e.1<f.1:=by
  intro d;induction d with
  |zero=>intro k e f n E;have:=K k e f n E;have:=R f (BP E);omega
  |succ d ih=>intro k e f n E;have a0:=Ce E;have hg:c.1[k+1+d]?=δ (c.1[k+1+d]' o!):=Au o!;have a:=ih k e _ n hg;have b:=K (k+1+d) _ f hg E;have:=R f (BP E);omega
 rw[FA];intro k m n hm ax;obtain⟨d,rfl⟩:∃d,m=k+1+d:=⟨m-(k+1),o!⟩
 exact step d k _ _ (Au n) (Au hm)
def AED{x:AT}{a:List AE}(q:OKs x a)(d:θ a<=4096):IN (x,a)=δ (a.foldl upd x,0):=by
 suffices t:An (IN (x,a)) λr=>r=(a.foldl upd x,0) by obtain⟨r,hr,rfl⟩:=t;exact hr
 generalize v:a.foldl upd x=y;refine AA (P:=λr=>∃z,r=.inr (y,z)) ?_ λr hr=>?_
 ·refine CV (λ(s:Int×AT×AT)=>∃A_ B,a=A_++B/\s.1=θ A_/\OKs s.2.1 B/\B.foldl upd s.2.1=y) (λ(s:Int×AT×AT)=>((θ a:Int)-s.1).toNat) ⟨[],a,rfl,rfl,q,v⟩ ?_;rintro⟨i,x,z⟩ ⟨A_,B,rfl,g,h,c⟩;dsimp only at g h c;subst g;unfold Kn;dsimp[len];rw[AV]at d;refine AC (λb=>?_) (λb=>An.done ?_)
  ·obtain _|⟨e,B⟩:=B;simp at b;have u:ix (A_++e::B) (θ A_:Int)=δ e:=by unfold ix;rw[C! o!,DF,Cu (Ao _),HG];rfl
   have⟨⟨j,f,k,l,m,n⟩,o⟩:=h;have p:e.2.2.2.2.1<e.1:=f.2.2.2.2.2.1;rw[u,AD,F! o!,A!,AD,ABg j f k l m n,AD,Aa (x:=(θ A_:Int)+1)];refine AK (λb=>O! rfl b) (λ_=>An.next ⟨A_++[e],B,k!,k!,o,c⟩ d!)
  obtain _|⟨e,B⟩:=B;exact⟨z,by rw[<-c];rfl⟩;simp at b;omega
 grind[A3,AB]
def AEB{n}{L}{a}{l}{p:Y}{j k:V}(t:LI n L)(b:HS L)(h:AR L a)(f:Ye L l)(e:j<=k)(v:k<=Z L)(m:0<=p/\p<a.2.1)(d:p<64):An (Gs (st (L.take j) p,a,l,(k:Y))) λr=>r.2=0->r.1=st (L.take k) p:=by have i:=f.len;have w:=YL b p j;have u:=ik (b.take j) p;rw[BU]at u;refine AA NC λx o=>AP (λc=>O! (o.2 h.vb) (by simp[c])) (λ_=>AA BZ λy q=>AP (λc=>O! (q.2 f.vl) (by simp[c])) (λ_=>?_));rw[Yc ((X2 b ⟨m.1,d⟩ (by omega:Z L<=1099511627776)) j),AD];refine AK (O! rfl ·) (λ_=>?_);dsimp only;rw[KB,Rw,F! o!,A!];refine AA (AId b h f o!) λz s=>AK (λc=>AB λg=>O! g c) (λg=>?_);rw[s g,show Bn (L.take j) p=(((Bn (L.take j) p).toNat:V):Y) by omega,ACd b o!,o6 b (j:=j) o! (YX b),AED (xz b t ⟨m.1,d⟩ o! j k e) (by have:=EP (dr p) ((L.take k).drop j);rw[DO,BU]at this;omega),<-mQ e,AD];exact AB λ_=>rfl
def Asc(L:E EN)(p:Y)(l:E EN):Prop:=(l.Pairwise λx y=>x.1<y.1)/\∀x∈l,x∈L/\x.2.2.2.2.2.2.1.1=p
def yZ{L l:List EN}{p:Int}{e:EN}(hL:Uq L)(i:Asc L p l)(Q:e∈L/\e.2.2.2.2.2.2.1.1=p)(h:θ l<=16777000):An (Cc (l,e)) λr=>θ r.1<=θ l+1/\Asc L p r.1/\∀y,y∈r.1↔y∈l\/y=e:=by
 have z:∀v∈l,An (DH (v,e)) λr=>(r<0↔v.1<e.1)/\(r=0↔v.1=e.1):=λv S=>by have R:=(i.2 v S).2.trans Q.2.symm;unfold DH;dsimp only;rw[F! o!,A!,beq_iff_eq.2 R,B!];refine AC (λm=>AB ⟨⟨λ_=>m,λ_=>g!⟩,⟨n!,λq=>o!⟩⟩) λm=>?_;rw[B!];exact AQ (λO=>AB ⟨⟨n!,λq=>o!⟩,⟨λ_=>O,λ_=>rfl⟩⟩) (λO=>AB ⟨⟨n!,λq=>o!⟩,⟨n!,λq=>O! q O⟩⟩)
 unfold Cc;refine AA (P:=λ(v:Int)=>0<=v/\v<=θ l/\(∀x∈l.take v.toNat,x.1<e.1)/\∀x,l[v.toNat]?=δ x->¬x.1<e.1) ?_ λv S=>?_
 ·refine CV (λ(s:Int)=>0<=s/\s<=θ l/\∀x∈l.take s.toNat,x.1<e.1) (λs=>((θ l:Int)-s).toNat) ⟨Ag _,o!,λx d=>by simp at d⟩ (λs hI=>?_);have⟨U_,i1,V⟩:=hI;unfold JH;dsimp[len];refine AC (λo=>?_) (λo=>An.done ⟨U_,i1,V,λx d=>by have:=Ce d;omega⟩);rw[Aa];refine AA (AI U_ o) λK m=>AA (z K m.2) λc f=>AC (λq=>An.next ⟨o!,o!,λx d=>?_⟩ o!) (λq=>An.done ⟨U_,i1,V,λx d=>?_⟩);rw[show(s+1).toNat=s.toNat+1 by omega,Ca,m.1]at d;rcases Ah.1 d with w|w;exact V x w;rw[show x=K by simpa using w];exact f.1.1 q;rw[m.1]at d;rw[<-BL d];exact λw=>q (f.1.2 w)
 have⟨J,K,v2,v3⟩:=S;have ap:∀x∈l.drop v.toNat,¬x.1<e.1:=λx d=>by have⟨k,t⟩:=Eo.1 d;rw[KJ]at t;have G:=Ce t;have h0:l[v.toNat]?=δ (l[v.toNat]' o!):=Au o!;have:=v3 _ h0;obtain _|k:=k;rw[No,h0]at t;rw[<-BL t];exact this;have:=(FA.1 i.1) v.toNat (v.toNat+(k+1)) o! G o!;rw[Au G]at t;rw[<-BL t];omega
 have main:(∀x∈l.drop v.toNat,e.1<x.1)->An (σ (Wp l 0 v) λH=>
  σ (Wp l v (len l)) λI=>
  σ (app [] H) λg=>
  σ (app g ([e]:List (Int×(Int×(Int×(Int×(Int×(Int×((Int×(Int×((Bool×Bc)×(Bool×Bc))))×Bc))))))))) λal=>
  σ (app al I) λao=>
  δ (ao,ζ)) λr=>θ r.1<=θ l+1/\Asc L p r.1/\∀y,y∈r.1↔y∈l\/y=e:=λF=>by
  refine AA (Bd (Ag _) J K) λZ B=>AA (Bd J (by simp[len];omega) i!) λad N=>?_;have ar:=B.2;have W:=N.2;simp[len]at W;refine AA (Ac w!) λH C=>?_;have X_:=C.2.1;simp[Be]at X_;refine AA (Ac w!) λI D_=>?_;have Y:=D_.2.1;simp[Be,BW]at Y;refine AA (Ac o!) λg E=>AB ?_;have ax:=E.2.1;have M:Z=l.take v.toNat:=by rw[B.1];simp
  have A_:g=l.take v.toNat++[e]++l.drop v.toNat:=by rw[E.1,D_.1,C.1,M,(by grind[List.take_of_length_le,List.length_drop]:ad=l.drop v.toNat),Bt]
  dsimp only;have j:∀y,y∈g↔y∈l\/y=e:=λy=>by
   rw[A_];conv=>rhs;rw[<-C4 v.toNat l]
   grind[List.mem_singleton]
  refine⟨o!,⟨?_,λx d=>?_⟩,j⟩;rw[A_,A2,List.pairwise_append];refine⟨i.1.sublist (ff _ _),?_,λx d y hy=>?_⟩;exact List.pairwise_cons.2 ⟨F,i.1.sublist (UH _ _)⟩;have:=v2 x d;rcases As.1 hy with w|w;rw[w];exact this;have:=F y w;omega;rcases(j x).1 d with w|w;exact i.2 x w;rw[w];exact Q
 dsimp[len];refine AC (λo=>?_) (λo=>main λx d=>?_);refine AA (AI J o) λu n=>AA (z u n.2) λc f=>AQ (λT=>?_) (λT=>main λx d=>?_);refine AA (AI J o) λv6 _=>AB ⟨d!,i,λy=>?_⟩;have:u=e:=hL u (i.2 u n.2).1 e Q.1 (f.2.1 T);subst this;exact⟨.inl,λw=>w.elim id λw=>w▸n.2⟩;have a:=v3 _ n.1;have b:¬u.1=e.1:=λw=>T (f.2.2 w);have hd:l.drop v.toNat=u::l.drop (v.toNat+1):=by rw[KH o!];rw[Au o!]at n;rw[BL n.1]
 rw[hd]at d;have hs:=i.1.sublist (UH v.toNat l);rw[hd]at hs;rcases As.1 d with w|w;rw[w];omega;have:=(List.pairwise_cons.1 hs).1 x w;omega;rw[LZ o!]at d;simp at d
def AAY{L:List EN}{p i j:Int}{f:List AS}(hL:Uq L)(h:Src L p f):An (Ju (f,p,i,j)) λr=>θ r<=1048576/\Asc L p r/\∀y,y∈r↔∃q∈f,y∈q.2.2.2.2.2/\y.2.2.2.2.2.2.1.1=p/\i<y.1/\y.1<=j:=by
 have ad:=h.1;refine AA (P:=λr=>θ r<=1048576/\Asc L p r/\∀y,y∈r↔∃q∈f,y∈q.2.2.2.2.2/\y.2.2.2.2.2.2.1.1=p/\i<y.1/\y.1<=j) ?_ λr hr=>AB hr;refine CV (λ(s:List EN×Int)=>0<=s.2/\s.2<=θ f/\θ s.1<=4096*s.2/\Asc L p s.1/\∀y,y∈s.1↔∃q∈f.take s.2.toNat,y∈q.2.2.2.2.2/\y.2.2.2.2.2.2.1.1=p/\i<y.1/\y.1<=j) (λs=>((θ f:Int)-s.2).toNat) ⟨Ag _,d!,k!,⟨List.Pairwise.nil,λx hx=>by simp at hx⟩,λy=>k!⟩ ?_;rintro⟨A_,k⟩ ⟨R,i1,i2,K,J⟩;dsimp only at R i1 i2 K J;unfold LM;dsimp[len];refine AC (λQ=>?_) (λQ=>An.done ⟨o!,K,λy=>by rw[J y,BN o!]⟩);refine AA (AI R Q) λu O=>?_;have⟨N,X_,g3,g4⟩:=h.2 u O.2;have hl:=N.1.2.2.2.2.2.2.2.2;refine AA (z7 N) λc C=>?_;have G:=EP (λe:EN=>e.2.2.2.2.2.2.1.1==p) u.2.2.2.2.2;rw[<-C]at G;have H:∀y∈c,y∈L/\y.2.2.2.2.2.2.1.1=p:=λy I=>by rw[C]at I;exact⟨((X_.mem y).1 (BG.1 I).1).1,eq_of_beq (BG.1 I).2⟩
 refine AA (P:=λr=>θ r<=θ A_+θ c/\Asc L p r/\∀y,y∈r↔y∈A_\/(y∈c/\i<y.1/\y.1<=j)) ?_ λr hr=>?_
 ·refine CV (λ(s:List EN×Int)=>0<=s.2/\s.2<=θ c/\θ s.1<=θ A_+s.2/\Asc L p s.1/\∀y,y∈s.1↔y∈A_\/(y∈c.take s.2.toNat/\i<y.1/\y.1<=j)) (λs=>((θ c:Int)-s.2).toNat) ⟨Ag _,d!,d!,K,λy=>k!⟩ ?_;rintro⟨B,m⟩ ⟨o,j1,j2,l,M⟩;dsimp only at o j1 j2 l M;unfold LN;dsimp[len];refine AC (λd=>?_) (λd=>An.done ⟨o!,l,λy=>by rw[M y,BN o!]⟩);refine AA (AI o d) λv n=>?_;rw[Aa (x:=m+1)];have z:c.take (m+1).toNat=c.take m.toNat++[v]:=by rw[show(m+1).toNat=m.toNat+1 by omega,Ca,n.1];rfl
  have g:¬(i<v.1/\v.1<=j)->∀y,y∈B↔y∈A_\/(y∈c.take (m+1).toNat/\i<y.1/\y.1<=j):=λhn y=>by grind[List.mem_singleton]
  refine AC (λE=>?_) (λE=>An.next ⟨d!,d!,d!,l,g λq=>o!⟩ d!);refine AA (AI o d) λT Y=>?_;have V:T=v:=by have:=Y.1;rw[n.1]at this;exact(BL this).symm
  subst V;refine AA (P:=λr=>θ r<=θ B+1/\Asc L p r/\∀y,y∈r↔y∈A_\/(y∈c.take (m+1).toNat/\i<y.1/\y.1<=j)) ?_ λr hr=>An.next ⟨d!,d!,by have:=hr.1;dsimp only;omega,hr.2⟩ d!
  refine AC (λF=>?_) (λF=>AB ⟨o!,l,g λq=>o!⟩);refine AA (AI o d) λU_ Z=>?_;have W:U_=T:=by have:=Z.1;rw[n.1]at this;exact(BL this).symm
  subst W;refine AA (yZ hL l (H U_ n.2) o!) λv7 D_=>AB ⟨D_.1,D_.2.1,λy=>?_⟩;rw[D_.2.2 y,M y,z,Ah,Ax];constructor;rintro((q|⟨a,b⟩)|q);exact .inl q;exact .inr ⟨.inl a,b⟩;exact .inr ⟨.inr q,by rw[q];omega⟩;rintro(q|⟨a|a,b⟩);exact .inl (.inl q);exact .inl (.inr ⟨a,b⟩);exact .inr a
 ·rw[Aa];refine An.next ⟨d!,d!,by have:=hr.1;dsimp only;omega,hr.2.1,λy=>?_⟩ d!
  dsimp only;have z:f.take (k+1).toNat=f.take k.toNat++[u]:=by rw[show(k+1).toNat=k.toNat+1 by omega,Ca,O.1];rfl
  rw[hr.2.2 y,J y,z,C,BG,J!];constructor;rintro(⟨q,a,b⟩|⟨⟨a,b⟩,t⟩);exact⟨q,F4 _ a,b⟩;exact⟨u,Kq _ (Ax.2 rfl),a,b,t⟩;rintro⟨q,a,b,t,S⟩;rcases Ah.1 a with w|w;exact .inl ⟨q,w,b,t,S⟩;rw[Ax.1 w]at b;exact .inr ⟨⟨b,t⟩,S⟩
def AKD{l:List EN}{e:EN}(h:θ l<=16777216)(d:e∈l):HI (l,e)=δ ζ:=by
 suffices g:An (HI (l,e)) λr=>r=ζ by obtain⟨r,hr,rfl⟩:=g;exact hr
 refine AA (P:=λr=>r=.inl ζ) ?_ λr hr=>by rw[hr];exact BC (AB rfl)
 refine CV (λ(s:Int)=>0<=s/\s<=θ l/\e∈l.drop s.toNat) (λs=>((θ l:Int)-s).toNat) ⟨Ag _,o!,d⟩ (λs c=>?_);have⟨i,k,b⟩:=c;unfold LO;dsimp[len];refine AC (λa=>?_) (λa=>by rw[LZ o!]at b;simp at b);rw[Aa];refine AA (AI i a) λm j=>AM (λ_=>An.done rfl) (λf=>An.next ⟨o!,o!,?_⟩ o!);grind[List.drop_eq_getElem_cons,List.getElem?_eq_getElem,Option.some.inj]
def AC4{L}{p i j:Y}{a}{d:Ψ Y}{l}(h:Src L p a)(c:Dc l)(D_:0<=i)(k:i<=1099511627776)(m:i<=j):An (Km ((a,d,l),i,j)) λb=>b=A↔∀q,i<q->q<=j->V6 a l q:=by
 have z:∀q,V6 a l q->q<=1099511631872:=λq o=>by have A_:=c.2.1;have B:=c.2.2.1;rcases o with⟨r,x,_,y⟩|⟨_,y⟩;have:=(h.2 r x).1.1.2.2.1;omega;omega
 refine AA (P:=λr=>(r=.inl X/\∃q,i<q/\q<=j/\¬V6 a l q)\/(r=.inr ()/\∀q,i<q->q<=j->V6 a l q)) ?_ λr hr=>?_
 ·refine CV (λs=>i<=s/\s<=1099511631872/\∀q,i<q->q<=s->V6 a l q) (λs=>(1099511631872-s).toNat) ⟨Ag _,q!,λq e w=>q!⟩ (λs f=>?_);have⟨E,F,u⟩:=f;unfold L7;dsimp only;refine AC (λg=>?_) (λg=>k? (.inr ⟨rfl,λq e w=>u q e o!⟩));rw[Aa];refine AA (AFJ h c o!) λv t=>AQ (λC=>k? (.inl ⟨rfl,s+1,o!,o!,t.2.2.2 o!⟩)) (λn=>?_);grind[y!]
 grind[AB]
def AG5{l}{u:Y}(h:SpL l)(w:0<=u)(A_:u<=9223372036854775807):An (Ht (l,u)) λr=>0<=r/\r<=u/\(∀n,r<n->n<=u->oy l n)/\(r=0\/¬oy l r):=by obtain⟨a1,a2⟩:=h;unfold Ht;refine AA (P:=λr=>0<=r/\r<=u/\(∀n,r<n->n<=u->oy l n)/\(r=0\/¬oy l r)) ?_ λr hr=>AB hr;refine AY (λs=>0<=s/\s<=u/\∀n,s<n->n<=u->oy l n) (·.toNat) ⟨w,Ag _,λn k m=>by dsimp only at k;omega⟩ (λs v=>?_);obtain⟨p,t,g⟩:=v;unfold T6;refine AA (zG (b:=s) a1) λr hr=>BA (λq f=>?_) (λq f=>?_);obtain⟨i,j,y,z⟩:=hr.1 q f;refine AC (O! · o!) (λ_=>AC (λd=>AB ?_) (λB=>?_));rw[y]at d⊢;exact⟨p,t,g,.inl o!⟩;refine AA (AI i j) λa c=>?_;have C:=z a c.1;have D_:=a2 a c.2;have e:=Aa (x:=a.1-1);rw[e];refine AB ⟨⟨o!,o!,λn k m=>?_⟩,o!⟩;rcases cU s n with o|o;exact g n o m;exact⟨a,c.2,o!⟩;obtain⟨i,j⟩:=hr.2 q f;rw[i];exact AB ⟨p,t,g,.inr j⟩
def So(p:Y)(l:E EN):Prop:=(l.Pairwise λx y=>x.1<y.1)/\∀x∈l,x.2.2.2.2.2.2.1.1=p
def So.uq{p}{l}(h:So p l):Uq l:=λx b y c a=>Nk (by refine F5.2 ((Pj).2 (h.1.imp λh=>?_));omega) b c a
def AD4{l}{p}{e:EN}(d:So p l)(g:e.2.2.2.2.2.2.1.1=p)(f:∀c∈l,c.1=e.1->c=e)(h:Z l<=16777000):An (Cc (l,e)) λr=>Z r.1<=Z l+1/\So p r.1/\∀y,y∈r.1↔y∈l\/y=e:=by
 have:=d.uq;refine(yZ (L:=l++[e]) (p:=p) (λx b y i a=>?_) ⟨d.1,λx b=>⟨F4 _ b,d.2 x b⟩⟩ ⟨Kq _ (Ax.2 rfl),g⟩ h).mono λr hr=>⟨hr.1,⟨hr.2.1.1,λx b=>(hr.2.1.2 x b).2⟩,hr.2.2⟩
 rcases Ah.1 b with q|q<;>rcases Ah.1 i with w|w;exact this x q y w a;rw[Ax.1 w]at a⊢;exact f x q a;rw[Ax.1 q]at a⊢;exact(f y w a.symm).symm;rw[Ax.1 q,Ax.1 w]
def AEv{a:List AS}{m:Int}(h:θ a<=256):An (LP (a,m)) λr=>r>=0↔∃q∈a,q.1<=m/\m<=q.2.1:=by
 refine AA (P:=λr=>(∃k:Nat,r=.inl (k:Int)/\∃q∈a,q.1<=m/\m<=q.2.1)\/(r=.inr ()/\¬ ∃q∈a,q.1<=m/\m<=q.2.1)) ?_ λr hr=>?_
 ·refine CV (λ(s:Int)=>0<=s/\s<=θ a/\∀q∈a.take s.toNat,¬(q.1<=m/\m<=q.2.1)) (λs=>((θ a:Int)-s).toNat) ⟨Ag _,o!,λq d=>by simp at d⟩ (λs t=>?_);have⟨j,v,l⟩:=t;unfold M6;dsimp only[len];refine AC (λi=>?_) (λi=>An.done (.inr ⟨rfl,λ⟨q,b,c⟩=>?_⟩))
  ·rw[Aa];refine AA (AI j i) λf g=>?_;have o:a.take (s+1).toNat=a.take s.toNat++[f]:=by rw[show(s+1).toNat=s.toNat+1 by omega,Ca,g.1];rfl
   have n:¬(f.1<=m/\m<=f.2.1)->∀q∈a.take (s+1).toNat,¬(q.1<=m/\m<=q.2.1):=λu q d=>by rw[o]at d;rcases Ah.1 d with w|w;exact l q w;rw[Ax.1 w];exact u
   refine AC (λb=>AA (AI j i) λx p=>?_) (λb=>An.next ⟨o!,o!,n λq=>b q.1⟩ o!);have e:=p.1;rw[g.1]at e;have e:=BL e;subst e;exact AC (λc=>An.done (.inl ⟨s.toNat,by rw[Iz j],f,g.2,b,c⟩)) (λc=>An.next ⟨o!,o!,n λq=>c q.2⟩ o!)
  rw[BN o!]at l;exact l q b c
 rcases hr with⟨k,rfl,q⟩|⟨rfl,q⟩;exact BC (AB ⟨λ_=>q,λ_=>o!⟩);exact A3 (AB ⟨n!,λh=>O! h q⟩)
def AH9{l:List EN}{e:EN}(h:θ l<=16777216):An (HI (l,e)) λr=>r=ζ↔e∈l:=by
 by_cases a:e∈l;exact⟨_,AKD h a,λ_=>a,λ_=>rfl⟩;refine AA (P:=λr=>r=.inr ()) ?_ λr hr=>by rw[hr];exact A3 (AB ⟨λq=>(by cases q),λq=>O! q a⟩)
 refine CV (λ(s:Int)=>0<=s/\s<=θ l) (λs=>((θ l:Int)-s).toNat) ⟨Ag _,o!⟩ (λs i=>?_);have⟨j,k⟩:=i;unfold LO;dsimp[len];refine AC (λb=>?_) (λb=>An.done rfl);rw[Aa];refine AA (AI j b) λd f=>AM (λc=>O! ?_ a) (λ_=>An.next o! o!);have g:=f.2;obtain⟨B,C,D_,E,F,G,⟨I,J,⟨K,L⟩,M,N⟩,H⟩:=d;obtain⟨d,t,u,v,w,x,⟨z,A_,⟨m,n⟩,o,p⟩,y⟩:=e;simp only[BQ,J!]at c;obtain⟨rfl,rfl,rfl,rfl,rfl,rfl,rfl,rfl,rfl,rfl,rfl,rfl,rfl,_⟩:=c;exact g
def OkU(rs:E AS)(l:Ad)(A B:E EN):Prop:=(∀y∈A,l.1<=y.1->y.1<=l.1+Z l.2.1-1->y∈B)/\∀y∈B,(∃q∈rs,q.1<=y.1/\y.1<=q.2.1)->y∈A
def AGX{A_ B:List EN}{b:List AS}{l:Ad}{p:Int}(hl:Dc l)(V:So p A_)(W:So p B)(h1:θ b≤256)(h2:θ A_≤1048576)(h3:θ B≤4096)(L:∀y∈A_,∃q∈b,q.1≤y.1∧y.1≤q.2.1):
  An (Ml (b,l,A_,B)) λr=>(r.2=η/\¬OkU b l A_ B)\/(r.2=ζ/\OkU b l A_ B/\So p r.1/\θ r.1<=1052672/\∀y,y∈r.1↔y∈A_\/y∈B):=by
 refine AA (Ac w!) λv0 h0=>?_;have S:=h0.1;rw[Bt]at S;dsimp only at S;subst v0;refine AA (P:=λr=>(r=.inl ([],η)/\¬OkU b l A_ B)\/∃C,r=.inr C/\(∀y∈B,(∃q∈b,q.1<=y.1/\y.1<=q.2.1)->y∈A_)/\θ C<=θ A_+θ B/\So p C/\∀y,y∈C↔y∈A_\/y∈B) ?_ λr hr=>?_
 ·refine CV (λ(s:List EN×Int)=>0<=s.2/\s.2<=θ B/\θ s.1<=θ A_+s.2/\So p s.1/\(∀y∈B.take s.2.toNat,(∃q∈b,q.1<=y.1/\y.1<=q.2.1)->y∈A_)/\∀y,y∈s.1↔y∈A_\/y∈B.take s.2.toNat) (λs=>((θ B:Int)-s.2).toNat) ⟨Ag _,d!,d!,V,λy e=>by simp at e,λy=>k!⟩ ?_;rintro⟨C,k⟩ ⟨i,X_,D_,R,G,Q⟩;dsimp only at i X_ D_ R Q G;unfold OJ;dsimp[len];refine AC (λf=>?_) (λf=>An.done (.inr ⟨C,rfl,by rw[BN o!]at G;exact G,o!,R,λy=>by rw[Q y,BN o!]⟩));refine AA (AI i f) λt u=>AA (AEv h1) λv3 T=>?_;rw[Aa (x:=k+1)];have I:B.take (k+1).toNat=B.take k.toNat++[t]:=by rw[show(k+1).toNat=k.toNat+1 by omega,Ca,u.1];rfl
  have same:∀a,B[k.toNat]?=δ a/\a∈B->a=t:=λa m=>by have:=m.1;rw[u.1]at this;exact(BL this).symm
  have E:((∃q∈b,q.1<=t.1/\t.1<=q.2.1)->t∈A_)->∀a,B[k.toNat]?=δ a/\a∈B->An (σ (Cc (C,a)) λZ=>δ (Step.next (Z.1,k+1)):Option (Step (List EN×Int) ((List EN×Bool)⊕List EN))) (Jj (λ(s:List EN×Int)=>0<=s.2/\s.2<=θ B/\θ s.1<=θ A_+s.2/\So p s.1/\(∀y∈B.take s.2.toNat,(∃q∈b,q.1<=y.1/\y.1<=q.2.1)->y∈A_)/\∀y,y∈s.1↔y∈A_\/y∈B.take s.2.toNat) (λs=>((θ B:Int)-s.2).toNat) ((θ B:Int)-k).toNat λr=>(r=.inl ([],η)/\¬OkU b l A_ B)\/∃C,r=.inr C/\(∀y∈B,(∃q∈b,q.1<=y.1/\y.1<=q.2.1)->y∈A_)/\θ C<=θ A_+θ B/\So p C/\∀y,y∈C↔y∈A_\/y∈B):=λh a m=>by
   have e6:=same a m;subst e6;refine AA (AD4 R (W.2 a u.2) (λc K n=>?_) o!) λZ U_=>An.next ⟨d!,d!,by have:=U_.1;dsimp only;omega,U_.2.1,λy e=>?_,λy=>?_⟩ d!
   rcases(Q c).1 K with q|q;have:=L c q;rw[n]at this;exact V.uq c q a (h this) n;exact W.uq c (EJ q) a u.2 n;dsimp only at e;rw[I]at e;rcases Ah.1 e with q|q;exact G y q;rw[Ax.1 q];exact h;grind[List.mem_singleton]
  refine AC (λM=>AA (AI i f) λv4 g4=>?_) (λN=>AA (AI i f) λa m=>E (λq=>O! (T.2 q) N) a m);rw[same v4 g4];refine AA (AH9 o!) λv5 v=>AP (λz=>An.done (.inl ⟨rfl,λq=>?_⟩)) (λO=>AA (AI i f) λa m=>E (λ_=>v.1 O) a m);rw[v.2 (q.2 t u.2 (T.1 M))]at z;cases z
 ·rcases hr with⟨rfl,o⟩|⟨C,rfl,c0,c1,cA,c2⟩;exact BC (AB (.inl ⟨rfl,o⟩));refine A3 (AA (P:=λr=>(r=.inl ([],η)/\¬OkU b l A_ B)\/(r=.inr ()/\∀y∈A_,l.1<=y.1->y.1<=l.1+θ l.2.1-1->y∈B)) ?_ λr hr=>?_)
  ·refine CV (λ(s:Int)=>0<=s/\s<=θ A_/\∀y∈A_.take s.toNat,l.1<=y.1->y.1<=l.1+θ l.2.1-1->y∈B) (λs=>((θ A_:Int)-s).toNat) ⟨Ag _,o!,λy e=>by simp at e⟩ (λs hI=>?_);have⟨i,X_,D_⟩:=hI;unfold OK;dsimp[len];refine AC (λf=>?_) (λf=>An.done (.inr ⟨rfl,by rw[BN o!]at D_;exact D_⟩));rw[Aa];refine AA (AI i f) λd j=>?_;have I:A_.take (s+1).toNat=A_.take s.toNat++[d]:=by rw[show(s+1).toNat=s.toNat+1 by omega,Ca,j.1];rfl
   have Y:(l.1<=d.1->d.1<=l.1+θ l.2.1-1->d∈B)->∀y∈A_.take (s+1).toNat,l.1<=y.1->y.1<=l.1+θ l.2.1-1->y∈B:=λhv y e=>by rw[I]at e;rcases Ah.1 e with w|w;exact D_ y w;rw[Ax.1 w];exact hv
   rw[xn hl,AD];refine AC (λg=>AA (AI i f) λF J=>?_) (λg=>An.next ⟨o!,o!,Y λq1 q2=>O! ⟨q1,q2⟩ g⟩ o!);have H:F=d:=by have:=J.1;rw[j.1]at this;exact(BL this).symm
   subst H;refine AA (AH9 o!) λv5 v=>AP (λz=>An.done (.inl ⟨rfl,λq=>?_⟩)) (λO=>An.next ⟨o!,o!,Y λ_ _=>v.1 O⟩ o!);rw[v.2 (q.1 F j.2 g.1 g.2)]at z;cases z
  rcases hr with⟨rfl,o⟩|⟨rfl,h⟩;exact BC (AB (.inl ⟨rfl,o⟩));exact A3 (AB (.inr ⟨rfl,⟨h,c0⟩,cA,d!,c2⟩))
def AGn{x:AJ×Ad×Int×Int×Int}{v:List EN×Bool}(h:θ v.1<=16777216):An (Ak (Mk x v) 0) λr=>(r=.inr ()/\Uz x.2.2.2.1 v.1)\/(r=.inl ([],13)/\¬Uz x.2.2.2.1 v.1):=by
 refine CV (λ(t:Int)=>0<=t/\t<=θ v.1/\∀(k:Nat)(e:EN),k<t->v.1[k]?=δ e->(k=0->e.2.2.2.2.1<=x.2.2.2.1)/\∀f,0<k->v.1[k-1]?=δ f->e.2.2.2.2.1=f.1) (λt=>((θ v.1:Int)-t).toNat) ⟨Ag _,o!,λk e C=>o!⟩ (λt B=>?_);have⟨E,F,y⟩:=B;unfold Mk;dsimp only[len];refine AC (λq=>?_) (λq=>An.done (.inl ⟨rfl,λk e b=>y k e (by have:=Ce b;omega) b⟩));rw[Aa (x:=t+1)];obtain⟨w,u,c,D_⟩:=AI E q;have i:((t=0->w.2.2.2.2.1<=x.2.2.2.1)/\∀f,0<t->v.1[t.toNat-1]?=δ f->w.2.2.2.2.1=f.1)->∀(k:Nat)(e:EN),k<t+1->v.1[k]?=δ e->(k=0->e.2.2.2.2.1<=x.2.2.2.1)/\∀f,0<k->v.1[k-1]?=δ f->e.2.2.2.2.1=f.1:=λs k e C b=>by
  by_cases p:(k:Int)<t;exact y k e p b;have z:k=t.toNat:=o!
  subst z;rw[c]at b;have b:=BL b;subst b;exact⟨λm=>s.1 o!,λf m d=>s.2 f o! d⟩
 apply AQ<;>intro m
 ·rw[u,AD];refine AC (λl=>An.done (.inr ⟨rfl,λo=>?_⟩)) (λl=>?_);have:=(o t.toNat w c).1 o!;omega
  ·exact AC (λg=>O! g o!) (λ_=>An.next ⟨o!,o!,i ⟨λ_=>o!,λf d=>O! d o!⟩⟩ o!)
 ·refine AC (λl=>?_) (λl=>O! l o!);rw[Aa (x:=t-1),u,AD];refine AA (AI) λj n=>?_;have a:v.1[t.toNat-1]?=δ j:=by rw[show t.toNat-1=(t-1).toNat by omega];exact n.1
  refine AK (λg=>An.done (.inr ⟨rfl,λo=>g ((o t.toNat w c).2 j o! a)⟩)) (λg=>An.next ⟨o!,o!,i ⟨λA_=>O! A_ m,λf _ d=>?_⟩⟩ o!);rw[a]at d;rw[<-BL d];exact g
def AHK{L}{h:E AS}{b:Y}(hr:∀r∈h,Yg L r)(a:(h.filter λr=>r.2.2.1==b).Pairwise λr s=>r.2.1<s.1\/s.2.1<r.1):((D1 b h).map (·.1)).Nodup:=by unfold D1;rw[List.map_flatMap,F5,tZ];refine⟨λr c=>F5.1 (hr r (BG.1 c).1).nd,cV ?_ a⟩;intro r s c i n x j y k o;obtain⟨e,d,rfl⟩:=BY.1 j;obtain⟨f,g,rfl⟩:=BY.1 k;have l:=((hr r (BG.1 c).1).mem e).1 d;have m:=((hr s (BG.1 i).1).mem f).1 g;omega
def ACc{p i j}{y}:GG p i j y=A↔fU y=A/\y.2.2.2.2.2.2.1.1=p/\i<y.1/\y.1<=j:=by unfold GG;simp only[BQ,K!,J!,gt_iff_lt]
def AIY{L}{a}{l}{p i j:Int}(hU:Uq L)(h:AR L a)(E:Dc l)(hi:0<=i)(ao:i<=1099511627776)(N:i<=j)(hj:j<=9223372036854775807)(hp:0<=p/\p<a.2.1):∃r,EQ (a,l,p,i,j)=D r/\EK (a,l,p,i,j)=D r/\(r.2=0->θ r.1<=1052672/\∀e∈r.1,KD e):=by
 obtain⟨F,a9,a5,a4⟩:=xM h.vb hp;obtain⟨q,a7,v,S,w2,rfl,w4,w5⟩:=xN h.vb h.ds (Nl h.vb) h.dis;have d:∀r∈v.map (·.1),∃e∈D8 a,e.1=r:=λr hr=>by obtain⟨e,b,rfl⟩:=BY.1 hr;exact⟨e,S.mem_iff.1 b,rfl⟩
 have H:∀r∈v.map (·.1),VR r/\Yg L r:=λr hr=>by obtain⟨e,b,rfl⟩:=d r hr;obtain⟨f,_,g,_,z,_⟩:=h.mem b;exact⟨g.2.2.1,z⟩
 have a6:((v.map (·.1)).filter λr=>r.2.2.1==F).Pairwise λr s=>r.2.1<s.1\/s.2.1<r.1:=by rw[List.filter_map,Pj];have a0:v.Pairwise λx y=>x≠y:=F5.1 (S.nodup_iff.2 (Nl h.vb));refine cV ?_ (a0.filter _);intro x y O hy ax;obtain⟨x1,x2⟩:=BG.1 O;obtain⟨y1,y2⟩:=BG.1 hy;exact h.dis x (S.mem_iff.1 x1) y (S.mem_iff.1 y1) ax ((eq_of_beq x2).trans (eq_of_beq y2).symm)
 have ad:SpL (KA l F (v.map (·.1))):=by refine⟨?_,λs C=>?_⟩;have:=EP (λr:AS=>r.2.2.1==F) (v.map (·.1));rw[BX]at this;simp only[KA,BW,BX];omega;rcases As.1 C with C|C;rw[C];exact E.1;obtain⟨r,hr,rfl⟩:=BY.1 C;obtain⟨e,b,rfl⟩:=BY.1 (BG.1 hr).1;exact(w5 e b).1
 have I:∀n,oy (KA l F (v.map (·.1))) n↔uF a l F n:=λn=>by constructor;rintro⟨s,C,m,c⟩;rcases As.1 C with C|C;rw[C]at m c;exact .inl ⟨m,c⟩;obtain⟨r,hr,rfl⟩:=BY.1 C;obtain⟨D_,z⟩:=BG.1 hr;obtain⟨e,b,rfl⟩:=d r D_;exact .inr ⟨e,b,eq_of_beq z,m,c⟩;rintro(⟨m,c⟩|⟨e,b,h0,m,c⟩);exact⟨_,As.2 (.inl rfl),m,c⟩;exact⟨(e.1.1,e.1.2.1),As.2 (.inr (BY.2 ⟨e.1,BG.2 ⟨Kr (S.mem_iff.2 b),by simp[h0]⟩,rfl⟩)),m,c⟩
 obtain⟨fl,al,f1,f2,f3,f4⟩:=AG5 ad (u:=j) o! hj;have W:(∀q,i<q->q<=j->uF a l F q)↔fl<=i:=AI5 ⟨f1,f2,λn m c=>(I n).1 (f3 n m c),f4.imp id λhh hc=>hh ((I fl).2 hc)⟩ hi;have own:∀r∈v.map (·.1),∀f∈r.2.2.2.2.2,Fq (r.1,r.2.1) f.1=A:=λr hr f hf=>by have:=(H r hr).1.ent hf;unfold Fq;simp only[BQ,K!];omega
 obtain⟨r1,e1,c1⟩:=AKt (l:=l) (p:=p) (i:=i) (j:=j) hi N h.vb E hp a5 rfl a7 (by rw[BX,BX]) (by rw[BX];exact w4) (λr hr=>by obtain⟨e,b,rfl⟩:=BY.1 hr;exact(w5 e b).2.2.2.2.2.2.2.2) al own (AHK (λr hr=>(H r hr).2) a6);obtain⟨s1,es,M,a',hh,Z,rfl,a8,T,U_⟩:=vP (l:=l) h hp;have ar:=a4.uniq h.vb.1 rfl rfl Z;subst ar;have X_:(∀q,i<q->q<=j->V6 (M.map (·.1)) l q)↔fl<=i:=⟨λw=>W.1 λq o t=>(AB0 T q).1 (w q o t),λw q o t=>(AB0 T q).2 (W.2 w q o t)⟩
 have J:∀y,y∈D1 F (v.map (·.1))↔∃q∈M.map (·.1),y∈q.2.2.2.2.2:=λy=>by constructor;intro hy;obtain⟨r,m,c⟩:=En.1 hy;obtain⟨h3,V⟩:=BG.1 m;obtain⟨e,b,rfl⟩:=d r h3;exact⟨e.1,Kr ((T e).2 ⟨b,eq_of_beq V⟩),c⟩;rintro⟨r,m,c⟩;obtain⟨e,b,rfl⟩:=BY.1 m;have g:=(T e).1 b;exact En.2 ⟨e.1,BG.2 ⟨Kr (S.mem_iff.2 g.1),beq_iff_eq.2 g.2⟩,c⟩
 have key:An (EK (a,l,p,i,j)) λr=>r=r1:=by
  unfold EK;rw[AHc h.vb E hp hi N,AD,H!,A!];dsimp only;rw[es,AD];refine AA (AC4 U_ E hi ao N) λv2 c=>AP (λhf=>AB ?_) (λK=>?_);have hn:¬fl<=i:=λq=>by rw[c.2 (X_.2 q)]at hf;cases hf
  rcases c1 with q|q|q;exact q.2.symm;exact O! q.1 hn;exact O! q.1 hn;have hc:=X_.1 (c.1 K);refine AA (AAY hU U_) λv3 h3=>AA (zY E) λv4 V=>?_;have⟨a1,a2,a3⟩:=h3;have hA:So p v3:=⟨a2.1,λx O=>(a2.2 x O).2⟩
  have hB:So p v4:=by rw[V];exact⟨E.sorted.filter _,λx O=>(ACc.1 (BG.1 O).2).2.1⟩
  have A_:∀y,y∈v3↔y∈D1 F (v.map (·.1))/\GG p i j y=A:=λy=>by rw[a3 y,J y,ACc];constructor;rintro⟨q,o,t,q3,q4,q5⟩;exact⟨⟨q,o,t⟩,(((U_.2 q o).2.1.mem y).1 t).2.1,q3,q4,q5⟩;rintro⟨⟨q,o,t⟩,_,q3,q4,q5⟩;exact⟨q,o,t,q3,q4,q5⟩
  have B:∀y,y∈v4↔y∈l.2.1/\GG p i j y=A:=λy=>by rw[V,BG]
  have Y:OkU (M.map (·.1)) l v3 v4↔AGJ l F p i j (v.map (·.1)):=by constructor;rintro⟨o1,o2⟩;refine⟨λf D_ z G=>?_,λe D_ z G=>?_⟩;unfold Fq at G;simp only[BQ,K!]at G;exact((B f).1 (o1 f ((A_ f).2 ⟨D_,z⟩) G.1 G.2)).1;obtain⟨r,r1,P⟩:=YS.1 G;obtain⟨r3,r4⟩:=BG.1 r1;obtain⟨x,O,rfl⟩:=d r r3;unfold Fq at P;simp only[BQ,K!]at P;exact((A_ e).1 (o2 e ((B e).2 ⟨D_,z⟩) ⟨x.1,Kr ((T x).2 ⟨O,eq_of_beq r4⟩),P⟩)).1;rintro⟨o1,o2⟩;refine⟨λy D_ z G=>?_,λy D_ z=>?_⟩;have⟨Q,R⟩:=(A_ y).1 D_;refine(B y).2 ⟨o1 y Q R ?_,R⟩;unfold Fq;simp only[BQ,K!];exact⟨z,G⟩;have⟨Q,R⟩:=(B y).1 D_;obtain⟨q,o,t⟩:=z;obtain⟨e,b,rfl⟩:=BY.1 o;have g:=(T e).1 b;refine(A_ y).2 ⟨o2 y Q R (YS.2 ⟨e.1,BG.2 ⟨Kr (S.mem_iff.2 g.1),beq_iff_eq.2 g.2⟩,?_⟩),R⟩;unfold Fq;simp only[BQ,K!];exact t
  have ap:θ v4<=4096:=by rw[V];exact C5 (EP _ _) E.2.2.1
  refine AA (AGX E hA hB U_.1 a1 ap (λy hy=>?_)) λv5 h5=>?_;obtain⟨q,o,t,_⟩:=(a3 y).1 hy;have g:=((U_.2 q o).2.1.mem y).1 t;exact⟨q,o,g.2.2.2.2⟩;rcases h5 with⟨u0,Q⟩|⟨u0,Q,R,u3,u4⟩;rw[u0,pq,B!];apply AB;rcases c1 with q|q|q;omega;exact q.2.2.symm;exact O! (Y.2 q.2.1) Q;rw[u0,CE,A!];rcases c1 with q|q|⟨_,_,s,s1,s2,s3,s4⟩;omega;exact O! (Y.1 Q) q.2.1;have b:v5.1=s:=lO R.1 s2 λy=>by rw[u4 y,s3 y,A_,B];constructor;rintro(q|q);exact⟨.inr q.1,q.2⟩;exact⟨.inl q.1,q.2⟩;rintro⟨q|q,g⟩;exact .inr ⟨q,g⟩;exact .inl ⟨q,g⟩
  refine AA (AGn o!) λr hr=>?_;rw[b]at hr;dsimp only at hr;rcases hr with⟨rfl,hC⟩|⟨rfl,hC⟩;rcases s4 with q|q;exact A3 (AB (by rw[b,q.2]));exact O! hC q.1;rcases s4 with q|q;exact O! q.1 hC;exact BC (AB q.2.symm)
 obtain⟨P,e2,rfl⟩:=key;refine⟨P,e1,e2,λhz=>?_⟩;rcases c1 with⟨_,rfl⟩|⟨_,_,rfl⟩|⟨_,_,s,s1,s2,s3,⟨_,rfl⟩|⟨_,rfl⟩⟩;cases hz;cases hz;refine⟨s1,λe b=>?_⟩;rcases((s3 e).1 b).1 with q|q;obtain⟨k,hk⟩:=Eo.1 q;exact(E.2.2.2.2.2 k e hk).2;obtain⟨r,r1,P⟩:=(J e).1 q;exact((U_.2 r r1).1.ent P).1;cases hz
def HS.nil:HS []:=λi e h=>by simp at h
def AEg{L:E EN}{a}{l:Ad}{k:V}(b:l.1=1)(d:k<=Z l.2.1):Cov a l k:=λm f g p e c _=>.inl o!
def AEZ{l:E Y}(h:∀c∈l,0≤c∧c<256):An (bif (τ ((S l)>500))then
    σ (Wp l 0 500) λd=>
    D d
   else
   D l) λr=>CX (r,0):=by
 refine AC (λa=>?_) (λa=>AB ⟨Ag _,by simp only[S]at a;dsimp only;omega,h⟩);simp only[S]at a;refine AA (Bd) λd e=>AB ⟨Ag _,d!,λc b=>?_⟩;dsimp only at b;rw[e.1]at b;exact h c (Nn (EJ b))
def rA(x:AT):AFY x x=A:=by
 unfold AFY;simp only[L!,pu];generalize List.finRange 16=l;induction l with
 |nil=>rfl
 |cons i l a=>rw[List.foldr_cons];exact a
theorem Vp{a:Type}{l r:E a}(h:r.Perm l):ξ (Z r) (Z l)=A:=by rw[h.length_eq];exact H6 _
def AAu{g v:Type}{c:g×g->Option v}{n:v->Bool}(y:∀p,An (c p) λ_=>True){l:List g}{b:Nat}(w:b<=θ l)(K:θ l<=16777000):An (AAs c n l (0,(b:Int))) λr=>r.Perm l:=by
 unfold AAs;refine AA (P:=λr=>r.Perm l) ?_ λr hr=>AB hr;refine CV (λ(s:Int×List g)=>1<=s.1/\s.1<=b+1/\s.2.Perm l) (λs=>((b:Int)+1-s.1).toNat) ⟨by show 1<=wi (0+1);rw[Aa];decide,by show wi (0+1)<=_;rw[Aa];omega,lf _⟩ ?_;rintro⟨M,N⟩ ⟨B,C,h⟩;dsimp only at B C h;refine AC (λw=>?_) (λ_=>An.done h);have q:=h.length_eq;refine AA (P:=λr=>r.Perm l) ?_ λr hr=>?_
 ·refine CV (λ(t:Int×List g)=>0<=t.1/\t.1<θ l/\t.2.Perm l) (λt=>t.1.toNat) ⟨d!,d!,h⟩ ?_;rintro⟨e,j⟩ ⟨d,D_,i⟩;dsimp only at d D_ i;have O:=i.length_eq;unfold AEx;dsimp only;refine AA (P:=λr:Unit⊕Unit=>r=.inr ()->e>0) ?_ λr hr=>?_;refine AC (λa=>?_) (λ_=>AB λA_=>by cases A_);rw[Aa (x:=e-1)];refine AA (AI d) λQ _=>AA (AI d) λR _=>AA (AI) λS _=>AA (AI) λT _=>AA (y _) λU_ _=>AM (λ_=>AB λ_=>a) (λ_=>AB λ_=>a)
  ·refine BA (λu _=>An.done i) (λu z=>?_);have a:=hr (by cases u;exact z);rw[Aa (x:=e-1)];refine AA (AI) λE _=>AA (AI) λf k=>AA (AI d) λF _=>AA (AI d) λo m=>AA (AI d) λG _=>AA (AI d) λH _=>?_;have L:(Es j e f).length=θ j:=pT;refine AA (AI) λI _=>AA (AI) λJ _=>An.next ⟨d!,d!,?_⟩ d!
   dsimp only;unfold Es;rw[(by have:=k.1;rw[Au o!]at this;exact(BL this).symm:f=j[(e-1).toNat]),(by have:=m.1;rw[Au o!]at this;exact(BL this).symm:o=j[e.toNat])];exact(List.set_set_perm o! o!).trans i
 ·grind[Aa,An.next]
def AIK{a:Type}{f:E a->Y×Y->W (E a)}{l:E a}(d:An (f l (0,(Z l:Y))) λr=>r.Perm l)(h:Z l<=12)(n:Y):An (sh (λ(_:E a×(Y×(Y×Y))->W (E a)) p=>pdG f p.1 p.2) (l,0,S l,n)) λr=>r.Perm l:=by
 have step:An (pdG f l (0,S l,n)) λr=>r.Perm l:=by unfold pdG;refine AA (P:=λr=>r.Perm l) ?_ λr hr=>AB hr;rw[Df];unfold AJU;dsimp[S];rw[Aa,G! o!,B!];have⟨r,hr,e⟩:=d;grind[p?,Vp]
 have⟨r,hr,e⟩:=step;have⟨s,c⟩:=gw (f:=λ(_:E a×(Y×(Y×Y))->W (E a)) p=>pdG f p.1 p.2) (x:=(l,0,S l,n)) (n:=1) hr;have⟨N,b⟩:=dw c;refine⟨s,c,?_⟩;cases N with
 |zero=>cases b
 |succ N=>exact step.get b
def AIP{a:Type}{f:E a->Y×(Y×Y)->W (E a)}{l:E a}(b:∀n,An (f l (0,S l,n)) λr=>r.Perm l)(h:Z l<=12):An (soG f l) λr=>r.Perm l:=by unfold soG Tk;obtain⟨n,g,-,-⟩:=ABk (x:=Z l) o!;grind[XW,p?,AA,Vp,AB]
def AHp{l:E Y}(h:Z l<=12):An (Mn l ()) λr=>r.Perm l:=AIP (λn=>AIK (AAu (λp=>Wg.mono λ_ _=>P!) (Ao _) o!) h n) h
def AKw(p:Aj×Aj):An (NH p) λ_=>True:=by grind[NH,AA,Sv,AB]
def AKx(p:Bb×Bb):An (KW p) λ_=>True:=by grind[KW,AA,Sv,AB]
def AHr{l:E Aj}(h:Z l<=12):An (FK l ()) λr=>r.Perm l:=AIP (AIK (AAu AKw (Ao _) o!) h ·) h
def AHu{l:E Bb}(h:Z l<=12):An (DA l ()) λr=>r.Perm l:=by
 unfold DA;refine AA (P:=λr=>r.Perm l) ?_ λr hr=>by rw[Vp hr,B!];exact AB hr
 unfold HB;rw[Df];unfold IX;dsimp[S];rw[F! o!,A!];dsimp[σ];have⟨r,hr,b⟩:=AAu (n:=λa=>decide (a<0)) AKx (Ao (Z l)) o!;grind[EE,Vp,Df,IY,AB]
def Ord{α:Type}(R:α->α->Prop)(t:E α)(k m:V):Prop:=(∀(i j:V)(x y:α),i<j->j<=k->i≠m->j≠m->t[i]?=D x->t[j]?=D y->R x y)/\∀(j:V)(x y:α),m<j->j<=k->t[m]?=D x->t[j]?=D y->R x y
def AAt{o γ:Type}{c:o×o->Option γ}{n:γ->Bool}{R:o->o->Prop}(hR:∀x y z,R x y->R y z->R x z){l:List o}(hc:∀x y,x∈l->y∈l->An (c (x,y)) λr=>(n r=ζ->R x y)/\(n r=η->∀(i j:Nat),l[i]?=δ y->l[j]?=δ x->i<j->R y x))(hl:θ l<=16777000):An (AAs c n l (0,(θ l:Int))) λr=>r.Perm l/\r.Pairwise R:=by
 unfold AAs;refine AA (P:=λr=>r.Perm l/\r.Pairwise R) ?_ λr hr=>AB hr;refine CV (λ(s:Int×List o)=>1<=s.1/\s.1<=θ l+1/\s.2.Perm l/\(∀i:Nat,s.1<=i->s.2[i]?=l[i]?)/\(∀(i:Nat)(x:o),i<s.1->s.2[i]?=δ x->∃j:Nat,j<s.1/\l[j]?=δ x)/\∀(i j:Nat)(x y:o),i<j->j<s.1->s.2[i]?=δ x->s.2[j]?=δ y->R x y) (λs=>((θ l:Int)+1-s.1).toNat) ⟨by show 1<=wi (0+1);rw[Aa];decide,by show wi (0+1)<=_;rw[Aa];omega,lf _,λi _=>rfl,λi x C D_=>⟨i,C,D_⟩,λi j x y g d=>by dsimp only at d;rw[Aa]at d;omega⟩ ?_;rintro⟨s1,s2⟩ ⟨i1,i2,U_,i4,i5,i6⟩;dsimp only at i1 i2 U_ i4 i5 i6;have ad:=U_.length_eq;refine AC (λhb=>?_) (λhb=>An.done ⟨U_,FA.2 λi j C hj W=>i6 i j _ _ W (by have al:j<θ s2:=hj;omega) (Au C) (Au hj)⟩);obtain⟨k,rfl⟩:∃k:Nat,s1=k:=⟨s1.toNat,o!⟩
 have hk:k<θ l:=o!
 refine AA (P:=λr=>r.Perm l/\(∀i:Nat,k<i->r[i]?=l[i]?)/\(∀(i:Nat)(x:o),i<=k->r[i]?=δ x->∃j:Nat,j<=k/\l[j]?=δ x)/\∀(i j:Nat)(x y:o),i<j->j<=k->r[i]?=δ x->r[j]?=δ y->R x y) ?_ λr hr=>?_
 ·refine CV (λ(t:Int×List o)=>∃m:Nat,t.1=m/\m<=k/\t.2.Perm l/\(∀i:Nat,k<i->t.2[i]?=l[i]?)/\t.2[m]?=l[k]? /\(∀(i:Nat)(x:o),i<=k->i≠m->t.2[i]?=δ x->∃j:Nat,j<k/\l[j]?=δ x)/\Ord R t.2 k m) (λt=>t.1.toNat) ⟨k,rfl,Ao _,U_,λi C=>i4 i o!,i4 k (Ag _),λi x g d f=>by obtain⟨j,j1,j2⟩:=i5 i x o! f;exact⟨j,o!,j2⟩,λi j x y g d f v=>i6 i j x y g o!,λj x y g d=>o!⟩ ?_;rintro⟨_,a⟩ ⟨m,rfl,j1,Q,j4,j5,S,J,j8⟩;dsimp only at Q j4 j5 S J j8;have tl:=Q.length_eq;unfold AEx;dsimp only;obtain⟨x,D_⟩:∃x,a[m]?=δ x:=⟨a[m],Au o!⟩
  have F:l[k]?=δ x:=by rw[<-j5,D_]
  have O:ix a (m:Int)=δ x:=by unfold ix;rw[C! o!,Int.toNat_natCast,D_]
  have V:(∀(i:Nat)(y:o),i<m->a[i]?=δ y->R y x)->(a.Perm l/\(∀i:Nat,k<i->a[i]?=l[i]?)/\(∀(i:Nat)(x:o),i<=k->a[i]?=δ x->∃j:Nat,j<=k/\l[j]?=δ x)/\∀(i j:Nat)(x y:o),i<j->j<=k->a[i]?=δ x->a[j]?=δ y->R x y):=λL=>by refine⟨Q,j4,λi y g d=>?_,λi j y z g d f v=>?_⟩;by_cases e:i=m;subst e;rw[D_]at d;exact⟨k,Ao _,by rw[F,d]⟩;obtain⟨q,q1,T⟩:=S i y g e d;exact⟨q,o!,T⟩;by_cases A_:j=m;subst A_;rw[D_]at v;rw[<-BL v];exact L i y g f;by_cases p:i=m;subst p;exact j8 j y z g d f v;exact J i j y z g d p A_ f v
  refine AA (P:=λr:Unit⊕Unit=>(r=.inr ()/\0<m/\∀y,a[m-1]?=δ y->R x y)\/(r=.inl ()/\(m=0\/∀y,a[m-1]?=δ y->R y x))) ?_ λr hr=>?_;refine AC (λM=>?_) (λE=>AB (.inr ⟨rfl,.inl o!⟩));rw[Aa (x:=(m:Int)-1),O];obtain⟨y,h⟩:∃y,a[m-1]?=δ y:=⟨a[m-1],Au o!⟩
  have I:ix a ((m:Int)-1)=δ y:=by unfold ix;rw[C! o!,show((m:Int)-1).toNat=m-1 by omega,h]
  rw[I];simp only[AD];have Z:y∈l:=Q.mem_iff.1 (BP h);have Y:x∈l:=BP F;refine AA (hc x y Y Z) λv6 B=>AM (λhn=>AB (.inl ⟨rfl,o!,λz E=>?_⟩)) (λhn=>AB (.inr ⟨rfl,.inr λz E=>?_⟩));rw[h]at E;rw[<-BL E];exact B.1 hn;rw[h]at E;rw[<-BL E];obtain⟨q,q1,T⟩:=S (m-1) y o! o! h;exact B.2 hn q k T F q1
  ·rcases hr with⟨rfl,M,X_⟩|⟨rfl,hr⟩
   ·apply A3;rw[Aa (x:=(m:Int)-1)];obtain⟨y,h⟩:∃y,a[m-1]?=δ y:=⟨a[m-1],Au o!⟩
    have I:ix a ((m:Int)-1)=δ y:=by unfold ix;rw[C! o!,show((m:Int)-1).toNat=m-1 by omega,h]
    rw[O,I];simp only[AD];have ll:(Es a (m:Int) y).length=θ a:=pT;refine AA (AI) λao _=>AA (AI) λap _=>?_;have K:=X_ y h;have b:∀i:Nat,(Es (Es a (m:Int) y) ((m:Int)-1) x)[i]?=if i=m-1 then δ x else if i=m then δ y else a[i]? :=λi=>by unfold Es;rw[show((m:Int)-1).toNat=m-1 by omega,DF,R2,R2,Yj];by_cases A_:i=m-1;rw[C! A_.symm,C! A_,C! o!];rw[D! (Lk A_),D! A_];by_cases p:i=m;rw[C! p.symm,C! p,C! o!];rw[D! (Lk p),D! p]
    have H:(Es (Es a (m:Int) y) ((m:Int)-1) x).Perm l:=by unfold Es;rw[show((m:Int)-1).toNat=m-1 by omega,DF,(by rw[Au o!]at h;exact(BL h).symm:y=a[m-1]),(by rw[Au o!]at D_;exact(BL D_).symm:x=a[m])];exact(List.set_set_perm o! o!).trans Q
    refine An.next ⟨m-1,d!,o!,H,λi C=>?_,?_,λi z g d f=>?_,λi j u w g d f v G B=>?_,λj u w g d f v=>?_⟩ d!
    dsimp only;rw[b,D! o!,D! o!];exact j4 i C;dsimp only;rw[b,C! rfl,F];dsimp only at f;rw[b,D! d]at f;by_cases e:i=m;rw[C! e]at f;exact S (m-1) z o! o! (by rw[h,f]);rw[D! e]at f;exact S i z g e f;dsimp only at G B;rw[b,D! f]at G;rw[b,D! v]at B;by_cases A_:i=m;rw[C! A_]at G;rw[D! o!]at B;exact J (m-1) j u w o! d o! o! (by rw[h,G]) B;rw[D! A_]at G;by_cases p:j=m;rw[C! p]at B;exact J i (m-1) u w o! o! A_ o! G (by rw[h,B]);rw[D! p]at B;exact J i j u w g d A_ p G B;dsimp only at f v;rw[b,C! rfl]at f;have:=BL f;subst this;rw[b,D! o!]at v;by_cases p:j=m;rw[C! p]at v;rw[<-BL v];exact K;rw[D! p]at v;exact j8 j x w o! d D_ v
   ·refine BC (An.done (V λi y C h=>?_));rcases hr with h0|hr;omega;obtain⟨z,E⟩:∃z,a[m-1]?=δ z:=⟨a[m-1],Au o!⟩
    have N:=hr z E;by_cases e:i=m-1;subst e;rw[E]at h;rw[<-BL h];exact N;exact hR y z x (J i (m-1) y z o! o! o! o! h E) N
 ·rw[Aa];refine An.next ⟨d!,d!,hr.1,λi C=>hr.2.1 i (by dsimp only at C;omega),λi x C D_=>?_,λi j x y g d=>hr.2.2.2 i j x y g (by dsimp only at d;omega)⟩ d!
  obtain⟨j,q1,T⟩:=hr.2.2.1 i x (by dsimp only at C;omega) D_;exact⟨j,d!,T⟩
def AIJ{a:Type}{f:E a->Y×Y->W (E a)}{l:E a}{Q:E a->Prop}(g:An (f l (0,(Z l:Y))) Q)(e:∀r,Q r->r.Perm l)(h:Z l<=12)(n:Y):An (sh (λ(_:E a×(Y×(Y×Y))->W (E a)) p=>pdG f p.1 p.2) (l,0,S l,n)) Q:=by
 have step:An (pdG f l (0,S l,n)) Q:=by unfold pdG;refine AA (P:=Q) ?_ λr hr=>AB hr;rw[Df];unfold AJU;dsimp[S];rw[Aa,G! o!,B!];have⟨r,hr,c⟩:=g;have:=e r c;grind[Vp]
 have⟨r,hr,c⟩:=step;have⟨s,d⟩:=gw (f:=λ(_:E a×(Y×(Y×Y))->W (E a)) p=>pdG f p.1 p.2) (x:=(l,0,S l,n)) (n:=1) hr;have⟨N,b⟩:=dw d;refine⟨s,d,?_⟩;cases N with
 |zero=>cases b
 |succ N=>exact step.get b
def AIO{a:Type}{f:E a->Y×(Y×Y)->W (E a)}{l:E a}{Q:E a->Prop}(d:∀n,An (f l (0,S l,n)) Q)(c:∀r,Q r->r.Perm l)(h:Z l<=12):An (soG f l) Q:=by unfold soG Tk;obtain⟨n,g,-,-⟩:=ABk (x:=Z l) o!;obtain⟨r,hr,b⟩:=d n;have:=c r b;refine⟨r,?_,b⟩;grind[XW,Vp]
def AHo{l:E Y}(h:Z l<=12)(hn:l.Nodup):An (Mn l ()) λr=>r.Perm l/\r.Pairwise λx y=>x<y:=
 AIO (λn=>AIJ (AAt (R:=λx y:Y=>x<y) (λx y z a b=>o!) (λx y d f=>Wg.mono λr hr=>⟨λh=>q!,λh i j a b c=>by
  have:y≠x:=λe=>by subst e;have:=(FA.1 (F5.1 hn)) i j (Ce a) (Ce b) c;grind
  grind⟩) o!) (λr hr=>hr.1) h n) (λr hr=>hr.1) h
def AH7(x y:Y):An (Du (x,y)) λr=>(r<0↔x<y):=by unfold Du Fb;simp only[H!,AD,A!];exact AC (λh=>AB ⟨λ_=>h,λ_=>g!⟩) (λh=>AC (λg=>AB ⟨n!,λq=>O! q h⟩) (λg=>AB ⟨n!,λq=>O! q h⟩))
def AHq{l:E Aj}(h:Z l<=12)(hn:l.Pairwise λx y=>x.1≠y.1):An (FK l ()) λr=>r.Perm l/\r.Pairwise λx y=>x.1<y.1:=
 AIO (λn=>AIJ (AAt (R:=λx y:Aj=>x.1<y.1) (λx y z a b=>o!) (λx y d e=>by
  unfold NH;refine AA (AH7 x.1 y.1) λr hr=>AB ⟨λh=>hr.1 (N! h),λh i j a b c=>?_⟩;have h:=of_decide_eq_false h;have:y.1≠x.1:=by have:=(FA.1 hn) i j (Ce a) (Ce b) c;grind
  have:=mt hr.2 h;omega) o!) (λr hr=>hr.1) h n) (λr hr=>hr.1) h
def tS(x y:Bb):Prop:=y.1<x.1\/(x.1=y.1/\y.2.1<x.2.1)
def AHt{l:E Bb}(h:Z l<=12)(hn:l.Pairwise λx y=>y.2.1<x.2.1):An (DA l ()) λr=>r.Perm l/\r.Pairwise tS:=by
 unfold DA;refine AA (P:=λr=>r.Perm l/\r.Pairwise tS) ?_ λr hr=>by rw[Vp hr.1,B!];exact AB hr
 unfold HB;rw[Df];unfold IX;dsimp[S];rw[F! o!,A!];dsimp[σ];have⟨r,hr,e,f⟩:=AAt (c:=KW) (n:=λg=>decide (g<0)) (l:=l) (R:=tS) (λx y z a b=>by unfold tS at*;omega) (λx y k m=>by
  unfold KW;refine AA (AH7 y.1 x.1) λr hr=>AB ⟨λh=>.inl (hr.1 (N! h)),λh i j a b d=>?_⟩;have h:=of_decide_eq_false h;have:x.2.1<y.2.1:=by have:=(FA.1 hn) i j (Ce a) (Ce b) d;grind
  have:=mt hr.2 h;unfold tS;omega) o!
 refine⟨r,?_,e,f⟩;grind[EE,Vp,Df,IY]
def AHm{A t:Bc}{b:UInt8}:six (A++b::t) (Z A:Y)=D (b.toNat:Y):=by grind[six]
def AHa{x}(h:Eb x):An (Ak (HD (Ij x)) (0,(x.1,x.2.1,Ge.all (X,[])),0,0,Ge.all (X,[]))) λr=>∃z,r=.inr (x,z):=by
 have y:=Yz h;refine CV (λs=>0<=s.1/\s.1<=16/\s.2.1.1=x.1/\s.2.1.2.1=x.2.1/\∀j:Fin 16,s.2.1.2.2 j=if(j.val:Y)<s.1 then x.2.2 j else(X,[])) (λs=>(16-s.1).toNat) ⟨Ag _,u!,rfl,rfl,λj=>by rw[D! d!];rfl⟩ ?_;rintro⟨i,⟨p,n,a⟩,z⟩ ⟨l,J,C,hn,g⟩;dsimp only at l J C hn g;subst C hn;unfold HD;dsimp only;refine AC (λk=>?_) (λk=>k? ⟨z,?_⟩)
 ·rw[Aa (x:=i*13),Aa (x:=12+i*13),Aa (x:=12+i*13+1),Aa (x:=i+1)];have⟨N,D_⟩:=nA (a:=x.2.2) (i:=i.toNat) o!;have⟨A_,r,t,M⟩:=wQ h (i:=i.toNat) o!;have b:=h.cl i.toNat
  generalize G:cl x.2.2 i.toNat=c at*;have B:Z A_+(13+Z r)=256:=by have:=y;rw[t,AV,AV,dp b.1]at this;exact this
  have f:six (Ij x) (12+i*13)=D (if c.1=A then(Z c.2:Y)else 255):=by have q:=b.1;have e:XH c=UInt8.ofNat ((if c.1=A then(Z c.2:Y)else 255)%256).toNat::(c.2++jt (12-Z c.2)):=rfl;rw[t,show(12+i*13:Y)=(Z A_:Y) by omega,e,Dx,AHm,fm];apply E! D;split<;>omega
  rw[f,AD];have E:∀m:Ge 16 Cr,(∀j:Fin 16,m j=if(j.val:Y)<i+1 then x.2.2 j else(X,[]))->An (D (Step.next (i+1,(x.1,x.2.1,m),z)):W (Step (Y×AT×AT) ((Y×AT)⊕(AT×AT)))) (Jj (λs=>0<=s.1/\s.1<=16/\s.2.1.1=x.1/\s.2.1.2.1=x.2.1/\∀j:Fin 16,s.2.1.2.2 j=if(j.val:Y)<s.1 then x.2.2 j else(X,[])) (λs=>(16-s.1).toNat) (16-i).toNat λr=>∃z,r=.inr (x,z)):=λm o=>y! ⟨d!,d!,rfl,rfl,o⟩ d!
  by_cases d:c.1=A;have q:=b.1;rw[C! d,Aa (x:=(Z c.2:Y)),beq_eq_false_iff_ne.2 o!,A!,F! o!,A!,Aa];have⟨s,I,u⟩:=Bx (s:=Ij x) (lo:=12+i*13+1) (hi:=12+i*13+1+(Z c.2:Y)) o! o! (by rw[y];omega);have w:s=c.2:=by
   rw[u.1,t];have K:(12+i*13+1).toNat=Z A_+1:=o!
   have L:(12+i*13+1+(Z c.2:Y)).toNat-(12+i*13+1).toNat=Z c.2:=o!
   grind[List.drop_drop,List.drop_left,XH,t?,List.drop_left',A0,List.take_left]
  rw[I,w,AD];have⟨v,F,_⟩:=Ch (a:=a) l k;rw[F,AD,AD];exact E _ (ABo g ⟨l,k⟩ λH=>D_.symm.trans (Di d rfl));rw[D! d,Aa,beq_iff_eq.2 rfl,B!];exact E _ (yn g ⟨l,k⟩ λH=>D_.symm.trans (Di (by simpa using d) (b.2.resolve_left d)))
 refine E! Sum.inr (Di (Di rfl (Di rfl (funext λj=>?_))) rfl);exact(g j).trans (C! o!)
def yN{a t:Bc}{n k:Y}(h:(Z a:Y)+Z t<=2199023255552)(b:1<=k)(d:k<=8)(e:k<=Z t)(g:t.take (ο k)=DB n (ο k))(hn:0<=n)(f:n<256^ο k)(c:n<9223372036854775808):A4 (a++t,(Z a:Y),k)=D (n,0):=by grind[jw,ABM]
theorem ADc{x}(h:Eb x)(hn:x.2.1≠0):Ez (Ij x)=D (x,0):=by
 have b:=Yz h;have A_:=h.2.1;have B:=h.2.2.2.1;unfold Ez;have⟨y,e,m⟩:=Bx (s:=Ij x) (lo:=0) (hi:=8) g! g! (by rw[b];decide);have⟨u,f,o⟩:=Bx (s:=Ij x) (lo:=248) (hi:=256) g! g! (by rw[b];decide);have⟨w,g,p⟩:=Bx (s:=Ij x) (lo:=0) (hi:=244) g! g! (by rw[b];decide);have q:u=DB x.2.1 8:=by rw[o.1];show List.take 8 (List.drop 248 (Ij x))=_;rw[o8 h,BN (by rw[A0];exact Ao _)]
 have r:w=Ll x:=p.1.trans (by show List.take 244 (Ij x)=_;unfold Ij;exact F6 (HV h));have c:=aJ (Ll x);have i:A4 (Ij x,244,4)=D (QR (Ll x),0):=by have:=yN (a:=Ll x) (t:=DB (QR (Ll x)) 4++DB x.2.1 8) (n:=QR (Ll x)) (k:=4) (by simp only[AV,A0,HV h];decide) g! g! (by simp only[AV,A0];decide) (F6 (A0 _ _)) o! (by simp[Int.reduceToNat];omega) o!;rw[HV h]at this;exact this
 have j:A4 (Ij x,8,4)=D (x.1,0):=by have:=yN (a:=DB x.2.1 8) (t:=DB x.1 4++(Pu x.2.2 16++(jt 24++(DB (QR (Ll x)) 4++DB x.2.1 8)))) (n:=x.1) (k:=4) (by simp only[AV,A0,Jd h,jt,H4];omega) g! g! (by simp[AV,A0];omega) (by exact F6 (A0 _ _)) h.1 (by simp[Int.reduceToNat];omega) o!;grind[A0,Ij,Ll,t?]
 have l:A4 (Ij x,0,8)=D (x.2.1,0):=yN (a:=[]) (t:=Ij x) (n:=x.2.1) (k:=8) (by rw[b];decide) g! g! (by rw[b];decide) VN h.2.2.1 (by simp[Int.reduceToNat];omega) o!;obtain⟨v,d,z,rfl⟩:=AHa h;rw[(by simp[S];omega:S (Ij x)=256),H!,A!,sy,AD,beq_eq_false_iff_ne.2 (AB4 h hn),A!,e,AD,f,AD,m.1.trans VN,q,H!,A!,i,AD,g,AD,r,xO (by rw[HV h];decide),AD,show ι .u32 (QR (Ll x))=QR (Ll x) by rw[xH];omega,H!,A!,l,AD,j,AD,d,AD,nY,Yc h,AD,H!,H!];rfl
theorem AFe{x}(h:Eb x)(a:x.2.1=0->x=(x.1,0,Ge.all (X,[]))):Ci (dt x,x.1)=D (x,0):=by have b:=h.1;have c:=h.2.1;unfold Ci dt;dsimp only;rw[F! o!,A!,F! o!,A!];by_cases hn:x.2.1=0;rw[C! hn];rw[(by grind[Ez,jt,List.length_replicate,sy,p?]:Ez (jt 256)=D ((0,0,Ge.all (X,[])),7)),AD];exact E! (λq=>D (q,(0:Y))) (a hn).symm;grind[ADc,p?]
def rF{L}(h:HS L)(a:Z L<=1099511627776){p:Y}(b:0<=p/\p<64){k}:Ci (dt (st (L.take k) p),p)=D (st (L.take k) p,0):=by grind[AFe,X2,ACX,Rw]
def AKe{A p R:Bc}(h:(Z A:Y)+Z p+Z R<=1099511627776)(a:Z p<=8392):Bg (A++(HM p++R),(Z A:Y))=D (p,(Z A:Y)+8+Z p,0):=by grind[Pd,n?,DY,jy]
theorem k9(L:E EN)(n:V):S (IP L n)=n:=by grind[Ix]
theorem ph{L:List EN}(h:HS L)(j:θ L<=1099511627776){s:Int}{n k:Nat}(c:1<=s/\s<=1073741824)(hn:1<=n/\n<=64):Ds (s,(n:Int),IP (L.take k) n)=δ ζ:=by
 suffices c:An (Ds (s,(n:Int),IP (L.take k) n)) λr=>r=ζ by obtain⟨r,hr,rfl⟩:=c;exact hr
 unfold Ds;dsimp only;rw[F! o!,A!,F! o!,A!,F! o!,A!,F! o!,A!];refine AA (P:=λr=>r=.inr ()) ?_ λr hr=>by rw[hr];exact A3 (AB rfl)
 refine CV (λ(s:Int)=>0<=s/\s<=n) (λs=>((n:Int)-s).toNat) ⟨Ag _,o!⟩ (λi g=>?_);have⟨d,m⟩:=g;unfold OL;dsimp only;rw[k9];refine AC (λa=>?_) (λ_=>An.done rfl);have e:An (δ (Step.next (wi (i+1))):Option (Step Int (Bool⊕Unit))) (Jj (λ(s:Int)=>0<=s/\s<=n) (λs=>((n:Int)-s).toNat) ((n:Int)-i).toNat λr=>r=.inr ()):=by grind[Aa,An.next]
 have f:(Ww (st (L.take k) i)).1=i:=Rw _ _;rw[cF d a,AD,f,F! o!,A!,F! o!,A!];have b:Ci ((Ww (st (L.take k) i)).2.2,i)=δ (st (L.take k) i,0):=rF h j ⟨d,o!⟩;refine AC (λl=>?_) (λ_=>?_);rw[Aa,cF o! o!,AD,show(Ww (st (L.take k) (i-1))).1=i-1 from Rw _ _,F! o!,A!,b,AD];exact AK (λa=>O! rfl a) (λ_=>AK (λa=>O! rfl a) (λ_=>e));rw[b,AD];exact AK (λa=>O! rfl a) (λ_=>AK (λa=>O! rfl a) (λ_=>e))
def ACb{L}(h:HS L)(a:Z L<=1099511627776){s:Y}{n k:V}(b:1<=s/\s<=1073741824)(hn:1<=n/\n<=64):JU (c! s n L k)=D A:=by grind[JU,ph,p?,k9]
def AEo{L}(h:HS L)(d:Z L<=1099511627776){s i:Y}{n k:V}(e:1<=s/\s<=1073741824)(hn:1<=n/\n<=64)(c:0<=i/\i<n):IM ((c! s n L k),i)=D (Ww (st (L.take k) i),A):=by
 suffices a:An (IM ((c! s n L k),i)) λr=>r=(Ww (st (L.take k) i),A) by obtain⟨r,hr,rfl⟩:=a;exact hr
 refine AA (P:=λr=>r=.inl (A,Ww (st (L.take k) i))) ?_ λr hr=>by rw[hr];exact BC (AB rfl)
 refine CV (λt=>0<=t.1/\t.1<=i) (λt=>(i-t.1).toNat) ⟨Ag _,c.1⟩ ?_;rintro⟨t,z⟩ ⟨b,f⟩;dsimp only at b f;unfold Up;dsimp only;rw[k9,G! o!,B!,ph h d e hn,AD,B!,cF b o!,AD,show(Ww (st (L.take k) t)).1=t from Rw _ _];grind[AQ,p?,k?,Aa,y!]
def AFV{L}(h:HS L)(a:Z L<=1099511627776){s i:Y}{n k:V}(c:1<=s/\s<=1073741824)(hn:1<=n/\n<=64)(b:0<=i/\i<n):J8 ((c! s n L k),i)=D (st (L.take k) i,0):=by unfold J8;dsimp only;rw[ph h a c hn,AD,CE,A!,AEo h a c hn b,AD];dsimp only;rw[CE,A!,show Ci ((Ww (st (L.take k) i)).2.2,i)=D (st (L.take k) i,0)from rF h a ⟨b.1,o!⟩];rfl
def AD6{n:Int}{L:List EN}{a:AJ}{l:Ad}{y s:Int}{m j k:Nat}(K:LI n L)(e:HS L)(B:AR L a)(q:Ye L l)(f:j<=k)(M:k<=θ L)(U_:(m:Int)=a.2.1)(hn:1<=m/\m<=64)(A_:1<=y/\y<=1073741824):An (Nf ((y,(m:Int),IP (L.take j) m),a,l,s,(k:Int))) λr=>r.2=0->1<=s/\s<=1073741824/\r.1=(s,(m:Int),IP (L.take k) m):=by
 have C:=q.len;have N:=λp h=>X2 e (p:=p) h (by omega:θ L<=1099511627776);unfold Nf;rw[ACb e o! A_ hn,AD,CE,A!];refine AA NC λV o=>AP (λd=>O! (o.2 B.vb) (by simp[d])) (λ_=>AA BZ λW G=>AP (λd=>O! (G.2 q.vl) (by simp[d])) (λ_=>?_));dsimp only;refine AC (λ_=>AB n!) (λQ=>AC (λ_=>AB n!) (λR=>AC (λ_=>AB n!) (λS=>AC (λ_=>AB n!) (λT=>AA (P:=λr=>(∀u,r=.inl u->u.1≠0)/\∀u,r=.inr u->(u.1,u.2.1,u.2.2.1)=(IP (L.take k) m,s,(m:Int))) ?_ λr hr=>BA (λu b=>AB λc=>O! c (hr.1 u b)) (λu b=>AB λ_=>⟨o!,o!,?_⟩)))))
 ·refine CV (λ(t:Int×List Ck×Int×Int×Aj)=>0<=t.1/\t.1<=m/\∃z,t.2=(IP (L.take k) t.1.toNat,s,(m:Int),z)) (λt=>((m:Int)-t.1).toNat) ⟨Ag _,d!,_,rfl⟩ ?_;rintro⟨i,t⟩ ⟨g,O,z,D_⟩;dsimp only at g O D_;subst D_;unfold Ur;dsimp only;rw[k9];refine AC (λd=>?_) (λd=>An.done ⟨λu b=>(by cases b),λu b=>(by cases b;rw[show i.toNat=m by omega])⟩);have F:(Ww (st (L.take j) i)).1=i:=Rw _ _;rw[cF g d,AD,F,AFV e o! A_ hn ⟨g,d⟩,AD];refine AA (AEB K e B q f M ⟨g,o!⟩ o!) λX_ H=>AK (λd=>An.done ⟨λu b=>(by cases b;exact d),λu b=>(by cases b)⟩) (λc=>?_);rw[H c];refine AA (P:=λv=>v=Ww (st (L.take k) i)) ?_ λY I=>AA (Ac (by rw[Ix];simp;omega)) λZ J=>?_;refine AC (λh=>?_) (λh=>AB ?_);grind[Yc,AB,Ww,dt];rw[KB]at h;have w:=R9 e i j k f;have x:=YL e i j;grind[mP]
  ·rw[Aa];refine An.next ⟨d!,d!,z,?_⟩ d!
   dsimp only;rw[J.1,I,show(i+1).toNat=i.toNat+1 by omega,zN,Iz g]
 have:=hr.2 u b;dsimp only;have w:=E! (·.1) this;have x:=E! (·.2.1) this;have E:=E! (·.2.2) this;dsimp only at w x E;rw[w,x,E]
def nB(c:Ck):Bc:=DB c.1 2++c.2.2
def rq(cs:E Ck):Bc:=cs.flatMap λc=>HM (nB c)
def mm(x:Aj):Bc:=[80,77,73,77]++(DB x.1 4++(DB x.2.1 2++DB (Z x.2.2:Y) 2))
def encI(x:Aj):Bc:=HM (mm x)++rq x.2.2
def ic(x:Aj):(mm x).length=12:=by grind[mm,n?,A0,List.length_cons,List.length_nil]
theorem ox{x}(h:Eb x):(dt x).length=256:=by grind[dt,jt,List.length_replicate,Yz]
def oz{L}(h:HS L)(b:Z L<=1099511627776){k n:V}(hn:n<=64){c:Ck}(a:c∈IP (L.take k) n):(nB c).length=258:=by grind[List.mem_iff_getElem?,Ce,Ix,qi,Option.some.inj,nB,Ww,n?,A0,ox,X2]
theorem aM{a:E Ck}(h:∀c∈a,(nB c).length=258):(rq a).length=266*Z a:=by induction a<;>grind[rq,HM,nB,n?,DY,List.length_cons]
def AAM{L:List EN}(h:HS L)(m:θ L<=1099511627776){s:Int}{n k:Nat}(y:1<=s/\s<=1073741824)(hn:1<=n/\n<=64):Iw (s,(n:Int),IP (L.take k) n)=δ (encI (s,(n:Int),IP (L.take k) n),0):=by
 suffices o:An (Iw (s,(n:Int),IP (L.take k) n)) λr=>r=(encI (s,(n:Int),IP (L.take k) n),0) by obtain⟨r,hr,rfl⟩:=o;exact hr
 have j:∀c∈IP (L.take k) n,(nB c).length=258:=λc d=>oz h m hn.2 d;unfold Iw;rw[ph h m y hn,AD,CE,A!];refine AA (oN k! g!) λE q=>AA (oN (by rw[q];simp[A0]) g!) λF w=>AA (oN (by rw[w,q];simp[A0]) g!) λB D_=>?_;rw[(by grind[mm,List.append_assoc,Int.reduceToNat]:B=mm (s,(n:Int),IP (L.take k) n)),cM (by rw[ic];decide),AD];refine AA (P:=λr=>r=encI (s,(n:Int),IP (L.take k) n)) ?_ λr hr=>AB (by rw[hr]);refine CV (λ(t:Bc×Int)=>0<=t.2/\t.2<=n/\t.1=HM (mm (s,(n:Int),IP (L.take k) n))++rq ((IP (L.take k) n).take t.2.toNat)) (λt=>((n:Int)-t.2).toNat) ⟨Ag _,d!,by simp[rq]⟩ ?_;rintro⟨t,i⟩ ⟨e,z,u⟩;dsimp only at e z u;subst u;unfold Sk;dsimp only;rw[k9];refine AC (λd=>?_) (λd=>An.done (by rw[BN (l:=IP (L.take k) n) (by rw[Ix];omega)];rfl));have a:=qi (L:=L.take k) (n:=n) (i:=i.toNat) o!;rw[Iz e]at a;rw[cF e d,AD,AD,Aa];have x:(rq ((IP (L.take k) n).take i.toNat)).length<=17024:=by grind[aM,List.mem_of_mem_take,List.length_take,Ix]
 have b:=j _ (BP a);have g:(Ww (st (L.take k) i)).2.2.length=256:=ox (X2 h ⟨e,o!⟩ m k);refine AA (oN k! g!) λG p=>AA (CR (by rw[p,Bt,A0,g];decide)) λC v=>?_;rw[(by rw[v.1,p];rfl:C=nB (Ww (st (L.take k) i))),cM (by rw[b];decide),AD];refine AA (CR (by rw[AV,DY,DY,ic,b];omega)) λA_ f=>An.next ⟨d!,d!,?_⟩ d!
 dsimp only;rw[f.1,show(i+1).toNat=i.toNat+1 by omega,Ca,a,A2];grind[rq,Option.toList_some]
def ACL{a t:Bc}{n k:Y}(h:(Z a:Y)+Z t<=2199023255552)(b:1<=k)(d:k<=8)(e:k<=Z t)(g:t.take (ο k)=DB n (ο k))(hn:0<=n)(f:n<256^ο k)(c:n<9223372036854775808):Ba (a++t,(Z a:Y),k)=D n:=by unfold Ba;rw[yN h b d e g hn f c];rfl
theorem AAL{L:List EN}(h:HS L)(B:θ L<=1099511627776){s:Int}{n k:Nat}(N:1<=s/\s<=1073741824)(hn:1<=n/\n<=64):C9 (encI (s,(n:Int),IP (L.take k) n))=δ ((s,(n:Int),IP (L.take k) n),0):=by
 suffices E:An (C9 (encI (s,(n:Int),IP (L.take k) n))) λr=>r=((s,(n:Int),IP (L.take k) n),0) by obtain⟨r,hr,rfl⟩:=E;exact hr
 have f:∀c∈IP (L.take k) n,(nB c).length=258:=λc m=>oz h B hn.2 m;have u:(rq (IP (L.take k) n)).length=266*n:=by rw[aM f,Ix]
 have b:=ic (s,(n:Int),IP (L.take k) n);have D_:(encI (s,(n:Int),IP (L.take k) n)).length=20+266*n:=by unfold encI;rw[AV,DY,b,u]
 have Z:Bg (encI (s,(n:Int),IP (L.take k) n),0)=δ (mm (s,(n:Int),IP (L.take k) n),20,0):=by have:=AKe (A:=[]) (p:=mm (s,(n:Int),IP (L.take k) n)) (R:=rq (IP (L.take k) n)) (by rw[b,u,Be];omega) (by rw[b];decide);rw[b]at this;exact this
 unfold C9;rw[Z,AD];dsimp only;have y:mm (s,(n:Int),IP (L.take k) n)=[80,77,73,77]++(DB s 4++(DB (n:Int) 2++DB (n:Int) 2)):=by unfold mm;dsimp only;rw[Ix]
 have S:Ba (mm (s,(n:Int),IP (L.take k) n),4,4)=δ s:=by rw[y];exact ACL (a:=[80,77,73,77]) (t:=DB s 4++(DB (n:Int) 2++DB (n:Int) 2)) (n:=s) (k:=4) (by simp only[AV,A0];decide) g! g! (by simp only[AV,A0];decide) (F6 (A0 _ _)) o! (by simp[Int.reduceToNat];omega) o!
 have T:Ba (mm (s,(n:Int),IP (L.take k) n),8,2)=δ (n:Int):=by rw[y,<-A2];exact ACL (a:=[80,77,73,77]++DB s 4) (t:=DB (n:Int) 2++DB (n:Int) 2) (n:=n) (k:=2) (by simp only[AV,A0];decide) g! g! (by simp only[AV,A0];decide) (F6 (A0 _ _)) o! (by simp[Int.reduceToNat];omega) o!
 have U_:Ba (mm (s,(n:Int),IP (L.take k) n),10,2)=δ (n:Int):=by rw[y,<-A2,<-A2];exact ACL (a:=[80,77,73,77]++DB s 4++DB (n:Int) 2) (t:=DB (n:Int) 2) (n:=n) (k:=2) (by simp only[AV,A0];decide) g! g! (by simp only[A0];decide) (BN (by rw[A0];decide)) o! (by simp[Int.reduceToNat];omega) o!
 obtain⟨v1,W,X_⟩:=Bx (s:=mm (s,(n:Int),IP (L.take k) n)) (lo:=0) (hi:=4) g! g! (by rw[b];decide);have Y:v1=[80,77,73,77]:=X_.1.trans (by rw[y];rfl);rw[H!,A!,show(len (mm (s,(n:Int),IP (L.take k) n)) !=12)=η by unfold len;rw[b];rfl,A!,W,Option.bind_some,Y,H!,A!,S,Option.bind_some,T,Option.bind_some,U_,Option.bind_some,F! o!,A!];refine AA (P:=λr=>∃z,r=.inr (20+266*(n:Int),IP (L.take k) n,s,(n:Int),z)) ?_ λr hr=>?_
 ·refine CV (λ(t:Int×Int×List Ck×Int×Int×Aj)=>0<=t.2.1/\t.2.1<=n/\t.1=20+266*t.2.1/\∃z,t.2.2=((IP (L.take k) n).take t.2.1.toNat,s,(n:Int),z)) (λt=>((n:Int)-t.2.1).toNat) ⟨Ag _,d!,d!,_,rfl⟩ ?_;rintro⟨I,i,t⟩ ⟨x,Q,j,z,G⟩;dsimp only at x Q j G;subst G j;unfold M7;dsimp only;refine AC (λm=>?_) (λm=>An.done ⟨z,by rw[show i=n by omega,BN (l:=IP (L.take k) n) (by rw[Ix];omega)]⟩);have d:=qi (L:=L.take k) (n:=n) (i:=i.toNat) o!;rw[Iz x]at d;have e:=f _ (BP d);have g:IP (L.take k) n=(IP (L.take k) n).take i.toNat++(Ww (st (L.take k) i)::(IP (L.take k) n).drop (i.toNat+1)):=by
   have v:=Ce d;conv=>lhs;rw[<-C4 i.toNat (IP (L.take k) n),KH v]
   rw[Au v]at d;rw[BL d]
  have H:(HM (mm (s,(n:Int),IP (L.take k) n))++rq ((IP (L.take k) n).take i.toNat)).length=20+266*i.toNat:=by rw[AV,DY,b,aM λc m=>f c (EJ m),BU,Ix];omega
  have lr:(rq ((IP (L.take k) n).drop (i.toNat+1))).length<=17024:=by rw[aM λc m=>f c (Nn m),DO,Ix];omega
  have M:encI (s,(n:Int),IP (L.take k) n)=(HM (mm (s,(n:Int),IP (L.take k) n))++rq ((IP (L.take k) n).take i.toNat))++(HM (nB (Ww (st (L.take k) i)))++rq ((IP (L.take k) n).drop (i.toNat+1))):=by
   conv=>lhs;unfold encI;dsimp only;arg 2;rw[g]
   unfold rq;rw[WY,H8,A2]
  have O:Bg (encI (s,(n:Int),IP (L.take k) n),20+266*i)=δ (nB (Ww (st (L.take k) i)),20+266*(i+1),0):=by have:=AKe (A:=HM (mm (s,(n:Int),IP (L.take k) n))++rq ((IP (L.take k) n).take i.toNat)) (p:=nB (Ww (st (L.take k) i))) (R:=rq ((IP (L.take k) n).drop (i.toNat+1))) (by rw[H,e];omega) (by rw[e];decide);rw[<-M,H,e]at this;rw[show(20+266*i:Int)=((20+266*i.toNat:Nat):Int) by omega,this];refine E! (λw=>δ (nB (Ww (st (L.take k) i)),w,(0:Int))) ?_;omega
  have q:(dt (st (L.take k) i)).length=256:=ox (X2 h ⟨x,o!⟩ B k);have F:nB (Ww (st (L.take k) i))=DB i 2++dt (st (L.take k) i):=by unfold nB Ww;rw[Rw]
  have V:Ba (nB (Ww (st (L.take k) i)),0,2)=δ i:=by rw[F];exact ACL (a:=[]) (t:=DB i 2++dt (st (L.take k) i)) (n:=i) (k:=2) (by rw[AV,A0,q];decide) g! g! (by rw[AV,A0,q];decide) (F6 (A0 _ _)) x (by simp[Int.reduceToNat];omega) o!
  obtain⟨w1,J,K⟩:=Bx (s:=nB (Ww (st (L.take k) i))) (lo:=2) (hi:=258) g! g! (by rw[e];decide);have w2:w1=dt (st (L.take k) i):=by rw[K.1,F];show List.take 256 (List.drop 2 (DB i 2++dt (st (L.take k) i)))=_;rw[lm (A0 _ _),BN o!]
  have o:len (nB (Ww (st (L.take k) i)))=258:=by unfold len;rw[e];rfl
  rw[O,AD];dsimp only;rw[H!,A!,o,H!,A!,J,AD,V,AD,w2,rF h B ⟨x,o!⟩,AD];refine AA (Ac (by rw[BU,Ix];simp;omega)) λad C=>?_;rw[Aa];refine An.next ⟨d!,d!,rfl,z,?_⟩ d!
  dsimp only;rw[C.1,show(i+1).toNat=i.toNat+1 by omega,Ca,d];unfold Ww;rw[Rw];rfl
 obtain⟨z,rfl⟩:=hr;apply A3;dsimp only;rw[show((20+266*(n:Int)) !=len (encI (s,(n:Int),IP (L.take k) n)))=η by unfold len;rw[D_];simp,A!,ph h B N hn,Option.bind_some,Bool.not_true,A!];exact AB rfl
def PI(L:E EN)(d:Y)(m:V)(x:Aj):Prop:=∃j:V,(j:Y)<=d/\1<=x.1/\x.1<=1073741824/\x=(x.1,(m:Y),IP (L.take j) m)
def FI(L:E EN)(d:Y)(m:V)(f:Ap):Prop:=∃x,PI L d m x/\f.2.2=encI x
def AD0{L:List EN}(h:HS L)(c:θ L<=1099511627776){d:Int}{m:Nat}(hn:1<=m/\m<=64){x:Aj}(a:PI L d m x):An (Kw x) λf=>FI L d m f:=by have⟨j,i,e,g,b⟩:=id a;have:=AAM h c (k:=j) ⟨e,g⟩ hn;rw[<-b]at this;unfold Kw;rw[this,AD];exact AB ⟨x,a,rfl⟩
def AD3{n:Int}{L:List EN}{b:AL}{a:AJ}{l:Ad}{m:Nat}(O:CX b)(N:LI n L)(o:HS L)(M:AR L a)(z:Ye L l)(w:0<=l.2.2/\l.2.2<=θ L)(Q:(m:Int)=a.2.1)(hn:1<=m/\m<=64):An (ML b ((m:Int),a,l)) λr=>CX r.2/\θ r.1<=8/\∀f∈r.1,FI L l.2.2 m f:=by
 have A_:=z.len;have V:PI L l.2.2 m (1,(m:Int),IP [] m):=⟨0,w.1,d!,d!,rfl⟩
 unfold ML;rw[AFB hn.2,AD];refine AA (AW O g!) λv1 H=>?_;have⟨E,_,_⟩:=H;refine AA (P:=λh=>θ h<=1/\∀f∈h,FI L l.2.2 m f) ?_ λv3 v=>?_;refine AC (λ_=>AA (AD0 o o! hn V) λf hf=>AB ⟨k!,λg y=>?_⟩) (λ_=>AB ⟨k!,λg y=>by simp at y⟩);grind[List.mem_singleton]
 ·refine AA (P:=λr=>CX r.2.1/\θ r.1<=8/\∀f∈r.1,FI L l.2.2 m f) ?_ λr hr=>AB hr;refine CV (λ(s:Int×Int×List Ap×AL×Aj)=>0<=s.1/\s.1<=l.2.2/\2<=s.2.1/\s.2.1<=4/\θ s.2.2.1<=s.2.1/\(∀f∈s.2.2.1,FI L l.2.2 m f)/\CX s.2.2.2.1/\1<=s.2.2.2.2.1/\s.2.2.2.2.1<=1073741824/\s.2.2.2.2=(s.2.2.2.2.1,(m:Int),IP (L.take s.1.toNat) m)) (λs=>(4-s.2.1).toNat) ⟨Ag _,w.1,d!,d!,by have:=v.1;dsimp only;omega,v.2,E,d!,d!,rfl⟩ ?_;rintro⟨t,i,h,c,x⟩ ⟨W,X_,T,U_,G,e,u,B,C,D_⟩;dsimp only at W X_ T U_ G e u B C D_;unfold TJ;dsimp only;refine AA (AW u g!) λY I=>?_;have⟨q,m5,n5⟩:=I;rw[Aa (x:=2+Y.1)];refine AC (λhc=>?_) (λ_=>An.done ⟨q,d!,e⟩);rw[Aa (x:=l.2.2-t),Aa (x:=l.2.2-t+1)];refine AA (AW q o!) λd J=>?_;have⟨F,m6,n6⟩:=J;rw[Aa (x:=t+d.1),D_];rw[(by omega:t+d.1=(((t+d.1).toNat:Nat):Int))];refine AA (AD6 (s:=i) N o M z (j:=t.toNat) (k:=(t+d.1).toNat) o! o! Q hn ⟨B,C⟩) λZ K=>AK (λ_=>An.done ⟨F,d!,e⟩) (λS=>?_);have⟨y1,y2,p⟩:=K S;have R:PI L l.2.2 m Z.1:=⟨(t+d.1).toNat,o!,by rw[p];exact y1,by rw[p];exact y2,by rw[p]⟩
  refine AA (AD0 o o! hn R) λv8 h8=>AA (Ac w!) λv9 h9=>?_;rw[Aa (x:=i+1)];grind[An.next,List.length_singleton,Int.toNat_natCast,List.mem_singleton]
end Go.Pm
