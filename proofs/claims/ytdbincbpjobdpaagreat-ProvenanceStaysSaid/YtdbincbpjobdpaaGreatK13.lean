/- Texts of wip, joined and shortened by wip/tools/pack.py; nothing is assumed. -/
import Derived.Test.YtdbincbpjobdpaaGreatK12
noncomputable section
set_option linter.all false
set_option maxHeartbeats 1000000
open Option renaming some->Z
open List renaming length->U
open Go renaming Ψ->S
open Bool renaming false->Y
open Bool renaming true->V
open Option renaming none->W
open Go renaming Ω->T
open Option renaming some->δ,none->ε,bind->σ
open Bool renaming true->ζ,false->η
open List renaming length->θ
open Go.IntKind renaming wrap->ι
open BitVec renaming ofInt->κ,toNat->π
open Nat renaming beq->ξ
open Int renaming toNat->ο
open Decidable renaming decide->τ
namespace Go.Pm
open Go Go.Ab
def YB{l:S EN}:(l.map (·.1)).Nodup->∀{a b:EN},a∈l->b∈l->a.1=b.1->a=b:=by
 induction l with
 |nil=>intro _ a b d;cases d
 |cons p r f=>intro e a b d c h;rw[CQ,G3]at e;rcases Aw.1 d with d|d;rcases Aw.1 c with c|c;rw[d,c];exact N! (by rw[<-d,h];exact WC c) e.1;rcases Aw.1 c with c|c;exact N! (by rw[<-c,<-h];exact WC d) e.1;exact f e.2 d c h
def AHI{B}(j:CP B){l:S EN}(h:U l<=B)(k:U l<=16777216)(hn:(l.map (·.1)).Nodup):Ap (vD C8 l) λr=>r.Perm l/\r.Pairwise λa b=>a.1<b.1:=by
 have n:=List.pairwise_mergeSort (le:=λa b:EN=>decide (a.1<=b.1)) (λa b c o p=>by simp only[K!]at*;omega) (λa b=>by simp only[P0,K!];omega) l;have i:(l.mergeSort λa b:EN=>decide (a.1<=b.1)).Perm l:=List.mergeSort_perm _ _;have g:(l.mergeSort λa b:EN=>decide (a.1<=b.1)).Pairwise λa b=>a.1<=b.1:=n.imp λh=>M! h;have key:∀m,l.Perm m->C8 m ()=Z (l.mergeSort λa b:EN=>decide (a.1<=b.1)):=λm f=>by have d:(m.map (·.1)).Nodup:=(f.map (·.1)).nodup_iff.1 hn;unfold C8 ACU;rw[C! ⟨d,by rw[<-f.length_eq];exact k⟩,<-ABc (key:=λe:EN=>e.1) d (i.trans f) g]
 refine⟨_,?_,i,?_⟩;unfold vD;rw[C!];exact key l (lL l);intro m f;rw[key m f,key l (lL l)];have d:=(i.map (·.1)).nodup_iff.2 hn;rw[IL,TQ]at d;exact(g.and d).imp λh=>o!
def wz:∀(n:Nat)(i:Int)(l:S Int),l.Nodup->(∀x∈l,i<x/\x<=i+n)->U l<=n
 |0,i,l,_,h=>by
  cases l with
  |nil=>exact Al _
  |cons a r=>have:=h a (Aw.2 (.inl rfl));omega
 |n+1,i,l,hl,h=>by
  have d:=wz n i (l.erase (i+(n+1:Nat))) (hl.erase _) λx c=>by have b:=(hl.mem_erase_iff).1 c;have:=h x b.2;have:=b.1;omega
  have e:U l<=(l.erase (i+(n+1:Nat))).length+1:=by rw[List.length_erase];split<;>omega
  omega
def YT(i:Int)(s:S EN):Prop:=∀(k:Nat)(e:EN),s[k]?=Z e->(k=0->e.2.2.2.2.1<=i)/\∀f,0<k->s[k-1]?=Z f->e.2.2.2.2.1=f.1
def AKN{a:AI}{l:AZ}{p i j:Int}{s:List EN}(O:s.length≤16777216):
  Ap (Aj (Pr (a,(l,(p,(i,j)))) s) (0,([],0))) λr=>(r= .inl ([],0)/\YT i s)\/(r= .inr ([],13)/\ ¬YT i s):=by
 refine AW (λ(t:Int×(List EN×Int))=>0<=t.1/\t.1<=s.length/\t.2=([],0)/\ ∀(k:Nat) (e:EN),k<t.1->s[k]? =some e->(k=0->e.2.2.2.2.1<=i)/\ ∀f,0<k->s[k-1]? =some f->e.2.2.2.2.1=f.1) (λt=>((s.length:Int)-t.1).toNat)
  ⟨Ae _,d!,rfl,λk e F=>(by dsimp only at F;omega)⟩ (λt K=>?_)
 obtain⟨b,P⟩:=t;obtain⟨C,L,G,D⟩:=K;dsimp only at C L G D;subst G;unfold Pr;dsimp only;refine AC (λn=>?_) (λn=>AB (.inl ⟨rfl,λk e d=>D k e ?_ d⟩));simp only[len]at n;have I:=AY (x:=b+1);rw[I];refine AA (AJ C n) λM _=>AA (AJ C n) λv h=>?_;have o:((b=0->v.2.2.2.2.1<=i)/\ ∀f,0<b->s[b.toNat-1]? =some f->v.2.2.2.2.1=f.1)->(0<=b+1/\b+1<=s.length/\(([],0):List EN×Int)=([],0)/\ ∀(k:Nat) (e:EN),k<b+1->s[k]? =some e->(k=0->e.2.2.2.2.1<=i)/\ ∀f,0<k->s[k-1]? =some f->e.2.2.2.2.1=f.1)/\((s.length:Int)-(b+1)).toNat<((s.length:Int)-b).toNat:=λE=>by
  refine⟨⟨o!,o!,rfl,λk e F d=>?_⟩,o!⟩;by_cases B:(k:Int)<b;exact D k e B d;have H:k=b.toNat:=o!
  subst H;rw[h.1]at d;injection d with d;subst d;exact⟨λy=>E.1 o!,λf y g=>E.2 f o! g⟩
 apply AP<;>intro y;refine AC (λu=>AB (.inr ⟨rfl,λA=>?_⟩)) (λu=>?_);have:=(A b.toNat v h.1).1 o!;omega;refine AC (λm=>absurd m o!) (λ_=>AB (o ⟨λ_=>o!,λf g=>absurd g o!⟩));refine AC (λu=>?_) (λu=>absurd u o!);have w:=AY (x:=b-1);rw[w];refine AA (AJ) λN _=>AA (AJ) λq z=>?_;have c:s[b.toNat-1]? =some q:=by rw[show b.toNat-1=(b-1).toNat by omega];exact z.1
 refine AL (λm=>AB (.inr ⟨rfl,λA=>m ((A b.toNat v h.1).2 q o! c)⟩)) (λm=>AB (o ⟨λJ=>absurd J y,λf _ g=>?_⟩));rw[c]at g;injection g with g;rw[<-g];exact m;simp only[len]at n;have:=(EU.1 d).1;omega
def AKQ{a:AI}{l:AZ}{p i j:Int}{s:S EN}(b:U s≤16777216):
  Ap (Aj (Pr (a,l,p,i,j) s) (0,[],0)) λr=>(r=.inl ([],0)/\YT i s)\/(r=.inr ([],13)/\¬YT i s):=AKN b
def VP(l:AZ)(low:Int)(rs:S AS):S (Int×Int):=(l.1,l.1+U l.2.1-1)::(rs.filter λr=>r.2.2.1==low).map λr=>(r.1,r.2.1)
def AAJ{a:AI}{l:AZ}{p:Int}{e:Int×(Int×Bool)}{b:List AS}{d:List Int}(A:De l)(k:Fz (a,p)=δ e)(B:e.2.2=ζ)(m:HY a=δ (b,d))(s:θ b=θ d)(o:θ b≤256):
  Pt (a,l,p)=δ (VP l e.1 b):=by
 obtain⟨F,w,y⟩:=Rc A;unfold Pt;dsimp only;rw[w,AD,k,AD,B,B9,A!,m,AD,y];have main:Ap (Aj (Th e (b,d)) (0,([(l.1,l.1+θ l.2.1-1)]:List (Int×Int)))) λr=>r=VP l e.1 b:=by
  refine AW (λ(t:Int×List (Int×Int))=>0<=t.1/\t.1<=θ b/\θ t.2<=t.1.toNat+1/\t.2=VP l e.1 (b.take t.1.toNat)) (λt=>((θ b:Int)-t.1).toNat) ⟨Ae _,d!,q!,rfl⟩ (λt z=>?_);obtain⟨g,E⟩:=t;obtain⟨n,C,D,j⟩:=z;dsimp only at n C D j;unfold Th;dsimp only;refine AC (λi=>?_) (λi=>AB ?_);simp only[len]at i;have u:=AY (x:=g+1);rw[u];refine AA (AJ n i) λv h=>?_;have f:b.take (g+1).toNat=b.take g.toNat++[v]:=by rw[show(g+1).toNat=g.toNat+1 by omega,Cr,h.1];rfl
  refine AK (λc=>?_) (λc=>AB ⟨⟨d!,d!,d!,?_⟩,d!⟩);refine AA (AJ n) λG _=>AA (Aa (by simp only[BY,Bj];omega)) λH q=>AB ⟨⟨d!,d!,?_,?_⟩,d!⟩;have:=q.2.1;simp only[BY,Bj]at this;dsimp only;omega;dsimp only;rw[q.1,j,f];unfold VP;rw[GO,LD,wF (by exact c)];rfl;dsimp only;rw[j,f];unfold VP;rw[GO,wE (by rw[c];decide)];simp;simp only[len]at i;rw[j,BO o!]
 obtain⟨r,q1,q2⟩:=main;rw[q1,AD,q2]
def pJ{l:S EN}:(l.map (·.1)).Nodup->l.Nodup:=by
 induction l with
 |nil=>intro _;exact Qq
 |cons p r b=>intro a;rw[CQ,G3]at a;exact G3.2 ⟨λh=>a.1 (WC h),b a.2⟩
def De.nodup{l}(h:De l):(l.2.1.map (·.1)).Nodup:=by obtain⟨l1,l2,i,j,k,a⟩:=h;rw[IL,TQ,Ed];intro x y b d c g;have e:=(a x _ (As b)).1;have f:=(a y _ (As d)).1;omega
def De.has{l}(h:De l){e:EN}(a:e∈l.2.1):QI (l.1,l.1+U l.2.1-1) e.1=V:=by obtain⟨k,b,a⟩:=WB.1 a;have c:=(h.2.2.2.2.2 k e (by rw[<-a];exact As b)).1;unfold QI;simp only[BV,K!];omega
structure AHu(l:AZ)(low p i j:Int)(rs:List AS):Prop where
 fromLog:∀f∈Kc low rs,IF p i j f=V->QI (l.1,l.1+U l.2.1-1) f.1=V->f∈l.2.1
 inRuns:∀e∈l.2.1,IF p i j e=V->((rs.filter λr=>r.2.2.1==low).any λr=>QI (r.1,r.2.1) e.1)=V->e∈Kc low rs
 own:∀r∈rs,∀f∈r.2.2.2.2.2,QI (r.1,r.2.1) f.1=V
 once:((Kc low rs).map (·.1)).Nodup
def AKw{B:Nat}{a:AI}{l:AZ}{p i j fl:Int}{c:Int×(Int×Bool)}{b:Ψ AS}{P:Ψ Int}(U:CP B)(hB:B≤16777216)(ao:j-i≤B)(hi:0≤i)(hj:i≤j)
  (h:VB a) (D:De l) (hp:0<=p/\p<a.2.1) (L:Fz (a,p)=δ c) (ht:c.2.2=ζ) (N:HY a=δ (b,P)) (w:θ b=θ P) (t:θ b<=256)
  (hr:∀r∈b,θ r.2.2.2.2.2<=4096) (V_:Mc (VP l c.1 b,j)=δ fl) (z:AHu l c.1 p i j b):
  Ap (HZ (a,l,p,i,j)) λr=>(fl>i/\r=([],42))\/(fl<=i/\∃s:Ψ EN,(s.Pairwise λx y=>x.1<y.1)/\(∀e,e∈s↔(e∈l.2.1\/e∈Kc c.1 b)/\IF p i j e=ζ)/\((YT i s/\r=(s,0))\/(¬YT i s/\r=([],13)))):=by
 have K:=D.nodup;unfold HZ;dsimp only;refine AA (aF (x:=(a,l,p,i)) h D ⟨hp.1,hp.2,hi⟩) λv0 h0=>AL (N! h0 ·) (λ_=>AC (N! · o!) (λ_=>?_));rw[AAJ D L ht N w t,AD,V_,AD];refine AC (λhf=>AB (.inl ⟨hf,rfl⟩)) (λhf=>AA (AKL D (by simp[VP]) (by have:=EM (λr:AS=>r.2.2.1==c.1) b;simp only[VP,BY,BW];omega)) λal H=>?_);rw[L,AD,ht,B9,A!,N,AD];have hP:∀v∈Kc c.1 b,IF p i j v=ζ->(QI (l.1,l.1+θ l.2.1-1) v.1=ζ->(v∈l.2.1/\IF p i j v=ζ))/\∀e,((e∈l.2.1/\IF p i j e=ζ)\/(e∈Kc c.1 b/\IF p i j e=ζ))->e.1=v.1->e=v:=λv Z_ E=>by refine⟨λk=>⟨z.fromLog v Z_ E k,E⟩,λe u A=>?_⟩;rcases u with⟨u,_⟩|⟨u,_⟩;have ad:=z.fromLog v Z_ E (by rw[<-A];exact D.has u);exact YB K u ad A;exact YB z.once u Z_ A
 apply AA (AKO (sp:=(l.1,l.1+θ l.2.1-1)) rfl H.2 w t hr hP);rintro q ⟨m,n,rfl,o,hn⟩;apply BB;dsimp only;have f:al.1=n:=by
  rw[H.1,hn];refine E! Int.ofNat (List.Perm.length_eq ?_)
  refine(mz ((pJ K).filter _) ((pJ z.once).filter _)).2 λe=>?_;rw[BS,BS];simp only[BV];have I:((VP l c.1 b).tail.any λs=>QI s e.1)=((b.filter λr=>r.2.2.1==c.1).any λr=>QI (r.1,r.2.1) e.1):=by unfold VP;rw[List.tail_cons,List.any_map];rfl
  rw[I];constructor;rintro⟨F,G,R⟩;exact⟨z.inRuns e F G R,G,D.has F⟩;rintro⟨F,G,R⟩;obtain⟨r,M,X⟩:=GX.1 F;exact⟨z.fromLog e F G R,G,po.2 ⟨r,M,z.own r (BS.1 M).1 e X⟩⟩
 refine AL (N! f ·) (λ_=>?_);have J:∀q∈m,IF p i j q.2=ζ:=λq d=>by
  have:(q.2.1,q.2)∈m:=by rw[<-o.2.1 q d];exact d
  rcases(o.2.2 q.2).1 this with g|g;exact g.2;exact g.2
 have W_:θ m<=B:=by
  have:=wz (j-i).toNat i (m.map (·.1)) o.1 λx hx=>by obtain⟨q,d,rfl⟩:=Bn.1 hx;have E:=J q d;have hk:=o.2.1 q d;unfold IF at E;simp only[BV,K!]at E;omega
  rw[BW]at this;omega
 refine AC (λ_=>?_) (λk=>N! k (by show¬ ¬((θ m:Int)<=16777216);omega));have C:((m.map (·.2)).map (·.1))=m.map (·.1):=by rw[Oz];exact M9 λq d=>(o.2.1 q d).symm
 refine AA (AHI U (l:=m.map (·.2)) (by rw[BW];exact W_) (by rw[BW];omega) (by rw[C];exact o.1)) λs Q=>?_;have Y_:θ s=θ m:=by rw[Q.1.length_eq,BW]
 have T:ξ (θ s) (θ m)=ζ:=by rw[Y_];exact Hk _
 rw[T,B!];have O:∀e,e∈s↔(e∈l.2.1\/e∈Kc c.1 b)/\IF p i j e=ζ:=λe=>by
  rw[Q.1.mem_iff];constructor;intro u;obtain⟨q,d,rfl⟩:=Bn.1 u;have:(q.2.1,q.2)∈m:=by rw[<-o.2.1 q d];exact d
  rcases(o.2.2 q.2).1 this with g|g;exact⟨.inl g.1,g.2⟩;exact⟨.inr g.1,g.2⟩;rintro⟨g,g'⟩;exact Bn.2 ⟨(e.1,e),(o.2.2 e).2 (g.imp (λg=>⟨g,g'⟩) (λg=>⟨g,g'⟩)),rfl⟩
 refine AA (AKQ o!) λr hr=>?_;rcases hr with⟨rfl,S⟩|⟨rfl,S⟩;exact BB (AB (.inr ⟨o!,s,Q.2,O,.inl ⟨S,rfl⟩⟩));exact Ax (AB (.inr ⟨o!,s,Q.2,O,.inr ⟨S,rfl⟩⟩))
def XF{s t:S EN}(c:s.Pairwise λx y=>x.1<y.1)(d:t.Pairwise λx y=>x.1<y.1)(h:∀e,e∈s↔e∈t):s=t:=by have nd:∀{u:S EN},(u.Pairwise λx y=>x.1<y.1)->u.Nodup:=λg=>IL.2 (g.imp λh e=>by rw[e]at h;omega);have f:=(mz (nd c) (nd d)).2 h;exact pj (le:=λa b=>a.1<b.1) (λa b _ _ i j=>o!) c d f
structure cH(L:List EN)(r:AS):Prop where
 mem:∀e,e∈r.2.2.2.2.2↔e∈L/\jN e=V/\r.2.2.1<=e.2.2.2.2.2.2.1.1/\e.2.2.2.2.2.2.1.1<=r.2.2.2.1/\r.1<=e.1/\e.1<=r.2.1
 nd:(r.2.2.2.2.2.map (·.1)).Nodup
def AEA{L:S EN}{l:AZ}{k:S AS}{b p i j:Int}(a:∀e,e∈l.2.1↔e∈L∧l.1≤e.1∧e.1≤l.1+U l.2.1-1)(hr:∀r∈k,cH L r)
  (t:∀r∈k,r.2.2.1=b->b<=p/\p<=r.2.2.2.1) (h:(k.filter λr=>r.2.2.1==b).Pairwise λr s=>r.2.1<s.1\/s.2.1<r.1):AHu l b p i j k where
 fromLog f hf hw hh:=by obtain⟨r,c,g⟩:=GX.1 hf;have d:=((hr r (BS.1 c).1).mem f).1 g;unfold QI at hh;simp only[BV,K!]at hh;exact(a f).2 ⟨d.1,o!⟩
 inRuns e o hw ha:=by obtain⟨r,c,g⟩:=po.1 ha;have d:=BS.1 c;have q:r.2.2.1=b:=eq_of_beq d.2;have A:=t r d.1 q;unfold IF at hw;unfold QI at g;simp only[BV,K!,J!]at hw g;exact GX.2 ⟨r,c,((hr r d.1).mem e).2 ⟨((a e).1 o).1,hw.1,o!⟩⟩
 own r hrr f hf:=by have d:=((hr r hrr).mem f).1 hf;unfold QI;simp only[BV,K!];omega
 once:=by unfold Kc;rw[List.map_flatMap,IL,List.pairwise_flatMap];refine⟨λr c=>IL.1 (hr r (BS.1 c).1).nd,?_⟩;refine pe ?_ h;intro r s c g d x u y v o;obtain⟨e,m,rfl⟩:=Bn.1 u;obtain⟨f,n,rfl⟩:=Bn.1 v;have w:=((hr r (BS.1 c).1).mem e).1 m;have z:=((hr s (BS.1 g).1).mem f).1 n;omega
def zM{L}{d:S AS}{a p i j:Int}(hr:∀r∈d,cH L r)(n:∀r∈d,r.2.2.1=a→a≤p∧p≤r.2.2.2.1){e}(l:IF p i j e=V):
  e∈Kc a d↔e∈L/\∃r∈d,r.2.2.1=a/\r.1<=e.1/\e.1<=r.2.1:=by
 unfold IF at l;simp only[BV,K!,J!]at l;constructor;intro h;obtain⟨r,f,b⟩:=GX.1 h;obtain⟨c,k⟩:=BS.1 f;have g:=((hr r c).mem e).1 b;exact⟨g.1,r,c,eq_of_beq k,g.2.2.2.2.1,g.2.2.2.2.2⟩;rintro⟨f,r,b,c,k,m⟩;have g:=n r b c;exact GX.2 ⟨r,BS.2 ⟨b,by simp[c]⟩,((hr r b).mem e).2 ⟨f,l.1,o!,o!,k,m⟩⟩
def qJ(a:AI)(l:AZ)(low n:Int):Prop:=(l.1<=n/\n<=l.1+l.2.1.length-1)\/ ∃e∈DW a,e.1.2.2.1=low/\e.1.1<=n/\n<=e.1.2.1
def AIT{B:Nat}{a:AI}{l:AZ}{L:Ψ EN}{p i j:Int}{c:Int×(Int×Bool)}(N:CP B)(hB:B≤16777216)(O:j-i≤B)(X:0≤i)(Y_:i≤j)(hJ:j≤1099511627776)
  (h:VB a) (hd:DS a) (I:De l) (R:0<=p/\p<a.2.1) (F:Fz (a,p)=δ c) (Z_:c.2.2=ζ) (J:L.Pairwise λx y=>x.1<y.1) (b:∀e,e∈l.2.1↔e∈L/\l.1<=e.1/\e.1<=l.1+θ l.2.1-1)
  (hR:∀e∈DW a,cH L e.1) (w:AF7 (DW a)) (S:∀e∈DW a,e.1.2.2.1=c.1->c.1<=p/\p<=e.1.2.2.2.1):
  ∃fl,(0<=fl/\fl<=j/\(∀n,fl<n->n<=j->qJ a l c.1 n)/\(fl=0\/¬qJ a l c.1 fl))/\QS (a,l,p,i,j)=δ (τ (fl<=i))/\Ap (HZ (a,l,p,i,j)) λr=>(fl>i/\r=([],42))\/(fl<=i/\((YT i (L.filter (IF p i j))/\r=(L.filter (IF p i j),0))\/(¬YT i (L.filter (IF p i j))/\r=([],13)))):=by
 obtain⟨q,G,v,D,w2,rfl,w4,w5⟩:=tN h hd (K7 h) w;have m:∀r∈v.map (·.1),∃e∈DW a,e.1=r:=λr hr=>by obtain⟨e,d,rfl⟩:=Bn.1 hr;exact⟨e,D.mem_iff.1 d,rfl⟩
 have C:∀r∈v.map (·.1),cH L r:=λr hr=>by obtain⟨e,d,rfl⟩:=m r hr;exact hR e d
 have A:∀r∈v.map (·.1),r.2.2.1=c.1->c.1<=p/\p<=r.2.2.2.1:=λr hr=>by obtain⟨e,d,rfl⟩:=m r hr;exact S e d
 have T:((v.map (·.1)).filter λr=>r.2.2.1==c.1).Pairwise λr s=>r.2.1<s.1\/s.2.1<r.1:=by rw[List.filter_map,TQ];have Q:v.Pairwise λx y=>x≠y:=IL.1 (D.nodup_iff.2 (K7 h));refine pe ?_ (Q.filter _);intro x y hx hy P;obtain⟨x1,x2⟩:=BS.1 hx;obtain⟨U,V_⟩:=BS.1 hy;exact w x (D.mem_iff.1 x1) y (D.mem_iff.1 U) P ((eq_of_beq x2).trans (eq_of_beq V_).symm)
 have ad:(VP l c.1 (v.map (·.1))).length<=257:=by have:=EM (λr:AS=>r.2.2.1==c.1) (v.map (·.1));rw[BW]at this;simp only[VP,BY,BW];omega
 have K:SpL (VP l c.1 (v.map (·.1))):=by refine⟨o!,λs f=>?_⟩;rcases Aw.1 f with f|f;rw[f];exact I.1;obtain⟨r,hr,rfl⟩:=Bn.1 f;obtain⟨e,d,rfl⟩:=Bn.1 (BS.1 hr).1;exact(w5 e d).1
 have k:∀n,zF (VP l c.1 (v.map (·.1))) n↔qJ a l c.1 n:=λn=>by constructor;rintro⟨s,f,o,t⟩;rcases Aw.1 f with f|f;rw[f]at o t;exact .inl ⟨o,t⟩;obtain⟨r,hr,rfl⟩:=Bn.1 f;obtain⟨g1,H⟩:=BS.1 hr;obtain⟨e,d,rfl⟩:=m r g1;exact .inr ⟨e,d,eq_of_beq H,o,t⟩;rintro(⟨o,t⟩|⟨e,d,h0,o,t⟩);exact⟨_,Aw.2 (.inl rfl),o,t⟩;exact⟨(e.1.1,e.1.2.1),Aw.2 (.inr (Bn.2 ⟨e.1,BS.2 ⟨WC (D.mem_iff.2 d),by simp[h0]⟩,rfl⟩)),o,t⟩
 obtain⟨fl,E,f1,f2,W_,f4⟩:=AAu K (u:=j) o! hJ;refine⟨fl,⟨f1,f2,λn o t=>(k n).1 (W_ n o t),f4.imp id λhh M=>hh ((k fl).2 M)⟩,?_,?_⟩;obtain⟨v0,ev,hv⟩:=aF (x:=(a,l,p,i)) h I ⟨R.1,R.2,X⟩;unfold QS;dsimp only;rw[ev,AD,beq_iff_eq.2 hv,B!,G! Y_,B!,AAJ I F Z_ G (by rw[BW,BW]) (by rw[BW];exact w4),AD,E,AD];refine(AKw N hB O X Y_ h I R F Z_ G (by rw[BW,BW]) (by rw[BW];exact w4) (λr hr=>?_) E (AEA b C A T)).mono λr hr=>?_;obtain⟨e,d,rfl⟩:=Bn.1 hr;exact(w5 e d).2.2.2.2.2.2.2.2;rcases hr with hr|⟨hr,s,s1,s2,s3⟩;exact .inl hr;refine .inr ⟨hr,?_⟩;have f:s=L.filter (IF p i j):=XF s1 (J.filter _) λe=>by rw[s2,BS];constructor;rintro⟨g|g,z⟩;exact⟨((b e).1 g).1,z⟩;exact⟨((zM C A z).1 g).1,z⟩;rintro⟨g,z⟩;refine⟨?_,z⟩;have H:=z;unfold IF at H;simp only[BV,K!]at H;rcases(k e.1).1 (W_ e.1 o! o!)with M|⟨y,U,V_,y3,y4⟩;exact .inl ((b e).2 ⟨g,M⟩);exact .inr ((zM C A z).2 ⟨g,y.1,WC (D.mem_iff.2 U),V_,y3,y4⟩)
 rw[<-f];exact s3
def BD.lt{n}{l}(h:BD n l):∀(d i:Nat)(x y:Int),l[i]?=Z x->l[i+1+d]?=Z y->x<y
 |0,i,x,y,hx,hy=>by have:=Cp hy;exact h.2.2.2.2.2.1 i x y o! hx hy
 |d+1,i,x,y,hx,hy=>by have e:=Cp hy;have a:l[i+1+d]?=Z (l[i+1+d]' o!):=As o!;have b:=BD.lt h d i x _ hx a;have c:=h.2.2.2.2.2.1 (i+1+d) _ y o! a k!;omega
def BD.le{n}{l}(h:BD n l){i j:Nat}{x y:Int}(a:i<=j)(b:l[i]?=Z x)(c:l[j]?=Z y):x<=y:=by
 by_cases e:i=j;grind;obtain⟨d,rfl⟩:∃d,j=i+1+d:=⟨j-(i+1),o!⟩
 have:=h.lt d i x y b c;omega
def BD.mem{n}{l}(h:BD n l){i:Nat}{x:Int}(a:l[i]?=Z x):0<=x/\x<n:=by have f:=Cp a;have b:l[U l-1]?=Z (l[U l-1]' o!):=As o!;have c:=h.le (BR i) h.2.2.2.2.1 a;have d:=h.le (by omega:i<=U l-1) a b;have e:=h.2.2.2.2.2.2 _ b;omega
def BD.inj{n}{l}(h:BD n l){i j:Nat}{x:Int}(b:l[i]?=Z x)(c:l[j]?=Z x):i=j:=by
 rcases Qr i j with a|a|a;obtain⟨d,rfl⟩:∃d,j=i+1+d:=⟨j-(i+1),o!⟩
 have:=h.lt d i x x b c;omega;exact a;obtain⟨d,rfl⟩:∃d,i=j+1+d:=⟨i-(j+1),o!⟩
 have:=h.lt d j x x c b;omega
def qX(a:AI)(i:Nat):Int:=match a.1[i+1]? with
 |some h=>h-1
 |none=>a.2.1-1
def Km(a:AI)(lo hi:Int):Prop:=∃i:Nat,a.1[i]?=Z lo/\hi=qX a i
def AEm{a:AI}(h:BD a.2.1 a.1){i:Nat}(c:i<U a.1):(∀w,a.1[i+1]?=Z w->wi (w-1)=qX a i)/\(U a.1<=i+1->wi (a.2.1-1)=qX a i):=by refine⟨λw b=>?_,λd=>?_⟩;have:=h.mem b;have:=h.2.1;grind[qX,AY];have:=h.1;have:=h.2.1;grind[qX,u?,AY]
def oG{a:AI}(h:BD a.2.1 a.1){i:Nat}{b:Int}(c:a.1[i]?=Z b):FC (a,(i:Int))=Z (b,qX a i):=by
 have f:=Cp c;have d:=h.2.2.2.1;have⟨j,k⟩:=AEm h f;unfold FC;rw[AY (x:=(i:Int)+1),(by unfold ix;rw[C! o!,s?,c]:ix a.1 (i:Int)=Z b)];by_cases e:i+1<U a.1;have g:ix a.1 ((i:Int)+1)=Z a.1[i+1]:=by unfold ix;rw[C! o!,show((i:Int)+1).toNat=i+1 by omega,(m? e)]
 grind;grind
def yx{a:AI}(h:BD a.2.1 a.1){i:Nat}{b:Int}(c:a.1[i]?=Z b):KY (a,(i:Int))=Z (b,qX a i):=by
 have f:=Cp c;have d:=h.2.2.2.1;have⟨j,k⟩:=AEm h f;unfold KY;rw[AY (x:=(i:Int)+1),(by unfold ix;rw[C! o!,s?,c]:ix a.1 (i:Int)=Z b)];by_cases e:i+1<U a.1;have g:ix a.1 ((i:Int)+1)=Z a.1[i+1]:=by unfold ix;rw[C! o!,show((i:Int)+1).toNat=i+1 by omega,(m? e)]
 grind;grind
def sB{a:AI}{r:AS}(h:BD a.2.1 a.1):Ap (Fi (a,r)) λk=>0<=k↔Km a r.2.2.1 r.2.2.2.1:=by
 have g:=h.2.2.2.1;refine AA (P:=λq=>(∃k:Int,q= .inl k/\0<=k/\Km a r.2.2.1 r.2.2.2.1)\/(q= .inr ()/\ ¬Km a r.2.2.1 r.2.2.2.1)) ?_ λq p=>?_
 ·refine Ce (λ(s:Int)=>0<=s/\s<=a.1.length/\ ∀i:Nat,(i:Int)<s-> ¬(a.1[i]? =some r.2.2.1/\r.2.2.2.1=qX a i)) (λs=>((a.1.length:Int)-s).toNat) ⟨Ae _,o!,λi m=>o!⟩ (λs j=>?_);have⟨e,t,u⟩:=j;unfold Hf;dsimp[len];refine AC (λl=>?_) (λl=>Ap.done (.inr ⟨rfl,?_⟩))
  ·obtain⟨k,rfl⟩:=Ef e;rw[oG h (As o!),AD,AY];have f: ¬(a.1[k]? =some r.2.2.1/\r.2.2.2.1=qX a k)->Ap (some (Step.next ((k:Int)+1)):Option (Step Int (Int ⊕ Unit))) (N2 (λ(s:Int)=>0<=s/\s<=a.1.length/\ ∀i:Nat,(i:Int)<s-> ¬(a.1[i]? =some r.2.2.1/\r.2.2.2.1=qX a i)) (λs=>((a.1.length:Int)-s).toNat) ((a.1.length:Int)-(k:Int)).toNat λq=>(∃k:Int,q= .inl k/\0<=k/\Km a r.2.2.1 r.2.2.2.1)\/(q= .inr ()/\ ¬Km a r.2.2.1 r.2.2.2.1)):=λhn=>by
    refine Ap.next ⟨o!,o!,λi m=>?_⟩ o!
    grind
   refine AP (λb=>?_) (λb=>f λd=>b ?_)
   ·refine AP (λc=>Ap.done (.inl ⟨_,rfl,e,k,?_,?_⟩)) (λc=>f λd=>c d.2.symm);grind;grind
   grind
  rintro⟨i,n,o⟩;grind
 grind[BB,AB,Ax]
def AE9{a:AI}{r:AS}(h:BD a.2.1 a.1):Ap (Mj (a,r)) λk=>0<=k↔Km a r.2.2.1 r.2.2.2.1:=by
 have g:=h.2.2.2.1;refine AA (P:=λq=>(∃k:Int,q= .inl k/\0<=k/\Km a r.2.2.1 r.2.2.2.1)\/(q= .inr ()/\ ¬Km a r.2.2.1 r.2.2.2.1)) ?_ λq p=>?_
 ·refine Ce (λ(s:Int)=>0<=s/\s<=a.1.length/\ ∀i:Nat,(i:Int)<s-> ¬(a.1[i]? =some r.2.2.1/\r.2.2.2.1=qX a i)) (λs=>((a.1.length:Int)-s).toNat) ⟨Ae _,o!,λi m=>o!⟩ (λs j=>?_);have⟨e,t,u⟩:=j;unfold Qy;dsimp[len];refine AC (λl=>?_) (λl=>Ap.done (.inr ⟨rfl,?_⟩))
  ·obtain⟨k,rfl⟩:=Ef e;rw[yx h (As o!),AD,AY];have f: ¬(a.1[k]? =some r.2.2.1/\r.2.2.2.1=qX a k)->Ap (some (Step.next ((k:Int)+1)):Option (Step Int (Int ⊕ Unit))) (N2 (λ(s:Int)=>0<=s/\s<=a.1.length/\ ∀i:Nat,(i:Int)<s-> ¬(a.1[i]? =some r.2.2.1/\r.2.2.2.1=qX a i)) (λs=>((a.1.length:Int)-s).toNat) ((a.1.length:Int)-(k:Int)).toNat λq=>(∃k:Int,q= .inl k/\0<=k/\Km a r.2.2.1 r.2.2.2.1)\/(q= .inr ()/\ ¬Km a r.2.2.1 r.2.2.2.1)):=λhn=>by
    refine Ap.next ⟨o!,o!,λi m=>?_⟩ o!
    grind
   refine AP (λb=>?_) (λb=>f λd=>b ?_)
   ·refine AP (λc=>Ap.done (.inl ⟨_,rfl,e,k,?_,?_⟩)) (λc=>f λd=>c d.2.symm);grind;grind
   grind
  rintro⟨i,n,o⟩;grind
 grind[BB,AB,Ax]
def Good(a:AI)(f:Aq)(r:AS):Prop:=f.1=1/\f.2.2=NG r/\VR r/\Km a r.2.2.1 r.2.2.2.1
def Bad(f:Aq):Prop:=U f.2.2<=1099511627776/\∀r,WR r->f.2.2≠NG r
def Good.intact{a}{f}{r}(h:Good a f r)(e:BD a.2.1 a.1):HA (a,f)=Z (r,V):=by have⟨b,c,d,g⟩:=h;have⟨k,k1,i⟩:=AE9 (r:=r) e;unfold HA;rw[b,c,H!,A!,AJN d,AD,show(((r,(0:Int)):AS×Int).2==0)=V from rfl,B!];grind
def Good.intR{a}{f}{r}(h:Good a f r)(b:BD a.2.1 a.1):intR a f=Z (r,f.2.1):=by unfold Go.Pm.intR;rw[h.intact b]
def Good.ref{a}{f}{r}(h:Good a f r)(g:BD a.2.1 a.1):∃k,DO (a,f)=Z (r,k)/\0<=k:=by have⟨b,c,d,e⟩:=h;have⟨k,k1,i⟩:=sB (r:=r) g;refine⟨k,?_,i.2 e⟩;unfold DO;rw[b,c,H!,A!,yU d,AD,show(((r,(0:Int)):AS×Int).2 !=0)=Y from rfl,A!];grind
def Bad.intR{a:AI}{f}(h:Bad f)(d:BD a.2.1 a.1):intR a f=W:=by
 have key:Ap (HA (a,f)) λr=>r.2=Y:=by exact AL (y? rfl) (λ_=>AA (AJO h.1) λv b=>AP (λc=>N! (b c).1 (h.2 _ (b c).2)) (y? rfl))
 have⟨⟨r,o⟩,k1,e⟩:=key;grind[Go.Pm.intR]
def Bad.ref{a:AI}{f}(h:Bad f):∃r,DO (a,f)=Z (r,-1):=by
 have key:Ap (DO (a,f)) λr=>r.2= -1:=by exact AL (y? rfl) (λ_=>AA (AJa h.1) λv b=>AL (y? rfl) (λc=>N! (b c).1 (h.2 _ (b c).2.wr)))
 have⟨⟨r,o⟩,k1,d⟩:=key;grind
def uI{x y}(b:VR x)(c:VR y)(h:NG x=NG y):x=y:=by have a:=yU b;rw[h,yU c]at a;injection a with a;exact(Prod.ext_iff.1 a).1.symm
structure AR(L:List EN)(a:AI):Prop where
 vb:VB a
 files:∀f∈a.2.2.1,Bad f\/∃r,Good a f r/\cH L r/\r.2.1<a.2.2.2.1
 dis:AF7 (DW a)
def AG(a:AI):Prop:=∀f∈a.2.2.1,∃r,Good a f r
def RC(a:AI)(c:Nat):Prop:= ∀lo,((DW a).filter λe=>e.1.2.2.1==lo).length<=c
def iX{b:Type}:∀(l m:S b),l.Nodup->(∀x∈l,x∈m)->U l<=U m
 |[],m,_,_=>BR _
 |a::l,m,hn,hs=>by
  obtain⟨s,t,rfl⟩:=List.append_of_mem (hs a (Aw.2 (.inl rfl)));rw[G3]at hn;have:=iX l (s++t) hn.2 λx c=>k!
  grind
def AR.mem{L}{a}(h:AR L a){e:NE}(g:e∈DW a):∃f∈a.2.2.1,Good a f e.1/\e.2=f.2.1/\cH L e.1/\e.1.2.1<a.2.2.2.1:=by have⟨f,i,b⟩:=O0.1 g;rcases h.files f i with d|⟨r,c,j,k⟩;rw[d.intR h.vb.1]at b;cases b;rw[c.intR h.vb.1]at b;grind
def P6{a:AI}(b:BD a.2.1 a.1){f:Aq}{r}(c:f∈a.2.2.1)(h:Good a f r):(r,f.2.1)∈DW a:=by exact O0.2 ⟨f,c,h.intR b⟩
def Good.size{a}{f}{r}(h:Good a f r):U f.2.2<=34406441:=by rw[h.2.1];exact h.2.2.1.len
def AR.sa{L}{a}(h:AR L a):SA a:=by have⟨⟨g,i,j,b,k,l,m⟩,a1,a2,a3,a4,a5,a6⟩:=h.vb;refine⟨b,o!,λf e=>?_⟩;rcases h.files f e with d|⟨r,c,_⟩;exact d.1;have:=c.size;omega
def AR.ds{L}{a}(h:AR L a):DS a:=λf b=>by have:=h.sa.2.2 f b;omega
def Km.uniq{a:AI}(d:BD a.2.1 a.1){lo b c}(p:Km a lo b)(q:Km a lo c):b=c:=by obtain⟨i,e,f⟩:=p;obtain⟨j,g,h⟩:=q;have:=d.inj e g;subst this;rw[f,h]
def AAY{l:S EN}{e:EN}(h:U l<=16777000):Ap (DH (l,e)) λr=>U r.1<=U l+1/\((∀y,y∈r.1↔y∈l\/y=e)\/(r.1=l/\∃z∈l,z.1=e.1)):=by
 unfold DH;refine AA (QW (x:=(l,e)) ⟨Ae _,o!,d!⟩) λp g=>?_;dsimp only at g⊢;have main:Ap (σ (Xf l 0 p) λi=>
  σ (Xf l p (len l)) λj=>
  σ (app [] i) λk=>
  σ (app k ([e]:S (Int×(Int×(Int×(Int×(Int×(Int×((Int×(Int×((Bool×BZ)×(Bool×BZ))))×BZ))))))))) λv=>
  σ (app v j) λw=>
  Z (w,V)) λr=>U r.1<=U l+1/\((∀y,y∈r.1↔y∈l\/y=e)\/(r.1=l/\∃z∈l,z.1=e.1)):=by
  refine AA (Bg (Ae _) g.1 g.2) λt a=>AA (Bg g.1 b! i!) λu n=>?_;have B:=a.2;have o:=n.2;simp[len]at o;refine AA (Aa w!) λi b=>?_;have q:=b.2.1;simp[Bj]at q;refine AA (Aa w!) λj d=>?_;have s:=d.2.1;simp[Bj,BY]at s;refine AA (Aa o!) λk f=>AB ?_;have C:=f.2.1;refine⟨d!,.inl λy=>?_⟩;have m:t=l.take p.toNat:=by rw[a.1];simp
  dsimp only;rw[f.1,d.1,b.1,m,(by grind[List.take_of_length_le,List.length_drop]:u=l.drop p.toNat),CG];conv=>rhs;rw[<-DY p.toNat l]
  grind[a!]
 refine AC (λA=>?_) (λ_=>main);simp[len]at A;refine AA (AJ g.1 A) λD H=>?_;have⟨c,E,F,G⟩:=AH2 D e;grind[AP,AA,AJ,AB]
def Uq(L:S EN):Prop:=∀x∈L,∀y∈L,x.1=y.1->x=y
theorem oD{L l:S EN}{e:EN}(c:Uq L)(f:∀x∈l,x∈L)(d:e∈L)(h:U l<=16777000):Ap (DH (l,e)) λr=>U r.1<=U l+1/\∀y,y∈r.1↔y∈l\/y=e:=by
 refine(AAY h).mono λr hr=>⟨hr.1,?_⟩
 rcases hr.2 with hr|⟨b,z,a,i⟩;exact hr;have:=c z (f z a) e d i;subst this;intro y;rw[b];exact⟨.inl,λg=>g.elim id λh=>h▸a⟩
def VR.sorted{r}(h:VR r):r.2.2.2.2.2.Pairwise ltC:=by
 rw[Ed];have step:∀d i:Nat,∀(a:i<U r.2.2.2.2.2)(b:i+1+d<U r.2.2.2.2.2),ltC r.2.2.2.2.2[i] r.2.2.2.2.2[i+1+d]:=by
  intro d;induction d with
  |zero=>intro i a b;exact((h.2 (i+1) _ (As b)).2.2 _ o! (As a)).1
  |succ d e=>intro i a b;exact ADI (e i a o!) (((h.2 (i+1+(d+1)) _ (As b)).2.2 _ o! (As (by omega:i+1+d<_))).1)
 intro i j a b c;have:=step (j-(i+1)) i a o!;simp[(by omega:i+1+(j-(i+1))=j)]at this;exact this
def VR.nd{L}{r}(b:Uq L)(h:VR r)(a:∀e∈r.2.2.2.2.2,e∈L):(r.2.2.2.2.2.map (·.1)).Nodup:=by rw[IL,TQ];refine h.sorted.imp_of_mem λ{x y} f g d c=>?_;have:=b x (a x f) y (a y g) c;grind[AA6]
def VR.runOf{L}{r}(b:Uq L)(h:VR r)(a:∀e,e∈r.2.2.2.2.2↔e∈L/\jN e=V/\r.2.2.1<=e.2.2.2.2.2.2.1.1/\e.2.2.2.2.2.2.1.1<=r.2.2.2.1/\r.1<=e.1/\e.1<=r.2.1):cH L r:=⟨a,h.nd b λe c=>((a e).1 c).1⟩
def ABv{v}:jN v=V↔v.2.1=1\/v.2.1=2:=by grind[jN]
def AGB{L d:S EN}{F T g f i:Int}(C:Uq L)(B:∀e∈d,e∈L)(H:U d≤16777000):
  Ap (Aj (KT (d,F,T,g,f,i)) (Y,0,F,T,g,f,i,[])) λr=>∃a:S EN,r.2=(F,T,g,f,i,a)/\U a<=U d/\∀y,y∈a↔y∈d/\jN y=V/\g<=y.2.2.2.2.2.2.1.1/\y.2.2.2.2.2.2.1.1<=f/\F<=y.1/\y.1<=T:=by
 refine Ce (λs=>∃(k:Nat)(a:S EN),s.2=((k:Int),F,T,g,f,i,a)/\k<=U d/\U a<=k/\∀y,y∈a↔y∈d.take k/\jN y=V/\g<=y.2.2.2.2.2.2.1.1/\y.2.2.2.2.2.2.1.1<=f/\F<=y.1/\y.1<=T) (U d-·.2.1.toNat)
  ⟨0,[],rfl,BR _,Al _,λy=>q!⟩ ?_
 rintro⟨M,K⟩ ⟨k,a,rfl,I,J,n⟩;unfold KT;dsimp only;simp only[len];refine AC (λw=>?_) (λw=>k? ⟨a,rfl,o!,by rw[BO o!]at n;exact n⟩);refine AA (AJ o! w) λv l=>?_;have A:=l.1;rw[CA]at A;have q:d.take (k+1)=d.take k++[v]:=by rw[Cr,A];rfl
 rw[AY]
 have c:∀m:Bool,¬(jN v=V∧g≤v.2.2.2.2.2.2.1.1∧v.2.2.2.2.2.2.1.1≤f∧F≤v.1∧v.1≤T)→
   Ap (Z (Step.next (m,(k:Int)+1,F,T,g,f,i,a)):Ω (Step (Bool×(Int×AS)) (Bool×AS))) (N2 (λs=>∃(k:Nat)(a:S EN),s.2=((k:Int),F,T,g,f,i,a)/\k<=U d/\U a<=k/\∀y,y∈a↔y∈d.take k/\jN y=V/\g<=y.2.2.2.2.2.2.1.1/\y.2.2.2.2.2.2.1.1<=f/\F<=y.1/\y.1<=T) (U d-·.2.1.toNat) (U d-((k:Nat):Int).toNat)
    λr=>∃a:S EN,r.2=(F,T,g,f,i,a)/\U a<=U d/\∀y,y∈a↔y∈d/\jN y=V/\g<=y.2.2.2.2.2.2.1.1/\y.2.2.2.2.2.2.1.1<=f/\F<=y.1/\y.1<=T):=λm hn=>by
  refine y! ⟨k+1,a,rfl,o!,o!,λy=>?_⟩ d!
  grind[a!]
 refine AA CO λb u=>AO (λz=>c _ λj=>?_) (λD=>?_);rw[u.2 (ABv.1 j.1)]at z;cases z;refine AC (λ_=>c _ λj=>o!) (λq2=>AC (λ_=>c _ λj=>o!) (λq3=>AC (λ_=>c _ λj=>o!) (λq4=>AC (λ_=>c _ λj=>o!) (λq5=>AA (R0 ⟨Ae _,d!⟩) λG _=>AA (oD C (λx E=>B x (GY ((n x).1 E).1)) (B v l.2) o!) λt o=>y! ⟨k+1,t.1,rfl,o!,o!,λy=>?_⟩ d!))))
 rw[o.2,n,q,Am,A9];constructor;rintro(⟨h,p⟩|h);exact⟨.inl h,p⟩;subst h;exact⟨.inr rfl,ABv.2 (u.1 D),o!⟩;rintro⟨h|h,p⟩;exact .inl ⟨h,p⟩;exact .inr h
def AIV{L c:S EN}{F T h g j:Int}(n:Uq L)(q:∀e∈c,e∈L)(p:U c<=16777000):Ap (Jx (c,F,T,h,g,j)) λr=>r.2=0->VR r.1/\∃b:S EN,r.1=(F,T,h,g,j,b)/\∀y,y∈b↔y∈c/\jN y=V/\h<=y.2.2.2.2.2.2.1.1/\y.2.2.2.2.2.2.1.1<=g/\F<=y.1/\y.1<=T:=by unfold Jx;refine AA I0 λw _=>AO (y? λa=>N! (show(1:Int)=0 from a) g!) (λ_=>?_);refine AA (Rz ⟨Ae _,d!⟩) λx m=>BG (λu i=>AB λa=>N! a (m u i)) (λu i=>AA (AGB n q p) λs d=>?_);have⟨b,k,v,l⟩:=d;refine AK (y? λa=>N! (show(41:Int)=0 from a) g!) (λ_=>?_);refine AC (y? λa=>N! (show(21:Int)=0 from a) g!) (λ_=>?_);refine AA YG λt f=>AO (y? λa=>N! (show(13:Int)=0 from a) g!) (λo=>AB λ_=>⟨f.1 o,b,k,l⟩)
def AIW{x:Int×S Int}(h:BD x.1 x.2):Ap (Il x) λr=>r.2=0/\VB r.1/\r.1.2.1=x.1/\r.1.2.2.2.1=1:=by refine AA nL λl c=>AO (λb=>(by rw[c.2 h]at b;cases b)) (λ_=>?_);have k:=h.2.2.2.1;refine AA (Aa w!) λm e=>AB ⟨rfl,⟨?_,u!,u!,u!,u!,q!,⟨λi f d a=>by simp at a,λi f g d a j=>by simp at a⟩⟩,rfl,rfl⟩;grind
def FR.push{l m:S Aq}{f:Aq}{c}(h:FR l c (U l))(v:1<=c)(r:f.2.1=c)(u:m=l++[f]):FR m (c+1) (U m):=by
 subst u;obtain⟨q,t⟩:=h;have p:(l++[f]).length=U l+1:=q!
 have b:∀(i:Nat)(g:Aq),¬i<U l->(l++[f])[i]?=Z g->g=f:=λi g j a=>by
  have o:=Cp a;rw[p]at o;have s:i=U l:=o!
  subst s;rw[Cl (Al _)]at a;simp at a;exact a.symm
 refine⟨λi g j a=>?_,λi g k j a n=>?_⟩;by_cases e:i<U l;rw[CW e]at a;have:=q i g o! a;exact⟨this.1,o!⟩;rw[b i g e a,r];exact o!;rw[p]at j;have e:i<U l:=o!
 rw[CW e]at a;by_cases d:i+1<U l;rw[CW d]at n;exact t i g k o! a n;rw[b (i+1) k d n,r];exact(q i g o! a).2
def AGH{x:AI×AZ×Int}(h:SA x.1)(l:VB x.1):Ap (Es x) λr=>r.2=0->SA r.1/\VB r.1/\r.1.2.1=x.1.2.1/\(r.1.2.2.2.1=x.1.2.2.2.1\/r.1.2.2.2.1<=x.2.1.2.2+1):=by
 unfold Es;refine AA KU λv0 O=>AO (λ_=>AB n!) (λd=>?_);obtain⟨a1,a2,a3,a4,a5,a6,a7,a8,a9⟩:=O d;refine AA Bb λv1 q=>AO (λ_=>AB n!) (λm=>?_);obtain⟨l1,l2,l3,l4,l5,Z_⟩:=q.1 m;refine AC (λ_=>AB n!) (λc1=>AC (λ_=>AB n!) (λc2=>?_));generalize S:(if(x.2.1.1>x.1.2.2.2.1)then x.2.1.1 else x.1.2.2.2.1)=F;have f1:x.2.1.1<=F/\x.1.2.2.2.1<=F/\F<=1099511627777:=by rw[<-S];split<;>omega
 have D:=AY (x:=F+x.2.2);have E:=AY (x:=F+x.2.2-1);rw[D,E];generalize T:(if(x.2.1.2.2<(F+x.2.2-1))then x.2.1.2.2 else(F+x.2.2-1))=G;have g1:G<=x.2.1.2.2/\G<=F+x.2.2-1:=by rw[<-T];split<;>omega
 refine AC (λ_=>AB λ_=>⟨h,l,rfl,.inl rfl⟩) (λc3=>?_);have H:=AY (x:=F-x.2.1.1);have I:=AY (x:=G-x.2.1.1);have J:=AY (x:=G-x.2.1.1+1);rw[H,I,J];have K:=AY (x:=len x.1.2.2.1+len x.1.1) i!;have L:=AY (x:=x.1.2.2.2.2+len x.1.1) i!;have M:=AY (x:=G+1);rw[K,L,M];have U:G<=1099511627776:=by
  have X:x.2.1.2.1.length≠0:=o!
  obtain⟨i,n⟩: ∃i,x.2.1.2.1[x.2.1.2.1.length-1]? =some i:=⟨_,As o!⟩
  have:=Z_ _ i n;have q:=this.1;have t:=this.2.2.1;omega
 refine AC (λ_=>AB n!) (λB=>AC (λ_=>AB n!) (λC=>?_));simp only[len]at B C;refine AA (Bg) λv2 t=>?_;have W_:=t.2;refine AA (R2 ⟨Ae _,d!,o!⟩) λv8 R=>BG (λu b=>AB λa=>absurd a (R u b)) (λu b=>AA (Aa w!) λad j=>?_);have c:=j.1;rw[CG]at c;refine AA (P:=λr=>(∀u,r= .inl u->u.1≠0)/\ ∀u,r= .inr u->u.2.1=x.1.1/\u.1.length<=256/\(∀f∈u.1,f.2.2.length<=1099511627776)/\u.2.2.1=x.1.2.1/\u.2.2.2.2.1=x.1.2.2.2.2+x.1.1.length/\FR u.1 u.2.2.2.2.1 u.1.length) ?_ λr hr=>BG (λu b=>AB λa=>absurd a (hr.1 u b)) (λu b=>AB λ_=>?_);refine AW (λ(s:Int×(List Aq)×(List Int)×Int×Int×Int×AI)=>0<=s.1/\s.1<=x.1.1.length/\s.2.2.1=x.1.1/\(s.2.1.length:Int)=x.1.2.2.1.length+s.1/\(∀f∈s.2.1,f.2.2.length<=1099511627776)/\s.2.2.2.1=x.1.2.1/\s.2.2.2.2.2.1=x.1.2.2.2.2+s.1/\FR s.2.1 s.2.2.2.2.2.1 s.2.1.length) (λ(s:Int×(List Aq)×(List Int)×Int×Int×Int×AI)=>((x.1.1.length:Int)-s.1).toNat) ⟨Ae _,d!,rfl,by dsimp only;rw[c];omega,by dsimp only;rw[c];exact h.2.2,rfl,d!,by dsimp only;rw[c];exact l.2.2.2.2.2.2⟩ (λs V_=>?_);obtain⟨Y_,i2,v,i4,y,z,i7,A⟩:=V_;unfold OZ;have e:=AY (x:=s.1+1);rw[e];refine AC (λd=>?_) (λd=>AB ⟨λu b=>(by cases b),λu b=>(by cases b;simp only[len]at d;exact⟨v,o!,y,z,o!,A⟩)⟩);simp only[len]at d;refine AA (UQ a4 ⟨Y_,d⟩) λal _=>AA (iG d!) λao Q=>AL (λd=>AB ⟨λu b=>(by cases b;exact d),λu b=>(by cases b)⟩) (λ_=>AA bj λap k=>AA (Aa w!) λar g=>AB ?_);have p:=g.2.1;simp only[BY,Bj]at p;have N:=AY (x:=s.2.2.2.2.2.1+1);rw[N];refine⟨⟨d!,d!,v,d!,λf o=>?_,z,d!,A.push o! rfl g.1⟩,d!⟩;dsimp only at o;rw[g.1]at o;rcases Am.1 o with w|w;exact y f w;simp at w;rw[w];exact k;obtain⟨q1,q2,q3,q4,q5,q6⟩:=hr.2 u b;refine⟨⟨by dsimp only;rw[q1];exact a4,d!,q3⟩,⟨?_,d!,d!,d!,d!,q2,q6⟩,q4,.inr d!⟩;dsimp only;rw[q1,q4];exact l.1
def FP(l:S Aq)(m:Int):Prop:=(∀f∈l,0<f.2.1/\f.2.1<m)/\l.Pairwise λf g=>f.2.1<g.2.1
def AAt{l}{m}(h:FP l m):FR l m (U l):=by refine⟨λi f e a=>h.1 f (BN a),λi f g e a d=>?_⟩;have b:=Cp a;have c:=Cp d;have:=Ed.1 h.2 i (i+1) b c o!;grind
def FR.fp{l}{m}(h:FR l m (U l)):FP l m:=by
 refine⟨λf e=>?_,Ed.2 λi j b c g=>?_⟩;obtain⟨i,b⟩:=Et.1 e;have:=Cp b;exact h.1 i f o! b;obtain⟨d,rfl⟩:∃d,j=i+1+d:=⟨j-(i+1),o!⟩
 induction d with
 |zero=>exact h.2 i _ _ o! (As b) (As c)
 |succ d k=>
  have a:i+1+d<U l:=o!
  have n:=k a o!;have o:=h.2 (i+1+d) l[i+1+d] l[i+1+(d+1)] o! (As a) (As c);omega
def FR.sub{l k:S Aq}{m}(h:FR l m (U l))(a:k.Sublist l):FR k m (U k):=AAt ⟨λf b=>h.fp.1 f (a.subset b),h.fp.2.sublist a⟩
def ACf{b}{x}{m}(v:FR x m (θ x))(h:CX b)(hx:θ x<=1000000)(j:∀f∈x,θ f.2.2<=1099511627776):Ap (GF b x) λr=>CX r.2/\θ r.1<=θ x/\FR r.1 m (θ r.1)/\∀f∈r.1,θ f.2.2<=1099511627777:=by
 unfold GF;refine AP (y? ⟨h,q!,⟨λi f s j=>by simp at j,λi f g s j c=>by simp at j⟩,λf j=>by simp at j⟩) (λA=>?_);simp only[len]at A;refine AA (Ag h i!) λd Q=>?_;obtain⟨M,t,N⟩:=Q;simp only[len]at N;have e:=AY (x:=d.1+1);rw[e];refine AA (Ag M g!) λv1 D=>AP (λ_=>?_) (λ_=>?_);refine AA (Bg (Ae _) t) λv2 E=>AA (Bg o! i! i!) λv3 F=>?_;have l2:=E.2;have T:=F.2;simp only[len]at T;refine AA (Aa w!) λv4 G=>?_;have U:=G.2.1;simp only[Bj]at U;refine AA (Aa o!) λY_ H=>AB ⟨D.1,?_,?_⟩;have l5:=H.2.1;dsimp only;omega;have J:Y_.Sublist x:=by
  rw[H.1,G.1,E.1,F.1,CG];have O:x=x.take d.1.toNat++x.drop d.1.toNat:=(DY _ _).symm;suffices n:((x.drop (0:Int).toNat).take (d.1.toNat-(0:Int).toNat)++(x.drop (d.1+1).toNat).take ((len x).toNat-(d.1+1).toNat)).Sublist (x.take d.1.toNat++x.drop d.1.toNat) by rw[<-O]at n;exact n
  apply List.Sublist.append;simp;apply (nB _ _).trans;have P:(d.1+1).toNat=d.1.toNat+1:=o!
  rw[P,<-J5];exact pr _ _
 exact⟨v.sub J,λf l=>by have:=j f (J.subset l);omega⟩;refine AA (Aa w!) λy R=>?_;have C:=R.1;rw[CG]at C;subst C;refine AA (AJ t) λv7 _=>AA (AJ t) λK z=>AA (Wy D.1 (j _ z.2)) λL I=>AA (AJ t) λX _=>AA (AJ t) λa u=>AB ⟨I.1,by simp[ER],?_,λf l=>?_⟩;have q:=v.fp;have Z_:K=a:=by have:=z.1;rw[u.1]at this;exact(Ba this).symm
 have key:∀(i:Nat)(g:Aq),(ER y d.1 (a.1,a.2.1,L.1))[i]?=δ g->∃k,y[i]?=δ k/\k.2.1=g.2.1:=λi g c=>by simp only[ER]at c;rw[Tr]at c;split at c;rename_i s;subst s;split at c;exact⟨a,u.1,by rw[<-Ba c]⟩;cases c;exact⟨g,c,rfl⟩
 have el:(ER y d.1 (a.1,a.2.1,L.1)).length=θ y:=by simp[ER]
 refine⟨λi g s c=>?_,λi g k s c S=>?_⟩;obtain⟨p,B,W_⟩:=key i g c;have:=v.1 i p (by dsimp only at s;omega) B;omega;obtain⟨p,B,W_⟩:=key i g c;obtain⟨o,V_,o2⟩:=key (i+1) k S;have:=v.2 i p o (by dsimp only at s;omega) B V_;omega;simp only[ER]at l;rcases Qo l with w|w;have:=j f w;omega;rw[w];have:=I.2;have:=j K z.2;dsimp only;omega
def ADw(L:S EN)(a:AI)(F G s:Int)(nf:S Aq):Prop:=∀(j:Nat)(f:Aq),nf[j]?=Z f->
 ∃r,f=(1,s+j,NG r)/\VR r/\cH L r/\r.1=F/\r.2.1=G/\a.1[j]?=Z r.2.2.1/\r.2.2.2.1=qX a j
def De.uq{l}(h:De l):Uq l.2.1:=λx b y c a=>YB h.nodup b c a
def wj{l}(h:De l){F G:Int}{v:S EN}(g:l.1<=F)(i:F<=G)(j:G<=l.1+U l.2.1-1)(b:v=(l.2.1.drop (F-l.1).toNat).take ((G-l.1+1).toNat-(F-l.1).toNat))(e:EN):e∈v↔e∈l.2.1/\F<=e.1/\e.1<=G:=by subst b;have⟨l1,l2,m,n,o,c⟩:=h;rw[Et,Et];constructor;grind;rintro⟨⟨k,a⟩,d,f⟩;have:=(c _ e a).1;refine⟨k-(F-l.1).toNat,?_⟩;rw[YY,C! o!,J6,show(F-l.1).toNat+(k-(F-l.1).toNat)=k by omega,a]
def AAa{x:AI×AZ×Int}(h:SA x.1)(hb:VB x.1)(q:De x.2.1):Ap (Es x) λr=>r.2=0→r.1=x.1∨
  ∃F G a,r.1=(x.1.1,x.1.2.1,x.1.2.2.1++a,G+1,x.1.2.2.2.2+θ a)/\(x.1.2.2.2.1<=F/\(x.2.1.1<=x.1.2.2.2.1->F=x.1.2.2.2.1)/\(x.2.1.1<=F/\G<=x.2.1.2.2))/\F<=G/\θ a=θ x.1.1/\ADw x.2.1.2.1 x.1 F G x.1.2.2.2.2 a:=by
 unfold Es;refine AA KU λv0 X=>AO (y? λb=>N! (show(54:Int)=0 from b) g!) (λi=>?_);have⟨a1,a2,a3,a4,a5,a6,a7,a8,a9⟩:=X i;refine AA Bb λv1 h1=>AO (y? λb=>N! (show(26:Int)=0 from b) g!) (λad=>?_);have⟨l1,l2,l3,l4,l5,l6⟩:=id q;refine AC (y? λb=>N! (show(1:Int)=0 from b) g!) (λc1=>AC (y? λb=>N! (show(1:Int)=0 from b) g!) (λc2=>?_));have o:∃F,(if(x.2.1.1>x.1.2.2.2.1)then x.2.1.1 else x.1.2.2.2.1)=F:=⟨_,rfl⟩
 have⟨F,o⟩:=o;have V_:x.2.1.1<=F/\x.1.2.2.2.1<=F/\F<=1099511627777:=k!
 have W_:x.2.1.1<=x.1.2.2.2.1->F=x.1.2.2.2.1:=k!
 have C:=AY (x:=F+x.2.2);have D:=AY (x:=F+x.2.2-1);have p:∃G,(if(x.2.1.2.2<(F+x.2.2-1))then x.2.1.2.2 else(F+x.2.2-1))=G:=⟨_,rfl⟩
 have⟨G,p⟩:=p;have g1:G<=x.2.1.2.2/\G<=F+x.2.2-1:=k!
 rw[o,C,D,p];refine AC (y? λ_=>.inl rfl) (λc3=>?_);have Q:=AY (x:=F-x.2.1.1);have R:=AY (x:=G-x.2.1.1);have S:=AY (x:=G-x.2.1.1+1);rw[Q,R,S];have T:=AY (x:=len x.1.2.2.1+len x.1.1) b!;have U:=AY (x:=x.1.2.2.2.2+len x.1.1) b!;rw[T,U,(AY (x:=G+1))];refine AC (y? λb=>N! (show(21:Int)=0 from b) g!) (λN=>AC (y? λb=>N! (show(21:Int)=0 from b) g!) (λO=>?_));simp[len]at N O;refine AA (Bg) λv2 E=>?_;have al:=E.2;have l:=wj q (F:=F) (G:=G) V_.1 o! o! E.1;refine AA (R2 ⟨Ae _,d!,o!⟩) λv8 Z_=>BG (λu c=>AB λb=>N! b (Z_ u c)) (λu c=>AA (Aa w!) λao t=>?_);have g:=t.1;rw[CG]at g;subst g;refine AA (P:=λr=>(∀u,r=.inl u->u.1≠0)/\∀u,r=.inr u->∃(a:Ψ Aq),(u.1,u.2.1,u.2.2.1,u.2.2.2.1,u.2.2.2.2.1)=(x.1.2.2.1++a,x.1.1,x.1.2.1,x.1.2.2.2.1,x.1.2.2.2.2+θ a)/\θ a=θ x.1.1/\ADw x.2.1.2.1 x.1 F G x.1.2.2.2.2 a) ?_ λr hr=>BG (λu c=>AB λb=>N! b (hr.1 u c)) (λu c=>AB λ_=>.inr ?_)
 ·refine Ce (λs=>∃(k:Nat)(a:Ψ Aq)(z:AI),s=((k:Int),x.1.2.2.1++a,x.1.1,x.1.2.1,x.1.2.2.2.1,x.1.2.2.2.2+(k:Int),z)/\k<=θ x.1.1/\θ a=k/\ADw x.2.1.2.1 x.1 F G x.1.2.2.2.2 a) (θ x.1.1-·.1.toNat)
   ⟨0,[],u,q!,BR _,rfl,λj f d=>by simp at d⟩ ?_
  rintro s ⟨k,a,z,rfl,i2,A,I⟩;unfold OZ;dsimp only;simp only[len];rw[o,C,D,p];refine AC (λi=>?_) (λi=>k? ⟨λu c=>(by cases c),λu c=>(by cases c;exact⟨a,by dsimp only;rw[A],o!,I⟩)⟩);have H:x.1.1[k]?=δ (x.1.1[k]' o!):=As o!;rw[oG hb.1 H,AD];refine AA (AIV q.uq (λe he=>((l e).1 he).1) o!) λn v=>AL (λi=>k? ⟨λu c=>(by cases c;exact i),λu c=>(by cases c)⟩) (λb=>?_);have⟨B,es,m,m3⟩:=v b;rw[rD B,AD];refine AA (Aa w!) λap Y_=>?_;rw[AY (x:=x.1.2.2.2.2+(k:Int)+1),AY (x:=(k:Int)+1)];refine y! ⟨k+1,a++[(1,x.1.2.2.2.2+(k:Int),NG n.1)],z,?_,o!,by rw[Ac,A];rfl,λj f d=>?_⟩ d!
  grind;by_cases hj:j<θ a;rw[CW hj]at d;exact I j f d;have y:=Cp d;rw[Ac,BY,Bj]at y;have w:j=k:=o!
  subst w;rw[Cl o!,A,G5]at d;cases d;refine⟨n.1,rfl,B,B.runOf q.uq λe=>?_,by rw[m],by rw[m],by rw[m];exact H,by rw[m]⟩;rw[m];dsimp only;rw[m3,l];constructor;grind;rintro⟨q1,q2,q3,q4,q5,q6⟩;exact⟨⟨q1,q5,q6⟩,q2,q3,q4,q5,q6⟩
 have⟨a,q1,q2,q3⟩:=hr.2 u c;refine⟨F,G,a,?_,⟨o!,W_,o!⟩,o!,q2,q3⟩;have J:=E! (·.1) q1;have K:=E! (·.2.1) q1;have L:=E! (·.2.2.1) q1;have M:=E! (·.2.2.2.2) q1;dsimp only at J K L M;dsimp only;rw[J,K,L,M]
def Km.congr{a b:AI}(e:b.1=a.1)(f:b.2.1=a.2.1){d c}:Km a d c↔Km b d c:=by grind[Km,qX]
def Good.congr{a b:AI}(c:b.1=a.1)(d:b.2.1=a.2.1){f}{r}(h:Good a f r):Good b f r:=⟨h.1,h.2.1,h.2.2.1,(Km.congr c d).1 h.2.2.2⟩
def Good.run{a}{f}{r s}(h:Good a f r)(g:Good a f s):r=s:=uI h.2.2.1 g.2.2.1 (h.2.1.symm.trans g.2.1)
def AR.step{L}{a b:AI}{F G:Int}{s:Ψ Aq}(h:AR L a)(e:b=(a.1,a.2.1,a.2.2.1++s,G+1,a.2.2.2.2+θ s))(hF:a.2.2.2.1<=F)(hG:F<=G)(hn:ADw L a F G a.2.2.2.2 s)(D:VB b):AR L b/\(AG a->AG b)/\∀c,RC a c->RC b (c+1):=by
 have P:b.1=a.1:=by rw[e]
 have Q:b.2.1=a.2.1:=by rw[e]
 have Y_:b.2.2.1=a.2.2.1++s:=by rw[e]
 have h4:b.2.2.2.1=G+1:=by rw[e]
 have q:∀f∈s,∃(j:Nat)(r:AS),Good b f r/\cH L r/\r.1=F/\r.2.1=G/\a.1[j]?=δ r.2.2.1/\s[j]?=δ f:=λf k=>by have⟨j,hj⟩:=Et.1 k;have⟨r,l,M,w,r4,W_,S,r7⟩:=hn j f hj;refine⟨j,r,⟨by rw[l],by rw[l],M,(Km.congr P Q).1 ⟨j,S,r7⟩⟩,w,r4,W_,S,hj⟩
 have K:∀f∈a.2.2.1,Bad f\/∃r,Good b f r/\cH L r/\r.2.1<a.2.2.2.1:=λf k=>(h.files f k).imp id λ⟨r,l,M,w⟩=>⟨r,l.congr P Q,M,w⟩
 have d:∀x∈DW b,(x∈DW a/\x.1.2.1<a.2.2.2.1)\/∃(j:Nat)(f:Aq),s[j]?=δ f/\Good b f x.1/\x.2=f.2.1/\x.1.1=F/\a.1[j]?=δ x.1.2.2.1:=λx m=>by unfold DW at m;rw[Y_]at m;have⟨f,k,z⟩:=O0.1 m;rcases Am.1 k with k|k;rcases K f k with E|⟨r,l,M,w⟩;rw[E.intR D.1]at z;cases z;rw[l.intR D.1]at z;cases z;exact .inl ⟨P6 h.vb.1 k (l.congr P.symm Q.symm),w⟩;have⟨j,r,l,M,w,r4,W_,S⟩:=q f k;rw[l.intR D.1]at z;cases z;exact .inr ⟨j,f,S,l,rfl,w,W_⟩
 refine⟨⟨D,λf k=>?_,λx m y R J p=>?_⟩,λU f k=>?_,λc Z_ v=>?_⟩;grind;rcases d x m with⟨n,A⟩|⟨i,f,n,A,N,x4,B⟩;rcases d y R with⟨o,C⟩|⟨j,g,o,C,T,y4,O⟩;exact h.dis x n y o J p;grind;rcases d y R with⟨o,C⟩|⟨j,g,o,C,T,y4,O⟩;exact .inr o!;rw[<-p]at O;have t:=h.vb.1.inj B O;subst t;rw[n]at o;cases o;exact N! (Da (A.run C) (N.trans T.symm)) J;rw[Y_]at k;rcases Am.1 k with k|k;have⟨r,hr⟩:=U f k;exact⟨r,hr.congr P Q⟩;have⟨j,r,l,_⟩:=q f k;exact⟨r,l⟩;have I:=(K7 D).filter λe=>e.1.2.2.1==v;by_cases H:∃y∈(DW b).filter (·.1.2.2.1==v),∃(j:Nat)(f:Aq),s[j]?=δ f/\Good b f y.1/\y.2=f.2.1/\a.1[j]?=δ y.1.2.2.1;have⟨y,R,j,g,o,C,T,O⟩:=H;have V_:y.1.2.2.1=v:=eq_of_beq (BS.1 R).2;have:=iX _ (y::(DW a).filter λe=>e.1.2.2.1==v) I λx m=>by have⟨X,u⟩:=BS.1 m;rcases d x X with⟨n,_⟩|⟨i,f,n,A,N,x4,B⟩;grind;rw[eq_of_beq u,<-V_]at B;have t:=h.vb.1.inj B O;subst t;rw[n]at o;cases o;exact Aw.2 (.inl (Da (A.run C) (N.trans T.symm)))
 rw[BY]at this;have:=Z_ v;omega;have:=iX _ ((DW a).filter λe=>e.1.2.2.1==v) I λx m=>by have⟨X,u⟩:=BS.1 m;rcases d x X with⟨n,_⟩|⟨i,f,n,A,N,x4,B⟩;exact BS.2 ⟨n,u⟩;exact N! ⟨x,m,i,f,n,A,N,B⟩ H
 have:=Z_ v;omega
def AIS(a:AI)(lo n:Int):Prop:=∃e∈DW a,e.1.2.2.1=lo/\e.1.1<=n/\n<=e.1.2.1
def AF(a:AI):Prop:=∀lo∈a.1,∀n:Int,1<=n->n<a.2.2.2.1->AIS a lo n
def AF.step{L}{a b:AI}{F G:Int}{c:S Aq}(w:AF a)(h:AR L a)(e:b=(a.1,a.2.1,a.2.2.1++c,G+1,a.2.2.2.2+U c))(H:F=a.2.2.2.1)(z:U c=U a.1)(hn:ADw L a F G a.2.2.2.2 c)(s:VB b):AF b:=by
 have k:b.1=a.1:=by rw[e]
 have p:b.2.1=a.2.1:=by rw[e]
 have q:b.2.2.1=a.2.2.1++c:=by rw[e]
 have E:b.2.2.2.1=G+1:=by rw[e]
 intro A d n B I;rw[k]at d;rcases lJ n a.2.2.2.1 with g|g;obtain⟨r,hr,i,m,u⟩:=w A d n B g;have⟨f,l,v,D,_⟩:=h.mem hr;exact⟨(r.1,f.2.1),P6 s.1 (by rw[q];exact G2 _ l) (v.congr k p),i,m,u⟩;have⟨j,t⟩:=Et.1 d;have y:=Cp t;have l:c[j]?=Z (c[j]' o!):=As o!;have⟨r,i,m,u,J,K,o,C⟩:=hn j _ l;have x:Good b (c[j]' o!) r:=⟨by rw[i],by rw[i],m,(Km.congr k p).1 ⟨j,o,C⟩⟩
 refine⟨(r,(c[j]' o!).2.1),P6 s.1 (by rw[q];exact NA _ (GW _)) x,?_,d!⟩;rw[t]at o;exact(Ba o).symm
def SF(a:AI)(m:Int):Prop:=a.2.2.2.2+U a.2.2.1<=m
def AGG{x:AI×AZ×Int}{m}(h:AR x.2.1.2.1 x.1)(f:De x.2.1)(t:SF x.1 m):Ap (Es x) λr=>r.2=0->AR x.2.1.2.1 r.1/\(AG x.1->AG r.1)/\(∀c,RC x.1 c->RC r.1 (c+1))/\SF r.1 (m+32)/\r.1.2.1=x.1.2.1/\(r.1.2.2.2.1=x.1.2.2.2.1\/r.1.2.2.2.1<=x.2.1.2.2+1)/\(ID x.2.1.2.1->AF x.1->AF r.1):=by
 refine((AGH h.sa h.vb).and (AAa h.sa h.vb f)).mono λr hr k=>?_;have⟨q1,q2,q3,q4⟩:=hr.1 k;rcases hr.2 k with e|⟨F,G,u,g,i,l,n,j⟩;rw[e];exact⟨h,id,λc q s=>Nat.le_succ_of_le (q s),by unfold SF at*;omega,rfl,.inl rfl,λ_=>id⟩
 ·have a:=h.step g i.1 l j q2;have b:0<U x.2.1.2.1:=by have:=f.2.2.2.2.1;omega
  have d:ID x.2.1.2.1->AF x.1->AF r.1:=λo p=>p.step h g (i.2.1 (by have v:=(o 0 _ (As b)).1;have w:=(f.2.2.2.2.2 0 _ (As b)).1;have:=h.vb.2.1;omega)) n j q2;have:=h.sa.1;refine⟨a.1,a.2.1,a.2.2,?_,?_,?_,d⟩;all_goals unfold SF at*;grind
def AHt{c d:Type}(l:S c)(m:S d)(n:Nat):l.zip m=(l.take n).zip (m.take n)++(l.drop n).zip (m.drop n):=by
 induction n generalizing l m with
 |zero=>simp
 |succ n e=>
  cases l with
  |nil=>simp
  |cons a l=>
   cases m with
   |nil=>simp
   |cons b m=>grind[List.zip_cons_cons]
theorem AJk{c d:Type}{l:S c}{m:S d}{k:Nat}{a:c}{b:d}(e:l[k]?=Z a)(f:m[k]?=Z b):(a,b)∈l.zip m:=by refine Et.2 ⟨k,?_⟩;grind[List.getElem?_zip_eq_some]
def AD7{x:AI}{L:List EN}{U:Int×List AS×List Int×List Bool}(h:AR L x)(b:0<=U.1):Ap (Aj (Ey x U) ([],([],0))) λr=>r.2.length=r.1.length/\ ∀p∈r.1.zip r.2,p∈DW x:=by
 obtain⟨⟨b1,b2,b3,b4,b5,b6,b7⟩,a1,a2,a3,a4,a5,a6⟩:=h.vb;refine Ce (λ(s:List AS×List Int×Int)=>0<=s.2.2/\s.2.2<=x.2.2.1.length/\s.2.1.length=s.1.length/\s.1.length<=s.2.2/\ ∀p∈s.1.zip s.2.1,p∈DW x) (λ(s:List AS×List Int×Int)=>((x.2.2.1.length:Int)-s.2.2).toNat) ⟨Ae _,d!,rfl,q!,λp b=>by simp at b⟩ (λs X=>?_);obtain⟨S,i2,T,i4,u⟩:=X;unfold Ey;have e:=AY (x:=s.2.2+1);rw[e];refine AC (λE=>?_) (λ_=>Ap.done ⟨T,u⟩);simp only[len]at E;refine AA (AJ S E) λv D=>?_;have q: ∃w,DO (x,v)=some w/\(w.2= -1\/Good x v w.1):=by rcases h.files v D.2 with Y_|⟨r,R,_⟩;obtain⟨r,hr⟩:=Y_.ref (a:=x);exact⟨_,hr,.inl rfl⟩;obtain⟨k,hk,ad⟩:=R.ref h.vb.1;exact⟨_,hk,.inr R⟩
 obtain⟨w,F,t⟩:=q;rw[F,AD];refine AL (λ_=>Ap.next ⟨d!,d!,T,d!,u⟩ d!) (λZ=>?_);have c:Good x v w.1:=t.elim (λhz=>absurd hz o!) id;refine AA (RI ⟨i!,i!,o!⟩) λy o=>AA (Bg (Ae _) o.1 o.2) λv8 P=>AA (Bg o.1 i! i!) λv9 Q=>?_;have l8:=P.2;have l9:=Q.2;simp only[len]at l9;refine AA (Aa w!) λar d=>?_;have G:=d.2.1;simp only[Bj]at G;refine AA (Aa w!) λax f=>?_;have H:=f.2.1;simp only[Bj,BY]at H;refine AA (Aa o!) λa0 g=>?_;have al:=g.2.1;refine AA (Bg (Ae _) o.1) λM i=>?_;have ao:=i.2;refine AA (AJ S E) λN C=>AA (Bg o.1 i! i!) λO j=>?_;have I:=j.2;simp only[len]at I;refine AA (Aa w!) λa7 l=>?_;have J:=l.2.1;simp only[Bj]at J;refine AA (Aa w!) λa8 m=>?_;have K:=m.2.1;simp[Bj,BY]at K;refine AA (Aa o!) λa9 n=>?_;have ap:=n.2.1;have A:N=v:=by have:=C.1;rw[D.1]at this;exact(Ba this).symm
 have V_:v8=s.1.take y.toNat:=by rw[P.1];simp
 have W_:v9=s.1.drop y.toNat:=by rw[Q.1];exact BO (by rw[DB];simp only[len];omega)
 have z:M=s.2.1.take y.toNat:=by rw[i.1];simp
 have B:O=s.2.1.drop y.toNat:=by rw[j.1];exact BO (by rw[DB];simp only[len];omega)
 refine Ap.next ⟨d!,d!,d!,d!,λp b=>?_⟩ d!
 dsimp only at b;rw[g.1,f.1,d.1,n.1,m.1,l.1,V_,W_,z,B,CG,CG]at b;rw[fM (by simp[Ac,BQ,BY,Bj];omega),fM (by simp[BQ];omega)]at b;rw[AHt s.1 s.2.1 y.toNat]at u;rcases Am.1 b with b|b;rcases Am.1 b with b|b;exact u p (Am.2 (.inl b));rw[List.zip_cons_cons,List.zip_nil_left,A9]at b;rw[b,A];exact P6 h.vb.1 D.2 c;exact u p (Am.2 (.inr b))
def Wh(x:AI)(t:S AS×S Int×S Bool):Prop:=∀p∈(t.1.zip t.2.1).zip t.2.2,p.2=V->p.1∈DW x
def AD8{x:AI}{a:List AS×List Int}{n:Int}{t:List AS×List Int×List Bool}(h:a.2.length=a.1.length/\a.1.length<=256/\RL a.1)(hn:n<=100000)(m:T3 n t)(R: ∀p∈a.1.zip a.2,p∈DW x)(G:Wh x t):Ap (Aj (Ez a) (0,(0,t))) λr=>Wh x r:=by
 refine Ce (λ(s:Int×Int×List AS×List Int×List Bool)=>0<=s.2.1/\s.2.1<=a.1.length/\T3 (n+s.2.1) s.2.2/\Wh x s.2.2) (λ(s:Int×Int×List AS×List Int×List Bool)=>((a.1.length:Int)-s.2.1).toNat) ⟨Ae _,d!,by simpa using m,G⟩ (λs F=>?_);have⟨g,S,⟨z,H,T,A⟩,o⟩:=F;have⟨P,Q,E⟩:=h;unfold Ez;rw[(AY (x:=s.2.1+1))];refine AC (λf=>?_) (λ_=>Ap.done o);simp[len]at f;refine AA (AJ g f) λI _=>AC (λ_=>Ap.next ⟨d!,d!,⟨z,H,d!,A⟩,o⟩ d!) (λ_=>AA (AJ g f) λy k=>AA (AJ g) λJ C=>AA (AJ g f) λi D=>?_);have j:i=y:=by grind[Option.some.inj]
 subst j;refine EA (R3 (E i k.2)) λK B l=>AA (Aa w!) λL b=>?_;have q:=b.2.1;simp[Bj,BY]at q;refine AA (Aa w!) λM d=>?_;have u:=d.2.1;simp[Bj,BY]at u;refine AA (Aa w!) λN e=>?_;have v:=e.2.1;simp[Bj,BY]at v;refine AA (AJ g f) λO _=>Ap.next ⟨d!,d!,⟨d!,d!,d!,λr hr=>?_⟩,λp c m=>?_⟩ d!
 dsimp only at hr;rw[b.1]at hr;rcases Am.1 hr with w|w;exact A r w;simp at w;rw[w];exact l;dsimp only at c;rw[b.1,d.1,e.1,fM z.symm,fM (by rw[List.length_zip];omega)]at c;rcases Am.1 c with c|c;exact o p c m;grind[List.zip_cons_cons,List.zip_nil_left,List.mem_singleton,Fa,AJk]
def AD6{x:AI}{L:List EN}(h:AR L x):Ap (GJ x) λr=>T3 4096 r/\Wh x r:=by unfold GJ;refine AA KU λo i=>AO (λ_=>AB ⟨⟨rfl,rfl,q!,λr hr=>by simp at hr⟩,λp d=>by simp at d⟩) (λc=>?_);have e:=i c;have a4:=e.2.2.2.1;refine AA (P:=λr=>T3 4096 r/\Wh x r) ?_ λr hr=>AB hr;refine Ce (λ(s:Int×List AS×List Int×List Bool)=>0<=s.1/\s.1<=x.1.length/\T3 (256*s.1) s.2/\Wh x s.2) (λ(s:Int×List AS×List Int×List Bool)=>((x.1.length:Int)-s.1).toNat) ⟨Ae _,d!,⟨rfl,rfl,q!,λr hr=>by simp at hr⟩,λp d=>by simp at d⟩ (λs k=>?_);have⟨f,n,b,g⟩:=k;unfold Nh;rw[(AY (x:=s.1+1))];refine AC (λc=>?_) (λ_=>Ap.done ⟨⟨b.1,b.2.1,by have:=b.2.2.1;omega,b.2.2.2⟩,g⟩);simp[len]at c;refine AA ((ZH e h.sa f).and (AD7 h f)) λl a=>AA ((ZI a.1 o! b).and (AD8 a.1 o! b a.2.2 g)) λm j=>?_;grind[Ap.next]
def ADB{L}{x:S AS×S Bool}{k:Nat}{z t:AS}{F T lo hi lv:Int}{b:S EN}(i:Uq L)(m:x.1[k]?=Z t)(f:∀e∈t.2.2.2.2.2,e∈L)(n:U t.2.2.2.2.2≤4096)(l:∀e∈b,e∈L)(q:U b≤1000000){o:AS}:
  Ap (Aj (HV x ((k:Int),o,z)) (0,F,T,lo,hi,lv,b)) λr=>∃a:S EN,r=(F,T,lo,hi,lv,a)/\U a<=U b+4096/\∀y,y∈a↔y∈b\/y∈t.2.2.2.2.2:=by
 refine Ce (λs=>∃(j:Nat)(a:S EN),s=((j:Int),F,T,lo,hi,lv,a)/\j<=U t.2.2.2.2.2/\U a<=U b+j/\∀y,y∈a↔y∈b\/y∈t.2.2.2.2.2.take j) (U t.2.2.2.2.2-·.1.toNat)
  ⟨0,b,rfl,BR _,o!,λy=>q!⟩ ?_
 rintro s ⟨j,a,rfl,A,B,p⟩;unfold HV;rw[(by unfold ix;rw[C! o!,s?,m]:ix x.1 (k:Int)=Z t),p?];simp only[len];refine AC (λd=>?_) (λd=>k? ⟨a,rfl,o!,k!⟩);rw[AD];refine AA (AJ o! d) λv g=>?_;have c:=g.1;rw[CA]at c;refine AA (oD i (λe h=>((p e).1 h).elim (l e) λh=>f e (GY h)) (f v g.2) o!) λw u=>?_;rw[AY];refine y! ⟨j+1,w.1,k!,o!,o!,λy=>?_⟩ o!
 grind[List.take_add_one,Option.toList_some,a!]
def vu(x:S AS×S Bool)(lo hi:Int)(k:Nat):Prop:=x.2[k]?=Z V/\∃r,x.1[k]?=Z r/\r.2.2.1=lo/\r.2.2.2.1=hi/\(0<k->∀p,x.1[k-1]?=Z p->r.1=p.2.1+1)
def AGz{L}{x:Ψ AS×Ψ Bool}{a l:AS}(hL:Uq L)(h:∀(k:Nat)(r:AS),x.1[k]?=Z r→x.2[k]?=Z ζ→VR r∧ ∀e∈r.2.2.2.2.2,e∈L)(h1:1≤θ x.1∧θ x.1≤8)(h2:θ x.2=θ x.1)(V_:x.1[0]?=Z a)(W_:x.1[θ x.1-1]?=Z l):
  Ap (MA x) λr=>r.2=ζ->VR r.1/\∃(d:Int)(b:Ψ EN),r.1=(a.1,l.2.1,a.2.2.1,a.2.2.2.1,d,b)/\(∀k,k<θ x.1->vu x a.2.2.1 a.2.2.2.1 k)/\∀y,y∈b↔∃(k:Nat)(r:AS),x.1[k]?=Z r/\y∈r.2.2.2.2.2:=by
 have G:ix x.1 0=Z a:=by unfold ix;rw[C! o!];exact V_
 have R:ix x.1 (wi (len x.1-1))=Z l:=by rw[AY (x:=len x.1-1) b!];unfold ix;simp only[len];rw[C! o!,show((θ x.1:Int)-1).toNat=θ x.1-1 by omega,W_]
 unfold MA;rw[G,R,AD,AD,AD,AD,AD];generalize wi (a.2.2.2.2.1+1)=d;refine AA (P:=λr=>(∃u,r=.inl u/\u.1=η)\/∃z b,r=.inr ((a.1,l.2.1,a.2.2.1,a.2.2.2.1,d,b),z)/\(∀k,k<θ x.1->vu x a.2.2.1 a.2.2.2.1 k)/\∀y,y∈b↔∃(k:Nat)(r:AS),x.1[k]?=Z r/\y∈r.2.2.2.2.2) ?_ λr hr=>?_
 ·refine Ce (λs=>∃(k:Nat)(z:AS)(b:Ψ EN),s=((k:Int),(a.1,l.2.1,a.2.2.1,a.2.2.2.1,d,b),z)/\k<=θ x.1/\θ b<=4096*k/\(∀j,j<k->vu x a.2.2.1 a.2.2.2.1 j)/\∀y,y∈b↔∃(j:Nat)(r:AS),j<k/\x.1[j]?=Z r/\y∈r.2.2.2.2.2) (θ x.1-·.1.toNat)
   ⟨0,_,[],rfl,BR _,BR _,λj H=>N! H o!,λy=>⟨λhy=>by simp at hy,λ⟨j,r,H,_⟩=>N! H o!⟩⟩ ?_
  rintro s ⟨k,z,b,rfl,i2,i3,X,Y_⟩;unfold S4;dsimp only;simp only[len];refine AC (λhc=>?_) (λhc=>k? (.inr ⟨z,b,rfl,λj H=>X j o!,λy=>?_⟩))
  ·have hk:k<θ x.1:=o!
   have c:x.1[k]?=Z x.1[k]:=As hk;generalize x.1[k]=t at c;have i:x.2[k]?=Z (x.2[k]' o!):=As o!;generalize x.2[k]' o!=bb at i;have U:ix x.1 (k:Int)=Z t:=by unfold ix;rw[C! o!,s?,c]
   have Q:ix x.2 (k:Int)=Z bb:=by unfold ix;rw[C! o!,s?,i]
   rw[Q,AD];refine AO (λ_=>k? (.inl ⟨_,rfl,rfl⟩)) (λO=>?_);rw[O]at i;have⟨tv,tm⟩:=h k t c i;rw[U,AD,G,AD];refine AL (λ_=>k? (.inl ⟨_,rfl,rfl⟩)) (λq1=>?_);rw[AD,AD];refine AL (λ_=>k? (.inl ⟨_,rfl,rfl⟩)) (λq2=>?_);rw[AD,AD];refine AL (λ_=>k? (.inl ⟨_,rfl,rfl⟩)) (λq3=>?_);have E:∀e∈b,e∈L:=λe he=>by have⟨j,r,B,m,v⟩:=(Y_ e).1 he;exact(h j r m (X j B).1).2 e v
   have J:=ADB (x:=x) (k:=k) (z:=z) (o:=(a.1,l.2.1,a.2.2.1,a.2.2.2.1,d,b)) (F:=a.1) (T:=l.2.1) (lo:=a.2.2.1) (hi:=a.2.2.2.1) (lv:=d) hL c tm tv.1.2.2.2.2.2.2.2.2 E o!
   have D:vu x a.2.2.1 a.2.2.2.1 k→ ∀f:Ψ EN,θ f≤θ b+4096→(∀y,y∈f↔y∈b∨y∈t.2.2.2.2.2)→
     Ap (Z (Step.next (wi ((k:Int)+1),(a.1,l.2.1,a.2.2.1,a.2.2.2.1,d,f),z)):Ω (Step (Int×AS×AS) ((Bool×AS)⊕(AS×AS)))) (N2 (λs=>∃(k:Nat)(z:AS)(b:Ψ EN),s=((k:Int),(a.1,l.2.1,a.2.2.1,a.2.2.2.1,d,b),z)/\k<=θ x.1/\θ b<=4096*k/\(∀j,j<k->vu x a.2.2.1 a.2.2.2.1 j)/\∀y,y∈b↔∃(j:Nat)(r:AS),j<k/\x.1[j]?=Z r/\y∈r.2.2.2.2.2) (θ x.1-·.1.toNat) (θ x.1-((k:Nat):Int).toNat)
      λr=>(∃u,r=.inl u/\u.1=η)\/∃z b,r=.inr ((a.1,l.2.1,a.2.2.1,a.2.2.2.1,d,b),z)/\(∀k,k<θ x.1->vu x a.2.2.1 a.2.2.2.1 k)/\∀y,y∈b↔∃(k:Nat)(r:AS),x.1[k]?=Z r/\y∈r.2.2.2.2.2):=λhm f M C=>by
    rw[AY];refine y! ⟨k+1,z,f,by rw[show(k:Int)+1=((k+1:Nat):Int) by omega],o!,o!,λj H=>?_,λy=>?_⟩ d!
    grind;rw[C,Y_];constructor;rintro(⟨j,r,B,m,v⟩|g);exact⟨j,r,o!,m,v⟩;exact⟨k,t,o!,c,g⟩;rintro⟨j,r,B,m,v⟩;by_cases ao:j=k<;>grind
   apply AC<;>intro al
   ·have hp:k-1<θ x.1:=o!
    have q:x.1[k-1]?=Z x.1[k-1]:=As hp;generalize x.1[k-1]=p at q;have S:ix x.1 (wi ((k:Int)-1))=Z p:=by rw[AY];unfold ix;rw[C! o!,show((k:Int)-1).toNat=k-1 by omega,q]
    rw[AD,S,AD];have A:=(h (k-1) p q (X (k-1) o!).1).1.1;have ad:=A.2.2.1;have ap:=A.1;have ar:=A.2.1;rw[AY (x:=p.2.1+1)];refine AL (λ_=>k? (.inl ⟨_,rfl,rfl⟩)) (λq4=>AA J λ_ w=>?_);obtain⟨f,rfl,M,C⟩:=w;refine D ⟨i,t,c,q1,q2,λ_ p' n=>?_⟩ f M C;rw[q]at n;injection n with n;rw[<-n];exact q4
   have K:Ap (Aj (HV x ((k:Int),(a.1,l.2.1,a.2.2.1,a.2.2.2.1,d,b),z)) (0,a.1,l.2.1,a.2.2.1,a.2.2.2.1,d,b)) λr=>∃f:Ψ EN,r=(a.1,l.2.1,a.2.2.1,a.2.2.2.1,d,f)/\θ f<=θ b+4096/\∀y,y∈f↔y∈b\/y∈t.2.2.2.2.2:=J;refine AA K λ_ w=>?_;obtain⟨f,rfl,M,C⟩:=w;exact D ⟨i,t,c,q1,q2,λh0=>N! h0 o!⟩ f M C
  rw[Y_];constructor;rintro⟨j,r,B,m,v⟩;exact⟨j,r,m,v⟩;rintro⟨j,r,m,v⟩;exact⟨j,r,by have:=Cp m;omega,m,v⟩
 rcases hr with⟨u,rfl,hu⟩|⟨z,b,rfl,B,m⟩;exact BB (AB λI=>by dsimp only at I;rw[hu]at I;cases I);refine Ax (AA YG λax N=>AB λI=>⟨N.1 I,d,b,rfl,B,m⟩)
def ia(a b:AI):Prop:=∀lo n,AIS a lo n↔AIS b lo n
def xH{a}(h:VB a){x y:NE}(c:x∈DW a)(d:y∈DW a)(b:x.2=y.2):x=y:=by grind[lz,List.pairwise_iff_getElem,List.mem_iff_getElem]
structure Grp(M:List NE)(lo hi:Int):Prop where
 same:∀(k:Nat)(e:NE),M[k]?=Z e->e.1.2.2.1=lo/\e.1.2.2.2.1=hi/\e.1.1<=e.1.2.1
 next:∀(k:Nat)(e f:NE),M[k]?=Z e->M[k+1]?=Z f->f.1.1=e.1.2.1+1
def Grp.cover{M}{m l}(h:Grp M m l){c:NE}(d:M[0]?=Z c):∀(k:Nat)(b:NE),M[k]?=Z b->c.1.1<=b.1.1/\∀n:Int,c.1.1<=n->n<=b.1.2.1->∃j e,j<=k/\M[j]?=Z e/\e.1.1<=n/\n<=e.1.2.1
 |0,b,a=>by rw[d]at a;injection a with a;subst a;exact⟨Ae _,λn g i=>⟨0,c,Al _,d,g,i⟩⟩
 |k+1,b,a=>by
  have o:=Cp a;have f:M[k]?=Z (M[k]' o!):=As o!;have q:=Grp.cover h d k _ f;have hn:=h.next k _ _ f a
  have p:=(h.same k _ f).2.2;grind
def Grp.le{M}{g c}(h:Grp M g c){k:Nat}{a:NE}(f:M[k]?=Z a):∀(d:Nat)(e:NE),M[k+d]?=Z e->a.1.2.1<=e.1.2.1
 |0,e,he=>k!
 |d+1,e,he=>by
  have i:=Cp he;have b:M[k+d]?=Z (M[k+d]' o!):=As o!;have l:=Grp.le h f d _ b;have hn:=h.next (k+d) _ _ b he
  have j:=(h.same _ _ he).2.2;omega
def ACX{c:Type}{l:S c}{a b:c}(d:a∈l)(e:b∈l)(h:a≠b):2<=U l:=by cases l<;>grind
def ni{b:Type}(p:b->Bool):∀l:S b,(l.filter p).length+(l.filter λa=>!p a).length=U l
 |[]=>rfl
 |a::r=>by have:=ni p r;grind
def aJ(M:S NE)(l:S Aq):S Aq:=l.filter λf=>!(M.any λe=>e.2==f.2.1)
def ln{M:S NE}{l:S Aq}{f:Aq}:f∈aJ M l↔f∈l/\∀e∈M,e.2≠f.2.1:=by grind[aJ]
def zc{L}{a}{M:S NE}{r q}(h:AR L a)(c:∀e∈M,e∈DW a)(l:Grp M r q)(w:2<=U M):(aJ M a.2.2.1).length+2<=U a.2.2.1:=by
 have d:M[0]?=Z (M[0]' o!):=As o!;have k:M[1]?=Z (M[1]' o!):=As o!;have n:=BN d;have o:=BN k;have i:(M[0]' o!).2≠(M[1]' o!).2:=λm=>by
  have j:=l.next 0 _ _ d k
  have:=(l.same 0 _ d).2.2;rw[<-(xH h.vb (c _ n) (c _ o) m)]at j;omega
 have⟨f,s,_,t,_⟩:=h.mem (c _ n);have⟨g,u,_,v,_⟩:=h.mem (c _ o);have p:=ni (λf:Aq=>!(M.any λe=>e.2==f.2.1)) a.2.2.1;have:2<=(a.2.2.1.filter λf=>!!(M.any λe=>e.2==f.2.1)).length:=by refine ACX (a:=f) (b:=g) ?_ ?_ λm=>i k!;grind;grind
 unfold aJ;omega
def AE3{L}{a}{M:S NE}{m l}{s:BZ}(h:AR L a)(j:∀e∈M,e∈DW a)(k:Grp M m l)(i:2<=U M)(q:a.2.2.2.2<=1073741824):VB (a.1,a.2.1,aJ M a.2.2.1++[(1,a.2.2.2.2,s)],a.2.2.2.1,a.2.2.2.2+1):=by have p:=zc h j k i;have⟨b,c,d,f,n,o,g⟩:=h.vb;refine⟨b,c,d,k!,k!,k!,?_⟩;exact(g.sub (WK)).push f rfl rfl
def notM(M:S NE)(x:NE):Bool:= !(M.any λe=>e.2==x.2)
def vi{L:Ψ EN}{a b:AI}{M:Ψ NE}{r:AS}{lo t:Int}{I T:NE}(hL:Uq L)(h:AR L a)(J:∀e∈M,e∈DW a)(V_:Grp M lo t)(h2:2≤θ M)(h0:M[0]?=δ I)(hn:M[θ M-1]?=δ T)
  (hr:VR r) (r1:r.1=I.1.1) (r2:r.2.1=T.1.2.1) (O:r.2.2.1=lo) (r4:r.2.2.2.1=t) (r5:∀y,y∈r.2.2.2.2.2↔∃e∈M,y∈e.1.2.2.2.2.2)
  (hb:b=(a.1,a.2.1,aJ M a.2.2.1++[(1,a.2.2.2.2,NG r)],a.2.2.2.1,a.2.2.2.2+1)) (q:VB b):
  AR L b/\ia a b/\(AG a->AG b)/\∀c,RC a c->RC b c:=by
 have b1:b.1=a.1:=by rw[hb]
 have b2:b.2.1=a.2.1:=by rw[hb]
 have S:b.2.2.1=aJ M a.2.2.1++[(1,a.2.2.2.2,NG r)]:=by rw[hb]
 have b4:b.2.2.2.1=a.2.2.2.1:=by rw[hb]
 have m0:=BN h0;have mn:=BN hn;have z:∀n:Int,(r.1<=n/\n<=r.2.1)↔∃e∈M,e.1.1<=n/\n<=e.1.2.1:=λn=>by constructor;rintro⟨B,C⟩;obtain⟨j,e,_,q2,q3⟩:=(V_.cover h0 _ T hn).2 n o! o!;exact⟨e,BN q2,q3⟩;rintro⟨e,i,B,C⟩;obtain⟨k,W_⟩:=Et.1 i;have q1:=(V_.cover h0 k e W_).1;have a2:=Cp W_;have q2:=V_.le W_ (θ M-1-k) T (by rw[show k+(θ M-1-k)=θ M-1 by omega];exact hn);omega
 have Z_:∀e∈M,cH L e.1:=λe i=>by obtain⟨f,_,_,_,g,_⟩:=h.mem (J e i);exact g
 have p:∀e∈M,e.1.2.2.1=lo/\e.1.2.2.2.1=t/\e.1.1<=e.1.2.1:=λe i=>by obtain⟨k,W_⟩:=Et.1 i;exact V_.same k e W_
 have ad:cH L r:=by refine hr.runOf hL λy=>?_;rw[r5,O,r4];constructor;rintro⟨e,i,N⟩;have g:=((Z_ e i).mem y).1 N;obtain⟨p1,p2,p3⟩:=p e i;have:=(z y.1).2 ⟨e,i,g.2.2.2.2⟩;exact⟨g.1,g.2.1,o!,o!,this.1,this.2⟩;rintro⟨B,C,P,g4,g5,g6⟩;obtain⟨e,i,q1,q2⟩:=(z y.1).1 ⟨g5,g6⟩;obtain⟨p1,p2,p3⟩:=p e i;exact⟨e,i,((Z_ e i).mem y).2 ⟨B,C,o!,o!,q1,q2⟩⟩
 have K:Km a r.2.2.1 r.2.2.2.1:=by obtain⟨f,_,g,_⟩:=h.mem (J I m0);obtain⟨p1,p2,p3⟩:=p I m0;rw[O,r4,<-p1,<-p2];exact g.2.2.2
 have u:Good b (1,a.2.2.2.2,NG r) r:=⟨rfl,rfl,hr,(Km.congr b1 b2).1 K⟩
 have v:∀{f:Aq}{s:AS},Good a f s->Good b f s:=λg=>g.congr b1 b2;have l:∀x∈DW b,(x∈DW a/\∀e∈M,e.2≠x.2)\/x=(r,a.2.2.2.2):=λx w=>by unfold DW at w;rw[S]at w;obtain⟨f,d,t⟩:=O0.1 w;rcases Am.1 d with d|d;obtain⟨f1,f2⟩:=ln.1 d;rcases h.files f f1 with U|⟨s,s1,s2,s3⟩;rw[U.intR q.1]at t;cases t;rw[(v s1).intR q.1]at t;injection t with t;subst t;exact .inl ⟨P6 h.vb.1 f1 s1,f2⟩;rw[A9]at d;subst d;rw[u.intR q.1]at t;injection t with t;exact .inr t.symm
 have ar:∀x∈DW a,(∀e∈M,e.2≠x.2)->x∈DW b:=λx w Q=>by
  obtain⟨f,f1,f2,f3,_⟩:=h.mem w;have:f∈b.2.2.1:=by rw[S];exact Am.2 (.inl (ln.2 ⟨f1,λe i=>f3▸Q e i⟩))
  have:=P6 q.1 this (v f2);rw[<-f3]at this;exact this
 have Y_:(r,a.2.2.2.2)∈DW b:=P6 q.1 (by rw[S];exact Am.2 (.inr (A9.2 rfl))) u;have al:∀x∈DW a,x.1.1<=x.1.2.1:=λx w=>by obtain⟨f,_,g,_⟩:=h.mem w;exact g.2.2.1.1.2.1
 have a0:r.1<=r.2.1:=hr.1.2.1;have A:∀y∈DW a,(∀e∈M,e.2≠y.2)->y.1.2.2.1=lo->r.2.1<y.1.1\/y.1.2.1<r.1:=λy N Q o=>by refine Tp λF=>?_;have a4:=al y N;obtain⟨e,i,q1,q2⟩:=(z (if y.1.1<=r.1 then r.1 else y.1.1)).1 (by split<;>omega);have D:e≠y:=λF=>Q e i (by rw[F]);have:=h.dis e (J e i) y N D ((p e i).1.trans o.symm);split at q1<;>split at q2<;>omega
 refine⟨⟨q,λf d=>?_,λx w y N D o=>?_⟩,λm n=>?_,λao f d=>?_,λc hc m=>?_⟩;rw[S]at d;rw[b4];rcases Am.1 d with d|d;exact(h.files f (ln.1 d).1).imp id λ⟨s,s1,s2,s3⟩=>⟨s,v s1,s2,s3⟩
 rw[A9]at d;subst d;obtain⟨f,_,_,_,_,g⟩:=h.mem (J T mn);exact .inr ⟨r,u,ad,o!⟩;rcases l x w with⟨R,x2⟩|rfl;rcases l y N with⟨y1,y2⟩|rfl;exact h.dis x R y y1 D o;have:=A x R x2 (o.trans O);exact this.symm;rcases l y N with⟨y1,y2⟩|rfl;exact A y y1 y2 (o.symm.trans O);exact N! rfl D;constructor;rintro⟨e,i,B,C,P⟩;by_cases Q:∃f∈M,f.2=e.2;obtain⟨f,d,ap⟩:=Q;have:=xH h.vb (J f d) i ap;subst this;have hc:=(z n).2 ⟨f,d,C,P⟩;exact⟨_,Y_,by rw[<-B,(p f d).1];exact O,hc.1,hc.2⟩;exact⟨e,ar e i λf d F=>Q ⟨f,d,F⟩,B,C,P⟩;rintro⟨e,i,B,C,P⟩;rcases l e i with⟨q1,q2⟩|rfl;exact⟨e,q1,B,C,P⟩;obtain⟨f,d,q1,q2⟩:=(z n).1 ⟨C,P⟩;exact⟨f,J f d,by rw[(p f d).1,<-B];exact O.symm,q1,q2⟩;rw[S]at d;rcases Am.1 d with d|d;obtain⟨s,hs⟩:=ao f (ln.1 d).1;exact⟨s,v hs⟩;rw[A9]at d;subst d;exact⟨r,u⟩
 ·have X:=(K7 q).filter λe=>e.1.2.2.1==m;have a1:=hc m;by_cases hl:m=lo
  ·subst hl;have H:=iX _ ((r,a.2.2.2.2)::((DW a).filter λe=>e.1.2.2.1==m).filter (notM M)) X λx w=>by obtain⟨x0,E⟩:=BS.1 w;rcases l x x0 with⟨R,x2⟩|rfl;refine Aw.2 (.inr (BS.2 ⟨BS.2 ⟨R,E⟩,?_⟩));unfold notM;simp only[WH,List.any_eq_false,J!];exact x2;exact Aw.2 (.inl rfl)
   have a3:=ni (notM M) ((DW a).filter λe=>e.1.2.2.1==m);have h1:M[1]?=δ (M[1]' o!):=As o!;have m1:=BN h1;have a5:2<=(((DW a).filter λe=>e.1.2.2.1==m).filter λx=>!notM M x).length:=by
    have G:∀e∈M,e∈((DW a).filter λe=>e.1.2.2.1==m).filter λx=>!notM M x:=λe i=>by refine BS.2 ⟨BS.2 ⟨J e i,by rw[(p e i).1];exact L! _⟩,?_⟩;unfold notM;rw[Bool.not_not];exact po.2 ⟨e,i,L! _⟩
    refine ACX (G I m0) (G _ m1) λF=>?_;have ax:=V_.next 0 I _ h0 h1
    have:=(p I m0).2.2;rw[<-F]at ax;omega
   rw[BY]at H;omega
  have H:=iX _ ((DW a).filter λe=>e.1.2.2.1==m) X λx w=>by obtain⟨x0,E⟩:=BS.1 w;rcases l x x0 with⟨R,x2⟩|rfl;exact BS.2 ⟨R,E⟩;exact N! (eq_of_beq E) λF=>hl (F.symm.trans O)
  omega
def VY(v1:S AS×S Int×S Bool)(i n:Nat):S NE:=((v1.1.zip v1.2.1).drop i).take n
def xt{a}{i n k:Nat}{e:NE}(b:k<n):(VY a i n)[k]?=Z e↔a.1[i+k]?=Z e.1/\a.2.1[i+k]?=Z e.2:=by grind[VY]
def AGE{x:AI×Int}{a:S AS×S Int×S Bool}{i n j:Nat}{f:Aq}{z:AI}{w:S Aq×S Int×Int×Int×Int}(hn:x.2=n)(o:n<=8)(t:U a.2.1=U a.1)(p:i+n<=U a.1)(m:U a.1<=4096)(h:x.1.2.2.1[j]?=Z f):Ap (Aj (Ob x a ((i:Int),z) ((j:Int),w)) (Y,(i:Int))) λr=>r=(VY a i n).any λe=>e.2==f.2.1:=by
 have l:(VY a i n).length=n:=by grind[VY,r?,List.length_drop,List.length_zip]
 refine Ce (λs=>∃k:Nat,s=(((VY a i n).take k).any (·.2==f.2.1),((i+k:Nat):Int))/\k<=n) (i+n-·.2.toNat) ⟨0,q!,BR _⟩ ?_;rintro s ⟨k,rfl,q⟩;unfold Ob;dsimp only;rw[hn,AY (x:=(i:Int)+(n:Int)),AY (x:=((i+k:Nat):Int)+1)];refine AC (λg=>?_) (λg=>k? k!);have b:k<n:=o!
 have d:a.2.1[i+k]?=Z (a.2.1[i+k]' o!):=As o!;refine AK (λc=>y! ⟨k+1,?_,b⟩ k!) (λc=>?_);grind
 ·rw[(by unfold ix;rw[C! o!,s?,d]:ix a.2.1 ((i+k:Nat):Int)=Z (a.2.1[i+k]' o!)),p?,(by unfold ix;rw[C! o!,s?,h]:ix x.1.2.2.1 (j:Int)=Z f),p?];refine y! ⟨k+1,?_,b⟩ o!
  rw[(by rw[Cr,((xt (e:=(a.1[i+k]' o!,a.2.1[i+k]' o!)) b).2 ⟨As o!,d⟩)];rfl:(VY a i n).take (k+1)=(VY a i n).take k++[(a.1[i+k]' o!,a.2.1[i+k]' o!)]),List.any_append,c,Bool.false_or];refine Da ?_ k!;dsimp only;rw[List.any_cons,List.any_nil,Bool.or_false]
def AGD{x:AI×Int}{a:S AS×S Int×S Bool}{i n:Nat}{z:AI}(hn:x.2=n)(g:n<=8)(o:U a.2.1=U a.1)(l:i+n<=U a.1)(f:U a.1<=4096)(u:U x.1.2.2.1<=256):Ap (Aj (Oa x a ((i:Int),z)) (0,[],x.1.1,x.1.2.1,x.1.2.2.2)) λr=>r=(aJ (VY a i n) x.1.2.2.1,x.1.1,x.1.2.1,x.1.2.2.2):=by
 refine Ce (λq=>∃j:Nat,q=((j:Int),aJ (VY a i n) (x.1.2.2.1.take j),x.1.1,x.1.2.1,x.1.2.2.2)/\j<=U x.1.2.2.1) (U x.1.2.2.1-·.1.toNat) ⟨0,rfl,BR _⟩ ?_;rintro q ⟨j,rfl,v⟩;unfold Oa;simp only[len];rw[AY];refine AC (λk=>?_) (λk=>k? k!);have d:x.1.2.2.1[j]?=Z (x.1.2.2.1[j]' o!):=As o!;have m:ix x.1.2.2.1 (j:Int)=Z (x.1.2.2.1[j]' o!):=by unfold ix;rw[C! o!,s?,d]
 refine AA (AGE hn g o l f d) λc e=>?_;have p:aJ (VY a i n) (x.1.2.2.1.take (j+1))=aJ (VY a i n) (x.1.2.2.1.take j)++(if c=V then []else [x.1.2.2.1[j]' o!]):=by grind[List.take_add_one,Option.toList_some,aJ]
 refine AA (P:=λt=>t=(aJ (VY a i n) (x.1.2.2.1.take (j+1)),x.1.1,x.1.2.1,x.1.2.2.2)) ?_ λs b=>?_;refine AO (λh=>?_) (λh=>AB ?_);grind[aJ,VY,Nat.le_trans,List.length_filter_le,r?,AA,Aa,AB];grind
 ·rw[b];exact y! ⟨j+1,k!,o!⟩ k!
def AHx(L:S EN)(x:AI×Int)(r:AI×Bool×Int):Prop:=
 (x.1.2.2.2.2<=1073741824->r.2.2=0)/\(r.2.2=0->(r.2.1=Y/\r.1=x.1)\/(r.2.1=V/\AR L r.1/\ia x.1 r.1/\(AG x.1->AG r.1)/\(∀c,RC x.1 c->RC r.1 c)/\r.1.1=x.1.1/\r.1.2.1=x.1.2.1/\r.1.2.2.2.1=x.1.2.2.2.1/\r.1.2.2.2.2=x.1.2.2.2.2+1/\U r.1.2.2.1+1<=U x.1.2.2.1/\x.1.2.2.2.2<=1073741824))
def AIa{L:List EN}{x:AI×Int}(hL:Uq L)(h:AR L x.1)(hf:2<=x.2/\x.2<=8):Ap (M1 x) (AHx L x):=by
 have hs:=h.sa;have⟨n,hn⟩:=Ef (show 0<=x.2 by omega);have p:x.1.2.2.1.length<=256:=by have:=h.vb.2.2.2.2.2.1;omega
 have al:=h.vb.2.2.2.1;unfold M1;have⟨v0,U,V_⟩:=Wl (x:=x.1);have X:=V_.2 h.vb;subst X;rw[U,AD,B9,cond_false,decide_eq_false o!,cond_false,decide_eq_false o!,cond_false];refine AA (AD6 h) λa o=>?_;have⟨⟨t1,t2,t3,t4⟩,hw⟩:=o;have q: ∀e∈DW x.1,VR e.1/\ ∀y∈e.1.2.2.2.2.2,y∈L:=λe t=>by have⟨f,_,g,_,g2,_⟩:=h.mem t;exact⟨g.2.2.1,λy hy=>((g2.mem y).1 hy).1⟩
 refine AA (P:=λr=>(∃z,r= .inr z)\/ ∃u,r= .inl u/\AHx L x (u.2.2,(u.1,u.2.1))) ?_ λr hr=>?_
 ·refine Ce (λ(s:Int×AI)=>0<=s.1/\s.1<=a.1.length) (λ(s:Int×AI)=>((a.1.length:Int)-s.1).toNat) ⟨Ae _,d!⟩ (λs hI=>?_);have⟨i',z⟩:=s;have⟨D,i2⟩:=hI;dsimp only at D i2;obtain⟨i,rfl⟩:=Ef D;unfold UR;dsimp only;rw[AY (x:=(i:Int)+1),AY (x:=(i:Int)+x.2)];refine AC (λhc=>?_) (λ_=>Ap.done (.inl ⟨_,rfl⟩));simp[len]at hc;refine AA (Bg D) λd h3=>AA (Bg D) λZ_ h4=>?_;have l3:=h3.2;have l4:=h4.2;have l: ∀k,k<n->d[k]? =a.1[i+k]? :=λk c=>by grind[Int.toNat_natCast]
  have F: ∀k,k<n->Z_[k]? =a.2.2[i+k]? :=λk c=>by grind[Int.toNat_natCast]
  have w: ∀{k:Nat} {r:AS},d[k]? =some r->k<n:=λ{k r} c=>by have:=Cp c;omega
  have whole: ∀(k:Nat) (r:AS),d[k]? =some r->Z_[k]? =some true-> ∃id,a.2.1[i+k]? =some id/\(r,id)∈DW x.1:=λk r o h2=>by have c:=w o;rw[l k c]at o;rw[F k c]at h2;have ap:=Cp o;have j:a.2.1[i+k]? =some (a.2.1[i+k]' o!):=As o!;refine⟨_,j,?_⟩;refine hw ((r,a.2.1[i+k]' o!),true) ?_ rfl;refine Et.2 ⟨i+k,?_⟩;rw[tR,tR];exact⟨⟨o,j⟩,h2⟩
  have S:d.length=n:=o!
  have I:d[0]? =some (d[0]' o!):=As o!;have J:d[d.length-1]? =some (d[d.length-1]' o!):=As o!;generalize d[0]' o!=r0 at I;generalize d[d.length-1]' o!=rn at J;refine AA (AGz (x:=(d,Z_)) hL (λk r q1 q2=>?_) d! d! I J) λv5 h5=>?_;have⟨id,_,q3⟩:=whole k r q1 q2;exact q _ q3;refine AO (λ_=>Ap.next d! d!) (λT=>?_);have⟨w1,lv,es,B,E,w4⟩:=h5 T;dsimp only at E w4;refine AC (λad=>Ap.done (.inr ⟨_,rfl,λhh=>absurd hh o!,λhz=>absurd (show(21:Int)=0 from hz) g!⟩)) (λar=>?_);have hi:i+n<=a.1.length:=o!
  have Q:(VY a i n).length=n:=by unfold VY;rw[List.length_take,List.length_drop,List.length_zip];omega
  have b: ∀(k:Nat) (e:NE),(VY a i n)[k]? =some e->k<n/\d[k]? =some e.1/\a.2.1[i+k]? =some e.2:=λk e c=>by
   have m:k<n:=k!
   have:=(xt m).1 c;exact⟨m,by rw[l k m];exact this.1,this.2⟩
  have C: ∀e∈VY a i n,e∈DW x.1:=λe t=>by have⟨k,c⟩:=Et.1 t;have⟨k1,v,Y_⟩:=b k e c;have⟨q1,_⟩:=E k o!;have⟨id,q2,q3⟩:=whole k e.1 v q1;rw[Y_]at q2;injection q2 with q2;rw[<-q2]at q3;exact q3
  have N:Grp (VY a i n) r0.2.2.1 r0.2.2.2.1:=by refine⟨λk e c=>?_,λk e f c hf=>?_⟩;have⟨k1,v,Y_⟩:=b k e c;have⟨_,r,q1,q2,q3,_⟩:=E k o!;dsimp only at q1;rw[v]at q1;cases q1;exact⟨q2,q3,(q e (C e (BN c))).1.1.2.1⟩;have⟨k1,v,Y_⟩:=b k e c;have⟨f1,f2,f3⟩:=b (k+1) f hf;have⟨_,r,q1,_,_,q2⟩:=E (k+1) o!;dsimp only at q1 q2;rw[f2]at q1;cases q1;exact q2 o! e.1 (by rw[nC];exact v)
  have G:(VY a i n)[0]? =some ((VY a i n)[0]' o!):=As o!;have H:(VY a i n)[(VY a i n).length-1]? =some ((VY a i n)[(VY a i n).length-1]' o!):=As o!;generalize (VY a i n)[0]' o!=m0 at G;generalize (VY a i n)[(VY a i n).length-1]' o!=mn at H;have O:m0.1=r0:=by have:=(b 0 m0 G).2.1;rw[I]at this;exact(Ba this).symm
  have R:mn.1=rn:=by have:=(b _ mn H).2.1;rw[Q,<-S,J]at this;exact(Ba this).symm
  refine AA (AGD hn o! t1 hi o! p) λax K=>?_;subst K;rw[rD w1,AD];dsimp only;have ao:=zc h C N o!;refine AA (Aa w!) λa0 M=>?_;rw[AY (x:=x.1.2.2.2.2+1),M.1];have W_:=AE3 (s:=NG v5.1) h C N o! o!;have key:=vi (r:=v5.1) hL h C N o! G H w1 (by rw[B,O]) (by rw[B,R]) (by rw[B]) (by rw[B]) (λy=>by rw[B];dsimp only;rw[w4];constructor;rintro⟨k,r,q1,q2⟩;have c:=w q1;have A:=q1;rw[l k c]at A;have j:a.2.1[i+k]? =some (a.2.1[i+k]' o!):=As o!;exact⟨(r,_),BN ((xt (e:=(r,a.2.1[i+k]' o!)) c).2 ⟨A,j⟩),q2⟩;rintro⟨e,t,q2⟩;have⟨k,c⟩:=Et.1 t;exact⟨k,e.1,(b k e c).2.1,q2⟩) rfl W_;refine Ap.done (.inr ⟨_,rfl,λ_=>rfl,λ_=>.inr ⟨rfl,key.1,key.2.1,key.2.2.1,key.2.2.2,rfl,rfl,rfl,rfl,?_,o!⟩⟩);dsimp only;rw[Ac,BY,Bj];omega
 rcases hr with⟨z,rfl⟩|⟨u,rfl,hu⟩;exact Ax (AB ⟨λ_=>rfl,λ_=>.inl ⟨rfl,rfl⟩⟩);exact BB (AB hu)
def ia.refl(a:AI):ia a a:=λ_ _=>YJ
def ia.trans{a b c}(h:ia a b)(g:ia b c):ia a c:=λd n=>(h d n).trans (g d n)
def AIk{L:List EN}{x:AI×Int}{m:Int}(q:Uq L)(h:AR L x.1)(u:2<=x.2/\x.2<=8)(v:SF x.1 m)(w:m<=1073741824):Ap (Jy x) λr=>r.2=0/\AR L r.1/\ia x.1 r.1/\(AG x.1->AG r.1)/\(∀c,RC x.1 c->RC r.1 c)/\SF r.1 m/\r.1.1=x.1.1/\r.1.2.1=x.1.2.1/\r.1.2.2.2.1=x.1.2.2.2.1:=by
 unfold Jy;refine AA (P:=λr=>r.1=0/\AR L r.2/\ia x.1 r.2/\(AG x.1->AG r.2)/\(∀c,RC x.1 c->RC r.2 c)/\SF r.2 m/\r.2.1=x.1.1/\r.2.2.1=x.1.2.1/\r.2.2.2.2.1=x.1.2.2.2.1) ?_ λr hr=>AB hr;refine Ce (λ(s:AI×AI)=>AR L s.1/\ia x.1 s.1/\(AG x.1->AG s.1)/\(∀c,RC x.1 c->RC s.1 c)/\SF s.1 m/\s.1.1=x.1.1/\s.1.2.1=x.1.2.1/\s.1.2.2.2.1=x.1.2.2.2.1) (λs=>s.1.2.2.1.length) ⟨h,ia.refl _,id,λ_=>id,v,rfl,rfl,rfl⟩ (λs p=>?_);obtain⟨e,f,l,n,g,i,j,k⟩:=p;unfold US;refine AA (AIa (x:=(s.1,x.2)) q e u) λC o=>?_;obtain⟨y,z⟩:=o;have b:s.1.2.2.2.2<=1073741824:=by unfold SF at g;omega
 have d:=y b;refine AL (λt=>absurd d t) (λ_=>?_);rcases z d with⟨q1,q2⟩|⟨q1,q2,q3,A,B,q4,q5,q6,q7,q8,q9⟩
 ·rw[q1,Bool.not_false,cond_true];exact Ap.done ⟨rfl,e,f,l,n,g,i,j,k⟩
 ·rw[q1,B9,cond_false];dsimp only at q3 q4 q5 q6 q7 q8;exact Ap.next ⟨q2,f.trans q3,λa=>A (l a),λc a=>B c (n c a),by unfold SF at*;dsimp only;omega,q4.trans i,q5.trans j,q6.trans k⟩ d!
def ABe{b:UInt8}{n:Int}(a:0<=n)(e:n<255):E7 ([ι .u8 (((π ((κ 8 (b.toNat:Int))^^^(κ 8 (ι .u8 (wi (1+n)))))):Nat):Int)]:S Int)=[UInt8.ofNat (BitVec.ofNat 8 b.toNat^^^BitVec.ofNat 8 (1+n).toNat).toNat]/\b≠UInt8.ofNat (BitVec.ofNat 8 b.toNat^^^BitVec.ofNat 8 (1+n).toNat).toNat:=by obtain⟨m,rfl⟩:=Ef a;rw[(by grind[AY]:wi (1+(m:Int))=((1+m:Nat):Int)),(by rw[AHs];omega:ι .u8 ((1+m:Nat):Int)=((1+m:Nat):Int)),(by omega:(1+(m:Int)).toNat=1+m),cK,cK];refine⟨?_,λd=>?_⟩;rw[(by rw[AHs];omega:ι .u8 (((BitVec.ofNat 8 b.toNat^^^BitVec.ofNat 8 (1+m)).toNat:Nat):Int)=(((BitVec.ofNat 8 b.toNat^^^BitVec.ofNat 8 (1+m)).toNat:Nat):Int))];rfl;have c:=E! UInt8.toNat d;rw[fQ,TT o!]at c;have f:=E! (BitVec.ofNat 8 b.toNat^^^ ·) (by grind:BitVec.ofNat 8 b.toNat=BitVec.ofNat 8 b.toNat^^^BitVec.ofNat 8 (1+m));grind[BitVec.xor_assoc,BitVec.xor_self,BitVec.zero_xor]
def AD3{b}{s:BZ}(h:CX b)(A:U s≠0)(B:U s<=1099511627775):Ap (GL b s) λr=>CX r.2/\AHz s r.1/\U r.1<=U s+1:=by
 unfold GL;simp only[len];refine AP (N! · o!) (λ_=>AA (Ag h o!) λ_ m=>?_);have⟨l,k0,k1⟩:=m;have⟨k,t⟩:=Ef k0;refine AA (Ag l g!) λF e=>?_;rw[t,AY];have u:k<U s:=o!
 have a:s=s.take k++s[k]::s.drop (k+1):=t!
 have i:SL s 0 (k:Int)=Z (s.take k):=by grind[SL]
 have j:SL s ((k:Int)+1) (U s:Int)=Z (s.drop (k+1)):=by unfold SL;grind[List.take_of_length_le]
 have C:(s.take k).length=k:=k!
 have D:(s.drop (k+1)).length=U s-(k+1):=DB;refine AP (λ_=>?_) (λ_=>?_);rw[i,AD,j,AD];refine AA (CL o!) λG o=>AB ⟨e.1,.less _ _ _ a o.1,k!⟩;refine AP (λ_=>?_) (λ_=>?_);refine AA (Ag e.1 g!) λz p=>AA (CL (by rw[Mf];simp;omega)) λH q=>AB ⟨p.1,?_,?_⟩;exact .more s [] (UInt8.ofNat (ι .u8 z.1).toNat) (Do s).symm (by rw[q.1];rfl);grind[Mf,List.length_cons,List.length_nil];rw[i,AD];have f:six s (k:Int)=Z ((s[k].toNat:Nat):Int):=by grind[six,s?,m?]
 rw[f,AD,j,AD];refine AA (Ag e.1 g!) λw c=>?_;have⟨q1,q2⟩:=ABe (b:=s[k]) c.2.1 o!;rw[q1];refine AA (CL w!) λx d=>?_;have g:=d.2;simp[BY,Bj]at g;refine AA (CL o!) λy n=>AB ⟨c.1,.other _ _ _ _ q2 a ?_,k!⟩;grind[t?]
theorem AAV{a:AI}{b:AV}(y:AG a)(h:CX b)(I:a.2.2.1.length<=1000000):Ap (GF b a.2.2.1) λr=>CX r.2/\ ∀f∈r.1,f∈a.2.2.1\/Bad f:=by
 unfold GF;generalize B:a.2.2.1=x at*;refine AP (λ_=>AB ⟨h,λf v=>by simp at v⟩) (λg=>?_);simp only[len]at g;refine AA (Ag h (by grind)) λC p=>?_;have⟨n,c,o⟩:=p;simp[len]at o;rw[AY (x:=C.1+1) (by omega)];refine AA (Ag n (by decide)) λJ q=>AP (λ_=>?_) (λ_=>?_)
 ·refine AA (Bg (Ae _) c (by omega)) λK F=>AA (Bg (by omega) (by grind) (by grind)) λL G=>?_;grind[AA,Aa,List.length_nil,AB]
 ·refine AA (Aa (by simp;omega)) λM u=>?_;have j:=u.1;rw[CG]at j;subst j;refine AA (AJ c (by omega)) λN _=>AA (AJ c (by omega)) λm H=>?_;have⟨r,hr⟩:=y m (by grind);have A:=hr.size;have i:m.2.2.length≠0:=by rw[hr.2.1];grind[NG,List.length_append,E2]
  refine AA (AD3 q.1 i (by omega)) λO k=>AA (AJ c (by omega)) λD _=>AA (AJ c (by omega)) λE t=>AB ⟨k.1,λf e=>?_⟩;rcases Qo e with w|w
  ·grind
  ·refine .inr ?_;rw[w];refine⟨by grind,λs z l=>?_⟩;dsimp only at l;have d:=k.2.1;rw[l,hr.2.1]at d;exact AE8 hr.2.2.1.wr z d
def ACe{L}{a}{b}{m}(h:AR L a)(p:AG a)(k:CX b)(J:SF a m):Ap (GF b a.2.2.1) λr=>CX r.2/\AR L (a.1,a.2.1,r.1,a.2.2.2)/\(∀c,RC a c->RC (a.1,a.2.1,r.1,a.2.2.2) c)/\SF (a.1,a.2.1,r.1,a.2.2.2) m:=by
 obtain⟨B,C,D,E,F,K,G⟩:=id h.vb;refine((ACf G k o! h.sa.2.2).and (AAV p k o!)).mono λr hr=>?_;obtain⟨⟨H,M,I,N⟩,_,u⟩:=hr;have i:VB (a.1,a.2.1,r.1,a.2.2.2):=⟨B,C,D,E,F,d!,I⟩
 have g:∀e∈DW (a.1,a.2.1,r.1,a.2.2.2),e∈DW a:=λe o=>by unfold DW at o;obtain⟨f,d,j⟩:=O0.1 o;rcases u f d with d|d;obtain⟨s,q⟩:=p f d;have n:Good (a.1,a.2.1,r.1,a.2.2.2) f s:=q.congr rfl rfl;rw[n.intR i.1]at j;injection j with j;subst j;exact P6 h.vb.1 d q;rw[d.intR i.1]at j;cases j
 refine⟨H,⟨i,λf d=>?_,λx l y v=>h.dis x (g x l) y (g y v)⟩,λc k t=>?_,by unfold SF at*;dsimp only;omega⟩;rotate_left;exact CK (iX _ ((DW a).filter λe=>e.1.2.2.1==t) ((K7 i).filter _) λx l=>BS.2 ⟨g x (BS.1 l).1,(BS.1 l).2⟩) (k t);rcases u f d with d|d;exact(h.files f d).imp id λ⟨s,w,z,A⟩=>⟨s,w.congr rfl rfl,z,A⟩
 exact .inl d
def ADx{L}{x:Int×S Int}(h:BD x.1 x.2):Ap (Il x) λr=>AR L r.1/\AG r.1/\RC r.1 0/\SF r.1 1/\r.1.2.1=x.1/\r.1.2.2.2.1=1:=by
 have a:Ap (Il x) λr=>r.2=0->r.1.2.2.1=[]/\r.1.2.2.2.2=1:=by refine AA nL λo b=>AO (λj=>AB λm=>?_) (λ_=>?_);grind;have l:=h.2.2.2.1;grind[AA,Aa,AB]
 refine((AIW h).and a).mono λr hr=>?_;have⟨⟨b,c,d,g⟩,i⟩:=hr;refine⟨⟨c,λf a=>?_,λe k=>?_⟩,λf a=>?_,λn=>?_,?_,d,g⟩;grind;grind[DW];grind;grind[DW];unfold SF;grind
def AX(L:S EN)(n d m:Int)(a:AI):Prop:=AR L a/\AG a/\(∃c:Nat,RC a c/\100*(c:Int)<=m+99)/\SF a m/\a.2.1=n/\a.2.2.2.1<=d+1/\(ID L->AF a)
def AX.step{n m}{a}{l}{c:Int}(p:De l)(h:AX l.2.1 n l.2.2 m a):Ap (Es (a,l,c)) λr=>r.2=0->AX l.2.1 n l.2.2 (m+100) r.1:=by have⟨d,e,⟨k,j,o⟩,f,g,t,i⟩:=h;refine(AGG (x:=(a,l,c)) d p f).mono λr hr q=>?_;have⟨q1,q2,s,q3,q4,q5,q6⟩:=hr q;exact⟨q1,q2 e,⟨k+1,s k j,o!⟩,by unfold SF at*;omega,q4.trans g,k!,λb=>q6 b (i b)⟩
def AX.mono{L}{n d m k:Int}{a}(h:AX L n d m a)(o:m<=k):AX L n d k a:=by have⟨b,e,⟨c,i,j⟩,l,f,g⟩:=h;exact⟨b,e,⟨c,i,o!⟩,by unfold SF at*;omega,f,g⟩
def AX.tidy{L}{n d m}{a}{c:Int}(p:Uq L)(h:AX L n d m a)(u:m<=1073741824)(s:2<=c/\c<=8):Ap (Jy (a,c)) λr=>AX L n d m r.1:=by have⟨g,i,⟨k,t,b⟩,j,l,z,o⟩:=h;refine(AIk (x:=(a,c)) p g s j u).mono λr hr=>?_;have⟨q0,q1,q2,q3,y,q4,q5,q6,q7⟩:=hr;exact⟨q1,q3 i,⟨k,y k t,b⟩,q4,q6.trans l,k!,λq f e n v w=>(q2 f n).1 (o q f (q5▸e) n v (q7▸w))⟩
def AAS{b}{x:Int×AZ}(h:CX b)(C:1<=x.1/\x.1<=64)(e:De x.2):Ap (PD b x) λr=>CX r.2/\AX x.2.2.1 x.1 x.2.2.2 901 r.1:=by
 have T:=e.1;have U:=e.2.2.2.1;refine AA (ACb h C) λv0 m=>AA (ADx (L:=x.2.2.1) m.2) λI v=>?_;have⟨D,E,H,F,G,s5⟩:=v;have A:AX x.2.2.1 x.1 x.2.2.2 1 I.1:=⟨D,E,⟨0,H,g!⟩,F,G,o!,λ_ lo _ n n1 n2=>o!⟩
 refine AA (Ag m.1 g!) λv2 w=>?_;have⟨t,u,S⟩:=w;refine AA (P:=λr=>CX r.1/\AX x.2.2.1 x.1 x.2.2.2 801 r.2) ?_ λK c=>AA (Ag c.1 g!) λM f=>AA (P:=λa=>AX x.2.2.1 x.1 x.2.2.2 901 a) (AK (λ_=>AA (c.2.step e) λN g=>AA (P:=λa=>AX x.2.2.1 x.1 x.2.2.2 901 a) (AP (λk=>AB ((g k).mono g!)) (y? (c.2.mono g!))) λO i=>AB i) (y? (c.2.mono g!))) λQ j=>AB ⟨f.1,j⟩;refine Ce (λs=>0<=s.1/\s.1<=8/\CX s.2.1/\AX x.2.2.1 x.1 x.2.2.2 (801-100*s.1) s.2.2) (·.1.toNat) ⟨u,k!,t,A.mono k!⟩ (λs B=>?_);have⟨Y_,Z_,q,l⟩:=B;unfold Rq;rw[(AY (x:=s.1-1))];refine AC (λX=>AA (Ag q g!) λv4 y=>AA (l.step e) λv5 z=>AA (P:=λa=>AX x.2.2.1 x.1 x.2.2.2 (801-100*(s.1-1)) a) (AP (λk=>AB ((z k).mono o!)) (y? (l.mono o!))) λv6 o=>AA (Ag y.1 g!) λv7 p=>?_) (λ_=>k? ⟨q,l.mono o!⟩);refine AA (P:=λr=>CX r.1/\AX x.2.2.1 x.1 x.2.2.2 (801-100*(s.1-1)) r.2) ?_ λJ d=>y! ⟨k!,k!,d.1,d.2⟩ k!
 refine AK (λ_=>AA (Ag p.1 g!) λR V_=>?_) (y? ⟨p.1,o⟩);rw[AY (x:=2+R.1)];refine AA (o.tidy e.uq o! o!) λv9 W_=>?_;grind[AA,AP,AB]
def AD1{n p:Int}{l:List Int}(h:BD n l):Ap (Jz (l,p)) λr=>0<=r.1/\r.1<=l.length/\(∀(i:Nat) (v:Int),(i:Int)<r.1->l[i]? =some v->v<p)/\(∀(i:Nat) (v:Int),r.1<=(i:Int)->l[i]? =some v->p<=v)/\(r.2=true->l[r.1.toNat]? =some p)/\(r.2=false-> ∀v,l[r.1.toNat]? =some v->p<v):=by
 have t:=h.2.2.2.1;refine AA (P:=λ(r:Int)=>0<=r/\r<=l.length/\(∀(i:Nat) (v:Int),(i:Int)<r->l[i]? =some v->v<p)/\ ∀(i:Nat) (v:Int),r<=(i:Int)->l[i]? =some v->p<=v) ?_ λJ u=>?_
 ·refine Ce (λ(s:Int×Int)=>0<=s.1/\s.1<=s.2/\s.2<=l.length/\(∀(i:Nat) (v:Int),(i:Int)<s.1->l[i]? =some v->v<p)/\ ∀(i:Nat) (v:Int),s.2<=(i:Int)->l[i]? =some v->p<=v) (λ(s:Int×Int)=>(s.2-s.1).toNat) ⟨Ae _,k!,k!,λi v e=>k!,λi v e b=>k!⟩ (λs y=>?_);have⟨o,G,C,D,E⟩:=y;unfold M6;rw[AA7 o];refine AC (λa=>?_) (λa=>Ap.done ?_)
  ·refine AA (AJ o! k!) λF g=>AA WT λH k=>?_;rw[(AY (x:=(s.1+s.2)/2+1))];refine AA (P:=λ(q:Int×Int)=>(0<=q.1/\q.1<=q.2/\q.2<=(l.length:Int)/\(∀(i:Nat) (v:Int),(i:Int)<q.1->l[i]? =some v->v<p)/\ ∀(i:Nat) (v:Int),q.2<=(i:Int)->l[i]? =some v->p<=v)/\(q.2-q.1).toNat<(s.2-s.1).toNat) ?_ λI m=>Ap.next m.1 m.2
   refine AK (λB=>AB ⟨⟨k!,k!,C,λi v e b=>?_,E⟩,k!⟩) (λz=>AB ⟨⟨o,o!,o!,D,λi v e b=>?_⟩,o!⟩);have f:=k.1 B;have:=h.le (i:=i) (j:=((s.1+s.2)/2).toNat) o! b g.1;omega;have f: ¬F<p:=λq=>by have:=k.2 q;rw[z]at this;cases this
   have:=h.le (i:=((s.1+s.2)/2).toNat) (j:=i) o! g.1 b;omega
  grind
 have⟨a1,a2,a3,a4⟩:=u;refine AC (λa=>?_) (λa=>AB ⟨a1,a2,a3,a4,λc=>(by cases c),λ_ v b=>?_⟩);simp[len]at a;refine AA (AJ a1 a) λK w=>AP (λd=>AB ⟨a1,a2,a3,a4,λ_=>by dsimp only;rw[w.1,d],λc=>(by cases c)⟩) (λA=>AA (AJ a1 a) λL _=>AK (λc=>?_) (λ_=>AB ⟨a1,a2,a3,a4,λc=>(by cases c),λ_ v b=>?_⟩));grind;grind;grind
def P7(a:AI)(p lo hi:Int):Prop:= ∃i:Nat,a.1[i]? =some lo/\hi=qX a i/\lo<=p/\p<=hi
def xT{a}{p:Int}(h:VB a)(z:0<=p/\p<a.2.1):∃b d,Fz (a,p)=Z (b,d,V)/\P7 a p b d:=by
 have key:Ap (Fz (a,p)) λr=>r.2.2=V/\P7 a p r.1 r.2.1:=by
  unfold Fz;dsimp only;refine AA (Fl h) λG m=>?_;rw[m,B9,A!,F! o!,A!,F! o!,A!];refine AA (AD1 h.1) λc n=>?_;have⟨D,E,v,F,k,x⟩:=n;have q:=h.1.2.2.2.1;refine AA (P:=λl:Int=>∃(i:Nat)(b:Int),l=i/\a.1[i]?=Z b/\b<=p/\∀w,a.1[i+1]?=Z w->p<w) ?_ λl s=>?_;refine AO (λt=>AB ?_) (λf=>AB ?_);have e:0<c.1:=by refine Tp λy=>?_;have:=x t 0 (by rw[show c.1.toNat=0 by omega];exact h.1.2.2.2.2.1);omega
  rw[AY];refine⟨c.1.toNat-1,a.1[c.1.toNat-1],o!,As o!,?_,λw g=>?_⟩;have:=v (c.1.toNat-1) _ o! (As o!);omega;grind;refine⟨c.1.toNat,p,o!,k f,Ae _,λw g=>?_⟩;exact h.1.lt 0 c.1.toNat p w (k f) g;obtain⟨i,b,rfl,j,u,A⟩:=s;rw[yx h.1 j,AD];refine AB ⟨rfl,i,j,rfl,u,?_⟩;grind[qX]
 have⟨⟨b,d,o⟩,k1,B,C⟩:=key;grind
def P7.uniq{a b:AI}{p l1 l2 f g}(h:BD a.2.1 a.1)(d:b.1=a.1)(e:b.2.1=a.2.1)(m:P7 a p l1 f)(n:P7 b p l2 g):l1=l2:=by
 obtain⟨i,s,t,u,v⟩:=m;obtain⟨j,w,z,A,B⟩:=n;have o:qX b j=qX a j:=by unfold qX;rw[d,e]
 have key:∀{i j:Nat}{x y:Int},a.1[i]?=Z x->a.1[j]?=Z y->i<j->qX a i<y:=λ{i j x y} q c k=>by have r:=Cp c;have l:a.1[i+1]?=Z (a.1[i+1]' o!):=As o!;have:=h.le (by omega:i+1<=j) l c;unfold qX;grind
 grind
def tK(P:Int->Prop)(j fl:Int):Prop:=0<=fl/\fl<=j/\(∀n,fl<n->n<=j->P n)/\(fl=0\/ ¬P fl)
def tK.uniq{P Q:Int->Prop}{j r s}(h:∀n,P n↔Q n)(hr:tK P j r)(a:tK Q j s):r=s:=by obtain⟨b,c,d,e⟩:=hr;obtain⟨f,g,i,k⟩:=a;grind
structure Qk(L:List EN)(l:AZ):Prop where
 vl:De l
 sorted:L.Pairwise λx y=>x.1<y.1
 tail:∀e,e∈l.2.1↔e∈L/\l.1<=e.1/\e.1<=l.1+U l.2.1-1
 len:U L<=4096
def AIU{B}{L}{a}{l}{p i j:Int}(o:CP B)(C:B≤16777216)(u:j-i≤B)(s:0≤i)(E:i≤j)(D:j≤1099511627776)(h:AR L a)(v:Qk L l)(x:0≤p∧p<a.2.1):
  ∃n s fl,P7 a p n s/\tK (qJ a l n) j fl/\QS (a,l,p,i,j)=Z (τ (fl<=i))/\Ap (HZ (a,l,p,i,j)) λr=>(fl>i/\r=([],42))\/(fl<=i/\((YT i (L.filter (IF p i j))/\r=(L.filter (IF p i j),0))\/(¬YT i (L.filter (IF p i j))/\r=([],13)))):=by
 obtain⟨n,t,w,m⟩:=xT h.vb x;obtain⟨k,k1,F,G,H⟩:=id m;obtain⟨fl,y,A,z⟩:=AIT o C u s E D h.vb h.ds v.vl x w rfl v.sorted v.tail (λe q=>by
  obtain⟨f,_,_,_,g,_⟩:=h.mem q;exact g) h.dis (λe q d=>by
  obtain⟨f,_,g,_⟩:=h.mem q;have c:e.1.2.2.1=n:=d;have b:=g.2.2.2;rw[c]at b;have:=b.uniq h.vb.1 ⟨k,k1,F⟩;exact⟨G,o!⟩)
 exact⟨n,t,fl,m,y,A,z⟩
def De.sorted{l}(h:De l):l.2.1.Pairwise λx y=>x.1<y.1:=by have⟨l1,l2,a,b,c,d⟩:=h;rw[Ed];grind
def XP{l}(h:De l):Qk l.2.1 l:=⟨h,h.sorted,λe=>⟨λa=>⟨a,by have⟨k,b⟩:=Et.1 a;have:=(h.2.2.2.2.2 k e b).1;have:=Cp b;omega⟩,λa=>a.1⟩,h.2.2.1⟩
def AJt{l}{f:Int}(h:De l)(n:l.2.2=l.1+U l.2.1-1)(i:l.1<=f)(j:f<=l.2.2+1)(m:f<=1099511627776):Ap (Kh (l,f)) λr=>Qk l.2.1 r.1/\r.1.1=f/\r.1.2.2=l.2.2:=by
 have o:Ap (Kh (l,f)) λr=>r.2=0->r.1=(f,l.2.1.drop (f-l.1).toNat,l.2.2):=by have⟨a1,a2,a3,a4,a5,a6⟩:=id h;refine AA Bb λv t=>AO (y? λa=>N! (show(26:Int)=0 from a) g!) (λ_=>?_);refine AC (y? λa=>N! (show(1:Int)=0 from a) g!) (λ_=>?_);refine AC (y? λa=>N! (show(1:Int)=0 from a) g!) (λ_=>?_);refine AC (y? λa=>N! (show(1:Int)=0 from a) g!) (λ_=>?_);refine AC (y? λa=>N! (show(15:Int)=0 from a) g!) (λ_=>?_);grind[AY,AA,Bg,Aa,AB,List.take_of_length_le]
 refine((jR (x:=(l,f)) h n i j m).and o).mono λr hr=>?_;have⟨⟨c,q,s⟩,d⟩:=hr;refine⟨⟨q,h.sorted,λe=>?_,h.2.2.1⟩,s,by rw[(d c)]⟩;rw[(d c)];have⟨l1,l2,u,w,y,p⟩:=h;rw[Et,Et];constructor;grind;rintro⟨⟨k,b⟩,g,_⟩;have:=(p _ e b).1;exact⟨k-(f-l.1).toNat,by rw[J6,show(f-l.1).toNat+(k-(f-l.1).toNat)=k by omega];exact b⟩
def xd{p i j}{e}:IF p i j e=(cC p e&&(τ (e.1>i)&&τ (e.1<=j))):=by unfold IF cC jN;grind
def YT.snoc{i}{s}{e:EN}(h:YT i s)(m:s=[]->e.2.2.2.2.1<=i)(n:∀f,s[U s-1]?=Z f->e.2.2.2.2.1=f.1):YT i (s++[e]):=by
 intro k g b;rcases Ay k (U s) with d|d;rw[CW d]at b;refine⟨(h k g b).1,λf a c=>(h k g b).2 f a ?_⟩;grind;have o:=Cp b;rw[Ac,WA]at o;have l:k=U s:=o!
 subst l;have j:e=g:=k!
 subst j;refine⟨λp=>m (Eh p),λf a c=>n f ?_⟩;rwa [CW o!]at c
def wK{n p i j:Int}{L}(F:LI n L)(G:L.Pairwise λx y=>x.1<y.1)(H:0≤i):∀m:Nat,m≤U L→
  YT i ((L.take m).filter (IF p i j))/\((∀f∈L.take m,f.1<=j)->((L.take m).filter (IF p i j)=[]->Be (L.take m) p<=i)/\∀f,((L.take m).filter (IF p i j))[((L.take m).filter (IF p i j)).length-1]?=Z f->Be (L.take m) p=f.1)
 |0,_=>by rw[List.take_zero];exact⟨λk e E=>by simp at E,λ_=>⟨λ_=>H,λf a=>by simp at a⟩⟩
 |m+1,hm=>by
  obtain⟨C,D⟩:=wK (j:=j) F G H m o!;have d:m<U L:=o!
  have B:L.take (m+1)=L.take m++[L[m]]:=by rw[Cr,As d];rfl
  have l:∀f∈L.take m,f.1<L[m].1:=λf a=>by obtain⟨k,w⟩:=C2 a;have z:=Cp w;rw[BQ]at z;rw[IJ o!,As o!]at w;rw[<-Ba w];exact Ed.1 G k m o! d o!
  have A:=F m _ (As d);rw[B,GO];generalize I:L.take m=M at*;generalize L[m]=e at*;by_cases t:IF p i j e=V;have g:=t;rw[xd]at g;simp only[BV,K!]at g;obtain⟨s,K,N⟩:=g;have q:e.2.2.2.2.2.2.1.1=p/\(e.2.1=1\/e.2.1=2):=by unfold cC at s;simp only[BV,P0,J!]at s;exact⟨s.2,s.1⟩
  obtain⟨q1,q2⟩:=D λf a=>by have:=l f a;omega
  have b:=A.1 q.2;rw[q.1]at b;rw[wF t,lP];refine⟨C.snoc (λh=>by rw[b.1];exact q1 h) (λf a=>by rw[b.1];exact q2 f a),λ_=>⟨λh=>by simp at h,λf a=>?_⟩⟩;rw[Pe,C! s];have:e=f:=by simpa using a
  rw[this];rw[wE t,lP,Do];refine⟨C,λc=>?_⟩;have E:=c e q!;obtain⟨q1,q2⟩:=D λf a=>c f (G2 _ a);rw[Pe];by_cases u:cC p e=V;have v:e.1<=i:=by refine Tp λJ=>t ?_;rw[xd,u];simp;omega
  have o:M.filter (IF p i j)=[]:=List.filter_eq_nil_iff.2 λf a r=>by rw[xd]at r;simp only[BV,K!]at r;have:=l f a;omega
  rw[C! u,o];exact⟨λ_=>v,λf a=>by simp at a⟩;rw[D! u];exact⟨q1,q2⟩
def ACw{n p i j:Int}{L}(a:LI n L)(b:L.Pairwise λx y=>x.1<y.1)(c:0<=i):YT i (L.filter (IF p i j)):=by have:=(wK (p:=p) (j:=j) a b c (U L) (Al _)).1;grind
def tH{B:Nat}{n:Int}{L:List EN}{a:AI}{l:AZ}{p i j:Int}(d:CP B)(q:B≤16777216)(t:LI n L)(e:j-i≤B)(b:0≤i)(u:i≤j)(s:j≤1099511627776)(h:AR L a)(f:Qk L l)(v:0≤p∧p<a.2.1):
  ∃c b fl,P7 a p c b/\tK (qJ a l c) j fl/\QS (a,(l,(p,(i,j))))=some (decide (fl<=i))/\((fl>i/\HZ (a,(l,(p,(i,j))))=some ([],42))\/(fl<=i/\HZ (a,(l,(p,(i,j))))=some (L.filter (IF p i j),0))):=by
 obtain⟨c,o,fl,w,k,m,r,g,x⟩:=AIU d q e b u s h f v;refine⟨c,o,fl,w,k,m,?_⟩;rcases x with⟨q1,q2⟩|⟨q1,⟨q2,q3⟩|⟨q2,q3⟩⟩;exact .inl ⟨q1,by rw[g,q2]⟩;exact .inr ⟨q1,by rw[g,q3]⟩;exact absurd (ACw t f.sorted b) q2
def ADP{x:AT×Dz}(a:Ow x.2)(c:x.2.1=x.1.1)(b:G1 x.1.2.2 x.2.2.1=Z x.2.2.2.1):Uy x=Z ((x.1.1,x.1.2.1,XK x.1.2.2 x.2.2.1 x.2.2.2.2),0):=by grind[Ap,Uy,XK,AA,dn,AO,AL,BL,AB]
def AHP{x}{e}(h:Hg x)(d:MI e)(j:e.2.1=1\/e.2.1=2)(b:e.2.2.2.2.2.2.1.1=x.1)(f:e.2.2.2.2.1=x.2.1)(c:G1 x.2.2 e.2.2.2.2.2.2.1.2.1=Z e.2.2.2.2.2.2.1.2.2.1):VI (x,e)=Z (upd x e,0):=by
 suffices g:Ap (VI (x,e)) λr=>r=(upd x e,0) by obtain⟨r,hr,rfl⟩:=g;exact hr
 have a:Ow e.2.2.2.2.2.2.1:=by grind[MI,Va]
 unfold VI;refine AA Ka λv i=>AO (λa=>N! (i d) (by simp[a])) (λ_=>?_);rw[nQ,(by grind[jN]:jN e=V),lu h,AD,B9,A!];refine BL (AL (N! rfl ·) (λ_=>AL (N! b ·) (λ_=>AL (N! f ·) (λ_=>?_))));rw[ADP a b c];exact BL (AL (N! rfl ·) (y? rfl))
def yS{x:AT}{es:List AE}(p:OKs x es)(c:es.length<=4096):If (x,es)=some (es.foldl upd x,0):=by
 suffices q:Ap (If (x,es)) λr=>r=(es.foldl upd x,0) by obtain⟨r,hr,rfl⟩:=q;exact hr
 generalize u:es.foldl upd x=y;refine AA (P:=λr=> ∃z,r= .inr (y,z)) ?_ λr hr=>?_
 ·refine Ce (λ(s:Int×AT×AT)=> ∃A B,es=A++B/\s.1=A.length/\OKs s.2.1 B/\B.foldl upd s.2.1=y) (λ(s:Int×AT×AT)=>((es.length:Int)-s.1).toNat) ⟨[],es,rfl,rfl,p,u⟩ ?_;rintro⟨i,x,z⟩ ⟨A,B,rfl,f,g,b⟩;dsimp only at f g b;subst f;unfold aH;dsimp[len];rw[Ac]at c;refine AC (λa=>?_) (λa=>Ap.done ?_)
  ·obtain _|⟨e,B⟩:=B;simp at a;have t:ix (A++e::B) (A.length:Int)=some e:=by unfold ix;rw[if_pos o!,CA,Cl (Al _),G5];rfl
   have⟨⟨h,d,j,k,l,m⟩,n⟩:=g;have o:e.2.2.2.2.1<e.1:=d.2.2.2.2.2.1;rw[t,AD,decide_eq_false o!,cond_false,AHP h d j k l m,AD,AY (x:=(A.length:Int)+1)];refine AL (λa=>absurd rfl a) (λ_=>Ap.next ⟨A++[e],B,q!,q!,n,b⟩ d!)
  obtain _|⟨e,B⟩:=B;exact⟨z,by rw[<-b];rfl⟩;simp at a;omega
 grind[Ax,AB]
def yj{L}(h:ID L){p}{a b:Nat}(g:a<=b):L.filter (IF p a b)=((L.take b).drop a).filter (cC p):=by
 have j:∀(i:Nat)(e:AE),L[i]?=Z e->IF p a b e=(cC p e&&(τ (a<=i)&&τ (i<b))):=λi e d=>by have:=(h i e d).1;rw[xd,show τ (e.1>(a:Int))=τ (a<=i)from decide_eq_decide.2 o!,show τ (e.1<=(b:Int))=τ (i<b)from decide_eq_decide.2 o!]
 conv=>lhs;rw[<-DY b L,vN L g]
 rw[GO,GO];rw[(List.filter_eq_nil_iff (l:=L.take a)).2 λe d=>by obtain⟨i,c⟩:=C2 d;have f:=Cp c;rw[BQ]at f;rw[IJ o!]at c;rw[j i e c,F! (show¬a<=i by omega)];simp];rw[(List.filter_eq_nil_iff (l:=L.drop b)).2 λe d=>by obtain⟨i,c⟩:=C2 d;rw[J6]at c;rw[j _ e c,F! (show¬b+i<b by omega)];simp];rw[CG,Do];refine List.filter_congr λe d=>?_;obtain⟨i,c⟩:=C2 d;rw[J6]at c;have f:=Cp c;rw[BQ]at f;rw[IJ o!]at c;rw[j _ e c,G! (show a<=a+i by omega),G! (show a+i<b by omega)];simp
def Cov(a:AI)(l:AZ)(k:Nat):Prop:=∀m:Int,1<=m->m<=k->∀p lo hi,P7 a p lo hi->qJ a l lo m
def AFL{a}{l}(h:VB a)(b:De l):Qb (a,l)=Z 0:=by obtain⟨v,c,rfl⟩:=Fl h;obtain⟨w,d,rfl⟩:=HB b;grind[Qb,p?,Bool.not_true]
def gV(x:AT):DX:=(x.1,(x.2.1,nU x))
def img(L:List EN)(n:Nat):List DX:=(List.range n).map λ(i:Nat)=>gV (st L i)
abbrev c!(s:Int)(n:Nat)(L:List EN)(k:Nat):=(s,(n:Int),img (L.take k) n)
theorem M8(L:S EN)(n:Nat):(img L n).length=n:=by grind[img,List.length_map,List.length_range]
theorem ua{L}{n i:Nat}(h:i<n):(img L n)[i]?=Z (gV (st L i)):=by grind[img,List.getElem?_range]
theorem bq{L}{n:Nat}{i:Int}(a:0<=i)(h:i<n):ix (img L n) i=Z (gV (st L i)):=by have⟨v,c,b,_⟩:=AJ (l:=img L n) a (by rw[M8];exact h);grind[ua,Int.toNat_of_nonneg,Option.some.inj]
def ub(L:S EN)(n:Nat):img L (n+1)=img L n++[gV (st L n)]:=by grind[img,List.range_succ]
theorem ACW{L}(h:ID L){p}{k}(a:(st (L.take k) p).2.1=0):st (L.take k) p=(p,0,Gd.all (Y,[])):=by rw[Kb]at a;exact(mB h (j:=k) (k:=0) (by rw[a];rfl)).trans rfl
def uZ{L}(h:ID L)(a:U L<=1099511627776){p:Int}(b:0<=p/\p<64){k}:Gg (nU (st (L.take k) p),p)=Z (st (L.take k) p,0):=by grind[AFD,ZP,ACW,VQ]
theorem pL{L:List EN}(h:ID L)(l:L.length<=1099511627776){s:Int}{n k:Nat}(d:1<=s/\s<=1073741824)(hn:1<=n/\n<=64):K4 (s,((n:Int),img (L.take k) n))=some true:=by
 suffices d:Ap (K4 (s,((n:Int),img (L.take k) n))) λr=>r=true by obtain⟨r,hr,rfl⟩:=d;exact hr
 unfold K4;dsimp only;have c:len (img (L.take k) n)=n:=by grind[M8]
 rw[decide_eq_false o!,cond_false,decide_eq_false o!,cond_false,decide_eq_false o!,cond_false,decide_eq_false o!,cond_false,c,decide_eq_false o!,cond_false];refine AA (P:=λr=>r= .inr ()) ?_ λr hr=>by rw[hr];exact Ax (AB rfl)
 refine Ce (λ(s:Int)=>0<=s/\s<=n) (λs=>((n:Int)-s).toNat) ⟨Ae _,o!⟩ (λi j=>?_);have⟨e,o⟩:=j;unfold dp;dsimp only;rw[c];refine AC (λa=>?_) (λ_=>Ap.done rfl);have f:Ap (some (Step.next (wi (i+1))):Option (Step Int (Bool ⊕ Unit))) (N2 (λ(s:Int)=>0<=s/\s<=n) (λs=>((n:Int)-s).toNat) ((n:Int)-i).toNat λr=>r= .inr ()):=by grind[AY,Ap.next]
 have g:(gV (st (L.take k) i)).1=i:=VQ _ _;rw[bq e a,AD,g,decide_eq_false o!,cond_false];have b:Gg ((gV (st (L.take k) i)).2.2,i)=some (st (L.take k) i,0):=uZ h l ⟨e,o!⟩;refine AC (λm=>?_) (λ_=>?_);rw[AY,bq o! o!,AD,show(gV (st (L.take k) (i-1))).1=i-1 from VQ _ _,decide_eq_false o!,cond_false,b,AD];exact AL (λa=>absurd rfl a) (λ_=>AL (λa=>absurd rfl a) (λ_=>f));rw[b,AD];exact AL (λa=>absurd rfl a) (λ_=>AL (λa=>absurd rfl a) (λ_=>f))
def AHo{L:List EN}(h:ID L)(a:L.length<=1099511627776){s:Int}{n k:Nat}(b:1<=s/\s<=1073741824)(hn:1<=n/\n<=64):Wi (s,((n:Int),img (L.take k) n))=some true:=by unfold Wi;rw[pL h a b hn,AD,cond_true];dsimp only;rw[(by grind[M8]:len (img (L.take k) n)=n),beq_self_eq_true]
def AE2{m:Nat}(h:m<=64):Fc (1,(m:Int))=some (1,((m:Int),img [] m)):=by
 suffices d:Ap (Fc (1,(m:Int))) λr=>r=(1,((m:Int),img [] m)) by obtain⟨r,hr,rfl⟩:=d;exact hr
 unfold Fc;refine AA (P:=λr=>r=(img [] m,(1,(m:Int)))) ?_ λr hr=>AB (by rw[hr]);refine Ce (λ(t:Int×List DX×Int×Int)=>0<=t.1/\t.1<=m/\t.2=(img [] t.1.toNat,(1,(m:Int)))) (λt=>((m:Int)-t.1).toNat) ⟨Ae _,d!,rfl⟩ ?_;rintro⟨i,t⟩ ⟨b,f,c⟩;dsimp only at b f c;subst c;unfold UA;dsimp only;refine AC (λa=>?_) (λa=>Ap.done ?_)
 ·rw[oB,AD];refine AA (Aa (by rw[M8];simp;omega)) λv e=>?_;rw[AY];refine Ap.next ⟨d!,d!,?_⟩ d!
  dsimp only;rw[e.1,show(i+1).toNat=i.toNat+1 by omega,ub,Ih b];rfl
 rw[show i.toNat=m by omega]
def ID.nil:ID []:=λi e h=>by simp at h
def AEX{L:S EN}{a}{l:AZ}{k:Nat}(b:l.1=1)(d:k<=U l.2.1):Cov a l k:=λm f g p e c _=>.inl o!
def AEQ{l:S Int}(h:∀c∈l,0≤c∧c<256):Ap (bif (τ ((len l)>500))then
    σ (Xf l 0 500) λd=>
    Z d
   else
   Z l) λr=>CX (r,0):=by
 refine AC (λa=>?_) (λa=>AB ⟨Ae _,by simp only[len]at a;dsimp only;omega,h⟩);simp only[len]at a;refine AA (Bg) λd e=>AB ⟨Ae _,d!,λc b=>?_⟩;dsimp only at b;rw[e.1]at b;exact h c (TO (GY b))
def w9(x:AT):AHJ x x=V:=by
 unfold AHJ;simp only[L!,YI];generalize List.finRange 16=l;induction l with
 |nil=>rfl
 |cons i l a=>rw[List.foldr_cons];exact a
theorem cA{a:Type}{l r:List a}(h:r.Perm l):Nat.beq r.length l.length=true:=by rw[h.length_eq];exact Hk _
def AAz{g v:Type}{c:g×g->Option v}{n:v->Bool}(y: ∀p,Ap (c p) λ_=>True){l:List g}{b:Nat}(w:b<=l.length)(K:l.length<=16777000):Ap (AAy c n l (0,(b:Int))) λr=>r.Perm l:=by
 unfold AAy;refine AA (P:=λr=>r.Perm l) ?_ λr hr=>AB hr;refine Ce (λ(s:Int×List g)=>1<=s.1/\s.1<=b+1/\s.2.Perm l) (λs=>((b:Int)+1-s.1).toNat) ⟨by show 1<=wi (0+1);rw[AY];decide,by show wi (0+1)<=_;rw[AY];omega,lL _⟩ ?_;rintro⟨M,N⟩ ⟨B,C,h⟩;dsimp only at B C h;refine AC (λw=>?_) (λ_=>Ap.done h);have q:=h.length_eq;refine AA (P:=λr=>r.Perm l) ?_ λr hr=>?_
 ·refine Ce (λ(t:Int×List g)=>0<=t.1/\t.1<l.length/\t.2.Perm l) (λt=>t.1.toNat) ⟨d!,d!,h⟩ ?_;rintro⟨e,j⟩ ⟨d,D,i⟩;dsimp only at d D i;have O:=i.length_eq;unfold AEo;dsimp only;refine AA (P:=λr:Unit ⊕ Unit=>r= .inr ()->e>0) ?_ λr hr=>?_;refine AC (λa=>?_) (λ_=>AB λA=>by cases A);rw[AY (x:=e-1)];refine AA (AJ d) λQ _=>AA (AJ d) λR _=>AA (AJ) λS _=>AA (AJ) λT _=>AA (y _) λU _=>AK (λ_=>AB λ_=>a) (λ_=>AB λ_=>a)
  ·refine BG (λu _=>Ap.done i) (λu z=>?_);have a:=hr (by cases u;exact z);rw[AY (x:=e-1)];refine AA (AJ) λE _=>AA (AJ) λf k=>AA (AJ d) λF _=>AA (AJ d) λo m=>AA (AJ d) λG _=>AA (AJ d) λH _=>?_;have L:(ER j e f).length=j.length:=pI;refine AA (AJ) λI _=>AA (AJ) λJ _=>Ap.next ⟨d!,d!,?_⟩ d!
   dsimp only;unfold ER;rw[(by have:=k.1;rw[As o!]at this;exact(Ba this).symm:f=j[(e-1).toNat]),(by have:=m.1;rw[As o!]at this;exact(Ba this).symm:o=j[e.toNat])];exact(List.set_set_perm o! o!).trans i
 ·grind[AY,Ap.next]
def AIE{a:Type}{f:S a->Int×Int->T (S a)}{l:S a}(d:Ap (f l (0,(U l:Int))) λr=>r.Perm l)(h:U l<=12)(n:Int):Ap (sQ (λ(_:S a×(Int×(Int×Int))->T (S a)) p=>pdG f p.1 p.2) (l,0,len l,n)) λr=>r.Perm l:=by
 have step:Ap (pdG f l (0,len l,n)) λr=>r.Perm l:=by unfold pdG;refine AA (P:=λr=>r.Perm l) ?_ λr hr=>AB hr;rw[HX];unfold AJR;dsimp[len];rw[AY,G! o!,B!];have⟨r,hr,e⟩:=d;grind[p?,cA]
 have⟨r,hr,e⟩:=step;have⟨s,c⟩:=gY (f:=λ(_:S a×(Int×(Int×Int))->T (S a)) p=>pdG f p.1 p.2) (x:=(l,0,len l,n)) (n:=1) hr;have⟨N,b⟩:=dc c;refine⟨s,c,?_⟩;cases N with
 |zero=>cases b
 |succ N=>exact step.get b
def AIJ{a:Type}{f:S a->Int×(Int×Int)->T (S a)}{l:S a}(b:∀n,Ap (f l (0,len l,n)) λr=>r.Perm l)(h:U l<=12):Ap (soG f l) λr=>r.Perm l:=by unfold soG TH;obtain⟨n,g,-,-⟩:=ABk (x:=U l) o!;grind[XH,p?,AA,cA,AB]
def AHh{l:S Int}(h:U l<=12):Ap (MD l ()) λr=>r.Perm l:=AIJ (λn=>AIE (AAz (λp=>WT.mono λ_ _=>O!) (Al _) o!) h n) h
def AKx(p:A7×A7):Ap (QR p) λ_=>True:=by grind[QR,AA,SG,AB]
def AKy(p:Bk×Bk):Ap (QQ p) λ_=>True:=by grind[QQ,AA,SG,AB]
def AHi{l:List A7}(h:l.length<=12):Ap (Gx l ()) λr=>r.Perm l:=AIJ (λn=>AIE (AAz AKx (Al _) o!) h n) h
def AHk{l:List Bk}(h:l.length<=12):Ap (Ea l ()) λr=>r.Perm l:=by
 unfold Ea;refine AA (P:=λr=>r.Perm l) ?_ λr hr=>by rw[cA hr,cond_true];exact AB hr
 unfold JX;rw[HX];unfold MG;dsimp[len];rw[decide_eq_false o!,cond_false];dsimp[Option.bind];have⟨r,hr,b⟩:=AAz (n:=λa=>decide (a<0)) AKy (Al l.length) o!;grind[E4,cA,HX,MH,AB]
def yN{a:AI}{r:AS}(h:BD a.2.1 a.1):Ap (Fi (a,r)) λk=>0<=k->a.1[k.toNat]? =some r.2.2.1:=by
 have b:=h.2.2.2.1;refine AA (P:=λq=> ∀k:Int,q= .inl k->a.1[k.toNat]? =some r.2.2.1) ?_ λq f=>?_
 ·refine Ce (λ(s:Int)=>0<=s/\s<=a.1.length) (λs=>((a.1.length:Int)-s).toNat) ⟨Ae _,o!⟩ (λs c=>?_);have⟨g,i⟩:=c;unfold Hf;dsimp[len];refine AC (λe=>?_) (λ_=>Ap.done λk d=>by cases d);have hr:=oG h (As o!:a.1[s.toNat]? =some (a.1[s.toNat]' o!));grind[Int.toNat_of_nonneg,AY,AP,Ap.done,Ap.next]
 grind[BG,AB]
def Good.refE{a}{f}{r}(h:Good a f r)(c:BD a.2.1 a.1):∃k:Nat,DO (a,f)=Z (r,(k:Int))/\a.1[k]?=Z r.2.2.1:=by have⟨e,g,i,b⟩:=h;have⟨k,k1,d,j⟩:=(sB (r:=r) c).and (yN (r:=r) c);refine⟨ο k,?_,j (d.2 b)⟩;unfold DO;rw[e,g,H!,A!,yU i,AD,show(((r,(0:Int)):AS×Int).2 !=0)=Y from rfl,A!,k1,AD,Ih (d.2 b)]
def Beh(a b:NE):Prop:=a.1.2.1<b.1.1
def Lt(a b:NE):Prop:=a.1.2.2.1<b.1.2.2.1\/(a.1.2.2.1=b.1.2.2.1/\Beh a b)
def ACS{L}{x}(h:AR L x)(e:NE):e∈DW x↔∃f∈x.2.2.1,Good x f e.1/\e.2=f.2.1:=⟨λd=>by have⟨f,a,b,c,_⟩:=h.mem d;exact⟨f,a,b,c⟩,λ⟨f,a,b,c⟩=>by have:=P6 h.vb.1 a b;rw[<-c]at this;exact this⟩
def qy{L}{x}(h:AR L x){e:NE}(a:e∈DW x):1<=e.1.1/\e.1.1<=e.1.2.1:=by have⟨f,_,g,_⟩:=h.mem a;have:=g.2.2.1.1;exact⟨this.1,this.2.1⟩
def ACo{s2:List AS×List Int×Int}{v4:AS×Int}(h:s2.1.length<=16777215):Ap (Aj (HU s2 v4) (len s2.1)) λr=>0<=r/\r<=s2.1.length/\(∀e∈s2.1.drop r.toNat,v4.1.1<=e.1)/\(0<r-> ∀e,s2.1[r.toNat-1]? =some e->e.1<=v4.1.1):=by refine Ce (λ(s:Int)=>0<=s/\s<=s2.1.length/\ ∀e∈s2.1.drop s.toNat,v4.1.1<=e.1) (λ(s:Int)=>s.toNat) ⟨by unfold len;omega,by unfold len;omega,λe a=>by simp[len]at a⟩ (λs i=>?_);have⟨f,g,b⟩:=i;unfold HU;refine AC (λj=>?_) (λj=>Ap.done ⟨f,g,b,λl=>absurd l o!⟩);rw[AY];refine AA (AJ) λm c=>AC (λk=>Ap.next ⟨o!,o!,λe a=>?_⟩ o!) (λk=>Ap.done ⟨f,g,b,λ_ e a=>?_⟩);rw[show s.toNat=(s-1).toNat+1 by omega]at b;have d:=Cp c.1;rw[Tq d]at a;rcases Aw.1 a with q|q;have:=c.1;rw[As d]at this;grind[Option.some.inj];exact b e q;have:=c.1;rw[show(s-1).toNat=s.toNat-1 by omega,a]at this;rw[Ba this];omega
def W2(x:AI)(k:Nat)(s:S AS×S Int×Int):Prop:=0<=s.2.2/\s.2.2<=U x.2.2.1/\∃M:S NE,s.1=M.map (·.1)/\s.2.1=M.map (·.2)/\U M<=s.2.2/\M.Pairwise Beh/\∀e,e∈M↔(∃f∈x.2.2.1.take s.2.2.toNat,Good x f e.1/\e.2=f.2.1)/\x.1[k]?=Z e.1.2.2.1
def ACn{x}{L}{s1:Int×Ψ AS×Ψ Int×Ψ Bool}(h:AR L x){k:Nat}(hp:s1.1=k):Ap (Aj (Ey x s1) ([],[],0)) λr=>∃M:Ψ NE,r=(M.map (·.1),M.map (·.2))/\θ M<=256/\M.Pairwise Beh/\∀e,e∈M↔e∈DW x/\x.1[k]?=δ e.1.2.2.1:=by
 obtain⟨⟨b1,b2,b3,b4,b5,b6,b7⟩,a1,a2,a3,a4,a5,a6⟩:=h.vb;refine Ce (W2 x k) (λs=>((θ x.2.2.1:Int)-s.2.2).toNat) ⟨Ae _,d!,[],rfl,rfl,q!,List.Pairwise.nil,λe=>q!⟩ ?_;rintro⟨A,B,i⟩ ⟨i1,i2,M,eA,eB,i4,W_,X⟩;dsimp only at i1 i2 eA eB i4 X;subst eA eB;unfold Ey;dsimp only[len];rw[AY (x:=i+1)];refine AC (λhc=>?_) (λhc=>k? ⟨M,rfl,o!,W_,λe=>by rw[X e,ACS h,BO o!]⟩);refine AA (AJ i1 hc) λZ_ P=>?_;have et:x.2.2.1.take (i+1).toNat=x.2.2.1.take i.toNat++[Z_]:=by rw[show(i+1).toNat=i.toNat+1 by omega,Cr,P.1];rfl
 have C:(∀e:NE,Good x Z_ e.1->x.1[k]? ≠δ e.1.2.2.1)->Ap (δ (Step.next (M.map (·.1),M.map (·.2),i+1)):Ω (Step (Ψ AS×Ψ Int×Int) (Ψ AS×Ψ Int))) (N2 (W2 x k) (λs=>((θ x.2.2.1:Int)-s.2.2).toNat) ((θ x.2.2.1:Int)-i).toNat λr=>∃M:Ψ NE,r=(M.map (·.1),M.map (·.2))/\θ M<=256/\M.Pairwise Beh/\∀e,e∈M↔e∈DW x/\x.1[k]?=δ e.1.2.2.1):=λhn=>by
  refine y! ⟨d!,d!,M,rfl,rfl,d!,W_,λe=>?_⟩ d!
  dsimp only;rw[X e,et];constructor;rintro⟨⟨f,o,l⟩,m⟩;exact⟨⟨f,Am.2 (.inl o),l⟩,m⟩;rintro⟨⟨f,o,l⟩,m⟩;rcases Am.1 o with q|q;exact⟨⟨f,q,l⟩,m⟩;rw[A9.1 q]at l;exact N! m (hn e l.1)
 rcases h.files Z_ P.2 with u|⟨r,D,_⟩;obtain⟨r,hr⟩:=u.ref (a:=x);rw[hr,AD];dsimp only;rw[show((-1:Int) !=s1.1)=ζ by rw[hp];exact bne_iff_ne.2 o!,B!];exact C λe v=>N! v.2.1 (u.2 _ v.2.2.1.wr);obtain⟨kk,hr,F⟩:=D.refE h.vb.1;rw[hr,AD];dsimp only;rw[hp];refine AL (λa9=>C λe v hk=>a9 ?_) (λT=>?_);have e1:=uI v.2.2.1 D.2.2.1 (v.2.1.symm.trans D.2.1);rw[e1]at hk;rw[h.vb.1.inj F hk];have T:kk=k:=o!
 subst T;refine AA (ACo (s2:=(M.map (·.1),M.map (·.2),i)) (v4:=(r,(kk:Int))) (by dsimp only;rw[BW];omega)) λc h7=>?_;obtain⟨Y_,g2,g3,g4⟩:=h7;dsimp only at g2 g3 g4;rw[BW]at g2;have m1:(M.map (·.1)).length=θ M:=BW _;have m2:(M.map (·.2)).length=θ M:=BW _;refine AA (Bg (Ae _) Y_) λv8 h8=>AA (Bg Y_) λv9 h9=>?_;have l8:=h8.2;have l9:=h9.2;refine AA (Aa w!) λb' H=>?_;have bb:=H.2.1;simp only[Bj]at bb;refine AA (Aa w!) λca I=>?_;have bd:=I.2.1;simp only[Bj,BY]at bd;refine AA (Aa o!) λbt ax=>AA (Bg (Ae _) Y_) λbz J=>?_;have b8:=J.2;refine AA (AJ i1 hc) λd a0=>?_;have ao:d=Z_:=by have:=a0.1;rw[P.1]at this;exact(Ba this).symm
 subst ao;refine AA (Bg Y_) λbG K=>?_;have b9:=K.2;refine AA (Aa w!) λcb N=>?_;have bl:=N.2.1;simp only[Bj]at bl;refine AA (Aa w!) λcc O=>?_;have bm:=O.2.1;simp only[Bj,BY]at bm;refine AA (Aa o!) λbN a7=>?_;have z:∀{β:Type}(g:NE->β)(a b:Ψ β),a=List.take (c.toNat-ο 0) (List.drop (ο 0) (M.map g))->b=List.take (((M.map g).length:Int).toNat-c.toNat) (List.drop c.toNat (M.map g))->a=(M.take c.toNat).map g/\b=(M.drop c.toNat).map g:=λg a b t u=>by refine⟨?_,?_⟩;rw[t,List.map_take];rfl;rw[u,my];exact BO (by rw[DB];omega)
 obtain⟨e8,e9⟩:=z (·.1) v8 v9 h8.1 h9.1;obtain⟨al,ap⟩:=z (·.2) bz bG J.1 K.1;have ad:bt=(M.take c.toNat++(r,d.2.1)::M.drop c.toNat).map (·.1):=by rw[ax.1,I.1,H.1,e8,e9];simp
 have ar:bN=(M.take c.toNat++(r,d.2.1)::M.drop c.toNat).map (·.2):=by rw[a7.1,O.1,N.1,al,ap];simp
 have y:=P6 h.vb.1 P.2 D;have U:∀a∈M,a∈DW x/\a.1.2.2.1=r.2.2.1/\a≠(r,d.2.1):=λa t=>by
  obtain⟨⟨f,o,l,m⟩,G⟩:=(X a).1 t;refine⟨(ACS h a).2 ⟨f,GY o,l,m⟩,?_,λv=>?_⟩;rw[F]at G;exact(Ba G).symm;obtain⟨j,p⟩:=C2 o;have E:=Cp p;rw[BQ]at E;rw[IJ o!,As o!]at p;have Q:=P.1;rw[As o!]at Q;have:=Ed.1 (wS h.vb) j i.toNat o! o! o!
  rw[Ba p,Ba Q]at this;rw[v]at m;dsimp only at m;omega
 have S:∀a∈M.take c.toNat,Beh a (r,d.2.1):=λa t=>by
  have a8:=GY t;obtain⟨q1,q2,q3⟩:=U a a8;have ra:=qy h q1;have rr:=qy h y;obtain⟨j,p⟩:=C2 t;have E:=Cp p;rw[BQ]at E;rw[IJ o!]at p;have n:M[c.toNat-1]?=δ (M[c.toNat-1]' o!):=As o!;have V_:(M[c.toNat-1]' o!).1.1<=r.1:=g4 o! _ (by rw[CR,n];rfl);have b0:a.1.1<=r.1:=by by_cases v:j=c.toNat-1;rw[v,n]at p;rw[<-Ba p];exact V_;have:=Ed.1 W_ j (c.toNat-1) o! o! o!;rw[As o!]at p;rw[Ba p]at this;unfold Beh at this;omega
  rcases h.dis a q1 _ y q3 q2 with w|w;exact w;dsimp only at w rr;omega
 have R:∀b∈M.drop c.toNat,Beh (r,d.2.1) b:=λb u=>by obtain⟨q1,q2,q3⟩:=U b (TO u);have rb:=qy h q1;have rr:=qy h y;have V_:=g3 b.1 (by rw[<-my];exact WC u);rcases h.dis _ y b q1 (O3 q3) q2.symm with w|w;exact w;dsimp only at w rr;omega
 rw[ad,ar];refine y! ⟨d!,d!,_,rfl,rfl,by simp[Ac,BY,BQ,DB];omega,?_,λe=>?_⟩ d!
 rw[<-DY c.toNat M]at W_;obtain⟨p1,p2,p3⟩:=List.pairwise_append.1 W_;refine List.pairwise_append.2 ⟨p1,List.pairwise_cons.2 ⟨R,p2⟩,λa t b u=>?_⟩;rcases Aw.1 u with q|q;rw[q];exact S a t;exact p3 a t b q;dsimp only;rw[et];have a':e∈M.take c.toNat++(r,d.2.1)::M.drop c.toNat↔e∈M\/e=(r,d.2.1):=by
  conv=>rhs;rw[<-DY c.toNat M]
  simp only[Am,Aw];constructor;rintro(q|q|q);exact .inl (.inl q);exact .inr q;exact .inl (.inr q);rintro((q|q)|q);exact .inl q;exact .inr (.inr q);exact .inr (.inl q)
 rw[a',X e];constructor;rintro(⟨⟨f,o,l⟩,m⟩|q);exact⟨⟨f,Am.2 (.inl o),l⟩,m⟩;rw[q];exact⟨⟨d,Am.2 (.inr (A9.2 rfl)),D,rfl⟩,F⟩;rintro⟨⟨f,o,l,G⟩,m⟩;rcases Am.1 o with q|q;exact .inl ⟨⟨f,q,l,G⟩,m⟩;rw[A9.1 q]at l G;have e1:=uI l.2.2.1 D.2.2.1 (l.2.1.symm.trans D.2.1);exact .inr (Da e1 G)
def ACp{M:List NE}{t:List AS×List Int×List Bool}(v:M.Pairwise Beh)(m: ∀e∈M,1<=e.1.1/\e.1.1<=e.1.2.1)(w:M.length<=256)(z:t.1.length<=100000)(A:t.2.1.length<=100000)(B:t.2.2.length<=100000):Ap (Aj (Ez (M.map (·.1),M.map (·.2))) (0,(0,t))) λr=>r=(t.1++M.map (·.1),(t.2.1++M.map (·.2),t.2.2++M.map λ_=>true)):=by
 have y:(M.map (·.1)).length=M.length:=BW _;refine Ce (λ(s:Int×Int×List AS×List Int×List Bool)=> ∃k:Nat,s.2.1=k/\k<=M.length/\s.2.2=(t.1++(M.take k).map (·.1),(t.2.1++(M.take k).map (·.2),t.2.2++(M.take k).map λ_=>true))/\((k=0/\s.1=0)\/ ∃e,0<k/\M[k-1]? =some e/\s.1=e.1.2.1)) (λs=>((M.length:Int)-s.2.1).toNat) ⟨0,rfl,BR _,q!,.inl ⟨rfl,rfl⟩⟩ ?_;rintro⟨j,_,T⟩ ⟨k,rfl,k1,rfl,o⟩;dsimp only at o;unfold Ez;dsimp[len];rw[AY (x:=(k:Int)+1)];refine AC (λl=>?_) (λl=>Ap.done (by rw[BO o!]));have a:k<M.length:=o!
 have h:ix (M.map (·.1)) (k:Int)=some M[k].1:=by unfold ix;rw[if_pos o!,Int.toNat_natCast,List.getElem?_map,List.getElem?_eq_getElem a];rfl
 have i:ix (M.map (·.2)) (k:Int)=some M[k].2:=by unfold ix;rw[if_pos o!,Int.toNat_natCast,List.getElem?_map,List.getElem?_eq_getElem a];rfl
 have n:=m _ (GW a);have b:j<M[k].1.1:=by grind[List.pairwise_iff_getElem,List.getElem?_eq_getElem,Option.some.inj,Beh]
 have g:M.take (k+1)=M.take k++[M[k]]:=by grind[List.take_add_one,List.getElem?_eq_getElem]
 have l1:=fH k M;rw[h,AD,decide_eq_false o!,cond_false,AD,i,AD,AD];rw[show Fa (M[k].1,j)=some M[k].1 by unfold Fa;rw[decide_eq_true (by exact b)];rfl,Option.bind_some];refine AA (Aa w!) λp c=>AA (Aa w!) λq d=>AA (Aa w!) λu f=>?_;rw[AD];refine Ap.next ⟨k+1,rfl,a,?_,.inr ⟨M[k],o!,As a,rfl⟩⟩ d!
 dsimp only;rw[c.1,d.1,f.1,g,decide_eq_true (by exact b)];simp only[LD,CQ,Hi,A6]
def AGM{x:AI}{L:List EN}(h:AR L x):Ap (GJ x) λr=> ∃W_:List NE,r=(W_.map (·.1),(W_.map (·.2),W_.map λ_=>true))/\W_.Pairwise Lt/\ ∀e,e∈W_↔e∈DW x:=by
 obtain⟨⟨E,F,G,H,I,J,K⟩,a1,a2,a3,a4,a5,a6⟩:=h.vb;unfold GJ;refine AA Wl λQ A=>AO (λt=>absurd (A.2 h.vb) (by simp[t])) (λ_=>AA (P:=λr=> ∃W_:List NE,r=(W_.map (·.1),(W_.map (·.2),W_.map λ_=>true))/\W_.Pairwise Lt/\ ∀e,e∈W_↔e∈DW x) ?_ λr hr=>AB hr);refine Ce (λ(s:Int×List AS×List Int×List Bool)=> ∃(i:Nat) (W_:List NE),s.1=i/\i<=x.1.length/\s.2=(W_.map (·.1),(W_.map (·.2),W_.map λ_=>true))/\W_.length<=256*i/\W_.Pairwise Lt/\ ∀e,e∈W_↔e∈DW x/\ ∃k:Nat,k<i/\x.1[k]? =some e.1.2.2.1) (λs=>((x.1.length:Int)-s.1).toNat) ⟨0,[],rfl,BR _,rfl,q!,List.Pairwise.nil,λe=>q!⟩ ?_;rintro⟨_,_⟩ ⟨i,W_,rfl,N,rfl,O,y,v⟩;unfold Nh;dsimp only[len];rw[AY (x:=(i:Int)+1)];refine AC (λt=>?_) (λt=>Ap.done ⟨W_,rfl,y,λe=>?_⟩)
 ·refine AA (ACn h rfl) λC l=>?_;obtain⟨M,rfl,B,z,j⟩:=l;refine AA (ACp z (λe u=>qy h ((j e).1 u).1) B (by rw[BW];omega) (by rw[BW];omega) (by rw[BW];omega)) λD m=>Ap.next ⟨i+1,W_++M,rfl,o!,by rw[m];simp,by rw[Ac];omega,List.pairwise_append.2 ⟨y,?_,λa n b p=>?_⟩,λe=>?_⟩ d!
  refine pe ?_ z;intro a b n p o;have w:=((j a).1 n).2;rw[((j b).1 p).2]at w;exact .inr ⟨(Ba w).symm,o⟩;obtain⟨_,k,k1,c⟩:=(v a).1 n;obtain⟨d,rfl⟩: ∃d,i=k+1+d:=⟨i-(k+1),o!⟩
  exact .inl (h.vb.1.lt d k _ _ c ((j b).1 p).2);rw[Am,v e,j e];constructor;rintro(⟨q,k,k1,c⟩|⟨q1,q2⟩);exact⟨q,k,o!,c⟩;exact⟨q1,i,o!,q2⟩;rintro⟨q,k,k1,c⟩;by_cases u:k=i;rw[u]at c;exact .inr ⟨q,c⟩;exact .inl ⟨q,k,o!,c⟩
 rw[v e];refine⟨λq=>q.1,λq=>⟨q,?_⟩⟩;obtain⟨f,_,g,_⟩:=h.mem q;obtain⟨k,k1,_⟩:=g.2.2.2;have:=Cp k1;exact⟨k,o!,k1⟩
def AIg{x}{L}(h:AR L x):Ap (RH x) λr=>∃W_:S NE,r=(W_.map (·.1),W_.map (·.2))/\W_.Pairwise Lt/\U W_<=256/\∀e,e∈W_↔e∈DW x:=by refine AA (AGM h) λr hr=>?_;obtain⟨W_,rfl,i,g⟩:=hr;refine AB ⟨W_,rfl,i,?_,g⟩;have f:W_.Nodup:=IL.2 (i.imp_of_mem λ{a b} j k c d=>by subst d;have:=qy h ((g a).1 j);rcases c with q|⟨_,q⟩;omega;unfold Beh at q;omega);have q1:=iX W_ (DW x) f λe d=>(g e).1 d;have q2:(DW x).length<=U x.2.2.1:=List.length_filterMap_le _ _;have:=h.vb.2.2.2.2.2.1;omega
def Src(L:S EN)(p:Int)(rs:S AS):Prop:=U rs<=256/\∀r∈rs,VR r/\cH L r/\r.2.2.1<=p/\p<=r.2.2.2.1
def AHV{a:AI}{l:AZ}{p i j:Int}:Ap (QG (a,l,p,i,j)) λr=>r=0->0<=p/\p<a.2.1/\0<=i/\i<=j:=by refine AA KU λk g=>AO (y? n!) (λ_=>AA Bb λm h=>AO (y? n!) (λ_=>AC (y? n!) (λc=>AC (y? n!) (λd=>AC (y? n!) (λe=>AC (y? n!) (λf=>AB λ_=>?_))))));dsimp only at c d e f;omega
def AIc{a:AI}{p:Int}(h:VB a)(o:0<=p/\p<a.2.1):Ap (RG (a,p)) λr=> ∃k:Nat,a.1[k]? =some r.1/\r.1<=p/\p<=qX a k:=by
 have i:=h.1.2.2.2.1;have w:=h.1.2.2.1;refine AA Wl λB g=>AO (λc=>absurd (g.2 h) (by simp[c])) (λ_=>?_);dsimp only;rw[decide_eq_false o!,cond_false,decide_eq_false o!,cond_false];refine AA (P:=λk:Int=> ∃m:Nat,k=m/\ ∃b,a.1[m]? =some b/\b<=p/\p<=qX a m) ?_ λk n=>?_
 ·refine Ce (λ(s:Int)=>0<=s/\s<a.1.length/\ ∃b,a.1[s.toNat]? =some b/\b<=p) (λs=>((a.1.length:Int)-s).toNat) ⟨Ae _,o!,0,h.1.2.2.2.2.1,o.1⟩ (λs j=>?_);have⟨x,y,b,e,f⟩:=j;unfold UP;dsimp[len];rw[AY];refine AC (λc=>AA (AJ o! c) λv q=>?_) (λc=>Ap.done ⟨s.toNat,o!,b,e,f,?_⟩)
  ·have u:(s+1).toNat=s.toNat+1:=o!
   refine AC (λd=>Ap.next ⟨o!,o!,v,q.1,d⟩ o!) (λl=>Ap.done ⟨s.toNat,o!,b,e,f,?_⟩);grind[qX]
  grind[qX,List.getElem?_eq_none]
 obtain⟨m,rfl,b,t,z,A⟩:=n;rw[oG h.1 t,AD];grind[AB]
def AFk{L:List EN}{a:AI}{l:AZ}{p:Int}(h:AR L a)(F:0<=p/\p<a.2.1):Ap (Nj (a,(l,p))) λr=> ∃(M:List NE) (v D:Int),P7 a p v D/\r=(M.map (·.1),(M.map (·.2),l))/\M.Pairwise Beh/\(∀e,e∈M↔e∈DW a/\e.1.2.2.1=v)/\Src L p (M.map (·.1)):=by
 refine AA (AIc h.vb F) λc A=>AA (AIg h) λY B=>?_;have⟨k,k1,t,u⟩:=A;dsimp only at k1 t u;obtain⟨W_,rfl,K,N,w⟩:=B;have U:(W_.map (·.1)).length=W_.length:=BW _;refine AA (P:=λr=>r=((W_.filter λe=>e.1.2.2.1==c.1).map (·.1),((W_.filter λe=>e.1.2.2.1==c.1).map (·.2),l))) ?_ λr hr=>AB ⟨W_.filter λe=>e.1.2.2.1==c.1,c.1,qX a k,⟨k,k1,rfl,t,u⟩,hr,?_,?_,?_⟩
 ·refine Ce (λ(s:Int×List AS×List Int×AZ)=> ∃k:Nat,s.1=k/\k<=W_.length/\s.2=(((W_.take k).filter λe=>e.1.2.2.1==c.1).map (·.1),(((W_.take k).filter λe=>e.1.2.2.1==c.1).map (·.2),l))) (λs=>((W_.length:Int)-s.1).toNat) ⟨0,rfl,BR _,rfl⟩ ?_;rintro⟨_,_⟩ ⟨k,rfl,T,rfl⟩;unfold QZ;dsimp[len];rw[AY (x:=(k:Int)+1)];refine AC (λC=>?_) (λC=>Ap.done (by rw[BO o!]));have d:k<W_.length:=o!
  have j:ix (W_.map (·.1)) (k:Int)=some W_[k].1:=by unfold ix;rw[if_pos o!,Int.toNat_natCast,List.getElem?_map,List.getElem?_eq_getElem d];rfl
  have m:ix (W_.map (·.2)) (k:Int)=some W_[k].2:=by unfold ix;rw[if_pos o!,Int.toNat_natCast,List.getElem?_map,List.getElem?_eq_getElem d];rfl
  have H:W_.take (k+1)=W_.take k++[W_[k]]:=by grind[List.take_add_one,List.getElem?_eq_getElem]
  have V_:=EM (λe:NE=>e.1.2.2.1==c.1) (W_.take k);have X:=fH k W_;rw[j,AD];refine AA (P:=λr=>r=(((W_.take (k+1)).filter λe=>e.1.2.2.1==c.1).map (·.1),(((W_.take (k+1)).filter λe=>e.1.2.2.1==c.1).map (·.2),l))) (AP (λo=>?_) (λE=>AB ?_)) λr hr=>Ap.next ⟨k+1,rfl,d,hr⟩ d!
  rw[AD,m,AD];refine AA (Aa w!) λZ R=>AA (Aa w!) λv7 S=>AB ?_;grind;grind
 apply (K.filter _).imp_of_mem;intro x y I J n;have O:=eq_of_beq (BS.1 I).2;have Q:=eq_of_beq (BS.1 J).2;rcases n with q|⟨_,q⟩;omega;exact q;intro e;rw[BS,w e,beq_iff_eq];refine⟨by rw[BW];exact CK (EM _ _) N,λq G=>?_⟩;obtain⟨e,o,rfl⟩:=Bn.1 G;have⟨q1,q2⟩:=BS.1 o;have⟨f,_,g,_,z,_⟩:=h.mem ((w e).1 q1);have i:=eq_of_beq q2;have b:=g.2.2.2;rw[i]at b;have:=b.uniq h.vb.1 ⟨k,k1,rfl⟩;exact⟨g.2.2.1,z,o!⟩
def kD(rs:S AS)(l:AZ)(m:Int):Prop:=(∃r∈rs,r.1<=m/\m<=r.2.1)\/(l.1<=m/\m<=l.1+U l.2.1-1)
def ACB{l}{m:Int}(h:De l):JF (l,m)=Z (τ (l.1<=m/\m<=l.1+U l.2.1-1)):=by have a:=h.1;have b:=h.2.1;have d:=h.2.2.1;unfold JF;dsimp[len];rw[AY];by_cases c:l.1<=m<;>grind
theorem AJB{L:List EN}{p m:Int}{a:List AS}{E:List Int}{l:AZ}(h:Src L p a)(w:De l)(hm:0<=m/\m<=2199023255552):Ap (RK ((a,(E,l)),m)) λv=>m-1<=v/\v<=2199023255552/\(∀q,m<=q->q<=v->kD a l q)/\(v=m-1-> ¬kD a l m):=by
 have X:=w.1;have Y_:=w.2.1;have Z_:=w.2.2.1;refine AA (P:=λv=>m-1<=v/\v<=2199023255552/\(∀q,m<=q->q<=v->kD a l q)/\ ∀r∈a,r.1<=m->m<=r.2.1->m<=v) ?_ λv5 K=>?_
 ·refine Ce (λ(s:Int×Int)=>0<=s.2/\s.2<=a.length/\m-1<=s.1/\s.1<=2199023255552/\(∀q,m<=q->q<=s.1->kD a l q)/\ ∀r∈a.take s.2.toNat,r.1<=m->m<=r.2.1->m<=s.1) (λs=>((a.length:Int)-s.2).toNat) ⟨Ae _,d!,by dsimp only;rw[AY];omega,by dsimp only;rw[AY];omega,λq q1 q2=>by dsimp only at q2;rw[AY]at q2;omega,λr hr=>by simp at hr⟩ ?_;rintro⟨b,k⟩ ⟨y,R,i,j,n,D⟩;dsimp only at y R i j n D;have Q:=h.1;unfold UT;dsimp[len];refine AC (λu=>?_) (λu=>Ap.done ⟨i,j,n,by rw[BO o!]at D;exact D⟩);rw[AY (x:=k+1)];refine AA (AJ y u) λo e=>?_;have W_:a.take (k+1).toNat=a.take k.toNat++[o]:=by rw[show(k+1).toNat=k.toNat+1 by omega,Cr,e.1];rfl
  have hr:=(h.2 o e.2).1.1;have keep: ∀t,b<=t->(o.1<=m->m<=o.2.1->m<=t)-> ∀r∈a.take (k+1).toNat,r.1<=m->m<=r.2.1->m<=t:=λt hb C r O q1 q2=>by grind[List.mem_singleton]
  refine AC (λN=>?_) (λB=>Ap.next ⟨d!,d!,i,j,n,keep b (Ae _) λq=>absurd q B⟩ d!);refine AA (AJ y u) λF z=>?_;have I:F=o:=by grind[Option.some.inj]
  subst I;refine AA (P:=λv=>m-1<=v/\v<=2199023255552/\(∀q,m<=q->q<=v->kD a l q)/\b<=v/\(m<=F.2.1->m<=v)) ?_ λV_ c=>Ap.next ⟨d!,d!,c.1,c.2.1,c.2.2.1,keep V_ c.2.2.2.1 λ_=>c.2.2.2.2⟩ d!
  refine AC (λg=>AA (AJ y u) λH A=>AB ?_) (λg=>AB ⟨i,j,n,Ae _,λq=>absurd q g⟩);have J:H=F:=by grind[Option.some.inj]
  subst J;have G:=hr.2.2.1;split;exact⟨o!,o!,λq q1 q2=>.inl ⟨H,e.2,o!,q2⟩,o!,id⟩;exact⟨i,j,n,Ae _,λq=>o!⟩
 rw[ACB w,AD];dsimp[len];have⟨e,z,A,c⟩:=K;refine AA (P:=λv=>m-1<=v/\v<=2199023255552/\(∀q,m<=q->q<=v->kD a l q)/\(v=m-1-> ¬kD a l m)) ?_ λv7 M=>AB M;refine AC (λf=>AB ?_) (λf=>AB ⟨e,z,A,λC d=>?_⟩);rw[AY (x:=l.1+l.2.1.length),AY];split;exact⟨o!,o!,λq q1 q2=>.inr o!,λC=>o!⟩;exact⟨e,z,A,λC=>o!⟩;rcases d with⟨r,S,T,U⟩|d;have:=c r S T U;omega;exact f d
def AC1{L}{p i j:Int}{a}{c:S Int}{l}(h:Src L p a)(n:De l)(k:0<=i)(m:j<=1099511627776)(f:i<=j):Ap (Oc ((a,c,l),i,j)) λb=>b=V↔∀q,i<q->q<=j->kD a l q:=by
 refine AA (P:=λr=>(r=.inl Y/\∃q,i<q/\q<=j/\¬kD a l q)\/(r=.inr ()/\∀q,i<q->q<=j->kD a l q)) ?_ λr hr=>?_
 ·refine Ce (λs=>i<=s/\s<=2199023255552/\∀q,i<q->q<=s->kD a l q) (λs=>(j-s).toNat) ⟨Ae _,d!,λq q1 q2=>by dsimp only at q2;omega⟩ (λs d=>?_);have⟨o,t,g⟩:=d;unfold RJ;dsimp only;refine AC (λe=>?_) (λe=>k? (.inr ⟨rfl,λq q1 q2=>g q q1 o!⟩));grind[AY,AA,AJB,AP,k?,y!]
 grind[BB,AB,Ax]
def AFc{r:AS}{p:Int}(h:VR r):Ap (PX (r,p)) λv=>v=r.2.2.2.2.2.filter λe=>e.2.2.2.2.2.2.1.1==p:=by have m:=h.1.2.2.2.2.2.2.2.2;refine AA YG λn f=>AO (λa=>absurd (f.2 h) (by simp[a])) (λ_=>AA (P:=λv=>v=r.2.2.2.2.2.filter λe=>e.2.2.2.2.2.2.1.1==p) ?_ λv j=>AB j);refine Ce (λ(s:Int×List EN)=>0<=s.1/\s.1<=r.2.2.2.2.2.length/\s.2=(r.2.2.2.2.2.take s.1.toNat).filter λe=>e.2.2.2.2.2.2.1.1==p) (λs=>((r.2.2.2.2.2.length:Int)-s.1).toNat) ⟨Ae _,d!,q!⟩ ?_;rintro⟨s,A⟩ ⟨b,k,d⟩;dsimp only at b k d;unfold R1;dsimp[len];refine AC (λa=>?_) (λa=>Ap.done (by rw[d,BO o!]));refine AA (AJ b a) λo g=>?_;have i:=lg (p:=λe:EN=>e.2.2.2.2.2.2.1.1==p) b g.1;have c:=oh (l:=r.2.2.2.2.2) (p:=λe:EN=>e.2.2.2.2.2.2.1.1==p) b;rw[<-d]at c;rw[AY];grind[AA,Ap.next,AP,AJ,Aa,AB,Option.some.inj]
def AAf{L:List EN}{p i j:Int}{c:List AS}(V_:Uq L)(h:Src L p c):Ap (Ni (c,(p,(i,j)))) λr=>r.length<=1048576/\ ∀y,y∈r↔ ∃q∈c,y∈q.2.2.2.2.2/\y.2.2.2.2.2.2.1.1=p/\i<y.1/\y.1<=j:=by
 have W_:=h.1;refine AA (P:=λr=>r.length<=1048576/\ ∀y,y∈r↔ ∃q∈c,y∈q.2.2.2.2.2/\y.2.2.2.2.2.2.1.1=p/\i<y.1/\y.1<=j) ?_ λr hr=>AB hr;refine Ce (λ(s:List EN×Int)=>0<=s.2/\s.2<=c.length/\s.1.length<=4096*s.2/\ ∀y,y∈s.1↔ ∃q∈c.take s.2.toNat,y∈q.2.2.2.2.2/\y.2.2.2.2.2.2.1.1=p/\i<y.1/\y.1<=j) (λs=>((c.length:Int)-s.2).toNat) ⟨Ae _,d!,q!,λy=>q!⟩ ?_;rintro⟨A,k⟩ ⟨M,X,Y_,n⟩;dsimp only at M X Y_ n;unfold QX;dsimp[len];refine AC (λK=>?_) (λK=>Ap.done ⟨o!,λy=>by rw[n y,BO o!]⟩);refine AA (AJ M K) λu I=>?_;have⟨H,S,g3,g4⟩:=h.2 u I.2;have hl:=H.1.2.2.2.2.2.2.2.2;refine AA (AFc H) λa C=>?_;have G:=EM (λe:EN=>e.2.2.2.2.2.2.1.1==p) u.2.2.2.2.2;rw[<-C]at G;have D: ∀y∈A,y∈L:=λy f=>by have⟨q,q1,q2,_⟩:=(n y).1 f;exact(((h.2 q (GY q1)).2.1.mem y).1 q2).1
 have g: ∀y∈a,y∈L:=λy f=>by rw[C]at f;exact((S.mem y).1 (BS.1 f).1).1
 refine AA (P:=λr=>r.length<=A.length+a.length/\ ∀y,y∈r↔y∈A\/(y∈a/\i<y.1/\y.1<=j)) ?_ λr hr=>?_
 ·refine Ce (λ(s:List EN×Int)=>0<=s.2/\s.2<=a.length/\s.1.length<=A.length+s.2/\ ∀y,y∈s.1↔y∈A\/(y∈a.take s.2.toNat/\i<y.1/\y.1<=j)) (λs=>((a.length:Int)-s.2).toNat) ⟨Ae _,d!,d!,λy=>q!⟩ ?_;rintro⟨B,m⟩ ⟨o,Z_,j2,t⟩;dsimp only at o Z_ j2 t;unfold QY;dsimp[len];refine AC (λb=>?_) (λb=>Ap.done ⟨o!,λy=>by rw[t y,BO o!]⟩);refine AA (AJ o b) λv l=>?_;rw[AY (x:=m+1)];have z:a.take (m+1).toNat=a.take m.toNat++[v]:=by rw[show(m+1).toNat=m.toNat+1 by omega,Cr,l.1];rfl
  have d: ¬(i<v.1/\v.1<=j)-> ∀y,y∈B↔y∈A\/(y∈a.take (m+1).toNat/\i<y.1/\y.1<=j):=λhn y=>by grind[List.mem_singleton]
  refine AC (λE=>?_) (λE=>Ap.next ⟨d!,d!,d!,d λq=>o!⟩ d!);refine AA (AJ o b) λN T=>?_;have Q:N=v:=by have:=T.1;rw[l.1]at this;exact(Ba this).symm
  subst Q;refine AA (P:=λr=>r.length<=B.length+1/\ ∀y,y∈r↔y∈A\/(y∈a.take (m+1).toNat/\i<y.1/\y.1<=j)) ?_ λr hr=>Ap.next ⟨d!,d!,by have:=hr.1;dsimp only;omega,hr.2⟩ d!
  refine AC (λF=>?_) (λF=>AB ⟨o!,d λq=>o!⟩);refine AA (AJ o b) λO U=>?_;have R:O=N:=by have:=U.1;rw[l.1]at this;exact(Ba this).symm
  subst R;refine AA (oD V_ (λy f=>?_) (g O l.2) o!) λv7 J=>AB ⟨J.1,λy=>?_⟩;rcases(t y).1 f with q|q;exact D y q;exact g y (GY q.1);rw[J.2 y,t y,z,Am,A9];constructor;rintro((q|⟨q1,q2⟩)|q);exact .inl q;exact .inr ⟨.inl q1,q2⟩;exact .inr ⟨.inr q,by rw[q];omega⟩;rintro(q|⟨q1|q1,q2⟩);exact .inl (.inl q);exact .inl (.inr ⟨q1,q2⟩);exact .inr q1
 ·rw[AY];refine Ap.next ⟨d!,d!,by have:=hr.1;dsimp only;omega,λy=>?_⟩ d!
  dsimp only;have z:c.take (k+1).toNat=c.take k.toNat++[u]:=by rw[show(k+1).toNat=k.toNat+1 by omega,Cr,I.1];rfl
  rw[hr.2 y,n y,z,C,BS,beq_iff_eq];constructor;rintro(⟨q,q1,q2⟩|⟨⟨q1,q2⟩,q3⟩);exact⟨q,G2 _ q1,q2⟩;exact⟨u,NA _ (A9.2 rfl),q1,q2,q3⟩;rintro⟨q,q1,q2,q3,q4⟩;rcases Am.1 q1 with w|w;exact .inl ⟨q,w,q2,q3,q4⟩;rw[A9.1 w]at q2;exact .inr ⟨⟨q2,q3⟩,q4⟩
def AEw{l:AZ}{p i j:Int}(h:De l):Ap (PZ (l,(p,(i,j)))) λr=>r=l.2.1.filter (IF p i j):=by
 have z:=h.2.2.1;refine AA (P:=λr=>r=l.2.1.filter (IF p i j)) ?_ λr hr=>AB hr;refine Ce (λ(q:Int×List EN)=>0<=q.1/\q.1<=l.2.1.length/\q.2=(l.2.1.take q.1.toNat).filter (IF p i j)) (λq=>((l.2.1.length:Int)-q.1).toNat) ⟨Ae _,d!,q!⟩ (λq v=>?_);have⟨q1,q2,q3⟩:=v;unfold R5;dsimp[len];refine AC (λo=>?_) (λo=>Ap.done (by rw[q3,BO o!]));refine AA (AJ q1 o) λs t=>?_;have k:=lg (p:=IF p i j) q1 t.1;have f:=oh (l:=l.2.1) (p:=IF p i j) q1;rw[<-q3]at f;rw[AY (x:=q.1+1)];have m:IF p i j s=false->Ap (some (Step.next (q.1+1,q.2)):Option (Step (Int×List EN) (List EN))) (N2 (λ(q:Int×List EN)=>0<=q.1/\q.1<=l.2.1.length/\q.2=(l.2.1.take q.1.toNat).filter (IF p i j)) (λq=>((l.2.1.length:Int)-q.1).toNat) ((l.2.1.length:Int)-q.1).toNat λr=>r=l.2.1.filter (IF p i j)):=λw=>Ap.next ⟨d!,d!,by dsimp only;rw[k,w,q3];simp⟩ d!
 refine AA CO λn u=>?_;have e:jN s=n:=by grind[jN]
 refine AK (λa=>?_) (λa=>m (by unfold IF;rw[e,a];rfl));refine AP (λc=>?_) (λc=>m (by unfold IF;rw[beq_eq_false_iff_ne.2 c];simp));refine AC (λb=>?_) (λb=>m (by unfold IF;rw[decide_eq_false b];simp));refine AA (P:=λr=>r=(l.2.1.take (q.1+1).toNat).filter (IF p i j)) ?_ λy d=>Ap.next ⟨d!,d!,d⟩ d!
 refine AC (λg=>?_) (λg=>AB ?_);grind[AA,Aa,AB,IF];grind[IF]
def AEn{a:List AS}{m:Int}(h:a.length<=256):Ap (PY (a,m)) λ_=>True:=by refine AA (P:=λ_=>True) ?_ λr _=>BG (λu _=>AB trivial) (λu _=>AB trivial);refine Ce (λ(s:Int)=>0<=s/\s<=a.length) (λs=>((a.length:Int)-s).toNat) ⟨Ae _,o!⟩ (λs d=>?_);have⟨c,e⟩:=d;unfold R4;dsimp[len];refine AC (λb=>?_) (λ_=>Ap.done trivial);rw[AY];refine AA (AJ c b) λf _=>AC (λ_=>AA (AJ c b) λg _=>AC (λ_=>Ap.done trivial) (λ_=>Ap.next o! o!)) (λ_=>Ap.next o! o!)
def AH6{l:List EN}{e:EN}(h:l.length<=16777216):Ap (Nz (l,e)) λ_=>True:=by refine AA (P:=λ_=>True) ?_ λr _=>BG (λu _=>AB trivial) (λu _=>AB trivial);refine Ce (λ(s:Int)=>0<=s/\s<=l.length) (λs=>((l.length:Int)-s).toNat) ⟨Ae _,o!⟩ (λs a=>?_);have⟨c,d⟩:=a;unfold VG;dsimp[len];refine AC (λb=>?_) (λ_=>Ap.done trivial);rw[AY];exact AA (AJ c b) λf _=>AK (λ_=>Ap.done trivial) (λ_=>Ap.next o! o!)
def AGI{L A B:List EN}{m:List AS}{l:AZ}(Q:Uq L)(v:De l)(N: ∀y∈A,y∈L)(O: ∀y∈B,y∈L)(q:m.length<=256)(K:A.length<=1048576)(M:B.length<=4096):Ap (QF (m,(l,(A,B)))) λr=>r.2=true->r.1.length<=1052672/\ ∀y,y∈r.1↔y∈A\/y∈B:=by
 refine AA (Aa w!) λz p=>?_;have h:=p.1;rw[CG]at h;dsimp only at h;subst z;refine AA (P:=λr=>(∃u,r= .inl u/\u.2=false)\/ ∃C,r= .inr C/\C.length<=A.length+B.length/\ ∀y,y∈C↔y∈A\/y∈B) ?_ λr hr=>?_
 ·refine Ce (λ(s:List EN×Int)=>0<=s.2/\s.2<=B.length/\s.1.length<=A.length+s.2/\ ∀y,y∈s.1↔y∈A\/y∈B.take s.2.toNat) (λs=>((B.length:Int)-s.2).toNat) ⟨Ae _,d!,d!,λy=>q!⟩ ?_;rintro⟨C,k⟩ ⟨c,i,w,j⟩;dsimp only at c i w j;unfold S5;dsimp[len];refine AC (λa=>?_) (λa=>Ap.done (.inr ⟨C,rfl,o!,λy=>by rw[j y,BO o!]⟩));refine AA (AJ c a) λG o=>AA (AEn q) λR _=>?_;rw[AY (x:=k+1)];have J:B.take (k+1).toNat=B.take k.toNat++[G]:=by rw[show(k+1).toNat=k.toNat+1 by omega,Cr,o.1];rfl
  have f: ∀d,B[k.toNat]? =some d/\d∈B->Ap (Option.bind (DH (C,d)) λH=>some (Step.next (H.1,k+1)):Option (Step (List EN×Int) ((List EN×Bool)⊕ List EN))) (N2 (λ(s:List EN×Int)=>0<=s.2/\s.2<=B.length/\s.1.length<=A.length+s.2/\ ∀y,y∈s.1↔y∈A\/y∈B.take s.2.toNat) (λs=>((B.length:Int)-s.2).toNat) ((B.length:Int)-k).toNat λr=>(∃u,r= .inl u/\u.2=false)\/ ∃C,r= .inr C/\C.length<=A.length+B.length/\ ∀y,y∈C↔y∈A\/y∈B):=λd g=>by grind[Option.some.inj,AA,oD,List.mem_of_mem_take,Ap.next,List.mem_singleton]
  refine AC (λ_=>AA (AJ c a) λS _=>AA (AH6 o!) λT _=>AO (λ_=>Ap.done (.inl ⟨_,rfl,rfl⟩)) (λ_=>AA (AJ c a) λd g=>f d g)) (λ_=>AA (AJ c a) λd g=>f d g)
 ·rcases hr with⟨u,rfl,b⟩|⟨C,rfl,I,n⟩;exact BB (AB λe=>by rw[b]at e;cases e)
  ·refine Ax (AA (P:=λr=> ∀u,r= .inl u->u.2=false) ?_ λr hr=>BG (λu b=>AB λe=>by rw[hr u b]at e;cases e) (λu b=>AB λ_=>⟨d!,n⟩));refine Ce (λ(s:Int)=>0<=s/\s<=A.length) (λs=>((A.length:Int)-s).toNat) ⟨Ae _,o!⟩ (λs t=>?_);have⟨c,i⟩:=t;unfold S6;dsimp[len];refine AC (λa=>?_) (λ_=>Ap.done λu b=>by cases b);rw[AY];refine AA (AJ c a) λD _=>?_;rw[ACB v,AD];exact AC (λ_=>AA (AJ c a) λE _=>AA (AH6 o!) λF _=>AO (λ_=>Ap.done λu b=>by cases b;rfl) (λ_=>Ap.next o! o!)) (λ_=>Ap.next o! o!)
def AIZ{L:List EN}{a:AI}{l:AZ}{p i j:Int}(hN:ID L)(hA:AR L a)(t:Qk L l)(hj:j<=1099511627776):Ap (Ti (a,(l,(p,(i,j))))) λr=>r.2=0->r.1=L.filter (IF p i j):=by
 have G:=t.sorted;have hU:Uq L:=λx hx y E K=>YB (by refine IL.2 ((TQ).2 (G.imp λh=>?_));omega) hx E K;refine AA AHV λv0 h0=>AL (λH=>AB λo=>absurd o H) (λo=>?_);have⟨p0,p1,i0,ij⟩:=h0 o;refine AA (AFk hA ⟨p0,p1⟩) λv1 h1=>?_;obtain⟨M,lo,hh,a0,rfl,ap,hM,z⟩:=h1;dsimp only at z;refine AA (AC1 z t.vl i0 hj ij) λv2 h2=>AO (λ_=>AB n!) (λJ=>?_);have al:=h2.1 J;refine AA (AAf hU z) λv3 X=>AA (AEw t.vl) λv4 Y_=>?_;have Z_: ∀y∈v3,y∈L:=λy E=>by have⟨q,q1,q2,_⟩:=(X.2 y).1 E;exact(((z.2 q q1).2.1.mem y).1 q2).1
 have ad: ∀y∈v4,y∈L:=λy E=>by rw[Y_]at E;exact((t.tail y).1 (BS.1 E).1).1
 have A:v4.length<=4096:=by rw[Y_];exact CK (EM _ _) t.vl.2.2.1
 refine AA (AGI hU t.vl Z_ ad z.1 X.1 A) λc h5=>AO (λ_=>AB n!) (λht=>?_);have⟨u1,u2⟩:=h5 ht;have w: ∀y,y∈c.1↔y∈L.filter (IF p i j):=λy=>by rw[u2 y,X.2 y,Y_,BS,BS];constructor;rintro(⟨q,q1,q2,q3,q4,q5⟩|⟨q1,q2⟩);have:=((z.2 q q1).2.1.mem y).1 q2;refine⟨this.1,?_⟩;unfold IF;rw[this.2.1,beq_iff_eq.2 q3,decide_eq_true (show y.1>i from q4),decide_eq_true q5];rfl;exact⟨((t.tail y).1 q1).1,q2⟩;rintro⟨q1,q2⟩;have hw:=q2;unfold IF at hw;simp[BV,decide_eq_true_eq,beq_iff_eq]at hw;have⟨w1,w2,w3,w4⟩:=hw;rcases al y.1 w3 w4 with⟨r,T,r2,r3⟩|⟨T,r2⟩;have⟨_,g2,g3,g4⟩:=z.2 r T;exact .inl ⟨r,T,(g2.mem y).2 ⟨q1,w1,o!,o!,r2,r3⟩,w2,w3,w4⟩;exact .inr ⟨(t.tail y).2 ⟨q1,T,r2⟩,q2⟩
 refine AA (P:=λr=>(∀u,r= .inl u->u.2=13)/\(r= .inr ()-> ∀(k:Nat) (e f:EN),c.1[k]? =some e->c.1[k+1]? =some f->f.2.2.2.2.1=e.1)) ?_ λr hr=>BG (λu B=>AB λo=>by rw[hr.1 u B]at o;cases o) (λu B=>AB λ_=>?_)
 ·refine Ce (λ(s:Int)=>0<=s/\s<=c.1.length/\ ∀(k:Nat) (e f:EN),(k:Int)+1<s->c.1[k]? =some e->c.1[k+1]? =some f->f.2.2.2.2.1=e.1) (λs=>((c.1.length:Int)-s).toNat) ⟨Ae _,o!,λk e f n=>o!⟩ (λs hI=>?_);have⟨s0,s1,s2⟩:=hI;unfold Vz;dsimp[len];have F: ∀u:List EN×Int,u=([],13)->(∀v,(Sum.inl u:(List EN×Int)⊕ Unit)= .inl v->v.2=13)/\((Sum.inl u:(List EN×Int)⊕ Unit)= .inr ()-> ∀(k:Nat) (e f:EN),c.1[k]? =some e->c.1[k+1]? =some f->f.2.2.2.2.1=e.1):=λu B=>⟨λv hv=>by cases hv;rw[B],λh=>by cases h⟩
  refine AC (λH=>?_) (λH=>Ap.done ⟨λu B=>(by cases B),λ_ k e f n g=>s2 k e f (by have:=Cp g;omega) n g⟩);rw[AY (x:=s+1)];have Q:0<s->Ap (Option.bind (ix c.1 s) λR=>Option.bind (ix c.1 (wi (s-1))) λS=>bif (R.2.2.2.2.1 !=S.1)then some (.done (.inl ([],13)))else some (.next (s+1)):Option (Step Int ((List EN×Int)⊕ Unit))) (N2 (λ(s:Int)=>0<=s/\s<=c.1.length/\ ∀(k:Nat) (e f:EN),(k:Int)+1<s->c.1[k]? =some e->c.1[k+1]? =some f->f.2.2.2.2.1=e.1) (λs=>((c.1.length:Int)-s).toNat) ((c.1.length:Int)-s).toNat λr=>(∀u,r= .inl u->u.2=13)/\(r= .inr ()-> ∀(k:Nat) (e f:EN),c.1[k]? =some e->c.1[k+1]? =some f->f.2.2.2.2.1=e.1)):=λD=>by
   rw[AY];refine AA (AJ s0 H) λR V_=>AA (AJ) λS W_=>AL (λ_=>Ap.done (F _ rfl)) (λK=>Ap.next ⟨o!,o!,λk e f n N g=>?_⟩ o!);by_cases ao:(k:Int)+1<s;exact s2 k e f ao N g;have ek:k+1=s.toNat:=o!
   have U:(s-1).toNat=k:=o!
   rw[ek,V_.1]at g;have:=W_.1;rw[U,N]at this;rw[<-Ba g,Ba this];exact K
  apply AP<;>intro hs
  ·refine AA (AJ s0 H) λv7 g7=>AC (λ_=>Ap.done (F _ rfl)) (λ_=>AC (λD=>absurd D o!) (λ_=>Ap.next ⟨o!,o!,λk e f n=>o!⟩ o!))
  exact AC (λD=>Q D) (λD=>absurd D o!)
 subst B;dsimp only;have I:=hr.2 rfl;refine XF ?_ (G.filter _) w;have O: ∀e∈c.1,e.2.2.2.2.1<e.1:=λe K=>by have⟨k,n⟩:=Et.1 (BS.1 ((w e).1 K)).1;exact(hN k e n).2.2.2.2.2.2.1
 have step: ∀(d k:Nat) (e f:EN),c.1[k]? =some e->c.1[k+1+d]? =some f->e.1<f.1:=by
  intro d;induction d with
  |zero=>intro k e f n C;have:=I k e f n C;have:=O f (BN C);omega
  |succ d ih=>intro k e f n C;have ax:=Cp C;have hg:c.1[k+1+d]? =some (c.1[k+1+d]' o!):=As o!;have a:=ih k e _ n hg;have b:=I (k+1+d) _ f hg C;have:=O f (BN C);omega
 rw[Ed];intro k m n hm ar;obtain⟨d,rfl⟩: ∃d,m=k+1+d:=⟨m-(k+1),o!⟩
 exact step d k _ _ (As n) (As hm)
def ADz{x:AT}{a:List AE}(q:OKs x a)(d:a.length<=4096):M5 (x,a)=some (a.foldl upd x,0):=by
 suffices t:Ap (M5 (x,a)) λr=>r=(a.foldl upd x,0) by obtain⟨r,hr,rfl⟩:=t;exact hr
 generalize v:a.foldl upd x=y;refine AA (P:=λr=> ∃z,r= .inr (y,z)) ?_ λr hr=>?_
 ·refine Ce (λ(s:Int×AT×AT)=> ∃A B,a=A++B/\s.1=A.length/\OKs s.2.1 B/\B.foldl upd s.2.1=y) (λ(s:Int×AT×AT)=>((a.length:Int)-s.1).toNat) ⟨[],a,rfl,rfl,q,v⟩ ?_;rintro⟨i,x,z⟩ ⟨A,B,rfl,g,h,c⟩;dsimp only at g h c;subst g;unfold UW;dsimp[len];rw[Ac]at d;refine AC (λb=>?_) (λb=>Ap.done ?_)
  ·obtain _|⟨e,B⟩:=B;simp at b;have u:ix (A++e::B) (A.length:Int)=some e:=by unfold ix;rw[if_pos o!,CA,Cl (Al _),G5];rfl
   have⟨⟨j,f,k,l,m,n⟩,o⟩:=h;have p:e.2.2.2.2.1<e.1:=f.2.2.2.2.2.1;rw[u,AD,decide_eq_false o!,cond_false,AD,ABi j f k l m n,AD,AY (x:=(A.length:Int)+1)];refine AL (λb=>absurd rfl b) (λ_=>Ap.next ⟨A++[e],B,q!,q!,o,c⟩ d!)
  obtain _|⟨e,B⟩:=B;exact⟨z,by rw[<-c];rfl⟩;simp at b;omega
 grind[Ax,AB]
def ADy{n}{L}{a}{l}{p:Int}{j k:Nat}(t:LI n L)(b:ID L)(h:AR L a)(f:Qk L l)(e:j<=k)(v:k<=U L)(m:0<=p/\p<a.2.1)(d:p<64):Ap (RN (st (L.take j) p,a,l,(k:Int))) λr=>r.2=0->r.1=st (L.take k) p:=by have i:=f.len;have w:=TJ b p j;have u:=aK (b.take j) p;rw[BQ]at u;refine AA Wl λx o=>AO (λc=>N! (o.2 h.vb) (by simp[c])) (λ_=>AA Bb λy q=>AO (λc=>N! (q.2 f.vl) (by simp[c])) (λ_=>?_));rw[cD ((ZP b ⟨m.1,d⟩ (by omega:U L<=1099511627776)) j),AD];refine AL (N! rfl ·) (λ_=>?_);dsimp only;rw[Kb,VQ,F! o!,A!];refine AA (AIZ b h f o!) λz s=>AL (λc=>AB λg=>N! g c) (λg=>?_);rw[s g,show Be (L.take j) p=(((Be (L.take j) p).toNat:Nat):Int) by omega,yj b o!,lZ b (j:=j) o! (WZ b),ADz (ux b t ⟨m.1,d⟩ o! j k e) (by have:=EM (cC p) ((L.take k).drop j);rw[DB,BQ]at this;omega),<-iW e,AD];exact AB λ_=>rfl
end Go.Pm
