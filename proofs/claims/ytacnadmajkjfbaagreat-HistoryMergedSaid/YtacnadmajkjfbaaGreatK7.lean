/- What these functions answer, part 7. Texts of the folder wip, laid in few files with shorter names by a program (wip/tools/pack.py); nothing is assumed. -/
import Derived.Test.YtacnadmajkjfbaaGreatK6
noncomputable section
set_option linter.unusedVariables false
set_option linter.unusedSimpArgs false
set_option linter.unusedSectionVars false
set_option linter.defProp false
namespace Go.Pm
open Go Go.Ab
def Ux{l:List EN}:(l.map (·.1)).Nodup-> ∀{a b:EN},a∈l->b∈l->a.1=b.1->a=b:=by
 induction l with
 |nil=>intro _ a b d;cases d
 |cons p r f=>
  intro e a b d c h;rw[BE,FF]at e;rcases Al.1 d with d|d
  ·rcases Al.1 c with c|c
   ·rw[d,c]
   ·exact absurd (by rw[<-d,h];exact Ny c) e.1
  ·rcases Al.1 c with c|c
   ·exact absurd (by rw[<-c,<-h];exact Ny d) e.1
   ·exact f e.2 d c h
def y8{B:Nat}(i:CP B){l:List EN}(h:l.length<=B)(t:l.length<=16777216)(hn:(l.map (·.1)).Nodup):A2 (mV Cd l) λr=>r.Perm l/\r.Pairwise λa b=>a.1<b.1:=by
 have key: ∀m,l.Perm m-> ∃r,Cd m ()=some r/\r.Perm l/\r.Pairwise λa b=>a.1<=b.1:=λm e=>by obtain⟨r,d,c,g⟩:=zS i (l:=m) (by rw[<-e.length_eq];exact h) (by rw[<-e.length_eq];exact t);exact⟨r,d,c.trans e.symm,g⟩
 have uniq: ∀r s:List EN,r.Perm l->s.Perm l->(r.Pairwise λa b=>a.1<=b.1)->(s.Pairwise λa b=>a.1<=b.1)->r=s:=λr s hr j u v=>by refine nK (le:=λa b=>a.1<=b.1) ?_ u v (hr.trans j.symm);intro a b p q d c;exact Ux hn (hr.subset p) (j.subset q) (by omega)
 obtain⟨r,d,c,g⟩:=key l (List.Perm.refl l);refine⟨r,?_,c,?_⟩
 ·unfold mV;rw[if_pos]
  ·exact d
  ·intro m e;obtain⟨s,k,n,o⟩:=key m e;rw[k,d,uniq s r n c o g]
 ·have f:(r.map (·.1)).Nodup:=(c.map (·.1)).nodup_iff.2 hn;rw[Nz,Q3]at f;exact(g.and f).imp λh=>by omega
def nq: ∀(n:Nat) (i:Int) (l:List Int),l.Nodup->(∀x∈l,i<x/\x<=i+n)->l.length<=n
 |0,i,l,_,h=>by
  cases l with
  |nil=>exact Aj _
  |cons a r=>have:=h a (Al.2 (.inl rfl));omega
 |n+1,i,l,hl,h=>by
  have d:=nq n i (l.erase (i+(n+1:Nat))) (hl.erase _) λx c=>by have b:=(hl.mem_erase_iff).1 c;have:=h x b.2;have:=b.1;omega
  have e:l.length<=(l.erase (i+(n+1:Nat))).length+1:=by rw[List.length_erase];split<;>omega
  omega
def fC(i:Int)(s:List EN):Prop:= ∀(k:Nat) (e:EN),s[k]? =some e->(k=0->e.2.2.2.2.1<=i)/\ ∀f,0<k->s[k-1]? =some f->e.2.2.2.2.1=f.1
def ABX{a:AL}{l:Am}{p i j:Int}{s:List EN}(O:s.length≤16777216):
  A2 (Ae (OW (a,(l,(p,(i,j)))) s) (0,([],0))) λr=>(r= .inl ([],0)/\fC i s)\/(r= .inr ([],13)/\ ¬fC i s):=by
 refine AM (λ(t:Int×(List EN×Int))=>0<=t.1/\t.1<=s.length/\t.2=([],0)/\ ∀(k:Nat) (e:EN),k<t.1->s[k]? =some e->(k=0->e.2.2.2.2.1<=i)/\ ∀f,0<k->s[k-1]? =some f->e.2.2.2.2.1=f.1) (λt=>((s.length:Int)-t.1).toNat)
  ⟨Ah _,by dsimp only;omega,rfl,λk e F=>(by dsimp only at F;omega)⟩ (λt K=>?_)
 obtain⟨b,P⟩:=t;obtain⟨C,L,G,D⟩:=K;dsimp only at C L G D;subst G;unfold OW;dsimp only;refine AC (λn=>?_) (λn=>AA (.inl ⟨rfl,λk e d=>D k e ?_ d⟩))
 ·simp only[len]at n;have I:=AY (x:=b+1) (by omega);rw[I];refine AB (AD C n) λM _=>?_;refine AB (AD C n) λv h=>?_;have o:((b=0->v.2.2.2.2.1<=i)/\ ∀f,0<b->s[b.toNat-1]? =some f->v.2.2.2.2.1=f.1)->(0<=b+1/\b+1<=s.length/\(([],0):List EN×Int)=([],0)/\ ∀(k:Nat) (e:EN),k<b+1->s[k]? =some e->(k=0->e.2.2.2.2.1<=i)/\ ∀f,0<k->s[k-1]? =some f->e.2.2.2.2.1=f.1)/\((s.length:Int)-(b+1)).toNat<((s.length:Int)-b).toNat:=λE=>by
   refine⟨⟨by omega,by omega,rfl,λk e F d=>?_⟩,by omega⟩;by_cases B:(k:Int)<b
   ·exact D k e B d
   ·have H:k=b.toNat:=by omega
    subst H;rw[h.1]at d;injection d with d;subst d;exact⟨λy=>E.1 (by omega),λf y g=>E.2 f (by omega) g⟩
  apply AS<;>intro y
  ·refine AC (λu=>AA (.inr ⟨rfl,λA=>?_⟩)) (λu=>?_)
   ·have:=(A b.toNat v h.1).1 (by omega);omega
   ·refine AC (λm=>absurd m (by omega)) (λ_=>AA (o ⟨λ_=>by omega,λf g=>absurd g (by omega)⟩))
  ·refine AC (λu=>?_) (λu=>absurd u (by omega));have w:=AY (x:=b-1) (by omega);rw[w];refine AB (AD (by omega) (by omega)) λN _=>?_;refine AB (AD (by omega) (by omega)) λq z=>?_;have c:s[b.toNat-1]? =some q:=by rw[show b.toNat-1=(b-1).toNat by omega];exact z.1
   refine AK (λm=>AA (.inr ⟨rfl,λA=>m ((A b.toNat v h.1).2 q (by omega) c)⟩)) (λm=>AA (o ⟨λJ=>absurd J y,λf _ g=>?_⟩));rw[c]at g;injection g with g;rw[<-g];exact m
 ·simp only[len]at n;have:=(Pf.1 d).1;omega
def ABa{a:AL}{l:Am}{p i j:Int}{s:List EN}(b:s.length≤16777216):
  A2 (Ae (OW (a,(l,(p,(i,j)))) s) (0,([],0))) λr=>(r= .inl ([],0)/\fC i s)\/(r= .inr ([],13)/\ ¬fC i s):=ABX b
def Sc(l:Am)(low:Int)(rs:List AU):List (Int×Int):=(l.1,l.1+l.2.1.length-1)::(rs.filter λr=>r.2.2.1==low).map λr=>(r.1,r.2.1)
def xX{a:AL}{l:Am}{p:Int}{e:Int×(Int×Bool)}{b:List AU}{d:List Int}(B:D3 l)(m:FU (a,p)=some e)(C:e.2.2=true)(n:Gz a=some (b,d))(u:b.length=d.length)(q:b.length≤256):
  JI (a,(l,p))=some (Sc l e.1 b):=by
 obtain⟨G,y,z⟩:=ZI B;unfold JI;dsimp only;rw[y,AJ,m,AJ,C,D9,cond_false,n,AJ,z];have g:A2 (Ae (OA e (b,d)) (0,([(l.1,l.1+l.2.1.length-1)]:List (Int×Int)))) λr=>r=Sc l e.1 b:=by
  refine AM (λ(t:Int×List (Int×Int))=>0<=t.1/\t.1<=b.length/\t.2.length<=t.1.toNat+1/\t.2=Sc l e.1 (b.take t.1.toNat)) (λt=>((b.length:Int)-t.1).toNat) ⟨Ah _,by dsimp only;omega,by simp,rfl⟩ (λt A=>?_);obtain⟨i,F⟩:=t;obtain⟨o,D,E,k⟩:=A;dsimp only at o D E k;unfold OA;dsimp only;refine AC (λj=>?_) (λj=>AA ?_)
  ·simp only[len]at j;have w:=AY (x:=i+1) (by omega);rw[w];refine AB (AD o j) λv h=>?_;have f:b.take (i+1).toNat=b.take i.toNat++[v]:=by rw[show(i+1).toNat=i.toNat+1 by omega,Ff,h.1];rfl
   refine AE (λc=>?_) (λc=>AA ⟨⟨by dsimp only;omega,by dsimp only;omega,by dsimp only;omega,?_⟩,by dsimp only;omega⟩)
   ·refine AB (AD o (by omega)) λH _=>?_;refine AB (Ac (by simp only[BC,BH];omega)) λI s=>AA ⟨⟨by dsimp only;omega,by dsimp only;omega,?_,?_⟩,by dsimp only;omega⟩
    ·have:=s.2.1;simp only[BC,BH]at this;dsimp only;omega
    ·dsimp only;rw[s.1,k,f];unfold Sc;rw[LN,HU,il (by exact c)];rfl
   ·dsimp only;rw[k,f];unfold Sc;rw[LN,ik (by rw[c];decide)];simp
  ·simp only[len]at j;rw[k,Dq (by omega)]
 obtain⟨r,q1,q2⟩:=g;rw[q1,AJ,q2]
def iC{l:List EN}:(l.map (·.1)).Nodup->l.Nodup:=by
 induction l with
 |nil=>intro _;exact PG
 |cons p r b=>intro a;rw[BE,FF]at a;exact FF.2 ⟨λh=>a.1 (Ny h),b a.2⟩
def D3.nodup{l:Am}(h:D3 l):(l.2.1.map (·.1)).Nodup:=by obtain⟨l1,l2,i,j,k,a⟩:=h;rw[Nz,Q3,JE];intro x y b d c g;have e:=(a x _ (Ay b)).1;have f:=(a y _ (Ay d)).1;omega
def D3.has{l:Am}(h:D3 l){e:EN}(a:e∈l.2.1):Ou (l.1,l.1+l.2.1.length-1) e.1=true:=by obtain⟨k,b,a⟩:=PE.1 a;have c:=(h.2.2.2.2.2 k e (by rw[<-a];exact Ay b)).1;unfold Ou;simp only[BM,decide_eq_true_eq];omega
structure ze(l:Am)(low p i j:Int)(rs:List AU):Prop where
 fromLog: ∀f∈JM low rs,Qr p i j f=true->Ou (l.1,l.1+l.2.1.length-1) f.1=true->f∈l.2.1
 inRuns: ∀e∈l.2.1,Qr p i j e=true->((rs.filter λr=>r.2.2.1==low).any λr=>Ou (r.1,r.2.1) e.1)=true->e∈JM low rs
 own: ∀r∈rs,∀f∈r.2.2.2.2.2,Ou (r.1,r.2.1) f.1=true
 once:((JM low rs).map (·.1)).Nodup
def AB3{B:Nat}{a:AL}{l:Am}{p i j R:Int}{c:Int×(Int×Bool)}{b:List AU}{P:List Int}(V:CP B)(hB:B≤16777216)(ap:j-i≤B)(hi:0≤i)(hj:i≤j)
  (h:VB a) (D:D3 l) (hp:0<=p/\p<a.2.1) (L:FU (a,p)=some c) (ht:c.2.2=true) (N:Gz a=some (b,P)) (w:b.length=P.length) (t:b.length<=256)
  (hr: ∀r∈b,r.2.2.2.2.2.length<=4096) (W:G0 (Sc l c.1 b,j)=some R) (z:ze l c.1 p i j b):
  A2 (JZ (a,(l,(p,(i,j))))) λr=>(R>i/\r=([],42))\/(R<=i/\ ∃s:List EN,(s.Pairwise λx y=>x.1<y.1)/\(∀e,e∈s↔(e∈l.2.1\/e∈JM c.1 b)/\Qr p i j e=true)/\((fC i s/\r=(s,0))\/(¬fC i s/\r=([],13)))):=by
 have K:=D.nodup;unfold JZ;dsimp only;refine AB (W3 (x:=(a,(l,(p,i)))) h D ⟨hp.1,hp.2,hi⟩) λv0 h0=>?_;refine AK (λk=>absurd h0 k) (λ_=>?_);refine AC (λk=>absurd k (by omega)) (λ_=>?_);rw[xX D L ht N w t,AJ,W,AJ];refine AC (λhf=>AA (.inl ⟨hf,rfl⟩)) (λhf=>?_);refine AB (ABV D (by simp[Sc]) (by have:=J4 (λr:AU=>r.2.2.1==c.1) b;simp only[Sc,BC,Cm];omega)) λal H=>?_;rw[L,AJ,ht,D9,cond_false,N,AJ];have hP: ∀v∈JM c.1 b,Qr p i j v=true->(Ou (l.1,l.1+l.2.1.length-1) v.1=true->(v∈l.2.1/\Qr p i j v=true))/\ ∀e,((e∈l.2.1/\Qr p i j e=true)\/(e∈JM c.1 b/\Qr p i j e=true))->e.1=v.1->e=v:=λv hv E=>by
  refine⟨λk=>⟨z.fromLog v hv E k,E⟩,λe u A=>?_⟩;rcases u with⟨u,_⟩|⟨u,_⟩
  ·have ad:=z.fromLog v hv E (by rw[<-A];exact D.has u);exact Ux K u ad A
  ·exact Ux z.once u hv A
 apply AB (ABY (sp:=(l.1,l.1+l.2.1.length-1)) rfl H.2 w t hr hP);rintro q ⟨m,n,rfl,o,hn⟩;apply BK;dsimp only;have f:al.1=n:=by
  rw[H.1,hn];refine congrArg Int.ofNat (List.Perm.length_eq ?_)
  refine(fU ((iC K).filter _) ((iC z.once).filter _)).2 λe=>?_;rw[Bi,Bi];simp only[BM];have I:((Sc l c.1 b).tail.any λs=>Ou s e.1)=((b.filter λr=>r.2.2.1==c.1).any λr=>Ou (r.1,r.2.1) e.1):=by unfold Sc;rw[List.tail_cons,List.any_map];rfl
  rw[I];constructor
  ·rintro⟨F,G,S⟩;exact⟨z.inRuns e F G S,G,D.has F⟩
  ·rintro⟨F,G,S⟩;obtain⟨r,M,Y⟩:=HW.1 F;exact⟨z.fromLog e F G S,G,TN.2 ⟨r,M,z.own r (Bi.1 M).1 e Y⟩⟩
 refine AK (λk=>absurd f k) (λ_=>?_);have J: ∀q∈m,Qr p i j q.2=true:=λq d=>by
  have:(q.2.1,q.2)∈m:=by rw[<-o.2.1 q d];exact d
  rcases(o.2.2 q.2).1 this with g|g
  ·exact g.2
  ·exact g.2
 have X:m.length<=B:=by
  have:=nq (j-i).toNat i (m.map (·.1)) o.1 λx hx=>by obtain⟨q,d,rfl⟩:=BX.1 hx;have E:=J q d;have hk:=o.2.1 q d;unfold Qr at E;simp only[BM,decide_eq_true_eq]at E;omega
  rw[Cm]at this;omega
 refine AC (λ_=>?_) (λk=>absurd k (by show¬ ¬((m.length:Int)<=16777216);omega));have C:((m.map (·.2)).map (·.1))=m.map (·.1):=by rw[HV];exact Fe λq d=>(o.2.1 q d).symm
 refine AB (y8 V (l:=m.map (·.2)) (by rw[Cm];exact X) (by rw[Cm];omega) (by rw[C];exact o.1)) λs Q=>?_;have Z:s.length=m.length:=by rw[Q.1.length_eq,Cm]
 have U:Nat.beq (List.length s) (List.length m)=true:=by rw[Z];exact Ds _
 rw[U,cond_true];have O: ∀e,e∈s↔(e∈l.2.1\/e∈JM c.1 b)/\Qr p i j e=true:=λe=>by
  rw[Q.1.mem_iff];constructor
  ·intro u;obtain⟨q,d,rfl⟩:=BX.1 u;have:(q.2.1,q.2)∈m:=by rw[<-o.2.1 q d];exact d
   rcases(o.2.2 q.2).1 this with g|g
   ·exact⟨.inl g.1,g.2⟩
   ·exact⟨.inr g.1,g.2⟩
  ·rintro⟨g,g'⟩;exact BX.2 ⟨(e.1,e),(o.2.2 e).2 (g.imp (λg=>⟨g,g'⟩) (λg=>⟨g,g'⟩)),rfl⟩
 refine AB (ABa (by omega)) λr hr=>?_;rcases hr with⟨rfl,T⟩|⟨rfl,T⟩
 ·exact BK (AA (.inr ⟨by omega,s,Q.2,O,.inl ⟨T,rfl⟩⟩))
 ·exact BG (AA (.inr ⟨by omega,s,Q.2,O,.inr ⟨T,rfl⟩⟩))
def qy{s t:List EN}(c:s.Pairwise λx y=>x.1<y.1)(d:t.Pairwise λx y=>x.1<y.1)(h: ∀e,e∈s↔e∈t):s=t:=by have nd: ∀{u:List EN},(u.Pairwise λx y=>x.1<y.1)->u.Nodup:=λg=>Nz.2 (g.imp λh e=>by rw[e]at h;omega);have f:=(fU (nd c) (nd d)).2 h;exact nK (le:=λa b=>a.1<b.1) (λa b _ _ i j=>by omega) c d f
structure bp(L:List EN)(r:AU):Prop where
 mem: ∀e,e∈r.2.2.2.2.2↔e∈L/\fH e=true/\r.2.2.1<=e.2.2.2.2.2.2.1.1/\e.2.2.2.2.2.2.1.1<=r.2.2.2.1/\r.1<=e.1/\e.1<=r.2.1
 nd:(r.2.2.2.2.2.map (·.1)).Nodup
def vn{L:List EN}{l:Am}{k:List AU}{b p i j:Int}(a: ∀e,e∈l.2.1↔e∈L∧l.1≤e.1∧e.1≤l.1+l.2.1.length-1)(hr: ∀r∈k,bp L r)
  (t: ∀r∈k,r.2.2.1=b->b<=p/\p<=r.2.2.2.1) (h:(k.filter λr=>r.2.2.1==b).Pairwise λr s=>r.2.1<s.1\/s.2.1<r.1):ze l b p i j k where
 fromLog f hf hw hh:=by obtain⟨r,c,g⟩:=HW.1 hf;have d:=((hr r (Bi.1 c).1).mem f).1 g;unfold Ou at hh;simp only[BM,decide_eq_true_eq]at hh;exact(a f).2 ⟨d.1,by omega⟩
 inRuns e o hw ha:=by obtain⟨r,c,g⟩:=TN.1 ha;have d:=Bi.1 c;have q:r.2.2.1=b:=eq_of_beq d.2;have A:=t r d.1 q;unfold Qr at hw;unfold Ou at g;simp only[BM,decide_eq_true_eq,beq_iff_eq]at hw g;exact HW.2 ⟨r,c,((hr r d.1).mem e).2 ⟨((a e).1 o).1,hw.1,by omega⟩⟩
 own r hrr f hf:=by have d:=((hr r hrr).mem f).1 hf;unfold Ou;simp only[BM,decide_eq_true_eq];omega
 once:=by unfold JM;rw[List.map_flatMap,Nz,List.pairwise_flatMap];refine⟨λr c=>Nz.1 (hr r (Bi.1 c).1).nd,?_⟩;refine nJ ?_ h;intro r s c g d x u y v o;obtain⟨e,m,rfl⟩:=BX.1 u;obtain⟨f,n,rfl⟩:=BX.1 v;have w:=((hr r (Bi.1 c).1).mem e).1 m;have z:=((hr s (Bi.1 g).1).mem f).1 n;omega
def pz{L:List EN}{d:List AU}{a p i j:Int}(hr: ∀r∈d,bp L r)(n: ∀r∈d,r.2.2.1=a→a≤p∧p≤r.2.2.2.1){e:EN}(l:Qr p i j e=true):
  e∈JM a d↔e∈L/\ ∃r∈d,r.2.2.1=a/\r.1<=e.1/\e.1<=r.2.1:=by
 unfold Qr at l;simp only[BM,decide_eq_true_eq,beq_iff_eq]at l;constructor
 ·intro h;obtain⟨r,f,b⟩:=HW.1 h;obtain⟨c,k⟩:=Bi.1 f;have g:=((hr r c).mem e).1 b;exact⟨g.1,r,c,eq_of_beq k,g.2.2.2.2.1,g.2.2.2.2.2⟩
 ·rintro⟨f,r,b,c,k,m⟩;have g:=n r b c;exact HW.2 ⟨r,Bi.2 ⟨b,by simp[c]⟩,((hr r b).mem e).2 ⟨f,l.1,by omega,by omega,k,m⟩⟩
def wH(a:AL)(l:Am)(low n:Int):Prop:=(l.1<=n/\n<=l.1+l.2.1.length-1)\/ ∃e∈E0 a,e.1.2.2.1=low/\e.1.1<=n/\n<=e.1.2.1
def AAB{B:Nat}{a:AL}{l:Am}{L:List EN}{p i j:Int}{c:Int×(Int×Bool)}(J:CP B)(hB:B≤16777216)(M:j-i≤B)(hi:0≤i)(hj:i≤j)(hJ:j≤1099511627776)
  (h:VB a) (hd:DS a) (W:D3 l) (hp:0<=p/\p<a.2.1) (Q:FU (a,p)=some c) (ht:c.2.2=true) (G:L.Pairwise λx y=>x.1<y.1) (b: ∀e,e∈l.2.1↔e∈L/\l.1<=e.1/\e.1<=l.1+l.2.1.length-1)
  (hR: ∀e∈E0 a,bp L e.1) (z:xt (E0 a)) (P: ∀e∈E0 a,e.1.2.2.1=c.1->c.1<=p/\p<=e.1.2.2.2.1):
  ∃o,(0<=o/\o<=j/\(∀n,o<n->n<=j->wH a l c.1 n)/\(o=0\/ ¬wH a l c.1 o))/\A2 (JZ (a,(l,(p,(i,j))))) λr=>(o>i/\r=([],42))\/(o<=i/\((fC i (L.filter (Qr p i j))/\r=(L.filter (Qr p i j),0))\/(¬fC i (L.filter (Qr p i j))/\r=([],13)))):=by
 obtain⟨q,S,v,E,w2,rfl,w4,X⟩:=AAI h hd (T1 h) z;have m: ∀r∈v.map (·.1),∃e∈E0 a,e.1=r:=λr hr=>by obtain⟨e,d,rfl⟩:=BX.1 hr;exact⟨e,E.mem_iff.1 d,rfl⟩
 have D: ∀r∈v.map (·.1),bp L r:=λr hr=>by obtain⟨e,d,rfl⟩:=m r hr;exact hR e d
 have C: ∀r∈v.map (·.1),r.2.2.1=c.1->c.1<=p/\p<=r.2.2.2.1:=λr hr=>by obtain⟨e,d,rfl⟩:=m r hr;exact P e d
 have R:((v.map (·.1)).filter λr=>r.2.2.1==c.1).Pairwise λr s=>r.2.1<s.1\/s.2.1<r.1:=by rw[List.filter_map,Q3];have O:v.Pairwise λx y=>x≠y:=Nz.1 (E.nodup_iff.2 (T1 h));refine nJ ?_ (O.filter _);intro x y hx hy N;obtain⟨x1,x2⟩:=Bi.1 hx;obtain⟨T,U⟩:=Bi.1 hy;exact z x (E.mem_iff.1 x1) y (E.mem_iff.1 T) N ((eq_of_beq x2).trans (eq_of_beq U).symm)
 have ad:(Sc l c.1 (v.map (·.1))).length<=257:=by have:=J4 (λr:AU=>r.2.2.1==c.1) (v.map (·.1));rw[Cm]at this;simp only[Sc,BC,Cm];omega
 have H:SpL (Sc l c.1 (v.map (·.1))):=by
  refine⟨by omega,λs f=>?_⟩;rcases Al.1 f with f|f
  ·rw[f];exact W.1
  ·obtain⟨r,hr,rfl⟩:=BX.1 f;obtain⟨e,d,rfl⟩:=BX.1 (Bi.1 hr).1;exact(X e d).1
 have k: ∀n,pp (Sc l c.1 (v.map (·.1))) n↔wH a l c.1 n:=λn=>by
  constructor
  ·rintro⟨s,f,t,w⟩;rcases Al.1 f with f|f
   ·rw[f]at t w;exact .inl ⟨t,w⟩
   ·obtain⟨r,hr,rfl⟩:=BX.1 f;obtain⟨g1,F⟩:=Bi.1 hr;obtain⟨e,d,rfl⟩:=m r g1;exact .inr ⟨e,d,eq_of_beq F,t,w⟩
  ·rintro(⟨t,w⟩|⟨e,d,h0,t,w⟩)
   ·exact⟨_,Al.2 (.inl rfl),t,w⟩
   ·exact⟨(e.1.1,e.1.2.1),Al.2 (.inr (BX.2 ⟨e.1,Bi.2 ⟨Ny (E.mem_iff.2 d),by simp[h0]⟩,rfl⟩)),t,w⟩
 obtain⟨o,K,Y,Z,V,f4⟩:=rq H (u:=j) (by omega) hJ;refine⟨o,⟨Y,Z,λn t w=>(k n).1 (V n t w),f4.imp id λhh I=>hh ((k o).2 I)⟩,?_⟩;refine(AB3 J hB M hi hj h W hp Q ht S (by rw[Cm,Cm]) (by rw[Cm];exact w4) (λr hr=>?_) K (vn b D C R)).mono λr hr=>?_
 ·obtain⟨e,d,rfl⟩:=BX.1 hr;exact(X e d).2.2.2.2.2.2.2.2
 ·rcases hr with hr|⟨hr,s,s1,s2,s3⟩
  ·exact .inl hr
  ·refine .inr ⟨hr,?_⟩;have f:s=L.filter (Qr p i j):=qy s1 (G.filter _) λe=>by
    rw[s2,Bi];constructor
    ·rintro⟨g|g,A⟩
     ·exact⟨((b e).1 g).1,A⟩
     ·exact⟨((pz D C A).1 g).1,A⟩
    ·rintro⟨g,A⟩;refine⟨?_,A⟩;have F:=A;unfold Qr at F;simp only[BM,decide_eq_true_eq]at F;rcases(k e.1).1 (V e.1 (by omega) (by omega))with I|⟨y,T,U,y3,y4⟩
     ·exact .inl ((b e).2 ⟨g,I⟩)
     ·exact .inr ((pz D C A).2 ⟨g,y.1,Ny (E.mem_iff.2 T),U,y3,y4⟩)
   rw[<-f];exact s3
def BD.lt{n:Int}{l:List Int}(h:BD n l): ∀(d i:Nat) (x y:Int),l[i]? =some x->l[i+1+d]? =some y->x<y
 |0,i,x,y,hx,hy=>by have:=JD hy;exact h.2.2.2.2.2.1 i x y (by omega) hx hy
 |d+1,i,x,y,hx,hy=>by have e:=JD hy;have a:l[i+1+d]? =some (l[i+1+d]'(by omega)):=Ay (by omega);have b:=BD.lt h d i x _ hx a;have c:=h.2.2.2.2.2.1 (i+1+d) _ y (by omega) a (by grind);omega
def BD.le{n:Int}{l:List Int}(h:BD n l){i j:Nat}{x y:Int}(a:i<=j)(b:l[i]? =some x)(c:l[j]? =some y):x<=y:=by
 by_cases e:i=j
 ·grind
 ·obtain⟨d,rfl⟩: ∃d,j=i+1+d:=⟨j-(i+1),by omega⟩
  have:=h.lt d i x y b c;omega
def BD.mem{n:Int}{l:List Int}(h:BD n l){i:Nat}{x:Int}(a:l[i]? =some x):0<=x/\x<n:=by have f:=JD a;have b:l[l.length-1]? =some (l[l.length-1]'(by omega)):=Ay (by omega);have c:=h.le (Cc i) h.2.2.2.2.1 a;have d:=h.le (by omega:i<=l.length-1) a b;have e:=h.2.2.2.2.2.2 _ b;omega
def BD.inj{n:Int}{l:List Int}(h:BD n l){i j:Nat}{x:Int}(b:l[i]? =some x)(c:l[j]? =some x):i=j:=by
 rcases Q7 i j with a|a|a
 ·obtain⟨d,rfl⟩: ∃d,j=i+1+d:=⟨j-(i+1),by omega⟩
  have:=h.lt d i x x b c;omega
 ·exact a
 ·obtain⟨d,rfl⟩: ∃d,i=j+1+d:=⟨i-(j+1),by omega⟩
  have:=h.lt d j x x c b;omega
def mo(a:AL)(i:Nat):Int:=match a.1[i+1]? with
 |some h=>h-1
 |none=>a.2.1-1
def Kx(a:AL)(lo hi:Int):Prop:= ∃i:Nat,a.1[i]? =some lo/\hi=mo a i
def wW{a:AL}(h:BD a.2.1 a.1){i:Nat}(d:i<a.1.length):(∀w,a.1[i+1]? =some w->wi (w-1)=mo a i)/\(a.1.length<=i+1->wi (a.2.1-1)=mo a i):=by
 refine⟨λw b=>?_,λc=>?_⟩
 ·have:=h.mem b;have:=h.2.1;unfold mo;rw[b,AY (by omega)]
 ·have:=h.1;have:=h.2.1;unfold mo;rw[BP c,AY (by omega)]
def pW{a:AL}(h:BD a.2.1 a.1){i:Nat}{b:Int}(c:a.1[i]? =some b):Fp (a,(i:Int))=some (b,mo a i):=by
 have f:=JD c;have d:=h.2.2.2.1;obtain⟨l,m⟩:=wW h f;have j:ix a.1 (i:Int)=some b:=by unfold ix;rw[if_pos (by omega),Int.toNat_natCast,c]
 unfold Fp;rw[AY (x:=(i:Int)+1) (by omega),j];by_cases e:i+1<a.1.length
 ·have g:=Ay e;have k:ix a.1 ((i:Int)+1)=some a.1[i+1]:=by unfold ix;rw[if_pos (by omega),show((i:Int)+1).toNat=i+1 by omega,g]
  grind
 ·grind
def pb{a:AL}(h:BD a.2.1 a.1){i:Nat}{b:Int}(c:a.1[i]? =some b):JG (a,(i:Int))=some (b,mo a i):=by
 have f:=JD c;have d:=h.2.2.2.1;obtain⟨l,m⟩:=wW h f;have j:ix a.1 (i:Int)=some b:=by unfold ix;rw[if_pos (by omega),Int.toNat_natCast,c]
 unfold JG;rw[AY (x:=(i:Int)+1) (by omega),j];by_cases e:i+1<a.1.length
 ·have g:=Ay e;have k:ix a.1 ((i:Int)+1)=some a.1[i+1]:=by unfold ix;rw[if_pos (by omega),show((i:Int)+1).toNat=i+1 by omega,g]
  grind
 ·grind
def ql{a:AL}{r:AU}(h:BD a.2.1 a.1):A2 (Ge (a,r)) λk=>0<=k↔Kx a r.2.2.1 r.2.2.2.1:=by
 have j:=h.2.2.2.1;refine AB (P:=λq=>(∃k:Int,q= .inl k/\0<=k/\Kx a r.2.2.1 r.2.2.2.1)\/(q= .inr ()/\ ¬Kx a r.2.2.1 r.2.2.2.1)) ?_ λq p=>?_
 ·refine Oc (λ(s:Int)=>0<=s/\s<=a.1.length/\ ∀i:Nat,(i:Int)<s-> ¬(a.1[i]? =some r.2.2.1/\r.2.2.2.1=mo a i)) (λs=>((a.1.length:Int)-s).toNat) ⟨Ah _,by omega,λi n=>by omega⟩ (λs l=>?_);obtain⟨f,v,w⟩:=l;unfold JJ;dsimp only[len];refine AC (λm=>?_) (λm=>A2.done (.inr ⟨rfl,?_⟩))
  ·obtain⟨k,rfl⟩:=Er f;have o:a.1[k]? =some (a.1[k]'(by omega)):=Ay (by omega);rw[pW h o,AJ,AY (by omega)];have g: ¬(a.1[k]? =some r.2.2.1/\r.2.2.2.1=mo a k)->A2 (some (Step.next ((k:Int)+1)):Option (Step Int (Int ⊕ Unit))) (ck (λ(s:Int)=>0<=s/\s<=a.1.length/\ ∀i:Nat,(i:Int)<s-> ¬(a.1[i]? =some r.2.2.1/\r.2.2.2.1=mo a i)) (λs=>((a.1.length:Int)-s).toNat) ((a.1.length:Int)-(k:Int)).toNat λq=>(∃k:Int,q= .inl k/\0<=k/\Kx a r.2.2.1 r.2.2.2.1)\/(q= .inr ()/\ ¬Kx a r.2.2.1 r.2.2.2.1)):=λhn=>by
    refine A2.next ⟨by omega,by omega,λi n=>?_⟩ (by omega)
    grind
   refine AS (λb=>?_) (λb=>g λe=>b ?_)
   ·refine AS (λc=>A2.done (.inl ⟨_,rfl,f,k,?_,?_⟩)) (λc=>g λe=>c e.2.symm)
    ·grind
    ·grind
   ·grind
  ·rintro⟨i,t,u⟩;grind
 ·rcases p with⟨k,rfl,b,c⟩|⟨rfl,b⟩
  ·exact BK (AA ⟨λ_=>c,λ_=>b⟩)
  ·exact BG (AA ⟨λd=>absurd d (by decide),λd=>absurd d b⟩)
def wx{a:AL}{r:AU}(h:BD a.2.1 a.1):A2 (LZ (a,r)) λk=>0<=k↔Kx a r.2.2.1 r.2.2.2.1:=by
 have j:=h.2.2.2.1;refine AB (P:=λq=>(∃k:Int,q= .inl k/\0<=k/\Kx a r.2.2.1 r.2.2.2.1)\/(q= .inr ()/\ ¬Kx a r.2.2.1 r.2.2.2.1)) ?_ λq p=>?_
 ·refine Oc (λ(s:Int)=>0<=s/\s<=a.1.length/\ ∀i:Nat,(i:Int)<s-> ¬(a.1[i]? =some r.2.2.1/\r.2.2.2.1=mo a i)) (λs=>((a.1.length:Int)-s).toNat) ⟨Ah _,by omega,λi n=>by omega⟩ (λs l=>?_);obtain⟨f,v,w⟩:=l;unfold PO;dsimp only[len];refine AC (λm=>?_) (λm=>A2.done (.inr ⟨rfl,?_⟩))
  ·obtain⟨k,rfl⟩:=Er f;have o:a.1[k]? =some (a.1[k]'(by omega)):=Ay (by omega);rw[pb h o,AJ,AY (by omega)];have g: ¬(a.1[k]? =some r.2.2.1/\r.2.2.2.1=mo a k)->A2 (some (Step.next ((k:Int)+1)):Option (Step Int (Int ⊕ Unit))) (ck (λ(s:Int)=>0<=s/\s<=a.1.length/\ ∀i:Nat,(i:Int)<s-> ¬(a.1[i]? =some r.2.2.1/\r.2.2.2.1=mo a i)) (λs=>((a.1.length:Int)-s).toNat) ((a.1.length:Int)-(k:Int)).toNat λq=>(∃k:Int,q= .inl k/\0<=k/\Kx a r.2.2.1 r.2.2.2.1)\/(q= .inr ()/\ ¬Kx a r.2.2.1 r.2.2.2.1)):=λhn=>by
    refine A2.next ⟨by omega,by omega,λi n=>?_⟩ (by omega)
    grind
   refine AS (λb=>?_) (λb=>g λe=>b ?_)
   ·refine AS (λc=>A2.done (.inl ⟨_,rfl,f,k,?_,?_⟩)) (λc=>g λe=>c e.2.symm)
    ·grind
    ·grind
   ·grind
  ·rintro⟨i,t,u⟩;grind
 ·rcases p with⟨k,rfl,b,c⟩|⟨rfl,b⟩
  ·exact BK (AA ⟨λ_=>c,λ_=>b⟩)
  ·exact BG (AA ⟨λd=>absurd d (by decide),λd=>absurd d b⟩)
def Good(a:AL)(f:BQ)(r:AU):Prop:=f.1=1/\f.2.2=MJ r/\VR r/\Kx a r.2.2.1 r.2.2.2.1
def z0(f:BQ):Prop:=f.2.2.length<=1099511627776/\ ∀r,WR r->f.2.2≠MJ r
def Good.intact{a:AL}{f:BQ}{r:AU}(h:Good a f r)(e:BD a.2.1 a.1):Gk (a,f)=some (r,true):=by obtain⟨b,c,d,g⟩:=h;obtain⟨k,k1,i⟩:=wx (r:=r) e;unfold Gk;rw[b,c,bne_self_eq_false,cond_false,AAo d,AJ,show(((r,(0:Int)):AU×Int).2==0)=true from rfl,cond_true];grind
def Good.intR{a:AL}{f:BQ}{r:AU}(h:Good a f r)(b:BD a.2.1 a.1):intR a f=some (r,f.2.1):=by unfold Go.Pm.intR;rw[h.intact b]
def Good.ref{a:AL}{f:BQ}{r:AU}(h:Good a f r)(g:BD a.2.1 a.1): ∃k,Dv (a,f)=some (r,k)/\0<=k:=by obtain⟨b,c,d,e⟩:=h;obtain⟨k,k1,i⟩:=ql (r:=r) g;refine⟨k,?_,i.2 e⟩;unfold Dv;rw[b,c,bne_self_eq_false,cond_false,sW d,AJ,show(((r,(0:Int)):AU×Int).2 !=0)=false from rfl,cond_false];grind
def z0.intR{a:AL}{f:BQ}(h:z0 f)(e:BD a.2.1 a.1):intR a f=none:=by
 have key:A2 (Gk (a,f)) λr=>r.2=false:=by exact AK (λ_=>AA rfl) (λ_=>AB (AAp h.1) λv b=>AS (λc=>absurd (b c).1 (h.2 _ (b c).2)) (λ_=>AA rfl))
 obtain⟨⟨r,o⟩,k1,d⟩:=key;subst d;unfold Go.Pm.intR;rw[k1]
def z0.ref{a:AL}{f:BQ}(h:z0 f): ∃r,Dv (a,f)=some (r,-1):=by
 have key:A2 (Dv (a,f)) λr=>r.2= -1:=by exact AK (λ_=>AA rfl) (λ_=>AB (AAy h.1) λv b=>AK (λ_=>AA rfl) (λc=>absurd (b c).1 (h.2 _ (b c).2.wr)))
 obtain⟨⟨r,o⟩,k1,d⟩:=key;grind
def wN{x y:AU}(b:VR x)(c:VR y)(h:MJ x=MJ y):x=y:=by have a:=sW b;rw[h,sW c]at a;injection a with a;exact(fe.1 a).1.symm
structure AR(L:List EN)(a:AL):Prop where
 vb:VB a
 files: ∀f∈a.2.2.1,z0 f\/ ∃r,Good a f r/\bp L r/\r.2.1<a.2.2.2.1
 dis:xt (E0 a)
def AG(a:AL):Prop:= ∀f∈a.2.2.1,∃r,Good a f r
def RC(a:AL)(c:Nat):Prop:= ∀lo,((E0 a).filter λe=>e.1.2.2.1==lo).length<=c
def eQ{b:Type}: ∀(l m:List b),l.Nodup->(∀x∈l,x∈m)->l.length<=m.length
 |[],m,_,_=>Cc _
 |a::l,m,hn,hs=>by
  obtain⟨s,t,rfl⟩:=List.append_of_mem (hs a (Al.2 (.inl rfl)));rw[FF]at hn;have:=eQ l (s++t) hn.2 λx c=>by grind
  grind
def AR.mem{L:List EN}{a:AL}(h:AR L a){e:NE}(g:e∈E0 a): ∃f∈a.2.2.1,Good a f e.1/\e.2=f.2.1/\bp L e.1/\e.1.2.1<a.2.2.2.1:=by
 obtain⟨f,i,b⟩:=Nx.1 g;rcases h.files f i with d|⟨r,c,j,k⟩
 ·rw[d.intR h.vb.1]at b;cases b
 ·rw[c.intR h.vb.1]at b;grind
def U8{a:AL}(b:BD a.2.1 a.1){f:BQ}{r:AU}(c:f∈a.2.2.1)(h:Good a f r):(r,f.2.1)∈E0 a:=by exact Nx.2 ⟨f,c,h.intR b⟩
def Good.size{a:AL}{f:BQ}{r:AU}(h:Good a f r):f.2.2.length<=34406441:=by rw[h.2.1];exact h.2.2.1.len
def AR.sa{L:List EN}{a:AL}(h:AR L a):SA a:=by
 obtain⟨⟨g,i,j,b,k,l,m⟩,a1,a2,a3,a4,a5,a6⟩:=h.vb;refine⟨b,by omega,λf e=>?_⟩;rcases h.files f e with d|⟨r,c,_⟩
 ·exact d.1
 ·have:=c.size;omega
def AR.ds{L:List EN}{a:AL}(h:AR L a):DS a:=λf b=>by have:=h.sa.2.2 f b;omega
def Kx.uniq{a:AL}(e:BD a.2.1 a.1){d b c:Int}(p:Kx a d b)(q:Kx a d c):b=c:=by obtain⟨i,f,g⟩:=p;obtain⟨j,h,k⟩:=q;have:=e.inj f h;subst this;rw[g,k]
def rL{l:List EN}{e:EN}(h:l.length<=16777000):A2 (FN (l,e)) λr=>r.1.length<=l.length+1/\((∀y,y∈r.1↔y∈l\/y=e)\/(r.1=l/\ ∃z∈l,z.1=e.1)):=by
 unfold FN;refine AB (O3 (x:=(l,e)) ⟨Ah _,by omega,by dsimp only;omega⟩) λp b=>?_;dsimp only at b⊢;have a:A2 (Option.bind (Zm l 0 p) λk=>
  Option.bind (Zm l p (len l)) λm=>
  Option.bind (Fg [] k) λn=>
  Option.bind (Fg n ([e]:List (Int×(Int×(Int×(Int×(Int×(Int×((Int×(Int×((Bool×Bf)×(Bool×Bf))))×Bf))))))))) λB=>
  Option.bind (Fg B m) λC=>
  some (C,true)) λr=>r.1.length<=l.length+1/\((∀y,y∈r.1↔y∈l\/y=e)\/(r.1=l/\ ∃z∈l,z.1=e.1)):=by
  refine AB (B0 (Ah _) b.1 b.2) λw d=>?_;refine AB (B0 b.1 (by simp only[len];omega) (by simp only[len];omega)) λA f=>?_;have I:=d.2;have t:=f.2;simp only[len]at t;refine AB (Ac (by simp;omega)) λk g=>?_;have u:=g.2.1;simp only[BH]at u;refine AB (Ac (by simp;omega)) λm i=>?_;have v:=i.2.1;simp only[BH,BC]at v;refine AB (Ac (by omega)) λn j=>AA ?_;have J:=j.2.1;refine⟨by dsimp only;omega,.inl λy=>?_⟩;have o:w=l.take p.toNat:=by rw[d.1];simp
  have q:A=l.drop p.toNat:=by rw[f.1];exact Dq (by rw[Fc];simp only[len];omega)
  dsimp only;rw[j.1,i.1,g.1,o,q,CA];conv=>rhs;rw[<-FG p.toNat l]
  simp only[Ar,A5];constructor
  ·rintro((h|h)|h)
   ·exact .inl (.inl h)
   ·exact .inr h
   ·exact .inl (.inr h)
  ·rintro((h|h)|h)
   ·exact .inl (.inl h)
   ·exact .inr h
   ·exact .inl (.inr h)
 refine AC (λs=>?_) (λ_=>a);simp only[len]at s;refine AB (AD b.1 s) λD H=>?_;obtain⟨c,E,K,F⟩:=zj D e;rw[E,AJ];refine AS (λG=>?_) (λ_=>a);exact AB (AD b.1 s) λL _=>AA ⟨by dsimp only;omega,.inr ⟨rfl,D,H.2,(F.1 G).2⟩⟩
def Uq(L:List EN):Prop:= ∀x∈L,∀y∈L,x.1=y.1->x=y
def pV{L l:List EN}{e:EN}(c:Uq L)(f: ∀x∈l,x∈L)(d:e∈L)(h:l.length<=16777000):A2 (FN (l,e)) λr=>r.1.length<=l.length+1/\ ∀y,y∈r.1↔y∈l\/y=e:=by
 refine(rL h).mono λr hr=>⟨hr.1,?_⟩
 rcases hr.2 with hr|⟨b,z,a,i⟩
 ·exact hr
 ·have:=c z (f z a) e d i;subst this;intro y;rw[b];exact⟨.inl,λg=>g.elim id λh=>h▸a⟩
def VR.sorted{r:AU}(h:VR r):r.2.2.2.2.2.Pairwise sH:=by
 rw[JE];have step: ∀d i:Nat,∀(a:i<r.2.2.2.2.2.length) (b:i+1+d<r.2.2.2.2.2.length),sH r.2.2.2.2.2[i] r.2.2.2.2.2[i+1+d]:=by
  intro d;induction d with
  |zero=>intro i a b;exact((h.2 (i+1) _ (Ay b)).2.2 _ (by omega) (Ay a)).1
  |succ d k=>intro i a b;have c:=k i a (by omega);have f:=((h.2 (i+1+(d+1)) _ (Ay b)).2.2 _ (by omega) (Ay (by omega:i+1+d<_))).1;exact uw c f
 intro i j a b g;have:=step (j-(i+1)) i a (by omega);have e:i+1+(j-(i+1))=j:=by omega
 simp only[e]at this;exact this
def VR.nd{L:List EN}{r:AU}(c:Uq L)(h:VR r)(b: ∀e∈r.2.2.2.2.2,e∈L):(r.2.2.2.2.2.map (·.1)).Nodup:=by rw[Nz,Q3];refine h.sorted.imp_of_mem λ{x y} f g a d=>?_;have:=c x (b x f) y (b y g) d;subst this;exact sI _ a
def VR.runOf{L:List EN}{r:AU}(b:Uq L)(h:VR r)(a: ∀e,e∈r.2.2.2.2.2↔e∈L/\fH e=true/\r.2.2.1<=e.2.2.2.2.2.2.1.1/\e.2.2.2.2.2.2.1.1<=r.2.2.2.1/\r.1<=e.1/\e.1<=r.2.1):bp L r:=⟨a,h.nd b λe c=>((a e).1 c).1⟩
def tO{v:EN}:fH v=true↔v.2.1=1\/v.2.1=2:=by unfold fH;simp
def xw{L d:List EN}{F T h g j:Int}(C:Uq L)(B: ∀e∈d,e∈L)(H:d.length≤16777000):
  A2 (Ae (JB (d,(F,(T,(h,(g,j)))))) (false,(0,(F,(T,(h,(g,(j,[])))))))) λr=> ∃a:List EN,r.2=(F,(T,(h,(g,(j,a)))))/\a.length<=d.length/\ ∀y,y∈a↔y∈d/\fH y=true/\h<=y.2.2.2.2.2.2.1.1/\y.2.2.2.2.2.2.1.1<=g/\F<=y.1/\y.1<=T:=by
 refine Oc (λ(s:Bool×(Int×AU))=> ∃(k:Nat) (a:List EN),s.2=((k:Int),(F,(T,(h,(g,(j,a))))))/\k<=d.length/\a.length<=k/\ ∀y,y∈a↔y∈d.take k/\fH y=true/\h<=y.2.2.2.2.2.2.1.1/\y.2.2.2.2.2.2.1.1<=g/\F<=y.1/\y.1<=T) (λs=>d.length-s.2.1.toNat)
  ⟨0,[],rfl,Cc _,Aj _,λy=>by simp⟩ ?_
 rintro⟨M,K⟩ ⟨k,a,rfl,I,J,o⟩;unfold JB;dsimp only;simp only[len];refine AC (λw=>?_) (λw=>A2.done ⟨a,rfl,by omega,by rw[Dq (by omega)]at o;exact o⟩);refine AB (AD (by omega) w) λv n=>?_;have A:=n.1;rw[DP]at A;have m:d.take (k+1)=d.take k++[v]:=by rw[Ff,A];rfl
 rw[AY (by omega)]
 have c: ∀p:Bool,¬(fH v=true∧h≤v.2.2.2.2.2.2.1.1∧v.2.2.2.2.2.2.1.1≤g∧F≤v.1∧v.1≤T)→
   A2 (some (Step.next (p,((k:Int)+1,(F,(T,(h,(g,(j,a)))))))):Option (Step (Bool×(Int×AU)) (Bool×AU))) (ck (λ(s:Bool×(Int×AU))=> ∃(k:Nat) (a:List EN),s.2=((k:Int),(F,(T,(h,(g,(j,a))))))/\k<=d.length/\a.length<=k/\ ∀y,y∈a↔y∈d.take k/\fH y=true/\h<=y.2.2.2.2.2.2.1.1/\y.2.2.2.2.2.2.1.1<=g/\F<=y.1/\y.1<=T) (λs=>d.length-s.2.1.toNat) (d.length-((k:Nat):Int).toNat)
    λr=> ∃a:List EN,r.2=(F,(T,(h,(g,(j,a)))))/\a.length<=d.length/\ ∀y,y∈a↔y∈d/\fH y=true/\h<=y.2.2.2.2.2.2.1.1/\y.2.2.2.2.2.2.1.1<=g/\F<=y.1/\y.1<=T):=λp hn=>by
  refine A2.next ⟨k+1,a,rfl,by omega,by omega,λy=>?_⟩ (by dsimp only;omega)
  rw[o,m,Ar,A5];constructor
  ·rintro⟨f,i⟩;exact⟨.inl f,i⟩
  ·rintro⟨f|f,i⟩
   ·exact⟨f,i⟩
   ·subst f;exact absurd i hn
 refine AB Cf λb u=>?_;refine AO (λz=>c _ λl=>?_) (λD=>?_)
 ·rw[u.2 (tO.1 l.1)]at z;cases z
 have q1:=tO.2 (u.1 D);refine AC (λ_=>c _ λl=>by omega) (λq2=>?_);refine AC (λ_=>c _ λl=>by omega) (λq3=>?_);refine AC (λ_=>c _ λl=>by omega) (λq4=>?_);refine AC (λ_=>c _ λl=>by omega) (λq5=>?_);refine AB (QC ⟨Ah _,by dsimp only;omega⟩) λG _=>?_;refine AB (pV C (λx E=>B x (ME ((o x).1 E).1)) (B v n.2) (by omega)) λt q=>?_;refine A2.next ⟨k+1,t.1,rfl,by omega,by omega,λy=>?_⟩ (by dsimp only;omega)
 rw[q.2,o,m,Ar,A5];constructor
 ·rintro(⟨f,i⟩|f)
  ·exact⟨.inl f,i⟩
  ·subst f;exact⟨.inr rfl,q1,by omega⟩
 ·rintro⟨f|f,i⟩
  ·exact .inl ⟨f,i⟩
  ·exact .inr f
def AAC{L c:List EN}{F T h g j:Int}(n:Uq L)(q: ∀e∈c,e∈L)(p:c.length<=16777000):A2 (Ir (c,(F,(T,(h,(g,j)))))) λr=>r.2=0->VR r.1/\ ∃b:List EN,r.1=(F,(T,(h,(g,(j,b)))))/\ ∀y,y∈b↔y∈c/\fH y=true/\h<=y.2.2.2.2.2.2.1.1/\y.2.2.2.2.2.2.1.1<=g/\F<=y.1/\y.1<=T:=by unfold Ir;refine AB H8 λw _=>?_;refine AO (λ_=>AA λa=>absurd (show(1:Int)=0 from a) (by decide)) (λ_=>?_);refine AB (QB ⟨Ah _,by dsimp only;omega⟩) λx m=>?_;refine Az (λu i=>AA λa=>absurd a (m u i)) (λu i=>?_);refine AB (xw n q p) λs d=>?_;obtain⟨b,k,v,l⟩:=d;refine AE (λ_=>AA λa=>absurd (show(41:Int)=0 from a) (by decide)) (λ_=>?_);refine AC (λ_=>AA λa=>absurd (show(21:Int)=0 from a) (by decide)) (λ_=>?_);refine AB YL λt f=>?_;refine AO (λ_=>AA λa=>absurd (show(13:Int)=0 from a) (by decide)) (λo=>AA λ_=>⟨f.1 o,b,k,l⟩)
set_option maxHeartbeats 400000
def vY{x:Int×List Int}(h:BD x.1 x.2):A2 (El x) λr=>r.2=0/\VB r.1/\r.1.2.1=x.1/\r.1.2.2.2.1=1:=by refine AB Z7 λl c=>?_;refine AO (λb=>(by rw[c.2 h]at b;cases b)) (λ_=>?_);have k:=h.2.2.2.1;refine AB (Ac (by simp;omega)) λm e=>AA ⟨rfl,⟨?_,by dsimp only;decide,by dsimp only;decide,by dsimp only;decide,by dsimp only;decide,by simp,⟨λi f d a=>by simp at a,λi f g d a j=>by simp at a⟩⟩,rfl,rfl⟩;grind
theorem FR.push{l m:List BQ}{f:BQ}{c:Int}(h:FR l c l.length)(v:1<=c)(r:f.2.1=c)(u:m=l++[f]):FR m (c+1) m.length:=by
 subst u;obtain⟨q,t⟩:=h;have p:(l++[f]).length=l.length+1:=by simp
 have b: ∀(i:Nat) (g:BQ),¬i<l.length->(l++[f])[i]? =some g->g=f:=λi g j a=>by
  have o:=JD a;rw[p]at o;have s:i=l.length:=by omega
  subst s;rw[CG (Aj _)]at a;simp at a;exact a.symm
 refine⟨λi g j a=>?_,λi g k j a n=>?_⟩
 ·by_cases e:i<l.length
  ·rw[BW e]at a;have:=q i g (by omega) a;exact⟨this.1,by omega⟩
  ·rw[b i g e a,r];exact⟨by omega,by omega⟩
 ·rw[p]at j;have e:i<l.length:=by omega
  rw[BW e]at a;by_cases d:i+1<l.length
  ·rw[BW d]at n;exact t i g k (by omega) a n
  ·rw[b (i+1) k d n,r];exact(q i g (by omega) a).2
def yE{x:AL×Am×Int}(h:SA x.1)(l:VB x.1):A2 (EU x) λr=>r.2=0->SA r.1/\VB r.1/\r.1.2.1=x.1.2.1/\(r.1.2.2.2.1=x.1.2.2.2.1\/r.1.2.2.2.1<=x.2.1.2.2+1):=by
 unfold EU;refine AB Nh λv0 O=>?_;refine AO (λ_=>AA λa=>absurd a (by decide)) (λd=>?_);obtain⟨a1,a2,a3,a4,a5,a6,a7,a8,a9⟩:=O d;refine AB Bg λv1 q=>?_;refine AO (λ_=>AA λa=>absurd a (by decide)) (λm=>?_);obtain⟨l1,l2,l3,l4,l5,Z⟩:=q.1 m;refine AC (λ_=>AA λa=>absurd a (by decide)) (λc1=>?_);refine AC (λ_=>AA λa=>absurd a (by decide)) (λc2=>?_);generalize S:(if(x.2.1.1>x.1.2.2.2.1)then x.2.1.1 else x.1.2.2.2.1)=F;have f1:x.2.1.1<=F/\x.1.2.2.2.1<=F/\F<=1099511627777:=by rw[<-S];split<;>omega
 have D:=AY (x:=F+x.2.2) (by omega);have E:=AY (x:=F+x.2.2-1) (by omega);rw[D,E];generalize T:(if(x.2.1.2.2<(F+x.2.2-1))then x.2.1.2.2 else(F+x.2.2-1))=G;have g1:G<=x.2.1.2.2/\G<=F+x.2.2-1:=by rw[<-T];split<;>omega
 refine AC (λ_=>AA λ_=>⟨h,l,rfl,.inl rfl⟩) (λc3=>?_);have H:=AY (x:=F-x.2.1.1) (by omega);have I:=AY (x:=G-x.2.1.1) (by omega);have J:=AY (x:=G-x.2.1.1+1) (by omega);rw[H,I,J];have K:=AY (x:=len x.1.2.2.1+len x.1.1) (by simp only[len];omega);have L:=AY (x:=x.1.2.2.2.2+len x.1.1) (by simp only[len];omega);have M:=AY (x:=G+1) (by omega);rw[K,L,M];have U:G<=1099511627776:=by
  have X:x.2.1.2.1.length≠0:=by omega
  obtain⟨i,n⟩: ∃i,x.2.1.2.1[x.2.1.2.1.length-1]? =some i:=⟨_,Ay (by omega)⟩
  have:=Z _ i n;have q:=this.1;have t:=this.2.2.1;omega
 refine AC (λ_=>AA λa=>absurd a (by decide)) (λB=>?_);refine AC (λ_=>AA λa=>absurd a (by decide)) (λC=>?_);simp only[len]at B C;refine AB (B0 (by omega) (by omega) (by omega)) λv2 t=>?_;have W:=t.2;refine AB (QD ⟨Ah _,by dsimp only;omega,by omega⟩) λv8 R=>?_;refine Az (λu b=>AA λa=>absurd a (R u b)) (λu b=>?_);refine AB (Ac (by simp;omega)) λad j=>?_;have c:=j.1;rw[CA]at c;refine AB (P:=λr=>(∀u,r= .inl u->u.1≠0)/\ ∀u,r= .inr u->u.2.1=x.1.1/\u.1.length<=256/\(∀f∈u.1,f.2.2.length<=1099511627776)/\u.2.2.1=x.1.2.1/\u.2.2.2.2.1=x.1.2.2.2.2+x.1.1.length/\FR u.1 u.2.2.2.2.1 u.1.length) ?_ λr hr=>Az (λu b=>AA λa=>absurd a (hr.1 u b)) (λu b=>AA λ_=>?_)
 ·refine AM (λ(s:Int×(List BQ)×(List Int)×Int×Int×Int×AL)=>0<=s.1/\s.1<=x.1.1.length/\s.2.2.1=x.1.1/\(s.2.1.length:Int)=x.1.2.2.1.length+s.1/\(∀f∈s.2.1,f.2.2.length<=1099511627776)/\s.2.2.2.1=x.1.2.1/\s.2.2.2.2.2.1=x.1.2.2.2.2+s.1/\FR s.2.1 s.2.2.2.2.2.1 s.2.1.length) (λ(s:Int×(List BQ)×(List Int)×Int×Int×Int×AL)=>((x.1.1.length:Int)-s.1).toNat) ⟨Ah _,by dsimp only;omega,rfl,by dsimp only;rw[c];omega,by dsimp only;rw[c];exact h.2.2,rfl,by dsimp only;omega,by dsimp only;rw[c];exact l.2.2.2.2.2.2⟩ (λs V=>?_);obtain⟨Y,i2,v,i4,y,z,i7,A⟩:=V;unfold Ng;have e:=AY (x:=s.1+1) (by omega);rw[e];refine AC (λd=>?_) (λd=>AA ⟨λu b=>(by cases b),λu b=>(by cases b;simp only[len]at d;exact⟨v,by omega,y,z,by omega,A⟩)⟩);simp only[len]at d;refine AB (Rq a4 ⟨Y,d⟩) λal _=>?_;refine AB (bS (by dsimp only;omega)) λap Q=>?_;refine AK (λd=>AA ⟨λu b=>(by cases b;exact d),λu b=>(by cases b)⟩) (λ_=>?_);refine AB X8 λar k=>?_;refine AB (Ac (by simp;omega)) λax g=>AA ?_;have p:=g.2.1;simp only[BC,BH]at p;have N:=AY (x:=s.2.2.2.2.2.1+1) (by omega);rw[N];refine⟨⟨by dsimp only;omega,by dsimp only;omega,v,by dsimp only;omega,λf o=>?_,z,by dsimp only;omega,A.push (by omega) rfl g.1⟩,by dsimp only;omega⟩;dsimp only at o;rw[g.1]at o;rcases Ar.1 o with w|w
  ·exact y f w
  ·simp at w;rw[w];exact k
 ·obtain⟨q1,q2,q3,q4,q5,q6⟩:=hr.2 u b;refine⟨⟨by dsimp only;rw[q1];exact a4,by dsimp only;omega,q3⟩,⟨?_,by dsimp only;omega,by dsimp only;omega,by dsimp only;omega,by dsimp only;omega,q2,q6⟩,q4,.inr (by dsimp only;omega)⟩;dsimp only;rw[q1,q4];exact l.1
def FP(l:List BQ)(m:Int):Prop:=(∀f∈l,0<f.2.1/\f.2.1<m)/\l.Pairwise λf g=>f.2.1<g.2.1
def rl{l:List BQ}{m:Int}(h:FP l m):FR l m l.length:=by refine⟨λi f e a=>h.1 f (BV a),λi f g e a d=>?_⟩;have b:=JD a;have c:=JD d;have:=JE.1 h.2 i (i+1) b c (by omega);grind
def FR.fp{l:List BQ}{m:Int}(h:FR l m l.length):FP l m:=by
 refine⟨λf e=>?_,JE.2 λi j b c g=>?_⟩
 ·obtain⟨i,b⟩:=G4.1 e;have:=JD b;exact h.1 i f (by omega) b
 ·obtain⟨d,rfl⟩: ∃d,j=i+1+d:=⟨j-(i+1),by omega⟩
  induction d with
  |zero=>exact h.2 i _ _ (by omega) (Ay b) (Ay c)
  |succ d k=>
   have a:i+1+d<l.length:=by omega
   have n:=k a (by omega);have o:=h.2 (i+1+d) l[i+1+d] l[i+1+(d+1)] (by omega) (Ay a) (Ay c);omega
def FR.sub{l k:List BQ}{m:Int}(h:FR l m l.length)(a:k.Sublist l):FR k m k.length:=rl ⟨λf b=>h.fp.1 f (a.subset b),h.fp.2.sublist a⟩
def uQ{b:AP}{x:List BQ}{m:Int}(v:FR x m x.length)(h:CX b)(hx:x.length<=1000000)(j: ∀f∈x,f.2.2.length<=1099511627776):A2 (Fi b x) λr=>CX r.2/\r.1.length<=x.length/\FR r.1 m r.1.length/\ ∀f∈r.1,f.2.2.length<=1099511627777:=by
 unfold Fi;refine AS (λ_=>AA ⟨h,by simp,⟨λi f s j=>by simp at j,λi f g s j c=>by simp at j⟩,λf j=>by simp at j⟩) (λA=>?_);simp only[len]at A;refine AB (Aa h (by simp only[len];omega)) λd Q=>?_;obtain⟨M,t,N⟩:=Q;simp only[len]at N;have e:=AY (x:=d.1+1) (by omega);rw[e];refine AB (Aa M (by decide)) λv1 D=>?_;refine AS (λ_=>?_) (λ_=>?_)
 ·refine AB (B0 (Ah _) t (by omega)) λv2 E=>?_;refine AB (B0 (by omega) (by simp only[len];omega) (by simp only[len];omega)) λv3 F=>?_;have l2:=E.2;have T:=F.2;simp only[len]at T;refine AB (Ac (by simp;omega)) λv4 G=>?_;have U:=G.2.1;simp only[BH]at U;refine AB (Ac (by omega)) λY H=>AA ⟨D.1,?_,?_⟩
  ·have l5:=H.2.1;dsimp only;omega
  ·have J:Y.Sublist x:=by
    rw[H.1,G.1,E.1,F.1,CA];have O:x=x.take d.1.toNat++x.drop d.1.toNat:=(FG _ _).symm;suffices n:((x.drop (0:Int).toNat).take (d.1.toNat-(0:Int).toNat)++(x.drop (d.1+1).toNat).take ((len x).toNat-(d.1+1).toNat)).Sublist (x.take d.1.toNat++x.drop d.1.toNat) by rw[<-O]at n;exact n
    apply List.Sublist.append
    ·simp
    ·apply (List.take_sublist _ _).trans;have P:(d.1+1).toNat=d.1.toNat+1:=by omega
     rw[P,<-LM];exact List.drop_sublist _ _
   exact⟨v.sub J,λf l=>by have:=j f (J.subset l);omega⟩
 ·refine AB (Ac (by simp;omega)) λy R=>?_;have C:=R.1;rw[CA]at C;subst C;refine AB (AD t (by omega)) λv7 _=>?_;refine AB (AD t (by omega)) λK z=>?_;refine AB (Tt D.1 (j _ z.2)) λL I=>?_;refine AB (AD t (by omega)) λX _=>?_;refine AB (AD t (by omega)) λa u=>AA ⟨I.1,by simp[BZ],?_,λf l=>?_⟩
  ·have q:=v.fp;have Z:K=a:=by have:=z.1;rw[u.1]at this;exact(C2 this).symm
   have key: ∀(i:Nat) (g:BQ),(BZ y d.1 (a.1,(a.2.1,L.1)))[i]? =some g-> ∃k,y[i]? =some k/\k.2.1=g.2.1:=λi g c=>by
    simp only[BZ]at c;rw[TF]at c;split at c
    ·rename_i s;subst s;split at c
     ·exact⟨a,u.1,by rw[<-C2 c]⟩
     ·cases c
    ·exact⟨g,c,rfl⟩
   have el:(BZ y d.1 (a.1,(a.2.1,L.1))).length=y.length:=by simp[BZ]
   refine⟨λi g s c=>?_,λi g k s c S=>?_⟩
   ·obtain⟨p,B,W⟩:=key i g c;have:=v.1 i p (by dsimp only at s;omega) B;omega
   ·obtain⟨p,B,W⟩:=key i g c;obtain⟨o,V,o2⟩:=key (i+1) k S;have:=v.2 i p o (by dsimp only at s;omega) B V;omega
  ·simp only[BZ]at l;rcases Q2 l with w|w
   ·have:=j f w;omega
   ·rw[w];have:=I.2;have:=j K z.2;dsimp only;omega
def xy(L:List EN)(a:AL)(F G s:Int)(nf:List BQ):Prop:= ∀(j:Nat) (f:BQ),nf[j]? =some f->
 ∃r,f=(1,(s+j,MJ r))/\VR r/\bp L r/\r.1=F/\r.2.1=G/\a.1[j]? =some r.2.2.1/\r.2.2.2.1=mo a j
def D3.uq{l:Am}(h:D3 l):Uq l.2.1:=λx b y c a=>Ux h.nodup b c a
def ut{l:Am}(h:D3 l){F G:Int}{v:List EN}(g:l.1<=F)(i:F<=G)(j:G<=l.1+l.2.1.length-1)(c:v=(l.2.1.drop (F-l.1).toNat).take ((G-l.1+1).toNat-(F-l.1).toNat))(e:EN):e∈v↔e∈l.2.1/\F<=e.1/\e.1<=G:=by
 subst c;obtain⟨l1,l2,m,n,o,b⟩:=h;rw[G4,G4];constructor
 ·rintro⟨k,a⟩;rw[IP]at a;split at a
  ·rw[Hm]at a;have:=(b _ e a).1;exact⟨⟨_,a⟩,by omega⟩
  ·cases a
 ·rintro⟨⟨k,a⟩,d,f⟩;have:=(b _ e a).1;refine⟨k-(F-l.1).toNat,?_⟩;rw[IP,if_pos (by omega),Hm,show(F-l.1).toNat+(k-(F-l.1).toNat)=k by omega,a]
def rN{x:AL×Am×Int}(h:SA x.1)(hb:VB x.1)(q:D3 x.2.1):A2 (EU x) λr=>r.2=0→r.1=x.1∨
  ∃F G a,r.1=(x.1.1,(x.1.2.1,(x.1.2.2.1++a,(G+1,x.1.2.2.2.2+a.length))))/\x.1.2.2.2.1<=F/\F<=G/\a.length=x.1.1.length/\xy x.2.1.2.1 x.1 F G x.1.2.2.2.2 a:=by
 unfold EU;refine AB Nh λv0 Y=>?_;refine AO (λ_=>AA λb=>absurd (show(54:Int)=0 from b) (by decide)) (λm=>?_);obtain⟨a1,a2,a3,a4,a5,a6,a7,a8,a9⟩:=Y m;refine AB Bg λv1 h1=>?_;refine AO (λ_=>AA λb=>absurd (show(26:Int)=0 from b) (by decide)) (λad=>?_);obtain⟨l1,l2,l3,l4,l5,l6⟩:=id q;refine AC (λ_=>AA λb=>absurd (show(1:Int)=0 from b) (by decide)) (λc1=>?_);refine AC (λ_=>AA λb=>absurd (show(1:Int)=0 from b) (by decide)) (λc2=>?_);have i: ∃F,(if(x.2.1.1>x.1.2.2.2.1)then x.2.1.1 else x.1.2.2.2.1)=F:=⟨_,rfl⟩
 obtain⟨F,i⟩:=i;have X:x.2.1.1<=F/\x.1.2.2.2.1<=F/\F<=1099511627777:=by rw[<-i];split<;>omega
 have D:=AY (x:=F+x.2.2) (by omega);have E:=AY (x:=F+x.2.2-1) (by omega);have l: ∃G,(if(x.2.1.2.2<(F+x.2.2-1))then x.2.1.2.2 else(F+x.2.2-1))=G:=⟨_,rfl⟩
 obtain⟨G,l⟩:=l;have g1:G<=x.2.1.2.2/\G<=F+x.2.2-1:=by rw[<-l];split<;>omega
 rw[i,D,E,l];refine AC (λ_=>AA λ_=>.inl rfl) (λc3=>?_);have R:=AY (x:=F-x.2.1.1) (by omega);have S:=AY (x:=G-x.2.1.1) (by omega);have T:=AY (x:=G-x.2.1.1+1) (by omega);rw[R,S,T];have U:=AY (x:=len x.1.2.2.1+len x.1.1) (by simp only[len];omega);have V:=AY (x:=x.1.2.2.2.2+len x.1.1) (by simp only[len];omega);have W:=AY (x:=G+1) (by omega);rw[U,V,W];refine AC (λ_=>AA λb=>absurd (show(21:Int)=0 from b) (by decide)) (λO=>?_);refine AC (λ_=>AA λb=>absurd (show(21:Int)=0 from b) (by decide)) (λQ=>?_);simp only[len]at O Q;refine AB (B0 (by omega) (by omega) (by omega)) λv2 H=>?_;have al:=H.2;have n:=ut q (F:=F) (G:=G) X.1 (by omega) (by omega) H.1;refine AB (QD ⟨Ah _,by dsimp only;omega,by omega⟩) λv8 Z=>?_;refine Az (λu c=>AA λb=>absurd b (Z u c)) (λu c=>?_);refine AB (Ac (by simp;omega)) λap t=>?_;have g:=t.1;rw[CA]at g;subst g;refine AB (P:=λr=>(∀u,r= .inl u->u.1≠0)/\ ∀u,r= .inr u-> ∃(a:List BQ),(u.1,(u.2.1,(u.2.2.1,(u.2.2.2.1,u.2.2.2.2.1))))=(x.1.2.2.1++a,(x.1.1,(x.1.2.1,(x.1.2.2.2.1,x.1.2.2.2.2+a.length))))/\a.length=x.1.1.length/\xy x.2.1.2.1 x.1 F G x.1.2.2.2.2 a) ?_ λr hr=>Az (λu c=>AA λb=>absurd b (hr.1 u c)) (λu c=>AA λ_=>.inr ?_)
 ·refine Oc (λ(s:Int×(List BQ)×(List Int)×Int×Int×Int×AL)=> ∃(k:Nat) (a:List BQ) (z:AL),s=((k:Int),(x.1.2.2.1++a,(x.1.1,(x.1.2.1,(x.1.2.2.2.1,(x.1.2.2.2.2+(k:Int),z))))))/\k<=x.1.1.length/\a.length=k/\xy x.2.1.2.1 x.1 F G x.1.2.2.2.2 a) (λs=>x.1.1.length-s.1.toNat)
   ⟨0,[],u,by simp,Cc _,rfl,λj f d=>by simp at d⟩ ?_
  rintro s ⟨k,a,z,rfl,i2,B,J⟩;unfold Ng;dsimp only;simp only[len];rw[i,D,E,l];refine AC (λm=>?_) (λm=>A2.done ⟨λu c=>(by cases c),λu c=>(by cases c;exact⟨a,by dsimp only;rw[B],by omega,J⟩)⟩);have I:x.1.1[k]? =some (x.1.1[k]'(by omega)):=Ay (by omega);rw[pW hb.1 I,AJ];refine AB (AAC q.uq (λe he=>((n e).1 he).1) (by omega)) λp v=>?_;refine AK (λm=>A2.done ⟨λu c=>(by cases c;exact m),λu c=>(by cases c)⟩) (λb=>?_);obtain⟨C,es,o,m3⟩:=v b;rw[jn C,AJ];refine AB (Ac (by simp;omega)) λar w=>?_;rw[AY (x:=x.1.2.2.2.2+(k:Int)+1) (by omega),AY (x:=(k:Int)+1) (by omega)];refine A2.next ⟨k+1,a++[(1,(x.1.2.2.2.2+(k:Int),MJ p.1))],z,?_,by omega,by rw[Ad,B];rfl,λj f d=>?_⟩ (by dsimp only;omega)
  ·rw[w.1,Ax,show x.1.2.2.2.2+(k:Int)+1=x.1.2.2.2.2+((k+1:Nat):Int) by omega,show(k:Int)+1=((k+1:Nat):Int) by omega]
  ·by_cases hj:j<a.length
   ·rw[BW hj]at d;exact J j f d
   ·have A:=JD d;rw[Ad,BC,BH]at A;have y:j=k:=by omega
    subst y;rw[CG (by omega),B,G6]at d;injection d with d;subst d;refine⟨p.1,rfl,C,C.runOf q.uq λe=>?_,by rw[o],by rw[o],by rw[o];exact I,by rw[o]⟩;rw[o];dsimp only;rw[m3,n];constructor
    ·rintro⟨⟨q1,q2,q3⟩,q4⟩;exact⟨q1,q4⟩
    ·rintro⟨q1,q2,q3,q4,q5,q6⟩;exact⟨⟨q1,q5,q6⟩,q2,q3,q4,q5,q6⟩
 ·obtain⟨a,q1,q2,q3⟩:=hr.2 u c;refine⟨F,G,a,?_,by omega,by omega,q2,q3⟩;have K:=congrArg (·.1) q1;have L:=congrArg (·.2.1) q1;have M:=congrArg (·.2.2.1) q1;have N:=congrArg (·.2.2.2.2) q1;dsimp only at K L M N;dsimp only;rw[K,L,M,N]
def Kx.congr{a b:AL}(e:b.1=a.1)(f:b.2.1=a.2.1){d c:Int}:Kx a d c↔Kx b d c:=by unfold Kx mo;rw[e,f]
def Good.congr{a b:AL}(c:b.1=a.1)(d:b.2.1=a.2.1){f:BQ}{r:AU}(h:Good a f r):Good b f r:=⟨h.1,h.2.1,h.2.2.1,(Kx.congr c d).1 h.2.2.2⟩
def Good.run{a:AL}{f:BQ}{r s:AU}(h:Good a f r)(g:Good a f s):r=s:=wN h.2.2.1 g.2.2.1 (h.2.1.symm.trans g.2.1)
def AR.step{L:List EN}{a b:AL}{F G:Int}{A:List BQ}(h:AR L a)(e:b=(a.1,(a.2.1,(a.2.2.1++A,(G+1,a.2.2.2.2+A.length)))))(hF:a.2.2.2.1<=F)(hG:F<=G)(hn:xy L a F G a.2.2.2.2 A)(I:VB b):AR L b/\(AG a->AG b)/\ ∀c,RC a c->RC b (c+1):=by
 have Q:b.1=a.1:=by rw[e]
 have R:b.2.1=a.2.1:=by rw[e]
 have V:b.2.2.1=a.2.2.1++A:=by rw[e]
 have h4:b.2.2.2.1=G+1:=by rw[e]
 have o: ∀f∈A,∃(j:Nat) (r:AU),Good b f r/\bp L r/\r.1=F/\r.2.1=G/\a.1[j]? =some r.2.2.1/\A[j]? =some f:=λf d=>by obtain⟨j,hj⟩:=G4.1 d;obtain⟨r,l,u,v,Y,T,N,r7⟩:=hn j f hj;refine⟨j,r,⟨by rw[l],by rw[l],u,(Kx.congr Q R).1 ⟨j,N,r7⟩⟩,v,Y,T,N,hj⟩
 have z: ∀f∈a.2.2.1,z0 f\/ ∃r,Good b f r/\bp L r/\r.2.1<a.2.2.2.1:=λf d=>(h.files f d).imp id λ⟨r,l,u,v⟩=>⟨r,l.congr Q R,u,v⟩
 have k: ∀x∈E0 b,(x∈E0 a/\x.1.2.1<a.2.2.2.1)\/ ∃(j:Nat) (f:BQ),A[j]? =some f/\Good b f x.1/\x.2=f.2.1/\x.1.1=F/\a.1[j]? =some x.1.2.2.1:=λx s=>by
  unfold E0 at s;rw[V]at s;obtain⟨f,d,q⟩:=Nx.1 s;rcases Ar.1 d with d|d
  ·rcases z f d with n|⟨r,l,u,v⟩
   ·rw[n.intR I.1]at q;cases q
   ·rw[l.intR I.1]at q;injection q with q;subst q;exact .inl ⟨U8 h.vb.1 d (l.congr Q.symm R.symm),v⟩
  ·obtain⟨j,r,l,u,v,Y,T,N⟩:=o f d;rw[l.intR I.1]at q;injection q with q;subst q;exact .inr ⟨j,f,N,l,rfl,v,T⟩
 refine⟨⟨I,λf d=>?_,λx s y S M w=>?_⟩,λW f d=>?_,λc hc C=>?_⟩
 ·rw[V]at d;rw[h4];rcases Ar.1 d with d|d
  ·rcases z f d with n|⟨r,l,u,v⟩
   ·exact .inl n
   ·exact .inr ⟨r,l,u,by omega⟩
  ·obtain⟨j,r,l,u,v,Y,T,N⟩:=o f d;exact .inr ⟨r,l,u,by omega⟩
 ·rcases k x s with⟨p,D⟩|⟨i,f,p,D,O,x4,E⟩
  ·rcases k y S with⟨m,H⟩|⟨j,g,m,H,U,y4,P⟩
   ·exact h.dis x p y m M w
   ·exact .inl (by omega)
  ·rcases k y S with⟨m,H⟩|⟨j,g,m,H,U,y4,P⟩
   ·exact .inr (by omega)
   ·rw[<-w]at P;have B:=h.vb.1.inj E P;subst B;rw[p]at m;injection m with m;subst m;exact absurd (F9 (D.run H) (O.trans U.symm)) M
 ·rw[V]at d;rcases Ar.1 d with d|d
  ·obtain⟨r,hr⟩:=W f d;exact⟨r,hr.congr Q R⟩
  ·obtain⟨j,r,l,_⟩:=o f d;exact⟨r,l⟩
 ·have K:=(T1 I).filter λe=>e.1.2.2.1==C;by_cases J: ∃y∈(E0 b).filter (λe=>e.1.2.2.1==C),∃(j:Nat) (f:BQ),A[j]? =some f/\Good b f y.1/\y.2=f.2.1/\a.1[j]? =some y.1.2.2.1
  ·obtain⟨y,S,j,g,m,H,U,P⟩:=J;have X:y.1.2.2.1=C:=eq_of_beq (Bi.1 S).2;have:=eQ _ (y::(E0 a).filter λe=>e.1.2.2.1==C) K λx s=>by
    obtain⟨Z,t⟩:=Bi.1 s;rcases k x Z with⟨p,_⟩|⟨i,f,p,D,O,x4,E⟩
    ·exact Al.2 (.inr (Bi.2 ⟨p,t⟩))
    ·rw[eq_of_beq t,<-X]at E;have B:=h.vb.1.inj E P;subst B;rw[p]at m;injection m with m;subst m;exact Al.2 (.inl (F9 (D.run H) (O.trans U.symm)))
   rw[BC]at this;have:=hc C;omega
  ·have:=eQ _ ((E0 a).filter λe=>e.1.2.2.1==C) K λx s=>by
    obtain⟨Z,t⟩:=Bi.1 s;rcases k x Z with⟨p,_⟩|⟨i,f,p,D,O,x4,E⟩
    ·exact Bi.2 ⟨p,t⟩
    ·exact absurd ⟨x,s,i,f,p,D,O,E⟩ J
   have:=hc C;omega
def SF(a:AL)(m:Int):Prop:=a.2.2.2.2+a.2.2.1.length<=m
def yD{x:AL×Am×Int}{m:Int}(h:AR x.2.1.2.1 x.1)(k:D3 x.2.1)(o:SF x.1 m):A2 (EU x) λr=>r.2=0->AR x.2.1.2.1 r.1/\(AG x.1->AG r.1)/\(∀c,RC x.1 c->RC r.1 (c+1))/\SF r.1 (m+32)/\r.1.2.1=x.1.2.1/\(r.1.2.2.2.1=x.1.2.2.2.1\/r.1.2.2.2.1<=x.2.1.2.2+1):=by
 refine((yE h.sa h.vb).and (rN h.sa h.vb k)).mono λr hr d=>?_;obtain⟨q1,q2,q3,q4⟩:=hr.1 d;rcases hr.2 d with e|⟨F,G,p,b,f,g,n,i⟩
 ·rw[e];exact⟨h,id,λc j l=>Nat.le_succ_of_le (j l),by unfold SF at*;omega,rfl,.inl rfl⟩
 ·have a:=h.step b f g i q2;refine⟨a.1,a.2.1,a.2.2,?_,q3,q4⟩;have:=h.sa.1;rw[b];unfold SF at*;dsimp only;rw[Ad];omega
def zc{d e:Type}(l:List d)(m:List e)(n:Nat):l.zip m=(l.take n).zip (m.take n)++(l.drop n).zip (m.drop n):=by
 induction n generalizing l m with
 |zero=>simp
 |succ n c=>
  cases l with
  |nil=>simp
  |cons a l=>
   cases m with
   |nil=>simp
   |cons b m=>rw[Z0,Z0,YV,YV,Q5,Q5,Dg,<-c l m]
def AA7{c d:Type}{l:List c}{m:List d}{k:Nat}{a:c}{b:d}(e:l[k]? =some a)(f:m[k]? =some b):(a,b)∈l.zip m:=by refine G4.2 ⟨k,?_⟩;rw[fR];exact⟨e,f⟩
def vi{x:AL}{L:List EN}{U:Int×List AU×List Int×List Bool}(h:AR L x)(b:0<=U.1):A2 (Ae (Gv x U) ([],([],0))) λr=>r.2.length=r.1.length/\ ∀p∈r.1.zip r.2,p∈E0 x:=by
 obtain⟨⟨b1,b2,b3,b4,b5,b6,b7⟩,a1,a2,a3,a4,a5,a6⟩:=h.vb;refine Oc (λ(s:List AU×List Int×Int)=>0<=s.2.2/\s.2.2<=x.2.2.1.length/\s.2.1.length=s.1.length/\s.1.length<=s.2.2/\ ∀p∈s.1.zip s.2.1,p∈E0 x) (λ(s:List AU×List Int×Int)=>((x.2.2.1.length:Int)-s.2.2).toNat) ⟨Ah _,by dsimp only;omega,rfl,by simp,λp b=>by simp at b⟩ (λs X=>?_);obtain⟨S,i2,T,i4,u⟩:=X;unfold Gv;have e:=AY (x:=s.2.2+1) (by omega);rw[e];refine AC (λE=>?_) (λ_=>A2.done ⟨T,u⟩);simp only[len]at E;refine AB (AD S E) λv D=>?_;have q: ∃w,Dv (x,v)=some w/\(w.2= -1\/Good x v w.1):=by
  rcases h.files v D.2 with Y|⟨r,R,_⟩
  ·obtain⟨r,hr⟩:=Y.ref (a:=x);exact⟨_,hr,.inl rfl⟩
  ·obtain⟨k,hk,ad⟩:=R.ref h.vb.1;exact⟨_,hk,.inr R⟩
 obtain⟨w,F,t⟩:=q;rw[F,AJ];refine AK (λ_=>A2.next ⟨by dsimp only;omega,by dsimp only;omega,T,by dsimp only;omega,u⟩ (by dsimp only;omega)) (λZ=>?_);have c:Good x v w.1:=t.elim (λhz=>absurd hz (by omega)) id;refine AB (PY ⟨by simp only[len];omega,by simp only[len];omega,by omega⟩) λy o=>?_;refine AB (B0 (Ah _) o.1 o.2) λv8 P=>?_;refine AB (B0 o.1 (by simp only[len];omega) (by simp only[len];omega)) λv9 Q=>?_;have l8:=P.2;have l9:=Q.2;simp only[len]at l9;refine AB (Ac (by simp;omega)) λax d=>?_;have G:=d.2.1;simp only[BH]at G;refine AB (Ac (by simp;omega)) λa0 f=>?_;have H:=f.2.1;simp only[BH,BC]at H;refine AB (Ac (by omega)) λa7 g=>?_;have al:=g.2.1;refine AB (B0 (Ah _) o.1 (by omega)) λM i=>?_;have ap:=i.2;refine AB (AD S E) λN C=>?_;refine AB (B0 o.1 (by simp only[len];omega) (by simp only[len];omega)) λO j=>?_;have I:=j.2;simp only[len]at I;refine AB (Ac (by simp;omega)) λa8 l=>?_;have J:=l.2.1;simp only[BH]at J;refine AB (Ac (by simp;omega)) λa9 m=>?_;have K:=m.2.1;simp only[BH,BC]at K;refine AB (Ac (by omega)) λa' n=>?_;have ar:=n.2.1;have A:N=v:=by have:=C.1;rw[D.1]at this;exact(C2 this).symm
 have V:v8=s.1.take y.toNat:=by rw[P.1];simp
 have W:v9=s.1.drop y.toNat:=by rw[Q.1];exact Dq (by rw[Fc];simp only[len];omega)
 have z:M=s.2.1.take y.toNat:=by rw[i.1];simp
 have B:O=s.2.1.drop y.toNat:=by rw[j.1];exact Dq (by rw[Fc];simp only[len];omega)
 refine A2.next ⟨by dsimp only;omega,by dsimp only;omega,by dsimp only;omega,by dsimp only;omega,λp b=>?_⟩ (by dsimp only;omega)
 dsimp only at b;rw[g.1,f.1,d.1,n.1,m.1,l.1,V,W,z,B,CA,CA]at b;rw[Z1 (by simp only[Ad,Cn,BC,BH];omega),Z1 (by simp only[Cn];omega)]at b;rw[zc s.1 s.2.1 y.toNat]at u;rcases Ar.1 b with b|b
 ·rcases Ar.1 b with b|b
  ·exact u p (Ar.2 (.inl b))
  ·rw[Q5,fX,A5]at b;rw[b,A];exact U8 h.vb.1 D.2 c
 ·exact u p (Ar.2 (.inr b))
def Wh(x:AL)(t:List AU×List Int×List Bool):Prop:= ∀p∈(t.1.zip t.2.1).zip t.2.2,p.2=true->p.1∈E0 x
def vj{x:AL}{a:List AU×List Int}{n:Int}{t:List AU×List Int×List Bool}(h:a.2.length=a.1.length/\a.1.length<=256/\RL a.1)(hn:n<=100000)(k:T3 n t)(J: ∀p∈a.1.zip a.2,p∈E0 x)(I:Wh x t):A2 (Ae (Gw a) (0,(0,t))) λr=>Wh x r:=by
 refine Oc (λ(s:Int×Int×List AU×List Int×List Bool)=>0<=s.2.1/\s.2.1<=a.1.length/\T3 (n+s.2.1) s.2.2/\Wh x s.2.2) (λ(s:Int×Int×List AU×List Int×List Bool)=>((a.1.length:Int)-s.2.1).toNat) ⟨Ah _,by dsimp only;omega,by simpa using k,I⟩ (λs H=>?_);obtain⟨l,U,⟨E,K,V,F⟩,z⟩:=H;obtain⟨S,T,G⟩:=h;unfold Gw;have e:=AY (x:=s.2.1+1) (by omega);rw[e];refine AC (λj=>?_) (λ_=>A2.done z);simp only[len]at j;refine AB (AD l j) λL _=>?_;refine AC (λ_=>A2.next ⟨by dsimp only;omega,by dsimp only;omega,⟨E,K,by dsimp only;omega,F⟩,z⟩ (by dsimp only;omega)) (λ_=>?_);refine AB (AD l j) λD d=>?_;refine AB (AD l (by omega)) λM q=>?_;refine AB (AD l j) λm u=>?_;have o:m=D:=by have:=u.1;rw[d.1]at this;exact(C2 this).symm
 subst o;refine Gr (QE (G m d.2)) λN b v=>?_;refine AB (Ac (by simp;omega)) λO f=>?_;have A:=f.2.1;simp only[BH,BC]at A;refine AB (Ac (by simp;omega)) λP g=>?_;have B:=g.2.1;simp only[BH,BC]at B;refine AB (Ac (by simp;omega)) λQ i=>?_;have C:=i.2.1;simp only[BH,BC]at C;refine AB (AD l j) λR _=>?_;refine A2.next ⟨by dsimp only;omega,by dsimp only;omega,⟨by dsimp only;omega,by dsimp only;omega,by dsimp only;omega,λr hr=>?_⟩,λp c k=>?_⟩ (by dsimp only;omega)
 ·dsimp only at hr;rw[f.1]at hr;rcases Ar.1 hr with w|w
  ·exact F r w
  ·simp at w;rw[w];exact v
 ·dsimp only at c;rw[f.1,g.1,i.1,Z1 E.symm,Z1 (by rw[List.length_zip];omega)]at c;rcases Ar.1 c with c|c
  ·exact z p c k
  ·rw[Q5,fX,Q5,fX,A5]at c;subst c;dsimp only at k⊢;have y:=of_decide_eq_true k;unfold HK at b;dsimp only at b;rw[decide_eq_true y,cond_true]at b;injection b with b;rw[<-b];exact J _ (AA7 d.1 q.1)
def vg{x:AL}{L:List EN}(h:AR L x):A2 (Ku x) λr=>T3 4096 r/\Wh x r:=by have m:=h.sa;unfold Ku;refine AB Nh λt k=>?_;refine AO (λ_=>AA ⟨⟨rfl,rfl,by simp,λr hr=>by simp at hr⟩,λp f=>by simp at f⟩) (λd=>?_);have g:=k d;have a4:=g.2.2.2.1;refine AB (P:=λr=>T3 4096 r/\Wh x r) ?_ λr hr=>AA hr;refine Oc (λ(s:Int×List AU×List Int×List Bool)=>0<=s.1/\s.1<=x.1.length/\T3 (256*s.1) s.2/\Wh x s.2) (λ(s:Int×List AU×List Int×List Bool)=>((x.1.length:Int)-s.1).toNat) ⟨Ah _,by dsimp only;omega,⟨rfl,rfl,by simp,λr hr=>by simp at hr⟩,λp f=>by simp at f⟩ (λs l=>?_);obtain⟨i,q,c,j⟩:=l;unfold Qn;have e:=AY (x:=s.1+1) (by omega);rw[e];refine AC (λd=>?_) (λ_=>A2.done ⟨⟨c.1,c.2.1,by have:=c.2.2.1;omega,c.2.2.2⟩,j⟩);simp only[len]at d;refine AB ((V0 g m i).and (vi h i)) λn b=>?_;refine AB ((V1 b.1 (by omega) c).and (vj b.1 (by omega) c b.2.2 j)) λo a=>?_;exact A2.next ⟨by dsimp only;omega,by dsimp only;omega,⟨a.1.1,a.1.2.1,by have:=a.1.2.2.1;dsimp only;omega,a.1.2.2.2⟩,a.2⟩ (by dsimp only;omega)
def um{L:List EN}{x:List AU×List Bool}{k:Nat}{z t:AU}{F T lo hi lv:Int}{b:List EN}(m:Uq L)(p:x.1[k]? =some t)(i: ∀e∈t.2.2.2.2.2,e∈L)(q:t.2.2.2.2.2.length≤4096)(n: ∀e∈b,e∈L)(A:b.length≤1000000){o:AU}:
  A2 (Ae (Gx x ((k:Int),(o,z))) (0,(F,(T,(lo,(hi,(lv,b))))))) λr=> ∃a:List EN,r=(F,(T,(lo,(hi,(lv,a)))))/\a.length<=b.length+4096/\ ∀y,y∈a↔y∈b\/y∈t.2.2.2.2.2:=by
 have f:ix x.1 (k:Int)=some t:=by unfold ix;rw[if_pos (by omega),Int.toNat_natCast,p]
 refine Oc (λ(s:Int×AU)=> ∃(j:Nat) (a:List EN),s=((j:Int),(F,(T,(lo,(hi,(lv,a))))))/\j<=t.2.2.2.2.2.length/\a.length<=b.length+j/\ ∀y,y∈a↔y∈b\/y∈t.2.2.2.2.2.take j) (λs=>t.2.2.2.2.2.length-s.1.toNat)
  ⟨0,b,rfl,Cc _,by omega,λy=>by simp⟩ ?_
 rintro s ⟨j,a,rfl,B,C,d⟩;unfold Gx;dsimp only;rw[f,AJ];simp only[len];refine AC (λg=>?_) (λg=>A2.done ⟨a,rfl,by omega,by rw[Dq (by omega)]at d;exact d⟩);rw[AJ];refine AB (AD (by omega) g) λv l=>?_;have c:=l.1;rw[DP]at c;refine AB (pV m (λe h=>((d e).1 h).elim (n e) λh=>i e (ME h)) (i v l.2) (by omega)) λw u=>?_;rw[AY (by omega)];refine A2.next ⟨j+1,w.1,by rw[show(j:Int)+1=((j+1:Nat):Int) by omega],by omega,by omega,λy=>?_⟩ (by dsimp only;omega)
 rw[u.2,d,Ff,c,J6,Ar,A5,or_assoc]
def nG(x:List AU×List Bool)(lo hi:Int)(k:Nat):Prop:=x.2[k]? =some true/\ ∃r,x.1[k]? =some r/\r.2.2.1=lo/\r.2.2.2.1=hi/\(0<k-> ∀p,x.1[k-1]? =some p->r.1=p.2.1+1)
def yc{L:List EN}{x:List AU×List Bool}{a m:AU}(hL:Uq L)(h: ∀(k:Nat) (r:AU),x.1[k]? =some r→x.2[k]? =some true→VR r∧ ∀e∈r.2.2.2.2.2,e∈L)(h1:1≤x.1.length∧x.1.length≤8)(h2:x.2.length=x.1.length)(X:x.1[0]? =some a)(Y:x.1[x.1.length-1]? =some m):
  A2 (Kv x) λr=>r.2=true->VR r.1/\ ∃(f:Int) (b:List EN),r.1=(a.1,(m.2.1,(a.2.2.1,(a.2.2.2.1,(f,b)))))/\(∀k,k<x.1.length->nG x a.2.2.1 a.2.2.2.1 k)/\ ∀y,y∈b↔ ∃(k:Nat) (r:AU),x.1[k]? =some r/\y∈r.2.2.2.2.2:=by
 have H:ix x.1 0=some a:=by unfold ix;rw[if_pos (by omega)];exact X
 have U:ix x.1 (wi (len x.1-1))=some m:=by rw[AY (x:=len x.1-1) (by simp only[len];omega)];unfold ix;simp only[len];rw[if_pos (by omega),show((x.1.length:Int)-1).toNat=x.1.length-1 by omega,Y]
 unfold Kv;rw[H,U,AJ,AJ,AJ,AJ,AJ];generalize wi (a.2.2.2.2.1+1)=f;refine AB (P:=λr=>(∃u,r= .inl u/\u.1=false)\/ ∃z b,r= .inr ((a.1,(m.2.1,(a.2.2.1,(a.2.2.2.1,(f,b))))),z)/\(∀k,k<x.1.length->nG x a.2.2.1 a.2.2.2.1 k)/\ ∀y,y∈b↔ ∃(k:Nat) (r:AU),x.1[k]? =some r/\y∈r.2.2.2.2.2) ?_ λr hr=>?_
 ·refine Oc (λ(s:Int×AU×AU)=> ∃(k:Nat) (z:AU) (b:List EN),s=((k:Int),((a.1,(m.2.1,(a.2.2.1,(a.2.2.2.1,(f,b))))),z))/\k<=x.1.length/\b.length<=4096*k/\(∀j,j<k->nG x a.2.2.1 a.2.2.2.1 j)/\ ∀y,y∈b↔ ∃(j:Nat) (r:AU),j<k/\x.1[j]? =some r/\y∈r.2.2.2.2.2) (λs=>x.1.length-s.1.toNat)
   ⟨0,_,[],rfl,Cc _,Cc _,λj I=>absurd I (by omega),λy=>⟨λhy=>by simp at hy,λ⟨j,r,I,_⟩=>absurd I (by omega)⟩⟩ ?_
  rintro s ⟨k,z,b,rfl,i2,i3,O,Z⟩;unfold Qo;dsimp only;simp only[len];refine AC (λhc=>?_) (λhc=>A2.done (.inr ⟨z,b,rfl,λj I=>O j (by omega),λy=>?_⟩))
  ·have hk:k<x.1.length:=by omega
   have c:x.1[k]? =some x.1[k]:=Ay hk;generalize x.1[k]=t at c;have l:x.2[k]? =some (x.2[k]'(by omega)):=Ay (by omega);generalize x.2[k]'(by omega)=bb at l;have W:ix x.1 (k:Int)=some t:=by unfold ix;rw[if_pos (by omega),Int.toNat_natCast,c]
   have S:ix x.2 (k:Int)=some bb:=by unfold ix;rw[if_pos (by omega),Int.toNat_natCast,l]
   rw[S,AJ];refine AO (λ_=>A2.done (.inl ⟨_,rfl,rfl⟩)) (λR=>?_);rw[R]at l;obtain⟨tv,tm⟩:=h k t c l;rw[W,AJ,H,AJ];refine AK (λ_=>A2.done (.inl ⟨_,rfl,rfl⟩)) (λq1=>?_);rw[AJ,AJ];refine AK (λ_=>A2.done (.inl ⟨_,rfl,rfl⟩)) (λq2=>?_);rw[AJ,AJ];refine AK (λ_=>A2.done (.inl ⟨_,rfl,rfl⟩)) (λq3=>?_);have G: ∀e∈b,e∈L:=λe he=>by obtain⟨j,r,C,d,n⟩:=(Z e).1 he;exact(h j r d (O j C).1).2 e n
   have K:=um (x:=x) (k:=k) (z:=z) (o:=(a.1,(m.2.1,(a.2.2.1,(a.2.2.2.1,(f,b)))))) (F:=a.1) (T:=m.2.1) (lo:=a.2.2.1) (hi:=a.2.2.2.1) (lv:=f) hL c tm tv.1.2.2.2.2.2.2.2.2 G (by omega)
   have E:nG x a.2.2.1 a.2.2.2.1 k→ ∀i:List EN,i.length≤b.length+4096→(∀y,y∈i↔y∈b∨y∈t.2.2.2.2.2)→
     A2 (some (Step.next (wi ((k:Int)+1),((a.1,(m.2.1,(a.2.2.1,(a.2.2.2.1,(f,i))))),z))):Option (Step (Int×AU×AU) ((Bool×AU)⊕ (AU×AU)))) (ck (λ(s:Int×AU×AU)=> ∃(k:Nat) (z:AU) (b:List EN),s=((k:Int),((a.1,(m.2.1,(a.2.2.1,(a.2.2.2.1,(f,b))))),z))/\k<=x.1.length/\b.length<=4096*k/\(∀j,j<k->nG x a.2.2.1 a.2.2.2.1 j)/\ ∀y,y∈b↔ ∃(j:Nat) (r:AU),j<k/\x.1[j]? =some r/\y∈r.2.2.2.2.2) (λs=>x.1.length-s.1.toNat) (x.1.length-((k:Nat):Int).toNat)
      λr=>(∃u,r= .inl u/\u.1=false)\/ ∃z b,r= .inr ((a.1,(m.2.1,(a.2.2.1,(a.2.2.2.1,(f,b))))),z)/\(∀k,k<x.1.length->nG x a.2.2.1 a.2.2.2.1 k)/\ ∀y,y∈b↔ ∃(k:Nat) (r:AU),x.1[k]? =some r/\y∈r.2.2.2.2.2):=λhm i N D=>by
    rw[AY (by omega)];refine A2.next ⟨k+1,z,i,by rw[show(k:Int)+1=((k+1:Nat):Int) by omega],by omega,by omega,λj I=>?_,λy=>?_⟩ (by dsimp only;omega)
    ·by_cases A:j=k
     ·rw[A];exact hm
     ·exact O j (by omega)
    ·rw[D,Z];constructor
     ·rintro(⟨j,r,C,d,n⟩|g)
      ·exact⟨j,r,by omega,d,n⟩
      ·exact⟨k,t,by omega,c,g⟩
     ·rintro⟨j,r,C,d,n⟩;by_cases A:j=k
      ·subst A;rw[c]at d;injection d with d;subst d;exact .inr n
      ·exact .inl ⟨j,r,by omega,d,n⟩
   apply AC<;>intro ap
   ·have hp:k-1<x.1.length:=by omega
    have v:x.1[k-1]? =some x.1[k-1]:=Ay hp;generalize x.1[k-1]=p at v;have V:ix x.1 (wi ((k:Int)-1))=some p:=by rw[AY (by omega)];unfold ix;rw[if_pos (by omega),show((k:Int)-1).toNat=k-1 by omega,v]
    rw[AJ,V,AJ];have B:=(h (k-1) p v (O (k-1) (by omega)).1).1.1;have al:=B.2.2.1;have ar:=B.1;have ax:=B.2.1;rw[AY (x:=p.2.1+1) (by omega)];refine AK (λ_=>A2.done (.inl ⟨_,rfl,rfl⟩)) (λq4=>?_);refine AB K λad w=>?_;obtain⟨i,rfl,N,D⟩:=w;refine E ⟨l,t,c,q1,q2,λ_ p' q=>?_⟩ i N D;rw[v]at q;injection q with q;rw[<-q];exact q4
   ·have M:A2 (Ae (Gx x ((k:Int),((a.1,(m.2.1,(a.2.2.1,(a.2.2.2.1,(f,b))))),z))) (0,(a.1,(m.2.1,(a.2.2.1,(a.2.2.2.1,(f,b))))))) λr=> ∃i:List EN,r=(a.1,(m.2.1,(a.2.2.1,(a.2.2.2.1,(f,i)))))/\i.length<=b.length+4096/\ ∀y,y∈i↔y∈b\/y∈t.2.2.2.2.2:=K;refine AB M λad w=>?_;obtain⟨i,rfl,N,D⟩:=w;exact E ⟨l,t,c,q1,q2,λh0=>absurd h0 (by omega)⟩ i N D
  ·rw[Z];constructor
   ·rintro⟨j,r,C,d,n⟩;exact⟨j,r,d,n⟩
   ·rintro⟨j,r,d,n⟩;exact⟨j,r,by have:=JD d;omega,d,n⟩
 ·rcases hr with⟨u,rfl,hu⟩|⟨z,b,rfl,C,d⟩
  ·exact BK (AA λJ=>by dsimp only at J;rw[hu]at J;cases J)
  ·refine BG (AB YL λa0 Q=>AA λJ=>⟨Q.1 J,f,b,rfl,C,d⟩)
def AAA(a:AL)(lo n:Int):Prop:= ∃e∈E0 a,e.1.2.2.1=lo/\e.1.1<=n/\n<=e.1.2.1
def YI(a b:AL):Prop:= ∀lo n,AAA a lo n↔AAA b lo n
def oE{a:AL}(h:VB a){x y:NE}(f:x∈E0 a)(g:y∈E0 a)(k:x.2=y.2):x=y:=by
 have c:=oD h;rw[Q3]at c;rw[JE]at c;obtain⟨i,d,rfl⟩:=PE.1 f;obtain⟨j,e,rfl⟩:=PE.1 g;rcases Q7 i j with b|b|b
 ·have:=c i j d e b;omega
 ·subst b;rfl
 ·have:=c j i e d b;omega
structure xm(M:List NE)(lo hi:Int):Prop where
 same: ∀(k:Nat) (e:NE),M[k]? =some e->e.1.2.2.1=lo/\e.1.2.2.2.1=hi/\e.1.1<=e.1.2.1
 next: ∀(k:Nat) (e f:NE),M[k]? =some e->M[k+1]? =some f->f.1.1=e.1.2.1+1
def xm.cover{M:List NE}{r p:Int}(h:xm M r p){c:NE}(d:M[0]? =some c): ∀(k:Nat) (b:NE),M[k]? =some b->c.1.1<=b.1.1/\ ∀n:Int,c.1.1<=n->n<=b.1.2.1-> ∃j e,j<=k/\M[j]? =some e/\e.1.1<=n/\n<=e.1.2.1
 |0,b,a=>by rw[d]at a;injection a with a;subst a;exact⟨Ah _,λn f g=>⟨0,c,Aj _,d,f,g⟩⟩
 |k+1,b,a=>by
  have t:=JD a;have i:M[k]? =some (M[k]'(by omega)):=Ay (by omega);have q:=xm.cover h d k _ i;have hn:=h.next k _ _ i a
  have u:=(h.same k _ i).2.2;refine⟨by omega,λn f g=>?_⟩;by_cases o:n<=(M[k]'(by omega)).1.2.1
  ·obtain⟨j,e,s,l,m⟩:=q.2 n f o;exact⟨j,e,by omega,l,m⟩
  ·exact⟨k+1,b,Aj _,a,by omega,g⟩
def xm.le{M:List NE}{i g:Int}(h:xm M i g){k:Nat}{b:NE}(c:M[k]? =some b): ∀(d:Nat) (e:NE),M[k+d]? =some e->b.1.2.1<=e.1.2.1
 |0,e,a=>by rw[N0,c]at a;injection a with a;subst a;exact Ah _
 |d+1,e,a=>by
  have j:=JD a;have f:M[k+d]? =some (M[k+d]'(by omega)):=Ay (by omega);have m:=xm.le h c d _ f;have hn:=h.next (k+d) _ _ f a
  have l:=(h.same _ _ a).2.2;omega
def uK{e:Type}{l:List e}{a b:e}(c:a∈l)(d:b∈l)(h:a≠b):2<=l.length:=by
 cases l with
 |nil=>cases c
 |cons x r=>
  cases r with
  |nil=>rw[A5]at c d;exact absurd (c.trans d.symm) h
  |cons y r=>rw[BC,BC];omega
def gA{b:Type}(p:b->Bool): ∀l:List b,(l.filter p).length+(l.filter λa=>!p a).length=l.length
 |[]=>rfl
 |a::r=>by
  have:=gA p r;rw[Jw,Jw];cases p a
  ·simp only[F3,if_false,TM,if_true,BC];omega
  ·simp only[D9,F3,if_false,if_true,BC];omega
def W5(M:List NE)(l:List BQ):List BQ:=l.filter λf=>!(M.any λe=>e.2==f.2.1)
def eL{M:List NE}{l:List BQ}{f:BQ}:f∈W5 M l↔f∈l/\ ∀e∈M,e.2≠f.2.1:=by unfold W5;rw[Bi];simp only[RP,ib,beq_iff_eq]
def qT{L:List EN}{a:AL}{M:List NE}{w v:Int}(h:AR L a)(c: ∀e∈M,e∈E0 a)(q:xm M w v)(x:2<=M.length):(W5 M a.2.2.1).length+2<=a.2.2.1.length:=by
 have d:M[0]? =some (M[0]'(by omega)):=Ay (by omega);have p:M[1]? =some (M[1]'(by omega)):=Ay (by omega);have l:=BV d;have m:=BV p;have j:(M[0]'(by omega)).2≠(M[1]'(by omega)).2:=λi=>by
  have t:=oE h.vb (c _ l) (c _ m) i;have k:=q.next 0 _ _ d p
  have:=(q.same 0 _ d).2.2;rw[<-t]at k;omega
 obtain⟨f,r,_,n,_⟩:=h.mem (c _ l);obtain⟨g,s,_,o,_⟩:=h.mem (c _ m);have u:=gA (λf:BQ=>!(M.any λe=>e.2==f.2.1)) a.2.2.1;have:2<=(a.2.2.1.filter λf=>!!(M.any λe=>e.2==f.2.1)).length:=by
  refine uK (a:=f) (b:=g) ?_ ?_ λi=>j (by rw[n,o,i])
  ·rw[Bi,iW];exact⟨r,TN.2 ⟨_,l,by rw[n];exact beq_self_eq_true _⟩⟩
  ·rw[Bi,iW];exact⟨s,TN.2 ⟨_,m,by rw[o];exact beq_self_eq_true _⟩⟩
 unfold W5;omega
def wm{L:List EN}{a:AL}{M:List NE}{m l:Int}{s:Bf}(h:AR L a)(j: ∀e∈M,e∈E0 a)(k:xm M m l)(i:2<=M.length)(q:a.2.2.2.2<=1073741824):VB (a.1,(a.2.1,(W5 M a.2.2.1++[(1,(a.2.2.2.2,s))],(a.2.2.2.1,a.2.2.2.2+1)))):=by have p:=qT h j k i;obtain⟨b,c,d,f,n,o,g⟩:=h.vb;refine⟨b,c,d,by dsimp only;omega,by dsimp only;omega,by rw[Ad,BC,BH];omega,?_⟩;exact(g.sub (List.filter_sublist)).push f rfl rfl
def notM(M:List NE)(x:NE):Bool:= !(M.any λe=>e.2==x.2)
def my{L:List EN}{a b:AL}{M:List NE}{r:AU}{lo t:Int}{I T:NE}(hL:Uq L)(h:AR L a)(J: ∀e∈M,e∈E0 a)(V:xm M lo t)(h2:2≤M.length)(h0:M[0]? =some I)(hn:M[M.length-1]? =some T)
  (hr:VR r) (r1:r.1=I.1.1) (r2:r.2.1=T.1.2.1) (O:r.2.2.1=lo) (r4:r.2.2.2.1=t) (r5: ∀y,y∈r.2.2.2.2.2↔ ∃e∈M,y∈e.1.2.2.2.2.2)
  (hb:b=(a.1,(a.2.1,(W5 M a.2.2.1++[(1,(a.2.2.2.2,MJ r))],(a.2.2.2.1,a.2.2.2.2+1))))) (q:VB b):
  AR L b/\YI a b/\(AG a->AG b)/\ ∀c,RC a c->RC b c:=by
 have b1:b.1=a.1:=by rw[hb]
 have b2:b.2.1=a.2.1:=by rw[hb]
 have S:b.2.2.1=W5 M a.2.2.1++[(1,(a.2.2.2.2,MJ r))]:=by rw[hb]
 have b4:b.2.2.2.1=a.2.2.2.1:=by rw[hb]
 have m0:=BV h0;have mn:=BV hn;have z: ∀n:Int,(r.1<=n/\n<=r.2.1)↔ ∃e∈M,e.1.1<=n/\n<=e.1.2.1:=λn=>by
  constructor
  ·rintro⟨B,C⟩;obtain⟨j,e,_,q2,q3⟩:=(V.cover h0 _ T hn).2 n (by omega) (by omega);exact⟨e,BV q2,q3⟩
  ·rintro⟨e,i,B,C⟩;obtain⟨k,W⟩:=G4.1 i;have q1:=(V.cover h0 k e W).1;have a3:=JD W;have q2:=V.le W (M.length-1-k) T (by rw[show k+(M.length-1-k)=M.length-1 by omega];exact hn);omega
 have Z: ∀e∈M,bp L e.1:=λe i=>by obtain⟨f,_,_,_,g,_⟩:=h.mem (J e i);exact g
 have p: ∀e∈M,e.1.2.2.1=lo/\e.1.2.2.2.1=t/\e.1.1<=e.1.2.1:=λe i=>by obtain⟨k,W⟩:=G4.1 i;exact V.same k e W
 have ad:bp L r:=by
  refine hr.runOf hL λy=>?_;rw[r5,O,r4];constructor
  ·rintro⟨e,i,N⟩;have g:=((Z e i).mem y).1 N;obtain⟨p1,p2,p3⟩:=p e i;have:=(z y.1).2 ⟨e,i,g.2.2.2.2⟩;exact⟨g.1,g.2.1,by omega,by omega,this.1,this.2⟩
  ·rintro⟨B,C,P,g4,g5,g6⟩;obtain⟨e,i,q1,q2⟩:=(z y.1).1 ⟨g5,g6⟩;obtain⟨p1,p2,p3⟩:=p e i;exact⟨e,i,((Z e i).mem y).2 ⟨B,C,by omega,by omega,q1,q2⟩⟩
 have K:Kx a r.2.2.1 r.2.2.2.1:=by obtain⟨f,_,g,_⟩:=h.mem (J I m0);obtain⟨p1,p2,p3⟩:=p I m0;rw[O,r4,<-p1,<-p2];exact g.2.2.2
 have u:Good b (1,(a.2.2.2.2,MJ r)) r:=⟨rfl,rfl,hr,(Kx.congr b1 b2).1 K⟩
 have v: ∀{f:BQ} {s:AU},Good a f s->Good b f s:=λg=>g.congr b1 b2;have l: ∀x∈E0 b,(x∈E0 a/\ ∀e∈M,e.2≠x.2)\/x=(r,a.2.2.2.2):=λx w=>by
  unfold E0 at w;rw[S]at w;obtain⟨f,d,t⟩:=Nx.1 w;rcases Ar.1 d with d|d
  ·obtain⟨f1,f2⟩:=eL.1 d;rcases h.files f f1 with U|⟨s,s1,s2,s3⟩
   ·rw[U.intR q.1]at t;cases t
   ·rw[(v s1).intR q.1]at t;injection t with t;subst t;exact .inl ⟨U8 h.vb.1 f1 s1,f2⟩
  ·rw[A5]at d;subst d;rw[u.intR q.1]at t;injection t with t;exact .inr t.symm
 have ax: ∀x∈E0 a,(∀e∈M,e.2≠x.2)->x∈E0 b:=λx w Q=>by
  obtain⟨f,f1,f2,f3,_⟩:=h.mem w;have:f∈b.2.2.1:=by rw[S];exact Ar.2 (.inl (eL.2 ⟨f1,λe i=>f3▸Q e i⟩))
  have:=U8 q.1 this (v f2);rw[<-f3]at this;exact this
 have Y:(r,a.2.2.2.2)∈E0 b:=U8 q.1 (by rw[S];exact Ar.2 (.inr (A5.2 rfl))) u;have al: ∀x∈E0 a,x.1.1<=x.1.2.1:=λx w=>by obtain⟨f,_,g,_⟩:=h.mem w;exact g.2.2.1.1.2.1
 have a1:r.1<=r.2.1:=hr.1.2.1;have A: ∀y∈E0 a,(∀e∈M,e.2≠y.2)->y.1.2.2.1=lo->r.2.1<y.1.1\/y.1.2.1<r.1:=λy N Q o=>by refine U2 λF=>?_;have a5:=al y N;obtain⟨e,i,q1,q2⟩:=(z (if y.1.1<=r.1 then r.1 else y.1.1)).1 (by split<;>omega);have D:e≠y:=λF=>Q e i (by rw[F]);have:=h.dis e (J e i) y N D ((p e i).1.trans o.symm);split at q1<;>split at q2<;>omega
 refine⟨⟨q,λf d=>?_,λx w y N D o=>?_⟩,λm n=>?_,λap f d=>?_,λc hc m=>?_⟩
 ·rw[S]at d;rw[b4];rcases Ar.1 d with d|d
  ·exact(h.files f (eL.1 d).1).imp id λ⟨s,s1,s2,s3⟩=>⟨s,v s1,s2,s3⟩
  ·rw[A5]at d;subst d;obtain⟨f,_,_,_,_,g⟩:=h.mem (J T mn);exact .inr ⟨r,u,ad,by omega⟩
 ·rcases l x w with⟨R,x2⟩|rfl
  ·rcases l y N with⟨y1,y2⟩|rfl
   ·exact h.dis x R y y1 D o
   ·have:=A x R x2 (o.trans O);exact this.symm
  ·rcases l y N with⟨y1,y2⟩|rfl
   ·exact A y y1 y2 (o.symm.trans O)
   ·exact absurd rfl D
 ·constructor
  ·rintro⟨e,i,B,C,P⟩;by_cases Q: ∃f∈M,f.2=e.2
   ·obtain⟨f,d,ar⟩:=Q;have:=oE h.vb (J f d) i ar;subst this;have hc:=(z n).2 ⟨f,d,C,P⟩;exact⟨_,Y,by rw[<-B,(p f d).1];exact O,hc.1,hc.2⟩
   ·exact⟨e,ax e i λf d F=>Q ⟨f,d,F⟩,B,C,P⟩
  ·rintro⟨e,i,B,C,P⟩;rcases l e i with⟨q1,q2⟩|rfl
   ·exact⟨e,q1,B,C,P⟩
   ·obtain⟨f,d,q1,q2⟩:=(z n).1 ⟨C,P⟩;exact⟨f,J f d,by rw[(p f d).1,<-B];exact O.symm,q1,q2⟩
 ·rw[S]at d;rcases Ar.1 d with d|d
  ·obtain⟨s,hs⟩:=ap f (eL.1 d).1;exact⟨s,v hs⟩
  ·rw[A5]at d;subst d;exact⟨r,u⟩
 ·have X:=(T1 q).filter λe=>e.1.2.2.1==m;have a2:=hc m;by_cases hl:m=lo
  ·subst hl;have H:=eQ _ ((r,a.2.2.2.2)::((E0 a).filter λe=>e.1.2.2.1==m).filter (notM M)) X λx w=>by
    obtain⟨x0,E⟩:=Bi.1 w;rcases l x x0 with⟨R,x2⟩|rfl
    ·refine Al.2 (.inr (Bi.2 ⟨Bi.2 ⟨R,E⟩,?_⟩));unfold notM;simp only[RP,ib,beq_iff_eq];exact x2
    ·exact Al.2 (.inl rfl)
   have a4:=gA (notM M) ((E0 a).filter λe=>e.1.2.2.1==m);have h1:M[1]? =some (M[1]'(by omega)):=Ay (by omega);have m1:=BV h1;have a6:2<=(((E0 a).filter λe=>e.1.2.2.1==m).filter λx=>!notM M x).length:=by
    have G: ∀e∈M,e∈((E0 a).filter λe=>e.1.2.2.1==m).filter λx=>!notM M x:=λe i=>by refine Bi.2 ⟨Bi.2 ⟨J e i,by rw[(p e i).1];exact beq_self_eq_true _⟩,?_⟩;unfold notM;rw[iW];exact TN.2 ⟨e,i,beq_self_eq_true _⟩
    refine uK (G I m0) (G _ m1) λF=>?_;have a0:=V.next 0 I _ h0 h1
    have:=(p I m0).2.2;rw[<-F]at a0;omega
   rw[BC]at H;omega
  ·have H:=eQ _ ((E0 a).filter λe=>e.1.2.2.1==m) X λx w=>by
    obtain⟨x0,E⟩:=Bi.1 w;rcases l x x0 with⟨R,x2⟩|rfl
    ·exact Bi.2 ⟨R,E⟩
    ·exact absurd (eq_of_beq E) λF=>hl (F.symm.trans O)
   omega
def So(v1:List AU×List Int×List Bool)(i n:Nat):List NE:=((v1.1.zip v1.2.1).drop i).take n
def ot{a:List AU×List Int×List Bool}{i n k:Nat}{e:NE}(b:k<n):(So a i n)[k]? =some e↔a.1[i+k]? =some e.1/\a.2.1[i+k]? =some e.2:=by unfold So;grind
def yB{x:AL×Int}{a:List AU×List Int×List Bool}{i n j:Nat}{f:BQ}{z:AL}{w:List BQ×List Int×Int×Int×Int}(hn:x.2=n)(u:n<=8)(A:a.2.1.length=a.1.length)(v:i+n<=a.1.length)(t:a.1.length<=4096)(m:x.1.2.2.1[j]? =some f):A2 (Ae (Nj x a ((i:Int),z) ((j:Int),w)) (false,(i:Int))) λr=>r=(So a i n).any λe=>e.2==f.2.1:=by
 have p:(So a i n).length=n:=by unfold So;rw[List.length_take,List.length_drop,List.length_zip];omega
 have d:ix x.1.2.2.1 (j:Int)=some f:=by unfold ix;rw[if_pos (by omega),Int.toNat_natCast,m]
 refine Oc (λ(s:Bool×Int)=> ∃k:Nat,s=(((So a i n).take k).any (λe=>e.2==f.2.1),((i+k:Nat):Int))/\k<=n) (λs=>i+n-s.2.toNat) ⟨0,by simp,Cc _⟩ ?_;rintro s ⟨k,rfl,y⟩;unfold Nj;dsimp only;rw[hn,AY (x:=(i:Int)+(n:Int)) (by omega),AY (x:=((i+k:Nat):Int)+1) (by omega)];refine AC (λl=>?_) (λl=>A2.done (by grind));have b:k<n:=by omega
 have hr:a.1[i+k]? =some (a.1[i+k]'(by omega)):=Ay (by omega);have h:a.2.1[i+k]? =some (a.2.1[i+k]'(by omega)):=Ay (by omega);have o:=(ot (e:=(a.1[i+k]'(by omega),a.2.1[i+k]'(by omega))) b).2 ⟨hr,h⟩;have c:ix a.2.1 ((i+k:Nat):Int)=some (a.2.1[i+k]'(by omega)):=by unfold ix;rw[if_pos (by omega),Int.toNat_natCast,h]
 have q:(So a i n).take (k+1)=(So a i n).take k++[(a.1[i+k]'(by omega),a.2.1[i+k]'(by omega))]:=by rw[Ff,o];rfl
 refine AE (λg=>A2.next ⟨k+1,?_,b⟩ (by grind)) (λg=>?_)
 ·grind
 ·rw[c,AJ,d,AJ];refine A2.next ⟨k+1,?_,b⟩ (by omega)
  rw[q,List.any_append,g,Bool.false_or];refine F9 ?_ (by grind);dsimp only;rw[List.any_cons,List.any_nil,Bool.or_false]
def yA{x:AL×Int}{a:List AU×List Int×List Bool}{i n:Nat}{z:AL}(hn:x.2=n)(m:n<=8)(u:a.2.1.length=a.1.length)(p:i+n<=a.1.length)(l:a.1.length<=4096)(y:x.1.2.2.1.length<=256):A2 (Ae (Ni x a ((i:Int),z)) (0,([],(x.1.1,(x.1.2.1,x.1.2.2.2))))) λr=>r=(W5 (So a i n) x.1.2.2.1,(x.1.1,(x.1.2.1,x.1.2.2.2))):=by
 refine Oc (λ(q:Int×List BQ×List Int×Int×Int×Int)=> ∃j:Nat,q=((j:Int),(W5 (So a i n) (x.1.2.2.1.take j),(x.1.1,(x.1.2.1,x.1.2.2.2))))/\j<=x.1.2.2.1.length) (λq=>x.1.2.2.1.length-q.1.toNat) ⟨0,rfl,Cc _⟩ ?_;rintro q ⟨j,rfl,A⟩;unfold Ni;simp only[len];rw[AY (by omega)];refine AC (λo=>?_) (λo=>A2.done (by grind));have d:x.1.2.2.1[j]? =some (x.1.2.2.1[j]'(by omega)):=Ay (by omega);have e:ix x.1.2.2.1 (j:Int)=some (x.1.2.2.1[j]'(by omega)):=by unfold ix;rw[if_pos (by omega),Int.toNat_natCast,d]
 refine AB (yB hn m u p l d) λg k=>?_;have f:W5 (So a i n) (x.1.2.2.1.take (j+1))=W5 (So a i n) (x.1.2.2.1.take j)++(if g=true then []else [x.1.2.2.1[j]'(by omega)]):=by rw[Ff,d,J6];unfold W5;grind
 refine AB (P:=λt=>t=(W5 (So a i n) (x.1.2.2.1.take (j+1)),(x.1.1,(x.1.2.1,x.1.2.2.2)))) ?_ λw c=>?_
 ·refine AO (λh=>?_) (λh=>AA ?_)
  ·rw[e,AJ];have s:(W5 (So a i n) (x.1.2.2.1.take j)).length<=256:=by apply D4 (J4 _ _);rw[Cn];omega
   refine AB (Ac (by simp;omega)) λv b=>AA ?_;rw[b.1,f,h,if_neg (by decide)]
  ·grind
 ·rw[c];exact A2.next ⟨j+1,by grind,by omega⟩ (by grind)
def zg(L:List EN)(x:AL×Int)(r:AL×Bool×Int):Prop:=
 (x.1.2.2.2.2<=1073741824->r.2.2=0)/\(r.2.2=0->(r.2.1=false/\r.1=x.1)\/(r.2.1=true/\AR L r.1/\YI x.1 r.1/\(AG x.1->AG r.1)/\(∀c,RC x.1 c->RC r.1 c)/\r.1.1=x.1.1/\r.1.2.1=x.1.2.1/\r.1.2.2.2.1=x.1.2.2.2.1/\r.1.2.2.2.2=x.1.2.2.2.2+1/\r.1.2.2.1.length+1<=x.1.2.2.1.length/\x.1.2.2.2.2<=1073741824))
theorem AAE{L:List EN}{x:AL×Int}(hL:Uq L)(h:AR L x.1)(hf:2<=x.2/\x.2<=8):A2 (L7 x) (zg L x):=by
 have hs:=h.sa;obtain⟨n,hn⟩:=Er (show 0<=x.2 by omega);have q:x.1.2.2.1.length<=256:=by have:=h.vb.2.2.2.2.2.1;omega
 have al:=h.vb.2.2.2.1;unfold L7;obtain⟨v0,V,W⟩:=pd (x:=x.1);have Y:=W.2 h.vb;subst Y;rw[V,AJ,D9,cond_false,decide_eq_false (by omega),cond_false,decide_eq_false (by omega),cond_false];refine AB (vg h) λa p=>?_;obtain⟨⟨t1,t2,t3,t4⟩,hw⟩:=p;have t: ∀e∈E0 x.1,VR e.1/\ ∀y∈e.1.2.2.2.2.2,y∈L:=λe v=>by obtain⟨f,_,g,_,g2,_⟩:=h.mem v;exact⟨g.2.2.1,λy hy=>((g2.mem y).1 hy).1⟩
 refine AB (P:=λr=>(∃z,r= .inr z)\/ ∃u,r= .inl u/\zg L x (u.2.2,(u.1,u.2.1))) ?_ λr hr=>?_
 ·refine Oc (λ(s:Int×AL)=>0<=s.1/\s.1<=a.1.length) (λ(s:Int×AL)=>((a.1.length:Int)-s.1).toNat) ⟨Ah _,by dsimp only;omega⟩ (λs hI=>?_);obtain⟨i',z⟩:=s;obtain⟨E,i2⟩:=hI;dsimp only at E i2;obtain⟨i,rfl⟩:=Er E;unfold Rr;dsimp only;rw[AY (x:=(i:Int)+1) (by omega),AY (x:=(i:Int)+x.2) (by omega)];refine AC (λhc=>?_) (λ_=>A2.done (.inl ⟨_,rfl⟩));simp only[len]at hc;refine AB (B0 E (by omega) (by omega)) λd h3=>?_;refine AB (B0 E (by omega) (by omega)) λv4 h4=>?_;have l3:=h3.2;have l4:=h4.2;have m: ∀k,k<n->d[k]? =a.1[i+k]? :=λk c=>by rw[h3.1,IP,if_pos (by omega),Hm,DP]
  have G: ∀k,k<n->v4[k]? =a.2.2[i+k]? :=λk c=>by rw[h4.1,IP,if_pos (by omega),Hm,DP]
  have A: ∀{k:Nat} {r:AU},d[k]? =some r->k<n:=λ{k r} c=>by have:=JD c;omega
  have j: ∀(k:Nat) (r:AU),d[k]? =some r->v4[k]? =some true-> ∃id,a.2.1[i+k]? =some id/\(r,id)∈E0 x.1:=λk r p h2=>by have c:=A p;rw[m k c]at p;rw[G k c]at h2;have ar:=JD p;have l:a.2.1[i+k]? =some (a.2.1[i+k]'(by omega)):=Ay (by omega);refine⟨_,l,?_⟩;refine hw ((r,a.2.1[i+k]'(by omega)),true) ?_ rfl;refine G4.2 ⟨i+k,?_⟩;rw[fR,fR];exact⟨⟨p,l⟩,h2⟩
  have T:d.length=n:=by omega
  have J:d[0]? =some (d[0]'(by omega)):=Ay (by omega);have K:d[d.length-1]? =some (d[d.length-1]'(by omega)):=Ay (by omega);generalize d[0]'(by omega)=r0 at J;generalize d[d.length-1]'(by omega)=rn at K;refine AB (yc (x:=(d,v4)) hL (λk r q1 q2=>?_) ⟨by dsimp only;omega,by dsimp only;omega⟩ (by dsimp only;omega) J K) λv5 h5=>?_
  ·obtain⟨id,_,q3⟩:=j k r q1 q2;exact t _ q3
  refine AO (λ_=>A2.next ⟨by dsimp only;omega,by dsimp only;omega⟩ (by dsimp only;omega)) (λU=>?_);obtain⟨w1,lv,es,C,F,w4⟩:=h5 U;dsimp only at F w4;refine AC (λad=>A2.done (.inr ⟨_,rfl,λhh=>absurd hh (by omega),λhz=>absurd (show(21:Int)=0 from hz) (by decide)⟩)) (λax=>?_);have hi:i+n<=a.1.length:=by omega
  have R:(So a i n).length=n:=by unfold So;rw[List.length_take,List.length_drop,List.length_zip];omega
  have b: ∀(k:Nat) (e:NE),(So a i n)[k]? =some e->k<n/\d[k]? =some e.1/\a.2.1[i+k]? =some e.2:=λk e c=>by
   have o:k<n:=by grind
   have:=(ot o).1 c;exact⟨o,by rw[m k o];exact this.1,this.2⟩
  have D: ∀e∈So a i n,e∈E0 x.1:=λe v=>by obtain⟨k,c⟩:=G4.1 v;obtain⟨k1,w,Z⟩:=b k e c;obtain⟨q1,_⟩:=F k (by omega);obtain⟨id,q2,q3⟩:=j k e.1 w q1;rw[Z]at q2;injection q2 with q2;rw[<-q2]at q3;exact q3
  have O:xm (So a i n) r0.2.2.1 r0.2.2.2.1:=by
   refine⟨λk e c=>?_,λk e f c hf=>?_⟩
   ·obtain⟨k1,w,Z⟩:=b k e c;obtain⟨_,r,q1,q2,q3,_⟩:=F k (by omega);dsimp only at q1;rw[w]at q1;injection q1 with q1;subst q1;exact⟨q2,q3,(t e (D e (BV c))).1.1.2.1⟩
   ·obtain⟨k1,w,Z⟩:=b k e c;obtain⟨f1,f2,f3⟩:=b (k+1) f hf;obtain⟨_,r,q1,_,_,q2⟩:=F (k+1) (by omega);dsimp only at q1 q2;rw[f2]at q1;injection q1 with q1;subst q1;exact q2 (by omega) e.1 (by rw[fY];exact w)
  have H:(So a i n)[0]? =some ((So a i n)[0]'(by omega)):=Ay (by omega);have I:(So a i n)[(So a i n).length-1]? =some ((So a i n)[(So a i n).length-1]'(by omega)):=Ay (by omega);generalize (So a i n)[0]'(by omega)=m0 at H;generalize (So a i n)[(So a i n).length-1]'(by omega)=mn at I;have Q:m0.1=r0:=by have:=(b 0 m0 H).2.1;rw[J]at this;exact(C2 this).symm
  have S:mn.1=rn:=by have:=(b _ mn I).2.1;rw[R,<-T,K]at this;exact(C2 this).symm
  refine AB (yA hn (by omega) t1 hi (by omega) q) λa0 M=>?_;subst M;rw[jn w1,AJ];dsimp only;have ap:=qT h D O (by omega);refine AB (Ac (by simp;omega)) λa1 N=>?_;rw[AY (x:=x.1.2.2.2.2+1) (by omega),N.1];have X:=wm (s:=MJ v5.1) h D O (by omega) (by omega);have key:=my (r:=v5.1) hL h D O (by omega) H I w1 (by rw[C,Q]) (by rw[C,S]) (by rw[C]) (by rw[C]) (λy=>by
   rw[C];dsimp only;rw[w4];constructor
   ·rintro⟨k,r,q1,q2⟩;have c:=A q1;have B:=q1;rw[m k c]at B;have l:a.2.1[i+k]? =some (a.2.1[i+k]'(by omega)):=Ay (by omega);exact⟨(r,_),BV ((ot (e:=(r,a.2.1[i+k]'(by omega))) c).2 ⟨B,l⟩),q2⟩
   ·rintro⟨e,v,q2⟩;obtain⟨k,c⟩:=G4.1 v;exact⟨k,e.1,(b k e c).2.1,q2⟩) rfl X
  refine A2.done (.inr ⟨_,rfl,λ_=>rfl,λ_=>.inr ⟨rfl,key.1,key.2.1,key.2.2.1,key.2.2.2,rfl,rfl,rfl,rfl,?_,by omega⟩⟩);dsimp only;rw[Ad,BC,BH];omega
 ·rcases hr with⟨z,rfl⟩|⟨u,rfl,hu⟩
  ·exact BG (AA ⟨λ_=>rfl,λ_=>.inl ⟨rfl,rfl⟩⟩)
  ·exact BK (AA hu)
def YI.refl(a:AL):YI a a:=λ_ _=>Iff.rfl
def YI.trans{a b c:AL}(h:YI a b)(g:YI b c):YI a c:=λd n=>(h d n).trans (g d n)
def vf{L:List EN}{x:AL×Int}{m:Int}(q:Uq L)(h:AR L x.1)(u:2<=x.2/\x.2<=8)(v:SF x.1 m)(w:m<=1073741824):A2 (HM x) λr=>r.2=0/\AR L r.1/\YI x.1 r.1/\(AG x.1->AG r.1)/\(∀c,RC x.1 c->RC r.1 c)/\SF r.1 m/\r.1.1=x.1.1/\r.1.2.1=x.1.2.1/\r.1.2.2.2.1=x.1.2.2.2.1:=by
 unfold HM;refine AB (P:=λr=>r.1=0/\AR L r.2/\YI x.1 r.2/\(AG x.1->AG r.2)/\(∀c,RC x.1 c->RC r.2 c)/\SF r.2 m/\r.2.1=x.1.1/\r.2.2.1=x.1.2.1/\r.2.2.2.2.1=x.1.2.2.2.1) ?_ λr hr=>AA hr;refine Oc (λ(s:AL×AL)=>AR L s.1/\YI x.1 s.1/\(AG x.1->AG s.1)/\(∀c,RC x.1 c->RC s.1 c)/\SF s.1 m/\s.1.1=x.1.1/\s.1.2.1=x.1.2.1/\s.1.2.2.2.1=x.1.2.2.2.1) (λs=>s.1.2.2.1.length) ⟨h,YI.refl _,id,λ_=>id,v,rfl,rfl,rfl⟩ (λs p=>?_);obtain⟨e,f,l,n,g,i,j,k⟩:=p;unfold Rs;refine AB (AAE (x:=(s.1,x.2)) q e u) λC o=>?_;obtain⟨y,z⟩:=o;have b:s.1.2.2.2.2<=1073741824:=by unfold SF at g;omega
 have d:=y b;refine AK (λt=>absurd d t) (λ_=>?_);rcases z d with⟨q1,q2⟩|⟨q1,q2,q3,A,B,q4,q5,q6,q7,q8,q9⟩
 ·rw[q1,TM,cond_true];exact A2.done ⟨rfl,e,f,l,n,g,i,j,k⟩
 ·rw[q1,D9,cond_false];dsimp only at q3 q4 q5 q6 q7 q8;exact A2.next ⟨q2,f.trans q3,λa=>A (l a),λc a=>B c (n c a),by unfold SF at*;dsimp only;omega,q4.trans i,q5.trans j,q6.trans k⟩ (by dsimp only;omega)
def sy{b:UInt8}{n:Int}(h:0<=n)(o:n<255):GA ([IntKind.wrap .u8 (((BitVec.toNat ((BitVec.ofInt 8 (b.toNat:Int))^^^(BitVec.ofInt 8 (IntKind.wrap .u8 (wi (1+n)))))):Nat):Int)]:List Int)=[UInt8.ofNat (BitVec.ofNat 8 b.toNat^^^BitVec.ofNat 8 (1+n).toNat).toNat]/\b≠UInt8.ofNat (BitVec.ofNat 8 b.toNat^^^BitVec.ofNat 8 (1+n).toNat).toNat:=by
 obtain⟨m,rfl⟩:=Er h;have p:=b.toNat_lt;have d:wi (1+(m:Int))=((1+m:Nat):Int):=by rw[AY (by omega)];omega
 have e:IntKind.wrap .u8 ((1+m:Nat):Int)=((1+m:Nat):Int):=by rw[zb];omega
 have f:(1+(m:Int)).toNat=1+m:=by omega
 rw[d,e,f,TL,TL];have l:=(BitVec.ofNat 8 b.toNat^^^BitVec.ofNat 8 (1+m)).isLt;refine⟨?_,λk=>?_⟩
 ·have g:IntKind.wrap .u8 (((BitVec.ofNat 8 b.toNat^^^BitVec.ofNat 8 (1+m)).toNat:Nat):Int)=(((BitVec.ofNat 8 b.toNat^^^BitVec.ofNat 8 (1+m)).toNat:Nat):Int):=by rw[zb];omega
  rw[g];rfl
 ·have a:=congrArg UInt8.toNat k;rw[VS,PI (by omega)]at a;have i:BitVec.ofNat 8 b.toNat=BitVec.ofNat 8 b.toNat^^^BitVec.ofNat 8 (1+m):=by apply nI;rw[<-a,Oe];omega
  have c:BitVec.ofNat 8 b.toNat^^^BitVec.ofNat 8 b.toNat=BitVec.ofNat 8 b.toNat^^^(BitVec.ofNat 8 b.toNat^^^BitVec.ofNat 8 (1+m)):=congrArg (BitVec.ofNat 8 b.toNat^^^ ·) i;rw[<-YO,U1,YP]at c;have j:=congrArg BitVec.toNat c;rw[Oe,Oe]at j;omega
def vd{b:AP}{s:Bf}(h:CX b)(A:s.length≠0)(B:s.length<=1099511627775):A2 (Fy b s) λr=>CX r.2/\zh s r.1/\r.1.length<=s.length+1:=by
 unfold Fy;simp only[len];refine AS (λv=>absurd v (by omega)) (λ_=>?_);refine AB (Aa h (by omega)) λE p=>?_;obtain⟨o,k0,k1⟩:=p;obtain⟨k,u⟩:=Er k0;refine AB (Aa o (by decide)) λF g=>?_;rw[u,AY (by omega)];have e:k<s.length:=by omega
 have a:s=s.take k++s[k]::s.drop (k+1):=by rw[<-U3 e,FG]
 have m:Ry s 0 (k:Int)=some (s.take k):=by unfold Ry;rw[if_pos (by omega)];rfl
 have n:Ry s ((k:Int)+1) (s.length:Int)=some (s.drop (k+1)):=by unfold Ry;rw[if_pos (by omega),show((k:Int)+1).toNat=k+1 by omega];exact congrArg some (Dq (by rw[Fc];omega))
 have C:(s.take k).length=k:=by rw[Cn];omega
 have D:(s.drop (k+1)).length=s.length-(k+1):=Fc;refine AS (λ_=>?_) (λ_=>?_)
 ·rw[m,AJ,n,AJ];refine AB (CE (by omega)) λG q=>AA ⟨g.1,.less _ _ _ a q.1,by dsimp only;omega⟩
 refine AS (λ_=>?_) (λ_=>?_)
 ·refine AB (Aa g.1 (by decide)) λz t=>?_;refine AB (CE (by rw[LU];simp;omega)) λH l=>AA ⟨t.1,?_,?_⟩
  ·exact .more s [] (UInt8.ofNat (IntKind.wrap .u8 z.1).toNat) (DQ s).symm (by rw[l.1];rfl)
  ·have:=l.2;rw[LU]at this;simp only[BC,BH]at this;dsimp only;omega
 ·rw[m,AJ];have i:six s (k:Int)=some ((s[k].toNat:Nat):Int):=by unfold six;rw[if_pos (by omega),DP,Ay e];rfl
  rw[i,AJ,n,AJ];refine AB (Aa g.1 (by decide)) λw c=>?_;obtain⟨q1,q2⟩:=sy (b:=s[k]) c.2.1 (by omega);rw[q1];refine AB (CE (by simp;omega)) λx d=>?_;have j:=d.2;simp only[BC,BH]at j;refine AB (CE (by omega)) λy f=>AA ⟨c.1,.other _ _ _ _ q2 a ?_,by dsimp only;omega⟩;rw[f.1,d.1,Ax];rfl
theorem rJ{a:AL}{b:AP}(E:AG a)(h:CX b)(M:a.2.2.1.length<=1000000):A2 (Fi b a.2.2.1) λr=>CX r.2/\ ∀f∈r.1,f∈a.2.2.1\/z0 f:=by
 unfold Fi;generalize l:a.2.2.1=x at*;refine AS (λ_=>AA ⟨h,λf d=>by simp at d⟩) (λj=>?_);simp only[len]at j;refine AB (Aa h (by simp only[len];omega)) λJ z=>?_;obtain⟨v,c,y⟩:=z;simp only[len]at y;rw[AY (x:=J.1+1) (by omega)];refine AB (Aa v (by decide)) λN n=>?_;refine AS (λ_=>?_) (λ_=>?_)
 ·refine AB (B0 (Ah _) c (by omega)) λO o=>?_;refine AB (B0 (by omega) (by simp only[len];omega) (by simp only[len];omega)) λP p=>?_;have l2:=o.2;have H:=p.2;simp only[len]at H;refine AB (Ac (by simp;omega)) λQ q=>?_;have I:=q.2.1;simp only[BH]at I;refine AB (Ac (by omega)) λR B=>AA ⟨n.1,λf d=>.inl ?_⟩;dsimp only at d;rw[B.1,q.1,o.1,p.1,CA]at d;rcases Ar.1 d with w|w
  ·exact TG (ME w)
  ·exact TG (ME w)
 ·refine AB (Ac (by simp;omega)) λS C=>?_;have m:=C.1;rw[CA]at m;subst m;refine AB (AD c (by omega)) λT _=>?_;refine AB (AD c (by omega)) λu D=>?_;obtain⟨r,hr⟩:=E u (by rw[l];exact D.2);have G:=hr.size;have k:u.2.2.length≠0:=by rw[hr.2.1];unfold MJ;rw[Ad,JX];omega
  refine AB (vd n.1 k (by omega)) λU i=>?_;refine AB (AD c (by omega)) λK _=>?_;refine AB (AD c (by omega)) λL A=>AA ⟨i.1,λf e=>?_⟩;simp only[BZ]at e;rcases Q2 e with w|w
  ·exact .inl w
  ·refine .inr ?_;rw[w];refine⟨by have:=i.2.2;dsimp only;omega,λs F t=>?_⟩;dsimp only at t;have g:=i.2.1;rw[t,hr.2.1]at g;exact ww hr.2.2.1.wr F g
def uP{L:List EN}{a:AL}{b:AP}{m:Int}(h:AR L a)(p:AG a)(k:CX b)(J:SF a m):A2 (Fi b a.2.2.1) λr=>CX r.2/\AR L (a.1,(a.2.1,(r.1,a.2.2.2)))/\(∀c,RC a c->RC (a.1,(a.2.1,(r.1,a.2.2.2))) c)/\SF (a.1,(a.2.1,(r.1,a.2.2.2))) m:=by
 obtain⟨B,C,D,E,F,K,G⟩:=id h.vb;refine((uQ G k (by omega) h.sa.2.2).and (rJ p k (by omega))).mono λr hr=>?_;obtain⟨⟨H,M,I,N⟩,_,u⟩:=hr;have i:VB (a.1,(a.2.1,(r.1,a.2.2.2))):=⟨B,C,D,E,F,by dsimp only;omega,I⟩
 have g: ∀e∈E0 (a.1,(a.2.1,(r.1,a.2.2.2))),e∈E0 a:=λe o=>by
  unfold E0 at o;obtain⟨f,d,j⟩:=Nx.1 o;rcases u f d with d|d
  ·obtain⟨s,q⟩:=p f d;have n:Good (a.1,(a.2.1,(r.1,a.2.2.2))) f s:=q.congr rfl rfl;rw[n.intR i.1]at j;injection j with j;subst j;exact U8 h.vb.1 d q
  ·rw[d.intR i.1]at j;cases j
 refine⟨H,⟨i,λf d=>?_,λx l y v=>h.dis x (g x l) y (g y v)⟩,λc k t=>?_,by unfold SF at*;dsimp only;omega⟩;rotate_left
 ·exact D4 (eQ _ ((E0 a).filter λe=>e.1.2.2.1==t) ((T1 i).filter _) λx l=>Bi.2 ⟨g x (Bi.1 l).1,(Bi.1 l).2⟩) (k t)
 rcases u f d with d|d
 ·exact(h.files f d).imp id λ⟨s,w,z,A⟩=>⟨s,w.congr rfl rfl,z,A⟩
 ·exact .inl d
def AAD{L:List EN}{x:Int×List Int}(h:BD x.1 x.2):A2 (El x) λr=>AR L r.1/\AG r.1/\RC r.1 0/\SF r.1 1/\r.1.2.1=x.1/\r.1.2.2.2.1=1:=by
 have b:A2 (El x) λr=>r.2=0->r.1.2.2.1=[]/\r.1.2.2.2.2=1:=by
  unfold El;refine AB Z7 λp c=>?_;refine AO (λi=>AA λn=>?_) (λ_=>?_)
  ·rw[c.2 h]at i;cases i
  have m:=h.2.2.2.1;exact AB (Ac (by simp;omega)) λq g=>AA λ_=>⟨rfl,rfl⟩
 refine((vY h).and b).mono λr hr=>?_;obtain⟨⟨c,g,j,k⟩,a⟩:=hr;obtain⟨a,l⟩:=a c;refine⟨⟨g,λf b=>?_,λe d=>?_⟩,λf b=>?_,λo=>?_,?_,j,k⟩
 ·rw[a]at b;cases b
 ·unfold E0 at d;rw[a]at d;cases d
 ·rw[a]at b;cases b
 ·unfold E0;rw[a];exact Aj _
 ·unfold SF;rw[a,l];decide
def AX(L:List EN)(n d m:Int)(a:AL):Prop:=AR L a/\AG a/\(∃c:Nat,RC a c/\100*(c:Int)<=m+99)/\SF a m/\a.2.1=n/\a.2.2.2.1<=d+1
def AX.step{n m:Int}{a:AL}{l:Am}{c:Int}(j:D3 l)(h:AX l.2.1 n l.2.2 m a):A2 (EU (a,(l,c))) λr=>r.2=0->AX l.2.1 n l.2.2 (m+100) r.1:=by obtain⟨b,d,⟨k,g,i⟩,e,f,q⟩:=h;refine(yD (x:=(a,(l,c))) b j e).mono λr hr o=>?_;obtain⟨q1,q2,p,q3,q4,q5⟩:=hr o;exact⟨q1,q2 d,⟨k+1,p k g,by omega⟩,by unfold SF at*;omega,q4.trans f,by dsimp only at q5;omega⟩
def AX.mono{L:List EN}{n d m k:Int}{a:AL}(h:AX L n d m a)(o:m<=k):AX L n d k a:=by obtain⟨b,e,⟨c,i,j⟩,l,f,g⟩:=h;exact⟨b,e,⟨c,i,by omega⟩,by unfold SF at*;omega,f,g⟩
def AX.tidy{L:List EN}{n d m:Int}{a:AL}{c:Int}(j:Uq L)(h:AX L n d m a)(p:m<=1073741824)(l:2<=c/\c<=8):A2 (HM (a,c)) λr=>AX L n d m r.1:=by obtain⟨e,f,⟨k,o,b⟩,g,i,s⟩:=h;refine(vf (x:=(a,c)) j e l g p).mono λr hr=>?_;obtain⟨q0,q1,q2,q3,q,q4,q5,q6,q7⟩:=hr;exact⟨q1,q3 f,⟨k,q k o,b⟩,q4,q6.trans i,by dsimp only at q7;omega⟩
theorem rH{b:AP}{x:Int×Am}(h:CX b)(G:1<=x.1/\x.1<=64)(f:D3 x.2):A2 (Ja b x) λr=>CX r.2/\AX x.2.2.1 x.1 x.2.2.2 901 r.1:=by
 unfold Ja;have F:=f.uq;have Y:=f.1;have Z:=f.2.2.2.1;refine AB (uN h G) λv0 p=>?_;refine AB (AAD (L:=x.2.2.1) p.2) λN w=>?_;obtain⟨H,I,M,J,K,s5⟩:=w;have D:AX x.2.2.1 x.1 x.2.2.2 1 N.1:=⟨H,I,⟨0,M,by decide⟩,J,K,by omega⟩
 refine AB (Aa p.1 (by decide)) λv2 y=>?_;obtain⟨u,v,X⟩:=y;refine AB (P:=λr=>CX r.1/\AX x.2.2.1 x.1 x.2.2.2 801 r.2) ?_ λR c=>?_
 ·refine Oc (λ(s:Int×AP×AL)=>0<=s.1/\s.1<=8/\CX s.2.1/\AX x.2.2.1 x.1 x.2.2.2 (801-100*s.1) s.2.2) (λ(s:Int×AP×AL)=>s.1.toNat) ⟨v,by dsimp only;omega,u,D.mono (by dsimp only;omega)⟩ (λs E=>?_);obtain⟨i1,i2,t,o⟩:=E;unfold Pw;have e:=AY (x:=s.1-1) (by omega);rw[e];refine AC (λhc=>?_) (λ_=>A2.done ⟨t,o.mono (by omega)⟩);refine AB (Aa t (by decide)) λv4 z=>?_;refine AB (o.step f) λv5 A=>?_;refine AB (P:=λa=>AX x.2.2.1 x.1 x.2.2.2 (801-100*(s.1-1)) a) (AS (λg=>AA ((A g).mono (by omega))) (λ_=>AA (o.mono (by omega)))) λv6 n=>?_;refine AB (Aa z.1 (by decide)) λv7 q=>?_;refine AB (P:=λr=>CX r.1/\AX x.2.2.1 x.1 x.2.2.2 (801-100*(s.1-1)) r.2) ?_ λQ d=>A2.next ⟨by dsimp only;omega,by dsimp only;omega,d.1,d.2⟩ (by dsimp only;omega)
  refine AE (λ_=>?_) (λ_=>AA ⟨q.1,n⟩);refine AB (Aa q.1 (by decide)) λW B=>?_;rw[AY (x:=2+W.1) (by omega)];refine AB (n.tidy F (by omega) ⟨by omega,by omega⟩) λv9 C=>?_;exact AB (P:=λa=>AX x.2.2.1 x.1 x.2.2.2 (801-100*(s.1-1)) a) (AS (λg=>AA C) (λ_=>AA n)) λO i=>AA ⟨B.1,i⟩
 ·refine AB (Aa c.1 (by decide)) λS j=>?_;refine AB (P:=λa=>AX x.2.2.1 x.1 x.2.2.2 901 a) ?_ λV m=>AA ⟨j.1,m⟩;refine AE (λ_=>?_) (λ_=>AA (c.2.mono (by decide)));refine AB (c.2.step f) λT k=>?_;exact AB (P:=λa=>AX x.2.2.1 x.1 x.2.2.2 901 a) (AS (λg=>AA ((k g).mono (by decide))) (λ_=>AA (c.2.mono (by decide)))) λU l=>AA l
set_option maxHeartbeats 1000000
def vZ{x:AL}(h:VB x)(e:x.2.2.1=[]):A2 (Gz x) λr=>r.1=[]:=by
 unfold Gz;refine AB (J8 h) λg _=>?_;refine AO (λ_=>AA rfl) (λ_=>?_);refine AB (P:=λr=>r=[]) ?_ λi c=>?_
 ·refine AM (λ(s:Int×NL)=>s=(0,[])) (λ_=>0) rfl (λs a=>?_);subst a;unfold N7;rw[e];exact AC (λb=>absurd b (by simp[len])) (λ_=>AA rfl)
 subst c;refine AB (AA3 (by simp)) λj d=>o7 d ?_;refine AB (P:=λ(r:List AU×List Int)=>r.1=[]) ?_ λv f=>AA f;refine AM (λ(s:Int×Int×Int×List AU×List Int)=>s.1=0/\s.2.2.2.1=[]) (λ_=>0) ⟨rfl,rfl⟩ (λs a=>?_);unfold N8;rw[a.1];exact AC (λb=>absurd b (by simp[len])) (λ_=>AA a.2)
def vL{x:AL×Am×Int}(h:VB x.1)(k:x.1.2.2.1=[])(b:x.2.1=(1,([],0))):A2 (JI x) λr=>r=[(1,0)]:=by
 have vl:D3 x.2.1:=by rw[b];exact⟨by decide,by decide,by decide,by decide,by decide,λi e j=>by simp at j⟩
 unfold JI;refine AB (ZI vl) λm a=>?_;rw[b]at a⊢;have c:m=0:=a;subst c;refine AB (gr (by exact h)) λn _=>?_;refine AO (λ_=>AA rfl) (λ_=>?_);refine AB (vZ h k) λo d=>?_;refine AB (P:=λr=>r=[(1,0)]) ?_ λv l=>AA l;refine AM (λ(s:Int×List EO)=>s=(0,[(1,0)])) (λ_=>0) rfl (λs f=>?_);subst f;unfold OA;rw[d];exact AC (λg=>absurd g (by simp[len])) (λ_=>AA rfl)
def ui{j:Int}:A2 (G0 ([(1,0)],j)) λr=>r=j:=by
 unfold G0;refine AB (P:=λ(r:Int)=>r=j) ?_ λv c=>AA c;refine AM (λ(s:Int)=>s=j) (λ_=>0) rfl (λs i=>?_);subst i;unfold RF;refine AB (P:=λ(r:(Int×Int)⊕ Int)=>r= .inr s) ?_ λr hr=>Az (λu a=>by rw[hr]at a;cases a) (λu a=>AA (by rw[hr]at a;cases a;rfl));refine AM (λ(t:Int×Int)=>0<=t.1/\t.1<=1/\t.2=s) (λ(t:Int×Int)=>((1:Int)-t.1).toNat) ⟨Ah _,by dsimp only;omega,rfl⟩ (λt l=>?_);obtain⟨n,o,d⟩:=l;unfold N9;refine AC (λb=>?_) (λ_=>AA (by rw[d]));simp only[len,BC,BH]at b;have e:=AY (x:=t.1+1) (by omega);rw[e];refine AB (AD n (by simp only[BC,BH];omega)) λp g=>?_;have f:=A5.1 g.2;subst f;have k:A2 (GB ((1,0),t.2)) λr=>r=false:=by unfold GB;exact AC (λb=>AA (decide_eq_false (by dsimp only at b⊢;omega))) (λ_=>AA rfl)
 refine AB (P:=λr=>r=(false,t.2)) ?_ λq h=>?_
 ·unfold Oz;exact AB k λv c=>AA (by rw[c])
 subst h;refine AE (λm=>by cases m) (λ_=>AA ⟨⟨by dsimp only;omega,by dsimp only;omega,d⟩,by dsimp only;omega⟩)
def jw{a:AL}{i j:Int}(h:VB a)(m:a.2.2.1=[])(o:1<a.2.1)(n:0<=i)(d:i<=j):Lb (a,((1,([],0)),(1,(i,j))))=some (decide (j<=i)):=by
 have vl:D3 (1,([],0)):=⟨by decide,by decide,by decide,by decide,by decide,λi e l=>by simp at l⟩
 obtain⟨r,hr,g⟩:=W3 (x:=(a,((1,([],0)),(1,i)))) h vl ⟨Int.zero_le_ofNat 1,o,n⟩;obtain⟨s,p,k⟩:=vL (x:=(a,((1,([],0)),1))) h m rfl;obtain⟨f,b,c⟩:=ui (j:=j);subst g k c;unfold Lb;dsimp only;rw[hr,p];show(bif (decide (i<=f))then Option.bind (G0 ([(1,0)],f)) (λq=>some (decide (q<=i)))else some false)=_;rw[b,decide_eq_true d];rfl
def yG{x:Unit}:A2 (KQ x) λr=>r=true:=by
 have g:BD 2 [0]:=⟨by decide,by decide,by decide,by decide,rfl,λi a b p c k=>by simp at c k,λa c=>by simp at c;omega⟩
 have m:A2 (El (2,([0]:List Int))) λr=>r.1.2.2.1=[]:=by unfold El;refine AB Z7 λf d=>?_;exact AO (λo=>AA rfl) (λ_=>AB (Ac (by simp)) λn _=>AA rfl)
 unfold KQ;refine AB ((vY (x:=(2,[0])) g).and m) λf d=>?_;obtain⟨⟨_,a1,a2,_⟩,a3⟩:=d;refine AB Oq λn h=>?_;subst h;have e:1<f.1.2.1:=by rw[a2];decide
 rw[jw a1 a3 e (by decide) (by decide)];apply A4;refine AE (λ_=>?_) (λl=>by cases l);refine AB Oq λq j=>?_;subst j;rw[jw a1 a3 e (by decide) (by decide)];exact AA rfl
def vc{n p:Int}{l:List Int}(h:BD n l):A2 (FC (l,p)) λr=>0<=r.1/\r.1<=l.length/\(∀(i:Nat) (v:Int),(i:Int)<r.1->l[i]? =some v->v<p)/\(∀(i:Nat) (v:Int),r.1<=(i:Int)->l[i]? =some v->p<=v)/\(r.2=true->l[r.1.toNat]? =some p)/\(r.2=false-> ∀v,l[r.1.toNat]? =some v->p<v):=by
 have u:=h.2.2.2.1;refine AB (P:=λ(r:Int)=>0<=r/\r<=l.length/\(∀(i:Nat) (v:Int),(i:Int)<r->l[i]? =some v->v<p)/\ ∀(i:Nat) (v:Int),r<=(i:Int)->l[i]? =some v->p<=v) ?_ λK w=>?_
 ·refine Oc (λ(s:Int×Int)=>0<=s.1/\s.1<=s.2/\s.2<=l.length/\(∀(i:Nat) (v:Int),(i:Int)<s.1->l[i]? =some v->v<p)/\ ∀(i:Nat) (v:Int),s.2<=(i:Int)->l[i]? =some v->p<=v) (λ(s:Int×Int)=>(s.2-s.1).toNat) ⟨Ah _,by grind,by grind,λi v e=>by grind,λi v e b=>by grind⟩ (λs z=>?_);obtain⟨o,H,D,E,F⟩:=z;unfold Hk;rw[gC o (by omega) (by omega)];refine AC (λa=>?_) (λa=>A2.done ?_)
  ·refine AB (AD (by omega) (by grind)) λG g=>?_;refine AB ZH λI k=>?_;have t:=AY (x:=(s.1+s.2)/2+1) (by omega);rw[t];refine AB (P:=λ(q:Int×Int)=>(0<=q.1/\q.1<=q.2/\q.2<=(l.length:Int)/\(∀(i:Nat) (v:Int),(i:Int)<q.1->l[i]? =some v->v<p)/\ ∀(i:Nat) (v:Int),q.2<=(i:Int)->l[i]? =some v->p<=v)/\(q.2-q.1).toNat<(s.2-s.1).toNat) ?_ λJ m=>A2.next m.1 m.2
   refine AE (λC=>AA ⟨⟨by grind,by grind,D,λi v e b=>?_,F⟩,by grind⟩) (λA=>AA ⟨⟨o,by omega,by omega,E,λi v e b=>?_⟩,by omega⟩)
   ·have f:=k.1 C;have:=h.le (i:=i) (j:=((s.1+s.2)/2).toNat) (by omega) b g.1;omega
   ·have f: ¬G<p:=λq=>by have:=k.2 q;rw[A]at this;cases this
    have:=h.le (i:=((s.1+s.2)/2).toNat) (j:=i) (by omega) g.1 b;omega
  ·grind
 ·obtain⟨a1,a2,a3,a4⟩:=w;refine AC (λa=>?_) (λa=>AA ⟨a1,a2,a3,a4,λc=>(by cases c),λ_ v b=>?_⟩)
  ·simp only[len]at a;refine AB (AD a1 a) λL y=>?_;refine AS (λd=>AA ⟨a1,a2,a3,a4,λ_=>by dsimp only;rw[y.1,d],λc=>(by cases c)⟩) (λB=>?_);refine AB (AD a1 a) λM _=>?_;refine AE (λc=>?_) (λ_=>AA ⟨a1,a2,a3,a4,λc=>(by cases c),λ_ v b=>?_⟩)
   ·grind
   ·grind
  ·grind
def iO(a:AL)(p lo hi:Int):Prop:= ∃i:Nat,a.1[i]? =some lo/\hi=mo a i/\lo<=p/\p<=hi
def AAG{a:AL}{p:Int}(h:VB a)(B:0<=p/\p<a.2.1): ∃c d,FU (a,p)=some (c,(d,true))/\iO a p c d:=by
 have key:A2 (FU (a,p)) λr=>r.2.2=true/\iO a p r.1 r.2.1:=by
  unfold FU;dsimp only;refine AB (J8 h) λI l=>?_;rw[l,D9,cond_false,decide_eq_false (by omega),cond_false,decide_eq_false (by omega),cond_false];refine AB (vc h.1) λb m=>?_;obtain⟨F,G,x,H,y,z⟩:=m;have n:=h.1.2.2.2.1;have u:=h.1.2.2.2.2.1;refine AB (P:=λk:Int=> ∃(i:Nat) (c:Int),k=i/\a.1[i]? =some c/\c<=p/\ ∀w,a.1[i+1]? =some w->p<w) ?_ λk q=>?_
  ·refine AO (λs=>AA ?_) (λt=>AA ?_)
   ·have g:0<b.1:=by refine U2 λA=>?_;have:=z s 0 (by rw[show b.1.toNat=0 by omega];exact u);omega
    rw[AY (by omega)];have d:b.1.toNat-1<a.1.length:=by omega
    refine⟨b.1.toNat-1,a.1[b.1.toNat-1],by omega,Ay d,?_,λw e=>?_⟩
    ·have:=x (b.1.toNat-1) _ (by omega) (Ay d);omega
    ·grind
   ·have f:=y t;refine⟨b.1.toNat,p,by omega,f,Ah _,λw e=>?_⟩;exact h.1.lt 0 b.1.toNat p w f e
  ·obtain⟨i,c,rfl,j,v,C⟩:=q;rw[pb h.1 j,AJ];refine AA ⟨rfl,i,j,rfl,v,?_⟩;unfold mo;cases e:a.1[i+1]? with
   |none=>grind
   |some w=>grind
 obtain⟨⟨c,d,o⟩,k1,D,E⟩:=key;grind
def iO.uniq{a b:AL}{p l1 l2 f g:Int}(h:BD a.2.1 a.1)(d:b.1=a.1)(e:b.2.1=a.2.1)(m:iO a p l1 f)(n:iO b p l2 g):l1=l2:=by
 obtain⟨i,s,t,u,v⟩:=m;obtain⟨j,w,z,A,B⟩:=n;have o:mo b j=mo a j:=by unfold mo;rw[d,e]
 have key: ∀{i j:Nat} {x y:Int},a.1[i]? =some x->a.1[j]? =some y->i<j->mo a i<y:=λ{i j x y} q c k=>by have r:=JD c;have l:a.1[i+1]? =some (a.1[i+1]'(by omega)):=Ay (by omega);have:=h.le (by omega:i+1<=j) l c;unfold mo;grind
 grind
def po{a:AL}{l:Am}{b n:Int}:wH a l b n↔(l.1<=n/\n<=l.1+l.2.1.length-1)\/AAA a b n:=Iff.rfl
def xv(P:Int->Prop)(j fl:Int):Prop:=0<=fl/\fl<=j/\(∀n,fl<n->n<=j->P n)/\(fl=0\/ ¬P fl)
def xv.uniq{P Q:Int->Prop}{j r s:Int}(h: ∀n,P n↔Q n)(hr:xv P j r)(a:xv Q j s):r=s:=by obtain⟨b,c,d,e⟩:=hr;obtain⟨f,g,i,k⟩:=a;grind
structure nF(L:List EN)(l:Am):Prop where
 vl:D3 l
 sorted:L.Pairwise λx y=>x.1<y.1
 tail: ∀e,e∈l.2.1↔e∈L/\l.1<=e.1/\e.1<=l.1+l.2.1.length-1
 len:L.length<=4096
def vV{B:Nat}{L:List EN}{a:AL}{l:Am}{p i j:Int}(q:CP B)(C:B≤16777216)(v:j-i≤B)(t:0≤i)(E:i≤j)(D:j≤1099511627776)(h:AR L a)(w:nF L l)(y:0≤p∧p<a.2.1):
  ∃o t d,iO a p o t/\xv (wH a l o) j d/\A2 (JZ (a,(l,(p,(i,j))))) λr=>(d>i/\r=([],42))\/(d<=i/\((fC i (L.filter (Qr p i j))/\r=(L.filter (Qr p i j),0))\/(¬fC i (L.filter (Qr p i j))/\r=([],13)))):=by
 obtain⟨o,u,x,n⟩:=AAG h.vb y;obtain⟨k,k1,F,G,H⟩:=id n;obtain⟨d,z,A⟩:=AAB q C v t E D h.vb h.ds w.vl y x rfl w.sorted w.tail (λe s=>by
  obtain⟨f,_,_,_,g,_⟩:=h.mem s;exact g) h.dis (λe s m=>by
  obtain⟨f,_,g,_⟩:=h.mem s;have c:e.1.2.2.1=o:=m;have b:=g.2.2.2;rw[c]at b;have:=b.uniq h.vb.1 ⟨k,k1,F⟩;exact⟨G,by omega⟩)
 exact⟨o,u,d,n,z,A⟩
def uR{B:Nat}{L:List EN}{a b:AL}{l:Am}{p i j:Int}(e:CP B)(y:B≤16777216)(f:j-i≤B)(A:0≤i)(C:i≤j)(z:j≤1099511627776)(h:AR L a)(g:AR L b)(t:nF L l)(D:0≤p∧p<a.2.1)(F:b.1=a.1)(x:b.2.1=a.2.1)(J:YI a b):
  ∃r,JZ (a,(l,(p,(i,j))))=some r/\JZ (b,(l,(p,(i,j))))=some r/\r.1.length<=4096:=by
 obtain⟨M,S,R,O,G,r,Q,E⟩:=vV e y f A C z h t D;obtain⟨N,I,H,v,q,P,w,d⟩:=vV (p:=p) e y f A C z g t (by rw[x];exact D);have u:=O.uniq h.vb.1 F x v;subst u;have s:=G.uniq (λn=>by rw[po,po,J M n]) q;subst s;have k:(L.filter (Qr p i j)).length<=4096:=D4 (J4 _ _) t.len;have K:r=P:=by
  rcases E with⟨q1,q2⟩|⟨q1,⟨q2,q3⟩|⟨q2,q3⟩⟩
  ·rcases d with⟨m,c⟩|⟨m,_⟩
   ·rw[q2,c]
   ·omega
  ·rcases d with⟨m,c⟩|⟨m,⟨c,o⟩|⟨c,o⟩⟩
   ·omega
   ·rw[q3,o]
   ·exact absurd q2 c
  ·rcases d with⟨m,c⟩|⟨m,⟨c,o⟩|⟨c,o⟩⟩
   ·omega
   ·exact absurd c q2
   ·rw[q3,o]
 subst K;refine⟨r,Q,w,?_⟩;rcases E with⟨q1,q2⟩|⟨q1,⟨q2,q3⟩|⟨q2,q3⟩⟩
 ·rw[q2];exact Cc _
 ·rw[q3];exact k
 ·rw[q3];exact Cc _
def D3.sorted{l:Am}(h:D3 l):l.2.1.Pairwise λx y=>x.1<y.1:=by obtain⟨l1,l2,a,b,c,d⟩:=h;rw[JE];grind
def kZ{l:Am}(h:D3 l):nF l.2.1 l:=⟨h,h.sorted,λe=>⟨λa=>⟨a,by obtain⟨k,b⟩:=G4.1 a;have:=(h.2.2.2.2.2 k e b).1;have:=JD b;omega⟩,λa=>a.1⟩,h.2.2.1⟩
def ABC{l:Am}{f:Int}(h:D3 l)(o:l.2.2=l.1+l.2.1.length-1)(j:l.1<=f)(m:f<=l.2.2+1)(n:f<=1099511627776):A2 (JP (l,f)) λr=>nF l.2.1 r.1/\r.1.1=f/\r.1.2.2=l.2.2:=by
 have p:A2 (JP (l,f)) λr=>r.2=0->r.1=(f,(l.2.1.drop (f-l.1).toNat,l.2.2)):=by obtain⟨a1,a2,a3,a4,a5,a6⟩:=id h;refine AB Bg λv w=>?_;refine AO (λ_=>AA λa=>absurd (show(26:Int)=0 from a) (by decide)) (λ_=>?_);refine AC (λ_=>AA λa=>absurd (show(1:Int)=0 from a) (by decide)) (λ_=>?_);refine AC (λ_=>AA λa=>absurd (show(1:Int)=0 from a) (by decide)) (λ_=>?_);refine AC (λ_=>AA λa=>absurd (show(1:Int)=0 from a) (by decide)) (λ_=>?_);refine AC (λ_=>AA λa=>absurd (show(15:Int)=0 from a) (by decide)) (λ_=>?_);rw[AY (x:=f-l.1) (by omega)];refine AB (B0 (by omega) (by grind) (by grind)) λB b=>?_;have l2:=b.2;simp only[len]at l2;refine AB (Ac (by simp;omega)) λC d=>AA λ_=>?_;rw[d.1,CA,b.1,Dq (by grind)]
 refine((cR (x:=(l,f)) h o j m n).and p).mono λr hr=>?_;obtain⟨⟨s,t,u⟩,c⟩:=hr;have c:=c s;refine⟨⟨t,h.sorted,λe=>?_,h.2.2.1⟩,u,by rw[c]⟩;rw[c];obtain⟨l1,l2,y,z,A,q⟩:=h;rw[G4,G4];constructor
 ·grind
 ·rintro⟨⟨k,i⟩,g,_⟩;have:=(q _ e i).1;exact⟨k-(f-l.1).toNat,by rw[Hm,show(f-l.1).toNat+(k-(f-l.1).toNat)=k by omega];exact i⟩
def zO{b:AP}(h:CX b):A2 (KR b ()) λr=>1<=r.1/\r.1<=4/\r.2.1.2.1=r.1/\AR r.2.2.2.1.2.1 r.2.1/\RC r.2.1 10/\SF r.2.1 1000/\nF r.2.2.2.1.2.1 r.2.2.1/\D3 r.2.2.2.1/\r.2.2.2.1.1=1/\r.2.2.1.2.2=r.2.2.2.1.2.2/\r.2.2.2.1.2.2=r.2.2.2.1.2.1.length/\CX r.2.2.2.2:=by
 unfold KR;refine AB ((dS h (x:=25) (by omega)).and (rM h (x:=25) (by omega))) λa w=>?_;obtain⟨⟨c0,o,D,g⟩,u,v⟩:=w;refine AB (rH (x:=(a.1,a.2.1)) c0 ⟨o,by dsimp only;omega⟩ g) λE y=>?_;obtain⟨s,c,p,⟨G,A,B⟩,q,k,t⟩:=y;dsimp only at c k t;obtain⟨N,O,Q,R,S,T⟩:=id g;have f:RC E.1 10:=λC=>D4 (A C) (by omega);have U:=c.vb.2.1;have V:=c.vb.2.2.1;refine AB (Aa s (x:=2) (by omega)) λH l=>?_;refine AB (P:=λ(r:AP×Am)=>CX r.1/\nF a.2.1.2.1 r.2/\r.2.2.2=a.2.1.2.2) ?_ λJ j=>?_
 ·refine AS (λ_=>?_) (λ_=>AA ⟨l.1,kZ g,rfl⟩);refine AB (Aa l.1 (by omega)) λF z=>?_;obtain⟨q1,q2,q3⟩:=z;have e:=AY (x:=1+F.1) (by omega);rw[e];refine AB (ABC g u (by omega) (by omega) (by omega)) λI m=>AA ⟨q1,m.1,m.2.2⟩
 ·refine AB (Aa j.1 (x:=3) (by omega)) λK n=>?_;refine AB (P:=λ(r:AP×AL)=>CX r.1/\AR a.2.1.2.1 r.2/\RC r.2 10/\SF r.2 1000/\r.2.2.1=a.1) ?_ λM d=>AA ⟨o,D,d.2.2.2.2,d.2.1,d.2.2.1,d.2.2.2.1,j.2.1,g,v,j.2.2,by dsimp only;omega,d.1⟩;refine AS (λ_=>?_) (λ_=>AA ⟨n.1,c,f,by unfold SF at*;dsimp only;omega,k⟩);refine AB (uP c p n.1 q) λL i=>AA ⟨i.1,i.2.1,i.2.2.1 10 f,by have:=i.2.2.2;unfold SF at*;dsimp only at this⊢;omega,k⟩
theorem vH{l:List EN}(h:l.length<=16777000):HP (l,l)=some true:=by
 have key:A2 (Ae (IT (l,l)) 0) λr=>r= .inr ():=by
  refine Oc (λ(s:Int)=>0<=s/\s<=l.length) (λs=>((l.length:Int)-s).toNat) ⟨Ah _,by omega⟩ (λs e=>?_);obtain⟨b,i⟩:=e;unfold IT;dsimp only;simp only[len];refine AC (λa=>?_) (λ_=>A2.done rfl);refine AB (AD b a) λf c=>?_;refine AB (AD b a) λg d=>?_;have:f=g:=by have:=c.1;rw[d.1]at this;exact(C2 this).symm
  subst this;simp only[beq_self_eq_true,Of,Pe,D9,cond_false];rw[AY (by omega)];exact A2.next ⟨by omega,by omega⟩ (by omega)
 obtain⟨r,hr,rfl⟩:=key;unfold HP;dsimp only;rw[bne_self_eq_false,cond_false,hr];rfl
def yO{l:List Int}(h: ∀c∈l,0≤c∧c<256):A2 (bif (decide ((len l)>400))then
    Option.bind (Zm l 0 400) λd=>
    some d
   else
   some l) λr=>CX (r,0):=by
 refine AC (λa=>?_) (λa=>AA ⟨Ah _,by simp only[len]at a;dsimp only;omega,h⟩);simp only[len]at a;refine AB (B0 (by omega) (by omega) (by omega)) λd e=>AA ⟨Ah _,by dsimp only;omega,λc b=>?_⟩;dsimp only at b;rw[e.1]at b;exact h c (TG (ME b))
theorem kV{x:List Int×Int}(h: ∀c∈x.1,0<=c/\c<256)(G:0<=x.2/\x.2<256):A2 (Im x) λr=>r=true:=by
 unfold Im;refine AB yG λv0 y=>?_;refine AO (λe=>by rw[y]at e;cases e) (λ_=>?_);refine AB (yO h) λv2 z=>?_;refine AB (zO z) λd A=>?_;obtain⟨O,a1,a2,a3,Q,a4,a5,a6,a7,a8,a9,a10⟩:=A;have w:=AY (x:=x.2) (by omega);have T:0<=Int.tmod x.2 3:=YS _ G.1;have U:Int.tmod x.2 3<3:=YR _ (by omega);rw[w,AY (x:=2+Int.tmod x.2 3) (by omega)];refine AB (vf (x:=(d.2.1,2+Int.tmod x.2 3)) a6.uq a3 ⟨by dsimp only;omega,by dsimp only;omega⟩ a4 (by decide)) λN B=>?_;obtain⟨L,M,n,t3,tr,t4,o,t,t7⟩:=B;dsimp only at n o t;refine AB (P:=λ(r:Bool ⊕ AP)=> ∃c,r= .inr c) ?_ λr hr=>?_
 ·refine Oc (λ(s:Int×AP)=>0<=s.1/\s.1<=d.1/\CX s.2) (λs=>(d.1-s.1).toNat) ⟨Ah _,by dsimp only;omega,a10⟩ (λs D=>?_);obtain⟨H,S,I⟩:=D;unfold Ld;refine AC (λe=>?_) (λ_=>A2.done ?_)
  ·refine AB (P:=λ(r:Bool ⊕ AP)=> ∃c,r= .inr c/\CX c) ?_ λr hr=>?_
   ·refine Oc (λ(q:Int×AP)=>0<=q.1/\q.1<=3/\CX q.2) (λq=>(3-q.1).toNat) ⟨Ah _,by dsimp only;omega,I⟩ (λq E=>?_);obtain⟨k1,V,m⟩:=E;unfold Le;refine AC (λF=>?_) (λ_=>A2.done ⟨_,rfl,m⟩);refine AB (Aa m (by decide)) λg k=>?_;refine AB (Aa k.1 (by decide)) λu C=>?_;obtain⟨R,W,Y⟩:=k;obtain⟨v,X,Z⟩:=C;rw[AY (x:=g.1+u.1) (by omega),AY (x:=q.1+1) (by omega)];obtain⟨r,J,K,r3⟩:=uR (a:=d.2.1) (b:=N.1) (l:=d.2.2.1) (p:=s.1) (i:=g.1) (j:=g.1+u.1) AB0 (by decide) (by omega) (by omega) (by omega) (by omega) a3 M a5 ⟨H,by omega⟩ o t n;rw[J,AJ,K,AJ,bne_self_eq_false,cond_false,vH (by omega),AJ,D9,cond_false];exact A2.next ⟨by dsimp only;omega,by dsimp only;omega,v⟩ (by dsimp only;omega)
   ·obtain⟨c,rfl,f⟩:=hr;rw[AY (by omega)];exact BG (A2.next ⟨by dsimp only;omega,by dsimp only;omega,f⟩ (by dsimp only;omega))
  ·exact⟨_,rfl⟩
 ·obtain⟨c,rfl⟩:=hr;refine BG (AA ?_);rw[L];rfl
end Go.Pm
