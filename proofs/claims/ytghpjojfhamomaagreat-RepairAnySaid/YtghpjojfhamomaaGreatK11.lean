/- Texts of wip, joined and shortened by wip/tools/pack.py; nothing is assumed. -/
import Derived.Test.YtghpjojfhamomaaGreatK10
noncomputable section
set_option linter.all false
namespace Go.Pm
open Go Go.Ab
def nC{l:List EN}:(l.map (·.1)).Nodup->l.Nodup:=by
 induction l with
 |nil=>intro _;exact QL
 |cons p r b=>intro a;rw[Bi,Gl]at a;exact Gl.2 ⟨λh=>a.1 (VQ h),b a.2⟩
def Dj.nodup{l:Ae}(h:Dj l):(l.2.1.map (·.1)).Nodup:=by obtain⟨l1,l2,i,j,k,a⟩:=h;rw[Kf,Sj,HH];intro x y b d c g;have e:=(a x _ (As b)).1;have f:=(a y _ (As d)).1;omega
def Dj.has{l:Ae}(h:Dj l){e:EN}(a:e∈l.2.1):Pp (l.1,l.1+l.2.1.length-1) e.1=true:=by obtain⟨k,b,a⟩:=VP.1 a;have c:=(h.2.2.2.2.2 k e (by rw[<-a];exact As b)).1;unfold Pp;simp only[BW,decide_eq_true_eq];omega
structure AFG(l:Ae)(low p i j:Int)(rs:List AS):Prop where
 fromLog: ∀f∈Jt low rs,Ka p i j f=true->Pp (l.1,l.1+l.2.1.length-1) f.1=true->f∈l.2.1
 inRuns: ∀e∈l.2.1,Ka p i j e=true->((rs.filter λr=>r.2.2.1==low).any λr=>Pp (r.1,r.2.1) e.1)=true->e∈Jt low rs
 own: ∀r∈rs,∀f∈r.2.2.2.2.2,Pp (r.1,r.2.1) f.1=true
 once:((Jt low rs).map (·.1)).Nodup
def AIA{B:Nat}{a:AJ}{l:Ae}{p i j R:Int}{c:Int×(Int×Bool)}{b:List AS}{P:List Int}(V:CP B)(hB:B≤16777216)(ao:j-i≤B)(hi:0≤i)(hj:i≤j)
  (h:VB a) (D:Dj l) (hp:0<=p/\p<a.2.1) (L:GP (a,p)=some c) (ht:c.2.2=true) (N:IE a=some (b,P)) (w:b.length=P.length) (t:b.length<=256)
  (hr: ∀r∈b,r.2.2.2.2.2.length<=4096) (W:L3 (Ui l c.1 b,j)=some R) (z:AFG l c.1 p i j b):
  Ap (Hn (a,(l,(p,(i,j))))) λr=>(R>i/\r=([],42))\/(R<=i/\ ∃s:List EN,(s.Pairwise λx y=>x.1<y.1)/\(∀e,e∈s↔(e∈l.2.1\/e∈Jt c.1 b)/\Ka p i j e=true)/\((XZ i s/\r=(s,0))\/(¬XZ i s/\r=([],13)))):=by
 have K:=D.nodup;unfold Hn;dsimp only;refine AA (ZH (x:=(a,(l,(p,i)))) h D ⟨hp.1,hp.2,hi⟩) λv0 h0=>?_;refine AL (λk=>absurd h0 k) (λ_=>?_);refine AC (λk=>absurd k o!) (λ_=>?_);rw[xo D L ht N w t,AD,W,AD];refine AC (λhf=>AB (.inl ⟨hf,rfl⟩)) (λhf=>?_);refine AA (AHI D (by simp[Ui]) (by have:=Fy (λr:AS=>r.2.2.1==c.1) b;simp only[Ui,Bd,B7];omega)) λal H=>?_;rw[L,AD,ht,Cg,cond_false,N,AD];have hP: ∀v∈Jt c.1 b,Ka p i j v=true->(Pp (l.1,l.1+l.2.1.length-1) v.1=true->(v∈l.2.1/\Ka p i j v=true))/\ ∀e,((e∈l.2.1/\Ka p i j e=true)\/(e∈Jt c.1 b/\Ka p i j e=true))->e.1=v.1->e=v:=λv hv E=>by refine⟨λk=>⟨z.fromLog v hv E k,E⟩,λe u A=>?_⟩;rcases u with⟨u,_⟩|⟨u,_⟩;have ad:=z.fromLog v hv E (by rw[<-A];exact D.has u);exact XE K u ad A;exact XE z.once u hv A
 apply AA (AHL (sp:=(l.1,l.1+l.2.1.length-1)) rfl H.2 w t hr hP);rintro q ⟨m,n,rfl,o,hn⟩;apply BK;dsimp only;have f:al.1=n:=by
  rw[H.1,hn];refine congrArg Int.ofNat (List.Perm.length_eq ?_)
  refine(ke ((nC K).filter _) ((nC z.once).filter _)).2 λe=>?_;rw[BV,BV];simp only[BW];have I:((Ui l c.1 b).tail.any λs=>Pp s e.1)=((b.filter λr=>r.2.2.1==c.1).any λr=>Pp (r.1,r.2.1) e.1):=by unfold Ui;rw[List.tail_cons,List.any_map];rfl
  rw[I];constructor;rintro⟨F,G,S⟩;exact⟨z.inRuns e F G S,G,D.has F⟩;rintro⟨F,G,S⟩;obtain⟨r,M,Y⟩:=Hi.1 F;exact⟨z.fromLog e F G S,G,nX.2 ⟨r,M,z.own r (BV.1 M).1 e Y⟩⟩
 refine AL (λk=>absurd f k) (λ_=>?_);have J: ∀q∈m,Ka p i j q.2=true:=λq d=>by
  have:(q.2.1,q.2)∈m:=by rw[<-o.2.1 q d];exact d
  rcases(o.2.2 q.2).1 this with g|g;exact g.2;exact g.2
 have X:m.length<=B:=by
  have:=uW (j-i).toNat i (m.map (·.1)) o.1 λx hx=>by obtain⟨q,d,rfl⟩:=Bv.1 hx;have E:=J q d;have hk:=o.2.1 q d;unfold Ka at E;simp only[BW,decide_eq_true_eq]at E;omega
  rw[B7]at this;omega
 refine AC (λ_=>?_) (λk=>absurd k (by show¬ ¬((m.length:Int)<=16777216);omega));have C:((m.map (·.2)).map (·.1))=m.map (·.1):=by rw[Mh];exact Mg λq d=>(o.2.1 q d).symm
 refine AA (AEg V (l:=m.map (·.2)) (by rw[B7];exact X) (by rw[B7];omega) (by rw[C];exact o.1)) λs Q=>?_;have Z:s.length=m.length:=by rw[Q.1.length_eq,B7]
 have U:Nat.beq (List.length s) (List.length m)=true:=by rw[Z];exact Ir _
 rw[U,cond_true];have O: ∀e,e∈s↔(e∈l.2.1\/e∈Jt c.1 b)/\Ka p i j e=true:=λe=>by
  rw[Q.1.mem_iff];constructor;intro u;obtain⟨q,d,rfl⟩:=Bv.1 u;have:(q.2.1,q.2)∈m:=by rw[<-o.2.1 q d];exact d
  rcases(o.2.2 q.2).1 this with g|g;exact⟨.inl g.1,g.2⟩;exact⟨.inr g.1,g.2⟩;rintro⟨g,g'⟩;exact Bv.2 ⟨(e.1,e),(o.2.2 e).2 (g.imp (λg=>⟨g,g'⟩) (λg=>⟨g,g'⟩)),rfl⟩
 refine AA (AHN o!) λr hr=>?_;rcases hr with⟨rfl,T⟩|⟨rfl,T⟩;exact BK (AB (.inr ⟨o!,s,Q.2,O,.inl ⟨T,rfl⟩⟩));exact A7 (AB (.inr ⟨o!,s,Q.2,O,.inr ⟨T,rfl⟩⟩))
def pe{s t:List EN}(c:s.Pairwise λx y=>x.1<y.1)(d:t.Pairwise λx y=>x.1<y.1)(h: ∀e,e∈s↔e∈t):s=t:=by have nd: ∀{u:List EN},(u.Pairwise λx y=>x.1<y.1)->u.Nodup:=λg=>Kf.2 (g.imp λh e=>by rw[e]at h;omega);have f:=(ke (nd c) (nd d)).2 h;exact tY (le:=λa b=>a.1<b.1) (λa b _ _ i j=>o!) c d f
structure af(L:List EN)(r:AS):Prop where
 mem: ∀e,e∈r.2.2.2.2.2↔e∈L/\gR e=true/\r.2.2.1<=e.2.2.2.2.2.2.1.1/\e.2.2.2.2.2.2.1.1<=r.2.2.2.1/\r.1<=e.1/\e.1<=r.2.1
 nd:(r.2.2.2.2.2.map (·.1)).Nodup
def ABx{L:List EN}{l:Ae}{k:List AS}{b p i j:Int}(a: ∀e,e∈l.2.1↔e∈L∧l.1≤e.1∧e.1≤l.1+l.2.1.length-1)(hr: ∀r∈k,af L r)
  (t: ∀r∈k,r.2.2.1=b->b<=p/\p<=r.2.2.2.1) (h:(k.filter λr=>r.2.2.1==b).Pairwise λr s=>r.2.1<s.1\/s.2.1<r.1):AFG l b p i j k where
 fromLog f hf hw hh:=by obtain⟨r,c,g⟩:=Hi.1 hf;have d:=((hr r (BV.1 c).1).mem f).1 g;unfold Pp at hh;simp only[BW,decide_eq_true_eq]at hh;exact(a f).2 ⟨d.1,o!⟩
 inRuns e o hw ha:=by obtain⟨r,c,g⟩:=nX.1 ha;have d:=BV.1 c;have q:r.2.2.1=b:=eq_of_beq d.2;have A:=t r d.1 q;unfold Ka at hw;unfold Pp at g;simp only[BW,decide_eq_true_eq,beq_iff_eq]at hw g;exact Hi.2 ⟨r,c,((hr r d.1).mem e).2 ⟨((a e).1 o).1,hw.1,o!⟩⟩
 own r hrr f hf:=by have d:=((hr r hrr).mem f).1 hf;unfold Pp;simp only[BW,decide_eq_true_eq];omega
 once:=by unfold Jt;rw[List.map_flatMap,Kf,List.pairwise_flatMap];refine⟨λr c=>Kf.1 (hr r (BV.1 c).1).nd,?_⟩;refine nT ?_ h;intro r s c g d x u y v o;obtain⟨e,m,rfl⟩:=Bv.1 u;obtain⟨f,n,rfl⟩:=Bv.1 v;have w:=((hr r (BV.1 c).1).mem e).1 m;have z:=((hr s (BV.1 g).1).mem f).1 n;omega
def wl{L:List EN}{d:List AS}{a p i j:Int}(hr: ∀r∈d,af L r)(n: ∀r∈d,r.2.2.1=a→a≤p∧p≤r.2.2.2.1){e:EN}(l:Ka p i j e=true):
  e∈Jt a d↔e∈L/\ ∃r∈d,r.2.2.1=a/\r.1<=e.1/\e.1<=r.2.1:=by
 unfold Ka at l;simp only[BW,decide_eq_true_eq,beq_iff_eq]at l;constructor;intro h;obtain⟨r,f,b⟩:=Hi.1 h;obtain⟨c,k⟩:=BV.1 f;have g:=((hr r c).mem e).1 b;exact⟨g.1,r,c,eq_of_beq k,g.2.2.2.2.1,g.2.2.2.2.2⟩;rintro⟨f,r,b,c,k,m⟩;have g:=n r b c;exact Hi.2 ⟨r,BV.2 ⟨b,by simp[c]⟩,((hr r b).mem e).2 ⟨f,l.1,o!,o!,k,m⟩⟩
def wa(a:AJ)(l:Ae)(low n:Int):Prop:=(l.1<=n/\n<=l.1+l.2.1.length-1)\/ ∃e∈D5 a,e.1.2.2.1=low/\e.1.1<=n/\n<=e.1.2.1
def AFg{B:Nat}{a:AJ}{l:Ae}{L:List EN}{p i j:Int}{c:Int×(Int×Bool)}(O:CP B)(hB:B≤16777216)(P:j-i≤B)(Y:0≤i)(Z:i≤j)(hJ:j≤1099511627776)
  (h:VB a) (hd:DS a) (J:Dj l) (S:0<=p/\p<a.2.1) (G:GP (a,p)=some c) (ht:c.2.2=true) (K:L.Pairwise λx y=>x.1<y.1) (b: ∀e,e∈l.2.1↔e∈L/\l.1<=e.1/\e.1<=l.1+l.2.1.length-1)
  (hR: ∀e∈D5 a,af L e.1) (z:ADi (D5 a)) (T: ∀e∈D5 a,e.1.2.2.1=c.1->c.1<=p/\p<=e.1.2.2.2.1):
  ∃k,(0<=k/\k<=j/\(∀n,k<n->n<=j->wa a l c.1 n)/\(k=0\/ ¬wa a l c.1 k))/\P0 (a,(l,(p,(i,j))))=some (decide (k<=i))/\Ap (Hn (a,(l,(p,(i,j))))) λr=>(k>i/\r=([],42))\/(k<=i/\((XZ i (L.filter (Ka p i j))/\r=(L.filter (Ka p i j),0))\/(¬XZ i (L.filter (Ka p i j))/\r=([],13)))):=by
 obtain⟨q,H,v,E,w2,rfl,w4,w5⟩:=ABq h hd (To h) z;have o: ∀r∈v.map (·.1),∃e∈D5 a,e.1=r:=λr hr=>by obtain⟨e,d,rfl⟩:=Bv.1 hr;exact⟨e,E.mem_iff.1 d,rfl⟩
 have D: ∀r∈v.map (·.1),af L r:=λr hr=>by obtain⟨e,d,rfl⟩:=o r hr;exact hR e d
 have C: ∀r∈v.map (·.1),r.2.2.1=c.1->c.1<=p/\p<=r.2.2.2.1:=λr hr=>by obtain⟨e,d,rfl⟩:=o r hr;exact T e d
 have U:((v.map (·.1)).filter λr=>r.2.2.1==c.1).Pairwise λr s=>r.2.1<s.1\/s.2.1<r.1:=by rw[List.filter_map,Sj];have R:v.Pairwise λx y=>x≠y:=Kf.1 (E.nodup_iff.2 (To h));refine nT ?_ (R.filter _);intro x y hx hy Q;obtain⟨x1,x2⟩:=BV.1 hx;obtain⟨V,W⟩:=BV.1 hy;exact z x (E.mem_iff.1 x1) y (E.mem_iff.1 V) Q ((eq_of_beq x2).trans (eq_of_beq W).symm)
 have ad:(Ui l c.1 (v.map (·.1))).length<=257:=by have:=Fy (λr:AS=>r.2.2.1==c.1) (v.map (·.1));rw[B7]at this;simp only[Ui,Bd,B7];omega
 have M:SpL (Ui l c.1 (v.map (·.1))):=by refine⟨o!,λs f=>?_⟩;rcases Au.1 f with f|f;rw[f];exact J.1;obtain⟨r,hr,rfl⟩:=Bv.1 f;obtain⟨e,d,rfl⟩:=Bv.1 (BV.1 hr).1;exact(w5 e d).1
 have m: ∀n,wb (Ui l c.1 (v.map (·.1))) n↔wa a l c.1 n:=λn=>by constructor;rintro⟨s,f,t,w⟩;rcases Au.1 f with f|f;rw[f]at t w;exact .inl ⟨t,w⟩;obtain⟨r,hr,rfl⟩:=Bv.1 f;obtain⟨g1,I⟩:=BV.1 hr;obtain⟨e,d,rfl⟩:=o r g1;exact .inr ⟨e,d,eq_of_beq I,t,w⟩;rintro(⟨t,w⟩|⟨e,d,h0,t,w⟩);exact⟨_,Au.2 (.inl rfl),t,w⟩;exact⟨(e.1.1,e.1.2.1),Au.2 (.inr (Bv.2 ⟨e.1,BV.2 ⟨VQ (E.mem_iff.2 d),by simp[h0]⟩,rfl⟩)),t,w⟩
 obtain⟨k,F,f1,f2,X,f4⟩:=yW M (u:=j) o! hJ;refine⟨k,⟨f1,f2,λn t w=>(m n).1 (X n t w),f4.imp id λhh N=>hh ((m k).2 N)⟩,?_,?_⟩;obtain⟨v0,ev,hv⟩:=ZH (x:=(a,(l,(p,i)))) h J ⟨S.1,S.2,Y⟩;unfold P0;dsimp only;rw[ev,AD,beq_iff_eq.2 hv,cond_true,decide_eq_true Z,cond_true,xo J G ht H (by rw[B7,B7]) (by rw[B7];exact w4),AD,F,AD];refine(AIA O hB P Y Z h J S G ht H (by rw[B7,B7]) (by rw[B7];exact w4) (λr hr=>?_) F (ABx b D C U)).mono λr hr=>?_;obtain⟨e,d,rfl⟩:=Bv.1 hr;exact(w5 e d).2.2.2.2.2.2.2.2;rcases hr with hr|⟨hr,s,s1,s2,s3⟩;exact .inl hr;refine .inr ⟨hr,?_⟩;have f:s=L.filter (Ka p i j):=pe s1 (K.filter _) λe=>by rw[s2,BV];constructor;rintro⟨g|g,A⟩;exact⟨((b e).1 g).1,A⟩;exact⟨((wl D C A).1 g).1,A⟩;rintro⟨g,A⟩;refine⟨?_,A⟩;have I:=A;unfold Ka at I;simp only[BW,decide_eq_true_eq]at I;rcases(m e.1).1 (X e.1 o! o!)with N|⟨y,V,W,y3,y4⟩;exact .inl ((b e).2 ⟨g,N⟩);exact .inr ((wl D C A).2 ⟨g,y.1,VQ (E.mem_iff.2 V),W,y3,y4⟩)
 rw[<-f];exact s3
def BD.lt{n:Int}{l:List Int}(h:BD n l): ∀(d i:Nat) (x y:Int),l[i]? =some x->l[i+1+d]? =some y->x<y
 |0,i,x,y,hx,hy=>by have:=Cy hy;exact h.2.2.2.2.2.1 i x y o! hx hy
 |d+1,i,x,y,hx,hy=>by have e:=Cy hy;have a:l[i+1+d]? =some (l[i+1+d]' o!):=As o!;have b:=BD.lt h d i x _ hx a;have c:=h.2.2.2.2.2.1 (i+1+d) _ y o! a k!;omega
def BD.le{n:Int}{l:List Int}(h:BD n l){i j:Nat}{x y:Int}(a:i<=j)(b:l[i]? =some x)(c:l[j]? =some y):x<=y:=by
 by_cases e:i=j;grind;obtain⟨d,rfl⟩: ∃d,j=i+1+d:=⟨j-(i+1),o!⟩
 have:=h.lt d i x y b c;omega
def BD.mem{n:Int}{l:List Int}(h:BD n l){i:Nat}{x:Int}(a:l[i]? =some x):0<=x/\x<n:=by have f:=Cy a;have b:l[l.length-1]? =some (l[l.length-1]' o!):=As o!;have c:=h.le (Bk i) h.2.2.2.2.1 a;have d:=h.le (by omega:i<=l.length-1) a b;have e:=h.2.2.2.2.2.2 _ b;omega
def BD.inj{n:Int}{l:List Int}(h:BD n l){i j:Nat}{x:Int}(b:l[i]? =some x)(c:l[j]? =some x):i=j:=by
 rcases OY i j with a|a|a;obtain⟨d,rfl⟩: ∃d,j=i+1+d:=⟨j-(i+1),o!⟩
 have:=h.lt d i x x b c;omega;exact a;obtain⟨d,rfl⟩: ∃d,i=j+1+d:=⟨i-(j+1),o!⟩
 have:=h.lt d j x x c b;omega
def oM(a:AJ)(i:Nat):Int:=match a.1[i+1]? with
 |some h=>h-1
 |none=>a.2.1-1
def Kb(a:AJ)(lo hi:Int):Prop:= ∃i:Nat,a.1[i]? =some lo/\hi=oM a i
def ACV{a:AJ}(h:BD a.2.1 a.1){i:Nat}(c:i<a.1.length):(∀w,a.1[i+1]? =some w->wi (w-1)=oM a i)/\(a.1.length<=i+1->wi (a.2.1-1)=oM a i):=by refine⟨λw b=>?_,λd=>?_⟩;have:=h.mem b;have:=h.2.1;grind[oM,AY];have:=h.1;have:=h.2.1;grind[oM,List.getElem?_eq_none,AY]
def lu{a:AJ}(h:BD a.2.1 a.1){i:Nat}{b:Int}(c:a.1[i]? =some b):Ew (a,(i:Int))=some (b,oM a i):=by
 have f:=Cy c;have d:=h.2.2.2.1;have⟨j,k⟩:=ACV h f;unfold Ew;rw[AY (x:=(i:Int)+1),(by unfold ix;rw[if_pos o!,Int.toNat_natCast,c]:ix a.1 (i:Int)=some b)];by_cases e:i+1<a.1.length;have g:ix a.1 ((i:Int)+1)=some a.1[i+1]:=by unfold ix;rw[if_pos o!,show((i:Int)+1).toNat=i+1 by omega,(List.getElem?_eq_getElem e)]
 grind;grind
def wQ{a:AJ}(h:BD a.2.1 a.1){i:Nat}{b:Int}(c:a.1[i]? =some b):Jn (a,(i:Int))=some (b,oM a i):=by
 have f:=Cy c;have d:=h.2.2.2.1;have⟨j,k⟩:=ACV h f;unfold Jn;rw[AY (x:=(i:Int)+1),(by unfold ix;rw[if_pos o!,Int.toNat_natCast,c]:ix a.1 (i:Int)=some b)];by_cases e:i+1<a.1.length;have g:ix a.1 ((i:Int)+1)=some a.1[i+1]:=by unfold ix;rw[if_pos o!,show((i:Int)+1).toNat=i+1 by omega,(List.getElem?_eq_getElem e)]
 grind;grind
def pX{a:AJ}{r:AS}(h:BD a.2.1 a.1):Ap (FZ (a,r)) λk=>0<=k↔Kb a r.2.2.1 r.2.2.2.1:=by
 have g:=h.2.2.2.1;refine AA (P:=λq=>(∃k:Int,q= .inl k/\0<=k/\Kb a r.2.2.1 r.2.2.2.1)\/(q= .inr ()/\ ¬Kb a r.2.2.1 r.2.2.2.1)) ?_ λq p=>?_
 ·refine Cu (λ(s:Int)=>0<=s/\s<=a.1.length/\ ∀i:Nat,(i:Int)<s-> ¬(a.1[i]? =some r.2.2.1/\r.2.2.2.1=oM a i)) (λs=>((a.1.length:Int)-s).toNat) ⟨Af _,o!,λi m=>o!⟩ (λs j=>?_);have⟨e,t,u⟩:=j;unfold HD;dsimp[len];refine AC (λl=>?_) (λl=>Ap.done (.inr ⟨rfl,?_⟩))
  ·obtain⟨k,rfl⟩:=D6 e;rw[lu h (As o!),AD,AY];have f: ¬(a.1[k]? =some r.2.2.1/\r.2.2.2.1=oM a k)->Ap (some (Step.next ((k:Int)+1)):Option (Step Int (Int ⊕ Unit))) (LW (λ(s:Int)=>0<=s/\s<=a.1.length/\ ∀i:Nat,(i:Int)<s-> ¬(a.1[i]? =some r.2.2.1/\r.2.2.2.1=oM a i)) (λs=>((a.1.length:Int)-s).toNat) ((a.1.length:Int)-(k:Int)).toNat λq=>(∃k:Int,q= .inl k/\0<=k/\Kb a r.2.2.1 r.2.2.2.1)\/(q= .inr ()/\ ¬Kb a r.2.2.1 r.2.2.2.1)):=λhn=>by
    refine Ap.next ⟨o!,o!,λi m=>?_⟩ o!
    grind
   refine AP (λb=>?_) (λb=>f λd=>b ?_)
   ·refine AP (λc=>Ap.done (.inl ⟨_,rfl,e,k,?_,?_⟩)) (λc=>f λd=>c d.2.symm);grind;grind
   grind
  rintro⟨i,n,o⟩;grind
 grind[BK,AB,A7]
def ACq{a:AJ}{r:AS}(h:BD a.2.1 a.1):Ap (L8 (a,r)) λk=>0<=k↔Kb a r.2.2.1 r.2.2.2.1:=by
 have g:=h.2.2.2.1;refine AA (P:=λq=>(∃k:Int,q= .inl k/\0<=k/\Kb a r.2.2.1 r.2.2.2.1)\/(q= .inr ()/\ ¬Kb a r.2.2.1 r.2.2.2.1)) ?_ λq p=>?_
 ·refine Cu (λ(s:Int)=>0<=s/\s<=a.1.length/\ ∀i:Nat,(i:Int)<s-> ¬(a.1[i]? =some r.2.2.1/\r.2.2.2.1=oM a i)) (λs=>((a.1.length:Int)-s).toNat) ⟨Af _,o!,λi m=>o!⟩ (λs j=>?_);have⟨e,t,u⟩:=j;unfold QR;dsimp[len];refine AC (λl=>?_) (λl=>Ap.done (.inr ⟨rfl,?_⟩))
  ·obtain⟨k,rfl⟩:=D6 e;rw[wQ h (As o!),AD,AY];have f: ¬(a.1[k]? =some r.2.2.1/\r.2.2.2.1=oM a k)->Ap (some (Step.next ((k:Int)+1)):Option (Step Int (Int ⊕ Unit))) (LW (λ(s:Int)=>0<=s/\s<=a.1.length/\ ∀i:Nat,(i:Int)<s-> ¬(a.1[i]? =some r.2.2.1/\r.2.2.2.1=oM a i)) (λs=>((a.1.length:Int)-s).toNat) ((a.1.length:Int)-(k:Int)).toNat λq=>(∃k:Int,q= .inl k/\0<=k/\Kb a r.2.2.1 r.2.2.2.1)\/(q= .inr ()/\ ¬Kb a r.2.2.1 r.2.2.2.1)):=λhn=>by
    refine Ap.next ⟨o!,o!,λi m=>?_⟩ o!
    grind
   refine AP (λb=>?_) (λb=>f λd=>b ?_)
   ·refine AP (λc=>Ap.done (.inl ⟨_,rfl,e,k,?_,?_⟩)) (λc=>f λd=>c d.2.symm);grind;grind
   grind
  rintro⟨i,n,o⟩;grind
 grind[BK,AB,A7]
def Good(a:AJ)(f:Av)(r:AS):Prop:=f.1=1/\f.2.2=Ml r/\VR r/\Kb a r.2.2.1 r.2.2.2.1
def Bad(f:Av):Prop:=f.2.2.length<=1099511627776/\ ∀r,WR r->f.2.2≠Ml r
def Good.intact{a:AJ}{f:Av}{r:AS}(h:Good a f r)(e:BD a.2.1 a.1):Gr (a,f)=some (r,true):=by have⟨b,c,d,g⟩:=h;have⟨k,k1,i⟩:=ACq (r:=r) e;unfold Gr;rw[b,c,bne_self_eq_false,cond_false,AGT d,AD,show(((r,(0:Int)):AS×Int).2==0)=true from rfl,cond_true];grind
def Good.intR{a:AJ}{f:Av}{r:AS}(h:Good a f r)(b:BD a.2.1 a.1):intR a f=some (r,f.2.1):=by unfold Go.Pm.intR;rw[h.intact b]
def Good.ref{a:AJ}{f:Av}{r:AS}(h:Good a f r)(g:BD a.2.1 a.1): ∃k,DE (a,f)=some (r,k)/\0<=k:=by have⟨b,c,d,e⟩:=h;have⟨k,k1,i⟩:=pX (r:=r) g;refine⟨k,?_,i.2 e⟩;unfold DE;rw[b,c,bne_self_eq_false,cond_false,vw d,AD,show(((r,(0:Int)):AS×Int).2 !=0)=false from rfl,cond_false];grind
def Bad.intR{a:AJ}{f:Av}(h:Bad f)(d:BD a.2.1 a.1):intR a f=none:=by
 have key:Ap (Gr (a,f)) λr=>r.2=false:=by exact AL (λ_=>AB rfl) (λ_=>AA (AGU h.1) λv b=>AP (λc=>absurd (b c).1 (h.2 _ (b c).2)) (λ_=>AB rfl))
 have⟨⟨r,o⟩,k1,e⟩:=key;grind[Go.Pm.intR]
def Bad.ref{a:AJ}{f:Av}(h:Bad f): ∃r,DE (a,f)=some (r,-1):=by
 have key:Ap (DE (a,f)) λr=>r.2= -1:=by exact AL (λ_=>AB rfl) (λ_=>AA (AGc h.1) λv b=>AL (λ_=>AB rfl) (λc=>absurd (b c).1 (h.2 _ (b c).2.wr)))
 have⟨⟨r,o⟩,k1,d⟩:=key;grind
def rG{x y:AS}(b:VR x)(c:VR y)(h:Ml x=Ml y):x=y:=by have a:=vw b;rw[h,vw c]at a;injection a with a;exact(Prod.ext_iff.1 a).1.symm
structure AR(L:List EN)(a:AJ):Prop where
 vb:VB a
 files: ∀f∈a.2.2.1,Bad f\/ ∃r,Good a f r/\af L r/\r.2.1<a.2.2.2.1
 dis:ADi (D5 a)
def AG(a:AJ):Prop:= ∀f∈a.2.2.1,∃r,Good a f r
def RC(a:AJ)(c:Nat):Prop:= ∀lo,((D5 a).filter λe=>e.1.2.2.1==lo).length<=c
def fk{b:Type}: ∀(l m:List b),l.Nodup->(∀x∈l,x∈m)->l.length<=m.length
 |[],m,_,_=>Bk _
 |a::l,m,hn,hs=>by
  obtain⟨s,t,rfl⟩:=List.append_of_mem (hs a (Au.2 (.inl rfl)));rw[Gl]at hn;have:=fk l (s++t) hn.2 λx c=>k!
  grind
def AR.mem{L:List EN}{a:AJ}(h:AR L a){e:NE}(g:e∈D5 a): ∃f∈a.2.2.1,Good a f e.1/\e.2=f.2.1/\af L e.1/\e.1.2.1<a.2.2.2.1:=by have⟨f,i,b⟩:=OU.1 g;rcases h.files f i with d|⟨r,c,j,k⟩;rw[d.intR h.vb.1]at b;cases b;rw[c.intR h.vb.1]at b;grind
def Pb{a:AJ}(b:BD a.2.1 a.1){f:Av}{r:AS}(c:f∈a.2.2.1)(h:Good a f r):(r,f.2.1)∈D5 a:=by exact OU.2 ⟨f,c,h.intR b⟩
def Good.size{a:AJ}{f:Av}{r:AS}(h:Good a f r):f.2.2.length<=34406441:=by rw[h.2.1];exact h.2.2.1.len
def AR.sa{L:List EN}{a:AJ}(h:AR L a):SA a:=by have⟨⟨g,i,j,b,k,l,m⟩,a1,a2,a3,a4,a5,a6⟩:=h.vb;refine⟨b,o!,λf e=>?_⟩;rcases h.files f e with d|⟨r,c,_⟩;exact d.1;have:=c.size;omega
def AR.ds{L:List EN}{a:AJ}(h:AR L a):DS a:=λf b=>by have:=h.sa.2.2 f b;omega
def Kb.uniq{a:AJ}(e:BD a.2.1 a.1){d b c:Int}(p:Kb a d b)(q:Kb a d c):b=c:=by obtain⟨i,f,g⟩:=p;obtain⟨j,h,k⟩:=q;have:=e.inj f h;subst this;rw[g,k]
def yC{l:List EN}{e:EN}(h:l.length<=16777000):Ap (DB (l,e)) λr=>r.1.length<=l.length+1/\((∀y,y∈r.1↔y∈l\/y=e)\/(r.1=l/\ ∃z∈l,z.1=e.1)):=by
 unfold DB;refine AA (P4 (x:=(l,e)) ⟨Af _,o!,d!⟩) λp g=>?_;dsimp only at g⊢;have i:Ap (Option.bind (aX l 0 p) λj=>
  Option.bind (aX l p (len l)) λk=>
  Option.bind (app [] j) λm=>
  Option.bind (app m ([e]:List (Int×(Int×(Int×(Int×(Int×(Int×((Int×(Int×((Bool×BT)×(Bool×BT))))×BT))))))))) λw=>
  Option.bind (app w k) λA=>
  some (A,true)) λr=>r.1.length<=l.length+1/\((∀y,y∈r.1↔y∈l\/y=e)\/(r.1=l/\ ∃z∈l,z.1=e.1)):=by
  refine AA (Bj (Af _) g.1 g.2) λu a=>?_;refine AA (Bj g.1 (by simp[len];omega) i!) λv o=>?_;have C:=a.2;have q:=o.2;simp[len]at q;refine AA (Ac w!) λj b=>?_;have s:=b.2.1;simp[BX]at s;refine AA (Ac w!) λk d=>?_;have t:=d.2.1;simp[BX,Bd]at t;refine AA (Ac o!) λm f=>AB ?_;have D:=f.2.1;refine⟨d!,.inl λy=>?_⟩;have n:u=l.take p.toNat:=by rw[a.1];simp
  dsimp only;rw[f.1,d.1,b.1,n,(by grind[List.take_of_length_le,List.length_drop]:v=l.drop p.toNat),Bw];conv=>rhs;rw[<-D1 p.toNat l]
  grind[List.mem_singleton]
 refine AC (λB=>?_) (λ_=>i);simp[len]at B;refine AA (AI g.1 B) λE I=>?_;have⟨c,F,G,H⟩:=AFM E e;grind[AP,AA,AI,AB]
def Uq(L:List EN):Prop:= ∀x∈L,∀y∈L,x.1=y.1->x=y
def ln{L l:List EN}{e:EN}(c:Uq L)(f: ∀x∈l,x∈L)(d:e∈L)(h:l.length<=16777000):Ap (DB (l,e)) λr=>r.1.length<=l.length+1/\ ∀y,y∈r.1↔y∈l\/y=e:=by
 refine(yC h).mono λr hr=>⟨hr.1,?_⟩
 rcases hr.2 with hr|⟨b,z,a,i⟩;exact hr;have:=c z (f z a) e d i;subst this;intro y;rw[b];exact⟨.inl,λg=>g.elim id λh=>h▸a⟩
def VR.sorted{r:AS}(h:VR r):r.2.2.2.2.2.Pairwise yl:=by
 rw[HH];have step: ∀d i:Nat,∀(a:i<r.2.2.2.2.2.length) (b:i+1+d<r.2.2.2.2.2.length),yl r.2.2.2.2.2[i] r.2.2.2.2.2[i+1+d]:=by
  intro d;induction d with
  |zero=>intro i a b;exact((h.2 (i+1) _ (As b)).2.2 _ o! (As a)).1
  |succ d e=>intro i a b;exact AA6 (e i a o!) (((h.2 (i+1+(d+1)) _ (As b)).2.2 _ o! (As (by omega:i+1+d<_))).1)
 intro i j a b c;have:=step (j-(i+1)) i a o!;simp[(by omega:i+1+(j-(i+1))=j)]at this;exact this
def VR.nd{L:List EN}{r:AS}(b:Uq L)(h:VR r)(a: ∀e∈r.2.2.2.2.2,e∈L):(r.2.2.2.2.2.map (·.1)).Nodup:=by rw[Kf,Sj];refine h.sorted.imp_of_mem λ{x y} f g d c=>?_;have:=b x (a x f) y (a y g) c;grind[ym]
def VR.runOf{L:List EN}{r:AS}(b:Uq L)(h:VR r)(a: ∀e,e∈r.2.2.2.2.2↔e∈L/\gR e=true/\r.2.2.1<=e.2.2.2.2.2.2.1.1/\e.2.2.2.2.2.2.1.1<=r.2.2.2.1/\r.1<=e.1/\e.1<=r.2.1):af L r:=⟨a,h.nd b λe c=>((a e).1 c).1⟩
def zj{v:EN}:gR v=true↔v.2.1=1\/v.2.1=2:=by grind[gR]
def ADn{L d:List EN}{F T g f i:Int}(C:Uq L)(B: ∀e∈d,e∈L)(H:d.length≤16777000):
  Ap (Ai (Jk (d,(F,(T,(g,(f,i)))))) (false,(0,(F,(T,(g,(f,(i,[])))))))) λr=> ∃a:List EN,r.2=(F,(T,(g,(f,(i,a)))))/\a.length<=d.length/\ ∀y,y∈a↔y∈d/\gR y=true/\g<=y.2.2.2.2.2.2.1.1/\y.2.2.2.2.2.2.1.1<=f/\F<=y.1/\y.1<=T:=by
 refine Cu (λ(s:Bool×(Int×AS))=> ∃(k:Nat) (a:List EN),s.2=((k:Int),(F,(T,(g,(f,(i,a))))))/\k<=d.length/\a.length<=k/\ ∀y,y∈a↔y∈d.take k/\gR y=true/\g<=y.2.2.2.2.2.2.1.1/\y.2.2.2.2.2.2.1.1<=f/\F<=y.1/\y.1<=T) (λs=>d.length-s.2.1.toNat)
  ⟨0,[],rfl,Bk _,Ao _,λy=>q!⟩ ?_
 rintro⟨M,K⟩ ⟨k,a,rfl,I,J,n⟩;unfold Jk;dsimp only;simp only[len];refine AC (λw=>?_) (λw=>Ap.done ⟨a,rfl,o!,by rw[BR o!]at n;exact n⟩);refine AA (AI o! w) λv l=>?_;have A:=l.1;rw[Dd]at A;have q:d.take (k+1)=d.take k++[v]:=by rw[Cv,A];rfl
 rw[AY]
 have c: ∀m:Bool,¬(gR v=true∧g≤v.2.2.2.2.2.2.1.1∧v.2.2.2.2.2.2.1.1≤f∧F≤v.1∧v.1≤T)→
   Ap (some (Step.next (m,((k:Int)+1,(F,(T,(g,(f,(i,a)))))))):Option (Step (Bool×(Int×AS)) (Bool×AS))) (LW (λ(s:Bool×(Int×AS))=> ∃(k:Nat) (a:List EN),s.2=((k:Int),(F,(T,(g,(f,(i,a))))))/\k<=d.length/\a.length<=k/\ ∀y,y∈a↔y∈d.take k/\gR y=true/\g<=y.2.2.2.2.2.2.1.1/\y.2.2.2.2.2.2.1.1<=f/\F<=y.1/\y.1<=T) (λs=>d.length-s.2.1.toNat) (d.length-((k:Nat):Int).toNat)
    λr=> ∃a:List EN,r.2=(F,(T,(g,(f,(i,a)))))/\a.length<=d.length/\ ∀y,y∈a↔y∈d/\gR y=true/\g<=y.2.2.2.2.2.2.1.1/\y.2.2.2.2.2.2.1.1<=f/\F<=y.1/\y.1<=T):=λm hn=>by
  refine Ap.next ⟨k+1,a,rfl,o!,o!,λy=>?_⟩ d!
  grind[List.mem_singleton]
 refine AA CL λb u=>?_;refine AO (λz=>c _ λj=>?_) (λD=>?_);rw[u.2 (zj.1 j.1)]at z;cases z;refine AC (λ_=>c _ λj=>o!) (λq2=>?_);refine AC (λ_=>c _ λj=>o!) (λq3=>?_);refine AC (λ_=>c _ λj=>o!) (λq4=>?_);refine AC (λ_=>c _ λj=>o!) (λq5=>?_);refine AA (RV ⟨Af _,d!⟩) λG _=>?_;refine AA (ln C (λx E=>B x (FA ((n x).1 E).1)) (B v l.2) o!) λt o=>?_;refine Ap.next ⟨k+1,t.1,rfl,o!,o!,λy=>?_⟩ d!
 rw[o.2,n,q,An,BC];constructor;rintro(⟨h,p⟩|h);exact⟨.inl h,p⟩;subst h;exact⟨.inr rfl,(zj.2 (u.1 D)),o!⟩;rintro⟨h|h,p⟩;exact .inl ⟨h,p⟩;exact .inr h
def AFi{L c:List EN}{F T h g j:Int}(n:Uq L)(q: ∀e∈c,e∈L)(p:c.length<=16777000):Ap (JN (c,(F,(T,(h,(g,j)))))) λr=>r.2=0->VR r.1/\ ∃b:List EN,r.1=(F,(T,(h,(g,(j,b)))))/\ ∀y,y∈b↔y∈c/\gR y=true/\h<=y.2.2.2.2.2.2.1.1/\y.2.2.2.2.2.2.1.1<=g/\F<=y.1/\y.1<=T:=by unfold JN;refine AA IR λw _=>?_;refine AO (λ_=>AB λa=>absurd (show(1:Int)=0 from a) g!) (λ_=>?_);refine AA (RU ⟨Af _,d!⟩) λx m=>?_;refine BB (λu i=>AB λa=>absurd a (m u i)) (λu i=>?_);refine AA (ADn n q p) λs d=>?_;have⟨b,k,v,l⟩:=d;refine AK (λ_=>AB λa=>absurd (show(41:Int)=0 from a) g!) (λ_=>?_);refine AC (λ_=>AB λa=>absurd (show(21:Int)=0 from a) g!) (λ_=>?_);refine AA XJ λt f=>?_;refine AO (λ_=>AB λa=>absurd (show(13:Int)=0 from a) g!) (λo=>AB λ_=>⟨f.1 o,b,k,l⟩)
set_option maxHeartbeats 400000
def AFj{x:Int×List Int}(h:BD x.1 x.2):Ap (IC x) λr=>r.2=0/\VB r.1/\r.1.2.1=x.1/\r.1.2.2.2.1=1:=by refine AA kw λl c=>?_;refine AO (λb=>(by rw[c.2 h]at b;cases b)) (λ_=>?_);have k:=h.2.2.2.1;refine AA (Ac w!) λm e=>AB ⟨rfl,⟨?_,u!,u!,u!,u!,q!,⟨λi f d a=>by simp at a,λi f g d a j=>by simp at a⟩⟩,rfl,rfl⟩;grind
def FR.push{l m:List Av}{f:Av}{c:Int}(h:FR l c l.length)(v:1<=c)(r:f.2.1=c)(u:m=l++[f]):FR m (c+1) m.length:=by
 subst u;obtain⟨q,t⟩:=h;have p:(l++[f]).length=l.length+1:=q!
 have b: ∀(i:Nat) (g:Av),¬i<l.length->(l++[f])[i]? =some g->g=f:=λi g j a=>by
  have o:=Cy a;rw[p]at o;have s:i=l.length:=o!
  subst s;rw[Ch (Ao _)]at a;simp at a;exact a.symm
 refine⟨λi g j a=>?_,λi g k j a n=>?_⟩;by_cases e:i<l.length;rw[CT e]at a;have:=q i g o! a;exact⟨this.1,o!⟩;rw[b i g e a,r];exact o!;rw[p]at j;have e:i<l.length:=o!
 rw[CT e]at a;by_cases d:i+1<l.length;rw[CT d]at n;exact t i g k o! a n;rw[b (i+1) k d n,r];exact(q i g o! a).2
def ADt{x:AJ×Ae×Int}(h:SA x.1)(l:VB x.1):Ap (Eh x) λr=>r.2=0->SA r.1/\VB r.1/\r.1.2.1=x.1.2.1/\(r.1.2.2.2.1=x.1.2.2.2.1\/r.1.2.2.2.1<=x.2.1.2.2+1):=by
 unfold Eh;refine AA Jl λv0 O=>?_;refine AO (λ_=>AB n!) (λd=>?_);obtain⟨a1,a2,a3,a4,a5,a6,a7,a8,a9⟩:=O d;refine AA Bg λv1 q=>?_;refine AO (λ_=>AB n!) (λm=>?_);obtain⟨l1,l2,l3,l4,l5,Z⟩:=q.1 m;refine AC (λ_=>AB n!) (λc1=>?_);refine AC (λ_=>AB n!) (λc2=>?_);generalize S:(if(x.2.1.1>x.1.2.2.2.1)then x.2.1.1 else x.1.2.2.2.1)=F;have f1:x.2.1.1<=F/\x.1.2.2.2.1<=F/\F<=1099511627777:=by rw[<-S];split<;>omega
 have D:=AY (x:=F+x.2.2);have E:=AY (x:=F+x.2.2-1);rw[D,E];generalize T:(if(x.2.1.2.2<(F+x.2.2-1))then x.2.1.2.2 else(F+x.2.2-1))=G;have g1:G<=x.2.1.2.2/\G<=F+x.2.2-1:=by rw[<-T];split<;>omega
 refine AC (λ_=>AB λ_=>⟨h,l,rfl,.inl rfl⟩) (λc3=>?_);have H:=AY (x:=F-x.2.1.1);have I:=AY (x:=G-x.2.1.1);have J:=AY (x:=G-x.2.1.1+1);rw[H,I,J];have K:=AY (x:=len x.1.2.2.1+len x.1.1) i!;have L:=AY (x:=x.1.2.2.2.2+len x.1.1) i!;have M:=AY (x:=G+1);rw[K,L,M];have U:G<=1099511627776:=by
  have X:x.2.1.2.1.length≠0:=o!
  obtain⟨i,n⟩: ∃i,x.2.1.2.1[x.2.1.2.1.length-1]? =some i:=⟨_,As o!⟩
  have:=Z _ i n;have q:=this.1;have t:=this.2.2.1;omega
 refine AC (λ_=>AB n!) (λB=>?_);refine AC (λ_=>AB n!) (λC=>?_);simp only[len]at B C;refine AA (Bj) λv2 t=>?_;have W:=t.2;refine AA (RX ⟨Af _,d!,o!⟩) λv8 R=>?_;refine BB (λu b=>AB λa=>absurd a (R u b)) (λu b=>?_);refine AA (Ac w!) λad j=>?_;have c:=j.1;rw[Bw]at c;refine AA (P:=λr=>(∀u,r= .inl u->u.1≠0)/\ ∀u,r= .inr u->u.2.1=x.1.1/\u.1.length<=256/\(∀f∈u.1,f.2.2.length<=1099511627776)/\u.2.2.1=x.1.2.1/\u.2.2.2.2.1=x.1.2.2.2.2+x.1.1.length/\FR u.1 u.2.2.2.2.1 u.1.length) ?_ λr hr=>BB (λu b=>AB λa=>absurd a (hr.1 u b)) (λu b=>AB λ_=>?_);refine AW (λ(s:Int×(List Av)×(List Int)×Int×Int×Int×AJ)=>0<=s.1/\s.1<=x.1.1.length/\s.2.2.1=x.1.1/\(s.2.1.length:Int)=x.1.2.2.1.length+s.1/\(∀f∈s.2.1,f.2.2.length<=1099511627776)/\s.2.2.2.1=x.1.2.1/\s.2.2.2.2.2.1=x.1.2.2.2.2+s.1/\FR s.2.1 s.2.2.2.2.2.1 s.2.1.length) (λ(s:Int×(List Av)×(List Int)×Int×Int×Int×AJ)=>((x.1.1.length:Int)-s.1).toNat) ⟨Af _,d!,rfl,by dsimp only;rw[c];omega,by dsimp only;rw[c];exact h.2.2,rfl,d!,by dsimp only;rw[c];exact l.2.2.2.2.2.2⟩ (λs V=>?_);obtain⟨Y,i2,v,i4,y,z,i7,A⟩:=V;unfold N7;have e:=AY (x:=s.1+1);rw[e];refine AC (λd=>?_) (λd=>AB ⟨λu b=>(by cases b),λu b=>(by cases b;simp only[len]at d;exact⟨v,o!,y,z,o!,A⟩)⟩);simp only[len]at d;refine AA (Tf a4 ⟨Y,d⟩) λal _=>?_;refine AA (fT d!) λao Q=>?_;refine AL (λd=>AB ⟨λu b=>(by cases b;exact d),λu b=>(by cases b)⟩) (λ_=>?_);refine AA aR λap k=>?_;refine AA (Ac w!) λar g=>AB ?_;have p:=g.2.1;simp only[Bd,BX]at p;have N:=AY (x:=s.2.2.2.2.2.1+1);rw[N];refine⟨⟨d!,d!,v,d!,λf o=>?_,z,d!,A.push o! rfl g.1⟩,d!⟩;dsimp only at o;rw[g.1]at o;rcases An.1 o with w|w;exact y f w;simp at w;rw[w];exact k;obtain⟨q1,q2,q3,q4,q5,q6⟩:=hr.2 u b;refine⟨⟨by dsimp only;rw[q1];exact a4,d!,q3⟩,⟨?_,d!,d!,d!,d!,q2,q6⟩,q4,.inr d!⟩;dsimp only;rw[q1,q4];exact l.1
def FP(l:List Av)(m:Int):Prop:=(∀f∈l,0<f.2.1/\f.2.1<m)/\l.Pairwise λf g=>f.2.1<g.2.1
def yV{l:List Av}{m:Int}(h:FP l m):FR l m l.length:=by refine⟨λi f e a=>h.1 f (BN a),λi f g e a d=>?_⟩;have b:=Cy a;have c:=Cy d;have:=HH.1 h.2 i (i+1) b c o!;grind
def FR.fp{l:List Av}{m:Int}(h:FR l m l.length):FP l m:=by
 refine⟨λf e=>?_,HH.2 λi j b c g=>?_⟩;obtain⟨i,b⟩:=E9.1 e;have:=Cy b;exact h.1 i f o! b;obtain⟨d,rfl⟩: ∃d,j=i+1+d:=⟨j-(i+1),o!⟩
 induction d with
 |zero=>exact h.2 i _ _ o! (As b) (As c)
 |succ d k=>
  have a:i+1+d<l.length:=o!
  have n:=k a o!;have o:=h.2 (i+1+d) l[i+1+d] l[i+1+(d+1)] o! (As a) (As c);omega
def FR.sub{l k:List Av}{m:Int}(h:FR l m l.length)(a:k.Sublist l):FR k m k.length:=yV ⟨λf b=>h.fp.1 f (a.subset b),h.fp.2.sublist a⟩
def AAX{b:AQ}{x:List Av}{m:Int}(v:FR x m x.length)(h:CX b)(hx:x.length<=1000000)(j: ∀f∈x,f.2.2.length<=1099511627776):Ap (Dv b x) λr=>CX r.2/\r.1.length<=x.length/\FR r.1 m r.1.length/\ ∀f∈r.1,f.2.2.length<=1099511627777:=by
 unfold Dv;refine AP (λ_=>AB ⟨h,q!,⟨λi f s j=>by simp at j,λi f g s j c=>by simp at j⟩,λf j=>by simp at j⟩) (λA=>?_);simp only[len]at A;refine AA (Ad h i!) λd Q=>?_;obtain⟨M,t,N⟩:=Q;simp only[len]at N;have e:=AY (x:=d.1+1);rw[e];refine AA (Ad M g!) λv1 D=>?_;refine AP (λ_=>?_) (λ_=>?_);refine AA (Bj (Af _) t) λv2 E=>?_;refine AA (Bj o! i! i!) λv3 F=>?_;have l2:=E.2;have T:=F.2;simp only[len]at T;refine AA (Ac w!) λv4 G=>?_;have U:=G.2.1;simp only[BX]at U;refine AA (Ac o!) λY H=>AB ⟨D.1,?_,?_⟩;have l5:=H.2.1;dsimp only;omega;have J:Y.Sublist x:=by
  rw[H.1,G.1,E.1,F.1,Bw];have O:x=x.take d.1.toNat++x.drop d.1.toNat:=(D1 _ _).symm;suffices n:((x.drop (0:Int).toNat).take (d.1.toNat-(0:Int).toNat)++(x.drop (d.1+1).toNat).take ((len x).toNat-(d.1+1).toNat)).Sublist (x.take d.1.toNat++x.drop d.1.toNat) by rw[<-O]at n;exact n
  apply List.Sublist.append;simp;apply (List.take_sublist _ _).trans;have P:(d.1+1).toNat=d.1.toNat+1:=o!
  rw[P,<-Lw];exact List.drop_sublist _ _
 exact⟨v.sub J,λf l=>by have:=j f (J.subset l);omega⟩;refine AA (Ac w!) λy R=>?_;have C:=R.1;rw[Bw]at C;subst C;refine AA (AI t) λv7 _=>?_;refine AA (AI t) λK z=>?_;refine AA (V2 D.1 (j _ z.2)) λL I=>?_;refine AA (AI t) λX _=>?_;refine AA (AI t) λa u=>AB ⟨I.1,by simp[FT],?_,λf l=>?_⟩;have q:=v.fp;have Z:K=a:=by have:=z.1;rw[u.1]at this;exact(BP this).symm
 have key: ∀(i:Nat) (g:Av),(FT y d.1 (a.1,(a.2.1,L.1)))[i]? =some g-> ∃k,y[i]? =some k/\k.2.1=g.2.1:=λi g c=>by simp only[FT]at c;rw[XS]at c;split at c;rename_i s;subst s;split at c;exact⟨a,u.1,by rw[<-BP c]⟩;cases c;exact⟨g,c,rfl⟩
 have el:(FT y d.1 (a.1,(a.2.1,L.1))).length=y.length:=by simp[FT]
 refine⟨λi g s c=>?_,λi g k s c S=>?_⟩;obtain⟨p,B,W⟩:=key i g c;have:=v.1 i p (by dsimp only at s;omega) B;omega;obtain⟨p,B,W⟩:=key i g c;obtain⟨o,V,o2⟩:=key (i+1) k S;have:=v.2 i p o (by dsimp only at s;omega) B V;omega;simp only[FT]at l;rcases OW l with w|w;have:=j f w;omega;rw[w];have:=I.2;have:=j K z.2;dsimp only;omega
def ABk(L:List EN)(a:AJ)(F G s:Int)(nf:List Av):Prop:= ∀(j:Nat) (f:Av),nf[j]? =some f->
 ∃r,f=(1,(s+j,Ml r))/\VR r/\af L r/\r.1=F/\r.2.1=G/\a.1[j]? =some r.2.2.1/\r.2.2.2.1=oM a j
def Dj.uq{l:Ae}(h:Dj l):Uq l.2.1:=λx b y c a=>XE h.nodup b c a
def AA3{l:Ae}(h:Dj l){F G:Int}{v:List EN}(g:l.1<=F)(i:F<=G)(j:G<=l.1+l.2.1.length-1)(b:v=(l.2.1.drop (F-l.1).toNat).take ((G-l.1+1).toNat-(F-l.1).toNat))(e:EN):e∈v↔e∈l.2.1/\F<=e.1/\e.1<=G:=by subst b;have⟨l1,l2,m,n,o,c⟩:=h;rw[E9,E9];constructor;grind;rintro⟨⟨k,a⟩,d,f⟩;have:=(c _ e a).1;refine⟨k-(F-l.1).toNat,?_⟩;rw[aq,if_pos o!,KR,show(F-l.1).toNat+(k-(F-l.1).toNat)=k by omega,a]
def yE{x:AJ×Ae×Int}(h:SA x.1)(hb:VB x.1)(q:Dj x.2.1):Ap (Eh x) λr=>r.2=0→r.1=x.1∨
  ∃F G a,r.1=(x.1.1,(x.1.2.1,(x.1.2.2.1++a,(G+1,x.1.2.2.2.2+a.length))))/\(x.1.2.2.2.1<=F/\(x.2.1.1<=x.1.2.2.2.1->F=x.1.2.2.2.1)/\(x.2.1.1<=F/\G<=x.2.1.2.2))/\F<=G/\a.length=x.1.1.length/\ABk x.2.1.2.1 x.1 F G x.1.2.2.2.2 a:=by
 unfold Eh;refine AA Jl λv0 X=>AO (λ_=>AB λb=>absurd (show(54:Int)=0 from b) g!) (λi=>?_);have⟨a1,a2,a3,a4,a5,a6,a7,a8,a9⟩:=X i;refine AA Bg λv1 h1=>AO (λ_=>AB λb=>absurd (show(26:Int)=0 from b) g!) (λad=>?_);have⟨l1,l2,l3,l4,l5,l6⟩:=id q;refine AC (λ_=>AB λb=>absurd (show(1:Int)=0 from b) g!) (λc1=>AC (λ_=>AB λb=>absurd (show(1:Int)=0 from b) g!) (λc2=>?_));have o: ∃F,(if(x.2.1.1>x.1.2.2.2.1)then x.2.1.1 else x.1.2.2.2.1)=F:=⟨_,rfl⟩
 have⟨F,o⟩:=o;have V:x.2.1.1<=F/\x.1.2.2.2.1<=F/\F<=1099511627777:=k!
 have W:x.2.1.1<=x.1.2.2.2.1->F=x.1.2.2.2.1:=k!
 have C:=AY (x:=F+x.2.2);have D:=AY (x:=F+x.2.2-1);have p: ∃G,(if(x.2.1.2.2<(F+x.2.2-1))then x.2.1.2.2 else(F+x.2.2-1))=G:=⟨_,rfl⟩
 have⟨G,p⟩:=p;have g1:G<=x.2.1.2.2/\G<=F+x.2.2-1:=k!
 rw[o,C,D,p];refine AC (λ_=>AB λ_=>.inl rfl) (λc3=>?_);have Q:=AY (x:=F-x.2.1.1);have R:=AY (x:=G-x.2.1.1);have S:=AY (x:=G-x.2.1.1+1);rw[Q,R,S];have T:=AY (x:=len x.1.2.2.1+len x.1.1) (by simp[len];omega);have U:=AY (x:=x.1.2.2.2.2+len x.1.1) (by simp[len];omega);rw[T,U,(AY (x:=G+1))];refine AC (λ_=>AB λb=>absurd (show(21:Int)=0 from b) g!) (λN=>AC (λ_=>AB λb=>absurd (show(21:Int)=0 from b) g!) (λO=>?_));simp[len]at N O;refine AA (Bj) λv2 E=>?_;have al:=E.2;have l:=AA3 q (F:=F) (G:=G) V.1 o! o! E.1;refine AA (RX ⟨Af _,d!,o!⟩) λv8 Z=>BB (λu c=>AB λb=>absurd b (Z u c)) (λu c=>AA (Ac w!) λao t=>?_);have g:=t.1;rw[Bw]at g;subst g;refine AA (P:=λr=>(∀u,r= .inl u->u.1≠0)/\ ∀u,r= .inr u-> ∃(a:List Av),(u.1,(u.2.1,(u.2.2.1,(u.2.2.2.1,u.2.2.2.2.1))))=(x.1.2.2.1++a,(x.1.1,(x.1.2.1,(x.1.2.2.2.1,x.1.2.2.2.2+a.length))))/\a.length=x.1.1.length/\ABk x.2.1.2.1 x.1 F G x.1.2.2.2.2 a) ?_ λr hr=>BB (λu c=>AB λb=>absurd b (hr.1 u c)) (λu c=>AB λ_=>.inr ?_)
 ·refine Cu (λ(s:Int×(List Av)×(List Int)×Int×Int×Int×AJ)=> ∃(k:Nat) (a:List Av) (z:AJ),s=((k:Int),(x.1.2.2.1++a,(x.1.1,(x.1.2.1,(x.1.2.2.2.1,(x.1.2.2.2.2+(k:Int),z))))))/\k<=x.1.1.length/\a.length=k/\ABk x.2.1.2.1 x.1 F G x.1.2.2.2.2 a) (λs=>x.1.1.length-s.1.toNat)
   ⟨0,[],u,q!,Bk _,rfl,λj f d=>by simp at d⟩ ?_
  rintro s ⟨k,a,z,rfl,i2,A,I⟩;unfold N7;dsimp only;simp only[len];rw[o,C,D,p];refine AC (λi=>?_) (λi=>Ap.done ⟨λu c=>(by cases c),λu c=>(by cases c;exact⟨a,by dsimp only;rw[A],o!,I⟩)⟩);have H:x.1.1[k]? =some (x.1.1[k]' o!):=As o!;rw[lu hb.1 H,AD];refine AA (AFi q.uq (λe he=>((l e).1 he).1) o!) λn v=>AL (λi=>Ap.done ⟨λu c=>(by cases c;exact i),λu c=>(by cases c)⟩) (λb=>?_);have⟨B,es,m,m3⟩:=v b;rw[ou B,AD];refine AA (Ac w!) λap Y=>?_;rw[AY (x:=x.1.2.2.2.2+(k:Int)+1),AY (x:=(k:Int)+1)];refine Ap.next ⟨k+1,a++[(1,(x.1.2.2.2.2+(k:Int),Ml n.1))],z,?_,o!,by rw[Aa,A];rfl,λj f d=>?_⟩ d!
  grind;by_cases hj:j<a.length;rw[CT hj]at d;exact I j f d;have y:=Cy d;rw[Aa,Bd,BX]at y;have w:j=k:=o!
  subst w;rw[Ch o!,A,Gn]at d;cases d;refine⟨n.1,rfl,B,B.runOf q.uq λe=>?_,by rw[m],by rw[m],by rw[m];exact H,by rw[m]⟩;rw[m];dsimp only;rw[m3,l];constructor;grind;rintro⟨q1,q2,q3,q4,q5,q6⟩;exact⟨⟨q1,q5,q6⟩,q2,q3,q4,q5,q6⟩
 have⟨a,q1,q2,q3⟩:=hr.2 u c;refine⟨F,G,a,?_,⟨o!,W,o!⟩,o!,q2,q3⟩;have J:=congrArg (·.1) q1;have K:=congrArg (·.2.1) q1;have L:=congrArg (·.2.2.1) q1;have M:=congrArg (·.2.2.2.2) q1;dsimp only at J K L M;dsimp only;rw[J,K,L,M]
def Kb.congr{a b:AJ}(e:b.1=a.1)(f:b.2.1=a.2.1){d c:Int}:Kb a d c↔Kb b d c:=by grind[Kb,oM]
def Good.congr{a b:AJ}(c:b.1=a.1)(d:b.2.1=a.2.1){f:Av}{r:AS}(h:Good a f r):Good b f r:=⟨h.1,h.2.1,h.2.2.1,(Kb.congr c d).1 h.2.2.2⟩
def Good.run{a:AJ}{f:Av}{r s:AS}(h:Good a f r)(g:Good a f s):r=s:=rG h.2.2.1 g.2.2.1 (h.2.1.symm.trans g.2.1)
def AR.step{L:List EN}{a b:AJ}{F G:Int}{s:List Av}(h:AR L a)(e:b=(a.1,(a.2.1,(a.2.2.1++s,(G+1,a.2.2.2.2+s.length)))))(hF:a.2.2.2.1<=F)(hG:F<=G)(hn:ABk L a F G a.2.2.2.2 s)(D:VB b):AR L b/\(AG a->AG b)/\ ∀c,RC a c->RC b (c+1):=by
 have P:b.1=a.1:=by rw[e]
 have Q:b.2.1=a.2.1:=by rw[e]
 have Y:b.2.2.1=a.2.2.1++s:=by rw[e]
 have h4:b.2.2.2.1=G+1:=by rw[e]
 have q: ∀f∈s,∃(j:Nat) (r:AS),Good b f r/\af L r/\r.1=F/\r.2.1=G/\a.1[j]? =some r.2.2.1/\s[j]? =some f:=λf k=>by have⟨j,hj⟩:=E9.1 k;have⟨r,l,M,w,r4,W,S,r7⟩:=hn j f hj;refine⟨j,r,⟨by rw[l],by rw[l],M,(Kb.congr P Q).1 ⟨j,S,r7⟩⟩,w,r4,W,S,hj⟩
 have K: ∀f∈a.2.2.1,Bad f\/ ∃r,Good b f r/\af L r/\r.2.1<a.2.2.2.1:=λf k=>(h.files f k).imp id λ⟨r,l,M,w⟩=>⟨r,l.congr P Q,M,w⟩
 have d: ∀x∈D5 b,(x∈D5 a/\x.1.2.1<a.2.2.2.1)\/ ∃(j:Nat) (f:Av),s[j]? =some f/\Good b f x.1/\x.2=f.2.1/\x.1.1=F/\a.1[j]? =some x.1.2.2.1:=λx m=>by unfold D5 at m;rw[Y]at m;have⟨f,k,z⟩:=OU.1 m;rcases An.1 k with k|k;rcases K f k with E|⟨r,l,M,w⟩;rw[E.intR D.1]at z;cases z;rw[l.intR D.1]at z;cases z;exact .inl ⟨Pb h.vb.1 k (l.congr P.symm Q.symm),w⟩;have⟨j,r,l,M,w,r4,W,S⟩:=q f k;rw[l.intR D.1]at z;cases z;exact .inr ⟨j,f,S,l,rfl,w,W⟩
 refine⟨⟨D,λf k=>?_,λx m y R J p=>?_⟩,λU f k=>?_,λc Z v=>?_⟩;grind;rcases d x m with⟨n,A⟩|⟨i,f,n,A,N,x4,B⟩;rcases d y R with⟨o,C⟩|⟨j,g,o,C,T,y4,O⟩;exact h.dis x n y o J p;grind;rcases d y R with⟨o,C⟩|⟨j,g,o,C,T,y4,O⟩;exact .inr o!;rw[<-p]at O;have t:=h.vb.1.inj B O;subst t;rw[n]at o;cases o;exact absurd (DO (A.run C) (N.trans T.symm)) J;rw[Y]at k;rcases An.1 k with k|k;have⟨r,hr⟩:=U f k;exact⟨r,hr.congr P Q⟩;have⟨j,r,l,_⟩:=q f k;exact⟨r,l⟩;have I:=(To D).filter λe=>e.1.2.2.1==v;by_cases H: ∃y∈(D5 b).filter (λe=>e.1.2.2.1==v),∃(j:Nat) (f:Av),s[j]? =some f/\Good b f y.1/\y.2=f.2.1/\a.1[j]? =some y.1.2.2.1;have⟨y,R,j,g,o,C,T,O⟩:=H;have V:y.1.2.2.1=v:=eq_of_beq (BV.1 R).2;have:=fk _ (y::(D5 a).filter λe=>e.1.2.2.1==v) I λx m=>by have⟨X,u⟩:=BV.1 m;rcases d x X with⟨n,_⟩|⟨i,f,n,A,N,x4,B⟩;grind;rw[eq_of_beq u,<-V]at B;have t:=h.vb.1.inj B O;subst t;rw[n]at o;cases o;exact Au.2 (.inl (DO (A.run C) (N.trans T.symm)))
 rw[Bd]at this;have:=Z v;omega;have:=fk _ ((D5 a).filter λe=>e.1.2.2.1==v) I λx m=>by have⟨X,u⟩:=BV.1 m;rcases d x X with⟨n,_⟩|⟨i,f,n,A,N,x4,B⟩;exact BV.2 ⟨n,u⟩;exact absurd ⟨x,m,i,f,n,A,N,B⟩ H
 have:=Z v;omega
def AFf(a:AJ)(lo n:Int):Prop:= ∃e∈D5 a,e.1.2.2.1=lo/\e.1.1<=n/\n<=e.1.2.1
def AF(a:AJ):Prop:= ∀lo∈a.1,∀n:Int,1<=n->n<a.2.2.2.1->AFf a lo n
def AF.step{L:List EN}{a b:AJ}{F G:Int}{c:List Av}(w:AF a)(h:AR L a)(e:b=(a.1,(a.2.1,(a.2.2.1++c,(G+1,a.2.2.2.2+c.length)))))(H:F=a.2.2.2.1)(z:c.length=a.1.length)(hn:ABk L a F G a.2.2.2.2 c)(s:VB b):AF b:=by
 have k:b.1=a.1:=by rw[e]
 have p:b.2.1=a.2.1:=by rw[e]
 have q:b.2.2.1=a.2.2.1++c:=by rw[e]
 have E:b.2.2.2.1=G+1:=by rw[e]
 intro A d n B I;rw[k]at d;rcases jJ n a.2.2.2.1 with g|g;obtain⟨r,hr,i,m,u⟩:=w A d n B g;have⟨f,l,v,D,_⟩:=h.mem hr;exact⟨(r.1,f.2.1),Pb s.1 (by rw[q];exact HG _ l) (v.congr k p),i,m,u⟩;have⟨j,t⟩:=E9.1 d;have y:=Cy t;have l:c[j]? =some (c[j]' o!):=As o!;have⟨r,i,m,u,J,K,o,C⟩:=hn j _ l;have x:Good b (c[j]' o!) r:=⟨by rw[i],by rw[i],m,(Kb.congr k p).1 ⟨j,o,C⟩⟩
 refine⟨(r,(c[j]' o!).2.1),Pb s.1 (by rw[q];exact OT _ (Qv _)) x,?_,d!⟩;rw[t]at o;exact(BP o).symm
def SF(a:AJ)(m:Int):Prop:=a.2.2.2.2+a.2.2.1.length<=m
def ADs{x:AJ×Ae×Int}{m:Int}(h:AR x.2.1.2.1 x.1)(f:Dj x.2.1)(t:SF x.1 m):Ap (Eh x) λr=>r.2=0->AR x.2.1.2.1 r.1/\(AG x.1->AG r.1)/\(∀c,RC x.1 c->RC r.1 (c+1))/\SF r.1 (m+32)/\r.1.2.1=x.1.2.1/\(r.1.2.2.2.1=x.1.2.2.2.1\/r.1.2.2.2.1<=x.2.1.2.2+1)/\(ID x.2.1.2.1->AF x.1->AF r.1):=by
 refine((ADt h.sa h.vb).and (yE h.sa h.vb f)).mono λr hr k=>?_;have⟨q1,q2,q3,q4⟩:=hr.1 k;rcases hr.2 k with e|⟨F,G,u,g,i,l,n,j⟩;rw[e];exact⟨h,id,λc q s=>Nat.le_succ_of_le (q s),by unfold SF at*;omega,rfl,.inl rfl,λ_=>id⟩
 ·have a:=h.step g i.1 l j q2;have b:0<x.2.1.2.1.length:=by have:=f.2.2.2.2.1;omega
  have d:ID x.2.1.2.1->AF x.1->AF r.1:=λo p=>p.step h g (i.2.1 (by have v:=(o 0 _ (As b)).1;have w:=(f.2.2.2.2.2 0 _ (As b)).1;have:=h.vb.2.1;omega)) n j q2;have:=h.sa.1;refine⟨a.1,a.2.1,a.2.2,?_,?_,?_,d⟩;all_goals unfold SF at*;grind
def AFF{c d:Type}(l:List c)(m:List d)(n:Nat):l.zip m=(l.take n).zip (m.take n)++(l.drop n).zip (m.drop n):=by
 induction n generalizing l m with
 |zero=>simp
 |succ n e=>
  cases l with
  |nil=>simp
  |cons a l=>
   cases m with
   |nil=>simp
   |cons b m=>grind[List.zip_cons_cons]
theorem AGm{c d:Type}{l:List c}{m:List d}{k:Nat}{a:c}{b:d}(e:l[k]? =some a)(f:m[k]? =some b):(a,b)∈l.zip m:=by refine E9.2 ⟨k,?_⟩;grind[List.getElem?_zip_eq_some]
def ABu{x:AJ}{L:List EN}{U:Int×List AS×List Int×List Bool}(h:AR L x)(b:0<=U.1):Ap (Ai (Em x U) ([],([],0))) λr=>r.2.length=r.1.length/\ ∀p∈r.1.zip r.2,p∈D5 x:=by
 obtain⟨⟨b1,b2,b3,b4,b5,b6,b7⟩,a1,a2,a3,a4,a5,a6⟩:=h.vb;refine Cu (λ(s:List AS×List Int×Int)=>0<=s.2.2/\s.2.2<=x.2.2.1.length/\s.2.1.length=s.1.length/\s.1.length<=s.2.2/\ ∀p∈s.1.zip s.2.1,p∈D5 x) (λ(s:List AS×List Int×Int)=>((x.2.2.1.length:Int)-s.2.2).toNat) ⟨Af _,d!,rfl,q!,λp b=>by simp at b⟩ (λs X=>?_);obtain⟨S,i2,T,i4,u⟩:=X;unfold Em;have e:=AY (x:=s.2.2+1);rw[e];refine AC (λE=>?_) (λ_=>Ap.done ⟨T,u⟩);simp only[len]at E;refine AA (AI S E) λv D=>?_;have q: ∃w,DE (x,v)=some w/\(w.2= -1\/Good x v w.1):=by rcases h.files v D.2 with Y|⟨r,R,_⟩;obtain⟨r,hr⟩:=Y.ref (a:=x);exact⟨_,hr,.inl rfl⟩;obtain⟨k,hk,ad⟩:=R.ref h.vb.1;exact⟨_,hk,.inr R⟩
 obtain⟨w,F,t⟩:=q;rw[F,AD];refine AL (λ_=>Ap.next ⟨d!,d!,T,d!,u⟩ d!) (λZ=>?_);have c:Good x v w.1:=t.elim (λhz=>absurd hz o!) id;refine AA (Ql ⟨i!,i!,o!⟩) λy o=>?_;refine AA (Bj (Af _) o.1 o.2) λv8 P=>?_;refine AA (Bj o.1 i! i!) λv9 Q=>?_;have l8:=P.2;have l9:=Q.2;simp only[len]at l9;refine AA (Ac w!) λar d=>?_;have G:=d.2.1;simp only[BX]at G;refine AA (Ac w!) λax f=>?_;have H:=f.2.1;simp only[BX,Bd]at H;refine AA (Ac o!) λa0 g=>?_;have al:=g.2.1;refine AA (Bj (Af _) o.1) λM i=>?_;have ao:=i.2;refine AA (AI S E) λN C=>?_;refine AA (Bj o.1 i! i!) λO j=>?_;have I:=j.2;simp only[len]at I;refine AA (Ac w!) λa7 l=>?_;have J:=l.2.1;simp only[BX]at J;refine AA (Ac w!) λa8 m=>?_;have K:=m.2.1;simp[BX,Bd]at K;refine AA (Ac o!) λa9 n=>?_;have ap:=n.2.1;have A:N=v:=by have:=C.1;rw[D.1]at this;exact(BP this).symm
 have V:v8=s.1.take y.toNat:=by rw[P.1];simp
 have W:v9=s.1.drop y.toNat:=by rw[Q.1];exact BR (by rw[FY];simp only[len];omega)
 have z:M=s.2.1.take y.toNat:=by rw[i.1];simp
 have B:O=s.2.1.drop y.toNat:=by rw[j.1];exact BR (by rw[FY];simp only[len];omega)
 refine Ap.next ⟨d!,d!,d!,d!,λp b=>?_⟩ d!
 dsimp only at b;rw[g.1,f.1,d.1,n.1,m.1,l.1,V,W,z,B,Bw,Bw]at b;rw[dM (by simp[Aa,BQ,Bd,BX];omega),dM (by simp[BQ];omega)]at b;rw[AFF s.1 s.2.1 y.toNat]at u;rcases An.1 b with b|b;rcases An.1 b with b|b;exact u p (An.2 (.inl b));rw[List.zip_cons_cons,List.zip_nil_left,BC]at b;rw[b,A];exact Pb h.vb.1 D.2 c;exact u p (An.2 (.inr b))
def Wh(x:AJ)(t:List AS×List Int×List Bool):Prop:= ∀p∈(t.1.zip t.2.1).zip t.2.2,p.2=true->p.1∈D5 x
def ABv{x:AJ}{a:List AS×List Int}{n:Int}{t:List AS×List Int×List Bool}(h:a.2.length=a.1.length/\a.1.length<=256/\RL a.1)(hn:n<=100000)(m:T3 n t)(R: ∀p∈a.1.zip a.2,p∈D5 x)(G:Wh x t):Ap (Ai (En a) (0,(0,t))) λr=>Wh x r:=by
 refine Cu (λ(s:Int×Int×List AS×List Int×List Bool)=>0<=s.2.1/\s.2.1<=a.1.length/\T3 (n+s.2.1) s.2.2/\Wh x s.2.2) (λ(s:Int×Int×List AS×List Int×List Bool)=>((a.1.length:Int)-s.2.1).toNat) ⟨Af _,d!,by simpa using m,G⟩ (λs F=>?_);have⟨g,S,⟨z,H,T,A⟩,o⟩:=F;have⟨P,Q,E⟩:=h;unfold En;rw[(AY (x:=s.2.1+1))];refine AC (λf=>?_) (λ_=>Ap.done o);simp[len]at f;refine AA (AI g f) λI _=>?_;refine AC (λ_=>Ap.next ⟨d!,d!,⟨z,H,d!,A⟩,o⟩ d!) (λ_=>?_);refine AA (AI g f) λy k=>?_;refine AA (AI g) λJ C=>?_;refine AA (AI g f) λi D=>?_;have j:i=y:=by grind[Option.some.inj]
 subst j;refine D4 (RY (E i k.2)) λK B l=>?_;refine AA (Ac w!) λL b=>?_;have q:=b.2.1;simp[BX,Bd]at q;refine AA (Ac w!) λM d=>?_;have u:=d.2.1;simp[BX,Bd]at u;refine AA (Ac w!) λN e=>?_;have v:=e.2.1;simp[BX,Bd]at v;refine AA (AI g f) λO _=>?_;refine Ap.next ⟨d!,d!,⟨d!,d!,d!,λr hr=>?_⟩,λp c m=>?_⟩ d!
 dsimp only at hr;rw[b.1]at hr;rcases An.1 hr with w|w;exact A r w;simp at w;rw[w];exact l;dsimp only at c;rw[b.1,d.1,e.1,dM z.symm,dM (by rw[List.length_zip];omega)]at c;rcases An.1 c with c|c;exact o p c m;grind[List.zip_cons_cons,List.zip_nil_left,List.mem_singleton,FN,AGm]
def ABt{x:AJ}{L:List EN}(h:AR L x):Ap (F6 x) λr=>T3 4096 r/\Wh x r:=by unfold F6;refine AA Jl λo i=>?_;refine AO (λ_=>AB ⟨⟨rfl,rfl,q!,λr hr=>by simp at hr⟩,λp d=>by simp at d⟩) (λc=>?_);have e:=i c;have a4:=e.2.2.2.1;refine AA (P:=λr=>T3 4096 r/\Wh x r) ?_ λr hr=>AB hr;refine Cu (λ(s:Int×List AS×List Int×List Bool)=>0<=s.1/\s.1<=x.1.length/\T3 (256*s.1) s.2/\Wh x s.2) (λ(s:Int×List AS×List Int×List Bool)=>((x.1.length:Int)-s.1).toNat) ⟨Af _,d!,⟨rfl,rfl,q!,λr hr=>by simp at hr⟩,λp d=>by simp at d⟩ (λs k=>?_);have⟨f,n,b,g⟩:=k;unfold NA;rw[(AY (x:=s.1+1))];refine AC (λc=>?_) (λ_=>Ap.done ⟨⟨b.1,b.2.1,by have:=b.2.2.1;omega,b.2.2.2⟩,g⟩);simp[len]at c;refine AA ((YN e h.sa f).and (ABu h f)) λl a=>?_;refine AA ((YO a.1 o! b).and (ABv a.1 o! b a.2.2 g)) λm j=>?_;grind[Ap.next]
def AAy{L:List EN}{x:List AS×List Bool}{k:Nat}{z t:AS}{F T lo hi lv:Int}{b:List EN}(i:Uq L)(m:x.1[k]? =some t)(f: ∀e∈t.2.2.2.2.2,e∈L)(n:t.2.2.2.2.2.length≤4096)(l: ∀e∈b,e∈L)(q:b.length≤1000000){o:AS}:
  Ap (Ai (G7 x ((k:Int),(o,z))) (0,(F,(T,(lo,(hi,(lv,b))))))) λr=> ∃a:List EN,r=(F,(T,(lo,(hi,(lv,a)))))/\a.length<=b.length+4096/\ ∀y,y∈a↔y∈b\/y∈t.2.2.2.2.2:=by
 refine Cu (λ(s:Int×AS)=> ∃(j:Nat) (a:List EN),s=((j:Int),(F,(T,(lo,(hi,(lv,a))))))/\j<=t.2.2.2.2.2.length/\a.length<=b.length+j/\ ∀y,y∈a↔y∈b\/y∈t.2.2.2.2.2.take j) (λs=>t.2.2.2.2.2.length-s.1.toNat)
  ⟨0,b,rfl,Bk _,o!,λy=>q!⟩ ?_
 rintro s ⟨j,a,rfl,A,B,p⟩;unfold G7;rw[(by unfold ix;rw[if_pos o!,Int.toNat_natCast,m]:ix x.1 (k:Int)=some t),Option.bind_some];simp only[len];refine AC (λd=>?_) (λd=>Ap.done ⟨a,rfl,o!,k!⟩);rw[AD];refine AA (AI o! d) λv g=>?_;have c:=g.1;rw[Dd]at c;refine AA (ln i (λe h=>((p e).1 h).elim (l e) λh=>f e (FA h)) (f v g.2) o!) λw u=>?_;rw[AY];refine Ap.next ⟨j+1,w.1,k!,o!,o!,λy=>?_⟩ o!
 grind[List.take_add_one,Option.toList_some,List.mem_singleton]
def tU(x:List AS×List Bool)(lo hi:Int)(k:Nat):Prop:=x.2[k]? =some true/\ ∃r,x.1[k]? =some r/\r.2.2.1=lo/\r.2.2.2.1=hi/\(0<k-> ∀p,x.1[k-1]? =some p->r.1=p.2.1+1)
def AER{L:List EN}{x:List AS×List Bool}{a l:AS}(hL:Uq L)(h: ∀(k:Nat) (r:AS),x.1[k]? =some r→x.2[k]? =some true→VR r∧ ∀e∈r.2.2.2.2.2,e∈L)(h1:1≤x.1.length∧x.1.length≤8)(h2:x.2.length=x.1.length)(V:x.1[0]? =some a)(W:x.1[x.1.length-1]? =some l):
  Ap (LR x) λr=>r.2=true->VR r.1/\ ∃(d:Int) (b:List EN),r.1=(a.1,(l.2.1,(a.2.2.1,(a.2.2.2.1,(d,b)))))/\(∀k,k<x.1.length->tU x a.2.2.1 a.2.2.2.1 k)/\ ∀y,y∈b↔ ∃(k:Nat) (r:AS),x.1[k]? =some r/\y∈r.2.2.2.2.2:=by
 have G:ix x.1 0=some a:=by unfold ix;rw[if_pos o!];exact V
 have R:ix x.1 (wi (len x.1-1))=some l:=by rw[AY (x:=len x.1-1) (by simp[len];omega)];unfold ix;simp only[len];rw[if_pos o!,show((x.1.length:Int)-1).toNat=x.1.length-1 by omega,W]
 unfold LR;rw[G,R,AD,AD,AD,AD,AD];generalize wi (a.2.2.2.2.1+1)=d;refine AA (P:=λr=>(∃u,r= .inl u/\u.1=false)\/ ∃z b,r= .inr ((a.1,(l.2.1,(a.2.2.1,(a.2.2.2.1,(d,b))))),z)/\(∀k,k<x.1.length->tU x a.2.2.1 a.2.2.2.1 k)/\ ∀y,y∈b↔ ∃(k:Nat) (r:AS),x.1[k]? =some r/\y∈r.2.2.2.2.2) ?_ λr hr=>?_
 ·refine Cu (λ(s:Int×AS×AS)=> ∃(k:Nat) (z:AS) (b:List EN),s=((k:Int),((a.1,(l.2.1,(a.2.2.1,(a.2.2.2.1,(d,b))))),z))/\k<=x.1.length/\b.length<=4096*k/\(∀j,j<k->tU x a.2.2.1 a.2.2.2.1 j)/\ ∀y,y∈b↔ ∃(j:Nat) (r:AS),j<k/\x.1[j]? =some r/\y∈r.2.2.2.2.2) (λs=>x.1.length-s.1.toNat)
   ⟨0,_,[],rfl,Bk _,Bk _,λj H=>absurd H o!,λy=>⟨λhy=>by simp at hy,λ⟨j,r,H,_⟩=>absurd H o!⟩⟩ ?_
  rintro s ⟨k,z,b,rfl,i2,i3,X,Y⟩;unfold SP;dsimp only;simp only[len];refine AC (λhc=>?_) (λhc=>Ap.done (.inr ⟨z,b,rfl,λj H=>X j o!,λy=>?_⟩))
  ·have hk:k<x.1.length:=o!
   have c:x.1[k]? =some x.1[k]:=As hk;generalize x.1[k]=t at c;have i:x.2[k]? =some (x.2[k]' o!):=As o!;generalize x.2[k]' o!=bb at i;have U:ix x.1 (k:Int)=some t:=by unfold ix;rw[if_pos o!,Int.toNat_natCast,c]
   have Q:ix x.2 (k:Int)=some bb:=by unfold ix;rw[if_pos o!,Int.toNat_natCast,i]
   rw[Q,AD];refine AO (λ_=>Ap.done (.inl ⟨_,rfl,rfl⟩)) (λO=>?_);rw[O]at i;have⟨tv,tm⟩:=h k t c i;rw[U,AD,G,AD];refine AL (λ_=>Ap.done (.inl ⟨_,rfl,rfl⟩)) (λq1=>?_);rw[AD,AD];refine AL (λ_=>Ap.done (.inl ⟨_,rfl,rfl⟩)) (λq2=>?_);rw[AD,AD];refine AL (λ_=>Ap.done (.inl ⟨_,rfl,rfl⟩)) (λq3=>?_);have E: ∀e∈b,e∈L:=λe he=>by have⟨j,r,B,m,v⟩:=(Y e).1 he;exact(h j r m (X j B).1).2 e v
   have J:=AAy (x:=x) (k:=k) (z:=z) (o:=(a.1,(l.2.1,(a.2.2.1,(a.2.2.2.1,(d,b)))))) (F:=a.1) (T:=l.2.1) (lo:=a.2.2.1) (hi:=a.2.2.2.1) (lv:=d) hL c tm tv.1.2.2.2.2.2.2.2.2 E o!
   have D:tU x a.2.2.1 a.2.2.2.1 k→ ∀f:List EN,f.length≤b.length+4096→(∀y,y∈f↔y∈b∨y∈t.2.2.2.2.2)→
     Ap (some (Step.next (wi ((k:Int)+1),((a.1,(l.2.1,(a.2.2.1,(a.2.2.2.1,(d,f))))),z))):Option (Step (Int×AS×AS) ((Bool×AS)⊕ (AS×AS)))) (LW (λ(s:Int×AS×AS)=> ∃(k:Nat) (z:AS) (b:List EN),s=((k:Int),((a.1,(l.2.1,(a.2.2.1,(a.2.2.2.1,(d,b))))),z))/\k<=x.1.length/\b.length<=4096*k/\(∀j,j<k->tU x a.2.2.1 a.2.2.2.1 j)/\ ∀y,y∈b↔ ∃(j:Nat) (r:AS),j<k/\x.1[j]? =some r/\y∈r.2.2.2.2.2) (λs=>x.1.length-s.1.toNat) (x.1.length-((k:Nat):Int).toNat)
      λr=>(∃u,r= .inl u/\u.1=false)\/ ∃z b,r= .inr ((a.1,(l.2.1,(a.2.2.1,(a.2.2.2.1,(d,b))))),z)/\(∀k,k<x.1.length->tU x a.2.2.1 a.2.2.2.1 k)/\ ∀y,y∈b↔ ∃(k:Nat) (r:AS),x.1[k]? =some r/\y∈r.2.2.2.2.2):=λhm f M C=>by
    rw[AY];refine Ap.next ⟨k+1,z,f,by rw[show(k:Int)+1=((k+1:Nat):Int) by omega],o!,o!,λj H=>?_,λy=>?_⟩ d!
    grind;rw[C,Y];constructor;rintro(⟨j,r,B,m,v⟩|g);exact⟨j,r,o!,m,v⟩;exact⟨k,t,o!,c,g⟩;rintro⟨j,r,B,m,v⟩;by_cases ao:j=k<;>grind
   apply AC<;>intro al
   ·have hp:k-1<x.1.length:=o!
    have q:x.1[k-1]? =some x.1[k-1]:=As hp;generalize x.1[k-1]=p at q;have S:ix x.1 (wi ((k:Int)-1))=some p:=by rw[AY];unfold ix;rw[if_pos o!,show((k:Int)-1).toNat=k-1 by omega,q]
    rw[AD,S,AD];have A:=(h (k-1) p q (X (k-1) o!).1).1.1;have ad:=A.2.2.1;have ap:=A.1;have ar:=A.2.1;rw[AY (x:=p.2.1+1)];refine AL (λ_=>Ap.done (.inl ⟨_,rfl,rfl⟩)) (λq4=>AA J λZ w=>?_);obtain⟨f,rfl,M,C⟩:=w;refine D ⟨i,t,c,q1,q2,λ_ p' n=>?_⟩ f M C;rw[q]at n;injection n with n;rw[<-n];exact q4
   have K:Ap (Ai (G7 x ((k:Int),((a.1,(l.2.1,(a.2.2.1,(a.2.2.2.1,(d,b))))),z))) (0,(a.1,(l.2.1,(a.2.2.1,(a.2.2.2.1,(d,b))))))) λr=> ∃f:List EN,r=(a.1,(l.2.1,(a.2.2.1,(a.2.2.2.1,(d,f)))))/\f.length<=b.length+4096/\ ∀y,y∈f↔y∈b\/y∈t.2.2.2.2.2:=J;refine AA K λZ w=>?_;obtain⟨f,rfl,M,C⟩:=w;exact D ⟨i,t,c,q1,q2,λh0=>absurd h0 o!⟩ f M C
  rw[Y];constructor;rintro⟨j,r,B,m,v⟩;exact⟨j,r,m,v⟩;rintro⟨j,r,m,v⟩;exact⟨j,r,by have:=Cy m;omega,m,v⟩
 rcases hr with⟨u,rfl,hu⟩|⟨z,b,rfl,B,m⟩;exact BK (AB λI=>by dsimp only at I;rw[hu]at I;cases I);refine A7 (AA XJ λax N=>AB λI=>⟨N.1 I,d,b,rfl,B,m⟩)
def ft(a b:AJ):Prop:= ∀lo n,AFf a lo n↔AFf b lo n
def uj{a:AJ}(h:VB a){x y:NE}(c:x∈D5 a)(d:y∈D5 a)(b:x.2=y.2):x=y:=by grind[ui,List.pairwise_iff_getElem,List.mem_iff_getElem]
structure Grp(M:List NE)(lo hi:Int):Prop where
 same: ∀(k:Nat) (e:NE),M[k]? =some e->e.1.2.2.1=lo/\e.1.2.2.2.1=hi/\e.1.1<=e.1.2.1
 next: ∀(k:Nat) (e f:NE),M[k]? =some e->M[k+1]? =some f->f.1.1=e.1.2.1+1
def Grp.cover{M:List NE}{m l:Int}(h:Grp M m l){c:NE}(d:M[0]? =some c): ∀(k:Nat) (b:NE),M[k]? =some b->c.1.1<=b.1.1/\ ∀n:Int,c.1.1<=n->n<=b.1.2.1-> ∃j e,j<=k/\M[j]? =some e/\e.1.1<=n/\n<=e.1.2.1
 |0,b,a=>by rw[d]at a;injection a with a;subst a;exact⟨Af _,λn g i=>⟨0,c,Ao _,d,g,i⟩⟩
 |k+1,b,a=>by
  have o:=Cy a;have f:M[k]? =some (M[k]' o!):=As o!;have q:=Grp.cover h d k _ f;have hn:=h.next k _ _ f a
  have p:=(h.same k _ f).2.2;grind
def Grp.le{M:List NE}{g c:Int}(h:Grp M g c){k:Nat}{a:NE}(f:M[k]? =some a): ∀(d:Nat) (e:NE),M[k+d]? =some e->a.1.2.1<=e.1.2.1
 |0,e,he=>k!
 |d+1,e,he=>by
  have i:=Cy he;have b:M[k+d]? =some (M[k+d]' o!):=As o!;have l:=Grp.le h f d _ b;have hn:=h.next (k+d) _ _ b he
  have j:=(h.same _ _ he).2.2;omega
def AAP{c:Type}{l:List c}{a b:c}(d:a∈l)(e:b∈l)(h:a≠b):2<=l.length:=by cases l<;>grind
def lT{b:Type}(p:b->Bool): ∀l:List b,(l.filter p).length+(l.filter λa=>!p a).length=l.length
 |[]=>rfl
 |a::r=>by have:=lT p r;grind
def ZK(M:List NE)(l:List Av):List Av:=l.filter λf=>!(M.any λe=>e.2==f.2.1)
def jk{M:List NE}{l:List Av}{f:Av}:f∈ZK M l↔f∈l/\ ∀e∈M,e.2≠f.2.1:=by grind[ZK]
def xH{L:List EN}{a:AJ}{M:List NE}{r q:Int}(h:AR L a)(c: ∀e∈M,e∈D5 a)(l:Grp M r q)(w:2<=M.length):(ZK M a.2.2.1).length+2<=a.2.2.1.length:=by
 have d:M[0]? =some (M[0]' o!):=As o!;have k:M[1]? =some (M[1]' o!):=As o!;have n:=BN d;have o:=BN k;have i:(M[0]' o!).2≠(M[1]' o!).2:=λm=>by
  have j:=l.next 0 _ _ d k
  have:=(l.same 0 _ d).2.2;rw[<-(uj h.vb (c _ n) (c _ o) m)]at j;omega
 have⟨f,s,_,t,_⟩:=h.mem (c _ n);have⟨g,u,_,v,_⟩:=h.mem (c _ o);have p:=lT (λf:Av=>!(M.any λe=>e.2==f.2.1)) a.2.2.1;have:2<=(a.2.2.1.filter λf=>!!(M.any λe=>e.2==f.2.1)).length:=by refine AAP (a:=f) (b:=g) ?_ ?_ λm=>i k!;grind;grind
 unfold ZK;omega
def ACm{L:List EN}{a:AJ}{M:List NE}{m l:Int}{s:BT}(h:AR L a)(j: ∀e∈M,e∈D5 a)(k:Grp M m l)(i:2<=M.length)(q:a.2.2.2.2<=1073741824):VB (a.1,(a.2.1,(ZK M a.2.2.1++[(1,(a.2.2.2.2,s))],(a.2.2.2.1,a.2.2.2.2+1)))):=by have p:=xH h j k i;have⟨b,c,d,f,n,o,g⟩:=h.vb;refine⟨b,c,d,k!,k!,k!,?_⟩;exact(g.sub (List.filter_sublist)).push f rfl rfl
def notM(M:List NE)(x:NE):Bool:= !(M.any λe=>e.2==x.2)
def tL{L:List EN}{a b:AJ}{M:List NE}{r:AS}{lo t:Int}{I T:NE}(hL:Uq L)(h:AR L a)(J: ∀e∈M,e∈D5 a)(V:Grp M lo t)(h2:2≤M.length)(h0:M[0]? =some I)(hn:M[M.length-1]? =some T)
  (hr:VR r) (r1:r.1=I.1.1) (r2:r.2.1=T.1.2.1) (O:r.2.2.1=lo) (r4:r.2.2.2.1=t) (r5: ∀y,y∈r.2.2.2.2.2↔ ∃e∈M,y∈e.1.2.2.2.2.2)
  (hb:b=(a.1,(a.2.1,(ZK M a.2.2.1++[(1,(a.2.2.2.2,Ml r))],(a.2.2.2.1,a.2.2.2.2+1))))) (q:VB b):
  AR L b/\ft a b/\(AG a->AG b)/\ ∀c,RC a c->RC b c:=by
 have b1:b.1=a.1:=by rw[hb]
 have b2:b.2.1=a.2.1:=by rw[hb]
 have S:b.2.2.1=ZK M a.2.2.1++[(1,(a.2.2.2.2,Ml r))]:=by rw[hb]
 have b4:b.2.2.2.1=a.2.2.2.1:=by rw[hb]
 have m0:=BN h0;have mn:=BN hn;have z: ∀n:Int,(r.1<=n/\n<=r.2.1)↔ ∃e∈M,e.1.1<=n/\n<=e.1.2.1:=λn=>by constructor;rintro⟨B,C⟩;obtain⟨j,e,_,q2,q3⟩:=(V.cover h0 _ T hn).2 n o! o!;exact⟨e,BN q2,q3⟩;rintro⟨e,i,B,C⟩;obtain⟨k,W⟩:=E9.1 i;have q1:=(V.cover h0 k e W).1;have a2:=Cy W;have q2:=V.le W (M.length-1-k) T (by rw[show k+(M.length-1-k)=M.length-1 by omega];exact hn);omega
 have Z: ∀e∈M,af L e.1:=λe i=>by obtain⟨f,_,_,_,g,_⟩:=h.mem (J e i);exact g
 have p: ∀e∈M,e.1.2.2.1=lo/\e.1.2.2.2.1=t/\e.1.1<=e.1.2.1:=λe i=>by obtain⟨k,W⟩:=E9.1 i;exact V.same k e W
 have ad:af L r:=by refine hr.runOf hL λy=>?_;rw[r5,O,r4];constructor;rintro⟨e,i,N⟩;have g:=((Z e i).mem y).1 N;obtain⟨p1,p2,p3⟩:=p e i;have:=(z y.1).2 ⟨e,i,g.2.2.2.2⟩;exact⟨g.1,g.2.1,o!,o!,this.1,this.2⟩;rintro⟨B,C,P,g4,g5,g6⟩;obtain⟨e,i,q1,q2⟩:=(z y.1).1 ⟨g5,g6⟩;obtain⟨p1,p2,p3⟩:=p e i;exact⟨e,i,((Z e i).mem y).2 ⟨B,C,o!,o!,q1,q2⟩⟩
 have K:Kb a r.2.2.1 r.2.2.2.1:=by obtain⟨f,_,g,_⟩:=h.mem (J I m0);obtain⟨p1,p2,p3⟩:=p I m0;rw[O,r4,<-p1,<-p2];exact g.2.2.2
 have u:Good b (1,(a.2.2.2.2,Ml r)) r:=⟨rfl,rfl,hr,(Kb.congr b1 b2).1 K⟩
 have v: ∀{f:Av} {s:AS},Good a f s->Good b f s:=λg=>g.congr b1 b2;have l: ∀x∈D5 b,(x∈D5 a/\ ∀e∈M,e.2≠x.2)\/x=(r,a.2.2.2.2):=λx w=>by unfold D5 at w;rw[S]at w;obtain⟨f,d,t⟩:=OU.1 w;rcases An.1 d with d|d;obtain⟨f1,f2⟩:=jk.1 d;rcases h.files f f1 with U|⟨s,s1,s2,s3⟩;rw[U.intR q.1]at t;cases t;rw[(v s1).intR q.1]at t;injection t with t;subst t;exact .inl ⟨Pb h.vb.1 f1 s1,f2⟩;rw[BC]at d;subst d;rw[u.intR q.1]at t;injection t with t;exact .inr t.symm
 have ar: ∀x∈D5 a,(∀e∈M,e.2≠x.2)->x∈D5 b:=λx w Q=>by
  obtain⟨f,f1,f2,f3,_⟩:=h.mem w;have:f∈b.2.2.1:=by rw[S];exact An.2 (.inl (jk.2 ⟨f1,λe i=>f3▸Q e i⟩))
  have:=Pb q.1 this (v f2);rw[<-f3]at this;exact this
 have Y:(r,a.2.2.2.2)∈D5 b:=Pb q.1 (by rw[S];exact An.2 (.inr (BC.2 rfl))) u;have al: ∀x∈D5 a,x.1.1<=x.1.2.1:=λx w=>by obtain⟨f,_,g,_⟩:=h.mem w;exact g.2.2.1.1.2.1
 have a0:r.1<=r.2.1:=hr.1.2.1;have A: ∀y∈D5 a,(∀e∈M,e.2≠y.2)->y.1.2.2.1=lo->r.2.1<y.1.1\/y.1.2.1<r.1:=λy N Q o=>by refine S8 λF=>?_;have a4:=al y N;obtain⟨e,i,q1,q2⟩:=(z (if y.1.1<=r.1 then r.1 else y.1.1)).1 (by split<;>omega);have D:e≠y:=λF=>Q e i (by rw[F]);have:=h.dis e (J e i) y N D ((p e i).1.trans o.symm);split at q1<;>split at q2<;>omega
 refine⟨⟨q,λf d=>?_,λx w y N D o=>?_⟩,λm n=>?_,λao f d=>?_,λc hc m=>?_⟩;rw[S]at d;rw[b4];rcases An.1 d with d|d;exact(h.files f (jk.1 d).1).imp id λ⟨s,s1,s2,s3⟩=>⟨s,v s1,s2,s3⟩
 rw[BC]at d;subst d;obtain⟨f,_,_,_,_,g⟩:=h.mem (J T mn);exact .inr ⟨r,u,ad,o!⟩;rcases l x w with⟨R,x2⟩|rfl;rcases l y N with⟨y1,y2⟩|rfl;exact h.dis x R y y1 D o;have:=A x R x2 (o.trans O);exact this.symm;rcases l y N with⟨y1,y2⟩|rfl;exact A y y1 y2 (o.symm.trans O);exact absurd rfl D;constructor;rintro⟨e,i,B,C,P⟩;by_cases Q: ∃f∈M,f.2=e.2;obtain⟨f,d,ap⟩:=Q;have:=uj h.vb (J f d) i ap;subst this;have hc:=(z n).2 ⟨f,d,C,P⟩;exact⟨_,Y,by rw[<-B,(p f d).1];exact O,hc.1,hc.2⟩;exact⟨e,ar e i λf d F=>Q ⟨f,d,F⟩,B,C,P⟩;rintro⟨e,i,B,C,P⟩;rcases l e i with⟨q1,q2⟩|rfl;exact⟨e,q1,B,C,P⟩;obtain⟨f,d,q1,q2⟩:=(z n).1 ⟨C,P⟩;exact⟨f,J f d,by rw[(p f d).1,<-B];exact O.symm,q1,q2⟩;rw[S]at d;rcases An.1 d with d|d;obtain⟨s,hs⟩:=ao f (jk.1 d).1;exact⟨s,v hs⟩;rw[BC]at d;subst d;exact⟨r,u⟩
 ·have X:=(To q).filter λe=>e.1.2.2.1==m;have a1:=hc m;by_cases hl:m=lo
  ·subst hl;have H:=fk _ ((r,a.2.2.2.2)::((D5 a).filter λe=>e.1.2.2.1==m).filter (notM M)) X λx w=>by obtain⟨x0,E⟩:=BV.1 w;rcases l x x0 with⟨R,x2⟩|rfl;refine Au.2 (.inr (BV.2 ⟨BV.2 ⟨R,E⟩,?_⟩));unfold notM;simp only[XL,List.any_eq_false,beq_iff_eq];exact x2;exact Au.2 (.inl rfl)
   have a3:=lT (notM M) ((D5 a).filter λe=>e.1.2.2.1==m);have h1:M[1]? =some (M[1]' o!):=As o!;have m1:=BN h1;have a5:2<=(((D5 a).filter λe=>e.1.2.2.1==m).filter λx=>!notM M x).length:=by
    have G: ∀e∈M,e∈((D5 a).filter λe=>e.1.2.2.1==m).filter λx=>!notM M x:=λe i=>by refine BV.2 ⟨BV.2 ⟨J e i,by rw[(p e i).1];exact beq_self_eq_true _⟩,?_⟩;unfold notM;rw[Bool.not_not];exact nX.2 ⟨e,i,beq_self_eq_true _⟩
    refine AAP (G I m0) (G _ m1) λF=>?_;have ax:=V.next 0 I _ h0 h1
    have:=(p I m0).2.2;rw[<-F]at ax;omega
   rw[Bd]at H;omega
  have H:=fk _ ((D5 a).filter λe=>e.1.2.2.1==m) X λx w=>by obtain⟨x0,E⟩:=BV.1 w;rcases l x x0 with⟨R,x2⟩|rfl;exact BV.2 ⟨R,E⟩;exact absurd (eq_of_beq E) λF=>hl (F.symm.trans O)
  omega
def Ur(v1:List AS×List Int×List Bool)(i n:Nat):List NE:=((v1.1.zip v1.2.1).drop i).take n
def vT{a:List AS×List Int×List Bool}{i n k:Nat}{e:NE}(b:k<n):(Ur a i n)[k]? =some e↔a.1[i+k]? =some e.1/\a.2.1[i+k]? =some e.2:=by grind[Ur]
def ADq{x:AJ×Int}{a:List AS×List Int×List Bool}{i n j:Nat}{f:Av}{z:AJ}{w:List Av×List Int×Int×Int×Int}(hn:x.2=n)(o:n<=8)(t:a.2.1.length=a.1.length)(p:i+n<=a.1.length)(m:a.1.length<=4096)(h:x.1.2.2.1[j]? =some f):Ap (Ai (N9 x a ((i:Int),z) ((j:Int),w)) (false,(i:Int))) λr=>r=(Ur a i n).any λe=>e.2==f.2.1:=by
 have l:(Ur a i n).length=n:=by grind[Ur,List.length_take,List.length_drop,List.length_zip]
 refine Cu (λ(s:Bool×Int)=> ∃k:Nat,s=(((Ur a i n).take k).any (λe=>e.2==f.2.1),((i+k:Nat):Int))/\k<=n) (λs=>i+n-s.2.toNat) ⟨0,q!,Bk _⟩ ?_;rintro s ⟨k,rfl,q⟩;unfold N9;dsimp only;rw[hn,AY (x:=(i:Int)+(n:Int)),AY (x:=((i+k:Nat):Int)+1)];refine AC (λg=>?_) (λg=>Ap.done k!);have b:k<n:=o!
 have d:a.2.1[i+k]? =some (a.2.1[i+k]' o!):=As o!;refine AK (λc=>Ap.next ⟨k+1,?_,b⟩ k!) (λc=>?_);grind
 ·rw[(by unfold ix;rw[if_pos o!,Int.toNat_natCast,d]:ix a.2.1 ((i+k:Nat):Int)=some (a.2.1[i+k]' o!)),Option.bind_some,(by unfold ix;rw[if_pos o!,Int.toNat_natCast,h]:ix x.1.2.2.1 (j:Int)=some f),Option.bind_some];refine Ap.next ⟨k+1,?_,b⟩ o!
  rw[(by rw[Cv,((vT (e:=(a.1[i+k]' o!,a.2.1[i+k]' o!)) b).2 ⟨(As o!),d⟩)];rfl:(Ur a i n).take (k+1)=(Ur a i n).take k++[(a.1[i+k]' o!,a.2.1[i+k]' o!)]),List.any_append,c,Bool.false_or];refine DO ?_ k!;dsimp only;rw[List.any_cons,List.any_nil,Bool.or_false]
def ADp{x:AJ×Int}{a:List AS×List Int×List Bool}{i n:Nat}{z:AJ}(hn:x.2=n)(g:n<=8)(o:a.2.1.length=a.1.length)(l:i+n<=a.1.length)(f:a.1.length<=4096)(u:x.1.2.2.1.length<=256):Ap (Ai (N8 x a ((i:Int),z)) (0,([],(x.1.1,(x.1.2.1,x.1.2.2.2))))) λr=>r=(ZK (Ur a i n) x.1.2.2.1,(x.1.1,(x.1.2.1,x.1.2.2.2))):=by
 refine Cu (λ(q:Int×List Av×List Int×Int×Int×Int)=> ∃j:Nat,q=((j:Int),(ZK (Ur a i n) (x.1.2.2.1.take j),(x.1.1,(x.1.2.1,x.1.2.2.2))))/\j<=x.1.2.2.1.length) (λq=>x.1.2.2.1.length-q.1.toNat) ⟨0,rfl,Bk _⟩ ?_;rintro q ⟨j,rfl,v⟩;unfold N8;simp only[len];rw[AY];refine AC (λk=>?_) (λk=>Ap.done k!);have d:x.1.2.2.1[j]? =some (x.1.2.2.1[j]' o!):=As o!;have m:ix x.1.2.2.1 (j:Int)=some (x.1.2.2.1[j]' o!):=by unfold ix;rw[if_pos o!,Int.toNat_natCast,d]
 refine AA (ADq hn g o l f d) λc e=>?_;have p:ZK (Ur a i n) (x.1.2.2.1.take (j+1))=ZK (Ur a i n) (x.1.2.2.1.take j)++(if c=true then []else [x.1.2.2.1[j]' o!]):=by grind[List.take_add_one,Option.toList_some,ZK]
 refine AA (P:=λt=>t=(ZK (Ur a i n) (x.1.2.2.1.take (j+1)),(x.1.1,(x.1.2.1,x.1.2.2.2)))) ?_ λs b=>?_;refine AO (λh=>?_) (λh=>AB ?_);grind[ZK,Ur,Nat.le_trans,List.length_filter_le,List.length_take,AA,Ac,AB];grind
 ·rw[b];exact Ap.next ⟨j+1,k!,o!⟩ k!
def AFJ(L:List EN)(x:AJ×Int)(r:AJ×Bool×Int):Prop:=
 (x.1.2.2.2.2<=1073741824->r.2.2=0)/\(r.2.2=0->(r.2.1=false/\r.1=x.1)\/(r.2.1=true/\AR L r.1/\ft x.1 r.1/\(AG x.1->AG r.1)/\(∀c,RC x.1 c->RC r.1 c)/\r.1.1=x.1.1/\r.1.2.1=x.1.2.1/\r.1.2.2.2.1=x.1.2.2.2.1/\r.1.2.2.2.2=x.1.2.2.2.2+1/\r.1.2.2.1.length+1<=x.1.2.2.1.length/\x.1.2.2.2.2<=1073741824))
def AFl{L:List EN}{x:AJ×Int}(hL:Uq L)(h:AR L x.1)(hf:2<=x.2/\x.2<=8):Ap (MS x) (AFJ L x):=by
 have hs:=h.sa;have⟨n,hn⟩:=D6 (show 0<=x.2 by omega);have p:x.1.2.2.1.length<=256:=by have:=h.vb.2.2.2.2.2.1;omega
 have al:=h.vb.2.2.2.1;unfold MS;have⟨v0,U,V⟩:=Vp (x:=x.1);have X:=V.2 h.vb;subst X;rw[U,AD,Cg,cond_false,decide_eq_false o!,cond_false,decide_eq_false o!,cond_false];refine AA (ABt h) λa o=>?_;have⟨⟨t1,t2,t3,t4⟩,hw⟩:=o;have q: ∀e∈D5 x.1,VR e.1/\ ∀y∈e.1.2.2.2.2.2,y∈L:=λe t=>by have⟨f,_,g,_,g2,_⟩:=h.mem t;exact⟨g.2.2.1,λy hy=>((g2.mem y).1 hy).1⟩
 refine AA (P:=λr=>(∃z,r= .inr z)\/ ∃u,r= .inl u/\AFJ L x (u.2.2,(u.1,u.2.1))) ?_ λr hr=>?_
 ·refine Cu (λ(s:Int×AJ)=>0<=s.1/\s.1<=a.1.length) (λ(s:Int×AJ)=>((a.1.length:Int)-s.1).toNat) ⟨Af _,d!⟩ (λs hI=>?_);have⟨i',z⟩:=s;have⟨D,i2⟩:=hI;dsimp only at D i2;obtain⟨i,rfl⟩:=D6 D;unfold Tg;dsimp only;rw[AY (x:=(i:Int)+1),AY (x:=(i:Int)+x.2)];refine AC (λhc=>?_) (λ_=>Ap.done (.inl ⟨_,rfl⟩));simp[len]at hc;refine AA (Bj D) λd h3=>?_;refine AA (Bj D) λZ h4=>?_;have l3:=h3.2;have l4:=h4.2;have l: ∀k,k<n->d[k]? =a.1[i+k]? :=λk c=>by grind[Int.toNat_natCast]
  have F: ∀k,k<n->Z[k]? =a.2.2[i+k]? :=λk c=>by grind[Int.toNat_natCast]
  have w: ∀{k:Nat} {r:AS},d[k]? =some r->k<n:=λ{k r} c=>by have:=Cy c;omega
  have whole: ∀(k:Nat) (r:AS),d[k]? =some r->Z[k]? =some true-> ∃id,a.2.1[i+k]? =some id/\(r,id)∈D5 x.1:=λk r o h2=>by have c:=w o;rw[l k c]at o;rw[F k c]at h2;have ap:=Cy o;have j:a.2.1[i+k]? =some (a.2.1[i+k]' o!):=As o!;refine⟨_,j,?_⟩;refine hw ((r,a.2.1[i+k]' o!),true) ?_ rfl;refine E9.2 ⟨i+k,?_⟩;rw[th,th];exact⟨⟨o,j⟩,h2⟩
  have S:d.length=n:=o!
  have I:d[0]? =some (d[0]' o!):=As o!;have J:d[d.length-1]? =some (d[d.length-1]' o!):=As o!;generalize d[0]' o!=r0 at I;generalize d[d.length-1]' o!=rn at J;refine AA (AER (x:=(d,Z)) hL (λk r q1 q2=>?_) d! d! I J) λv5 h5=>?_;have⟨id,_,q3⟩:=whole k r q1 q2;exact q _ q3;refine AO (λ_=>Ap.next d! d!) (λT=>?_);have⟨w1,lv,es,B,E,w4⟩:=h5 T;dsimp only at E w4;refine AC (λad=>Ap.done (.inr ⟨_,rfl,λhh=>absurd hh o!,λhz=>absurd (show(21:Int)=0 from hz) g!⟩)) (λar=>?_);have hi:i+n<=a.1.length:=o!
  have Q:(Ur a i n).length=n:=by unfold Ur;rw[List.length_take,List.length_drop,List.length_zip];omega
  have b: ∀(k:Nat) (e:NE),(Ur a i n)[k]? =some e->k<n/\d[k]? =some e.1/\a.2.1[i+k]? =some e.2:=λk e c=>by
   have m:k<n:=k!
   have:=(vT m).1 c;exact⟨m,by rw[l k m];exact this.1,this.2⟩
  have C: ∀e∈Ur a i n,e∈D5 x.1:=λe t=>by have⟨k,c⟩:=E9.1 t;have⟨k1,v,Y⟩:=b k e c;have⟨q1,_⟩:=E k o!;have⟨id,q2,q3⟩:=whole k e.1 v q1;rw[Y]at q2;injection q2 with q2;rw[<-q2]at q3;exact q3
  have N:Grp (Ur a i n) r0.2.2.1 r0.2.2.2.1:=by refine⟨λk e c=>?_,λk e f c hf=>?_⟩;have⟨k1,v,Y⟩:=b k e c;have⟨_,r,q1,q2,q3,_⟩:=E k o!;dsimp only at q1;rw[v]at q1;cases q1;exact⟨q2,q3,(q e (C e (BN c))).1.1.2.1⟩;have⟨k1,v,Y⟩:=b k e c;have⟨f1,f2,f3⟩:=b (k+1) f hf;have⟨_,r,q1,_,_,q2⟩:=E (k+1) o!;dsimp only at q1 q2;rw[f2]at q1;cases q1;exact q2 o! e.1 (by rw[kj];exact v)
  have G:(Ur a i n)[0]? =some ((Ur a i n)[0]' o!):=As o!;have H:(Ur a i n)[(Ur a i n).length-1]? =some ((Ur a i n)[(Ur a i n).length-1]' o!):=As o!;generalize (Ur a i n)[0]' o!=m0 at G;generalize (Ur a i n)[(Ur a i n).length-1]' o!=mn at H;have O:m0.1=r0:=by have:=(b 0 m0 G).2.1;rw[I]at this;exact(BP this).symm
  have R:mn.1=rn:=by have:=(b _ mn H).2.1;rw[Q,<-S,J]at this;exact(BP this).symm
  refine AA (ADp hn o! t1 hi o! p) λax K=>?_;subst K;rw[ou w1,AD];dsimp only;have ao:=xH h C N o!;refine AA (Ac w!) λa0 M=>?_;rw[AY (x:=x.1.2.2.2.2+1),M.1];have W:=ACm (s:=Ml v5.1) h C N o! o!;have key:=tL (r:=v5.1) hL h C N o! G H w1 (by rw[B,O]) (by rw[B,R]) (by rw[B]) (by rw[B]) (λy=>by rw[B];dsimp only;rw[w4];constructor;rintro⟨k,r,q1,q2⟩;have c:=w q1;have A:=q1;rw[l k c]at A;have j:a.2.1[i+k]? =some (a.2.1[i+k]' o!):=As o!;exact⟨(r,_),BN ((vT (e:=(r,a.2.1[i+k]' o!)) c).2 ⟨A,j⟩),q2⟩;rintro⟨e,t,q2⟩;have⟨k,c⟩:=E9.1 t;exact⟨k,e.1,(b k e c).2.1,q2⟩) rfl W;refine Ap.done (.inr ⟨_,rfl,λ_=>rfl,λ_=>.inr ⟨rfl,key.1,key.2.1,key.2.2.1,key.2.2.2,rfl,rfl,rfl,rfl,?_,o!⟩⟩);dsimp only;rw[Aa,Bd,BX];omega
 rcases hr with⟨z,rfl⟩|⟨u,rfl,hu⟩;exact A7 (AB ⟨λ_=>rfl,λ_=>.inl ⟨rfl,rfl⟩⟩);exact BK (AB hu)
def ft.refl(a:AJ):ft a a:=λ_ _=>Iff.rfl
def ft.trans{a b c:AJ}(h:ft a b)(g:ft b c):ft a c:=λd n=>(h d n).trans (g d n)
def ABs{L:List EN}{x:AJ×Int}{m:Int}(q:Uq L)(h:AR L x.1)(u:2<=x.2/\x.2<=8)(v:SF x.1 m)(w:m<=1073741824):Ap (HX x) λr=>r.2=0/\AR L r.1/\ft x.1 r.1/\(AG x.1->AG r.1)/\(∀c,RC x.1 c->RC r.1 c)/\SF r.1 m/\r.1.1=x.1.1/\r.1.2.1=x.1.2.1/\r.1.2.2.2.1=x.1.2.2.2.1:=by
 unfold HX;refine AA (P:=λr=>r.1=0/\AR L r.2/\ft x.1 r.2/\(AG x.1->AG r.2)/\(∀c,RC x.1 c->RC r.2 c)/\SF r.2 m/\r.2.1=x.1.1/\r.2.2.1=x.1.2.1/\r.2.2.2.2.1=x.1.2.2.2.1) ?_ λr hr=>AB hr;refine Cu (λ(s:AJ×AJ)=>AR L s.1/\ft x.1 s.1/\(AG x.1->AG s.1)/\(∀c,RC x.1 c->RC s.1 c)/\SF s.1 m/\s.1.1=x.1.1/\s.1.2.1=x.1.2.1/\s.1.2.2.2.1=x.1.2.2.2.1) (λs=>s.1.2.2.1.length) ⟨h,ft.refl _,id,λ_=>id,v,rfl,rfl,rfl⟩ (λs p=>?_);obtain⟨e,f,l,n,g,i,j,k⟩:=p;unfold Th;refine AA (AFl (x:=(s.1,x.2)) q e u) λC o=>?_;obtain⟨y,z⟩:=o;have b:s.1.2.2.2.2<=1073741824:=by unfold SF at g;omega
 have d:=y b;refine AL (λt=>absurd d t) (λ_=>?_);rcases z d with⟨q1,q2⟩|⟨q1,q2,q3,A,B,q4,q5,q6,q7,q8,q9⟩
 ·rw[q1,Bool.not_false,cond_true];exact Ap.done ⟨rfl,e,f,l,n,g,i,j,k⟩
 ·rw[q1,Cg,cond_false];dsimp only at q3 q4 q5 q6 q7 q8;exact Ap.next ⟨q2,f.trans q3,λa=>A (l a),λc a=>B c (n c a),by unfold SF at*;dsimp only;omega,q4.trans i,q5.trans j,q6.trans k⟩ d!
def zQ{b:UInt8}{n:Int}(a:0<=n)(e:n<255):Es ([IntKind.wrap .u8 (((BitVec.toNat ((BitVec.ofInt 8 (b.toNat:Int))^^^(BitVec.ofInt 8 (IntKind.wrap .u8 (wi (1+n)))))):Nat):Int)]:List Int)=[UInt8.ofNat (BitVec.ofNat 8 b.toNat^^^BitVec.ofNat 8 (1+n).toNat).toNat]/\b≠UInt8.ofNat (BitVec.ofNat 8 b.toNat^^^BitVec.ofNat 8 (1+n).toNat).toNat:=by obtain⟨m,rfl⟩:=D6 a;rw[(by grind[AY]:wi (1+(m:Int))=((1+m:Nat):Int)),(by rw[AFE];omega:IntKind.wrap .u8 ((1+m:Nat):Int)=((1+m:Nat):Int)),(by omega:(1+(m:Int)).toNat=1+m),ai,ai];refine⟨?_,λd=>?_⟩;rw[(by rw[AFE];omega:IntKind.wrap .u8 (((BitVec.ofNat 8 b.toNat^^^BitVec.ofNat 8 (1+m)).toNat:Nat):Int)=(((BitVec.ofNat 8 b.toNat^^^BitVec.ofNat 8 (1+m)).toNat:Nat):Int))];rfl;have c:=congrArg UInt8.toNat d;rw[dR,Sm o!]at c;have f:=congrArg (BitVec.ofNat 8 b.toNat^^^ ·) (by grind:BitVec.ofNat 8 b.toNat=BitVec.ofNat 8 b.toNat^^^BitVec.ofNat 8 (1+m));grind[BitVec.xor_assoc,BitVec.xor_self,BitVec.zero_xor]
def wN{b:AQ}{s:BT}(h:CX b)(A:s.length≠0)(B:s.length<=1099511627775):Ap (F8 b s) λr=>CX r.2/\qV s r.1/\r.1.length<=s.length+1:=by
 unfold F8;simp only[len];refine AP (λv=>absurd v o!) (λ_=>AA (Ad h o!) λE m=>?_);have⟨l,k0,k1⟩:=m;have⟨k,t⟩:=D6 k0;refine AA (Ad l g!) λF e=>?_;rw[t,AY];have u:k<s.length:=o!
 have a:s=s.take k++s[k]::s.drop (k+1):=t!
 have i:Rk s 0 (k:Int)=some (s.take k):=by grind[Rk]
 have j:Rk s ((k:Int)+1) (s.length:Int)=some (s.drop (k+1)):=by unfold Rk;grind[List.take_of_length_le]
 have C:(s.take k).length=k:=k!
 have D:(s.drop (k+1)).length=s.length-(k+1):=FY;refine AP (λ_=>?_) (λ_=>?_);rw[i,AD,j,AD];refine AA (CC o!) λG o=>AB ⟨e.1,.less _ _ _ a o.1,k!⟩;refine AP (λ_=>?_) (λ_=>?_);refine AA (Ad e.1 g!) λz p=>AA (CC (by rw[L5];simp;omega)) λH q=>AB ⟨p.1,?_,?_⟩;exact .more s [] (UInt8.ofNat (IntKind.wrap .u8 z.1).toNat) (C0 s).symm (by rw[q.1];rfl);grind[L5,List.length_cons,List.length_nil];rw[i,AD];have f:six s (k:Int)=some ((s[k].toNat:Nat):Int):=by grind[six,Int.toNat_natCast,List.getElem?_eq_getElem]
 rw[f,AD,j,AD];refine AA (Ad e.1 g!) λw c=>?_;have⟨q1,q2⟩:=zQ (b:=s[k]) c.2.1 o!;rw[q1];refine AA (CC w!) λx d=>?_;have g:=d.2;simp[Bd,BX]at g;refine AA (CC o!) λy n=>AB ⟨c.1,.other _ _ _ _ q2 a ?_,k!⟩;grind[List.append_assoc]
theorem yA{a:AJ}{b:AQ}(y:AG a)(h:CX b)(I:a.2.2.1.length<=1000000):Ap (Dv b a.2.2.1) λr=>CX r.2/\ ∀f∈r.1,f∈a.2.2.1\/Bad f:=by
 unfold Dv;generalize B:a.2.2.1=x at*;refine AP (λ_=>AB ⟨h,λf v=>by simp at v⟩) (λg=>?_);simp only[len]at g;refine AA (Ad h (by grind)) λC p=>?_;have⟨n,c,o⟩:=p;simp[len]at o;rw[AY (x:=C.1+1) (by omega)];refine AA (Ad n (by decide)) λJ q=>AP (λ_=>?_) (λ_=>?_);refine AA (Bj (Af _) c (by omega)) λK F=>AA (Bj (by omega) (by grind) (by grind)) λL G=>?_;grind[AA,Ac,List.length_nil,AB];refine AA (Ac (by simp;omega)) λM u=>?_;have j:=u.1;rw[Bw]at j;subst j;refine AA (AI c (by omega)) λN _=>AA (AI c (by omega)) λm H=>?_;have⟨r,hr⟩:=y m (by grind);have A:=hr.size;have i:m.2.2.length≠0:=by rw[hr.2.1];grind[Ml,List.length_append,Dn]
 refine AA (wN q.1 i (by omega)) λO k=>AA (AI c (by omega)) λD _=>AA (AI c (by omega)) λE t=>AB ⟨k.1,λf e=>?_⟩;rcases OW e with w|w;grind;refine .inr ?_;rw[w];refine⟨by grind,λs z l=>?_⟩;dsimp only at l;have d:=k.2.1;rw[l,hr.2.1]at d;exact ACp hr.2.2.1.wr z d
def AAW{L:List EN}{a:AJ}{b:AQ}{m:Int}(h:AR L a)(p:AG a)(k:CX b)(J:SF a m):Ap (Dv b a.2.2.1) λr=>CX r.2/\AR L (a.1,(a.2.1,(r.1,a.2.2.2)))/\(∀c,RC a c->RC (a.1,(a.2.1,(r.1,a.2.2.2))) c)/\SF (a.1,(a.2.1,(r.1,a.2.2.2))) m:=by
 obtain⟨B,C,D,E,F,K,G⟩:=id h.vb;refine((AAX G k o! h.sa.2.2).and (yA p k o!)).mono λr hr=>?_;obtain⟨⟨H,M,I,N⟩,_,u⟩:=hr;have i:VB (a.1,(a.2.1,(r.1,a.2.2.2))):=⟨B,C,D,E,F,d!,I⟩
 have g: ∀e∈D5 (a.1,(a.2.1,(r.1,a.2.2.2))),e∈D5 a:=λe o=>by unfold D5 at o;obtain⟨f,d,j⟩:=OU.1 o;rcases u f d with d|d;obtain⟨s,q⟩:=p f d;have n:Good (a.1,(a.2.1,(r.1,a.2.2.2))) f s:=q.congr rfl rfl;rw[n.intR i.1]at j;injection j with j;subst j;exact Pb h.vb.1 d q;rw[d.intR i.1]at j;cases j
 refine⟨H,⟨i,λf d=>?_,λx l y v=>h.dis x (g x l) y (g y v)⟩,λc k t=>?_,by unfold SF at*;dsimp only;omega⟩;rotate_left;exact Dc (fk _ ((D5 a).filter λe=>e.1.2.2.1==t) ((To i).filter _) λx l=>BV.2 ⟨g x (BV.1 l).1,(BV.1 l).2⟩) (k t);rcases u f d with d|d;exact(h.files f d).imp id λ⟨s,w,z,A⟩=>⟨s,w.congr rfl rfl,z,A⟩
 exact .inl d
def ABl{L:List EN}{x:Int×List Int}(h:BD x.1 x.2):Ap (IC x) λr=>AR L r.1/\AG r.1/\RC r.1 0/\SF r.1 1/\r.1.2.1=x.1/\r.1.2.2.2.1=1:=by
 have a:Ap (IC x) λr=>r.2=0->r.1.2.2.1=[]/\r.1.2.2.2.2=1:=by refine AA kw λo b=>AO (λj=>AB λm=>?_) (λ_=>?_);grind;have l:=h.2.2.2.1;grind[AA,Ac,AB]
 refine((AFj h).and a).mono λr hr=>?_;have⟨⟨b,c,d,g⟩,i⟩:=hr;refine⟨⟨c,λf a=>?_,λe k=>?_⟩,λf a=>?_,λn=>?_,?_,d,g⟩;grind;grind[D5];grind;grind[D5];unfold SF;grind
def AX(L:List EN)(n d m:Int)(a:AJ):Prop:=AR L a/\AG a/\(∃c:Nat,RC a c/\100*(c:Int)<=m+99)/\SF a m/\a.2.1=n/\a.2.2.2.1<=d+1/\(ID L->AF a)
def AX.step{n m:Int}{a:AJ}{l:Ae}{c:Int}(p:Dj l)(h:AX l.2.1 n l.2.2 m a):Ap (Eh (a,(l,c))) λr=>r.2=0->AX l.2.1 n l.2.2 (m+100) r.1:=by have⟨d,e,⟨k,j,o⟩,f,g,t,i⟩:=h;refine(ADs (x:=(a,(l,c))) d p f).mono λr hr q=>?_;have⟨q1,q2,s,q3,q4,q5,q6⟩:=hr q;exact⟨q1,q2 e,⟨k+1,s k j,o!⟩,by unfold SF at*;omega,q4.trans g,k!,λb=>q6 b (i b)⟩
def AX.mono{L:List EN}{n d m k:Int}{a:AJ}(h:AX L n d m a)(o:m<=k):AX L n d k a:=by have⟨b,e,⟨c,i,j⟩,l,f,g⟩:=h;exact⟨b,e,⟨c,i,o!⟩,by unfold SF at*;omega,f,g⟩
def AX.tidy{L:List EN}{n d m:Int}{a:AJ}{c:Int}(p:Uq L)(h:AX L n d m a)(u:m<=1073741824)(s:2<=c/\c<=8):Ap (HX (a,c)) λr=>AX L n d m r.1:=by have⟨g,i,⟨k,t,b⟩,j,l,z,o⟩:=h;refine(ABs (x:=(a,c)) p g s j u).mono λr hr=>?_;have⟨q0,q1,q2,q3,y,q4,q5,q6,q7⟩:=hr;exact⟨q1,q3 i,⟨k,y k t,b⟩,q4,q6.trans l,k!,λq f e n v w=>(q2 f n).1 (o q f (q5▸e) n v (q7▸w))⟩
def qM{b:AQ}{x:Int×Ae}(h:CX b)(C:1<=x.1/\x.1<=64)(e:Dj x.2):Ap (J5 b x) λr=>CX r.2/\AX x.2.2.1 x.1 x.2.2.2 901 r.1:=by
 have T:=e.1;have U:=e.2.2.2.1;refine AA (AAU h C) λv0 m=>AA (ABl (L:=x.2.2.1) m.2) λI v=>?_;have⟨D,E,H,F,G,s5⟩:=v;have A:AX x.2.2.1 x.1 x.2.2.2 1 I.1:=⟨D,E,⟨0,H,g!⟩,F,G,o!,λ_ lo _ n n1 n2=>o!⟩
 refine AA (Ad m.1 g!) λv2 w=>?_;have⟨t,u,S⟩:=w;refine AA (P:=λr=>CX r.1/\AX x.2.2.1 x.1 x.2.2.2 801 r.2) ?_ λK c=>AA (Ad c.1 g!) λM f=>AA (P:=λa=>AX x.2.2.1 x.1 x.2.2.2 901 a) (AK (λ_=>AA (c.2.step e) λN g=>AA (P:=λa=>AX x.2.2.1 x.1 x.2.2.2 901 a) (AP (λk=>AB ((g k).mono g!)) (λ_=>AB (c.2.mono g!))) λO i=>AB i) (λ_=>AB (c.2.mono g!))) λQ j=>AB ⟨f.1,j⟩;refine Cu (λ(s:Int×AQ×AJ)=>0<=s.1/\s.1<=8/\CX s.2.1/\AX x.2.2.1 x.1 x.2.2.2 (801-100*s.1) s.2.2) (λ(s:Int×AQ×AJ)=>s.1.toNat) ⟨u,k!,t,A.mono k!⟩ (λs B=>?_);have⟨Y,Z,q,l⟩:=B;unfold RJ;rw[(AY (x:=s.1-1))];refine AC (λX=>AA (Ad q g!) λv4 y=>AA (l.step e) λv5 z=>AA (P:=λa=>AX x.2.2.1 x.1 x.2.2.2 (801-100*(s.1-1)) a) (AP (λk=>AB ((z k).mono o!)) (λ_=>AB (l.mono o!))) λv6 o=>AA (Ad y.1 g!) λv7 p=>?_) (λ_=>Ap.done ⟨q,l.mono o!⟩);refine AA (P:=λr=>CX r.1/\AX x.2.2.1 x.1 x.2.2.2 (801-100*(s.1-1)) r.2) ?_ λJ d=>Ap.next ⟨k!,k!,d.1,d.2⟩ k!
 refine AK (λ_=>AA (Ad p.1 g!) λR V=>?_) (λ_=>AB ⟨p.1,o⟩);rw[AY (x:=2+R.1)];refine AA (o.tidy e.uq o! o!) λv9 W=>?_;grind[AA,AP,AB]
set_option maxHeartbeats 1000000
def ABr{n p:Int}{l:List Int}(h:BD n l):Ap (JP (l,p)) λr=>0<=r.1/\r.1<=l.length/\(∀(i:Nat) (v:Int),(i:Int)<r.1->l[i]? =some v->v<p)/\(∀(i:Nat) (v:Int),r.1<=(i:Int)->l[i]? =some v->p<=v)/\(r.2=true->l[r.1.toNat]? =some p)/\(r.2=false-> ∀v,l[r.1.toNat]? =some v->p<v):=by
 have t:=h.2.2.2.1;refine AA (P:=λ(r:Int)=>0<=r/\r<=l.length/\(∀(i:Nat) (v:Int),(i:Int)<r->l[i]? =some v->v<p)/\ ∀(i:Nat) (v:Int),r<=(i:Int)->l[i]? =some v->p<=v) ?_ λJ u=>?_
 ·refine Cu (λ(s:Int×Int)=>0<=s.1/\s.1<=s.2/\s.2<=l.length/\(∀(i:Nat) (v:Int),(i:Int)<s.1->l[i]? =some v->v<p)/\ ∀(i:Nat) (v:Int),s.2<=(i:Int)->l[i]? =some v->p<=v) (λ(s:Int×Int)=>(s.2-s.1).toNat) ⟨Af _,k!,k!,λi v e=>k!,λi v e b=>k!⟩ (λs y=>?_);have⟨o,G,C,D,E⟩:=y;unfold MY;rw[yn o];refine AC (λa=>?_) (λa=>Ap.done ?_)
  ·refine AA (AI o! k!) λF g=>?_;refine AA cA λH k=>?_;rw[(AY (x:=(s.1+s.2)/2+1))];refine AA (P:=λ(q:Int×Int)=>(0<=q.1/\q.1<=q.2/\q.2<=(l.length:Int)/\(∀(i:Nat) (v:Int),(i:Int)<q.1->l[i]? =some v->v<p)/\ ∀(i:Nat) (v:Int),q.2<=(i:Int)->l[i]? =some v->p<=v)/\(q.2-q.1).toNat<(s.2-s.1).toNat) ?_ λI m=>Ap.next m.1 m.2
   refine AK (λB=>AB ⟨⟨k!,k!,C,λi v e b=>?_,E⟩,k!⟩) (λz=>AB ⟨⟨o,o!,o!,D,λi v e b=>?_⟩,o!⟩);have f:=k.1 B;have:=h.le (i:=i) (j:=((s.1+s.2)/2).toNat) o! b g.1;omega;have f: ¬F<p:=λq=>by have:=k.2 q;rw[z]at this;cases this
   have:=h.le (i:=((s.1+s.2)/2).toNat) (j:=i) o! g.1 b;omega
  grind
 have⟨a1,a2,a3,a4⟩:=u;refine AC (λa=>?_) (λa=>AB ⟨a1,a2,a3,a4,λc=>(by cases c),λ_ v b=>?_⟩);simp[len]at a;refine AA (AI a1 a) λK w=>?_;refine AP (λd=>AB ⟨a1,a2,a3,a4,λ_=>by dsimp only;rw[w.1,d],λc=>(by cases c)⟩) (λA=>?_);refine AA (AI a1 a) λL _=>?_;refine AK (λc=>?_) (λ_=>AB ⟨a1,a2,a3,a4,λc=>(by cases c),λ_ v b=>?_⟩);grind;grind;grind
def Xd(a:AJ)(p lo hi:Int):Prop:= ∃i:Nat,a.1[i]? =some lo/\hi=oM a i/\lo<=p/\p<=hi
def ABn{a:AJ}{p:Int}(h:VB a)(z:0<=p/\p<a.2.1): ∃b d,GP (a,p)=some (b,(d,true))/\Xd a p b d:=by
 have key:Ap (GP (a,p)) λr=>r.2.2=true/\Xd a p r.1 r.2.1:=by
  unfold GP;dsimp only;refine AA (Iu h) λG m=>?_;rw[m,Cg,cond_false,decide_eq_false o!,cond_false,decide_eq_false o!,cond_false];refine AA (ABr h.1) λc n=>?_;have⟨D,E,v,F,k,x⟩:=n;have q:=h.1.2.2.2.1;refine AA (P:=λl:Int=> ∃(i:Nat) (b:Int),l=i/\a.1[i]? =some b/\b<=p/\ ∀w,a.1[i+1]? =some w->p<w) ?_ λl s=>?_;refine AO (λt=>AB ?_) (λf=>AB ?_);have e:0<c.1:=by refine S8 λy=>?_;have:=x t 0 (by rw[show c.1.toNat=0 by omega];exact h.1.2.2.2.2.1);omega
  rw[AY];refine⟨c.1.toNat-1,a.1[c.1.toNat-1],o!,As o!,?_,λw g=>?_⟩;have:=v (c.1.toNat-1) _ o! (As o!);omega;grind;refine⟨c.1.toNat,p,o!,(k f),Af _,λw g=>?_⟩;exact h.1.lt 0 c.1.toNat p w (k f) g;obtain⟨i,b,rfl,j,u,A⟩:=s;rw[wQ h.1 j,AD];refine AB ⟨rfl,i,j,rfl,u,?_⟩;grind[oM]
 have⟨⟨b,d,o⟩,k1,B,C⟩:=key;grind
def Xd.uniq{a b:AJ}{p l1 l2 f g:Int}(h:BD a.2.1 a.1)(d:b.1=a.1)(e:b.2.1=a.2.1)(m:Xd a p l1 f)(n:Xd b p l2 g):l1=l2:=by
 obtain⟨i,s,t,u,v⟩:=m;obtain⟨j,w,z,A,B⟩:=n;have o:oM b j=oM a j:=by unfold oM;rw[d,e]
 have key: ∀{i j:Nat} {x y:Int},a.1[i]? =some x->a.1[j]? =some y->i<j->oM a i<y:=λ{i j x y} q c k=>by have r:=Cy c;have l:a.1[i+1]? =some (a.1[i+1]' o!):=As o!;have:=h.le (by omega:i+1<=j) l c;unfold oM;grind
 grind
def yD(P:Int->Prop)(j fl:Int):Prop:=0<=fl/\fl<=j/\(∀n,fl<n->n<=j->P n)/\(fl=0\/ ¬P fl)
def yD.uniq{P Q:Int->Prop}{j r s:Int}(h: ∀n,P n↔Q n)(hr:yD P j r)(a:yD Q j s):r=s:=by obtain⟨b,c,d,e⟩:=hr;obtain⟨f,g,i,k⟩:=a;grind
structure Xc(L:List EN)(l:Ae):Prop where
 vl:Dj l
 sorted:L.Pairwise λx y=>x.1<y.1
 tail: ∀e,e∈l.2.1↔e∈L/\l.1<=e.1/\e.1<=l.1+l.2.1.length-1
 len:L.length<=4096
def AFh{B:Nat}{L:List EN}{a:AJ}{l:Ae}{p i j:Int}(q:CP B)(D:B≤16777216)(v:j-i≤B)(t:0≤i)(F:i≤j)(E:j≤1099511627776)(h:AR L a)(w:Xc L l)(y:0≤p∧p<a.2.1):
  ∃o t d,Xd a p o t/\yD (wa a l o) j d/\P0 (a,(l,(p,(i,j))))=some (decide (d<=i))/\Ap (Hn (a,(l,(p,(i,j))))) λr=>(d>i/\r=([],42))\/(d<=i/\((XZ i (L.filter (Ka p i j))/\r=(L.filter (Ka p i j),0))\/(¬XZ i (L.filter (Ka p i j))/\r=([],13)))):=by
 obtain⟨o,u,x,n⟩:=ABn h.vb y;obtain⟨k,k1,G,H,I⟩:=id n;obtain⟨d,z,C,A⟩:=AFg q D v t F E h.vb h.ds w.vl y x rfl w.sorted w.tail (λe s=>by
  obtain⟨f,_,_,_,g,_⟩:=h.mem s;exact g) h.dis (λe s m=>by
  obtain⟨f,_,g,_⟩:=h.mem s;have c:e.1.2.2.1=o:=m;have b:=g.2.2.2;rw[c]at b;have:=b.uniq h.vb.1 ⟨k,k1,G⟩;exact⟨H,o!⟩)
 exact⟨o,u,d,n,z,C,A⟩
def Dj.sorted{l:Ae}(h:Dj l):l.2.1.Pairwise λx y=>x.1<y.1:=by have⟨l1,l2,a,b,c,d⟩:=h;rw[HH];grind
def Lx{l:Ae}(h:Dj l):Xc l.2.1 l:=⟨h,h.sorted,λe=>⟨λa=>⟨a,by have⟨k,b⟩:=E9.1 a;have:=(h.2.2.2.2.2 k e b).1;have:=Cy b;omega⟩,λa=>a.1⟩,h.2.2.1⟩
def AFH{l:Ae}{f:Int}(h:Dj l)(n:l.2.2=l.1+l.2.1.length-1)(i:l.1<=f)(j:f<=l.2.2+1)(m:f<=1099511627776):Ap (H8 (l,f)) λr=>Xc l.2.1 r.1/\r.1.1=f/\r.1.2.2=l.2.2:=by
 have o:Ap (H8 (l,f)) λr=>r.2=0->r.1=(f,(l.2.1.drop (f-l.1).toNat,l.2.2)):=by have⟨a1,a2,a3,a4,a5,a6⟩:=id h;refine AA Bg λv t=>?_;refine AO (λ_=>AB λa=>absurd (show(26:Int)=0 from a) g!) (λ_=>?_);refine AC (λ_=>AB λa=>absurd (show(1:Int)=0 from a) g!) (λ_=>?_);refine AC (λ_=>AB λa=>absurd (show(1:Int)=0 from a) g!) (λ_=>?_);refine AC (λ_=>AB λa=>absurd (show(1:Int)=0 from a) g!) (λ_=>?_);refine AC (λ_=>AB λa=>absurd (show(15:Int)=0 from a) g!) (λ_=>?_);grind[AY,AA,Bj,Ac,AB,List.take_of_length_le]
 refine((gV (x:=(l,f)) h n i j m).and o).mono λr hr=>?_;have⟨⟨c,q,s⟩,d⟩:=hr;refine⟨⟨q,h.sorted,λe=>?_,h.2.2.1⟩,s,by rw[(d c)]⟩;rw[(d c)];have⟨l1,l2,u,w,y,p⟩:=h;rw[E9,E9];constructor;grind;rintro⟨⟨k,b⟩,g,_⟩;have:=(p _ e b).1;exact⟨k-(f-l.1).toNat,by rw[KR,show(f-l.1).toNat+(k-(f-l.1).toNat)=k by omega];exact b⟩
def vC{p i j:Int}{e:EN}:Ka p i j e=(Zx p e&&(decide (e.1>i)&&decide (e.1<=j))):=by unfold Ka Zx gR;grind
def XZ.snoc{i:Int}{s:List EN}{e:EN}(h:XZ i s)(m:s=[]->e.2.2.2.2.1<=i)(n: ∀f,s[s.length-1]? =some f->e.2.2.2.2.1=f.1):XZ i (s++[e]):=by
 intro k g b;rcases Aw k s.length with d|d;rw[CT d]at b;refine⟨(h k g b).1,λf a c=>(h k g b).2 f a ?_⟩;grind;have o:=Cy b;rw[Aa,qb]at o;have l:k=s.length:=o!
 subst l;have j:e=g:=k!
 subst j;refine⟨λp=>m (EZ p),λf a c=>n f ?_⟩;rwa [CT o!]at c
def tk{n p i j:Int}{L:List EN}(F:LI n L)(G:L.Pairwise λx y=>x.1<y.1)(H:0≤i): ∀m:Nat,m≤L.length→
  XZ i ((L.take m).filter (Ka p i j))/\((∀f∈L.take m,f.1<=j)->((L.take m).filter (Ka p i j)=[]->Ba (L.take m) p<=i)/\ ∀f,((L.take m).filter (Ka p i j))[((L.take m).filter (Ka p i j)).length-1]? =some f->Ba (L.take m) p=f.1)
 |0,_=>by rw[List.take_zero];exact⟨λk e E=>by simp at E,λ_=>⟨λ_=>H,λf a=>by simp at a⟩⟩
 |m+1,hm=>by
  obtain⟨C,D⟩:=tk (j:=j) F G H m o!;have d:m<L.length:=o!
  have B:L.take (m+1)=L.take m++[L[m]]:=by rw[Cv,As d];rfl
  have l: ∀f∈L.take m,f.1<L[m].1:=λf a=>by obtain⟨k,w⟩:=De a;have z:=Cy w;rw[BQ]at z;rw[JS o!,As o!]at w;rw[<-BP w];exact HH.1 G k m o! d o!
  have A:=F m _ (As d);rw[B,GU];generalize I:L.take m=M at*;generalize L[m]=e at*;by_cases t:Ka p i j e=true;have g:=t;rw[vC]at g;simp only[BW,decide_eq_true_eq]at g;obtain⟨s,K,N⟩:=g;have q:e.2.2.2.2.2.2.1.1=p/\(e.2.1=1\/e.2.1=2):=by unfold Zx at s;simp only[BW,XM,beq_iff_eq]at s;exact⟨s.2,s.1⟩
  obtain⟨q1,q2⟩:=D λf a=>by have:=l f a;omega
  have b:=A.1 q.2;rw[q.1]at b;rw[tf t,jQ];refine⟨C.snoc (λh=>by rw[b.1];exact q1 h) (λf a=>by rw[b.1];exact q2 f a),λ_=>⟨λh=>by simp at h,λf a=>?_⟩⟩;rw[O7,if_pos s];have:e=f:=by simpa using a
  rw[this];rw[td t,jQ,C0];refine⟨C,λc=>?_⟩;have E:=c e q!;obtain⟨q1,q2⟩:=D λf a=>c f (HG _ a);rw[O7];by_cases u:Zx p e=true;have v:e.1<=i:=by refine S8 λJ=>t ?_;rw[vC,u];simp;omega
  have o:M.filter (Ka p i j)=[]:=List.filter_eq_nil_iff.2 λf a r=>by rw[vC]at r;simp only[BW,decide_eq_true_eq]at r;have:=l f a;omega
  rw[if_pos u,o];exact⟨λ_=>v,λf a=>by simp at a⟩;rw[if_neg u];exact⟨q1,q2⟩
def AAk{n p i j:Int}{L:List EN}(a:LI n L)(b:L.Pairwise λx y=>x.1<y.1)(c:0<=i):XZ i (L.filter (Ka p i j)):=by have:=(tk (p:=p) (j:=j) a b c L.length (Ao _)).1;grind
def ABg{B:Nat}{n:Int}{L:List EN}{a:AJ}{l:Ae}{p i j:Int}(e:CP B)(s:B≤16777216)(u:LI n L)(f:j-i≤B)(c:0≤i)(v:i≤j)(t:j≤1099511627776)(h:AR L a)(g:Xc L l)(w:0≤p∧p<a.2.1):
  ∃d c b,Xd a p d c/\yD (wa a l d) j b/\P0 (a,(l,(p,(i,j))))=some (decide (b<=i))/\((b>i/\Hn (a,(l,(p,(i,j))))=some ([],42))\/(b<=i/\Hn (a,(l,(p,(i,j))))=some (L.filter (Ka p i j),0))):=by
 obtain⟨d,q,b,x,m,o,r,k,y⟩:=AFh e s f c v t h g w;refine⟨d,q,b,x,m,o,?_⟩;rcases y with⟨q1,q2⟩|⟨q1,⟨q2,q3⟩|⟨q2,q3⟩⟩;exact .inl ⟨q1,by rw[k,q2]⟩;exact .inr ⟨q1,by rw[k,q3]⟩;exact absurd (AAk u g.sorted c) q2
def ABF{x:AU×Do}(b:OR x.2)(e:x.2.1=x.1.1)(c:Gk x.1.2.2 x.2.2.1=some x.2.2.2.1):QS x=some ((x.1.1,(x.1.2.1,WF x.1.2.2 x.2.2.1 x.2.2.2.2)),0):=by
 suffices f:Ap (QS x) λr=>r=((x.1.1,(x.1.2.1,WF x.1.2.2 x.2.2.1 x.2.2.2.2)),0) by obtain⟨r,hr,rfl⟩:=f;exact hr
 unfold QS;refine AA bx λv g=>AO (λa=>absurd (g.2 b) (by simp[a])) (λa=>?_);refine AL (λa=>absurd e a) (λd=>?_);rw[c];refine BA (BA ?_);rw[beq_self_eq_true,beq_self_eq_true];exact BA (BA (AB rfl))
def AEm{x:AU}{e:AE}(h:GA x)(f:Lc e)(g:e.2.1=1\/e.2.1=2)(c:e.2.2.2.2.2.2.1.1=x.1)(i:e.2.2.2.2.1=x.2.1)(d:Gk x.2.2 e.2.2.2.2.2.2.1.2.1=some e.2.2.2.2.2.2.1.2.2.1):Ua (x,e)=some (upd x e,0):=by
 suffices j:Ap (Ua (x,e)) λr=>r=(upd x e,0) by obtain⟨r,hr,rfl⟩:=j;exact hr
 have a:OR e.2.2.2.2.2.2.1:=by grind[Lc,Ut]
 have b:gR e=true:=by unfold gR;rcases g with q|q<;>rw[q]<;>rfl
 unfold Ua;refine AA Jp λv k=>AO (λa=>absurd (k f) (by simp[a])) (λ_=>?_);rw[lC,b,cw h,AD,Cg,cond_false];refine BA (AL (λa=>absurd rfl a) (λ_=>AL (λa=>absurd c a) (λ_=>AL (λa=>absurd i a) (λ_=>?_))));rw[ABF a c d];exact BA (AL (λa=>absurd rfl a) (λ_=>AB rfl))
def AEo{x:AU}{a:List AE}(q:OKs x a)(d:a.length<=4096):Ud (x,a)=some (a.foldl upd x,0):=by
 suffices t:Ap (Ud (x,a)) λr=>r=(a.foldl upd x,0) by obtain⟨r,hr,rfl⟩:=t;exact hr
 generalize v:a.foldl upd x=y;refine AA (P:=λr=> ∃z,r= .inr (y,z)) ?_ λr hr=>?_
 ·refine Cu (λ(s:Int×AU×AU)=> ∃A B,a=A++B/\s.1=A.length/\OKs s.2.1 B/\B.foldl upd s.2.1=y) (λ(s:Int×AU×AU)=>((a.length:Int)-s.1).toNat) ⟨[],a,rfl,rfl,q,v⟩ ?_;rintro⟨i,x,z⟩ ⟨A,B,rfl,g,h,c⟩;dsimp only at g h c;subst g;unfold ZI;dsimp only[len];rw[Aa]at d;refine AC (λb=>?_) (λb=>Ap.done ?_)
  ·obtain _|⟨e,B⟩:=B;simp at b;have u:ix (A++e::B) (A.length:Int)=some e:=by unfold ix;rw[if_pos o!,Dd,Ch (Ao _),Gn];rfl
   obtain⟨⟨j,f,k,l,m,n⟩,o⟩:=h;have p:e.2.2.2.2.1<e.1:=f.2.2.2.2.2.1;rw[u,AD,decide_eq_false o!,cond_false,AEm j f k l m n,AD,AY (x:=(A.length:Int)+1)];refine AL (λb=>absurd rfl b) (λ_=>Ap.next ⟨A++[e],B,q!,q!,o,c⟩ d!)
  obtain _|⟨e,B⟩:=B;exact⟨z,by rw[<-c];rfl⟩;simp at b;omega
 obtain⟨z,rfl⟩:=hr;exact A7 (AB rfl)
def AAR{L:List AE}(h:ID L){p:Int}{a b:Nat}(g:a<=b):L.filter (Ka p a b)=((L.take b).drop a).filter (Zx p):=by
 have j: ∀(i:Nat) (e:AE),L[i]? =some e->Ka p a b e=(Zx p e&&(decide (a<=i)&&decide (i<b))):=λi e d=>by have:=(h i e d).1;rw[vC,show decide (e.1>(a:Int))=decide (a<=i)from decide_eq_decide.2 o!,show decide (e.1<=(b:Int))=decide (i<b)from decide_eq_decide.2 o!]
 conv=>lhs;rw[<-D1 b L,sm L g]
 rw[GU,GU];rw[(List.filter_eq_nil_iff (l:=L.take a)).2 λe d=>by obtain⟨i,c⟩:=De d;have f:=Cy c;rw[BQ]at f;rw[JS o!]at c;rw[j i e c,decide_eq_false (show¬a<=i by omega)];simp];rw[(List.filter_eq_nil_iff (l:=L.drop b)).2 λe d=>by obtain⟨i,c⟩:=De d;rw[KR]at c;rw[j _ e c,decide_eq_false (show¬b+i<b by omega)];simp];rw[Bw,C0];refine List.filter_congr λe d=>?_;obtain⟨i,c⟩:=De d;rw[KR]at c;have f:=Cy c;rw[BQ]at f;rw[JS o!]at c;rw[j _ e c,decide_eq_true (show a<=a+i by omega),decide_eq_true (show a+i<b by omega)];simp
def Cov(a:AJ)(l:Ae)(k:Nat):Prop:= ∀m:Int,1<=m->m<=k-> ∀p lo hi,Xd a p lo hi->wa a l lo m
def AC2{a:AJ}{l:Ae}(h:VB a)(b:Dj l):P9 (a,l)=some 0:=by obtain⟨v,c,rfl⟩:=Iu h;obtain⟨w,d,rfl⟩:=MA b;unfold P9;rw[c,AD,Cg,cond_false,d];rfl
def eS(x:AU):C3:=(x.1,(x.2.1,lH x))
def Md(L:List EN)(n:Nat):List C3:=(List.range n).map λ(i:Nat)=>eS (st L i)
def Ma(L:List EN)(n:Nat):(Md L n).length=n:=by unfold Md;rw[List.length_map,List.length_range]
def rX{L:List EN}{n i:Nat}(h:i<n):(Md L n)[i]? =some (eS (st L i)):=by unfold Md;rw[CM,PX h];rfl
def aW{L:List EN}{n:Nat}{i:Int}(a:0<=i)(h:i<n):ix (Md L n) i=some (eS (st L i)):=by obtain⟨v,c,b,_⟩:=AI (l:=Md L n) a (by rw[Ma];exact h);rw[rX o!,HJ a]at b;rw[c,<-BP b]
def xA(L:List EN)(n:Nat):Md L (n+1)=Md L n++[eS (st L n)]:=by unfold Md;rw[List.range_succ,Jm];rfl
def AAO{L:List EN}(h:ID L){p:Int}{k:Nat}(a:(st (L.take k) p).2.1=0):st (L.take k) p=(p,(0,G9.all (false,[]))):=by rw[KJ]at a;exact(jq h (j:=k) (k:=0) (by rw[a];rfl)).trans rfl
def rW{L:List EN}(h:ID L)(a:L.length<=1099511627776){p:Int}(b:0<=p/\p<64){k:Nat}:Ea (lH (st (L.take k) p),p)=some (st (L.take k) p,0):=by
 have:=ACu (YV h b a k) λc=>by rw[AAO h c]
 rwa [Uj]at this
def nF{L:List EN}(h:ID L)(l:L.length<=1099511627776){s:Int}{n k:Nat}(d:1<=s/\s<=1073741824)(hn:1<=n/\n<=64):Hg (s,((n:Int),Md (L.take k) n))=some true:=by
 suffices d:Ap (Hg (s,((n:Int),Md (L.take k) n))) λr=>r=true by obtain⟨r,hr,rfl⟩:=d;exact hr
 unfold Hg;dsimp only;have c:len (Md (L.take k) n)=n:=by unfold len;rw[Ma]
 rw[decide_eq_false o!,cond_false,decide_eq_false o!,cond_false,decide_eq_false o!,cond_false,decide_eq_false o!,cond_false,c,decide_eq_false o!,cond_false];refine AA (P:=λr=>r= .inr ()) ?_ λr hr=>by rw[hr];exact A7 (AB rfl)
 refine Cu (λ(s:Int)=>0<=s/\s<=n) (λs=>((n:Int)-s).toNat) ⟨Af _,o!⟩ (λi j=>?_);obtain⟨e,o⟩:=j;unfold Vd;dsimp only;rw[c];refine AC (λa=>?_) (λ_=>Ap.done rfl);have f:Ap (some (Step.next (wi (i+1))):Option (Step Int (Bool ⊕ Unit))) (LW (λ(s:Int)=>0<=s/\s<=n) (λs=>((n:Int)-s).toNat) ((n:Int)-i).toNat λr=>r= .inr ()):=by rw[AY];exact Ap.next o! o!
 have g:(eS (st (L.take k) i)).1=i:=Uj _ _;rw[aW e a,AD,g,decide_eq_false o!,cond_false];have b:Ea ((eS (st (L.take k) i)).2.2,i)=some (st (L.take k) i,0):=rW h l ⟨e,o!⟩;refine AC (λm=>?_) (λ_=>?_);rw[AY,aW o! o!,AD,show(eS (st (L.take k) (i-1))).1=i-1 from Uj _ _,decide_eq_false o!,cond_false,b,AD];exact AL (λa=>absurd rfl a) (λ_=>AL (λa=>absurd rfl a) (λ_=>f));rw[b,AD];exact AL (λa=>absurd rfl a) (λ_=>AL (λa=>absurd rfl a) (λ_=>f))
def AFB{L:List EN}(h:ID L)(b:L.length<=1099511627776){s:Int}{n k:Nat}(c:1<=s/\s<=1073741824)(hn:1<=n/\n<=64):Vn (s,((n:Int),Md (L.take k) n))=some true:=by
 unfold Vn;rw[nF h b c hn,AD,cond_true];have a:len (Md (L.take k) n)=n:=by unfold len;rw[Ma]
 dsimp only;rw[a,beq_self_eq_true]
def ACl{m:Nat}(h:m<=64):JJ (1,(m:Int))=some (1,((m:Int),Md [] m)):=by
 suffices d:Ap (JJ (1,(m:Int))) λr=>r=(1,((m:Int),Md [] m)) by obtain⟨r,hr,rfl⟩:=d;exact hr
 unfold JJ;refine AA (P:=λr=>r=(Md [] m,(1,(m:Int)))) ?_ λr hr=>AB (by rw[hr]);refine Cu (λ(t:Int×List C3×Int×Int)=>0<=t.1/\t.1<=m/\t.2=(Md [] t.1.toNat,(1,(m:Int)))) (λt=>((m:Int)-t.1).toNat) ⟨Af _,d!,rfl⟩ ?_;rintro⟨i,t⟩ ⟨b,f,c⟩;dsimp only at b f c;subst c;unfold TQ;dsimp only;refine AC (λa=>?_) (λa=>Ap.done ?_)
 ·rw[px,AD];refine AA (Ac (by rw[Ma];simp;omega)) λv e=>?_;rw[AY];refine Ap.next ⟨d!,d!,?_⟩ d!
  dsimp only;rw[e.1,show(i+1).toNat=i.toNat+1 by omega,xA,HJ b];rfl
 rw[show i.toNat=m by omega]
def ID.nil:ID []:=λi e h=>by simp at h
def wc{L:List EN}{a:AJ}{l:Ae}{k:Nat}(b:l.1=1)(d:k<=l.2.1.length):Cov a l k:=λm f g p e c _=>.inl o!
def qz{l:List Int}(h: ∀c∈l,0≤c∧c<256):Ap (bif (decide ((len l)>500))then
    Option.bind (aX l 0 500) λd=>
    some d
   else
   some l) λr=>CX (r,0):=by
 refine AC (λa=>?_) (λa=>AB ⟨Af _,by simp only[len]at a;dsimp only;omega,h⟩);simp only[len]at a;refine AA (Bj) λd e=>AB ⟨Af _,d!,λc b=>?_⟩;dsimp only at b;rw[e.1]at b;exact h c (OV (FA b))
def oZ(x:AU):ABG x x=true:=by
 unfold ABG;simp only[beq_self_eq_true,Bool.true_and];generalize List.finRange 16=l;induction l with
 |nil=>rfl
 |cons i l a=>rw[List.foldr_cons];exact a
def lf{a:Type}{l r:List a}(h:r.Perm l):Nat.beq r.length l.length=true:=by rw[h.length_eq];exact Ir _
def ya{g v:Type}{c:g×g->Option v}{n:v->Bool}(y: ∀p,Ap (c p) λ_=>True){l:List g}{b:Nat}(w:b<=l.length)(K:l.length<=16777000):Ap (ACX c n l (0,(b:Int))) λr=>r.Perm l:=by
 unfold ACX;refine AA (P:=λr=>r.Perm l) ?_ λr hr=>AB hr;refine Cu (λ(s:Int×List g)=>1<=s.1/\s.1<=b+1/\s.2.Perm l) (λs=>((b:Int)+1-s.1).toNat) ⟨by show 1<=wi (0+1);rw[AY];decide,by show wi (0+1)<=_;rw[AY];omega,nU _⟩ ?_;rintro⟨M,N⟩ ⟨B,C,h⟩;dsimp only at B C h;refine AC (λw=>?_) (λ_=>Ap.done h);have q:=h.length_eq;refine AA (P:=λr=>r.Perm l) ?_ λr hr=>?_
 ·refine Cu (λ(t:Int×List g)=>0<=t.1/\t.1<l.length/\t.2.Perm l) (λt=>t.1.toNat) ⟨d!,d!,h⟩ ?_;rintro⟨e,j⟩ ⟨d,D,i⟩;dsimp only at d D i;have O:=i.length_eq;unfold AFO;dsimp only;refine AA (P:=λr:Unit ⊕ Unit=>r= .inr ()->e>0) ?_ λr hr=>?_;refine AC (λa=>?_) (λ_=>AB λA=>by cases A);rw[AY (x:=e-1)];refine AA (AI d) λQ _=>?_;refine AA (AI d) λR _=>?_;refine AA (AI) λS _=>?_;refine AA (AI) λT _=>?_;refine AA (y _) λU _=>?_;exact AK (λ_=>AB λ_=>a) (λ_=>AB λ_=>a)
  ·refine BB (λu _=>Ap.done i) (λu z=>?_);have a:=hr (by cases u;exact z);rw[AY (x:=e-1)];refine AA (AI) λE _=>?_;refine AA (AI) λf k=>?_;refine AA (AI d) λF _=>?_;refine AA (AI d) λo m=>?_;refine AA (AI d) λG _=>?_;refine AA (AI d) λH _=>?_;have L:(FT j e f).length=j.length:=sF;refine AA (AI) λI _=>?_;refine AA (AI) λJ _=>?_;refine Ap.next ⟨d!,d!,?_⟩ d!
   dsimp only;unfold FT;rw[(by have:=k.1;rw[As o!]at this;exact(BP this).symm:f=j[(e-1).toNat]),(by have:=m.1;rw[As o!]at this;exact(BP this).symm:o=j[e.toNat])];exact(List.set_set_perm o! o!).trans i
 ·rw[AY];exact Ap.next ⟨d!,d!,hr⟩ d!
def AFU{a:Type}{f:List a->Int×Int->Option (List a)}{l:List a}(e:Ap (f l (0,(l.length:Int))) λr=>r.Perm l)(h:l.length<=12)(n:Int):Ap (rL (λ(_:(List a)×(Int×(Int×Int))->Option (List a)) p=>pdG f p.1 p.2) (l,(0,(len l,n)))) λr=>r.Perm l:=by
 have step:Ap (pdG f l (0,(len l,n))) λr=>r.Perm l:=by unfold pdG;refine AA (P:=λr=>r.Perm l) ?_ λr hr=>AB hr;rw[H5];unfold AHQ;dsimp[len];rw[AY,decide_eq_true o!,cond_true];have⟨r,hr,b⟩:=e;rw[hr,AD,lf b,cond_true];exact⟨r,rfl,b⟩
 have⟨r,hr,b⟩:=step;have⟨s,d⟩:=lM (f:=λ(_:(List a)×(Int×(Int×Int))->Option (List a)) p=>pdG f p.1 p.2) (x:=(l,(0,(len l,n)))) (n:=1) hr;have⟨N,c⟩:=jf d;refine⟨s,d,?_⟩;cases N with
 |zero=>cases c
 |succ N=>exact step.get c
def AFY{a:Type}{f:List a->Int×(Int×Int)->Option (List a)}{l:List a}(c: ∀n,Ap (f l (0,(len l,n))) λr=>r.Perm l)(h:l.length<=12):Ap (soG f l) λr=>r.Perm l:=by unfold soG WN;obtain⟨n,g,-,-⟩:=ADm (x:=l.length) o!;rw[Wl,show(len l)%18446744073709551616=(l.length:Int) by show((l.length:Nat):Int)%_=_;omega,g];simp only[AD];refine AA (c _) λd b=>?_;rw[lf b,cond_true];exact AB b
def AE4{l:List Int}(h:l.length<=12):Ap (Po l ()) λr=>r.Perm l:=AFY (λn=>AFU (ya (λp=>cA.mono λ_ _=>trivial) (Ao _) o!) h n) h
def AIC(p:Az×Az):Ap (Pz p) λ_=>True:=by unfold Pz;exact AA Rh λ_ _=>AB trivial
def AID(p:Bb×Bb):Ap (Py p) λ_=>True:=by unfold Py;exact AA Rh λ_ _=>AB trivial
def AE5{l:List Az}(h:l.length<=12):Ap (Gf l ()) λr=>r.Perm l:=AFY (λn=>AFU (ya AIC (Ao _) o!) h n) h
def AE7{l:List Bb}(h:l.length<=12):Ap (EU l ()) λr=>r.Perm l:=by
 unfold EU;refine AA (P:=λr=>r.Perm l) ?_ λr hr=>by rw[lf hr,cond_true];exact AB hr
 unfold Iy;rw[H5];unfold La;dsimp only[len];rw[decide_eq_false o!,cond_false];dsimp[Option.bind];have⟨r,hr,a⟩:=ya (n:=λb=>decide (b<0)) AID (Ao l.length) o!;rw[show Eo l (0,(l.length:Int))=some r from hr];dsimp only;rw[lf a,cond_true,H5];unfold Lb;dsimp only;rw[decide_eq_false o!,cond_false];exact AB a
def vq{a:AJ}{r:AS}(h:BD a.2.1 a.1):Ap (FZ (a,r)) λk=>0<=k->a.1[k.toNat]? =some r.2.2.1:=by
 have e:=h.2.2.2.1;refine AA (P:=λq=> ∀k:Int,q= .inl k->a.1[k.toNat]? =some r.2.2.1) ?_ λq i=>?_
 ·refine Cu (λ(s:Int)=>0<=s/\s<=a.1.length) (λs=>((a.1.length:Int)-s).toNat) ⟨Af _,o!⟩ (λs f=>?_);obtain⟨l,n⟩:=f;unfold HD;dsimp only[len];refine AC (λm=>?_) (λ_=>Ap.done λk b=>by cases b);have b:a.1[s.toNat]? =some (a.1[s.toNat]' o!):=As o!;have hr:=lu h b;rw[HJ l]at hr;rw[hr,AD,AY];refine AP (λg=>AP (λ_=>Ap.done λk c=>?_) (λ_=>Ap.next o! o!)) (λ_=>Ap.next o! o!);cases c;rw[b];exact congrArg some g
 refine BB (λu d=>AB λ_=>i u d) (λu d=>AB n!)
def Good.refE{a:AJ}{f:Av}{r:AS}(h:Good a f r)(b:BD a.2.1 a.1): ∃k:Nat,DE (a,f)=some (r,(k:Int))/\a.1[k]? =some r.2.2.1:=by have⟨c,d,e,g⟩:=h;obtain⟨k,k1,i,j⟩:=(pX (r:=r) b).and (vq (r:=r) b);have k0:=i.2 g;refine⟨k.toNat,?_,j k0⟩;unfold DE;rw[c,d,bne_self_eq_false,cond_false,vw e,AD,show(((r,(0:Int)):AS×Int).2 !=0)=false from rfl,cond_false,k1,AD,HJ k0]
def Beh(a b:NE):Prop:=a.1.2.1<b.1.1
def Lt(a b:NE):Prop:=a.1.2.2.1<b.1.2.2.1\/(a.1.2.2.1=b.1.2.2.1/\Beh a b)
def AAL{L:List EN}{x:AJ}(h:AR L x)(e:NE):e∈D5 x↔ ∃f∈x.2.2.1,Good x f e.1/\e.2=f.2.1:=⟨λd=>by obtain⟨f,a,b,c,_⟩:=h.mem d;exact⟨f,a,b,c⟩,λ⟨f,a,b,c⟩=>by have:=Pb h.vb.1 a b;rw[<-c]at this;exact this⟩
def ol{L:List EN}{x:AJ}(h:AR L x){e:NE}(a:e∈D5 x):1<=e.1.1/\e.1.1<=e.1.2.1:=by obtain⟨f,_,g,_⟩:=h.mem a;have:=g.2.2.1.1;exact⟨this.1,this.2.1⟩
def AAb{s2:List AS×List Int×Int}{v4:AS×Int}(h:s2.1.length<=16777215):Ap (Ai (G6 s2 v4) (len s2.1)) λr=>0<=r/\r<=s2.1.length/\(∀e∈s2.1.drop r.toNat,v4.1.1<=e.1)/\(0<r-> ∀e,s2.1[r.toNat-1]? =some e->e.1<=v4.1.1):=by refine Cu (λ(s:Int)=>0<=s/\s<=s2.1.length/\ ∀e∈s2.1.drop s.toNat,v4.1.1<=e.1) (λ(s:Int)=>s.toNat) ⟨by unfold len;omega,by unfold len;omega,λe a=>by simp[len]at a⟩ (λs i=>?_);obtain⟨f,g,b⟩:=i;unfold G6;refine AC (λj=>?_) (λj=>Ap.done ⟨f,g,b,λl=>absurd l o!⟩);rw[AY];refine AA (AI) λm c=>AC (λk=>Ap.next ⟨o!,o!,λe a=>?_⟩ o!) (λk=>Ap.done ⟨f,g,b,λ_ e a=>?_⟩);rw[show s.toNat=(s-1).toNat+1 by omega]at b;have d:=Cy c.1;rw[Qt d]at a;rcases Au.1 a with q|q;have:=c.1;rw[As d]at this;rw[q,BP this];omega;exact b e q;have:=c.1;rw[show(s-1).toNat=s.toNat-1 by omega,a]at this;rw[BP this];omega
def W2(x:AJ)(k:Nat)(s:List AS×List Int×Int):Prop:=0<=s.2.2/\s.2.2<=x.2.2.1.length/\ ∃M:List NE,s.1=M.map (·.1)/\s.2.1=M.map (·.2)/\M.length<=s.2.2/\M.Pairwise Beh/\ ∀e,e∈M↔(∃f∈x.2.2.1.take s.2.2.toNat,Good x f e.1/\e.2=f.2.1)/\x.1[k]? =some e.1.2.2.1
def AAa{x:AJ}{L:List EN}{s1:Int×List AS×List Int×List Bool}(h:AR L x){k:Nat}(hp:s1.1=k):Ap (Ai (Em x s1) ([],([],0))) λr=> ∃M:List NE,r=(M.map (·.1),M.map (·.2))/\M.length<=256/\M.Pairwise Beh/\ ∀e,e∈M↔e∈D5 x/\x.1[k]? =some e.1.2.2.1:=by
 obtain⟨⟨b1,b2,b3,b4,b5,b6,b7⟩,a1,a2,a3,a4,a5,a6⟩:=h.vb;refine Cu (W2 x k) (λs=>((x.2.2.1.length:Int)-s.2.2).toNat) ⟨Af _,d!,[],rfl,rfl,q!,List.Pairwise.nil,λe=>q!⟩ ?_;rintro⟨A,B,i⟩ ⟨i1,i2,M,eA,eB,i4,W,X⟩;dsimp only at i1 i2 eA eB i4 X;subst eA eB;unfold Em;dsimp only[len];rw[AY (x:=i+1)];refine AC (λhc=>?_) (λhc=>Ap.done ⟨M,rfl,o!,W,λe=>by rw[X e,AAL h,BR o!]⟩);refine AA (AI i1 hc) λZ P=>?_;have et:x.2.2.1.take (i+1).toNat=x.2.2.1.take i.toNat++[Z]:=by rw[show(i+1).toNat=i.toNat+1 by omega,Cv,P.1];rfl
 have C:(∀e:NE,Good x Z e.1->x.1[k]? ≠some e.1.2.2.1)->Ap (some (Step.next (M.map (·.1),(M.map (·.2),i+1))):Option (Step (List AS×List Int×Int) (List AS×List Int))) (LW (W2 x k) (λs=>((x.2.2.1.length:Int)-s.2.2).toNat) ((x.2.2.1.length:Int)-i).toNat λr=> ∃M:List NE,r=(M.map (·.1),M.map (·.2))/\M.length<=256/\M.Pairwise Beh/\ ∀e,e∈M↔e∈D5 x/\x.1[k]? =some e.1.2.2.1):=λhn=>by
  refine Ap.next ⟨d!,d!,M,rfl,rfl,d!,W,λe=>?_⟩ d!
  dsimp only;rw[X e,et];constructor;rintro⟨⟨f,o,l⟩,m⟩;exact⟨⟨f,An.2 (.inl o),l⟩,m⟩;rintro⟨⟨f,o,l⟩,m⟩;rcases An.1 o with q|q;exact⟨⟨f,q,l⟩,m⟩;rw[BC.1 q]at l;exact absurd m (hn e l.1)
 rcases h.files Z P.2 with u|⟨r,D,_⟩;obtain⟨r,hr⟩:=u.ref (a:=x);rw[hr,AD];dsimp only;rw[show((-1:Int) !=s1.1)=true by rw[hp];exact bne_iff_ne.2 o!,cond_true];exact C λe v=>absurd v.2.1 (u.2 _ v.2.2.1.wr);obtain⟨kk,hr,F⟩:=D.refE h.vb.1;rw[hr,AD];dsimp only;rw[hp];refine AL (λa9=>C λe v hk=>a9 ?_) (λT=>?_);have e1:=rG v.2.2.1 D.2.2.1 (v.2.1.symm.trans D.2.1);rw[e1]at hk;rw[h.vb.1.inj F hk];have T:kk=k:=o!
 subst T;refine AA (AAb (s2:=(M.map (·.1),(M.map (·.2),i))) (v4:=(r,(kk:Int))) (by dsimp only;rw[B7];omega)) λc h7=>?_;obtain⟨Y,g2,g3,g4⟩:=h7;dsimp only at g2 g3 g4;rw[B7]at g2;have m1:(M.map (·.1)).length=M.length:=B7 _;have m2:(M.map (·.2)).length=M.length:=B7 _;refine AA (Bj (Af _) Y) λv8 h8=>?_;refine AA (Bj Y) λv9 h9=>?_;have l8:=h8.2;have l9:=h9.2;refine AA (Ac w!) λca H=>?_;have bb:=H.2.1;simp only[BX]at bb;refine AA (Ac w!) λcb I=>?_;have bl:=I.2.1;simp only[BX,Bd]at bl;refine AA (Ac o!) λbz ax=>?_;refine AA (Bj (Af _) Y) λbG J=>?_;have b9:=J.2;refine AA (AI i1 hc) λd a0=>?_;have ao:d=Z:=by have:=a0.1;rw[P.1]at this;exact(BP this).symm
 subst ao;refine AA (Bj Y) λbN K=>?_;have b':=K.2;refine AA (Ac w!) λcc N=>?_;have bm:=N.2.1;simp only[BX]at bm;refine AA (Ac w!) λcd O=>?_;have bt:=O.2.1;simp only[BX,Bd]at bt;refine AA (Ac o!) λb0 a7=>?_;have z: ∀{β:Type} (g:NE->β) (a b:List β),a=List.take (c.toNat-Int.toNat 0) (List.drop (Int.toNat 0) (M.map g))->b=List.take (((M.map g).length:Int).toNat-c.toNat) (List.drop c.toNat (M.map g))->a=(M.take c.toNat).map g/\b=(M.drop c.toNat).map g:=λg a b t u=>by refine⟨?_,?_⟩;rw[t,List.map_take];rfl;rw[u,ka];exact BR (by rw[FY];omega)
 obtain⟨e8,e9⟩:=z (·.1) v8 v9 h8.1 h9.1;obtain⟨al,ap⟩:=z (·.2) bG bN J.1 K.1;have ad:bz=(M.take c.toNat++(r,d.2.1)::M.drop c.toNat).map (·.1):=by rw[ax.1,I.1,H.1,e8,e9];simp
 have ar:b0=(M.take c.toNat++(r,d.2.1)::M.drop c.toNat).map (·.2):=by rw[a7.1,O.1,N.1,al,ap];simp
 have y:=Pb h.vb.1 P.2 D;have U: ∀a∈M,a∈D5 x/\a.1.2.2.1=r.2.2.1/\a≠(r,d.2.1):=λa t=>by
  obtain⟨⟨f,o,l,m⟩,G⟩:=(X a).1 t;refine⟨(AAL h a).2 ⟨f,FA o,l,m⟩,?_,λv=>?_⟩;rw[F]at G;exact(BP G).symm;obtain⟨j,p⟩:=De o;have E:=Cy p;rw[BQ]at E;rw[JS o!,As o!]at p;have Q:=P.1;rw[As o!]at Q;have:=HH.1 (uC h.vb) j i.toNat o! o! o!
  rw[BP p,BP Q]at this;rw[v]at m;dsimp only at m;omega
 have S: ∀a∈M.take c.toNat,Beh a (r,d.2.1):=λa t=>by
  have a8:=FA t;obtain⟨q1,q2,q3⟩:=U a a8;have ra:=ol h q1;have rr:=ol h y;obtain⟨j,p⟩:=De t;have E:=Cy p;rw[BQ]at E;rw[JS o!]at p;have n:M[c.toNat-1]? =some (M[c.toNat-1]' o!):=As o!;have V:(M[c.toNat-1]' o!).1.1<=r.1:=g4 o! _ (by rw[CM,n];rfl);have b8:a.1.1<=r.1:=by by_cases v:j=c.toNat-1;rw[v,n]at p;rw[<-BP p];exact V;have:=HH.1 W j (c.toNat-1) o! o! o!;rw[As o!]at p;rw[BP p]at this;unfold Beh at this;omega
  rcases h.dis a q1 _ y q3 q2 with w|w;exact w;dsimp only at w rr;omega
 have R: ∀b∈M.drop c.toNat,Beh (r,d.2.1) b:=λb u=>by obtain⟨q1,q2,q3⟩:=U b (OV u);have rb:=ol h q1;have rr:=ol h y;have V:=g3 b.1 (by rw[<-ka];exact VQ u);rcases h.dis _ y b q1 (Oa q3) q2.symm with w|w;exact w;dsimp only at w rr;omega
 rw[ad,ar];refine Ap.next ⟨d!,d!,_,rfl,rfl,by simp only[Aa,Bd,BQ,FY];omega,?_,λe=>?_⟩ d!
 rw[<-D1 c.toNat M]at W;obtain⟨p1,p2,p3⟩:=List.pairwise_append.1 W;refine List.pairwise_append.2 ⟨p1,List.pairwise_cons.2 ⟨R,p2⟩,λa t b u=>?_⟩;rcases Au.1 u with q|q;rw[q];exact S a t;exact p3 a t b q;dsimp only;rw[et];have a':e∈M.take c.toNat++(r,d.2.1)::M.drop c.toNat↔e∈M\/e=(r,d.2.1):=by
  conv=>rhs;rw[<-D1 c.toNat M]
  simp only[An,Au];constructor;rintro(q|q|q);exact .inl (.inl q);exact .inr q;exact .inl (.inr q);rintro((q|q)|q);exact .inl q;exact .inr (.inr q);exact .inr (.inl q)
 rw[a',X e];constructor;rintro(⟨⟨f,o,l⟩,m⟩|q);exact⟨⟨f,An.2 (.inl o),l⟩,m⟩;rw[q];exact⟨⟨d,An.2 (.inr (BC.2 rfl)),D,rfl⟩,F⟩;rintro⟨⟨f,o,l,G⟩,m⟩;rcases An.1 o with q|q;exact .inl ⟨⟨f,q,l,G⟩,m⟩;rw[BC.1 q]at l G;have e1:=rG l.2.2.1 D.2.2.1 (l.2.1.symm.trans D.2.1);exact .inr (DO e1 G)
def AAc{M:List NE}{t:List AS×List Int×List Bool}(m:M.Pairwise Beh)(o: ∀e∈M,1<=e.1.1/\e.1.1<=e.1.2.1)(y:M.length<=256)(A:t.1.length<=100000)(B:t.2.1.length<=100000)(C:t.2.2.length<=100000):Ap (Ai (En (M.map (·.1),M.map (·.2))) (0,(0,t))) λr=>r=(t.1++M.map (·.1),(t.2.1++M.map (·.2),t.2.2++M.map λ_=>true)):=by
 have z:(M.map (·.1)).length=M.length:=B7 _;refine Cu (λ(s:Int×Int×List AS×List Int×List Bool)=> ∃k:Nat,s.2.1=k/\k<=M.length/\s.2.2=(t.1++(M.take k).map (·.1),(t.2.1++(M.take k).map (·.2),t.2.2++(M.take k).map λ_=>true))/\((k=0/\s.1=0)\/ ∃e,0<k/\M[k-1]? =some e/\s.1=e.1.2.1)) (λs=>((M.length:Int)-s.2.1).toNat) ⟨0,rfl,Bk _,q!,.inl ⟨rfl,rfl⟩⟩ ?_;rintro⟨l,_,T⟩ ⟨k,rfl,k1,rfl,j⟩;dsimp only at j;unfold En;dsimp only[len];rw[AY (x:=(k:Int)+1)];refine AC (λn=>?_) (λn=>Ap.done (by rw[BR o!]));have a:k<M.length:=o!
 have h:ix (M.map (·.1)) (k:Int)=some M[k].1:=by unfold ix;rw[if_pos o!,Int.toNat_natCast,List.getElem?_map,List.getElem?_eq_getElem a];rfl
 have i:ix (M.map (·.2)) (k:Int)=some M[k].2:=by unfold ix;rw[if_pos o!,Int.toNat_natCast,List.getElem?_map,List.getElem?_eq_getElem a];rfl
 have p:=o _ (Qv a);have b:l<M[k].1.1:=by rcases j with⟨_,q⟩|⟨e,q0,q1,q2⟩;omega;have:=HH.1 m (k-1) k o! a o!;rw[As o!]at q1;rw[BP q1]at this;unfold Beh at this;omega
 have g:M.take (k+1)=M.take k++[M[k]]:=by rw[Cv,As a];rfl
 have l1:=dI k M;rw[h,AD,decide_eq_false o!,cond_false,AD,i,AD,AD];rw[show FN (M[k].1,l)=some M[k].1 by unfold FN;rw[decide_eq_true (by exact b)];rfl,Option.bind_some];refine AA (Ac w!) λu c=>?_;refine AA (Ac w!) λv d=>?_;refine AA (Ac w!) λw f=>?_;rw[AD];refine Ap.next ⟨k+1,rfl,a,?_,.inr ⟨M[k],o!,As a,rfl⟩⟩ d!
 dsimp only;rw[c.1,d.1,f.1,g,decide_eq_true (by exact b)];simp only[Jm,Bi,HF,Ax]
def ADw{x:AJ}{L:List EN}(h:AR L x):Ap (F6 x) λr=> ∃W:List NE,r=(W.map (·.1),(W.map (·.2),W.map λ_=>true))/\W.Pairwise Lt/\ ∀e,e∈W↔e∈D5 x:=by
 obtain⟨⟨E,F,G,H,I,J,K⟩,a1,a2,a3,a4,a5,a6⟩:=h.vb;unfold F6;refine AA Vp λQ A=>AO (λt=>absurd (A.2 h.vb) (by simp[t])) (λ_=>?_);refine AA (P:=λr=> ∃W:List NE,r=(W.map (·.1),(W.map (·.2),W.map λ_=>true))/\W.Pairwise Lt/\ ∀e,e∈W↔e∈D5 x) ?_ λr hr=>AB hr;refine Cu (λ(s:Int×List AS×List Int×List Bool)=> ∃(i:Nat) (W:List NE),s.1=i/\i<=x.1.length/\s.2=(W.map (·.1),(W.map (·.2),W.map λ_=>true))/\W.length<=256*i/\W.Pairwise Lt/\ ∀e,e∈W↔e∈D5 x/\ ∃k:Nat,k<i/\x.1[k]? =some e.1.2.2.1) (λs=>((x.1.length:Int)-s.1).toNat) ⟨0,[],rfl,Bk _,rfl,q!,List.Pairwise.nil,λe=>q!⟩ ?_;rintro⟨_,_⟩ ⟨i,W,rfl,N,rfl,O,y,v⟩;unfold NA;dsimp only[len];rw[AY (x:=(i:Int)+1)];refine AC (λt=>?_) (λt=>Ap.done ⟨W,rfl,y,λe=>?_⟩)
 ·refine AA (AAa h rfl) λC l=>?_;obtain⟨M,rfl,B,z,j⟩:=l;refine AA (AAc z (λe u=>ol h ((j e).1 u).1) B (by rw[B7];omega) (by rw[B7];omega) (by rw[B7];omega)) λD m=>?_;refine Ap.next ⟨i+1,W++M,rfl,o!,by rw[m];simp,by rw[Aa];omega,List.pairwise_append.2 ⟨y,?_,λa n b p=>?_⟩,λe=>?_⟩ d!
  refine nT ?_ z;intro a b n p o;have w:=((j a).1 n).2;rw[((j b).1 p).2]at w;exact .inr ⟨(BP w).symm,o⟩;obtain⟨_,k,k1,c⟩:=(v a).1 n;obtain⟨d,rfl⟩: ∃d,i=k+1+d:=⟨i-(k+1),o!⟩
  exact .inl (h.vb.1.lt d k _ _ c ((j b).1 p).2);rw[An,v e,j e];constructor;rintro(⟨q,k,k1,c⟩|⟨q1,q2⟩);exact⟨q,k,o!,c⟩;exact⟨q1,i,o!,q2⟩;rintro⟨q,k,k1,c⟩;by_cases u:k=i;rw[u]at c;exact .inr ⟨q,c⟩;exact .inl ⟨q,k,o!,c⟩
 rw[v e];refine⟨λq=>q.1,λq=>⟨q,?_⟩⟩;obtain⟨f,_,g,_⟩:=h.mem q;obtain⟨k,k1,_⟩:=g.2.2.2;have:=Cy k1;exact⟨k,o!,k1⟩
def AFq{x:AJ}{L:List EN}(h:AR L x):Ap (Qk x) λr=> ∃W:List NE,r=(W.map (·.1),W.map (·.2))/\W.Pairwise Lt/\W.length<=256/\ ∀e,e∈W↔e∈D5 x:=by refine AA (ADw h) λr hr=>?_;obtain⟨W,rfl,i,g⟩:=hr;refine AB ⟨W,rfl,i,?_,g⟩;have f:W.Nodup:=Kf.2 (i.imp_of_mem λ{a b} j k c d=>by subst d;have:=ol h ((g a).1 j);rcases c with q|⟨_,q⟩;omega;unfold Beh at q;omega);have q1:=fk W (D5 x) f λe d=>(g e).1 d;have q2:(D5 x).length<=x.2.2.1.length:=List.length_filterMap_le _ _;have:=h.vb.2.2.2.2.2.1;omega
def Src(L:List EN)(p:Int)(rs:List AS):Prop:=rs.length<=256/\ ∀r∈rs,VR r/\af L r/\r.2.2.1<=p/\p<=r.2.2.2.1
def AEt{a:AJ}{l:Ae}{p i j:Int}:Ap (Pn (a,(l,(p,(i,j))))) λr=>r=0->0<=p/\p<a.2.1/\0<=i/\i<=j:=by refine AA Jl λk g=>AO (λ_=>AB n!) (λ_=>AA Bg λm h=>AO (λ_=>AB n!) (λ_=>?_));refine AC (λ_=>AB n!) (λc=>AC (λ_=>AB n!) (λd=>AC (λ_=>AB n!) (λe=>AC (λ_=>AB n!) (λf=>AB λ_=>?_))));dsimp only at c d e f;omega
def AFn{a:AJ}{p:Int}(h:VB a)(u:0<=p/\p<a.2.1):Ap (Qj (a,p)) λr=> ∃k:Nat,a.1[k]? =some r.1/\r.1<=p/\p<=oM a k:=by
 have n:=h.1.2.2.2.1;have y:=h.1.2.2.1;refine AA Vp λB l=>AO (λc=>absurd (l.2 h) (by simp[c])) (λ_=>?_);dsimp only;rw[decide_eq_false o!,cond_false,decide_eq_false o!,cond_false];refine AA (P:=λk:Int=> ∃m:Nat,k=m/\ ∃b,a.1[m]? =some b/\b<=p/\p<=oM a m) ?_ λk t=>?_
 ·refine Cu (λ(s:Int)=>0<=s/\s<a.1.length/\ ∃b,a.1[s.toNat]? =some b/\b<=p) (λs=>((a.1.length:Int)-s).toNat) ⟨Af _,o!,0,h.1.2.2.2.2.1,u.1⟩ (λs o=>?_);obtain⟨z,A,b,f,g⟩:=o;unfold Te;dsimp only[len];rw[AY];refine AC (λc=>AA (AI o! c) λv e=>?_) (λc=>Ap.done ⟨s.toNat,o!,b,f,g,?_⟩)
  ·have j:(s+1).toNat=s.toNat+1:=o!
   refine AC (λd=>Ap.next ⟨o!,o!,v,e.1,d⟩ o!) (λq=>Ap.done ⟨s.toNat,o!,b,f,g,?_⟩);rw[j]at e;unfold oM;rw[e.1];dsimp only;omega
  unfold oM;rw[Cj o!];dsimp only;omega
 obtain⟨m,rfl,b,i,w,x⟩:=t;rw[lu h.1 i,AD];exact AB ⟨m,i,w,x⟩
def ADQ{L:List EN}{a:AJ}{l:Ae}{p:Int}(h:AR L a)(I:0<=p/\p<a.2.1):Ap (NC (a,(l,p))) λr=> ∃(M:List NE) (z H:Int),Xd a p z H/\r=(M.map (·.1),(M.map (·.2),l))/\M.Pairwise Beh/\(∀e,e∈M↔e∈D5 a/\e.1.2.2.1=z)/\Src L p (M.map (·.1)):=by
 refine AA (AFn h.vb I) λd C=>AA (AFq h) λY D=>?_;obtain⟨k,k1,v,w⟩:=C;dsimp only at k1 v w;obtain⟨W,rfl,O,Q,A⟩:=D;have U:(W.map (·.1)).length=W.length:=B7 _;refine AA (P:=λr=>r=((W.filter λe=>e.1.2.2.1==d.1).map (·.1),((W.filter λe=>e.1.2.2.1==d.1).map (·.2),l))) ?_ λr hr=>AB ⟨W.filter λe=>e.1.2.2.1==d.1,d.1,oM a k,⟨k,k1,rfl,v,w⟩,hr,?_,?_,?_⟩
 ·refine Cu (λ(s:Int×List AS×List Int×Ae)=> ∃k:Nat,s.1=k/\k<=W.length/\s.2=(((W.take k).filter λe=>e.1.2.2.1==d.1).map (·.1),(((W.take k).filter λe=>e.1.2.2.1==d.1).map (·.2),l))) (λs=>((W.length:Int)-s.1).toNat) ⟨0,rfl,Bk _,rfl⟩ ?_;rintro⟨_,_⟩ ⟨k,rfl,T,rfl⟩;unfold P7;dsimp only[len];rw[AY (x:=(k:Int)+1)];refine AC (λG=>?_) (λG=>Ap.done (by rw[BR o!]));have c:k<W.length:=o!
  have o:ix (W.map (·.1)) (k:Int)=some W[k].1:=by unfold ix;rw[if_pos o!,Int.toNat_natCast,List.getElem?_map,List.getElem?_eq_getElem c];rfl
  have t:ix (W.map (·.2)) (k:Int)=some W[k].2:=by unfold ix;rw[if_pos o!,Int.toNat_natCast,List.getElem?_map,List.getElem?_eq_getElem c];rfl
  have j:W.take (k+1)=W.take k++[W[k]]:=by rw[Cv,As c];rfl
  have V:=Fy (λe:NE=>e.1.2.2.1==d.1) (W.take k);have X:=dI k W;rw[o,AD];refine AA (P:=λr=>r=(((W.take (k+1)).filter λe=>e.1.2.2.1==d.1).map (·.1),(((W.take (k+1)).filter λe=>e.1.2.2.1==d.1).map (·.2),l))) (AP (λm=>?_) (λn=>AB ?_)) λr hr=>Ap.next ⟨k+1,rfl,c,hr⟩ d!
  rw[AD,t,AD];refine AA (Ac w!) λZ E=>AA (Ac w!) λv7 F=>AB ?_;rw[E.1,F.1,j,GU,PW,if_pos (beq_iff_eq.2 m)];simp;rw[j,GU,PW,if_neg (by simpa using n)];simp
 apply (O.filter _).imp_of_mem;intro x y K N u;have R:=eq_of_beq (BV.1 K).2;have S:=eq_of_beq (BV.1 N).2;rcases u with q|⟨_,q⟩;omega;exact q;intro e;rw[BV,A e,beq_iff_eq];refine⟨by rw[B7];exact Dc (Fy _ _) Q,λq J=>?_⟩;obtain⟨e,m,rfl⟩:=Bv.1 J;obtain⟨q1,q2⟩:=BV.1 m;obtain⟨f,_,g,_,B,_⟩:=h.mem ((A e).1 q1);have i:=eq_of_beq q2;have b:=g.2.2.2;rw[i]at b;have:=b.uniq h.vb.1 ⟨k,k1,rfl⟩;exact⟨g.2.2.1,B,o!⟩
def iJ(rs:List AS)(l:Ae)(m:Int):Prop:=(∃r∈rs,r.1<=m/\m<=r.2.1)\/(l.1<=m/\m<=l.1+l.2.1.length-1)
def zz{l:Ae}{m:Int}(h:Dj l):Ih (l,m)=some (decide (l.1<=m/\m<=l.1+l.2.1.length-1)):=by have a:=h.1;have b:=h.2.1;have d:=h.2.2.1;unfold Ih;dsimp only[len];rw[AY];by_cases c:l.1<=m;rw[decide_eq_true (show m>=l.1 from c),cond_true];exact congrArg some (decide_eq_decide.2 ⟨λ_=>⟨c,o!⟩,λ_=>o!⟩);rw[decide_eq_false (show¬m>=l.1 from c),cond_false,decide_eq_false (λq=>c q.1)]
def AGH{L:List EN}{p m:Int}{a:List AS}{G:List Int}{l:Ae}(h:Src L p a)(B:Dj l)(hm:0<=m/\m<=2199023255552):Ap (Qn ((a,(G,l)),m)) λv=>m-1<=v/\v<=2199023255552/\(∀q,m<=q->q<=v->iJ a l q)/\(v=m-1-> ¬iJ a l m):=by
 have Y:=B.1;have Z:=B.2.1;have h3:=B.2.2.1;refine AA (P:=λv=>m-1<=v/\v<=2199023255552/\(∀q,m<=q->q<=v->iJ a l q)/\ ∀r∈a,r.1<=m->m<=r.2.1->m<=v) ?_ λv5 O=>?_
 ·refine Cu (λ(s:Int×Int)=>0<=s.2/\s.2<=a.length/\m-1<=s.1/\s.1<=2199023255552/\(∀q,m<=q->q<=s.1->iJ a l q)/\ ∀r∈a.take s.2.toNat,r.1<=m->m<=r.2.1->m<=s.1) (λs=>((a.length:Int)-s.2).toNat) ⟨Af _,d!,by dsimp only;rw[AY];omega,by dsimp only;rw[AY];omega,λq q1 q2=>by dsimp only at q2;rw[AY]at q2;omega,λr hr=>by simp at hr⟩ ?_;rintro⟨b,k⟩ ⟨D,T,j,n,o,E⟩;dsimp only at D T j n o E;have S:=h.1;unfold Ti;dsimp only[len];refine AC (λA=>?_) (λA=>Ap.done ⟨j,n,o,by rw[BR o!]at E;exact E⟩);rw[AY (x:=k+1)];refine AA (AI D A) λt c=>?_;have N:a.take (k+1).toNat=a.take k.toNat++[t]:=by rw[show(k+1).toNat=k.toNat+1 by omega,Cv,c.1];rfl
  have hr:=(h.2 t c.2).1.1;have keep: ∀u,b<=u->(t.1<=m->m<=t.2.1->m<=u)-> ∀r∈a.take (k+1).toNat,r.1<=m->m<=r.2.1->m<=u:=λu hb C r g q1 q2=>by rw[N]at g;rcases An.1 g with w|w;have:=E r w q1 q2;omega;rw[BC.1 w]at q1 q2;exact C q1 q2
  refine AC (λR=>?_) (λF=>Ap.next ⟨d!,d!,j,n,o,keep b (Af _) λq=>absurd q F⟩ d!);refine AA (AI D A) λH y=>?_;have K:H=t:=by have:=y.1;rw[c.1]at this;exact(BP this).symm
  subst K;refine AA (P:=λv=>m-1<=v/\v<=2199023255552/\(∀q,m<=q->q<=v->iJ a l q)/\b<=v/\(m<=H.2.1->m<=v)) ?_ λX d=>Ap.next ⟨d!,d!,d.1,d.2.1,d.2.2.1,keep X d.2.2.2.1 λ_=>d.2.2.2.2⟩ d!
  refine AC (λi=>AA (AI D A) λJ z=>AB ?_) (λi=>AB ⟨j,n,o,Af _,λq=>absurd q i⟩);have M:J=H:=by have:=z.1;rw[c.1]at this;exact(BP this).symm
  subst M;have I:=hr.2.2.1;split;exact⟨o!,o!,λq q1 q2=>.inl ⟨J,c.2,o!,q2⟩,o!,id⟩;exact⟨j,n,o,Af _,λq=>o!⟩
 rw[zz B,AD];dsimp only[len];obtain⟨c,y,z,d⟩:=O;refine AA (P:=λv=>m-1<=v/\v<=2199023255552/\(∀q,m<=q->q<=v->iJ a l q)/\(v=m-1-> ¬iJ a l m)) ?_ λv7 Q=>AB Q;refine AC (λf=>AB ?_) (λf=>AB ⟨c,y,z,λC e=>?_⟩);rw[AY (x:=l.1+l.2.1.length),AY];split;exact⟨o!,o!,λq q1 q2=>.inr o!,λC=>o!⟩;exact⟨c,y,z,λC=>o!⟩;rcases e with⟨r,U,V,W⟩|e;have:=d r U V W;omega;exact f e
def AAp{L:List EN}{p i j:Int}{a:List AS}{f:List Int}{l:Ae}(h:Src L p a)(o:Dj l)(w:0<=i)(x:j<=1099511627776)(n:i<=j):Ap (OA ((a,(f,l)),(i,j))) λb=>b=true↔ ∀q,i<q->q<=j->iJ a l q:=by
 refine AA (P:=λr=>(r= .inl false/\ ∃q,i<q/\q<=j/\ ¬iJ a l q)\/(r= .inr ()/\ ∀q,i<q->q<=j->iJ a l q)) ?_ λr hr=>?_
 ·refine Cu (λ(s:Int)=>i<=s/\s<=2199023255552/\ ∀q,i<q->q<=s->iJ a l q) (λs=>(j-s).toNat) ⟨Af _,d!,λq q1 q2=>by dsimp only at q2;omega⟩ (λs k=>?_);obtain⟨y,z,g⟩:=k;unfold Qm;dsimp only;refine AC (λm=>?_) (λm=>Ap.done (.inr ⟨rfl,λq q1 q2=>g q q1 o!⟩));rw[AY];refine AA (AGH h o o!) λv d=>AP (λu=>Ap.done (.inl ⟨rfl,s+1,o!,o!,d.2.2.2 o!⟩)) (λt=>Ap.next ⟨o!,d.2.1,λq q1 q2=>?_⟩ o!);by_cases c:q<=s;exact g q q1 c;exact d.2.2.1 q o! q2
 rcases hr with⟨rfl,q,q1,q2,q3⟩|⟨rfl,c⟩;exact BK (AB ⟨λe=>(by cases e),λe=>absurd (e q q1 q2) q3⟩);exact A7 (AB ⟨λ_=>c,λ_=>rfl⟩)
def ADL{r:AS}{p:Int}(h:VR r):Ap (O3 (r,p)) λv=>v=r.2.2.2.2.2.filter λe=>e.2.2.2.2.2.2.1.1==p:=by
 have x:=h.1.2.2.2.2.2.2.2.2;refine AA XJ λy m=>AO (λa=>absurd (m.2 h) (by simp[a])) (λ_=>?_);refine AA (P:=λv=>v=r.2.2.2.2.2.filter λe=>e.2.2.2.2.2.2.1.1==p) ?_ λv i=>AB i;refine Cu (λ(s:Int×List EN)=>0<=s.1/\s.1<=r.2.2.2.2.2.length/\s.2=(r.2.2.2.2.2.take s.1.toNat).filter λe=>e.2.2.2.2.2.2.1.1==p) (λs=>((r.2.2.2.2.2.length:Int)-s.1).toNat) ⟨Af _,d!,q!⟩ ?_;rintro⟨s,A⟩ ⟨c,t,d⟩;dsimp only at c t d;unfold RW;dsimp only[len];refine AC (λa=>?_) (λa=>Ap.done (by rw[d,BR o!]));refine AA (AI c a) λu j=>?_;have b:=je (p:=λe:EN=>e.2.2.2.2.2.2.1.1==p) c j.1;have f:=mX (l:=r.2.2.2.2.2) (p:=λe:EN=>e.2.2.2.2.2.2.1.1==p) c;rw[<-d]at f;rw[AY];refine AA (P:=λv=>v=(r.2.2.2.2.2.take (s+1).toNat).filter λe=>e.2.2.2.2.2.2.1.1==p) ?_ λv i=>Ap.next ⟨d!,d!,i⟩ d!
 refine AP (λq=>AA (AI c a) λw n=>AA (Ac w!) λz o=>AB ?_) (λg=>AB ?_);have k:w=u:=by have:=n.1;rw[j.1]at this;exact(BP this).symm
 rw[o.1,d,b,k,if_pos (beq_iff_eq.2 q)];rw[d,b,if_neg (by simpa using g),C0]
def yH{L:List EN}{p i j:Int}{c:List AS}(V:Uq L)(h:Src L p c):Ap (NB (c,(p,(i,j)))) λr=>r.length<=1048576/\ ∀y,y∈r↔ ∃q∈c,y∈q.2.2.2.2.2/\y.2.2.2.2.2.2.1.1=p/\i<y.1/\y.1<=j:=by
 have W:=h.1;refine AA (P:=λr=>r.length<=1048576/\ ∀y,y∈r↔ ∃q∈c,y∈q.2.2.2.2.2/\y.2.2.2.2.2.2.1.1=p/\i<y.1/\y.1<=j) ?_ λr hr=>AB hr;refine Cu (λ(s:List EN×Int)=>0<=s.2/\s.2<=c.length/\s.1.length<=4096*s.2/\ ∀y,y∈s.1↔ ∃q∈c.take s.2.toNat,y∈q.2.2.2.2.2/\y.2.2.2.2.2.2.1.1=p/\i<y.1/\y.1<=j) (λs=>((c.length:Int)-s.2).toNat) ⟨Af _,d!,q!,λy=>q!⟩ ?_;rintro⟨A,k⟩ ⟨M,X,Y,t⟩;dsimp only at M X Y t;unfold P5;dsimp only[len];refine AC (λK=>?_) (λK=>Ap.done ⟨o!,λy=>by rw[t y,BR o!]⟩);refine AA (AI M K) λv I=>?_;obtain⟨H,S,g3,g4⟩:=h.2 v I.2;have hl:=H.1.2.2.2.2.2.2.2.2;refine AA (ADL H) λa C=>?_;have G:=Fy (λe:EN=>e.2.2.2.2.2.2.1.1==p) v.2.2.2.2.2;rw[<-C]at G;have D: ∀y∈A,y∈L:=λy f=>by obtain⟨q,q1,q2,_⟩:=(t y).1 f;exact(((h.2 q (FA q1)).2.1.mem y).1 q2).1
 have g: ∀y∈a,y∈L:=λy f=>by rw[C]at f;exact((S.mem y).1 (BV.1 f).1).1
 refine AA (P:=λr=>r.length<=A.length+a.length/\ ∀y,y∈r↔y∈A\/(y∈a/\i<y.1/\y.1<=j)) ?_ λr hr=>?_
 ·refine Cu (λ(s:List EN×Int)=>0<=s.2/\s.2<=a.length/\s.1.length<=A.length+s.2/\ ∀y,y∈s.1↔y∈A\/(y∈a.take s.2.toNat/\i<y.1/\y.1<=j)) (λs=>((a.length:Int)-s.2).toNat) ⟨Af _,d!,d!,λy=>q!⟩ ?_;rintro⟨B,m⟩ ⟨u,Z,j2,l⟩;dsimp only at u Z j2 l;unfold P6;dsimp only[len];refine AC (λb=>?_) (λb=>Ap.done ⟨o!,λy=>by rw[l y,BR o!]⟩);refine AA (AI u b) λz o=>?_;rw[AY (x:=m+1)];have n:a.take (m+1).toNat=a.take m.toNat++[z]:=by rw[show(m+1).toNat=m.toNat+1 by omega,Cv,o.1];rfl
  have d: ¬(i<z.1/\z.1<=j)-> ∀y,y∈B↔y∈A\/(y∈a.take (m+1).toNat/\i<y.1/\y.1<=j):=λhn y=>by rw[l y,n,An,BC];constructor;rintro(q|⟨q1,q2⟩);exact .inl q;exact .inr ⟨.inl q1,q2⟩;rintro(q|⟨q1|q1,q2⟩);exact .inl q;exact .inr ⟨q1,q2⟩;rw[q1]at q2;exact absurd q2 hn
  refine AC (λE=>?_) (λE=>Ap.next ⟨d!,d!,d!,d λq=>o!⟩ d!);refine AA (AI u b) λN T=>?_;have Q:N=z:=by have:=T.1;rw[o.1]at this;exact(BP this).symm
  subst Q;refine AA (P:=λr=>r.length<=B.length+1/\ ∀y,y∈r↔y∈A\/(y∈a.take (m+1).toNat/\i<y.1/\y.1<=j)) ?_ λr hr=>Ap.next ⟨d!,d!,by have:=hr.1;dsimp only;omega,hr.2⟩ d!
  refine AC (λF=>?_) (λF=>AB ⟨o!,d λq=>o!⟩);refine AA (AI u b) λO U=>?_;have R:O=N:=by have:=U.1;rw[o.1]at this;exact(BP this).symm
  subst R;refine AA (ln V (λy f=>?_) (g O o.2) o!) λv7 J=>AB ⟨J.1,λy=>?_⟩;rcases(l y).1 f with q|q;exact D y q;exact g y (FA q.1);rw[J.2 y,l y,n,An,BC];constructor;rintro((q|⟨q1,q2⟩)|q);exact .inl q;exact .inr ⟨.inl q1,q2⟩;exact .inr ⟨.inr q,by rw[q];omega⟩;rintro(q|⟨q1|q1,q2⟩);exact .inl (.inl q);exact .inl (.inr ⟨q1,q2⟩);exact .inr q1
 ·rw[AY];refine Ap.next ⟨d!,d!,by have:=hr.1;dsimp only;omega,λy=>?_⟩ d!
  dsimp only;have n:c.take (k+1).toNat=c.take k.toNat++[v]:=by rw[show(k+1).toNat=k.toNat+1 by omega,Cv,I.1];rfl
  rw[hr.2 y,t y,n,C,BV,beq_iff_eq];constructor;rintro(⟨q,q1,q2⟩|⟨⟨q1,q2⟩,q3⟩);exact⟨q,HG _ q1,q2⟩;exact⟨v,OT _ (BC.2 rfl),q1,q2,q3⟩;rintro⟨q,q1,q2,q3,q4⟩;rcases An.1 q1 with w|w;exact .inl ⟨q,w,q2,q3,q4⟩;rw[BC.1 w]at q2;exact .inr ⟨⟨q2,q3⟩,q4⟩
def ACf{l:Ae}{p i j:Int}(h:Dj l):Ap (O5 (l,(p,(i,j)))) λr=>r=l.2.1.filter (Ka p i j):=by
 have z:=h.2.2.1;refine AA (P:=λr=>r=l.2.1.filter (Ka p i j)) ?_ λr hr=>AB hr;refine Cu (λ(q:Int×List EN)=>0<=q.1/\q.1<=l.2.1.length/\q.2=(l.2.1.take q.1.toNat).filter (Ka p i j)) (λq=>((l.2.1.length:Int)-q.1).toNat) ⟨Af _,d!,q!⟩ (λq w=>?_);obtain⟨q1,q2,q3⟩:=w;unfold Ra;dsimp only[len];refine AC (λu=>?_) (λu=>Ap.done (by rw[q3,BR o!]));refine AA (AI q1 u) λf v=>?_;have e:=je (p:=Ka p i j) q1 v.1;have s:=mX (l:=l.2.1) (p:=Ka p i j) q1;rw[<-q3]at s;rw[AY (x:=q.1+1)];have t:Ka p i j f=false->Ap (some (Step.next (q.1+1,q.2)):Option (Step (Int×List EN) (List EN))) (LW (λ(q:Int×List EN)=>0<=q.1/\q.1<=l.2.1.length/\q.2=(l.2.1.take q.1.toNat).filter (Ka p i j)) (λq=>((l.2.1.length:Int)-q.1).toNat) ((l.2.1.length:Int)-q.1).toNat λr=>r=l.2.1.filter (Ka p i j)):=λm=>Ap.next ⟨d!,d!,by dsimp only;rw[e,m,q3];simp⟩ d!
 refine AA CL λn g=>?_;have k:gR f=n:=by
  unfold gR;cases n with
  |true=>rcases g.1 rfl with q|q<;>simp[q]
  |false=>
   have: ¬(f.2.1=1\/f.2.1=2):=λq=>by have:=g.2 q;cases this
   simp only[not_or]at this;simp[this.1,this.2]
 refine AK (λa=>?_) (λa=>t (by unfold Ka;rw[k,a];rfl));refine AP (λd=>?_) (λd=>t (by unfold Ka;rw[beq_eq_false_iff_ne.2 d];simp));refine AC (λb=>?_) (λb=>t (by unfold Ka;rw[decide_eq_false b];simp));refine AA (P:=λr=>r=(l.2.1.take (q.1+1).toNat).filter (Ka p i j)) ?_ λy o=>Ap.next ⟨d!,d!,o⟩ d!
 refine AC (λc=>?_) (λc=>AB ?_);refine AA (Ac w!) λr hr=>AB ?_;have m:Ka p i j f=true:=by unfold Ka;rw[k,a,beq_iff_eq.2 d,decide_eq_true b,decide_eq_true c];rfl
 rw[hr.1,e,m,q3];simp;have m:Ka p i j f=false:=by unfold Ka;rw[decide_eq_false c];simp
 rw[e,m,q3];simp
def ACW{a:List AS}{m:Int}(h:a.length<=256):Ap (O4 (a,m)) λ_=>True:=by refine AA (P:=λ_=>True) ?_ λr _=>BB (λu _=>AB trivial) (λu _=>AB trivial);refine Cu (λ(s:Int)=>0<=s/\s<=a.length) (λs=>((a.length:Int)-s).toNat) ⟨Af _,o!⟩ (λs d=>?_);obtain⟨c,e⟩:=d;unfold RZ;dsimp only[len];refine AC (λb=>?_) (λ_=>Ap.done trivial);rw[AY];refine AA (AI c b) λf _=>AC (λ_=>AA (AI c b) λg _=>AC (λ_=>Ap.done trivial) (λ_=>Ap.next o! o!)) (λ_=>Ap.next o! o!)
def AFN{l:List EN}{e:EN}(h:l.length<=16777216):Ap (NU (l,e)) λ_=>True:=by refine AA (P:=λ_=>True) ?_ λr _=>BB (λu _=>AB trivial) (λu _=>AB trivial);refine Cu (λ(s:Int)=>0<=s/\s<=l.length) (λs=>((l.length:Int)-s).toNat) ⟨Af _,o!⟩ (λs a=>?_);obtain⟨c,d⟩:=a;unfold UZ;dsimp only[len];refine AC (λb=>?_) (λ_=>Ap.done trivial);rw[AY];exact AA (AI c b) λf _=>AK (λ_=>Ap.done trivial) (λ_=>Ap.next o! o!)
def ADu{L A B:List EN}{p:List AS}{l:Ae}(I:Uq L)(J:Dj l)(G: ∀y∈A,y∈L)(n: ∀y∈B,y∈L)(F:p.length<=256)(T:A.length<=1048576)(U:B.length<=4096):Ap (Pl (p,(l,(A,B)))) λr=>r.2=true->r.1.length<=1052672/\ ∀y,y∈r.1↔y∈A\/y∈B:=by
 refine AA (Ac w!) λN E=>?_;have j:=E.1;rw[Bw]at j;dsimp only at j;subst N;refine AA (P:=λr=>(∃u,r= .inl u/\u.2=false)\/ ∃C,r= .inr C/\C.length<=A.length+B.length/\ ∀y,y∈C↔y∈A\/y∈B) ?_ λr hr=>?_
 ·refine Cu (λ(s:List EN×Int)=>0<=s.2/\s.2<=B.length/\s.1.length<=A.length+s.2/\ ∀y,y∈s.1↔y∈A\/y∈B.take s.2.toNat) (λs=>((B.length:Int)-s.2).toNat) ⟨Af _,d!,d!,λy=>q!⟩ ?_;rintro⟨C,k⟩ ⟨d,o,M,h⟩;dsimp only at d o M h;unfold SS;dsimp only[len];refine AC (λb=>?_) (λb=>Ap.done (.inr ⟨C,rfl,o!,λy=>by rw[h y,BR o!]⟩));refine AA (AI d b) λt i=>AA (ACW F) λV _=>?_;rw[AY (x:=k+1)];have D:B.take (k+1).toNat=B.take k.toNat++[t]:=by rw[show(k+1).toNat=k.toNat+1 by omega,Cv,i.1];rfl
  have g: ∀a,B[k.toNat]? =some a/\a∈B->Ap (Option.bind (DB (C,a)) λv=>some (Step.next (v.1,k+1)):Option (Step (List EN×Int) ((List EN×Bool)⊕ List EN))) (LW (λ(s:List EN×Int)=>0<=s.2/\s.2<=B.length/\s.1.length<=A.length+s.2/\ ∀y,y∈s.1↔y∈A\/y∈B.take s.2.toNat) (λs=>((B.length:Int)-s.2).toNat) ((B.length:Int)-k).toNat λr=>(∃u,r= .inl u/\u.2=false)\/ ∃C,r= .inr C/\C.length<=A.length+B.length/\ ∀y,y∈C↔y∈A\/y∈B):=λa e=>by
   have z:a=t:=by have:=e.1;rw[i.1]at this;exact(BP this).symm
   subst z;refine AA (ln I (λy K=>((h y).1 K).elim (G y) λq=>n y (FA q)) (n a i.2) o!) λv m=>Ap.next ⟨d!,d!,by have:=m.1;dsimp only;omega,λy=>?_⟩ d!
   dsimp only;rw[m.2 y,h y,D,An,BC,or_assoc]
  refine AC (λ_=>AA (AI d b) λW _=>AA (AFN o!) λX _=>AO (λ_=>Ap.done (.inl ⟨_,rfl,rfl⟩)) (λ_=>AA (AI d b) λa e=>g a e)) (λ_=>AA (AI d b) λa e=>g a e)
 ·rcases hr with⟨u,rfl,c⟩|⟨C,rfl,S,w⟩;exact BK (AB λf=>by rw[c]at f;cases f)
  ·refine A7 (AA (P:=λr=> ∀u,r= .inl u->u.2=false) ?_ λr hr=>BB (λu c=>AB λf=>by rw[hr u c]at f;cases f) (λu c=>AB λ_=>⟨d!,w⟩));refine Cu (λ(s:Int)=>0<=s/\s<=A.length) (λs=>((A.length:Int)-s).toNat) ⟨Af _,o!⟩ (λs H=>?_);obtain⟨d,o⟩:=H;unfold SU;dsimp only[len];refine AC (λb=>?_) (λ_=>Ap.done λu c=>by cases c);rw[AY];refine AA (AI d b) λO _=>?_;rw[zz J,AD];exact AC (λ_=>AA (AI d b) λQ _=>AA (AFN o!) λR _=>AO (λ_=>Ap.done λu c=>by cases c;rfl) (λ_=>Ap.next o! o!)) (λ_=>Ap.next o! o!)
def AFk{L:List EN}{a:AJ}{l:Ae}{p i j:Int}(hN:ID L)(hA:AR L a)(t:Xc L l)(hj:j<=1099511627776):Ap (S0 (a,(l,(p,(i,j))))) λr=>r.2=0->r.1=L.filter (Ka p i j):=by
 have G:=t.sorted;have hU:Uq L:=λx hx y E K=>XE (by refine Kf.2 ((Sj).2 (G.imp λh=>?_));omega) hx E K;refine AA AEt λv0 h0=>AL (λH=>AB λo=>absurd o H) (λo=>?_);obtain⟨p0,p1,i0,ij⟩:=h0 o;refine AA (ADQ hA ⟨p0,p1⟩) λv1 h1=>?_;obtain⟨M,lo,hh,a0,rfl,ap,hM,z⟩:=h1;dsimp only at z;refine AA (AAp z t.vl i0 hj ij) λv2 h2=>AO (λ_=>AB n!) (λJ=>?_);have al:=h2.1 J;refine AA (yH hU z) λv3 X=>AA (ACf t.vl) λv4 Y=>?_;have Z: ∀y∈v3,y∈L:=λy E=>by obtain⟨q,q1,q2,_⟩:=(X.2 y).1 E;exact(((z.2 q q1).2.1.mem y).1 q2).1
 have ad: ∀y∈v4,y∈L:=λy E=>by rw[Y]at E;exact((t.tail y).1 (BV.1 E).1).1
 have A:v4.length<=4096:=by rw[Y];exact Dc (Fy _ _) t.vl.2.2.1
 refine AA (ADu hU t.vl Z ad z.1 X.1 A) λc h5=>AO (λ_=>AB n!) (λht=>?_);obtain⟨u1,u2⟩:=h5 ht;have w: ∀y,y∈c.1↔y∈L.filter (Ka p i j):=λy=>by rw[u2 y,X.2 y,Y,BV,BV];constructor;rintro(⟨q,q1,q2,q3,q4,q5⟩|⟨q1,q2⟩);have:=((z.2 q q1).2.1.mem y).1 q2;refine⟨this.1,?_⟩;unfold Ka;rw[this.2.1,beq_iff_eq.2 q3,decide_eq_true (show y.1>i from q4),decide_eq_true q5];rfl;exact⟨((t.tail y).1 q1).1,q2⟩;rintro⟨q1,q2⟩;have hw:=q2;unfold Ka at hw;simp only[BW,decide_eq_true_eq,beq_iff_eq]at hw;obtain⟨w1,w2,w3,w4⟩:=hw;rcases al y.1 w3 w4 with⟨r,T,r2,r3⟩|⟨T,r2⟩;obtain⟨_,g2,g3,g4⟩:=z.2 r T;exact .inl ⟨r,T,(g2.mem y).2 ⟨q1,w1,o!,o!,r2,r3⟩,w2,w3,w4⟩;exact .inr ⟨(t.tail y).2 ⟨q1,T,r2⟩,q2⟩
 refine AA (P:=λr=>(∀u,r= .inl u->u.2=13)/\(r= .inr ()-> ∀(k:Nat) (e f:EN),c.1[k]? =some e->c.1[k+1]? =some f->f.2.2.2.2.1=e.1)) ?_ λr hr=>BB (λu B=>AB λo=>by rw[hr.1 u B]at o;cases o) (λu B=>AB λ_=>?_)
 ·refine Cu (λ(s:Int)=>0<=s/\s<=c.1.length/\ ∀(k:Nat) (e f:EN),(k:Int)+1<s->c.1[k]? =some e->c.1[k+1]? =some f->f.2.2.2.2.1=e.1) (λs=>((c.1.length:Int)-s).toNat) ⟨Af _,o!,λk e f n=>o!⟩ (λs hI=>?_);obtain⟨s0,s1,s2⟩:=hI;unfold VI;dsimp only[len];have F: ∀u:List EN×Int,u=([],13)->(∀v,(Sum.inl u:(List EN×Int)⊕ Unit)= .inl v->v.2=13)/\((Sum.inl u:(List EN×Int)⊕ Unit)= .inr ()-> ∀(k:Nat) (e f:EN),c.1[k]? =some e->c.1[k+1]? =some f->f.2.2.2.2.1=e.1):=λu B=>⟨λv hv=>by cases hv;rw[B],λh=>by cases h⟩
  refine AC (λH=>?_) (λH=>Ap.done ⟨λu B=>(by cases B),λ_ k e f n g=>s2 k e f (by have:=Cy g;omega) n g⟩);rw[AY (x:=s+1)];have Q:0<s->Ap (Option.bind (ix c.1 s) λR=>Option.bind (ix c.1 (wi (s-1))) λS=>bif (R.2.2.2.2.1 !=S.1)then some (.done (.inl ([],13)))else some (.next (s+1)):Option (Step Int ((List EN×Int)⊕ Unit))) (LW (λ(s:Int)=>0<=s/\s<=c.1.length/\ ∀(k:Nat) (e f:EN),(k:Int)+1<s->c.1[k]? =some e->c.1[k+1]? =some f->f.2.2.2.2.1=e.1) (λs=>((c.1.length:Int)-s).toNat) ((c.1.length:Int)-s).toNat λr=>(∀u,r= .inl u->u.2=13)/\(r= .inr ()-> ∀(k:Nat) (e f:EN),c.1[k]? =some e->c.1[k+1]? =some f->f.2.2.2.2.1=e.1)):=λD=>by
   rw[AY];refine AA (AI s0 H) λR V=>AA (AI) λS W=>AL (λ_=>Ap.done (F _ rfl)) (λK=>Ap.next ⟨o!,o!,λk e f n N g=>?_⟩ o!);by_cases ao:(k:Int)+1<s;exact s2 k e f ao N g;have ek:k+1=s.toNat:=o!
   have U:(s-1).toNat=k:=o!
   rw[ek,V.1]at g;have:=W.1;rw[U,N]at this;rw[<-BP g,BP this];exact K
  apply AP<;>intro hs
  ·refine AA (AI s0 H) λv7 g7=>AC (λ_=>Ap.done (F _ rfl)) (λ_=>AC (λD=>absurd D o!) (λ_=>Ap.next ⟨o!,o!,λk e f n=>o!⟩ o!))
  exact AC (λD=>Q D) (λD=>absurd D o!)
 subst B;dsimp only;have I:=hr.2 rfl;refine pe ?_ (G.filter _) w;have O: ∀e∈c.1,e.2.2.2.2.1<e.1:=λe K=>by obtain⟨k,n⟩:=E9.1 (BV.1 ((w e).1 K)).1;exact(hN k e n).2.2.2.2.2.2.1
 have step: ∀(d k:Nat) (e f:EN),c.1[k]? =some e->c.1[k+1+d]? =some f->e.1<f.1:=by
  intro d;induction d with
  |zero=>intro k e f n C;have:=I k e f n C;have:=O f (BN C);omega
  |succ d ih=>intro k e f n C;have ax:=Cy C;have hg:c.1[k+1+d]? =some (c.1[k+1+d]' o!):=As o!;have a:=ih k e _ n hg;have b:=I (k+1+d) _ f hg C;have:=O f (BN C);omega
 rw[HH];intro k m n hm ar;obtain⟨d,rfl⟩: ∃d,m=k+1+d:=⟨m-(k+1),o!⟩
 exact step d k _ _ (As n) (As hm)
def ABp{x:AU}{a:List AE}(q:OKs x a)(d:a.length<=4096):MX (x,a)=some (a.foldl upd x,0):=by
 suffices t:Ap (MX (x,a)) λr=>r=(a.foldl upd x,0) by obtain⟨r,hr,rfl⟩:=t;exact hr
 generalize v:a.foldl upd x=y;refine AA (P:=λr=> ∃z,r= .inr (y,z)) ?_ λr hr=>?_
 ·refine Cu (λ(s:Int×AU×AU)=> ∃A B,a=A++B/\s.1=A.length/\OKs s.2.1 B/\B.foldl upd s.2.1=y) (λ(s:Int×AU×AU)=>((a.length:Int)-s.1).toNat) ⟨[],a,rfl,rfl,q,v⟩ ?_;rintro⟨i,x,z⟩ ⟨A,B,rfl,g,h,c⟩;dsimp only at g h c;subst g;unfold Tl;dsimp only[len];rw[Aa]at d;refine AC (λb=>?_) (λb=>Ap.done ?_)
  ·obtain _|⟨e,B⟩:=B;simp at b;have u:ix (A++e::B) (A.length:Int)=some e:=by unfold ix;rw[if_pos o!,Dd,Ch (Ao _),Gn];rfl
   obtain⟨⟨j,f,k,l,m,n⟩,o⟩:=h;have p:e.2.2.2.2.1<e.1:=f.2.2.2.2.2.1;rw[u,AD,decide_eq_false o!,cond_false,AD,zU j f k l m n,AD,AY (x:=(A.length:Int)+1)];refine AL (λb=>absurd rfl b) (λ_=>Ap.next ⟨A++[e],B,q!,q!,o,c⟩ d!)
  obtain _|⟨e,B⟩:=B;exact⟨z,by rw[<-c];rfl⟩;simp at b;omega
 obtain⟨z,rfl⟩:=hr;exact A7 (AB rfl)
def ABm{n:Int}{L:List EN}{a:AJ}{l:Ae}{p:Int}{j k:Nat}(u:LI n L)(b:ID L)(i:AR L a)(f:Xc L l)(e:j<=k)(w:k<=L.length)(o:0<=p/\p<a.2.1)(d:p<64):Ap (Qo (st (L.take j) p,(a,(l,(k:Int))))) λr=>r.2=0->r.1=st (L.take k) p:=by have m:=f.len;have g:=YV b ⟨o.1,d⟩ (by omega:L.length<=1099511627776);have x:=Vo b p j;have v:=ZL (b.take j) p;rw[BQ]at v;refine AA Vp λy q=>AO (λc=>absurd (q.2 i.vb) (by simp[c])) (λ_=>?_);refine AA Bg λz s=>AO (λc=>absurd (s.2 f.vl) (by simp[c])) (λ_=>?_);rw[ab (g j),AD];refine AL (λc=>absurd rfl c) (λ_=>?_);dsimp only;rw[KJ,Uj,decide_eq_false o!,cond_false];refine AA (AFk b i f o!) λA t=>AL (λc=>AB λh=>absurd h c) (λh=>?_);rw[t h,show Ba (L.take j) p=(((Ba (L.take j) p).toNat:Nat):Int) by omega,AAR b o!,mT b (j:=j) o! (XU b),ABp (ve b u ⟨o.1,d⟩ o! j k e) (by have:=Fy (Zx p) ((L.take k).drop j);rw[FY,BQ]at this;omega),<-jr e,AD];exact AB λ_=>rfl
def AE2{A t:BT}{b:UInt8}:six (A++b::t) (A.length:Int)=some (b.toNat:Int):=by unfold six;grind
def AEr{x:AU}(h:GA x):Ap (Ai (Gi (Hl x)) (0,((x.1,(x.2.1,(G9.all (false,[])))),(0,(0,(G9.all (false,[]))))))) λr=> ∃z,r= .inr (x,z):=by
 have y:=Xq h;refine Cu (λ(s:Int×AU×AU)=>0<=s.1/\s.1<=16/\s.2.1.1=x.1/\s.2.1.2.1=x.2.1/\ ∀j:Fin 16,s.2.1.2.2 j=if(j.val:Int)<s.1 then x.2.2 j else(false,[])) (λ(s:Int×AU×AU)=>(16-s.1).toNat) ⟨Af _,u!,rfl,rfl,λj=>by rw[if_neg d!];rfl⟩ ?_;rintro⟨i,⟨p,n,a⟩,z⟩ ⟨l,L,C,hn,g⟩;dsimp only at l L C hn g;subst C hn;unfold Gi;dsimp only;refine AC (λk=>?_) (λk=>Ap.done ⟨z,?_⟩)
 ·rw[AY (x:=i*13),AY (x:=12+i*13),AY (x:=12+i*13+1),AY (x:=i+1)];have⟨N,D⟩:=kO (a:=x.2.2) (i:=i.toNat) o!;obtain⟨A,r,t,M⟩:=uB h (i:=i.toNat) o!;have b:=h.cl i.toNat
  generalize I:cl x.2.2 i.toNat=c at*;have B:A.length+(13+r.length)=256:=by have:=y;rw[t,Aa,Aa,bn b.1]at this;exact this
  have f:six (Hl x) (12+i*13)=some (if c.1=true then(c.2.length:Int)else 255):=by have q:=b.1;have e:V0 c=UInt8.ofNat ((if c.1=true then(c.2.length:Int)else 255)%256).toNat::(c.2++fq (12-c.2.length)):=rfl;rw[t,show(12+i*13:Int)=(A.length:Int) by omega,e,Dr,AE2,dR];apply congrArg some;split<;>omega
  rw[f,AD];have E: ∀m:G9 16 Ce,(∀j:Fin 16,m j=if(j.val:Int)<i+1 then x.2.2 j else(false,[]))->Ap (some (Step.next (i+1,((x.1,(x.2.1,m)),z))):Option (Step (Int×AU×AU) ((Int×AU)⊕ (AU×AU)))) (LW (λ(s:Int×AU×AU)=>0<=s.1/\s.1<=16/\s.2.1.1=x.1/\s.2.1.2.1=x.2.1/\ ∀j:Fin 16,s.2.1.2.2 j=if(j.val:Int)<s.1 then x.2.2 j else(false,[])) (λ(s:Int×AU×AU)=>(16-s.1).toNat) (16-i).toNat λr=> ∃z,r= .inr (x,z)):=λm o=>Ap.next ⟨d!,d!,rfl,rfl,o⟩ d!
  by_cases d:c.1=true;have q:=b.1;rw[if_pos d,AY (x:=(c.2.length:Int)),beq_eq_false_iff_ne.2 o!,cond_false,decide_eq_false o!,cond_false,AY];obtain⟨s,K,u⟩:=B8 (s:=Hl x) (lo:=12+i*13+1) (hi:=12+i*13+1+(c.2.length:Int)) o! o! (by rw[y];omega);have w:s=c.2:=by
   rw[u.1,t];have F:(12+i*13+1).toNat=A.length+1:=o!
   have G:(12+i*13+1+(c.2.length:Int)).toNat-(12+i*13+1).toNat=c.2.length:=o!
   rw[G,F,<-Lw,PV];unfold V0;rw[if_pos d,Ax,jO (A2 _ _),Ax,VT]
  rw[K,w,AD];obtain⟨v,H,_⟩:=Cq (a:=a) l k;rw[H,AD,AD];exact E _ (zb g ⟨l,k⟩ λJ=>D.symm.trans (DO d rfl));rw[if_neg d,AY,beq_iff_eq.2 rfl,cond_true];exact E _ (wS g ⟨l,k⟩ λJ=>D.symm.trans (DO (by simpa using d) (b.2.resolve_left d)))
 refine congrArg Sum.inr (DO (DO rfl (DO rfl (funext λj=>?_))) rfl);exact(g j).trans (if_pos o!)
def zI{a t:BT}{n k:Int}(h:(a.length:Int)+t.length<=2199023255552)(b:1<=k)(d:k<=8)(e:k<=t.length)(g:t.take k.toNat=C6 n k.toNat)(hn:0<=n)(f:n<256^k.toNat)(c:n<9223372036854775808):Ay (a++t,((a.length:Int),k))=some (n,0):=by rw[gh h b d,if_pos e,g,zC hn f c]
def ABK{x:AU}(h:GA x)(hn:x.2.1≠0):Ec (Hl x)=some (x,0):=by
 have b:=Xq h;have r:=h.1;have w:=h.2.1;have u:=h.2.2.1;have y:=h.2.2.2.1;unfold Ec;have c:len (Hl x)=256:=i!
 obtain⟨o,q1,f⟩:=B8 (s:=Hl x) (lo:=0) (hi:=8) g! g! (by rw[b];decide);obtain⟨p,q2,g⟩:=B8 (s:=Hl x) (lo:=248) (hi:=256) g! g! (by rw[b];decide);obtain⟨q,q3,i⟩:=B8 (s:=Hl x) (lo:=0) (hi:=244) g! g! (by rw[b];decide);have j:o=C6 x.2.1 8:=f.1.trans UI;have l:p=C6 x.2.1 8:=by rw[g.1];show List.take 8 (List.drop 248 (Hl x))=_;rw[mW h,BR (by rw[A2];exact Ao _)]
 have m:q=KK x:=i.1.trans (by show List.take 244 (Hl x)=_;unfold Hl;exact Gm (Gu h));have d:=ZD (KK x);have q4:Ay (Hl x,(244,4))=some (PH (KK x),0):=by have:=zI (a:=KK x) (t:=C6 (PH (KK x)) 4++C6 x.2.1 8) (n:=PH (KK x)) (k:=4) (by simp only[Aa,A2,Gu h];decide) g! g! (by simp only[Aa,A2];decide) (Gm (A2 _ _)) o! (by simp only[Int.reduceToNat];omega) o!;rw[Gu h]at this;exact this
 have q5:Ay (Hl x,(8,4))=some (x.1,0):=by have:=zI (a:=C6 x.2.1 8) (t:=C6 x.1 4++(Oh x.2.2 16++(fq 24++(C6 (PH (KK x)) 4++C6 x.2.1 8)))) (n:=x.1) (k:=4) (by simp only[Aa,A2,It h,fq,HE];omega) g! g! (by simp only[Aa,A2];omega) (by exact Gm (A2 _ _)) r (by simp only[Int.reduceToNat];omega) o!;rw[A2]at this;rw[<-this];simp only[Hl,KK,Ax];rfl
 have q6:Ay (Hl x,(0,8))=some (x.2.1,0):=zI (a:=[]) (t:=Hl x) (n:=x.2.1) (k:=8) (by rw[b];decide) g! g! (by rw[b];decide) UI u (by simp only[Int.reduceToNat];omega) o!;obtain⟨v,e,z,rfl⟩:=AEr h;rw[c,bne_self_eq_false,cond_false,px,AD,beq_eq_false_iff_ne.2 (zp h hn),cond_false,q1,AD,q2,AD,j,l,bne_self_eq_false,cond_false,q4,AD,q3,AD,m,uy (by rw[Gu h];decide),AD,show IntKind.wrap .u32 (PH (KK x))=PH (KK x) by rw[ut];omega,bne_self_eq_false,cond_false,q6,AD,q5,AD,e,AD,kq,ab h,AD,bne_self_eq_false,bne_self_eq_false];rfl
def AC7{x:AU}(h:GA x)(a:x.2.1=0->x=(x.1,(0,G9.all (false,[])))):Cr (lH x,x.1)=some (x,0):=by
 have b:=h.1;have c:=h.2.1;unfold Cr lH;dsimp only;rw[decide_eq_false o!,cond_false,decide_eq_false o!,cond_false];by_cases hn:x.2.1=0;rw[if_pos hn];have e:Ec (fq 256)=some ((0,(0,(G9.all (false,[])))),7):=by unfold Ec;rw[show len (fq 256)=256 by unfold len fq;rw[List.length_replicate];rfl,bne_self_eq_false,cond_false,px,Option.bind_some,beq_self_eq_true,cond_true]
 rw[e,AD];exact congrArg (λq=>some (q,(0:Int))) (a hn).symm;rw[if_neg hn,ABK h hn,AD];show(bif x.1 !=x.1 then _ else some (x,(0:Int)))=_;rw[bne_self_eq_false];rfl
def uf{L:List EN}(h:ID L)(a:L.length<=1099511627776){p:Int}(b:0<=p/\p<64){k:Nat}:Cr (lH (st (L.take k) p),p)=some (st (L.take k) p,0):=by
 have:=AC7 (YV h b a k) λc=>by rw[AAO h c]
 rwa [Uj]at this
end Go.Pm
