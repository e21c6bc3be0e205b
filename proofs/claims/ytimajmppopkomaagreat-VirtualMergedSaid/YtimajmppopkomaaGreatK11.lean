/- What these functions answer; A layer over the model in which values are trees: its laws and a typed interpreter, part 11. Texts of the folder wip, laid in few files with shorter names by a program (wip/tools/pack.py); nothing is assumed. -/
import Derived.Test.YtimajmppopkomaaGreatK10
import Derived.Test.YtimajmppopkomaaGreatProg
import Derived.Lib.Builder
import Derived.Lib.FrozenHead
import Derived.Lib.FrozenHead2
import Derived.Lib.AppendStr
import Derived.Lib.UnsafeStr
import Derived.Lib.Repeat
import Derived.Lib.RepeatB
import Derived.Lib.Walk
import Derived.WalkKit
import Derived.Laws.Externs
import Derived.Shelf.RegionOpenPlain
import Derived.Lib.MakeNoZero
import Derived.Laws.IdiomCopy
import Derived.Deep.LoopGhost
import Derived.Deep.DeepCutAuto
import Derived.Deep.DeepFit
import Derived.Deep.CutBlock
noncomputable section
set_option linter.unusedVariables false
set_option linter.unusedSimpArgs false
set_option linter.unusedSectionVars false
set_option linter.defProp false
set_option linter.unnecessarySimpa false
set_option linter.deprecated false
namespace Go.Pm
open Go Go.Ab
def ADJ(n:Nat)(p:List NE×(Int×(Int×Int))):fw (λg (p:List NE×(Int×(Int×Int)))=>Bv g p.1 p.2) (n+1) p=Bv (fw (λg (p:List NE×(Int×(Int×Int)))=>Bv g p.1 p.2) n) p.1 p.2:=rfl
def vL: ∀(N:Nat) (d:Array NE) (a m b:Nat),a<m→m<b→b≤d.size→d.size≤16777216→Sort.SortedIn lN a m d→Sort.SortedIn lN m b d→
  PT (b-a<=N) (fw (λg (p:List NE×(Int×(Int×Int)))=>Bv g p.1 p.2) N (d.toList,((a:Int),((m:Int),(b:Int))))) λr=> ∃e:Array NE,r=e.toList/\rl a b d e
 |0,d,a,m,b,h1,h2,h3,h4,h5,h6=>⟨λt=>absurd t (by omega),λr e=>by cases e⟩
 |N+1,d,a,m,b,h1,h2,h3,h4,h5,h6=>by rw[ADJ];exact AEi h1 h2 h3 h4 h5 h6 (vL N)
def AB5{d:Array NE}{a m b:Nat}(c:a<m)(f:m<b)(g:b≤d.size)(h:d.size≤16777216)(i:Sort.SortedIn lN a m d)(j:Sort.SortedIn lN m b d):
  A3 (EP d.toList ((a:Int),((m:Int),(b:Int)))) λr=> ∃e:Array NE,r=e.toList/\rl a b d e:=by
 have⟨r,hr⟩:=(vL (b-a) d a m b c f g h i j).1 (Ag _);have⟨s,k⟩:=g9 hr;have⟨N,l⟩:=fT k;exact⟨s,k,(vL N d a m b c f g h i j).2 s l⟩
def Mul(s a:Nat):Prop:= ∃k,a=k*s
variable {a B:List EN}{b n q u:Int}{c:AM}{d r A:Nat}{e:Aj}{f:List AT×List Int×List Bool}{g:List Int}{h:List BP}{i:BP}{j:Int×(Int×Bool)}{k:AT}{l:List (Int×Int)}{m:List NE}{o:List AT}{p:EN}{s:List (Int×EN)}{t:Type}{v:AM×Aj×Int}{w:EN→Prop}{x:NE}{y:Array NE}{z:List AD}
def Mul.zero:Mul d 0:=⟨0,by simp⟩
theorem Mul.add{s a:Nat}(h:Mul s a):Mul s (a+s):=by obtain⟨k,rfl⟩:=h;exact⟨k+1,by grind⟩
theorem Mul.half{s a:Nat}(h:Mul (2*s) a):Mul s a:=by obtain⟨k,rfl⟩:=h;exact⟨k*2,by grind⟩
theorem Mul.lt(c:Mul d r)(s:Mul d A)(h:r<A):r+d<=A:=by obtain⟨k,rfl⟩:=c;obtain⟨j,rfl⟩:=s;have:k<j:=Nat.lt_of_mul_lt_mul_right h;have:=PL d (Nat.succ_le_of_lt this);grind
theorem Xh(h:Sort.SortedIn lN d r y)(i:A<=r):Sort.SortedIn lN d A y:=λx a e f g=>h x a e f (by omega)
def Ua{a:Nat}{e:Array NE}(h:Sort.SortedIn lN d r y)(c:Sort.PermIn A a y e)(l:r<=A\/a<=d):Sort.SortedIn lN d r e:=λi j f g k=>by rw[c.2.1 i (by omega),c.2.1 j (by omega)];exact h i j f g k
def Blk(s n:Nat)(d:Array NE):Prop:= ∀a b,Mul s a->b<=a+s->b<=n->Sort.SortedIn lN a b d
theorem xf{d0:Array NE}{n:Nat}(hn:n=d0.size)(hd:n<=1048576):A3 (Em d0.toList (n:Int)) λr=> ∃e:Array NE,r=e.toList/\rl 0 n d0 e:=by
 unfold Em;refine AB (P:=λ(r:Int×List NE)=> ∃(a:Nat) (d:Array NE),r.1=a/\r.2=d.toList/\a<=n/\n<a+20/\Mul 20 a/\Sort.PermIn 0 n d0 d/\ ∀c,Mul 20 c->c<a->Sort.SortedIn lN c (c+20) d) ?_ ?_;refine AQ (λ(s:Int×(Int×List NE))=> ∃(a:Nat) (d:Array NE),s.1=a/\s.2.1=((a+20:Nat):Int)/\s.2.2=d.toList/\a<=n/\Mul 20 a/\Sort.PermIn 0 n d0 d/\ ∀c,Mul 20 c->c<a->Sort.SortedIn lN c (c+20) d) (λs=>n-s.1.toNat) ⟨0,d0,rfl,rfl,rfl,Bt _,Mul.zero,Sort.permIn_refl _ _ _,λc _ h=>absurd h (by omega)⟩ ?_;rintro⟨Y,Z,s3⟩ ⟨a,d,q1,q2,q3,q4,q5,q6,q7⟩;dsimp only at q1 q2 q3;subst q1 q2 q3;have hz:d.size=n:=by rw[q6.1,hn]
 unfold IN;dsimp only;refine AC (λO=>?_) (λO=>AA ⟨a,d,rfl,rfl,q4,by omega,q5,q6,q7⟩);have A:=Sort.insertionSort_holds oT d a (a+20) (by omega) (by omega);rw[vw (d:=d) (k:=a) (m:=a+20) rfl rfl (by omega) (by omega) (by omega),AE];have j:Nat.beq (List.length (Sort.insertionSort lN d a (a+20)).toList) (List.length d.toList)=true:=by rw[DQ,DQ,A.1.1];exact JT _
 have e1:wi (((a+20:Nat):Int)+20)=((a+20+20:Nat):Int):=by grind[Pn]
 rw[j,cond_true,e1];refine AA ⟨⟨a+20,_,rfl,rfl,rfl,by omega,q5.add,Sort.permIn_trans _ _ _ _ _ q6 (Sort.permIn_mono _ _ a (a+20) 0 n (by omega) (by omega) (by omega) A.1),λc g w=>?_⟩,?_⟩;rcases Ao c a with l|l;exact Ua (q7 c g l) A.1 (.inl (g.lt q5 l));have:c=a:=by rcases Ao a c with i|i;have:=q5.lt g i;omega;omega
 rw[this];exact A.2;show n-((a+20:Nat):Int).toNat<n-((a:Nat):Int).toNat
 omega;rintro⟨r1,r2⟩ ⟨a,d,q1,q2,q3,q4,q5,q6,q7⟩;dsimp only at q1 q2;subst q1 q2;have hz:d.size=n:=by rw[q6.1,hn]
 dsimp only;have A:=Sort.insertionSort_holds oT d a n q3 (by omega);rw[vw (d:=d) (k:=a) (m:=n) rfl rfl (by omega) (by omega) (by omega),AE];have j:Nat.beq (List.length (Sort.insertionSort lN d a n).toList) (List.length d.toList)=true:=by rw[DQ,DQ,A.1.1];exact JT _
 rw[j,cond_true];have C:Sort.PermIn 0 n d0 (Sort.insertionSort lN d a n):=Sort.permIn_trans _ _ _ _ _ q6 (Sort.permIn_mono _ _ a n 0 n (by omega) (by omega) (by omega) A.1);have u:Blk 20 n (Sort.insertionSort lN d a n):=λc o g w l=>by rcases Ao c a with i|i;exact Xh (Ua (q7 c g i) A.1 (.inl (g.lt q5 i))) w;rcases Ao a c with E|E;have:=q5.lt g E;exact λx y H I J=>absurd J (by omega);grind[Xh]
 revert C u;generalize Sort.insertionSort lN d a n=d1;intro C u;refine AB (P:=λr=> ∃e:Array NE,r=e.toList/\rl 0 n d0 e) (AQ (λ(s:Int×List NE)=> ∃(t:Nat) (e:Array NE),s.1=t/\s.2=e.toList/\1<=t/\t<=2097172/\Sort.PermIn 0 n d0 e/\Blk t n e) (λs=>n-s.1.toNat) ⟨20,d1,rfl,rfl,by omega,by omega,C,u⟩ ?_) λr h=>AA h;rintro⟨Y,Z⟩ ⟨t,e,H,I,J,g4,V,W⟩;dsimp only at H I;subst H I;unfold IP;dsimp only;refine AC (λO=>?_) (λO=>AA ⟨e,rfl,V,W 0 n Mul.zero (by omega) (Ag _)⟩);have U:wi (2*(t:Int))=((2*t:Nat):Int):=by rw[Pn (by omega)];omega
 have e3:wi ((t:Int)*2)=((2*t:Nat):Int):=by rw[Pn (by omega)];omega
 rw[U,e3];refine AB (P:=λ(r:Int×List NE)=> ∃(a:Nat) (f:Array NE),r.1=a/\r.2=f.toList/\a<=n/\n<a+2*t/\Mul (2*t) a/\Sort.PermIn 0 n d0 f/\(∀c,Mul (2*t) c->c<a->Sort.SortedIn lN c (c+2*t) f)/\ ∀c o,Mul t c->a<=c->o<=c+t->o<=n->Sort.SortedIn lN c o f) ?_ ?_;refine AQ (λ(s:Int×(Int×List NE))=> ∃(a:Nat) (f:Array NE),s.1=a/\s.2.1=((a+2*t:Nat):Int)/\s.2.2=f.toList/\a<=n/\Mul (2*t) a/\Sort.PermIn 0 n d0 f/\(∀c,Mul (2*t) c->c<a->Sort.SortedIn lN c (c+2*t) f)/\ ∀c o,Mul t c->a<=c->o<=c+t->o<=n->Sort.SortedIn lN c o f) (λs=>n-s.1.toNat)
  ⟨0,e,rfl,by simp,rfl,Bt _,Mul.zero,V,λc _ h=>absurd h (by omega),λc o g _ w l=>W c o g w l⟩ ?_
 rintro⟨Y,Z,s3⟩ ⟨a,f,k1,G,T,X,p,D,K,B⟩;dsimp only at k1 G T;subst k1 G T;have S:f.size=n:=by rw[D.1,hn]
 unfold IQ;dsimp only;refine AC (λQ=>?_) (λQ=>AA ⟨a,f,rfl,rfl,X,by omega,p,D,K,B⟩);have N:wi ((a:Int)+(t:Int))=((a+t:Nat):Int):=by rw[Pn (by omega)];omega
 have e5:wi (((a+2*t:Nat):Int)+((2*t:Nat):Int))=((a+2*t+2*t:Nat):Int):=by rw[Pn (by omega)];omega
 rw[N,U,e5];refine AB (AB5 (d:=f) (a:=a) (m:=a+t) (b:=a+2*t) (by omega) (by omega) (by omega) (by omega) (B a (a+t) p.half (Ag _) (Ag _) (by omega)) (B (a+t) (a+2*t) p.half.add (by omega) (by omega) (by omega))) ?_;rintro r ⟨q,rfl,v,F⟩;have j:Nat.beq (List.length q.toList) (List.length f.toList)=true:=by rw[DQ,DQ,v.1];exact JT _
 rw[j,cond_true];refine AA ⟨⟨a+2*t,q,rfl,rfl,rfl,by omega,p.add,Sort.permIn_trans _ _ _ _ _ D (Sort.permIn_mono _ _ a (a+2*t) 0 n (by omega) (by omega) (by omega) v),λc g w=>?_,λc o g w l i=>Ua (B c o g (by omega) l i) v (.inr w)⟩,?_⟩;rcases Ao c a with l|l;exact Ua (K c g l) v (.inl (g.lt p l));have:c=a:=by rcases Ao a c with i|i;have:=p.lt g i;omega;omega
 rw[this];exact F;show n-((a+2*t:Nat):Int).toNat<n-((a:Nat):Int).toNat
 omega;rintro⟨v1,v2⟩ ⟨a,f,k1,G,T,X,p,D,K,B⟩;dsimp only at k1 G;subst k1 G;have S:f.size=n:=by rw[D.1,hn]
 dsimp only;have N:wi ((a:Int)+(t:Int))=((a+t:Nat):Int):=by rw[Pn (by omega)];omega
 rw[N];have z: ∀q:Array NE,Sort.PermIn a n f q->Sort.SortedIn lN a n q->(∃(L:Nat) (M:Array NE),((2*t:Nat):Int)=L/\q.toList=M.toList/\1<=L/\L<=2097172/\Sort.PermIn 0 n d0 M/\Blk L n M)/\n-((2*t:Nat):Int).toNat<n-((t:Nat):Int).toNat:=λq v F=>by refine⟨⟨2*t,q,rfl,rfl,by omega,by omega,Sort.permIn_trans _ _ _ _ _ D (Sort.permIn_mono _ _ a n 0 n (by omega) (by omega) (by omega) v),λc o g w l=>?_⟩,by omega⟩;rcases Ao c a with i|i;exact Xh (Ua (K c g i) v (.inl (g.lt p i))) w;rcases Ao a c with E|E;have:=p.lt g E;exact λx y H I J=>absurd J (by omega);rw[show c=a by omega];exact Xh F l
 refine AC (λR=>AB (AB5 (d:=f) (a:=a) (m:=a+t) (b:=n) (by omega) (by omega) (by omega) (by omega) (B a (a+t) p.half (Ag _) (Ag _) (by omega)) (B (a+t) n p.half.add (by omega) (by omega) (Ag _))) ?_) (λR=>AA (z f (Sort.permIn_refl _ _ _) (B a n p.half (Ag _) (by omega) (Ag _))));rintro r ⟨q,rfl,v,F⟩;have j:Nat.beq (List.length q.toList) (List.length f.toList)=true:=by rw[DQ,DQ,v.1];exact JT _
 rw[j,cond_true];exact AA (z q v F)
def ABe(h:m.length<=1048576):A3 (Cm m ()) λr=>r.Perm m/\r.Pairwise λx y=>lN y x=false:=by
 unfold Cm;apply AB (xf (d0:=m.toArray) (n:=m.length) (by simp) h);rintro r ⟨R,rfl,d,f⟩;have e:R.size=m.length:=by rw[d.1];simp
 have g:Nat.beq (List.length R.toList) (List.length m)=true:=by simp[e]
 rw[g,cond_true];refine AA ⟨?_,?_⟩;have:=d.2.2;rw[show R.extract 0 m.length=R by rw[<-e];exact iQ,show m.toArray.extract 0 m.length=m.toArray by rw[show m.length=m.toArray.size by simp];exact iQ]at this;exact this;rw[KH];intro i j k l b;have a:i<R.size:=by simpa using k
 have c:j<R.size:=by simpa using l
 have:=f i j (Bt _) b (by omega);rw[getElem!_pos R j c,getElem!_pos R i a]at this;simpa using this
def AAI(l:List NE):Prop:= ∀x∈l,∀y∈l,x≠y->x.1.2.2.1=y.1.2.2.1->x.1.2.1<y.1.1\/y.1.2.1<x.1.1
def ABY{a:List NE}(W:m.length=a.length)(G:a.length≤256)(I: ∀e∈a,1≤e.1.1∧e.1.1≤e.1.2.1∧e.1.2.1≤1099511627776∧0≤e.1.2.2.1)(P:a.Pairwise λx y=>lN y x=false)(hn:a.Nodup)(O:AAI a):
  A3 (Ad (RY m a) (0,((-1),(0,([],[]))))) λr=>r=(a.map (·.1),a.map (·.2)):=by
 refine AQ (λ(s:Int×(Int×(Int×(List AT×List Int))))=> ∃k:Nat,s.1=k/\k<=a.length/\s.2.2.2=((a.take k).map (·.1),(a.take k).map (·.2))/\((k=0/\s.2.1= -1)\/ ∃e,0<k/\a[k-1]? =some e/\s.2.1=e.1.2.2.1/\s.2.2.1=e.1.2.1)) (λs=>a.length-s.1.toNat) ⟨0,rfl,Bt _,rfl,.inl ⟨rfl,rfl⟩⟩ ?_;rintro⟨Y,R,Z,s4⟩ ⟨k,q1,q2,q3,q4⟩;dsimp only at q1 q3 q4;subst q1 q3;unfold RY;dsimp only;refine AC (λw=>?_) (λw=>AA ?_)
 ·simp only[len]at w;refine AB (AK) λv8 _=>?_;refine AB (AK) λv h=>?_;have z:a[k]? =some v:=by simpa using h.1
  obtain⟨S,T,U,V⟩:=I v h.2;have C:a.take (k+1)=a.take k++[v]:=by rw[Ed,z];rfl
  have X:(a.take k).length<=256:=by rw[Bh];omega
  have j: ∀D:Int,D=v.1.2.2.1→A3 (Option.bind (app ((a.take k).map (·.1)) [v.1]) λf=>Option.bind (app ((a.take k).map (·.2)) [v.2]) λg=>some (Step.next (wi ((k:Int)+1),(D,(v.1.2.1,(f,g)))))) λ(st:Step (Int×(Int×(Int×(List AT×List Int)))) (List AT×List Int))=>match st with
    | .next i=>(∃d:Nat,i.1=d/\d<=a.length/\i.2.2.2=((a.take d).map (·.1),(a.take d).map (·.2))/\((d=0/\i.2.1= -1)\/ ∃e,0<d/\a[d-1]? =some e/\i.2.1=e.1.2.2.1/\i.2.2.1=e.1.2.1))/\a.length-i.1.toNat<a.length-((k:Nat):Int).toNat
    | .done r=>r=(a.map (·.1),a.map (·.2)):=λD A=>by
   refine AB (Ae (by simp;omega)) λf t=>?_;refine AB (Ae (by simp;omega)) λg u=>AA ⟨⟨k+1,?_,by omega,?_,.inr ⟨v,by omega,by rw[gd];exact z,A,rfl⟩⟩,?_⟩;show wi ((k:Int)+1)=_;rw[mV];show(f,g)=_;rw[t.1,u.1,C,MB,MB];rfl;show a.length-(wi ((k:Int)+1)).toNat<a.length-((k:Nat):Int).toNat
   rw[mV];omega
  have b: ∀n:Int,n<v.1.1->NB (v.1,n)=some v.1:=λn hn=>by unfold NB;have:decide (v.1.1>n)=true:=decide_eq_true hn;dsimp only;rw[this,cond_true]
  refine AL (λN=>?_) (λc=>?_);refine AC (λq=>absurd q (by omega)) (λ_=>?_);rw[b 0 (by omega),AE];obtain⟨st,E,F⟩:=j v.1.2.2.1 rfl;exact⟨st,E,by cases st<;>exact F⟩;rcases q4 with⟨_,q4⟩|⟨e,q5,q6,q7,q8⟩;exact absurd (c.trans q4) (by omega);have B:e.1.2.1<v.1.1:=by
   have H:=BL q6;obtain⟨J,K⟩:=To.1 q6;obtain⟨L,M⟩:=To.1 z;have N:e≠v:=λp=>by have:=(KH.1 (Nx.1 hn)) (k-1) k J L (by omega);rw[K,M]at this;exact this p
   have o:=(KH.1 P) (k-1) k J L (by omega);rw[K,M]at o;have Q:=I e H;have l:e.1.2.2.1=v.1.2.2.1:=by rw[<-q7];exact c.symm
   rcases O e H v h.2 N l with p|p;exact p;simp only[lN,decide_eq_false_iff_not]at o;omega
  rw[q8];refine AC (λq=>absurd q (by omega)) (λ_=>?_);rw[b _ B,AE];obtain⟨st,E,F⟩:=j R c.symm;exact⟨st,E,by cases st<;>exact F⟩
 simp only[len]at w;rw[Bs (by omega)]
noncomputable def intR(a:AM)(f:BP):Option NE:=
 match Gc (a,f)with
 |some (r,true)=>some (r,f.2.1)
 |_=>none
noncomputable def Fa(a:AM):List NE:=a.2.2.1.filterMap (intR a)
def ABX(h:VB c)(t:DS c):A3 (Ad (RX c) (0,[])) λr=>r=Fa c/\r.length<=256/\ ∀e∈r,Yp e.1:=by
 obtain⟨⟨v,w,y,n,z,A,B⟩,a1,a2,a3,a4,a5,a6⟩:=id h;refine AQ (λ(s:Int×NL)=>0<=s.1/\s.1<=c.2.2.1.length/\s.2.length<=s.1/\(∀e∈s.2,Yp e.1)/\s.2=(c.2.2.1.take s.1.toNat).filterMap (intR c)) (λ(s:Int×NL)=>((c.2.2.1.length:Int)-s.1).toNat) ⟨Ak _,by dsimp only;omega,by simp,λe a=>by simp at a,by simp⟩ (λs q=>?_);obtain⟨u,C,D,j,k⟩:=q;unfold RX;refine AC (λf=>?_) (λf=>AA ⟨?_,by omega,j⟩);simp only[len]at f;have e:=AY (x:=s.1+1);rw[e];refine AB (AK u f) λg m=>?_;have x:c.2.2.1.take (s.1+1).toNat=c.2.2.1.take s.1.toNat++[g]:=by rw[show(s.1+1).toNat=s.1.toNat+1 by omega,Ed,m.1];rfl
 refine Dr (gE n (t _ m.2)) λl d p=>?_;refine AI (λb=>?_) (λb=>AA ⟨⟨by dsimp only;omega,by dsimp only;omega,by dsimp only;omega,j,?_⟩,by dsimp only;omega⟩);have hr:intR c g=some (l.1,g.2.1):=by unfold intR;rw[d];obtain⟨r,o⟩:=l;dsimp only at b;subst b;rfl
 refine AB (Ae (by simp;omega)) λE i=>AA ⟨⟨by dsimp only;omega,by dsimp only;omega,?_,λe a=>?_,?_⟩,by dsimp only;omega⟩;have:=i.2.1;simp only[CD,CT]at this;dsimp only;omega;dsimp only at a;rw[i.1]at a;rcases At.1 a with a|a;exact j e a;rw[BE.1 a];exact p b;dsimp only;rw[x,pF,i.1,k];simp[hr];have hr:intR c g=none:=by unfold intR;rw[d];obtain⟨r,o⟩:=l;dsimp only at b;subst b;rfl
 dsimp only;rw[x,pF,k];simp[hr];simp only[len]at f;rw[k,Bs (by omega)];rfl
def ACO(h:VB c)(m:DS c)(hn:(Fa c).Nodup)(b:AAI (Fa c)):A3 (JW c) λr=> ∃v:List NE,v.Perm (Fa c)/\(v.Pairwise λp q=>lN q p=false)/\r=(v.map (·.1),v.map (·.2))/\v.length<=256/\ ∀e∈v,Yp e.1:=by
 unfold JW;refine AB (N5 h) λt j=>?_;rw[j,Ds,cond_false];refine AB (ABX h m) λu k=>?_;obtain⟨rfl,g,s⟩:=k;refine AB (ABe (by omega)) λf a=>?_;have i:=a.1.length_eq;have l:Nat.beq (List.length f) (List.length (Fa c))=true:=by rw[i];exact JT _
 rw[l,cond_true];have x: ∀e∈f,Yp e.1:=λe d=>s e (a.1.mem_iff.1 d);refine AB (ABY i.symm (by omega) (λe d=>?_) a.2 (a.1.nodup_iff.2 hn) (λp n q o=>b p (a.1.mem_iff.1 n) q (a.1.mem_iff.1 o))) λr hr=>AA ⟨f,a.1,a.2,hr,by omega,x⟩;have:=x e d;exact⟨this.1,this.2.1,this.2.2.1,this.2.2.2.1⟩
def sL(l:List (Int×Int))(n:Int):Prop:= ∃s∈l,s.1<=n/\n<=s.2
def yo{u b:Int}(p:l.length<=16777216):A3 (Ad (RZ (l,u)) (0,b)) λr=>(∀q,r= .inl q->0<=q.1/\q.1<l.length/\q.2=b/\ ∀e,l[q.1.toNat]? =some e->e.1<=b/\b<=e.2)/\(∀q,r= .inr q->q=b/\ ¬sL l b):=by refine AQ (λ(s:Int×Int)=>0<=s.1/\s.1<=l.length/\s.2=b/\ ∀e∈l.take s.1.toNat,¬(e.1<=b/\b<=e.2)) (λ(s:Int×Int)=>((l.length:Int)-s.1).toNat) ⟨Ak _,by dsimp only;omega,rfl,by simp⟩ (λt n=>?_);obtain⟨k,v,m,g⟩:=n;unfold RZ;refine AC (λd=>?_) (λd=>AA ⟨λu c=>(by cases c),λu c=>?_⟩);simp only[len]at d;have e:=AY (x:=t.1+1);rw[e];refine AB (AK k d) λw h=>?_;unfold Sm;rw[has_eq,AE,AE,m];refine AI (λf=>AA ⟨λu c=>?_,λu c=>(by cases c)⟩) (λi=>AA ⟨⟨by dsimp only;omega,by dsimp only;omega,rfl,λe a=>?_⟩,by dsimp only;omega⟩);cases c;refine⟨k,d,rfl,λe a=>?_⟩;dsimp only at a;rw[h.1]at a;injection a with a;subst a;unfold Ox at f;simp only[BN,decide_eq_true_eq]at f;exact f;dsimp only at a;rw[show(t.1+1).toNat=t.1.toNat+1 by omega,Ed,h.1]at a;rcases At.1 a with a|a;exact g e a;rw[gh,BE]at a;subst a;intro j;unfold Ox at i;simp only[Bool.and_eq_false_iff,decide_eq_false_iff_not]at i;omega;cases c;simp only[len]at d;rw[Bs (by omega)]at g;exact⟨m,by rw[show sL l b↔ ∃s∈l,s.1<=b/\b<=s.2 from Iff.rfl];rintro⟨s,o,j⟩;exact g s o j⟩
def uW{u:Int}(h:SpL l)(w:0<=u)(A:u<=1099511627776):A3 (La (l,u)) λr=>0<=r/\r<=u/\(∀n,r<n->n<=u->sL l n)/\(r=0\/ ¬sL l r):=by obtain⟨a1,a2⟩:=h;unfold La;refine AB (P:=λr=>0<=r/\r<=u/\(∀n,r<n->n<=u->sL l n)/\(r=0\/ ¬sL l r)) ?_ λr hr=>AA hr;refine AQ (λ(s:Int)=>0<=s/\s<=u/\ ∀n,s<n->n<=u->sL l n) (λ(s:Int)=>s.toNat) ⟨w,Ak _,λn k m=>by dsimp only at k;omega⟩ (λs v=>?_);obtain⟨p,t,g⟩:=v;unfold V0;refine AB (yo (b:=s) a1) λr hr=>?_;refine BA (λq f=>?_) (λq f=>?_);obtain⟨i,j,y,z⟩:=hr.1 q f;refine AC (λd=>absurd d (by omega)) (λ_=>?_);refine AC (λd=>AA ?_) (λB=>?_);rw[y]at d⊢;exact⟨p,t,g,.inl (by omega)⟩;refine AB (AK i j) λa c=>?_;have q1:=z a c.1;have q2:=a2 a c.2;have e:=AY (x:=a.1-1);rw[e];refine AA ⟨⟨by omega,by omega,λn k m=>?_⟩,by omega⟩;rcases ec s n with o|o;exact g n o m;exact⟨a,c.2,by omega⟩;obtain⟨i,j⟩:=hr.2 q f;rw[i];exact AA ⟨p,t,g,.inr j⟩
theorem qF(h:VB c):((Fa c).map (·.2)).Pairwise (· < ·):=by
 have p:c.2.2.1.Pairwise λf g=>f.2.1<g.2.1:=by
  have k:=h.2.2.2.2.2.2.2;rw[KH];have step: ∀n i:Nat,∀(b:i<c.2.2.1.length) (x:i+1+n<c.2.2.1.length),(c.2.2.1[i]).2.1<(c.2.2.1[i+1+n]).2.1:=by
   intro n;induction n with
   |zero=>intro i b x;exact k i _ _ (by omega) (Aw b) (Aw x)
   |succ n r=>intro i b x;have l:=r i b (by omega);have m:=k (i+1+n) _ _ (by omega) (Aw (by omega)) (Aw x);exact Int.lt_trans l m
  intro i j b x o;have:=step (j-(i+1)) i b (by omega);have e:i+1+(j-(i+1))=j:=by omega
  simp only[e]at this;exact this
 unfold Fa;rw[Tl,List.pairwise_filterMap];refine p.imp λ{f g} d y a z q=>?_;have one: ∀(f:BP) (y:NE),intR c f=some y->y.2=f.2.1:=λf y a=>by unfold intR at a;split at a;injection a with a;rw[<-a];cases a
 rw[one f y a,one g z q];exact d
def Xg(h:VB c):(Fa c).Nodup:=by have:=qF h;rw[Tl]at this;exact Nx.2 (this.imp λh e=>by rw[e]at h;omega)
def ADz{d:Int×Int}(hr:k.2.2.2.2.2.length≤4096)(Y:l[0]? =some d)(hm:PC s w)(hn:0≤u∧u≤1099511627776)
  (S: ∀v∈k.2.2.2.2.2,Ol b n q v=true->(Ox d v.1=true->w v)/\ ∀j,(w j\/(j∈k.2.2.2.2.2/\Ol b n q j=true))->j.1=v.1->j=v):
  A3 (Ad (Uh (c,(e,(b,(n,q)))) l k) (0,(s,(u,([],0))))) λQ=> ∃m W,Q= .inl (m,(W,([],0)))/\PC m (λj=>w j\/(j∈k.2.2.2.2.2/\Ol b n q j=true))/\W=u+((k.2.2.2.2.2.filter λj=>Ol b n q j&&Ox d j.1).length:Int):=by
 generalize hL:k.2.2.2.2.2=L at hr S⊢;refine AQ (λ(r:Int×(List (Int×EN)×(Int×(List EN×Int))))=>0<=r.1/\r.1<=L.length/\r.2.2.2=([],0)/\r.2.2.1=u+(((L.take r.1.toNat).filter λj=>Ol b n q j&&Ox d j.1).length:Int)/\PC r.2.1 λj=>w j\/(j∈L.take r.1.toNat/\Ol b n q j=true)) (λr=>((L.length:Int)-r.1).toNat)
  ⟨Ak _,by dsimp only;omega,rfl,by simp,hm.congr λj=>by simp⟩ (λr Z=>?_)
 obtain⟨a,E,F,s4⟩:=r;obtain⟨U,i2,V,C,z⟩:=Z;dsimp only at U i2 V C z;subst V;unfold Uh;dsimp only;rw[hL];refine AC (λf=>?_) (λf=>AA ?_);simp only[len]at f;have X:=AY (x:=a+1);rw[X];refine AB (AK U f) λv R=>?_;rw[gr,AE];have o:L.take (a+1).toNat=L.take a.toNat++[v]:=by rw[show(a+1).toNat=a.toNat+1 by omega,Ed,R.1];rfl
 have P:Ol b n q v=false->(0<=a+1/\a+1<=L.length/\(([],0):List EN×Int)=([],0)/\F=u+(((L.take (a+1).toNat).filter λj=>Ol b n q j&&Ox d j.1).length:Int)/\PC E λj=>w j\/(j∈L.take (a+1).toNat/\Ol b n q j=true))/\((L.length:Int)-(a+1)).toNat<((L.length:Int)-a).toNat:=λy=>by
  refine⟨⟨by omega,by omega,rfl,?_,?_⟩,by omega⟩;rw[o,IZ,C];simp[y];rw[o];refine z.congr λj=>⟨?_,?_⟩
  rintro(h|h);exact .inl h;exact .inr ⟨At.2 (.inl h.1),h.2⟩;rintro(h|⟨h,p⟩);exact .inl h;rcases At.1 h with h|h;exact .inr ⟨h,p⟩;rw[BE.1 h,y]at p;cases p
 refine AI (λG=>?_) (λG=>AA (P (by simp[Ol,G])));refine AI (λH=>?_) (λH=>AA (P (by simp[Ol,H])));refine AI (λI=>?_) (λI=>AA (P (by unfold Ol;rw[I];simp)));refine AO (λJ=>AA (P (by unfold Ol;rw[J];simp))) (λJ=>?_);have y:Ol b n q v=true:=by unfold Ol;rw[G,H,I,J];rfl
 have O:ix l 0=some d:=by unfold ix;rw[if_pos (Ak _)];exact Y
 rw[O,AE,has_eq,AE];obtain⟨M,A⟩:=S v R.2 y;have t:PC (TG v.1 v E) λj=>w j\/(j∈L.take (a+1).toNat/\Ol b n q j=true):=by
  rw[o];refine z.put.congr λj=>⟨?_,λh=>?_⟩
  rintro(rfl|⟨h|h,_⟩);exact .inr ⟨At.2 (.inr (BE.2 rfl)),y⟩;exact .inl h;exact .inr ⟨At.2 (.inl h.1),h.2⟩;by_cases g:j=v;exact .inl g;rcases h with h|⟨h,p⟩;exact .inr ⟨.inl h,λN=>g (A j (.inl h) N)⟩;rcases At.1 h with h|h;exact .inr ⟨.inr ⟨h,p⟩,λN=>g (A j (.inr ⟨KG h,p⟩) N)⟩;exact absurd (BE.1 h) g
 have T:(((L.take a.toNat).filter λj=>Ol b n q j&&Ox d j.1).length:Int)<=4096:=by have h1:=LZ (λj=>Ol b n q j&&Ox d j.1) (L.take a.toNat);have h3:=List.length_take_le' a.toNat L;omega
 have K:=AY (x:=F+1);rw[K];have B: ∀i:Bool,Ox d v.1=i->u+((((L.take (a+1).toNat).filter λj=>Ol b n q j&&Ox d j.1).length:Nat):Int)=F+(if i=true then 1 else 0):=λi hb=>by rw[o,IZ,Af,C];cases i<;>simp[y,hb]<;>omega
 refine AI (λD=>?_) (λD=>AA ⟨⟨by dsimp only;omega,by dsimp only;omega,rfl,?_,t⟩,by dsimp only;omega⟩);have hg:Pk v.1 E=some v:=z.get (.inl (M D));rw[hg];simp only[Option.isSome_some,Ds,cond_false,gg,beq_self_eq_true,Rj];refine AA ⟨⟨by dsimp only;omega,by dsimp only;omega,rfl,?_,t⟩,by dsimp only;omega⟩;rw[B true D];rfl;rw[B false D];simp;simp only[len]at f;rw[Bs (by omega)]at C z;exact⟨E,F,rfl,z,C⟩
def Jc(low:Int)(rs:List AT):List EN:=(rs.filter λr=>r.2.2.1==low).flatMap λr=>r.2.2.2.2.2
theorem ADy{sp:Int×Int}(Z:l[0]? =some sp)(hm:PC s w)
  (U:o.length=g.length) (T:o.length<=256) (hr: ∀r∈o,r.2.2.2.2.2.length<=4096)
  (hc: ∀v∈Jc j.1 o,Ol b n q v=true->(Ox sp v.1=true->w v)/\ ∀p,(w p\/(p∈Jc j.1 o/\Ol b n q p=true))->p.1=v.1->p=v):
  A3 (Ad (Ug (c,(e,(b,(n,q)))) l j (o,g)) (0,(s,(0,([],0))))) λX=> ∃m W,X= .inl (m,(W,([],0)))/\PC m (λp=>w p\/(p∈Jc j.1 o/\Ol b n q p=true))/\W=(((Jc j.1 o).filter λp=>Ol b n q p&&Ox sp p.1).length:Int):=by
 have B: ∀k:Nat,(Jc j.1 (o.take k)).length<=k*4096:=by
  intro k;induction k with
  |zero=>simp[Jc]
  |succ k ih=>rw[Ed];grind[Jc,List.length_append,Nat.succ_mul,Nat.add_le_add]
 refine AQ (λ(E:Int×(List (Int×EN)×(Int×(List EN×Int))))=>0<=E.1/\E.1<=o.length/\E.2.2.2=([],0)/\E.2.2.1=(((Jc j.1 (o.take E.1.toNat)).filter λp=>Ol b n q p&&Ox sp p.1).length:Int)/\PC E.2.1 λp=>w p\/(p∈Jc j.1 (o.take E.1.toNat)/\Ol b n q p=true)) (λE=>((o.length:Int)-E.1).toNat)
  ⟨Ak _,by dsimp only;omega,rfl,by simp[Jc],hm.congr λp=>by simp[Jc]⟩ (λE hI=>?_)
 have⟨d,s2,S,s4⟩:=E;have⟨R,i2,V,C,D⟩:=hI;dsimp only at R i2 V C D;subst V;unfold Ug;dsimp only;refine AC (λa=>?_) (λa=>AA ?_);simp[len]at a;have Y:=AY (x:=d+1);rw[Y];refine AB (AK R a) λv G=>?_;have t:o.take (d+1).toNat=o.take d.toNat++[v]:=by rw[show(d+1).toNat=d.toNat+1 by omega,Ed,G.1];rfl
 refine AI (λF=>?_) (λF=>AA ⟨⟨by dsimp only;omega,by dsimp only;omega,rfl,?_,?_⟩,by dsimp only;omega⟩);refine AB (AK R) λad _=>?_;have u: ∀p∈v.2.2.2.2.2,p∈Jc j.1 o:=λp P=>HS.2 ⟨v,Bq.2 ⟨G.2,F⟩,P⟩;have z: ∀p∈Jc j.1 (o.take d.toNat),p∈Jc j.1 o:=λp P=>by have⟨r,L,M⟩:=HS.1 P;have⟨N,O⟩:=Bq.1 L;exact HS.2 ⟨r,Bq.2 ⟨KG N,O⟩,M⟩
 have K:0<=S/\S<=1099511627776:=by
  have h1:=LZ (λp=>Ol b n q p&&Ox sp p.1) (Jc j.1 (o.take d.toNat));have h2:=B d.toNat
  omega
 have f:Jc j.1 (o.take d.toNat++[v])=Jc j.1 (o.take d.toNat)++v.2.2.2.2.2:=by grind[Jc]
 refine AB (ADz (hr v G.2) Z D K λi hw Q=>?_) ?_;have⟨q1,q2⟩:=hc i (u i hw) Q;refine⟨λh=>.inl (q1 h),λp P H=>q2 p ?_ H⟩;rcases P with(P|⟨P,y⟩)|⟨P,y⟩;exact .inl P;exact .inr ⟨z p P,y⟩;exact .inr ⟨u p P,y⟩;rintro X ⟨m,W,rfl,I,J⟩;refine BH (AA ⟨⟨by dsimp only;omega,by dsimp only;omega,rfl,?_,?_⟩,by dsimp only;omega⟩);dsimp only;rw[t,f,J,C,IZ,Af];omega;dsimp only;rw[t,f];refine I.congr λp=>?_;rw[At];constructor;rintro((h|⟨h,A⟩)|⟨h,A⟩);exact .inl h;exact .inr ⟨.inl h,A⟩;exact .inr ⟨.inr h,A⟩;rintro(h|⟨h|h,A⟩);exact .inl (.inl h);exact .inl (.inr ⟨h,A⟩);exact .inr ⟨h,A⟩;have f:Jc j.1 (o.take d.toNat++[v])=Jc j.1 (o.take d.toNat):=by unfold Jc;rw[IZ,fE];simp[F]
 dsimp only;rw[t,f];exact C;have f:Jc j.1 (o.take d.toNat++[v])=Jc j.1 (o.take d.toNat):=by unfold Jc;rw[IZ,fE];simp[F]
 dsimp only;rw[t,f];exact D;simp[len]at a;rw[Bs (by omega)]at C D;exact⟨s2,S,rfl,D,C⟩
def VT:(a.map (·.1)).Nodup-> ∀{l b:EN},l∈a->b∈a->l.1=b.1->l=b:=by
 induction a with
 |nil=>intro _ l b d;cases d
 |cons p r f=>intro e l b d c h;rw[Be,Fz]at e;rcases A1.1 d with d|d;rcases A1.1 c with c|c;rw[d,c];exact absurd (by rw[<-d,h];exact Vj c) e.1;rcases A1.1 c with c|c;exact absurd (by rw[<-c,<-h];exact Vj d) e.1;exact f e.2 d c h
def ABJ(i:CP d){l:List EN}(h:l.length<=d)(t:l.length<=16777216)(hn:(l.map (·.1)).Nodup):A3 (oG CW l) λr=>r.Perm l/\r.Pairwise λa b=>a.1<b.1:=by
 have key: ∀m,l.Perm m-> ∃r,CW m ()=some r/\r.Perm l/\r.Pairwise λa b=>a.1<=b.1:=λm e=>by obtain⟨r,B,c,g⟩:=ABd i (l:=m) (by rw[<-e.length_eq];exact h) (by rw[<-e.length_eq];exact t);exact⟨r,B,c.trans e.symm,g⟩
 have uniq: ∀r s:List EN,r.Perm l->s.Perm l->(r.Pairwise λa b=>a.1<=b.1)->(s.Pairwise λa b=>a.1<=b.1)->r=s:=λr s hr j u v=>by refine pD (le:=λa b=>a.1<=b.1) ?_ u v (hr.trans j.symm);intro a b p q B c;exact VT hn (hr.subset p) (j.subset q) (by omega)
 obtain⟨r,B,c,g⟩:=key l (List.Perm.refl l);refine⟨r,?_,c,?_⟩;unfold oG;rw[if_pos];exact B;intro m e;obtain⟨s,k,n,o⟩:=key m e;rw[k,B,uniq s r n c o g];have f:(r.map (·.1)).Nodup:=(c.map (·.1)).nodup_iff.2 hn;rw[Nx,Tl]at f;exact(g.and f).imp λh=>by omega
def pu: ∀(n:Nat) (i:Int) (l:List Int),l.Nodup->(∀x∈l,i<x/\x<=i+n)->l.length<=n
 |0,i,l,_,h=>by
  cases l with
  |nil=>exact Ag _
  |cons a r=>have:=h a (A1.2 (.inl rfl));omega
 |n+1,i,l,hl,h=>by
  have d:=pu n i (l.erase (i+(n+1:Nat))) (hl.erase _) λx c=>by have b:=(hl.mem_erase_iff).1 c;have:=h x b.2;have:=b.1;omega
  have e:l.length<=(l.erase (i+(n+1:Nat))).length+1:=by rw[List.length_erase];split<;>omega
  omega
def Ve(i:Int)(s:List EN):Prop:= ∀(k:Nat) (e:EN),s[k]? =some e->(k=0->e.2.2.2.2.1<=i)/\ ∀f,0<k->s[k-1]? =some f->e.2.2.2.2.1=f.1
def ADx(O:a.length≤16777216):
  A3 (Ad (OV (c,(e,(b,(n,q)))) a) (0,([],0))) λr=>(r= .inl ([],0)/\Ve n a)\/(r= .inr ([],13)/\ ¬Ve n a):=by
 refine AQ (λ(t:Int×(List EN×Int))=>0<=t.1/\t.1<=a.length/\t.2=([],0)/\ ∀(k:Nat) (i:EN),k<t.1->a[k]? =some i->(k=0->i.2.2.2.2.1<=n)/\ ∀f,0<k->a[k-1]? =some f->i.2.2.2.2.1=f.1) (λt=>((a.length:Int)-t.1).toNat)
  ⟨Ak _,by dsimp only;omega,rfl,λk i F=>(by dsimp only at F;omega)⟩ (λt K=>?_)
 obtain⟨p,P⟩:=t;obtain⟨C,L,G,D⟩:=K;dsimp only at C L G D;subst G;unfold OV;dsimp only;refine AC (λs=>?_) (λs=>AA (.inl ⟨rfl,λk i d=>D k i ?_ d⟩));simp only[len]at s;have I:=AY (x:=p+1);rw[I];refine AB (AK C s) λM _=>?_;refine AB (AK C s) λv h=>?_;have o:((p=0->v.2.2.2.2.1<=n)/\ ∀f,0<p->a[p.toNat-1]? =some f->v.2.2.2.2.1=f.1)->(0<=p+1/\p+1<=a.length/\(([],0):List EN×Int)=([],0)/\ ∀(k:Nat) (i:EN),k<p+1->a[k]? =some i->(k=0->i.2.2.2.2.1<=n)/\ ∀f,0<k->a[k-1]? =some f->i.2.2.2.2.1=f.1)/\((a.length:Int)-(p+1)).toNat<((a.length:Int)-p).toNat:=λE=>by
  refine⟨⟨by omega,by omega,rfl,λk i F d=>?_⟩,by omega⟩;by_cases B:(k:Int)<p;exact D k i B d;have H:k=p.toNat:=by omega
  subst H;rw[h.1]at d;injection d with d;subst d;exact⟨λy=>E.1 (by omega),λf y g=>E.2 f (by omega) g⟩
 apply AU<;>intro y;refine AC (λu=>AA (.inr ⟨rfl,λA=>?_⟩)) (λu=>?_);have:=(A p.toNat v h.1).1 (by omega);omega;refine AC (λm=>absurd m (by omega)) (λ_=>AA (o ⟨λ_=>by omega,λf g=>absurd g (by omega)⟩));refine AC (λu=>?_) (λu=>absurd u (by omega));have w:=AY (x:=p-1);rw[w];refine AB (AK) λN _=>?_;refine AB (AK) λj z=>?_;have l:a[p.toNat-1]? =some j:=by rw[show p.toNat-1=(p-1).toNat by omega];exact z.1
 refine AL (λm=>AA (.inr ⟨rfl,λA=>m ((A p.toNat v h.1).2 j (by omega) l)⟩)) (λm=>AA (o ⟨λJ=>absurd J y,λf _ g=>?_⟩));rw[l]at g;injection g with g;rw[<-g];exact m;simp only[len]at s;have:=(To.1 d).1;omega
def AD0(l:a.length≤16777216):
  A3 (Ad (OV (c,(e,(b,(n,q)))) a) (0,([],0))) λr=>(r= .inl ([],0)/\Ve n a)\/(r= .inr ([],13)/\ ¬Ve n a):=ADx l
def S7(l:Aj)(low:Int)(rs:List AT):List (Int×Int):=(l.1,l.1+l.2.1.length-1)::(rs.filter λr=>r.2.2.1==low).map λr=>(r.1,r.2.1)
def th(B:Du e)(m:Gy (c,b)=some j)(C:j.2.2=true)(n:JW c=some (o,g))(u:o.length=g.length)(q:o.length≤256):
  OX (c,(e,b))=some (S7 e j.1 o):=by
 obtain⟨G,y,z⟩:=kY B;unfold OX;dsimp only;rw[y,AE,m,AE,C,Ds,cond_false,n,AE,z];have d:A3 (Ad (Ra j (o,g)) (0,([(e.1,e.1+e.2.1.length-1)]:List (Int×Int)))) λr=>r=S7 e j.1 o:=by
  refine AQ (λ(t:Int×List (Int×Int))=>0<=t.1/\t.1<=o.length/\t.2.length<=t.1.toNat+1/\t.2=S7 e j.1 (o.take t.1.toNat)) (λt=>((o.length:Int)-t.1).toNat) ⟨Ak _,by dsimp only;omega,by simp,rfl⟩ (λt A=>?_);obtain⟨i,F⟩:=t;obtain⟨l,D,E,k⟩:=A;dsimp only at l D E k;unfold Ra;dsimp only;refine AC (λp=>?_) (λp=>AA ?_);simp only[len]at p;have w:=AY (x:=i+1);rw[w];refine AB (AK l p) λv h=>?_;have f:o.take (i+1).toNat=o.take i.toNat++[v]:=by rw[show(i+1).toNat=i.toNat+1 by omega,Ed,h.1];rfl
  refine AI (λa=>?_) (λa=>AA ⟨⟨by dsimp only;omega,by dsimp only;omega,by dsimp only;omega,?_⟩,by dsimp only;omega⟩);refine AB (AK l) λH _=>?_;refine AB (Ae (by simp only[CD,CT];omega)) λI s=>AA ⟨⟨by dsimp only;omega,by dsimp only;omega,?_,?_⟩,by dsimp only;omega⟩;have:=s.2.1;simp only[CD,CT]at this;dsimp only;omega;dsimp only;rw[s.1,k,f];unfold S7;rw[IZ,MB,pH (by exact a)];rfl;dsimp only;rw[k,f];unfold S7;rw[IZ,pG (by rw[a];decide)];simp;simp only[len]at p;rw[k,Bs (by omega)]
 obtain⟨r,q1,q2⟩:=d;rw[q1,AE,q2]
def jT:(a.map (·.1)).Nodup->a.Nodup:=by
 induction a with
 |nil=>intro _;exact Ny
 |cons p r b=>intro l;rw[Be,Fz]at l;exact Fz.2 ⟨λh=>l.1 (Vj h),b l.2⟩
def Du.nodup(h:Du e):(e.2.1.map (·.1)).Nodup:=by obtain⟨l1,l2,i,j,k,a⟩:=h;rw[Nx,Tl,KH];intro x y b d c g;have l:=(a x _ (Aw b)).1;have f:=(a y _ (Aw d)).1;omega
def Du.has(h:Du e)(a:p∈e.2.1):Ox (e.1,e.1+e.2.1.length-1) p.1=true:=by obtain⟨k,b,a⟩:=Tj.1 a;have c:=(h.2.2.2.2.2 k p (by rw[<-a];exact Aw b)).1;unfold Ox;simp only[BN,decide_eq_true_eq];omega
structure ABq(l:Aj)(low p i j:Int)(rs:List AT):Prop where
 fromLog: ∀f∈Jc low rs,Ol p i j f=true->Ox (l.1,l.1+l.2.1.length-1) f.1=true->f∈l.2.1
 inRuns: ∀e∈l.2.1,Ol p i j e=true->((rs.filter λr=>r.2.2.1==low).any λr=>Ox (r.1,r.2.1) e.1)=true->e∈Jc low rs
 own: ∀r∈rs,∀f∈r.2.2.2.2.2,Ox (r.1,r.2.1) f.1=true
 once:((Jc low rs).map (·.1)).Nodup
def AEU(V:CP d)(hB:d≤16777216)(ao:q-n≤d)(hi:0≤n)(hj:n≤q)
  (h:VB c) (D:Du e) (hp:0<=b/\b<c.2.1) (L:Gy (c,b)=some j) (ht:j.2.2=true) (N:JW c=some (o,g)) (w:o.length=g.length) (t:o.length<=256)
  (hr: ∀r∈o,r.2.2.2.2.2.length<=4096) (W:La (S7 e j.1 o,q)=some u) (z:ABq e j.1 b n q o):
  A3 (Li (c,(e,(b,(n,q))))) λr=>(u>n/\r=([],42))\/(u<=n/\ ∃s:List EN,(s.Pairwise λx y=>x.1<y.1)/\(∀a,a∈s↔(a∈e.2.1\/a∈Jc j.1 o)/\Ol b n q a=true)/\((Ve n s/\r=(s,0))\/(¬Ve n s/\r=([],13)))):=by
 have K:=D.nodup;unfold Li;dsimp only;refine AB (XV (x:=(c,(e,(b,n)))) h D ⟨hp.1,hp.2,hi⟩) λv0 h0=>?_;refine AL (λk=>absurd h0 k) (λ_=>?_);refine AC (λk=>absurd k (by omega)) (λ_=>?_);rw[th D L ht N w t,AE,W,AE];refine AC (λhf=>AA (.inl ⟨hf,rfl⟩)) (λhf=>?_);refine AB (ADv D (by simp[S7]) (by have:=LZ (λr:AT=>r.2.2.1==j.1) o;simp only[S7,CD,Da];omega)) λal H=>?_;rw[L,AE,ht,Ds,cond_false,N,AE];have hP: ∀v∈Jc j.1 o,Ol b n q v=true->(Ox (e.1,e.1+e.2.1.length-1) v.1=true->(v∈e.2.1/\Ol b n q v=true))/\ ∀a,((a∈e.2.1/\Ol b n q a=true)\/(a∈Jc j.1 o/\Ol b n q a=true))->a.1=v.1->a=v:=λv hv E=>by refine⟨λk=>⟨z.fromLog v hv E k,E⟩,λa P A=>?_⟩;rcases P with⟨P,_⟩|⟨P,_⟩;have ad:=z.fromLog v hv E (by rw[<-A];exact D.has P);exact VT K P ad A;exact VT z.once P hv A
 apply AB (ADy (sp:=(e.1,e.1+e.2.1.length-1)) rfl H.2 w t hr hP);rintro l ⟨m,p,rfl,B,hn⟩;apply BH;dsimp only;have f:al.1=p:=by
  rw[H.1,hn];refine congrArg Int.ofNat (List.Perm.length_eq ?_)
  refine(gZ ((jT K).filter _) ((jT z.once).filter _)).2 λa=>?_;rw[Bq,Bq];simp only[BN];have I:((S7 e j.1 o).tail.any λs=>Ox s a.1)=((o.filter λr=>r.2.2.1==j.1).any λr=>Ox (r.1,r.2.1) a.1):=by unfold S7;rw[List.tail_cons,List.any_map];rfl
  rw[I];constructor;rintro⟨F,G,S⟩;exact⟨z.inRuns a F G S,G,D.has F⟩;rintro⟨F,G,S⟩;obtain⟨r,M,Y⟩:=HS.1 F;exact⟨z.fromLog a F G S,G,jw.2 ⟨r,M,z.own r (Bq.1 M).1 a Y⟩⟩
 refine AL (λk=>absurd f k) (λ_=>?_);have J: ∀l∈m,Ol b n q l.2=true:=λl R=>by
  have:(l.2.1,l.2)∈m:=by rw[<-B.2.1 l R];exact R
  rcases(B.2.2 l.2).1 this with i|i;exact i.2;exact i.2
 have X:m.length<=d:=by
  have:=pu (q-n).toNat n (m.map (·.1)) B.1 λx hx=>by obtain⟨l,R,rfl⟩:=Br.1 hx;have E:=J l R;have hk:=B.2.1 l R;unfold Ol at E;simp only[BN,decide_eq_true_eq]at E;omega
  rw[Da]at this;omega
 refine AC (λ_=>?_) (λk=>absurd k (by show¬ ¬((m.length:Int)<=16777216);omega));have C:((m.map (·.2)).map (·.1))=m.map (·.1):=by rw[Nw];exact MC λl R=>(B.2.1 l R).symm
 refine AB (ABJ V (l:=m.map (·.2)) (by rw[Da];exact X) (by rw[Da];omega) (by rw[C];exact B.1)) λs Q=>?_;have Z:s.length=m.length:=by rw[Q.1.length_eq,Da]
 have U:Nat.beq (List.length s) (List.length m)=true:=by rw[Z];exact JT _
 rw[U,cond_true];have O: ∀a,a∈s↔(a∈e.2.1\/a∈Jc j.1 o)/\Ol b n q a=true:=λa=>by
  rw[Q.1.mem_iff];constructor;intro P;obtain⟨l,R,rfl⟩:=Br.1 P;have:(l.2.1,l.2)∈m:=by rw[<-B.2.1 l R];exact R
  rcases(B.2.2 l.2).1 this with i|i;exact⟨.inl i.1,i.2⟩;exact⟨.inr i.1,i.2⟩;rintro⟨i,g'⟩;exact Br.2 ⟨(a.1,a),(B.2.2 a).2 (i.imp (λi=>⟨i,g'⟩) (λi=>⟨i,g'⟩)),rfl⟩
 refine AB (AD0 (by omega)) λr hr=>?_;rcases hr with⟨rfl,T⟩|⟨rfl,T⟩;exact BH (AA (.inr ⟨by omega,s,Q.2,O,.inl ⟨T,rfl⟩⟩));exact A9 (AA (.inr ⟨by omega,s,Q.2,O,.inr ⟨T,rfl⟩⟩))
def tf(c:a.Pairwise λx y=>x.1<y.1)(d:B.Pairwise λx y=>x.1<y.1)(h: ∀e,e∈a↔e∈B):a=B:=by have nd: ∀{u:List EN},(u.Pairwise λx y=>x.1<y.1)->u.Nodup:=λg=>Nx.2 (g.imp λh e=>by rw[e]at h;omega);have f:=(gZ (nd c) (nd d)).2 h;exact pD (le:=λs b=>s.1<b.1) (λs b _ _ i j=>by omega) c d f
structure cK(L:List EN)(r:AT):Prop where
 mem: ∀e,e∈r.2.2.2.2.2↔e∈L/\dd e=true/\r.2.2.1<=e.2.2.2.2.2.2.1.1/\e.2.2.2.2.2.2.1.1<=r.2.2.2.1/\r.1<=e.1/\e.1<=r.2.1
 nd:(r.2.2.2.2.2.map (·.1)).Nodup
def yE(p: ∀l,l∈e.2.1↔l∈a∧e.1≤l.1∧l.1≤e.1+e.2.1.length-1)(hr: ∀r∈o,cK a r)
  (t: ∀r∈o,r.2.2.1=b->b<=n/\n<=r.2.2.2.1) (h:(o.filter λr=>r.2.2.1==b).Pairwise λr s=>r.2.1<s.1\/s.2.1<r.1):ABq e b n q u o where
 fromLog f hf hw hh:=by obtain⟨r,c,g⟩:=HS.1 hf;have d:=((hr r (Bq.1 c).1).mem f).1 g;unfold Ox at hh;simp only[BN,decide_eq_true_eq]at hh;exact(p f).2 ⟨d.1,by omega⟩
 inRuns l L hw ha:=by obtain⟨r,c,g⟩:=jw.1 ha;have d:=Bq.1 c;have k:r.2.2.1=b:=eq_of_beq d.2;have A:=t r d.1 k;unfold Ol at hw;unfold Ox at g;simp only[BN,decide_eq_true_eq,beq_iff_eq]at hw g;exact HS.2 ⟨r,c,((hr r d.1).mem l).2 ⟨((p l).1 L).1,hw.1,by omega⟩⟩
 own r hrr f hf:=by have d:=((hr r hrr).mem f).1 hf;unfold Ox;simp only[BN,decide_eq_true_eq];omega
 once:=by unfold Jc;rw[List.map_flatMap,Nx,List.pairwise_flatMap];refine⟨λr c=>Nx.1 (hr r (Bq.1 c).1).nd,?_⟩;refine pC ?_ h;intro r s c g d x j y v L;obtain⟨l,m,rfl⟩:=Br.1 j;obtain⟨f,i,rfl⟩:=Br.1 v;have w:=((hr r (Bq.1 c).1).mem l).1 m;have z:=((hr s (Bq.1 g).1).mem f).1 i;omega
def sT(hr: ∀r∈o,cK a r)(d: ∀r∈o,r.2.2.1=b→b≤n∧n≤r.2.2.2.1)(l:Ol n q u p=true):
  p∈Jc b o↔p∈a/\ ∃r∈o,r.2.2.1=b/\r.1<=p.1/\p.1<=r.2.1:=by
 unfold Ol at l;simp only[BN,decide_eq_true_eq,beq_iff_eq]at l;constructor;intro h;obtain⟨r,f,L⟩:=HS.1 h;obtain⟨c,k⟩:=Bq.1 f;have g:=((hr r c).mem p).1 L;exact⟨g.1,r,c,eq_of_beq k,g.2.2.2.2.1,g.2.2.2.2.2⟩;rintro⟨f,r,L,c,k,m⟩;have g:=d r L c;exact HS.2 ⟨r,Bq.2 ⟨L,by simp[c]⟩,((hr r L).mem p).2 ⟨f,l.1,by omega,by omega,k,m⟩⟩
def wq(a:AM)(l:Aj)(low n:Int):Prop:=(l.1<=n/\n<=l.1+l.2.1.length-1)\/ ∃e∈Fa a,e.1.2.2.1=low/\e.1.1<=n/\n<=e.1.2.1
def ACD(O:CP d)(hB:d≤16777216)(P:q-n≤d)(Y:0≤n)(Z:n≤q)(hJ:q≤1099511627776)
  (h:VB c) (hd:DS c) (J:Du e) (S:0<=b/\b<c.2.1) (G:Gy (c,b)=some j) (ht:j.2.2=true) (K:a.Pairwise λx y=>x.1<y.1) (B: ∀l,l∈e.2.1↔l∈a/\e.1<=l.1/\l.1<=e.1+e.2.1.length-1)
  (hR: ∀l∈Fa c,cK a l.1) (z:AAI (Fa c)) (T: ∀l∈Fa c,l.1.2.2.1=j.1->j.1<=b/\b<=l.1.2.2.2.1):
  ∃k,(0<=k/\k<=q/\(∀p,k<p->p<=q->wq c e j.1 p)/\(k=0\/ ¬wq c e j.1 k))/\O3 (c,(e,(b,(n,q))))=some (decide (k<=n))/\A3 (Li (c,(e,(b,(n,q))))) λr=>(k>n/\r=([],42))\/(k<=n/\((Ve n (a.filter (Ol b n q))/\r=(a.filter (Ol b n q),0))\/(¬Ve n (a.filter (Ol b n q))/\r=([],13)))):=by
 obtain⟨L,H,v,E,w2,rfl,w4,w5⟩:=ACO h hd (Xg h) z;have o: ∀r∈v.map (·.1),∃l∈Fa c,l.1=r:=λr hr=>by obtain⟨l,i,rfl⟩:=Br.1 hr;exact⟨l,E.mem_iff.1 i,rfl⟩
 have D: ∀r∈v.map (·.1),cK a r:=λr hr=>by obtain⟨l,i,rfl⟩:=o r hr;exact hR l i
 have C: ∀r∈v.map (·.1),r.2.2.1=j.1->j.1<=b/\b<=r.2.2.2.1:=λr hr=>by obtain⟨l,i,rfl⟩:=o r hr;exact T l i
 have U:((v.map (·.1)).filter λr=>r.2.2.1==j.1).Pairwise λr s=>r.2.1<s.1\/s.2.1<r.1:=by rw[List.filter_map,Tl];have R:v.Pairwise λx y=>x≠y:=Nx.1 (E.nodup_iff.2 (Xg h));refine pC ?_ (R.filter _);intro x y hx hy Q;obtain⟨x1,x2⟩:=Bq.1 hx;obtain⟨V,W⟩:=Bq.1 hy;exact z x (E.mem_iff.1 x1) y (E.mem_iff.1 V) Q ((eq_of_beq x2).trans (eq_of_beq W).symm)
 have ad:(S7 e j.1 (v.map (·.1))).length<=257:=by have:=LZ (λr:AT=>r.2.2.1==j.1) (v.map (·.1));rw[Da]at this;simp only[S7,CD,Da];omega
 have M:SpL (S7 e j.1 (v.map (·.1))):=by refine⟨by omega,λs f=>?_⟩;rcases A1.1 f with f|f;rw[f];exact J.1;obtain⟨r,hr,rfl⟩:=Br.1 f;obtain⟨l,i,rfl⟩:=Br.1 (Bq.1 hr).1;exact(w5 l i).1
 have m: ∀p,sL (S7 e j.1 (v.map (·.1))) p↔wq c e j.1 p:=λp=>by constructor;rintro⟨s,f,t,w⟩;rcases A1.1 f with f|f;rw[f]at t w;exact .inl ⟨t,w⟩;obtain⟨r,hr,rfl⟩:=Br.1 f;obtain⟨g1,I⟩:=Bq.1 hr;obtain⟨l,i,rfl⟩:=o r g1;exact .inr ⟨l,i,eq_of_beq I,t,w⟩;rintro(⟨t,w⟩|⟨l,i,h0,t,w⟩);exact⟨_,A1.2 (.inl rfl),t,w⟩;exact⟨(l.1.1,l.1.2.1),A1.2 (.inr (Br.2 ⟨l.1,Bq.2 ⟨Vj (E.mem_iff.2 i),by simp[h0]⟩,rfl⟩)),t,w⟩
 obtain⟨k,F,f1,f2,X,f4⟩:=uW M (u:=q) (by omega) hJ;refine⟨k,⟨f1,f2,λp t w=>(m p).1 (X p t w),f4.imp id λhh N=>hh ((m k).2 N)⟩,?_,?_⟩;obtain⟨v0,ev,hv⟩:=XV (x:=(c,(e,(b,n)))) h J ⟨S.1,S.2,Y⟩;unfold O3;dsimp only;rw[ev,AE,beq_iff_eq.2 hv,cond_true,decide_eq_true Z,cond_true,th J G ht H (by rw[Da,Da]) (by rw[Da];exact w4),AE,F,AE];refine(AEU O hB P Y Z h J S G ht H (by rw[Da,Da]) (by rw[Da];exact w4) (λr hr=>?_) F (yE B D C U)).mono λr hr=>?_;obtain⟨l,i,rfl⟩:=Br.1 hr;exact(w5 l i).2.2.2.2.2.2.2.2;rcases hr with hr|⟨hr,s,s1,s2,s3⟩;exact .inl hr;refine .inr ⟨hr,?_⟩;have f:s=a.filter (Ol b n q):=tf s1 (K.filter _) λl=>by rw[s2,Bq];constructor;rintro⟨g|g,A⟩;exact⟨((B l).1 g).1,A⟩;exact⟨((sT D C A).1 g).1,A⟩;rintro⟨g,A⟩;refine⟨?_,A⟩;have I:=A;unfold Ol at I;simp only[BN,decide_eq_true_eq]at I;rcases(m l.1).1 (X l.1 (by omega) (by omega))with N|⟨y,V,W,y3,y4⟩;exact .inl ((B l).2 ⟨g,N⟩);exact .inr ((sT D C A).2 ⟨g,y.1,Vj (E.mem_iff.2 V),W,y3,y4⟩)
 rw[<-f];exact s3
theorem BD.lt{n:Int}{l:List Int}(h:BD n l): ∀(d i:Nat) (x y:Int),l[i]? =some x->l[i+1+d]? =some y->x<y
 |0,i,x,y,hx,hy=>by have:=EB hy;exact h.2.2.2.2.2.1 i x y (by omega) hx hy
 |d+1,i,x,y,hx,hy=>by have e:=EB hy;have a:l[i+1+d]? =some (l[i+1+d]'(by omega)):=Aw (by omega);have b:=BD.lt h d i x _ hx a;have c:=h.2.2.2.2.2.1 (i+1+d) _ y (by omega) a (by grind);omega
theorem BD.le(h:BD n g){i j:Nat}(a:i<=j)(l:g[i]? =some b)(c:g[j]? =some q):b<=q:=by
 by_cases e:i=j;grind;obtain⟨d,rfl⟩: ∃d,j=i+1+d:=⟨j-(i+1),by omega⟩
 have:=h.lt d i b q l c;omega
def BD.mem(h:BD n g){x:Int}(a:g[d]? =some x):0<=x/\x<n:=by have f:=EB a;have b:g[g.length-1]? =some (g[g.length-1]'(by omega)):=Aw (by omega);have c:=h.le (Bt d) h.2.2.2.2.1 a;have l:=h.le (by omega:d<=g.length-1) a b;have e:=h.2.2.2.2.2.2 _ b;omega
def BD.inj{l:List Int}(h:BD n l){i j:Nat}{x:Int}(b:l[i]? =some x)(c:l[j]? =some x):i=j:=by
 rcases PJ i j with a|a|a;obtain⟨d,rfl⟩: ∃d,j=i+1+d:=⟨j-(i+1),by omega⟩
 have:=h.lt d i x x b c;omega;exact a;obtain⟨d,rfl⟩: ∃d,i=j+1+d:=⟨i-(j+1),by omega⟩
 have:=h.lt d j x x c b;omega
def sn(a:AM)(i:Nat):Int:=match a.1[i+1]? with
 |some h=>h-1
 |none=>a.2.1-1
def KC(a:AM)(lo hi:Int):Prop:= ∃i:Nat,a.1[i]? =some lo/\hi=sn a i
theorem yu(h:BD c.2.1 c.1)(i:d<c.1.length):(∀w,c.1[d+1]? =some w->wi (w-1)=sn c d)/\(c.1.length<=d+1->wi (c.2.1-1)=sn c d):=by refine⟨λw b=>?_,λa=>?_⟩;have:=h.mem b;have:=h.2.1;grind[sn,AY];have:=h.1;have:=h.2.1;grind[sn,List.getElem?_eq_none,AY]
theorem rj(h:BD c.2.1 c.1)(i:c.1[d]? =some b):Fm (c,(d:Int))=some (b,sn c d):=by
 have f:=EB i;have a:=h.2.2.2.1;have⟨j,k⟩:=yu h f;unfold Fm;rw[AY (x:=(d:Int)+1),(by unfold ix;rw[if_pos (by omega),Int.toNat_natCast,i]:ix c.1 (d:Int)=some b)];by_cases e:d+1<c.1.length;have g:ix c.1 ((d:Int)+1)=some c.1[d+1]:=by unfold ix;rw[if_pos (by omega),show((d:Int)+1).toNat=d+1 by omega,(List.getElem?_eq_getElem e)]
 grind;grind
theorem sA(h:BD c.2.1 c.1)(i:c.1[d]? =some b):JX (c,(d:Int))=some (b,sn c d):=by
 have f:=EB i;have a:=h.2.2.2.1;have⟨j,k⟩:=yu h f;unfold JX;rw[AY (x:=(d:Int)+1),(by unfold ix;rw[if_pos (by omega),Int.toNat_natCast,i]:ix c.1 (d:Int)=some b)];by_cases e:d+1<c.1.length;have g:ix c.1 ((d:Int)+1)=some c.1[d+1]:=by unfold ix;rw[if_pos (by omega),show((d:Int)+1).toNat=d+1 by omega,(List.getElem?_eq_getElem e)]
 grind;grind
theorem tP{r:AT}(h:BD c.2.1 c.1):A3 (GW (c,r)) λk=>0<=k↔KC c r.2.2.1 r.2.2.2.1:=by
 have g:=h.2.2.2.1;refine AB (P:=λq=>(∃k:Int,q= .inl k/\0<=k/\KC c r.2.2.1 r.2.2.2.1)\/(q= .inr ()/\ ¬KC c r.2.2.1 r.2.2.2.1)) ?_ λq p=>?_
 ·refine Gf (λ(s:Int)=>0<=s/\s<=c.1.length/\ ∀i:Nat,(i:Int)<s-> ¬(c.1[i]? =some r.2.2.1/\r.2.2.2.1=sn c i)) (λs=>((c.1.length:Int)-s).toNat) ⟨Ak _,by omega,λi m=>by omega⟩ (λs j=>?_);have⟨e,t,u⟩:=j;unfold Ja;dsimp[len];refine AC (λl=>?_) (λl=>A3.done (.inr ⟨rfl,?_⟩))
  ·obtain⟨k,rfl⟩:=Ei e;rw[rj h (Aw (by omega)),AE,AY];have f: ¬(c.1[k]? =some r.2.2.1/\r.2.2.2.1=sn c k)->A3 (some (Step.next ((k:Int)+1)):Option (Step Int (Int ⊕ Unit))) (XJ (λ(s:Int)=>0<=s/\s<=c.1.length/\ ∀i:Nat,(i:Int)<s-> ¬(c.1[i]? =some r.2.2.1/\r.2.2.2.1=sn c i)) (λs=>((c.1.length:Int)-s).toNat) ((c.1.length:Int)-(k:Int)).toNat λq=>(∃k:Int,q= .inl k/\0<=k/\KC c r.2.2.1 r.2.2.2.1)\/(q= .inr ()/\ ¬KC c r.2.2.1 r.2.2.2.1)):=λhn=>by
    refine A3.next ⟨by omega,by omega,λi m=>?_⟩ (by omega)
    grind
   refine AU (λb=>?_) (λb=>f λd=>b ?_)
   ·refine AU (λa=>A3.done (.inl ⟨_,rfl,e,k,?_,?_⟩)) (λa=>f λd=>a d.2.symm);grind;grind
   grind
  rintro⟨i,n,o⟩;grind
 grind[BH,AA,A9]
theorem zI{r:AT}(h:BD c.2.1 c.1):A3 (Lg (c,r)) λk=>0<=k↔KC c r.2.2.1 r.2.2.2.1:=by
 have g:=h.2.2.2.1;refine AB (P:=λq=>(∃k:Int,q= .inl k/\0<=k/\KC c r.2.2.1 r.2.2.2.1)\/(q= .inr ()/\ ¬KC c r.2.2.1 r.2.2.2.1)) ?_ λq p=>?_
 ·refine Gf (λ(s:Int)=>0<=s/\s<=c.1.length/\ ∀i:Nat,(i:Int)<s-> ¬(c.1[i]? =some r.2.2.1/\r.2.2.2.1=sn c i)) (λs=>((c.1.length:Int)-s).toNat) ⟨Ak _,by omega,λi m=>by omega⟩ (λs j=>?_);have⟨e,t,u⟩:=j;unfold PQ;dsimp[len];refine AC (λl=>?_) (λl=>A3.done (.inr ⟨rfl,?_⟩))
  ·obtain⟨k,rfl⟩:=Ei e;rw[sA h (Aw (by omega)),AE,AY];have f: ¬(c.1[k]? =some r.2.2.1/\r.2.2.2.1=sn c k)->A3 (some (Step.next ((k:Int)+1)):Option (Step Int (Int ⊕ Unit))) (XJ (λ(s:Int)=>0<=s/\s<=c.1.length/\ ∀i:Nat,(i:Int)<s-> ¬(c.1[i]? =some r.2.2.1/\r.2.2.2.1=sn c i)) (λs=>((c.1.length:Int)-s).toNat) ((c.1.length:Int)-(k:Int)).toNat λq=>(∃k:Int,q= .inl k/\0<=k/\KC c r.2.2.1 r.2.2.2.1)\/(q= .inr ()/\ ¬KC c r.2.2.1 r.2.2.2.1)):=λhn=>by
    refine A3.next ⟨by omega,by omega,λi m=>?_⟩ (by omega)
    grind
   refine AU (λb=>?_) (λb=>f λd=>b ?_)
   ·refine AU (λa=>A3.done (.inl ⟨_,rfl,e,k,?_,?_⟩)) (λa=>f λd=>a d.2.symm);grind;grind
   grind
  rintro⟨i,n,o⟩;grind
 grind[BH,AA,A9]
def Good(a:AM)(f:BP)(r:AT):Prop:=f.1=1/\f.2.2=OU r/\VR r/\KC a r.2.2.1 r.2.2.2.1
def Bad(f:BP):Prop:=f.2.2.length<=1099511627776/\ ∀r,WR r->f.2.2≠OU r
theorem Good.intact{r:AT}(h:Good c i r)(e:BD c.2.1 c.1):Gc (c,i)=some (r,true):=by have⟨b,a,d,g⟩:=h;have⟨k,k1,f⟩:=zI (r:=r) e;unfold Gc;rw[b,a,bne_self_eq_false,cond_false,AC1 d,AE,show(((r,(0:Int)):AT×Int).2==0)=true from rfl,cond_true];grind
def Good.intR(h:Good c i k)(b:BD c.2.1 c.1):intR c i=some (k,i.2.1):=by unfold Go.Pm.intR;rw[h.intact b]
theorem Good.ref{a:AM}{r:AT}(h:Good a i r)(g:BD a.2.1 a.1): ∃k,Dz (a,i)=some (r,k)/\0<=k:=by have⟨b,c,d,e⟩:=h;have⟨k,k1,f⟩:=tP (r:=r) g;refine⟨k,?_,f.2 e⟩;unfold Dz;rw[b,c,bne_self_eq_false,cond_false,u7 d,AE,show(((r,(0:Int)):AT×Int).2 !=0)=false from rfl,cond_false];grind
theorem Bad.intR(h:Bad i)(d:BD c.2.1 c.1):intR c i=none:=by
 have key:A3 (Gc (c,i)) λr=>r.2=false:=by exact AL (λ_=>AA rfl) (λ_=>AB (AC2 h.1) λv b=>AU (λa=>absurd (b a).1 (h.2 _ (b a).2)) (λ_=>AA rfl))
 have⟨⟨r,o⟩,k1,e⟩:=key;grind[Go.Pm.intR]
theorem Bad.ref{a:AM}(h:Bad i): ∃r,Dz (a,i)=some (r,-1):=by
 have key:A3 (Dz (a,i)) λr=>r.2= -1:=by exact AL (λ_=>AA rfl) (λ_=>AB (ADC h.1) λv b=>AL (λ_=>AA rfl) (λc=>absurd (b c).1 (h.2 _ (b c).2.wr)))
 have⟨⟨r,o⟩,k1,d⟩:=key;grind
def yl{y:AT}(b:VR k)(c:VR y)(h:OU k=OU y):k=y:=by have a:=u7 b;rw[h,u7 c]at a;injection a with a;exact(Prod.ext_iff.1 a).1.symm
structure AR(L:List EN)(a:AM):Prop where
 vb:VB a
 files: ∀f∈a.2.2.1,Bad f\/ ∃r,Good a f r/\cK L r/\r.2.1<a.2.2.2.1
 dis:AAI (Fa a)
def AG(a:AM):Prop:= ∀f∈a.2.2.1,∃r,Good a f r
def RC(a:AM)(c:Nat):Prop:= ∀lo,((Fa a).filter λe=>e.1.2.2.1==lo).length<=c
theorem jf{b:Type}: ∀(l m:List b),l.Nodup->(∀x∈l,x∈m)->l.length<=m.length
 |[],m,_,_=>Bt _
 |a::l,m,hn,hs=>by
  obtain⟨s,t,rfl⟩:=List.append_of_mem (hs a (A1.2 (.inl rfl)));rw[Fz]at hn;have:=jf l (s++t) hn.2 λx c=>by grind
  grind
theorem AR.mem{a:AM}(h:AR B a)(g:x∈Fa a): ∃f∈a.2.2.1,Good a f x.1/\x.2=f.2.1/\cK B x.1/\x.1.2.1<a.2.2.2.1:=by have⟨f,i,b⟩:=PH.1 g;rcases h.files f i with d|⟨r,c,j,k⟩;rw[d.intR h.vb.1]at b;cases b;rw[c.intR h.vb.1]at b;grind
def T1(b:BD c.2.1 c.1)(a:i∈c.2.2.1)(h:Good c i k):(k,i.2.1)∈Fa c:=by exact PH.2 ⟨i,a,h.intR b⟩
def Good.size{a:AM}(h:Good a i k):i.2.2.length<=34406441:=by rw[h.2.1];exact h.2.2.1.len
def AR.sa(h:AR a c):SA c:=by have⟨⟨g,i,j,b,k,l,m⟩,a1,a2,a3,a4,a5,a6⟩:=h.vb;refine⟨b,by omega,λf e=>?_⟩;rcases h.files f e with d|⟨r,L,_⟩;exact d.1;have:=L.size;omega
def AR.ds(h:AR a c):DS c:=λf b=>by have:=h.sa.2.2 f b;omega
def KC.uniq(e:BD c.2.1 c.1)(p:KC c n b)(q:KC c n u):b=u:=by obtain⟨i,f,g⟩:=p;obtain⟨j,h,k⟩:=q;have:=e.inj f h;subst this;rw[g,k]
theorem uC(h:a.length<=16777000):A3 (FU (a,p)) λr=>r.1.length<=a.length+1/\((∀y,y∈r.1↔y∈a\/y=p)\/(r.1=a/\ ∃z∈a,z.1=p.1)):=by
 unfold FU;refine AB (O7 (x:=(a,p)) ⟨Ak _,by omega,by dsimp only;omega⟩) λe g=>?_;dsimp only at g⊢;have i:A3 (Option.bind (bu a 0 e) λj=>
  Option.bind (bu a e (len a)) λk=>
  Option.bind (app [] j) λm=>
  Option.bind (app m ([p]:List (Int×(Int×(Int×(Int×(Int×(Int×((Int×(Int×((Bool×Bb)×(Bool×Bb))))×Bb))))))))) λw=>
  Option.bind (app w k) λA=>
  some (A,true)) λr=>r.1.length<=a.length+1/\((∀y,y∈r.1↔y∈a\/y=p)\/(r.1=a/\ ∃z∈a,z.1=p.1)):=by
  refine AB (B9 (Ak _) g.1 g.2) λu l=>?_;refine AB (B9 g.1 (by simp[len];omega) (by simp only[len];omega)) λv o=>?_;have C:=l.2;have q:=o.2;simp[len]at q;refine AB (Ae (by simp;omega)) λj b=>?_;have s:=b.2.1;simp[CT]at s;refine AB (Ae (by simp;omega)) λk d=>?_;have t:=d.2.1;simp[CT,CD]at t;refine AB (Ae (by omega)) λm f=>AA ?_;have D:=f.2.1;refine⟨by dsimp only;omega,.inl λy=>?_⟩;have n:u=a.take e.toNat:=by rw[l.1];simp
  dsimp only;rw[f.1,d.1,b.1,n,(by grind[List.take_of_length_le,List.length_drop]:v=a.drop e.toNat),Cy];conv=>rhs;rw[<-Ee e.toNat a]
  grind[List.mem_singleton]
 refine AC (λB=>?_) (λ_=>i);simp[len]at B;refine AB (AK g.1 B) λE I=>?_;have⟨c,F,G,H⟩:=ABv E p;grind[AU,AB,AK,AA]
def Uq(L:List EN):Prop:= ∀x∈L,∀y∈L,x.1=y.1->x=y
def re(c:Uq a)(f: ∀x∈B,x∈a)(d:p∈a)(h:B.length<=16777000):A3 (FU (B,p)) λr=>r.1.length<=B.length+1/\ ∀y,y∈r.1↔y∈B\/y=p:=by
 refine(uC h).mono λr hr=>⟨hr.1,?_⟩
 rcases hr.2 with hr|⟨b,z,L,i⟩;exact hr;have:=c z (f z L) p d i;subst this;intro y;rw[b];exact⟨.inl,λg=>g.elim id λh=>h▸L⟩
def VR.sorted(h:VR k):k.2.2.2.2.2.Pairwise ui:=by
 rw[KH];have step: ∀d i:Nat,∀(a:i<k.2.2.2.2.2.length) (b:i+1+d<k.2.2.2.2.2.length),ui k.2.2.2.2.2[i] k.2.2.2.2.2[i+1+d]:=by
  intro d;induction d with
  |zero=>intro i a b;exact((h.2 (i+1) _ (Aw b)).2.2 _ (by omega) (Aw a)).1
  |succ d e=>intro i a b;exact xJ (e i a (by omega)) (((h.2 (i+1+(d+1)) _ (Aw b)).2.2 _ (by omega) (Aw (by omega:i+1+d<_))).1)
 intro i j a b c;have:=step (j-(i+1)) i a (by omega);simp[(by omega:i+1+(j-(i+1))=j)]at this;exact this
theorem VR.nd(b:Uq a)(h:VR k)(L: ∀e∈k.2.2.2.2.2,e∈a):(k.2.2.2.2.2.map (·.1)).Nodup:=by rw[Nx,Tl];refine h.sorted.imp_of_mem λ{x y} f g d c=>?_;have:=b x (L x f) y (L y g) c;grind[uj]
def VR.runOf(b:Uq a)(h:VR k)(L: ∀e,e∈k.2.2.2.2.2↔e∈a/\dd e=true/\k.2.2.1<=e.2.2.2.2.2.2.1.1/\e.2.2.2.2.2.2.1.1<=k.2.2.2.1/\k.1<=e.1/\e.1<=k.2.1):cK a k:=⟨L,h.nd b λe c=>((L e).1 c).1⟩
theorem ve:dd p=true↔p.2.1=1\/p.2.1=2:=by grind[dd]
theorem AAK{i:Int}(C:Uq a)(T: ∀e∈B,e∈a)(H:B.length≤16777000):
  A3 (Ad (JP (B,(b,(n,(q,(u,i)))))) (false,(0,(b,(n,(q,(u,(i,[])))))))) λr=> ∃F:List EN,r.2=(b,(n,(q,(u,(i,F)))))/\F.length<=B.length/\ ∀y,y∈F↔y∈B/\dd y=true/\q<=y.2.2.2.2.2.2.1.1/\y.2.2.2.2.2.2.1.1<=u/\b<=y.1/\y.1<=n:=by
 refine Gf (λ(s:Bool×(Int×AT))=> ∃(k:Nat) (F:List EN),s.2=((k:Int),(b,(n,(q,(u,(i,F))))))/\k<=B.length/\F.length<=k/\ ∀y,y∈F↔y∈B.take k/\dd y=true/\q<=y.2.2.2.2.2.2.1.1/\y.2.2.2.2.2.2.1.1<=u/\b<=y.1/\y.1<=n) (λs=>B.length-s.2.1.toNat)
  ⟨0,[],rfl,Bt _,Ag _,λy=>by simp⟩ ?_
 rintro⟨M,K⟩ ⟨k,F,rfl,I,J,g⟩;unfold JP;dsimp only;simp only[len];refine AC (λw=>?_) (λw=>A3.done ⟨F,rfl,by omega,by rw[Bs (by omega)]at g;exact g⟩);refine AB (AK (by omega) w) λv l=>?_;have A:=l.1;rw[Df]at A;have d:B.take (k+1)=B.take k++[v]:=by rw[Ed,A];rfl
 rw[AY]
 have c: ∀m:Bool,¬(dd v=true∧q≤v.2.2.2.2.2.2.1.1∧v.2.2.2.2.2.2.1.1≤u∧b≤v.1∧v.1≤n)→
   A3 (some (Step.next (m,((k:Int)+1,(b,(n,(q,(u,(i,F)))))))):Option (Step (Bool×(Int×AT)) (Bool×AT))) (XJ (λ(s:Bool×(Int×AT))=> ∃(k:Nat) (F:List EN),s.2=((k:Int),(b,(n,(q,(u,(i,F))))))/\k<=B.length/\F.length<=k/\ ∀y,y∈F↔y∈B.take k/\dd y=true/\q<=y.2.2.2.2.2.2.1.1/\y.2.2.2.2.2.2.1.1<=u/\b<=y.1/\y.1<=n) (λs=>B.length-s.2.1.toNat) (B.length-((k:Nat):Int).toNat)
    λr=> ∃F:List EN,r.2=(b,(n,(q,(u,(i,F)))))/\F.length<=B.length/\ ∀y,y∈F↔y∈B/\dd y=true/\q<=y.2.2.2.2.2.2.1.1/\y.2.2.2.2.2.2.1.1<=u/\b<=y.1/\y.1<=n):=λm hn=>by
  refine A3.next ⟨k+1,F,rfl,by omega,by omega,λy=>?_⟩ (by dsimp only;omega)
  grind[List.mem_singleton]
 refine AB B4 λL f=>?_;refine AO (λz=>c _ λj=>?_) (λD=>?_);rw[f.2 (ve.1 j.1)]at z;cases z;refine AC (λ_=>c _ λj=>by omega) (λq2=>?_);refine AC (λ_=>c _ λj=>by omega) (λq3=>?_);refine AC (λ_=>c _ λj=>by omega) (λq4=>?_);refine AC (λ_=>c _ λj=>by omega) (λq5=>?_);refine AB (QN ⟨Ak _,by dsimp only;omega⟩) λG _=>?_;refine AB (re C (λx E=>T x (KG ((g x).1 E).1)) (T v l.2) (by omega)) λt o=>?_;refine A3.next ⟨k+1,t.1,rfl,by omega,by omega,λy=>?_⟩ (by dsimp only;omega)
 rw[o.2,g,d,At,BE];constructor;rintro(⟨h,p⟩|h);exact⟨.inl h,p⟩;subst h;exact⟨.inr rfl,(ve.2 (f.1 D)),by omega⟩;rintro⟨h|h,p⟩;exact .inl ⟨h,p⟩;exact .inr h
def ACG{j:Int}(T:Uq a)(c: ∀e∈B,e∈a)(p:B.length<=16777000):A3 (I1 (B,(b,(n,(q,(u,j)))))) λr=>r.2=0->VR r.1/\ ∃L:List EN,r.1=(b,(n,(q,(u,(j,L)))))/\ ∀y,y∈L↔y∈B/\dd y=true/\q<=y.2.2.2.2.2.2.1.1/\y.2.2.2.2.2.2.1.1<=u/\b<=y.1/\y.1<=n:=by unfold I1;refine AB H9 λw _=>?_;refine AO (λ_=>AA λF=>absurd (show(1:Int)=0 from F) (by decide)) (λ_=>?_);refine AB (QM ⟨Ak _,by dsimp only;omega⟩) λx m=>?_;refine BA (λh i=>AA λF=>absurd F (m h i)) (λh i=>?_);refine AB (AAK T c p) λs d=>?_;have⟨L,k,v,l⟩:=d;refine AI (λ_=>AA λF=>absurd (show(41:Int)=0 from F) (by decide)) (λ_=>?_);refine AC (λ_=>AA λF=>absurd (show(21:Int)=0 from F) (by decide)) (λ_=>?_);refine AB Yq λt f=>?_;refine AO (λ_=>AA λF=>absurd (show(13:Int)=0 from F) (by decide)) (λo=>AA λ_=>⟨f.1 o,L,k,l⟩)
set_option maxHeartbeats 400000
theorem ACH{x:Int×List Int}(h:BD x.1 x.2):A3 (Hn x) λr=>r.2=0/\VB r.1/\r.1.2.1=x.1/\r.1.2.2.2.1=1:=by refine AB gl λl c=>?_;refine AO (λb=>(by rw[c.2 h]at b;cases b)) (λ_=>?_);have k:=h.2.2.2.1;refine AB (Ae (by simp;omega)) λm e=>AA ⟨rfl,⟨?_,by dsimp only;decide,by dsimp only;decide,by dsimp only;decide,by dsimp only;decide,by simp,⟨λi f d a=>by simp at a,λi f g d a j=>by simp at a⟩⟩,rfl,rfl⟩;grind
theorem FR.push{l m:List BP}{f:BP}{c:Int}(h:FR l c l.length)(v:1<=c)(r:f.2.1=c)(u:m=l++[f]):FR m (c+1) m.length:=by
 subst u;obtain⟨q,t⟩:=h;have p:(l++[f]).length=l.length+1:=by simp
 have b: ∀(i:Nat) (g:BP),¬i<l.length->(l++[f])[i]? =some g->g=f:=λi g j a=>by
  have o:=EB a;rw[p]at o;have s:i=l.length:=by omega
  subst s;rw[Cb (Ag _)]at a;simp at a;exact a.symm
 refine⟨λi g j a=>?_,λi g k j a n=>?_⟩;by_cases e:i<l.length;rw[B6 e]at a;have:=q i g (by omega) a;exact⟨this.1,by omega⟩;rw[b i g e a,r];exact⟨by omega,by omega⟩;rw[p]at j;have e:i<l.length:=by omega
 rw[B6 e]at a;by_cases d:i+1<l.length;rw[B6 d]at n;exact t i g k (by omega) a n;rw[b (i+1) k d n,r];exact(q i g (by omega) a).2
def AAP(h:SA v.1)(l:VB v.1):A3 (Eb v) λr=>r.2=0->SA r.1/\VB r.1/\r.1.2.1=v.1.2.1/\(r.1.2.2.2.1=v.1.2.2.2.1\/r.1.2.2.2.1<=v.2.1.2.2+1):=by
 unfold Eb;refine AB Nc λv0 O=>?_;refine AO (λ_=>AA λa=>absurd a (by decide)) (λd=>?_);obtain⟨a1,a2,a3,a4,a5,a6,a7,a8,a9⟩:=O d;refine AB Bo λv1 q=>?_;refine AO (λ_=>AA λa=>absurd a (by decide)) (λm=>?_);obtain⟨l1,l2,l3,l4,l5,Z⟩:=q.1 m;refine AC (λ_=>AA λa=>absurd a (by decide)) (λc1=>?_);refine AC (λ_=>AA λa=>absurd a (by decide)) (λc2=>?_);generalize S:(if(v.2.1.1>v.1.2.2.2.1)then v.2.1.1 else v.1.2.2.2.1)=F;have f1:v.2.1.1<=F/\v.1.2.2.2.1<=F/\F<=1099511627777:=by rw[<-S];split<;>omega
 have D:=AY (x:=F+v.2.2);have E:=AY (x:=F+v.2.2-1);rw[D,E];generalize T:(if(v.2.1.2.2<(F+v.2.2-1))then v.2.1.2.2 else(F+v.2.2-1))=G;have g1:G<=v.2.1.2.2/\G<=F+v.2.2-1:=by rw[<-T];split<;>omega
 refine AC (λ_=>AA λ_=>⟨h,l,rfl,.inl rfl⟩) (λc3=>?_);have H:=AY (x:=F-v.2.1.1);have I:=AY (x:=G-v.2.1.1);have J:=AY (x:=G-v.2.1.1+1);rw[H,I,J];have K:=AY (x:=len v.1.2.2.1+len v.1.1) (by simp only[len];omega);have L:=AY (x:=v.1.2.2.2.2+len v.1.1) (by simp only[len];omega);have M:=AY (x:=G+1);rw[K,L,M];have U:G<=1099511627776:=by
  have X:v.2.1.2.1.length≠0:=by omega
  obtain⟨i,n⟩: ∃i,v.2.1.2.1[v.2.1.2.1.length-1]? =some i:=⟨_,Aw (by omega)⟩
  have:=Z _ i n;have q:=this.1;have t:=this.2.2.1;omega
 refine AC (λ_=>AA λa=>absurd a (by decide)) (λB=>?_);refine AC (λ_=>AA λa=>absurd a (by decide)) (λC=>?_);simp only[len]at B C;refine AB (B9) λv2 t=>?_;have W:=t.2;refine AB (QO ⟨Ak _,by dsimp only;omega,by omega⟩) λv8 R=>?_;refine BA (λu b=>AA λa=>absurd a (R u b)) (λu b=>?_);refine AB (Ae (by simp;omega)) λad j=>?_;have c:=j.1;rw[Cy]at c;refine AB (P:=λr=>(∀u,r= .inl u->u.1≠0)/\ ∀u,r= .inr u->u.2.1=v.1.1/\u.1.length<=256/\(∀f∈u.1,f.2.2.length<=1099511627776)/\u.2.2.1=v.1.2.1/\u.2.2.2.2.1=v.1.2.2.2.2+v.1.1.length/\FR u.1 u.2.2.2.2.1 u.1.length) ?_ λr hr=>BA (λu b=>AA λa=>absurd a (hr.1 u b)) (λu b=>AA λ_=>?_);refine AQ (λ(s:Int×(List BP)×(List Int)×Int×Int×Int×AM)=>0<=s.1/\s.1<=v.1.1.length/\s.2.2.1=v.1.1/\(s.2.1.length:Int)=v.1.2.2.1.length+s.1/\(∀f∈s.2.1,f.2.2.length<=1099511627776)/\s.2.2.2.1=v.1.2.1/\s.2.2.2.2.2.1=v.1.2.2.2.2+s.1/\FR s.2.1 s.2.2.2.2.2.1 s.2.1.length) (λ(s:Int×(List BP)×(List Int)×Int×Int×Int×AM)=>((v.1.1.length:Int)-s.1).toNat) ⟨Ak _,by dsimp only;omega,rfl,by dsimp only;rw[c];omega,by dsimp only;rw[c];exact h.2.2,rfl,by dsimp only;omega,by dsimp only;rw[c];exact l.2.2.2.2.2.2⟩ (λs V=>?_);obtain⟨Y,i2,x,i4,y,z,i7,A⟩:=V;unfold Nb;have e:=AY (x:=s.1+1);rw[e];refine AC (λd=>?_) (λd=>AA ⟨λu b=>(by cases b),λu b=>(by cases b;simp only[len]at d;exact⟨x,by omega,y,z,by omega,A⟩)⟩);simp only[len]at d;refine AB (SD a4 ⟨Y,d⟩) λal _=>?_;refine AB (bk (by dsimp only;omega)) λao Q=>?_;refine AL (λd=>AA ⟨λu b=>(by cases b;exact d),λu b=>(by cases b)⟩) (λ_=>?_);refine AB Ye λap k=>?_;refine AB (Ae (by simp;omega)) λar g=>AA ?_;have p:=g.2.1;simp only[CD,CT]at p;have N:=AY (x:=s.2.2.2.2.2.1+1);rw[N];refine⟨⟨by dsimp only;omega,by dsimp only;omega,x,by dsimp only;omega,λf o=>?_,z,by dsimp only;omega,A.push (by omega) rfl g.1⟩,by dsimp only;omega⟩;dsimp only at o;rw[g.1]at o;rcases At.1 o with w|w;exact y f w;simp at w;rw[w];exact k;obtain⟨q1,q2,q3,q4,q5,q6⟩:=hr.2 u b;refine⟨⟨by dsimp only;rw[q1];exact a4,by dsimp only;omega,q3⟩,⟨?_,by dsimp only;omega,by dsimp only;omega,by dsimp only;omega,by dsimp only;omega,q2,q6⟩,q4,.inr (by dsimp only;omega)⟩;dsimp only;rw[q1,q4];exact l.1
def FP(l:List BP)(m:Int):Prop:=(∀f∈l,0<f.2.1/\f.2.1<m)/\l.Pairwise λf g=>f.2.1<g.2.1
theorem uV(m:FP h b):FR h b h.length:=by refine⟨λi f e a=>m.1 f (BL a),λi f g e a d=>?_⟩;have l:=EB a;have c:=EB d;have:=KH.1 m.2 i (i+1) l c (by omega);grind
def FR.fp(m:FR h b h.length):FP h b:=by
 refine⟨λf e=>?_,KH.2 λi j l c g=>?_⟩;obtain⟨i,l⟩:=Fi.1 e;have:=EB l;exact m.1 i f (by omega) l;obtain⟨d,rfl⟩: ∃d,j=i+1+d:=⟨j-(i+1),by omega⟩
 induction d with
 |zero=>exact m.2 i _ _ (by omega) (Aw l) (Aw c)
 |succ d k=>
  have a:i+1+d<h.length:=by omega
  have n:=k a (by omega);have o:=m.2 (i+1+d) h[i+1+d] h[i+1+(d+1)] (by omega) (Aw a) (Aw c);omega
def FR.sub{k:List BP}(m:FR h b h.length)(a:k.Sublist h):FR k b k.length:=uV ⟨λf l=>m.fp.1 f (a.subset l),m.fp.2.sublist a⟩
def xu(L:List EN)(a:AM)(F G s:Int)(nf:List BP):Prop:= ∀(j:Nat) (f:BP),nf[j]? =some f->
 ∃r,f=(1,(s+j,OU r))/\VR r/\cK L r/\r.1=F/\r.2.1=G/\a.1[j]? =some r.2.2.1/\r.2.2.2.1=sn a j
def Du.uq(h:Du e):Uq e.2.1:=λx b y c a=>VT h.nodup b c a
theorem xG(h:Du e){F G:Int}(g:e.1<=F)(i:F<=G)(j:G<=e.1+e.2.1.length-1)(b:a=(e.2.1.drop (F-e.1).toNat).take ((G-e.1+1).toNat-(F-e.1).toNat))(v:EN):v∈a↔v∈e.2.1/\F<=v.1/\v.1<=G:=by subst b;have⟨l1,l2,m,n,o,c⟩:=h;rw[Fi,Fi];constructor;grind;rintro⟨⟨k,l⟩,d,f⟩;have:=(c _ v l).1;refine⟨k-(F-e.1).toNat,?_⟩;rw[Yw,if_pos (by omega),J6,show(F-e.1).toNat+(k-(F-e.1).toNat)=k by omega,l]
theorem uE(h:SA v.1)(hb:VB v.1)(q:Du v.2.1):A3 (Eb v) λr=>r.2=0→r.1=v.1∨
  ∃F G a,r.1=(v.1.1,(v.1.2.1,(v.1.2.2.1++a,(G+1,v.1.2.2.2.2+a.length))))/\(v.1.2.2.2.1<=F/\(v.2.1.1<=v.1.2.2.2.1->F=v.1.2.2.2.1)/\(v.2.1.1<=F/\G<=v.2.1.2.2))/\F<=G/\a.length=v.1.1.length/\xu v.2.1.2.1 v.1 F G v.1.2.2.2.2 a:=by
 unfold Eb;refine AB Nc λv0 X=>AO (λ_=>AA λb=>absurd (show(54:Int)=0 from b) (by decide)) (λi=>?_);have⟨a1,a2,a3,a4,a5,a6,a7,a8,a9⟩:=X i;refine AB Bo λv1 h1=>AO (λ_=>AA λb=>absurd (show(26:Int)=0 from b) (by decide)) (λad=>?_);have⟨l1,l2,l3,l4,l5,l6⟩:=id q;refine AC (λ_=>AA λb=>absurd (show(1:Int)=0 from b) (by decide)) (λc1=>AC (λ_=>AA λb=>absurd (show(1:Int)=0 from b) (by decide)) (λc2=>?_));have o: ∃F,(if(v.2.1.1>v.1.2.2.2.1)then v.2.1.1 else v.1.2.2.2.1)=F:=⟨_,rfl⟩
 have⟨F,o⟩:=o;have V:v.2.1.1<=F/\v.1.2.2.2.1<=F/\F<=1099511627777:=by grind
 have W:v.2.1.1<=v.1.2.2.2.1->F=v.1.2.2.2.1:=by grind
 have C:=AY (x:=F+v.2.2);have D:=AY (x:=F+v.2.2-1);have p: ∃G,(if(v.2.1.2.2<(F+v.2.2-1))then v.2.1.2.2 else(F+v.2.2-1))=G:=⟨_,rfl⟩
 have⟨G,p⟩:=p;have g1:G<=v.2.1.2.2/\G<=F+v.2.2-1:=by grind
 rw[o,C,D,p];refine AC (λ_=>AA λ_=>.inl rfl) (λc3=>?_);have Q:=AY (x:=F-v.2.1.1);have R:=AY (x:=G-v.2.1.1);have S:=AY (x:=G-v.2.1.1+1);rw[Q,R,S];have T:=AY (x:=len v.1.2.2.1+len v.1.1) (by simp[len];omega);have U:=AY (x:=v.1.2.2.2.2+len v.1.1) (by simp[len];omega);rw[T,U,(AY (x:=G+1))];refine AC (λ_=>AA λb=>absurd (show(21:Int)=0 from b) (by decide)) (λN=>AC (λ_=>AA λb=>absurd (show(21:Int)=0 from b) (by decide)) (λO=>?_));simp[len]at N O;refine AB (B9) λv2 E=>?_;have al:=E.2;have l:=xG q (F:=F) (G:=G) V.1 (by omega) (by omega) E.1;refine AB (QO ⟨Ak _,by dsimp only;omega,by omega⟩) λv8 Z=>BA (λu c=>AA λb=>absurd b (Z u c)) (λu c=>AB (Ae (by simp;omega)) λao t=>?_);have g:=t.1;rw[Cy]at g;subst g;refine AB (P:=λr=>(∀u,r= .inl u->u.1≠0)/\ ∀u,r= .inr u-> ∃(a:List BP),(u.1,(u.2.1,(u.2.2.1,(u.2.2.2.1,u.2.2.2.2.1))))=(v.1.2.2.1++a,(v.1.1,(v.1.2.1,(v.1.2.2.2.1,v.1.2.2.2.2+a.length))))/\a.length=v.1.1.length/\xu v.2.1.2.1 v.1 F G v.1.2.2.2.2 a) ?_ λr hr=>BA (λu c=>AA λb=>absurd b (hr.1 u c)) (λu c=>AA λ_=>.inr ?_)
 ·refine Gf (λ(s:Int×(List BP)×(List Int)×Int×Int×Int×AM)=> ∃(k:Nat) (a:List BP) (z:AM),s=((k:Int),(v.1.2.2.1++a,(v.1.1,(v.1.2.1,(v.1.2.2.2.1,(v.1.2.2.2.2+(k:Int),z))))))/\k<=v.1.1.length/\a.length=k/\xu v.2.1.2.1 v.1 F G v.1.2.2.2.2 a) (λs=>v.1.1.length-s.1.toNat)
   ⟨0,[],u,by simp,Bt _,rfl,λj f d=>by simp at d⟩ ?_
  rintro s ⟨k,a,z,rfl,i2,A,I⟩;unfold Nb;dsimp only;simp only[len];rw[o,C,D,p];refine AC (λi=>?_) (λi=>A3.done ⟨λu c=>(by cases c),λu c=>(by cases c;exact⟨a,by dsimp only;rw[A],by omega,I⟩)⟩);have H:v.1.1[k]? =some (v.1.1[k]'(by omega)):=Aw (by omega);rw[rj hb.1 H,AE];refine AB (ACG q.uq (λe he=>((l e).1 he).1) (by omega)) λn x=>AL (λi=>A3.done ⟨λu c=>(by cases c;exact i),λu c=>(by cases c)⟩) (λb=>?_);have⟨B,es,m,m3⟩:=x b;rw[lD B,AE];refine AB (Ae (by simp;omega)) λap Y=>?_;rw[AY (x:=v.1.2.2.2.2+(k:Int)+1),AY (x:=(k:Int)+1)];refine A3.next ⟨k+1,a++[(1,(v.1.2.2.2.2+(k:Int),OU n.1))],z,?_,by omega,by rw[Af,A];rfl,λj f d=>?_⟩ (by dsimp only;omega)
  grind;by_cases hj:j<a.length;rw[B6 hj]at d;exact I j f d;have y:=EB d;rw[Af,CD,CT]at y;have w:j=k:=by omega
  subst w;rw[Cb (by omega),A,G3]at d;cases d;refine⟨n.1,rfl,B,B.runOf q.uq λe=>?_,by rw[m],by rw[m],by rw[m];exact H,by rw[m]⟩;rw[m];dsimp only;rw[m3,l];constructor;grind;rintro⟨q1,q2,q3,q4,q5,q6⟩;exact⟨⟨q1,q5,q6⟩,q2,q3,q4,q5,q6⟩
 have⟨a,q1,q2,q3⟩:=hr.2 u c;refine⟨F,G,a,?_,⟨by omega,W,by omega⟩,by omega,q2,q3⟩;have J:=congrArg (·.1) q1;have K:=congrArg (·.2.1) q1;have L:=congrArg (·.2.2.1) q1;have M:=congrArg (·.2.2.2.2) q1;dsimp only at J K L M;dsimp only;rw[J,K,L,M]
theorem KC.congr{a d:AM}(e:d.1=a.1)(f:d.2.1=a.2.1):KC a b n↔KC d b n:=by grind[KC,sn]
def Good.congr{a b:AM}(c:b.1=a.1)(d:b.2.1=a.2.1)(h:Good a i k):Good b i k:=⟨h.1,h.2.1,h.2.2.1,(KC.congr c d).1 h.2.2.2⟩
def Good.run{s:AT}(h:Good c i k)(g:Good c i s):k=s:=yl h.2.2.1 g.2.2.1 (h.2.1.symm.trans g.2.1)
theorem AR.step{F:AM}(G:AR a c)(e:F=(c.1,(c.2.1,(c.2.2.1++h,(n+1,c.2.2.2.2+h.length)))))(hF:c.2.2.2.1<=b)(hG:b<=n)(hn:xu a c b n c.2.2.2.2 h)(D:VB F):AR a F/\(AG c->AG F)/\ ∀L,RC c L->RC F (L+1):=by
 have P:F.1=c.1:=by rw[e]
 have Q:F.2.1=c.2.1:=by rw[e]
 have Y:F.2.2.1=c.2.2.1++h:=by rw[e]
 have h4:F.2.2.2.1=n+1:=by rw[e]
 have q: ∀f∈h,∃(j:Nat) (r:AT),Good F f r/\cK a r/\r.1=b/\r.2.1=n/\c.1[j]? =some r.2.2.1/\h[j]? =some f:=λf k=>by have⟨j,hj⟩:=Fi.1 k;have⟨r,l,M,w,r4,W,S,r7⟩:=hn j f hj;refine⟨j,r,⟨by rw[l],by rw[l],M,(KC.congr P Q).1 ⟨j,S,r7⟩⟩,w,r4,W,S,hj⟩
 have K: ∀f∈c.2.2.1,Bad f\/ ∃r,Good F f r/\cK a r/\r.2.1<c.2.2.2.1:=λf k=>(G.files f k).imp id λ⟨r,l,M,w⟩=>⟨r,l.congr P Q,M,w⟩
 have d: ∀x∈Fa F,(x∈Fa c/\x.1.2.1<c.2.2.2.1)\/ ∃(j:Nat) (f:BP),h[j]? =some f/\Good F f x.1/\x.2=f.2.1/\x.1.1=b/\c.1[j]? =some x.1.2.2.1:=λx m=>by unfold Fa at m;rw[Y]at m;have⟨f,k,z⟩:=PH.1 m;rcases At.1 k with k|k;rcases K f k with E|⟨r,l,M,w⟩;rw[E.intR D.1]at z;cases z;rw[l.intR D.1]at z;cases z;exact .inl ⟨T1 G.vb.1 k (l.congr P.symm Q.symm),w⟩;have⟨j,r,l,M,w,r4,W,S⟩:=q f k;rw[l.intR D.1]at z;cases z;exact .inr ⟨j,f,S,l,rfl,w,W⟩
 refine⟨⟨D,λf k=>?_,λx m y R J p=>?_⟩,λU f k=>?_,λL Z v=>?_⟩;grind;rcases d x m with⟨s,A⟩|⟨i,f,s,A,N,x4,B⟩;rcases d y R with⟨o,C⟩|⟨j,g,o,C,T,y4,O⟩;exact G.dis x s y o J p;grind;rcases d y R with⟨o,C⟩|⟨j,g,o,C,T,y4,O⟩;exact .inr (by omega);rw[<-p]at O;have t:=G.vb.1.inj B O;subst t;rw[s]at o;cases o;exact absurd (ES (A.run C) (N.trans T.symm)) J;rw[Y]at k;rcases At.1 k with k|k;have⟨r,hr⟩:=U f k;exact⟨r,hr.congr P Q⟩;have⟨j,r,l,_⟩:=q f k;exact⟨r,l⟩;have I:=(Xg D).filter λe=>e.1.2.2.1==v;by_cases H: ∃y∈(Fa F).filter (λe=>e.1.2.2.1==v),∃(j:Nat) (f:BP),h[j]? =some f/\Good F f y.1/\y.2=f.2.1/\c.1[j]? =some y.1.2.2.1;have⟨y,R,j,g,o,C,T,O⟩:=H;have V:y.1.2.2.1=v:=eq_of_beq (Bq.1 R).2;have:=jf _ (y::(Fa c).filter λe=>e.1.2.2.1==v) I λx m=>by have⟨X,u⟩:=Bq.1 m;rcases d x X with⟨s,_⟩|⟨i,f,s,A,N,x4,B⟩;grind;rw[eq_of_beq u,<-V]at B;have t:=G.vb.1.inj B O;subst t;rw[s]at o;cases o;exact A1.2 (.inl (ES (A.run C) (N.trans T.symm)))
 rw[CD]at this;have:=Z v;omega;have:=jf _ ((Fa c).filter λe=>e.1.2.2.1==v) I λx m=>by have⟨X,u⟩:=Bq.1 m;rcases d x X with⟨s,_⟩|⟨i,f,s,A,N,x4,B⟩;exact Bq.2 ⟨s,u⟩;exact absurd ⟨x,m,i,f,s,A,N,B⟩ H
 have:=Z v;omega
def ACC(a:AM)(lo n:Int):Prop:= ∃e∈Fa a,e.1.2.2.1=lo/\e.1.1<=n/\n<=e.1.2.1
def AF(a:AM):Prop:= ∀lo∈a.1,∀n:Int,1<=n->n<a.2.2.2.1->ACC a lo n
def AF.step{L:AM}(w:AF c)(F:AR a c)(e:L=(c.1,(c.2.1,(c.2.2.1++h,(n+1,c.2.2.2.2+h.length)))))(H:b=c.2.2.2.1)(z:h.length=c.1.length)(hn:xu a c b n c.2.2.2.2 h)(s:VB L):AF L:=by
 have k:L.1=c.1:=by rw[e]
 have p:L.2.1=c.2.1:=by rw[e]
 have q:L.2.2.1=c.2.2.1++h:=by rw[e]
 have E:L.2.2.2.1=n+1:=by rw[e]
 intro A d G B I;rw[k]at d;rcases ec G c.2.2.2.1 with g|g;obtain⟨r,hr,i,m,u⟩:=w A d G B g;have⟨f,l,v,D,_⟩:=F.mem hr;exact⟨(r.1,f.2.1),T1 s.1 (by rw[q];exact HQ _ l) (v.congr k p),i,m,u⟩;have⟨j,t⟩:=Fi.1 d;have y:=EB t;have l:h[j]? =some (h[j]'(by omega)):=Aw (by omega);have⟨r,i,m,u,J,K,o,C⟩:=hn j _ l;have x:Good L (h[j]'(by omega)) r:=⟨by rw[i],by rw[i],m,(KC.congr k p).1 ⟨j,o,C⟩⟩
 refine⟨(r,(h[j]'(by omega)).2.1),T1 s.1 (by rw[q];exact PG _ (Tp _)) x,?_,by dsimp only;omega⟩;rw[t]at o;exact(Cl o).symm
def SF(a:AM)(m:Int):Prop:=a.2.2.2.2+a.2.2.1.length<=m
theorem AAO{x:AM×Aj×Int}(h:AR x.2.1.2.1 x.1)(f:Du x.2.1)(t:SF x.1 b):A3 (Eb x) λr=>r.2=0->AR x.2.1.2.1 r.1/\(AG x.1->AG r.1)/\(∀c,RC x.1 c->RC r.1 (c+1))/\SF r.1 (b+32)/\r.1.2.1=x.1.2.1/\(r.1.2.2.2.1=x.1.2.2.2.1\/r.1.2.2.2.1<=x.2.1.2.2+1)/\(QZ x.2.1.2.1->AF x.1->AF r.1):=by
 refine((AAP h.sa h.vb).and (uE h.sa h.vb f)).mono λr hr k=>?_;have⟨q1,q2,q3,q4⟩:=hr.1 k;rcases hr.2 k with e|⟨F,G,u,g,i,l,n,j⟩;rw[e];exact⟨h,id,λc q s=>Nat.le_succ_of_le (q s),by unfold SF at*;omega,rfl,.inl rfl,λ_=>id⟩
 ·have a:=h.step g i.1 l j q2;have m:0<x.2.1.2.1.length:=by have:=f.2.2.2.2.1;omega
  have d:QZ x.2.1.2.1->AF x.1->AF r.1:=λo p=>p.step h g (i.2.1 (by have v:=(o 0 _ (Aw m)).1;have w:=(f.2.2.2.2.2 0 _ (Aw m)).1;have:=h.vb.2.1;omega)) n j q2;have:=h.sa.1;refine⟨a.1,a.2.1,a.2.2,?_,?_,?_,d⟩;all_goals unfold SF at*;grind
theorem ABp{d:Type}(l:List t)(m:List d)(n:Nat):l.zip m=(l.take n).zip (m.take n)++(l.drop n).zip (m.drop n):=by
 induction n generalizing l m with
 |zero=>simp
 |succ n e=>
  cases l with
  |nil=>simp
  |cons a l=>
   cases m with
   |nil=>simp
   |cons b m=>grind[List.zip_cons_cons]
theorem ADP{c:Type}{l:List t}{m:List c}{a:t}{b:c}(e:l[d]? =some a)(f:m[d]? =some b):(a,b)∈l.zip m:=by refine Fi.2 ⟨d,?_⟩;grind[List.getElem?_zip_eq_some]
def yB{x:AM}{U:Int×List AT×List Int×List Bool}(h:AR a x)(b:0<=U.1):A3 (Ad (Gt x U) ([],([],0))) λr=>r.2.length=r.1.length/\ ∀p∈r.1.zip r.2,p∈Fa x:=by
 obtain⟨⟨b1,b2,b3,b4,b5,b6,b7⟩,a1,a2,a3,a4,a5,a6⟩:=h.vb;refine Gf (λ(s:List AT×List Int×Int)=>0<=s.2.2/\s.2.2<=x.2.2.1.length/\s.2.1.length=s.1.length/\s.1.length<=s.2.2/\ ∀p∈s.1.zip s.2.1,p∈Fa x) (λ(s:List AT×List Int×Int)=>((x.2.2.1.length:Int)-s.2.2).toNat) ⟨Ak _,by dsimp only;omega,rfl,by simp,λp b=>by simp at b⟩ (λs X=>?_);obtain⟨S,i2,T,i4,u⟩:=X;unfold Gt;have e:=AY (x:=s.2.2+1);rw[e];refine AC (λE=>?_) (λ_=>A3.done ⟨T,u⟩);simp only[len]at E;refine AB (AK S E) λv D=>?_;have q: ∃w,Dz (x,v)=some w/\(w.2= -1\/Good x v w.1):=by rcases h.files v D.2 with Y|⟨r,R,_⟩;obtain⟨r,hr⟩:=Y.ref (a:=x);exact⟨_,hr,.inl rfl⟩;obtain⟨k,hk,ad⟩:=R.ref h.vb.1;exact⟨_,hk,.inr R⟩
 obtain⟨w,F,t⟩:=q;rw[F,AE];refine AL (λ_=>A3.next ⟨by dsimp only;omega,by dsimp only;omega,T,by dsimp only;omega,u⟩ (by dsimp only;omega)) (λZ=>?_);have c:Good x v w.1:=t.elim (λhz=>absurd hz (by omega)) id;refine AB (Ph ⟨by simp only[len];omega,by simp only[len];omega,by omega⟩) λy o=>?_;refine AB (B9 (Ak _) o.1 o.2) λv8 P=>?_;refine AB (B9 o.1 (by simp only[len];omega) (by simp only[len];omega)) λv9 Q=>?_;have l8:=P.2;have l9:=Q.2;simp only[len]at l9;refine AB (Ae (by simp;omega)) λar d=>?_;have G:=d.2.1;simp only[CT]at G;refine AB (Ae (by simp;omega)) λax f=>?_;have H:=f.2.1;simp only[CT,CD]at H;refine AB (Ae (by omega)) λa0 g=>?_;have al:=g.2.1;refine AB (B9 (Ak _) o.1) λM i=>?_;have ao:=i.2;refine AB (AK S E) λN C=>?_;refine AB (B9 o.1 (by simp only[len];omega) (by simp only[len];omega)) λO j=>?_;have I:=j.2;simp only[len]at I;refine AB (Ae (by simp;omega)) λa7 l=>?_;have J:=l.2.1;simp only[CT]at J;refine AB (Ae (by simp;omega)) λa8 m=>?_;have K:=m.2.1;simp[CT,CD]at K;refine AB (Ae (by omega)) λa9 n=>?_;have ap:=n.2.1;have A:N=v:=by have:=C.1;rw[D.1]at this;exact(Cl this).symm
 have V:v8=s.1.take y.toNat:=by rw[P.1];simp
 have W:v9=s.1.drop y.toNat:=by rw[Q.1];exact Bs (by rw[G6];simp only[len];omega)
 have z:M=s.2.1.take y.toNat:=by rw[i.1];simp
 have B:O=s.2.1.drop y.toNat:=by rw[j.1];exact Bs (by rw[G6];simp only[len];omega)
 refine A3.next ⟨by dsimp only;omega,by dsimp only;omega,by dsimp only;omega,by dsimp only;omega,λp b=>?_⟩ (by dsimp only;omega)
 dsimp only at b;rw[g.1,f.1,d.1,n.1,m.1,l.1,V,W,z,B,Cy,Cy]at b;rw[aJ (by simp[Af,Bh,CD,CT];omega),aJ (by simp[Bh];omega)]at b;rw[ABp s.1 s.2.1 y.toNat]at u;rcases At.1 b with b|b;rcases At.1 b with b|b;exact u p (At.2 (.inl b));rw[List.zip_cons_cons,List.zip_nil_left,BE]at b;rw[b,A];exact T1 h.vb.1 D.2 c;exact u p (At.2 (.inr b))
def Wh(x:AM)(t:List AT×List Int×List Bool):Prop:= ∀p∈(t.1.zip t.2.1).zip t.2.2,p.2=true->p.1∈Fa x
theorem yC{x:AM}{a:List AT×List Int}(h:a.2.length=a.1.length/\a.1.length<=256/\RL a.1)(hn:n<=100000)(m:T3 n f)(R: ∀p∈a.1.zip a.2,p∈Fa x)(G:Wh x f):A3 (Ad (Gu a) (0,(0,f))) λr=>Wh x r:=by
 refine Gf (λ(s:Int×Int×List AT×List Int×List Bool)=>0<=s.2.1/\s.2.1<=a.1.length/\T3 (n+s.2.1) s.2.2/\Wh x s.2.2) (λ(s:Int×Int×List AT×List Int×List Bool)=>((a.1.length:Int)-s.2.1).toNat) ⟨Ak _,by dsimp only;omega,by simpa using m,G⟩ (λs F=>?_);have⟨g,S,⟨z,H,T,A⟩,o⟩:=F;have⟨P,Q,E⟩:=h;unfold Gu;rw[(AY (x:=s.2.1+1))];refine AC (λt=>?_) (λ_=>A3.done o);simp[len]at t;refine AB (AK g t) λI _=>?_;refine AC (λ_=>A3.next ⟨by dsimp only;omega,by dsimp only;omega,⟨z,H,by dsimp only;omega,A⟩,o⟩ (by dsimp only;omega)) (λ_=>?_);refine AB (AK g t) λy k=>?_;refine AB (AK g) λJ C=>?_;refine AB (AK g t) λi D=>?_;have j:i=y:=by grind[Option.some.inj]
 subst j;refine Dr (QP (E i k.2)) λK B l=>?_;refine AB (Ae (by simp;omega)) λL b=>?_;have q:=b.2.1;simp[CT,CD]at q;refine AB (Ae (by simp;omega)) λM d=>?_;have u:=d.2.1;simp[CT,CD]at u;refine AB (Ae (by simp;omega)) λN e=>?_;have v:=e.2.1;simp[CT,CD]at v;refine AB (AK g t) λO _=>?_;refine A3.next ⟨by dsimp only;omega,by dsimp only;omega,⟨by dsimp only;omega,by dsimp only;omega,by dsimp only;omega,λr hr=>?_⟩,λp c m=>?_⟩ (by dsimp only;omega)
 dsimp only at hr;rw[b.1]at hr;rcases At.1 hr with w|w;exact A r w;simp at w;rw[w];exact l;dsimp only at c;rw[b.1,d.1,e.1,aJ z.symm,aJ (by rw[List.length_zip];omega)]at c;rcases At.1 c with c|c;exact o p c m;grind[List.zip_cons_cons,List.zip_nil_left,List.mem_singleton,HG,ADP]
theorem yA{x:AM}(h:AR a x):A3 (K5 x) λr=>T3 4096 r/\Wh x r:=by unfold K5;refine AB Nc λo i=>?_;refine AO (λ_=>AA ⟨⟨rfl,rfl,by simp,λr hr=>by simp at hr⟩,λp d=>by simp at d⟩) (λc=>?_);have e:=i c;have a4:=e.2.2.2.1;refine AB (P:=λr=>T3 4096 r/\Wh x r) ?_ λr hr=>AA hr;refine Gf (λ(s:Int×List AT×List Int×List Bool)=>0<=s.1/\s.1<=x.1.length/\T3 (256*s.1) s.2/\Wh x s.2) (λ(s:Int×List AT×List Int×List Bool)=>((x.1.length:Int)-s.1).toNat) ⟨Ak _,by dsimp only;omega,⟨rfl,rfl,by simp,λr hr=>by simp at hr⟩,λp d=>by simp at d⟩ (λs k=>?_);have⟨f,n,b,g⟩:=k;unfold Q7;rw[(AY (x:=s.1+1))];refine AC (λc=>?_) (λ_=>A3.done ⟨⟨b.1,b.2.1,by have:=b.2.2.1;omega,b.2.2.2⟩,g⟩);simp[len]at c;refine AB ((WS e h.sa f).and (yB h f)) λl L=>?_;refine AB ((WT L.1 (by omega) b).and (yC L.1 (by omega) b L.2.2 g)) λm j=>?_;grind[A3.next]
theorem xB{x:List AT×List Bool}{k:Nat}{z t:AT}{F T lo hi lv:Int}(i:Uq a)(m:x.1[k]? =some t)(f: ∀e∈t.2.2.2.2.2,e∈a)(n:t.2.2.2.2.2.length≤4096)(l: ∀e∈B,e∈a)(q:B.length≤1000000){o:AT}:
  A3 (Ad (Gv x ((k:Int),(o,z))) (0,(F,(T,(lo,(hi,(lv,B))))))) λr=> ∃L:List EN,r=(F,(T,(lo,(hi,(lv,L)))))/\L.length<=B.length+4096/\ ∀y,y∈L↔y∈B\/y∈t.2.2.2.2.2:=by
 refine Gf (λ(s:Int×AT)=> ∃(j:Nat) (L:List EN),s=((j:Int),(F,(T,(lo,(hi,(lv,L))))))/\j<=t.2.2.2.2.2.length/\L.length<=B.length+j/\ ∀y,y∈L↔y∈B\/y∈t.2.2.2.2.2.take j) (λs=>t.2.2.2.2.2.length-s.1.toNat)
  ⟨0,B,rfl,Bt _,by omega,λy=>by simp⟩ ?_
 rintro s ⟨j,L,rfl,A,b,p⟩;unfold Gv;rw[(by unfold ix;rw[if_pos (by omega),Int.toNat_natCast,m]:ix x.1 (k:Int)=some t),Option.bind_some];simp only[len];refine AC (λd=>?_) (λd=>A3.done ⟨L,rfl,by omega,by grind⟩);rw[AE];refine AB (AK (by omega) d) λv g=>?_;have c:=g.1;rw[Df]at c;refine AB (re i (λe h=>((p e).1 h).elim (l e) λh=>f e (KG h)) (f v g.2) (by omega)) λw u=>?_;rw[AY];refine A3.next ⟨j+1,w.1,by grind,by omega,by omega,λy=>?_⟩ (by omega)
 grind[List.take_add_one,Option.toList_some,List.mem_singleton]
def o7(x:List AT×List Bool)(lo hi:Int)(k:Nat):Prop:=x.2[k]? =some true/\ ∃r,x.1[k]? =some r/\r.2.2.1=lo/\r.2.2.2.1=hi/\(0<k-> ∀p,x.1[k-1]? =some p->r.1=p.2.1+1)
theorem AAy{x:List AT×List Bool}{l:AT}(hL:Uq a)(h: ∀(L:Nat) (r:AT),x.1[L]? =some r→x.2[L]? =some true→VR r∧ ∀e∈r.2.2.2.2.2,e∈a)(h1:1≤x.1.length∧x.1.length≤8)(h2:x.2.length=x.1.length)(V:x.1[0]? =some k)(W:x.1[x.1.length-1]? =some l):
  A3 (K6 x) λr=>r.2=true->VR r.1/\ ∃(d:Int) (b:List EN),r.1=(k.1,(l.2.1,(k.2.2.1,(k.2.2.2.1,(d,b)))))/\(∀L,L<x.1.length->o7 x k.2.2.1 k.2.2.2.1 L)/\ ∀y,y∈b↔ ∃(L:Nat) (r:AT),x.1[L]? =some r/\y∈r.2.2.2.2.2:=by
 have G:ix x.1 0=some k:=by unfold ix;rw[if_pos (by omega)];exact V
 have R:ix x.1 (wi (len x.1-1))=some l:=by rw[AY (x:=len x.1-1) (by simp[len];omega)];unfold ix;simp only[len];rw[if_pos (by omega),show((x.1.length:Int)-1).toNat=x.1.length-1 by omega,W]
 unfold K6;rw[G,R,AE,AE,AE,AE,AE];generalize wi (k.2.2.2.2.1+1)=d;refine AB (P:=λr=>(∃u,r= .inl u/\u.1=false)\/ ∃z b,r= .inr ((k.1,(l.2.1,(k.2.2.1,(k.2.2.2.1,(d,b))))),z)/\(∀L,L<x.1.length->o7 x k.2.2.1 k.2.2.2.1 L)/\ ∀y,y∈b↔ ∃(L:Nat) (r:AT),x.1[L]? =some r/\y∈r.2.2.2.2.2) ?_ λr hr=>?_
 ·refine Gf (λ(s:Int×AT×AT)=> ∃(L:Nat) (z:AT) (b:List EN),s=((L:Int),((k.1,(l.2.1,(k.2.2.1,(k.2.2.2.1,(d,b))))),z))/\L<=x.1.length/\b.length<=4096*L/\(∀j,j<L->o7 x k.2.2.1 k.2.2.2.1 j)/\ ∀y,y∈b↔ ∃(j:Nat) (r:AT),j<L/\x.1[j]? =some r/\y∈r.2.2.2.2.2) (λs=>x.1.length-s.1.toNat)
   ⟨0,_,[],rfl,Bt _,Bt _,λj H=>absurd H (by omega),λy=>⟨λhy=>by simp at hy,λ⟨j,r,H,_⟩=>absurd H (by omega)⟩⟩ ?_
  rintro s ⟨L,z,b,rfl,i2,i3,X,Y⟩;unfold Q8;dsimp only;simp only[len];refine AC (λhc=>?_) (λhc=>A3.done (.inr ⟨z,b,rfl,λj H=>X j (by omega),λy=>?_⟩))
  ·have hk:L<x.1.length:=by omega
   have c:x.1[L]? =some x.1[L]:=Aw hk;generalize x.1[L]=t at c;have i:x.2[L]? =some (x.2[L]'(by omega)):=Aw (by omega);generalize x.2[L]'(by omega)=bb at i;have U:ix x.1 (L:Int)=some t:=by unfold ix;rw[if_pos (by omega),Int.toNat_natCast,c]
   have Q:ix x.2 (L:Int)=some bb:=by unfold ix;rw[if_pos (by omega),Int.toNat_natCast,i]
   rw[Q,AE];refine AO (λ_=>A3.done (.inl ⟨_,rfl,rfl⟩)) (λO=>?_);rw[O]at i;have⟨tv,tm⟩:=h L t c i;rw[U,AE,G,AE];refine AL (λ_=>A3.done (.inl ⟨_,rfl,rfl⟩)) (λq1=>?_);rw[AE,AE];refine AL (λ_=>A3.done (.inl ⟨_,rfl,rfl⟩)) (λq2=>?_);rw[AE,AE];refine AL (λ_=>A3.done (.inl ⟨_,rfl,rfl⟩)) (λq3=>?_);have E: ∀e∈b,e∈a:=λe he=>by have⟨j,r,B,m,v⟩:=(Y e).1 he;exact(h j r m (X j B).1).2 e v
   have J:=xB (x:=x) (k:=L) (z:=z) (o:=(k.1,(l.2.1,(k.2.2.1,(k.2.2.2.1,(d,b)))))) (F:=k.1) (T:=l.2.1) (lo:=k.2.2.1) (hi:=k.2.2.2.1) (lv:=d) hL c tm tv.1.2.2.2.2.2.2.2.2 E (by omega)
   have D:o7 x k.2.2.1 k.2.2.2.1 L→ ∀f:List EN,f.length≤b.length+4096→(∀y,y∈f↔y∈b∨y∈t.2.2.2.2.2)→
     A3 (some (Step.next (wi ((L:Int)+1),((k.1,(l.2.1,(k.2.2.1,(k.2.2.2.1,(d,f))))),z))):Option (Step (Int×AT×AT) ((Bool×AT)⊕ (AT×AT)))) (XJ (λ(s:Int×AT×AT)=> ∃(L:Nat) (z:AT) (b:List EN),s=((L:Int),((k.1,(l.2.1,(k.2.2.1,(k.2.2.2.1,(d,b))))),z))/\L<=x.1.length/\b.length<=4096*L/\(∀j,j<L->o7 x k.2.2.1 k.2.2.2.1 j)/\ ∀y,y∈b↔ ∃(j:Nat) (r:AT),j<L/\x.1[j]? =some r/\y∈r.2.2.2.2.2) (λs=>x.1.length-s.1.toNat) (x.1.length-((L:Nat):Int).toNat)
      λr=>(∃u,r= .inl u/\u.1=false)\/ ∃z b,r= .inr ((k.1,(l.2.1,(k.2.2.1,(k.2.2.2.1,(d,b))))),z)/\(∀L,L<x.1.length->o7 x k.2.2.1 k.2.2.2.1 L)/\ ∀y,y∈b↔ ∃(L:Nat) (r:AT),x.1[L]? =some r/\y∈r.2.2.2.2.2):=λhm f M C=>by
    rw[AY];refine A3.next ⟨L+1,z,f,by rw[show(L:Int)+1=((L+1:Nat):Int) by omega],by omega,by omega,λj H=>?_,λy=>?_⟩ (by dsimp only;omega)
    grind;rw[C,Y];constructor;rintro(⟨j,r,B,m,v⟩|g);exact⟨j,r,by omega,m,v⟩;exact⟨L,t,by omega,c,g⟩;rintro⟨j,r,B,m,v⟩;by_cases ao:j=L<;>grind
   apply AC<;>intro al
   ·have hp:L-1<x.1.length:=by omega
    have q:x.1[L-1]? =some x.1[L-1]:=Aw hp;generalize x.1[L-1]=p at q;have S:ix x.1 (wi ((L:Int)-1))=some p:=by rw[AY];unfold ix;rw[if_pos (by omega),show((L:Int)-1).toNat=L-1 by omega,q]
    rw[AE,S,AE];have A:=(h (L-1) p q (X (L-1) (by omega)).1).1.1;have ad:=A.2.2.1;have ap:=A.1;have ar:=A.2.1;rw[AY (x:=p.2.1+1)];refine AL (λ_=>A3.done (.inl ⟨_,rfl,rfl⟩)) (λq4=>AB J λZ w=>?_);obtain⟨f,rfl,M,C⟩:=w;refine D ⟨i,t,c,q1,q2,λ_ p' n=>?_⟩ f M C;rw[q]at n;injection n with n;rw[<-n];exact q4
   have K:A3 (Ad (Gv x ((L:Int),((k.1,(l.2.1,(k.2.2.1,(k.2.2.2.1,(d,b))))),z))) (0,(k.1,(l.2.1,(k.2.2.1,(k.2.2.2.1,(d,b))))))) λr=> ∃f:List EN,r=(k.1,(l.2.1,(k.2.2.1,(k.2.2.2.1,(d,f)))))/\f.length<=b.length+4096/\ ∀y,y∈f↔y∈b\/y∈t.2.2.2.2.2:=J;refine AB K λZ w=>?_;obtain⟨f,rfl,M,C⟩:=w;exact D ⟨i,t,c,q1,q2,λh0=>absurd h0 (by omega)⟩ f M C
  rw[Y];constructor;rintro⟨j,r,B,m,v⟩;exact⟨j,r,m,v⟩;rintro⟨j,r,m,v⟩;exact⟨j,r,by have:=EB m;omega,m,v⟩
 rcases hr with⟨u,rfl,hu⟩|⟨z,b,rfl,B,m⟩;exact BH (AA λI=>by dsimp only at I;rw[hu]at I;cases I);refine A9 (AB Yq λax N=>AA λI=>⟨N.1 I,d,b,rfl,B,m⟩)
def cJ(a b:AM):Prop:= ∀lo n,ACC a lo n↔ACC b lo n
theorem qG(h:VB c){y:NE}(a:x∈Fa c)(d:y∈Fa c)(b:x.2=y.2):x=y:=by grind[qF,List.pairwise_iff_getElem,List.mem_iff_getElem]
structure Grp(M:List NE)(lo hi:Int):Prop where
 same: ∀(k:Nat) (e:NE),M[k]? =some e->e.1.2.2.1=lo/\e.1.2.2.2.1=hi/\e.1.1<=e.1.2.1
 next: ∀(k:Nat) (e f:NE),M[k]? =some e->M[k+1]? =some f->f.1.1=e.1.2.1+1
theorem Grp.cover{M:List NE}{m l:Int}(h:Grp M m l){c:NE}(d:M[0]? =some c): ∀(k:Nat) (b:NE),M[k]? =some b->c.1.1<=b.1.1/\ ∀n:Int,c.1.1<=n->n<=b.1.2.1-> ∃j e,j<=k/\M[j]? =some e/\e.1.1<=n/\n<=e.1.2.1
 |0,b,a=>by rw[d]at a;injection a with a;subst a;exact⟨Ak _,λn g i=>⟨0,c,Ag _,d,g,i⟩⟩
 |k+1,b,a=>by
  have o:=EB a;have f:M[k]? =some (M[k]'(by omega)):=Aw (by omega);have q:=Grp.cover h d k _ f;have hn:=h.next k _ _ f a
  have p:=(h.same k _ f).2.2;grind
theorem Grp.le{M:List NE}{g c:Int}(h:Grp M g c){k:Nat}{a:NE}(f:M[k]? =some a): ∀(d:Nat) (e:NE),M[k+d]? =some e->a.1.2.1<=e.1.2.1
 |0,e,he=>by grind
 |d+1,e,he=>by
  have i:=EB he;have b:M[k+d]? =some (M[k+d]'(by omega)):=Aw (by omega);have l:=Grp.le h f d _ b;have hn:=h.next (k+d) _ _ b he
  have j:=(h.same _ _ he).2.2;omega
theorem wR{l:List t}{a b:t}(d:a∈l)(e:b∈l)(h:a≠b):2<=l.length:=by cases l<;>grind
theorem iB{b:Type}(p:b->Bool): ∀l:List b,(l.filter p).length+(l.filter λa=>!p a).length=l.length
 |[]=>rfl
 |a::r=>by have:=iB p r;grind
def XZ(M:List NE)(l:List BP):List BP:=l.filter λf=>!(M.any λe=>e.2==f.2.1)
theorem fa:i∈XZ m h↔i∈h/\ ∀e∈m,e.2≠i.2.1:=by grind[XZ]
theorem tA{r q:Int}(h:AR a c)(M: ∀e∈m,e∈Fa c)(l:Grp m r q)(w:2<=m.length):(XZ m c.2.2.1).length+2<=c.2.2.1.length:=by
 have d:m[0]? =some (m[0]'(by omega)):=Aw (by omega);have k:m[1]? =some (m[1]'(by omega)):=Aw (by omega);have n:=BL d;have o:=BL k;have i:(m[0]'(by omega)).2≠(m[1]'(by omega)).2:=λL=>by
  have j:=l.next 0 _ _ d k
  have:=(l.same 0 _ d).2.2;rw[<-(qG h.vb (M _ n) (M _ o) L)]at j;omega
 have⟨f,s,_,t,_⟩:=h.mem (M _ n);have⟨g,u,_,v,_⟩:=h.mem (M _ o);have p:=iB (λf:BP=>!(m.any λe=>e.2==f.2.1)) c.2.2.1;have:2<=(c.2.2.1.filter λf=>!!(m.any λe=>e.2==f.2.1)).length:=by refine wR (a:=f) (b:=g) ?_ ?_ λL=>i (by grind);grind;grind
 unfold XZ;omega
theorem zE{s:Bb}(h:AR a c)(j: ∀e∈m,e∈Fa c)(k:Grp m b n)(i:2<=m.length)(q:c.2.2.2.2<=1073741824):VB (c.1,(c.2.1,(XZ m c.2.2.1++[(1,(c.2.2.2.2,s))],(c.2.2.2.1,c.2.2.2.2+1)))):=by have p:=tA h j k i;have⟨M,L,d,f,l,o,g⟩:=h.vb;refine⟨M,L,d,by grind,by grind,by grind,?_⟩;exact(g.sub (List.filter_sublist)).push f rfl rfl
def notM(M:List NE)(x:NE):Bool:= !(M.any λe=>e.2==x.2)
def ot{L:List EN}{a b:AM}{M:List NE}{r:AT}{lo t:Int}{I T:NE}(hL:Uq L)(h:AR L a)(J: ∀e∈M,e∈Fa a)(V:Grp M lo t)(h2:2≤M.length)(h0:M[0]? =some I)(hn:M[M.length-1]? =some T)
  (hr:VR r) (r1:r.1=I.1.1) (r2:r.2.1=T.1.2.1) (O:r.2.2.1=lo) (r4:r.2.2.2.1=t) (r5: ∀y,y∈r.2.2.2.2.2↔ ∃e∈M,y∈e.1.2.2.2.2.2)
  (hb:b=(a.1,(a.2.1,(XZ M a.2.2.1++[(1,(a.2.2.2.2,OU r))],(a.2.2.2.1,a.2.2.2.2+1))))) (q:VB b):
  AR L b/\cJ a b/\(AG a->AG b)/\ ∀c,RC a c->RC b c:=by
 have b1:b.1=a.1:=by rw[hb]
 have b2:b.2.1=a.2.1:=by rw[hb]
 have S:b.2.2.1=XZ M a.2.2.1++[(1,(a.2.2.2.2,OU r))]:=by rw[hb]
 have b4:b.2.2.2.1=a.2.2.2.1:=by rw[hb]
 have m0:=BL h0;have mn:=BL hn;have z: ∀n:Int,(r.1<=n/\n<=r.2.1)↔ ∃e∈M,e.1.1<=n/\n<=e.1.2.1:=λn=>by constructor;rintro⟨B,C⟩;obtain⟨j,e,_,q2,q3⟩:=(V.cover h0 _ T hn).2 n (by omega) (by omega);exact⟨e,BL q2,q3⟩;rintro⟨e,i,B,C⟩;obtain⟨k,W⟩:=Fi.1 i;have q1:=(V.cover h0 k e W).1;have a2:=EB W;have q2:=V.le W (M.length-1-k) T (by rw[show k+(M.length-1-k)=M.length-1 by omega];exact hn);omega
 have Z: ∀e∈M,cK L e.1:=λe i=>by obtain⟨f,_,_,_,g,_⟩:=h.mem (J e i);exact g
 have p: ∀e∈M,e.1.2.2.1=lo/\e.1.2.2.2.1=t/\e.1.1<=e.1.2.1:=λe i=>by obtain⟨k,W⟩:=Fi.1 i;exact V.same k e W
 have ad:cK L r:=by refine hr.runOf hL λy=>?_;rw[r5,O,r4];constructor;rintro⟨e,i,N⟩;have g:=((Z e i).mem y).1 N;obtain⟨p1,p2,p3⟩:=p e i;have:=(z y.1).2 ⟨e,i,g.2.2.2.2⟩;exact⟨g.1,g.2.1,by omega,by omega,this.1,this.2⟩;rintro⟨B,C,P,g4,g5,g6⟩;obtain⟨e,i,q1,q2⟩:=(z y.1).1 ⟨g5,g6⟩;obtain⟨p1,p2,p3⟩:=p e i;exact⟨e,i,((Z e i).mem y).2 ⟨B,C,by omega,by omega,q1,q2⟩⟩
 have K:KC a r.2.2.1 r.2.2.2.1:=by obtain⟨f,_,g,_⟩:=h.mem (J I m0);obtain⟨p1,p2,p3⟩:=p I m0;rw[O,r4,<-p1,<-p2];exact g.2.2.2
 have u:Good b (1,(a.2.2.2.2,OU r)) r:=⟨rfl,rfl,hr,(KC.congr b1 b2).1 K⟩
 have v: ∀{f:BP} {s:AT},Good a f s->Good b f s:=λg=>g.congr b1 b2;have l: ∀x∈Fa b,(x∈Fa a/\ ∀e∈M,e.2≠x.2)\/x=(r,a.2.2.2.2):=λx w=>by unfold Fa at w;rw[S]at w;obtain⟨f,d,t⟩:=PH.1 w;rcases At.1 d with d|d;obtain⟨f1,f2⟩:=fa.1 d;rcases h.files f f1 with U|⟨s,s1,s2,s3⟩;rw[U.intR q.1]at t;cases t;rw[(v s1).intR q.1]at t;injection t with t;subst t;exact .inl ⟨T1 h.vb.1 f1 s1,f2⟩;rw[BE]at d;subst d;rw[u.intR q.1]at t;injection t with t;exact .inr t.symm
 have ar: ∀x∈Fa a,(∀e∈M,e.2≠x.2)->x∈Fa b:=λx w Q=>by
  obtain⟨f,f1,f2,f3,_⟩:=h.mem w;have:f∈b.2.2.1:=by rw[S];exact At.2 (.inl (fa.2 ⟨f1,λe i=>f3▸Q e i⟩))
  have:=T1 q.1 this (v f2);rw[<-f3]at this;exact this
 have Y:(r,a.2.2.2.2)∈Fa b:=T1 q.1 (by rw[S];exact At.2 (.inr (BE.2 rfl))) u;have al: ∀x∈Fa a,x.1.1<=x.1.2.1:=λx w=>by obtain⟨f,_,g,_⟩:=h.mem w;exact g.2.2.1.1.2.1
 have a0:r.1<=r.2.1:=hr.1.2.1;have A: ∀y∈Fa a,(∀e∈M,e.2≠y.2)->y.1.2.2.1=lo->r.2.1<y.1.1\/y.1.2.1<r.1:=λy N Q o=>by refine Rk λF=>?_;have a4:=al y N;obtain⟨e,i,q1,q2⟩:=(z (if y.1.1<=r.1 then r.1 else y.1.1)).1 (by split<;>omega);have D:e≠y:=λF=>Q e i (by rw[F]);have:=h.dis e (J e i) y N D ((p e i).1.trans o.symm);split at q1<;>split at q2<;>omega
 refine⟨⟨q,λf d=>?_,λx w y N D o=>?_⟩,λm n=>?_,λao f d=>?_,λc hc m=>?_⟩;rw[S]at d;rw[b4];rcases At.1 d with d|d;exact(h.files f (fa.1 d).1).imp id λ⟨s,s1,s2,s3⟩=>⟨s,v s1,s2,s3⟩
 rw[BE]at d;subst d;obtain⟨f,_,_,_,_,g⟩:=h.mem (J T mn);exact .inr ⟨r,u,ad,by omega⟩;rcases l x w with⟨R,x2⟩|rfl;rcases l y N with⟨y1,y2⟩|rfl;exact h.dis x R y y1 D o;have:=A x R x2 (o.trans O);exact this.symm;rcases l y N with⟨y1,y2⟩|rfl;exact A y y1 y2 (o.symm.trans O);exact absurd rfl D;constructor;rintro⟨e,i,B,C,P⟩;by_cases Q: ∃f∈M,f.2=e.2;obtain⟨f,d,ap⟩:=Q;have:=qG h.vb (J f d) i ap;subst this;have hc:=(z n).2 ⟨f,d,C,P⟩;exact⟨_,Y,by rw[<-B,(p f d).1];exact O,hc.1,hc.2⟩;exact⟨e,ar e i λf d F=>Q ⟨f,d,F⟩,B,C,P⟩;rintro⟨e,i,B,C,P⟩;rcases l e i with⟨q1,q2⟩|rfl;exact⟨e,q1,B,C,P⟩;obtain⟨f,d,q1,q2⟩:=(z n).1 ⟨C,P⟩;exact⟨f,J f d,by rw[(p f d).1,<-B];exact O.symm,q1,q2⟩;rw[S]at d;rcases At.1 d with d|d;obtain⟨s,hs⟩:=ao f (fa.1 d).1;exact⟨s,v hs⟩;rw[BE]at d;subst d;exact⟨r,u⟩
 ·have X:=(Xg q).filter λe=>e.1.2.2.1==m;have a1:=hc m;by_cases hl:m=lo
  ·subst hl;have H:=jf _ ((r,a.2.2.2.2)::((Fa a).filter λe=>e.1.2.2.1==m).filter (notM M)) X λx w=>by obtain⟨x0,E⟩:=Bq.1 w;rcases l x x0 with⟨R,x2⟩|rfl;refine A1.2 (.inr (Bq.2 ⟨Bq.2 ⟨R,E⟩,?_⟩));unfold notM;simp only[VX,List.any_eq_false,beq_iff_eq];exact x2;exact A1.2 (.inl rfl)
   have a3:=iB (notM M) ((Fa a).filter λe=>e.1.2.2.1==m);have h1:M[1]? =some (M[1]'(by omega)):=Aw (by omega);have m1:=BL h1;have a5:2<=(((Fa a).filter λe=>e.1.2.2.1==m).filter λx=>!notM M x).length:=by
    have G: ∀e∈M,e∈((Fa a).filter λe=>e.1.2.2.1==m).filter λx=>!notM M x:=λe i=>by refine Bq.2 ⟨Bq.2 ⟨J e i,by rw[(p e i).1];exact beq_self_eq_true _⟩,?_⟩;unfold notM;rw[Bool.not_not];exact jw.2 ⟨e,i,beq_self_eq_true _⟩
    refine wR (G I m0) (G _ m1) λF=>?_;have ax:=V.next 0 I _ h0 h1
    have:=(p I m0).2.2;rw[<-F]at ax;omega
   rw[CD]at H;omega
  have H:=jf _ ((Fa a).filter λe=>e.1.2.2.1==m) X λx w=>by obtain⟨x0,E⟩:=Bq.1 w;rcases l x x0 with⟨R,x2⟩|rfl;exact Bq.2 ⟨R,E⟩;exact absurd (eq_of_beq E) λF=>hl (F.symm.trans O)
  omega
def TF(v1:List AT×List Int×List Bool)(i n:Nat):List NE:=((v1.1.zip v1.2.1).drop i).take n
theorem qu{e:NE}(b:A<r):(TF f d r)[A]? =some e↔f.1[d+A]? =some e.1/\f.2.1[d+A]? =some e.2:=by grind[TF]
theorem AAN{x:AM×Int}{w:List BP×List Int×Int×Int×Int}(hn:x.2=r)(o:r<=8)(t:f.2.1.length=f.1.length)(p:d+r<=f.1.length)(m:f.1.length<=4096)(h:x.1.2.2.1[A]? =some i):A3 (Ad (Nf x f ((d:Int),c) ((A:Int),w)) (false,(d:Int))) λj=>j=(TF f d r).any λe=>e.2==i.2.1:=by
 have l:(TF f d r).length=r:=by grind[TF,List.length_take,List.length_drop,List.length_zip]
 refine Gf (λ(s:Bool×Int)=> ∃k:Nat,s=(((TF f d r).take k).any (λe=>e.2==i.2.1),((d+k:Nat):Int))/\k<=r) (λs=>d+r-s.2.toNat) ⟨0,by simp,Bt _⟩ ?_;rintro s ⟨k,rfl,q⟩;unfold Nf;dsimp only;rw[hn,AY (x:=(d:Int)+(r:Int)),AY (x:=((d+k:Nat):Int)+1)];refine AC (λg=>?_) (λg=>A3.done (by grind));have b:k<r:=by omega
 have n:f.2.1[d+k]? =some (f.2.1[d+k]'(by omega)):=Aw (by omega);refine AI (λa=>A3.next ⟨k+1,?_,b⟩ (by grind)) (λa=>?_);grind
 ·rw[(by unfold ix;rw[if_pos (by omega),Int.toNat_natCast,n]:ix f.2.1 ((d+k:Nat):Int)=some (f.2.1[d+k]'(by omega))),Option.bind_some,(by unfold ix;rw[if_pos (by omega),Int.toNat_natCast,h]:ix x.1.2.2.1 (A:Int)=some i),Option.bind_some];refine A3.next ⟨k+1,?_,b⟩ (by omega)
  rw[(by rw[Ed,((qu (e:=(f.1[d+k]'(by omega),f.2.1[d+k]'(by omega))) b).2 ⟨(Aw (by omega)),n⟩)];rfl:(TF f d r).take (k+1)=(TF f d r).take k++[(f.1[d+k]'(by omega),f.2.1[d+k]'(by omega))]),List.any_append,a,Bool.false_or];refine ES ?_ (by grind);dsimp only;rw[List.any_cons,List.any_nil,Bool.or_false]
theorem AAM{x:AM×Int}(hn:x.2=r)(g:r<=8)(o:f.2.1.length=f.1.length)(l:d+r<=f.1.length)(n:f.1.length<=4096)(u:x.1.2.2.1.length<=256):A3 (Ad (Nd x f ((d:Int),c)) (0,([],(x.1.1,(x.1.2.1,x.1.2.2.2))))) λz=>z=(XZ (TF f d r) x.1.2.2.1,(x.1.1,(x.1.2.1,x.1.2.2.2))):=by
 refine Gf (λ(q:Int×List BP×List Int×Int×Int×Int)=> ∃j:Nat,q=((j:Int),(XZ (TF f d r) (x.1.2.2.1.take j),(x.1.1,(x.1.2.1,x.1.2.2.2))))/\j<=x.1.2.2.1.length) (λq=>x.1.2.2.1.length-q.1.toNat) ⟨0,rfl,Bt _⟩ ?_;rintro q ⟨j,rfl,v⟩;unfold Nd;simp only[len];rw[AY];refine AC (λk=>?_) (λk=>A3.done (by grind));have a:x.1.2.2.1[j]? =some (x.1.2.2.1[j]'(by omega)):=Aw (by omega);have m:ix x.1.2.2.1 (j:Int)=some (x.1.2.2.1[j]'(by omega)):=by unfold ix;rw[if_pos (by omega),Int.toNat_natCast,a]
 refine AB (AAN hn g o l n a) λi e=>?_;have p:XZ (TF f d r) (x.1.2.2.1.take (j+1))=XZ (TF f d r) (x.1.2.2.1.take j)++(if i=true then []else [x.1.2.2.1[j]'(by omega)]):=by grind[List.take_add_one,Option.toList_some,XZ]
 refine AB (P:=λt=>t=(XZ (TF f d r) (x.1.2.2.1.take (j+1)),(x.1.1,(x.1.2.1,x.1.2.2.2)))) ?_ λs b=>?_;refine AO (λh=>?_) (λh=>AA ?_);grind[XZ,TF,Nat.le_trans,List.length_filter_le,List.length_take,AB,Ae,AA];grind
 ·rw[b];exact A3.next ⟨j+1,by grind,by omega⟩ (by grind)
def ABs(L:List EN)(x:AM×Int)(r:AM×Bool×Int):Prop:=
 (x.1.2.2.2.2<=1073741824->r.2.2=0)/\(r.2.2=0->(r.2.1=false/\r.1=x.1)\/(r.2.1=true/\AR L r.1/\cJ x.1 r.1/\(AG x.1->AG r.1)/\(∀c,RC x.1 c->RC r.1 c)/\r.1.1=x.1.1/\r.1.2.1=x.1.2.1/\r.1.2.2.2.1=x.1.2.2.2.1/\r.1.2.2.2.2=x.1.2.2.2.2+1/\r.1.2.2.1.length+1<=x.1.2.2.1.length/\x.1.2.2.2.2<=1073741824))
theorem ACI{L:List EN}{x:AM×Int}(hL:Uq L)(h:AR L x.1)(hf:2<=x.2/\x.2<=8):A3 (L4 x) (ABs L x):=by
 have hs:=h.sa;have⟨n,hn⟩:=Ei (show 0<=x.2 by omega);have p:x.1.2.2.1.length<=256:=by have:=h.vb.2.2.2.2.2.1;omega
 have al:=h.vb.2.2.2.1;unfold L4;have⟨v0,U,V⟩:=sB (x:=x.1);have X:=V.2 h.vb;subst X;rw[U,AE,Ds,cond_false,decide_eq_false (by omega),cond_false,decide_eq_false (by omega),cond_false];refine AB (yA h) λa o=>?_;have⟨⟨t1,t2,t3,t4⟩,hw⟩:=o;have q: ∀e∈Fa x.1,VR e.1/\ ∀y∈e.1.2.2.2.2.2,y∈L:=λe t=>by have⟨f,_,g,_,g2,_⟩:=h.mem t;exact⟨g.2.2.1,λy hy=>((g2.mem y).1 hy).1⟩
 refine AB (P:=λr=>(∃z,r= .inr z)\/ ∃u,r= .inl u/\ABs L x (u.2.2,(u.1,u.2.1))) ?_ λr hr=>?_
 ·refine Gf (λ(s:Int×AM)=>0<=s.1/\s.1<=a.1.length) (λ(s:Int×AM)=>((a.1.length:Int)-s.1).toNat) ⟨Ak _,by dsimp only;omega⟩ (λs hI=>?_);have⟨i',z⟩:=s;have⟨D,i2⟩:=hI;dsimp only at D i2;obtain⟨i,rfl⟩:=Ei D;unfold SE;dsimp only;rw[AY (x:=(i:Int)+1) (by omega),AY (x:=(i:Int)+x.2) (by omega)];refine AC (λhc=>?_) (λ_=>A3.done (.inl ⟨_,rfl⟩));simp[len]at hc;refine AB (B9 D (by omega) (by omega)) λd h3=>?_;refine AB (B9 D (by omega) (by omega)) λZ h4=>?_;have l3:=h3.2;have l4:=h4.2;have l: ∀k,k<n->d[k]? =a.1[i+k]? :=λk c=>by grind[Int.toNat_natCast]
  have F: ∀k,k<n->Z[k]? =a.2.2[i+k]? :=λk c=>by grind[Int.toNat_natCast]
  have w: ∀{k:Nat} {r:AT},d[k]? =some r->k<n:=λ{k r} c=>by have:=EB c;omega
  have whole: ∀(k:Nat) (r:AT),d[k]? =some r->Z[k]? =some true-> ∃id,a.2.1[i+k]? =some id/\(r,id)∈Fa x.1:=λk r o h2=>by have c:=w o;rw[l k c]at o;rw[F k c]at h2;have ap:=EB o;have j:a.2.1[i+k]? =some (a.2.1[i+k]'(by omega)):=Aw (by omega);refine⟨_,j,?_⟩;refine hw ((r,a.2.1[i+k]'(by omega)),true) ?_ rfl;refine Fi.2 ⟨i+k,?_⟩;rw[pJ,pJ];exact⟨⟨o,j⟩,h2⟩
  have S:d.length=n:=by omega
  have I:d[0]? =some (d[0]'(by omega)):=Aw (by omega);have J:d[d.length-1]? =some (d[d.length-1]'(by omega)):=Aw (by omega);generalize d[0]'(by omega)=r0 at I;generalize d[d.length-1]'(by omega)=rn at J;refine AB (AAy (x:=(d,Z)) hL (λk r q1 q2=>?_) ⟨by dsimp only;omega,by dsimp only;omega⟩ (by dsimp only;omega) I J) λv5 h5=>?_;have⟨id,_,q3⟩:=whole k r q1 q2;exact q _ q3;refine AO (λ_=>A3.next ⟨by dsimp only;omega,by dsimp only;omega⟩ (by dsimp only;omega)) (λT=>?_);have⟨w1,lv,es,B,E,w4⟩:=h5 T;dsimp only at E w4;refine AC (λad=>A3.done (.inr ⟨_,rfl,λhh=>absurd hh (by omega),λhz=>absurd (show(21:Int)=0 from hz) (by decide)⟩)) (λar=>?_);have hi:i+n<=a.1.length:=by omega
  have Q:(TF a i n).length=n:=by unfold TF;rw[List.length_take,List.length_drop,List.length_zip];omega
  have b: ∀(k:Nat) (e:NE),(TF a i n)[k]? =some e->k<n/\d[k]? =some e.1/\a.2.1[i+k]? =some e.2:=λk e c=>by
   have m:k<n:=by grind
   have:=(qu m).1 c;exact⟨m,by rw[l k m];exact this.1,this.2⟩
  have C: ∀e∈TF a i n,e∈Fa x.1:=λe t=>by have⟨k,c⟩:=Fi.1 t;have⟨k1,v,Y⟩:=b k e c;have⟨q1,_⟩:=E k (by omega);have⟨id,q2,q3⟩:=whole k e.1 v q1;rw[Y]at q2;injection q2 with q2;rw[<-q2]at q3;exact q3
  have N:Grp (TF a i n) r0.2.2.1 r0.2.2.2.1:=by refine⟨λk e c=>?_,λk e f c hf=>?_⟩;have⟨k1,v,Y⟩:=b k e c;have⟨_,r,q1,q2,q3,_⟩:=E k (by omega);dsimp only at q1;rw[v]at q1;cases q1;exact⟨q2,q3,(q e (C e (BL c))).1.1.2.1⟩;have⟨k1,v,Y⟩:=b k e c;have⟨f1,f2,f3⟩:=b (k+1) f hf;have⟨_,r,q1,_,_,q2⟩:=E (k+1) (by omega);dsimp only at q1 q2;rw[f2]at q1;cases q1;exact q2 (by omega) e.1 (by rw[gd];exact v)
  have G:(TF a i n)[0]? =some ((TF a i n)[0]'(by omega)):=Aw (by omega);have H:(TF a i n)[(TF a i n).length-1]? =some ((TF a i n)[(TF a i n).length-1]'(by omega)):=Aw (by omega);generalize (TF a i n)[0]'(by omega)=m0 at G;generalize (TF a i n)[(TF a i n).length-1]'(by omega)=mn at H;have O:m0.1=r0:=by have:=(b 0 m0 G).2.1;rw[I]at this;exact(Cl this).symm
  have R:mn.1=rn:=by have:=(b _ mn H).2.1;rw[Q,<-S,J]at this;exact(Cl this).symm
  refine AB (AAM hn (by omega) t1 hi (by omega) p) λax K=>?_;subst K;rw[lD w1,AE];dsimp only;have ao:=tA h C N (by omega);refine AB (Ae (by simp;omega)) λa0 M=>?_;rw[AY (x:=x.1.2.2.2.2+1) (by omega),M.1];have W:=zE (s:=OU v5.1) h C N (by omega) (by omega);have key:=ot (r:=v5.1) hL h C N (by omega) G H w1 (by rw[B,O]) (by rw[B,R]) (by rw[B]) (by rw[B]) (λy=>by rw[B];dsimp only;rw[w4];constructor;rintro⟨k,r,q1,q2⟩;have c:=w q1;have A:=q1;rw[l k c]at A;have j:a.2.1[i+k]? =some (a.2.1[i+k]'(by omega)):=Aw (by omega);exact⟨(r,_),BL ((qu (e:=(r,a.2.1[i+k]'(by omega))) c).2 ⟨A,j⟩),q2⟩;rintro⟨e,t,q2⟩;have⟨k,c⟩:=Fi.1 t;exact⟨k,e.1,(b k e c).2.1,q2⟩) rfl W;refine A3.done (.inr ⟨_,rfl,λ_=>rfl,λ_=>.inr ⟨rfl,key.1,key.2.1,key.2.2.1,key.2.2.2,rfl,rfl,rfl,rfl,?_,by omega⟩⟩);dsimp only;rw[Af,CD,CT];omega
 rcases hr with⟨z,rfl⟩|⟨u,rfl,hu⟩;exact A9 (AA ⟨λ_=>rfl,λ_=>.inl ⟨rfl,rfl⟩⟩);exact BH (AA hu)
def cJ.refl(a:AM):cJ a a:=λ_ _=>Iff.rfl
def cJ.trans{a b c:AM}(h:cJ a b)(g:cJ b c):cJ a c:=λd n=>(h d n).trans (g d n)
def xz{L:List EN}{x:AM×Int}(q:Uq L)(h:AR L x.1)(u:2<=x.2/\x.2<=8)(v:SF x.1 b)(w:b<=1073741824):A3 (HH x) λr=>r.2=0/\AR L r.1/\cJ x.1 r.1/\(AG x.1->AG r.1)/\(∀c,RC x.1 c->RC r.1 c)/\SF r.1 b/\r.1.1=x.1.1/\r.1.2.1=x.1.2.1/\r.1.2.2.2.1=x.1.2.2.2.1:=by
 unfold HH;refine AB (P:=λr=>r.1=0/\AR L r.2/\cJ x.1 r.2/\(AG x.1->AG r.2)/\(∀c,RC x.1 c->RC r.2 c)/\SF r.2 b/\r.2.1=x.1.1/\r.2.2.1=x.1.2.1/\r.2.2.2.2.1=x.1.2.2.2.1) ?_ λr hr=>AA hr;refine Gf (λ(s:AM×AM)=>AR L s.1/\cJ x.1 s.1/\(AG x.1->AG s.1)/\(∀c,RC x.1 c->RC s.1 c)/\SF s.1 b/\s.1.1=x.1.1/\s.1.2.1=x.1.2.1/\s.1.2.2.2.1=x.1.2.2.2.1) (λs=>s.1.2.2.1.length) ⟨h,cJ.refl _,id,λ_=>id,v,rfl,rfl,rfl⟩ (λs p=>?_);obtain⟨e,f,l,n,g,i,j,k⟩:=p;unfold SG;refine AB (ACI (x:=(s.1,x.2)) q e u) λC o=>?_;obtain⟨y,z⟩:=o;have m:s.1.2.2.2.2<=1073741824:=by unfold SF at g;omega
 have d:=y m;refine AL (λt=>absurd d t) (λ_=>?_);rcases z d with⟨q1,q2⟩|⟨q1,q2,q3,A,B,q4,q5,q6,q7,q8,q9⟩
 ·rw[q1,jr,cond_true];exact A3.done ⟨rfl,e,f,l,n,g,i,j,k⟩
 ·rw[q1,Ds,cond_false];dsimp only at q3 q4 q5 q6 q7 q8;exact A3.next ⟨q2,f.trans q3,λa=>A (l a),λc a=>B c (n c a),by unfold SF at*;dsimp only;omega,q4.trans i,q5.trans j,q6.trans k⟩ (by dsimp only;omega)
theorem xv{L:List EN}{x:Int×List Int}(h:BD x.1 x.2):A3 (Hn x) λr=>AR L r.1/\AG r.1/\RC r.1 0/\SF r.1 1/\r.1.2.1=x.1/\r.1.2.2.2.1=1:=by
 have a:A3 (Hn x) λr=>r.2=0->r.1.2.2.1=[]/\r.1.2.2.2.2=1:=by refine AB gl λo b=>AO (λj=>AA λm=>?_) (λ_=>?_);grind;have l:=h.2.2.2.1;grind[AB,Ae,AA]
 refine((ACH h).and a).mono λr hr=>?_;have⟨⟨b,c,d,g⟩,i⟩:=hr;refine⟨⟨c,λf a=>?_,λe k=>?_⟩,λf a=>?_,λn=>?_,?_,d,g⟩;grind;grind[Fa];grind;grind[Fa];unfold SF;grind
def AX(L:List EN)(n d m:Int)(a:AM):Prop:=AR L a/\AG a/\(∃c:Nat,RC a c/\100*(c:Int)<=m+99)/\SF a m/\a.2.1=n/\a.2.2.2.1<=d+1/\(QZ L->AF a)
theorem AX.step(p:Du e)(h:AX e.2.1 n e.2.2 b c):A3 (Eb (c,(e,q))) λr=>r.2=0->AX e.2.1 n e.2.2 (b+100) r.1:=by have⟨d,a,⟨k,j,o⟩,f,g,t,i⟩:=h;refine(AAO (x:=(c,(e,q))) d p f).mono λr hr l=>?_;have⟨q1,q2,s,q3,q4,q5,q6⟩:=hr l;exact⟨q1,q2 a,⟨k+1,s k j,by omega⟩,by unfold SF at*;omega,q4.trans g,by grind,λm=>q6 m (i m)⟩
def AX.mono(h:AX a n b q c)(o:q<=u):AX a n b u c:=by have⟨d,e,⟨L,i,j⟩,l,f,g⟩:=h;exact⟨d,e,⟨L,i,by omega⟩,by unfold SF at*;omega,f,g⟩
theorem AX.tidy(p:Uq a)(h:AX a n b q c)(m:q<=1073741824)(s:2<=u/\u<=8):A3 (HH (c,u)) λr=>AX a n b q r.1:=by have⟨g,i,⟨k,t,L⟩,j,l,z,o⟩:=h;refine(xz (x:=(c,u)) p g s j m).mono λr hr=>?_;have⟨q0,q1,q2,q3,y,q4,q5,q6,q7⟩:=hr;exact⟨q1,q3 i,⟨k,y k t,L⟩,q4,q6.trans l,by grind,λd f e n v w=>(q2 f n).1 (o d f (q5▸e) n v (q7▸w))⟩
theorem mX{b:Aa}{x:Int×Aj}(h:CX b)(C:1<=x.1/\x.1<=64)(e:Du x.2):A3 (Jo b x) λr=>CX r.2/\AX x.2.2.1 x.1 x.2.2.2 901 r.1:=by
 have T:=e.1;have U:=e.2.2.2.1;refine AB (wU h C) λv0 m=>AB (xv (L:=x.2.2.1) m.2) λI v=>?_;have⟨D,E,H,F,G,s5⟩:=v;have A:AX x.2.2.1 x.1 x.2.2.2 1 I.1:=⟨D,E,⟨0,H,by decide⟩,F,G,by omega,λ_ lo _ n n1 n2=>by omega⟩
 refine AB (Ay m.1 (by decide)) λv2 w=>?_;have⟨t,u,S⟩:=w;refine AB (P:=λr=>CX r.1/\AX x.2.2.1 x.1 x.2.2.2 801 r.2) ?_ λK c=>AB (Ay c.1 (by decide)) λM f=>AB (P:=λa=>AX x.2.2.1 x.1 x.2.2.2 901 a) (AI (λ_=>AB (c.2.step e) λN g=>AB (P:=λa=>AX x.2.2.1 x.1 x.2.2.2 901 a) (AU (λk=>AA ((g k).mono (by decide))) (λ_=>AA (c.2.mono (by decide)))) λO i=>AA i) (λ_=>AA (c.2.mono (by decide)))) λQ j=>AA ⟨f.1,j⟩;refine Gf (λ(s:Int×Aa×AM)=>0<=s.1/\s.1<=8/\CX s.2.1/\AX x.2.2.1 x.1 x.2.2.2 (801-100*s.1) s.2.2) (λ(s:Int×Aa×AM)=>s.1.toNat) ⟨u,by grind,t,A.mono (by grind)⟩ (λs B=>?_);have⟨Y,Z,q,l⟩:=B;unfold QC;rw[(AY (x:=s.1-1) (by omega))];refine AC (λX=>AB (Ay q (by decide)) λv4 y=>AB (l.step e) λv5 z=>AB (P:=λa=>AX x.2.2.1 x.1 x.2.2.2 (801-100*(s.1-1)) a) (AU (λk=>AA ((z k).mono (by omega))) (λ_=>AA (l.mono (by omega)))) λv6 o=>AB (Ay y.1 (by decide)) λv7 p=>?_) (λ_=>A3.done ⟨q,l.mono (by omega)⟩);refine AB (P:=λr=>CX r.1/\AX x.2.2.1 x.1 x.2.2.2 (801-100*(s.1-1)) r.2) ?_ λJ d=>A3.next ⟨by grind,by grind,d.1,d.2⟩ (by grind)
 refine AI (λ_=>AB (Ay p.1 (by decide)) λR V=>?_) (λ_=>AA ⟨p.1,o⟩);rw[AY (x:=2+R.1) (by omega)];refine AB (o.tidy e.uq (by omega) ⟨by omega,by omega⟩) λv9 W=>?_;grind[AB,AU,AA]
set_option maxHeartbeats 1000000
theorem xy(h:BD n g):A3 (I2 (g,b)) λr=>0<=r.1/\r.1<=g.length/\(∀(i:Nat) (v:Int),(i:Int)<r.1->g[i]? =some v->v<b)/\(∀(i:Nat) (v:Int),r.1<=(i:Int)->g[i]? =some v->b<=v)/\(r.2=true->g[r.1.toNat]? =some b)/\(r.2=false-> ∀v,g[r.1.toNat]? =some v->b<v):=by
 have t:=h.2.2.2.1;refine AB (P:=λ(r:Int)=>0<=r/\r<=g.length/\(∀(i:Nat) (v:Int),(i:Int)<r->g[i]? =some v->v<b)/\ ∀(i:Nat) (v:Int),r<=(i:Int)->g[i]? =some v->b<=v) ?_ λJ u=>?_
 ·refine Gf (λ(s:Int×Int)=>0<=s.1/\s.1<=s.2/\s.2<=g.length/\(∀(i:Nat) (v:Int),(i:Int)<s.1->g[i]? =some v->v<b)/\ ∀(i:Nat) (v:Int),s.2<=(i:Int)->g[i]? =some v->b<=v) (λ(s:Int×Int)=>(s.2-s.1).toNat) ⟨Ak _,by grind,by grind,λi v e=>by grind,λi v e p=>by grind⟩ (λs y=>?_);have⟨o,G,C,D,E⟩:=y;unfold L5;rw[zF o];refine AC (λa=>?_) (λa=>A3.done ?_)
  ·refine AB (AK (by omega) (by grind)) λF l=>?_;refine AB kW λH k=>?_;rw[(AY (x:=(s.1+s.2)/2+1))];refine AB (P:=λ(q:Int×Int)=>(0<=q.1/\q.1<=q.2/\q.2<=(g.length:Int)/\(∀(i:Nat) (v:Int),(i:Int)<q.1->g[i]? =some v->v<b)/\ ∀(i:Nat) (v:Int),q.2<=(i:Int)->g[i]? =some v->b<=v)/\(q.2-q.1).toNat<(s.2-s.1).toNat) ?_ λI m=>A3.next m.1 m.2
   refine AI (λB=>AA ⟨⟨by grind,by grind,C,λi v e p=>?_,E⟩,by grind⟩) (λz=>AA ⟨⟨o,by omega,by omega,D,λi v e p=>?_⟩,by omega⟩);have f:=k.1 B;have:=h.le (i:=i) (j:=((s.1+s.2)/2).toNat) (by omega) p l.1;omega;have f: ¬F<b:=λq=>by have:=k.2 q;rw[z]at this;cases this
   have:=h.le (i:=((s.1+s.2)/2).toNat) (j:=i) (by omega) l.1 p;omega
  grind
 have⟨a1,a2,a3,a4⟩:=u;refine AC (λa=>?_) (λa=>AA ⟨a1,a2,a3,a4,λc=>(by cases c),λ_ v p=>?_⟩);simp[len]at a;refine AB (AK a1 a) λK w=>?_;refine AU (λd=>AA ⟨a1,a2,a3,a4,λ_=>by dsimp only;rw[w.1,d],λc=>(by cases c)⟩) (λA=>?_);refine AB (AK a1 a) λL _=>?_;refine AI (λc=>?_) (λ_=>AA ⟨a1,a2,a3,a4,λc=>(by cases c),λ_ v p=>?_⟩);grind;grind;grind
def mg(a:AM)(p lo hi:Int):Prop:= ∃i:Nat,a.1[i]? =some lo/\hi=sn a i/\lo<=p/\p<=hi
theorem ACK(h:VB c)(z:0<=b/\b<c.2.1): ∃p d,Gy (c,b)=some (p,(d,true))/\mg c b p d:=by
 have key:A3 (Gy (c,b)) λr=>r.2.2=true/\mg c b r.1 r.2.1:=by
  unfold Gy;dsimp only;refine AB (N5 h) λG m=>?_;rw[m,Ds,cond_false,decide_eq_false (by omega),cond_false,decide_eq_false (by omega),cond_false];refine AB (xy h.1) λa n=>?_;have⟨D,E,v,F,k,x⟩:=n;have q:=h.1.2.2.2.1;refine AB (P:=λl:Int=> ∃(i:Nat) (p:Int),l=i/\c.1[i]? =some p/\p<=b/\ ∀w,c.1[i+1]? =some w->b<w) ?_ λl s=>?_;refine AO (λt=>AA ?_) (λf=>AA ?_);have e:0<a.1:=by refine Rk λy=>?_;have:=x t 0 (by rw[show a.1.toNat=0 by omega];exact h.1.2.2.2.2.1);omega
  rw[AY];refine⟨a.1.toNat-1,c.1[a.1.toNat-1],by omega,Aw (by omega),?_,λw g=>?_⟩;have:=v (a.1.toNat-1) _ (by omega) (Aw (by omega));omega;grind;refine⟨a.1.toNat,b,by omega,(k f),Ak _,λw g=>?_⟩;exact h.1.lt 0 a.1.toNat b w (k f) g;obtain⟨i,p,rfl,j,u,A⟩:=s;rw[sA h.1 j,AE];refine AA ⟨rfl,i,j,rfl,u,?_⟩;grind[sn]
 have⟨⟨p,d,o⟩,k1,B,C⟩:=key;grind
def ADZ(P:Int->Prop)(j fl:Int):Prop:=0<=fl/\fl<=j/\(∀n,fl<n->n<=j->P n)/\(fl=0\/ ¬P fl)
structure lF(L:List EN)(l:Aj):Prop where
 vl:Du l
 sorted:L.Pairwise λx y=>x.1<y.1
 tail: ∀e,e∈l.2.1↔e∈L/\l.1<=e.1/\e.1<=l.1+l.2.1.length-1
 len:L.length<=4096
def ACE(p:CP d)(D:d≤16777216)(v:q-n≤d)(t:0≤n)(F:n≤q)(E:q≤1099511627776)(h:AR a c)(w:lF a e)(y:0≤b∧b<c.2.1):
  ∃o t j,mg c b o t/\ADZ (wq c e o) q j/\O3 (c,(e,(b,(n,q))))=some (decide (j<=n))/\A3 (Li (c,(e,(b,(n,q))))) λr=>(j>n/\r=([],42))\/(j<=n/\((Ve n (a.filter (Ol b n q))/\r=(a.filter (Ol b n q),0))\/(¬Ve n (a.filter (Ol b n q))/\r=([],13)))):=by
 obtain⟨o,u,x,i⟩:=ACK h.vb y;obtain⟨k,k1,G,H,I⟩:=id i;obtain⟨j,z,C,A⟩:=ACD p D v t F E h.vb h.ds w.vl y x rfl w.sorted w.tail (λl s=>by
  obtain⟨f,_,_,_,g,_⟩:=h.mem s;exact g) h.dis (λl s m=>by
  obtain⟨f,_,g,_⟩:=h.mem s;have B:l.1.2.2.1=o:=m;have L:=g.2.2.2;rw[B]at L;have:=L.uniq h.vb.1 ⟨k,k1,G⟩;exact⟨H,by omega⟩)
 exact⟨o,u,j,i,z,C,A⟩
theorem Du.sorted(h:Du e):e.2.1.Pairwise λx y=>x.1<y.1:=by have⟨l1,l2,a,b,c,d⟩:=h;rw[KH];grind
def Ud(h:Du e):lF e.2.1 e:=⟨h,h.sorted,λl=>⟨λa=>⟨a,by have⟨k,b⟩:=Fi.1 a;have:=(h.2.2.2.2.2 k l b).1;have:=EB b;omega⟩,λa=>a.1⟩,h.2.2.1⟩
theorem ADW{f:Int}(h:Du e)(n:e.2.2=e.1+e.2.1.length-1)(i:e.1<=f)(j:f<=e.2.2+1)(m:f<=1099511627776):A3 (Jg (e,f)) λr=>lF e.2.1 r.1/\r.1.1=f/\r.1.2.2=e.2.2:=by
 have o:A3 (Jg (e,f)) λr=>r.2=0->r.1=(f,(e.2.1.drop (f-e.1).toNat,e.2.2)):=by have⟨a1,a2,a3,a4,a5,a6⟩:=id h;refine AB Bo λv t=>?_;refine AO (λ_=>AA λa=>absurd (show(26:Int)=0 from a) (by decide)) (λ_=>?_);refine AC (λ_=>AA λa=>absurd (show(1:Int)=0 from a) (by decide)) (λ_=>?_);refine AC (λ_=>AA λa=>absurd (show(1:Int)=0 from a) (by decide)) (λ_=>?_);refine AC (λ_=>AA λa=>absurd (show(1:Int)=0 from a) (by decide)) (λ_=>?_);refine AC (λ_=>AA λa=>absurd (show(15:Int)=0 from a) (by decide)) (λ_=>?_);grind[AY,AB,B9,Ae,AA,List.take_of_length_le]
 refine((dA (x:=(e,f)) h n i j m).and o).mono λr hr=>?_;have⟨⟨c,q,s⟩,d⟩:=hr;refine⟨⟨q,h.sorted,λl=>?_,h.2.2.1⟩,s,by rw[(d c)]⟩;rw[(d c)];have⟨l1,l2,u,w,y,p⟩:=h;rw[Fi,Fi];constructor;grind;rintro⟨⟨k,b⟩,g,_⟩;have:=(p _ l b).1;exact⟨k-(f-e.1).toNat,by rw[J6,show(f-e.1).toNat+(k-(f-e.1).toNat)=k by omega];exact b⟩
theorem qU:Ol b n q p=(aF b p&&(decide (p.1>n)&&decide (p.1<=q))):=by unfold Ol aF dd;grind
theorem Ve.snoc(h:Ve b a)(m:a=[]->p.2.2.2.2.1<=b)(n: ∀f,a[a.length-1]? =some f->p.2.2.2.2.1=f.1):Ve b (a++[p]):=by
 intro k g s;rcases Ao k a.length with d|d;rw[B6 d]at s;refine⟨(h k g s).1,λf i c=>(h k g s).2 f i ?_⟩;grind;have o:=EB s;rw[Af,List.length_singleton]at o;have l:k=a.length:=by omega
 subst l;have j:p=g:=by grind
 subst j;refine⟨λe=>m (EU e),λf i c=>n f ?_⟩;rwa [B6 (by omega)]at c
def pM{n p i j:Int}{L:List EN}(F:LI n L)(G:L.Pairwise λx y=>x.1<y.1)(H:0≤i): ∀m:Nat,m≤L.length→
  Ve i ((L.take m).filter (Ol p i j))/\((∀f∈L.take m,f.1<=j)->((L.take m).filter (Ol p i j)=[]->Bu (L.take m) p<=i)/\ ∀f,((L.take m).filter (Ol p i j))[((L.take m).filter (Ol p i j)).length-1]? =some f->Bu (L.take m) p=f.1)
 |0,_=>by rw[List.take_zero];exact⟨λk e E=>by simp at E,λ_=>⟨λ_=>H,λf a=>by simp at a⟩⟩
 |m+1,hm=>by
  obtain⟨C,D⟩:=pM (j:=j) F G H m (by omega);have d:m<L.length:=by omega
  have B:L.take (m+1)=L.take m++[L[m]]:=by rw[Ed,Aw d];rfl
  have l: ∀f∈L.take m,f.1<L[m].1:=λf a=>by obtain⟨k,w⟩:=EV a;have z:=EB w;rw[Bh]at z;rw[LY (by omega),Aw (by omega)]at w;rw[<-Cl w];exact KH.1 G k m (by omega) d (by omega)
  have A:=F m _ (Aw d);rw[B,IZ];generalize I:L.take m=M at*;generalize L[m]=e at*;by_cases t:Ol p i j e=true;have g:=t;rw[qU]at g;simp only[BN,decide_eq_true_eq]at g;obtain⟨s,K,N⟩:=g;have q:e.2.2.2.2.2.2.1.1=p/\(e.2.1=1\/e.2.1=2):=by unfold aF at s;simp only[BN,eY,beq_iff_eq]at s;exact⟨s.2,s.1⟩
  obtain⟨q1,q2⟩:=D λf a=>by have:=l f a;omega
  have b:=A.1 q.2;rw[q.1]at b;rw[pH t,fD];refine⟨C.snoc (λh=>by rw[b.1];exact q1 h) (λf a=>by rw[b.1];exact q2 f a),λ_=>⟨λh=>by simp at h,λf a=>?_⟩⟩;rw[OM,if_pos s];have:e=f:=by simpa using a
  rw[this];rw[pG t,fD,D8];refine⟨C,λc=>?_⟩;have E:=c e (by simp);obtain⟨q1,q2⟩:=D λf a=>c f (HQ _ a);rw[OM];by_cases u:aF p e=true;have v:e.1<=i:=by refine Rk λJ=>t ?_;rw[qU,u];simp;omega
  have o:M.filter (Ol p i j)=[]:=List.filter_eq_nil_iff.2 λf a r=>by rw[qU]at r;simp only[BN,decide_eq_true_eq]at r;have:=l f a;omega
  rw[if_pos u,o];exact⟨λ_=>v,λf a=>by simp at a⟩;rw[if_neg u];exact⟨q1,q2⟩
theorem wg{n p i j:Int}(L:LI n a)(b:a.Pairwise λx y=>x.1<y.1)(c:0<=i):Ve i (a.filter (Ol p i j)):=by have:=(pM (p:=p) (j:=j) L b c a.length (Ag _)).1;grind
def ACF{p i j:Int}(L:CP d)(s:d≤16777216)(u:LI n a)(f:j-i≤d)(B:0≤i)(v:i≤j)(t:j≤1099511627776)(h:AR a c)(g:lF a e)(w:0≤p∧p<c.2.1):
  ∃l B b,mg c p l B/\ADZ (wq c e l) j b/\O3 (c,(e,(p,(i,j))))=some (decide (b<=i))/\((b>i/\Li (c,(e,(p,(i,j))))=some ([],42))\/(b<=i/\Li (c,(e,(p,(i,j))))=some (a.filter (Ol p i j),0))):=by
 obtain⟨l,q,b,x,m,o,r,k,y⟩:=ACE L s f B v t h g w;refine⟨l,q,b,x,m,o,?_⟩;rcases y with⟨q1,q2⟩|⟨q1,⟨q2,q3⟩|⟨q2,q3⟩⟩;exact .inl ⟨q1,by rw[k,q2]⟩;exact .inr ⟨q1,by rw[k,q3]⟩;exact absurd (wg u g.sorted B) q2
def xQ{x:AZ×De}(b:Nu x.2)(e:x.2.1=x.1.1)(c:GX x.1.2.2 x.2.2.1=some x.2.2.2.1):PR x=some ((x.1.1,(x.1.2.1,U3 x.1.2.2 x.2.2.1 x.2.2.2.2)),0):=by
 suffices f:A3 (PR x) λr=>r=((x.1.1,(x.1.2.1,U3 x.1.2.2 x.2.2.1 x.2.2.2.2)),0) by obtain⟨r,hr,rfl⟩:=f;exact hr
 unfold PR;refine AB Zd λv g=>AO (λa=>absurd (g.2 b) (by simp[a])) (λa=>?_);refine AL (λa=>absurd e a) (λd=>?_);rw[c];refine Az (Az ?_);rw[beq_self_eq_true,beq_self_eq_true];exact Az (Az (AA rfl))
theorem ABN{x:AZ}{e:AD}(h:Hq x)(f:K8 e)(g:e.2.1=1\/e.2.1=2)(c:e.2.2.2.2.2.2.1.1=x.1)(i:e.2.2.2.2.1=x.2.1)(d:GX x.2.2 e.2.2.2.2.2.2.1.2.1=some e.2.2.2.2.2.2.1.2.2.1):S0 (x,e)=some (upd x e,0):=by
 suffices j:A3 (S0 (x,e)) λr=>r=(upd x e,0) by obtain⟨r,hr,rfl⟩:=j;exact hr
 have a:Nu e.2.2.2.2.2.2.1:=by grind[K8,TI]
 have b:dd e=true:=by unfold dd;rcases g with q|q<;>rw[q]<;>rfl
 unfold S0;refine AB JZ λv k=>AO (λa=>absurd (k f) (by simp[a])) (λ_=>?_);rw[gr,b,fe h,AE,Ds,cond_false];refine Az (AL (λa=>absurd rfl a) (λ_=>AL (λa=>absurd c a) (λ_=>AL (λa=>absurd i a) (λ_=>?_))));rw[xQ a c d];exact Az (AL (λa=>absurd rfl a) (λ_=>AA rfl))
def ABP{x:AZ}(q:xw x z)(d:z.length<=4096):S3 (x,z)=some (z.foldl upd x,0):=by
 suffices t:A3 (S3 (x,z)) λr=>r=(z.foldl upd x,0) by obtain⟨r,hr,rfl⟩:=t;exact hr
 generalize v:z.foldl upd x=y;refine AB (P:=λr=> ∃a,r= .inr (y,a)) ?_ λr hr=>?_
 ·refine Gf (λ(s:Int×AZ×AZ)=> ∃A B,z=A++B/\s.1=A.length/\xw s.2.1 B/\B.foldl upd s.2.1=y) (λ(s:Int×AZ×AZ)=>((z.length:Int)-s.1).toNat) ⟨[],z,rfl,rfl,q,v⟩ ?_;rintro⟨i,x,a⟩ ⟨A,B,rfl,g,h,c⟩;dsimp only at g h c;subst g;unfold XX;dsimp only[len];rw[Af]at d;refine AC (λb=>?_) (λb=>A3.done ?_)
  ·obtain _|⟨e,B⟩:=B;simp at b;have u:ix (A++e::B) (A.length:Int)=some e:=by unfold ix;rw[if_pos (by omega),Df,Cb (Ag _),G3];rfl
   obtain⟨⟨j,f,k,l,m,n⟩,o⟩:=h;have p:e.2.2.2.2.1<e.1:=f.2.2.2.2.2.1;rw[u,AE,decide_eq_false (by omega),cond_false,ABN j f k l m n,AE,AY (x:=(A.length:Int)+1)];refine AL (λb=>absurd rfl b) (λ_=>A3.next ⟨A++[e],B,by simp,by simp,o,c⟩ (by dsimp only;omega))
  obtain _|⟨e,B⟩:=B;exact⟨a,by rw[<-c];rfl⟩;simp at b;omega
 obtain⟨a,rfl⟩:=hr;exact A9 (AA rfl)
def ABo(h:QZ z)(g:d<=r):z.filter (Ol b d r)=((z.take r).drop d).filter (aF b):=by
 have j: ∀(i:Nat) (e:AD),z[i]? =some e->Ol b d r e=(aF b e&&(decide (d<=i)&&decide (i<r))):=λi e L=>by have:=(h i e L).1;rw[qU,show decide (e.1>(d:Int))=decide (d<=i)from decide_eq_decide.2 (by omega),show decide (e.1<=(r:Int))=decide (i<r)from decide_eq_decide.2 (by omega)]
 conv=>lhs;rw[<-Ee r z,oU z g]
 rw[IZ,IZ];rw[(List.filter_eq_nil_iff (l:=z.take d)).2 λe L=>by obtain⟨i,c⟩:=EV L;have f:=EB c;rw[Bh]at f;rw[LY (by omega)]at c;rw[j i e c,decide_eq_false (show¬d<=i by omega)];simp];rw[(List.filter_eq_nil_iff (l:=z.drop r)).2 λe L=>by obtain⟨i,c⟩:=EV L;rw[J6]at c;rw[j _ e c,decide_eq_false (show¬r+i<r by omega)];simp];rw[Cy,D8];refine List.filter_congr λe L=>?_;obtain⟨i,c⟩:=EV L;rw[J6]at c;have f:=EB c;rw[Bh]at f;rw[LY (by omega)]at c;rw[j _ e c,decide_eq_true (show d<=d+i by omega),decide_eq_true (show d+i<r by omega)];simp
def Cov(a:AM)(l:Aj)(k:Nat):Prop:= ∀m:Int,1<=m->m<=k-> ∀p lo hi,mg a p lo hi->wq a l lo m
def zU(h:VB c)(b:Du e):L6 (c,e)=some 0:=by obtain⟨v,a,rfl⟩:=N5 h;obtain⟨w,d,rfl⟩:=So b;unfold L6;rw[a,AE,Ds,cond_false,d];rfl
def ABE{j k:Nat}(o:LI n a)(l:QZ a)(m:AR a c)(f:lF a e)(w:Cov c e k)(d:j<=k)(H:k<=a.length)(h:0<=b/\b<c.2.1)(L:b<64):S2 (st (a.take j) b,(c,(e,(k:Int))))=some (st (a.take k) b,0):=by
 have s:=f.len;have g:=jc l ⟨h.1,L⟩ (by omega:a.length<=1099511627776);have z:=fX l b j;have A:=fW (l.take j) b;rw[Bh]at A;unfold S2;dsimp only;rw[zU m.vb f.vl,AE,bne_self_eq_false,cond_false,fe (g j),AE];dsimp only;rw[bne_self_eq_false,cond_false,QW,eQ,decide_eq_false (by omega),cond_false];obtain⟨B,y,p,C,⟨D,t,E,u⟩,F,r⟩:=ACF (p:=b) (i:=Bu (a.take j) b) (j:=(k:Int)) (CPa 4096) (by decide) o (by omega) z (by omega) (by omega) m f h;have x:p=0:=by rcases u with q|q;exact q;by_cases v:p=0;exact v;exact absurd (w p (by omega) t b B y C) q
 obtain⟨G,r⟩:=r.resolve_left λq=>by have:=q.1;omega
 rw[r,AE];dsimp only;rw[bne_self_eq_false,cond_false,show Bu (a.take j) b=(((Bu (a.take j) b).toNat:Nat):Int) by omega,ABo l (by omega),mK l (j:=j) (by omega) (fY l),ABP (uo l o ⟨h.1,L⟩ (by omega) j k d) (by have:=LZ (aF b) ((a.take k).drop j);rw[G6,Bh]at this;omega),<-je d];rfl
def wo(x:AZ):KD:=(x.1,(x.2.1,yZ x))
def jj(L:List EN)(n:Nat):List KD:=(List.range n).map λ(i:Nat)=>wo (st L i)
def bp(L:List EN)(n:Nat):(jj L n).length=n:=by unfold jj;rw[List.length_map,List.length_range]
def ACk(h:r<d):(jj a d)[r]? =some (wo (st a r)):=by unfold jj;rw[CC,Rl h];rfl
def uZ(L:0<=b)(h:b<d):ix (jj a d) b=some (wo (st a b)):=by obtain⟨v,c,n,_⟩:=AK (l:=jj a d) L (by rw[bp];exact h);rw[ACk (by omega),LV L]at n;rw[c,<-Cl n]
def sq(L:List EN)(n:Nat):jj L (n+1)=jj L n++[wo (st L n)]:=by unfold jj;rw[List.range_succ,MB];rfl
def ABg(h:QZ a){k:Nat}(L:(st (a.take k) b).2.1=0):st (a.take k) b=(b,(0,JR.all (false,[]))):=by rw[QW]at L;exact(jd h (j:=k) (k:=0) (by rw[L];rfl)).trans rfl
def so(h:QZ a)(L:a.length<=1099511627776)(p:0<=b/\b<64):Gz (yZ (st (a.take d) b),b)=some (st (a.take d) b,0):=by
 have:=zN (jc h p L d) λc=>by rw[ABg h c]
 rwa [eQ]at this
theorem ABm{L:List EN}(h:QZ L)(l:L.length<=1099511627776){s:Int}{n k:Nat}(d:1<=s/\s<=1073741824)(hn:1<=n/\n<=64):UB (s,((n:Int),jj (L.take k) n))=some true:=by
 have m:Qo (s,((n:Int),jj (L.take k) n))=some true:=by
  suffices d:A3 (Qo (s,((n:Int),jj (L.take k) n))) λr=>r=true by obtain⟨r,hr,rfl⟩:=d;exact hr
  unfold Qo;dsimp only;have c:len (jj (L.take k) n)=n:=by unfold len;rw[bp]
  rw[decide_eq_false (by omega),cond_false,decide_eq_false (by omega),cond_false,decide_eq_false (by omega),cond_false,decide_eq_false (by omega),cond_false,c,decide_eq_false (by omega),cond_false];refine AB (P:=λr=>r= .inr ()) ?_ λr hr=>by rw[hr];exact A9 (AA rfl)
  refine Gf (λ(s:Int)=>0<=s/\s<=n) (λs=>((n:Int)-s).toNat) ⟨Ak _,by omega⟩ (λi j=>?_);obtain⟨e,p⟩:=j;unfold Ze;dsimp only;rw[c];refine AC (λa=>?_) (λ_=>A3.done rfl);have f:A3 (some (Step.next (wi (i+1))):Option (Step Int (Bool ⊕ Unit))) (XJ (λ(s:Int)=>0<=s/\s<=n) (λs=>((n:Int)-s).toNat) ((n:Int)-i).toNat λr=>r= .inr ()):=by rw[AY (by omega)];exact A3.next ⟨by omega,by omega⟩ (by omega)
  have g:(wo (st (L.take k) i)).1=i:=eQ _ _;rw[uZ e a,AE,g,decide_eq_false (by omega),cond_false];have b:Gz ((wo (st (L.take k) i)).2.2,i)=some (st (L.take k) i,0):=so h l ⟨e,by omega⟩;refine AC (λo=>?_) (λ_=>?_);rw[AY (by omega),uZ (by omega) (by omega),AE,show(wo (st (L.take k) (i-1))).1=i-1 from eQ _ _,decide_eq_false (by omega),cond_false,b,AE];exact AL (λa=>absurd rfl a) (λ_=>AL (λa=>absurd rfl a) (λ_=>f));rw[b,AE];exact AL (λa=>absurd rfl a) (λ_=>AL (λa=>absurd rfl a) (λ_=>f))
 unfold UB;rw[m,AE,cond_true];have c:len (jj (L.take k) n)=n:=by unfold len;rw[bp]
 dsimp only;rw[c,beq_self_eq_true]
def ya(q:LI n a)(L:QZ a)(o:AR a c)(i:lF a e)(k:Cov c e r)(j:d<=r)(s:r<=a.length)(g:0<=b/\b<c.2.1)(l:b<64):Pt (wo (st (a.take d) b),(c,(e,(r:Int))))=some (wo (st (a.take r) b),0):=by
 have m:=i.len;have f:=jc L ⟨g.1,l⟩ (by omega:a.length<=1099511627776);have h:Gz ((wo (st (a.take d) b)).2.2,(wo (st (a.take d) b)).1)=some (st (a.take d) b,0):=by rw[show(wo (st (a.take d) b)).1=b from eQ _ _];exact so L (by omega) ⟨g.1,l⟩
 unfold Pt;dsimp only;rw[h,AE];dsimp only;rw[bne_self_eq_false,cond_false,ABE q L o i k j s g l,AE];dsimp only;rw[bne_self_eq_false,cond_false];by_cases p:(st (a.take r) b).2.1=0;rw[p,beq_self_eq_true,cond_true];rw[QW]at p;have t:=Pu L b d r j;have u:=fX L b d;rw[jd L (j:=d) (k:=r) (by omega)];rw[beq_eq_false_iff_ne.2 p,cond_false,fe (f r),AE];dsimp only;unfold wo yZ;rw[if_neg p,eQ,eQ]
def xr{L:List EN}{s0 s:Int}{m j k:Nat}(w:LI n L)(g:QZ L)(f:AR L c)(l:lF L e)(x:Cov c e k)(d:j<=k)(y:k<=L.length)(B:(k:Int)<=e.2.2)(C:(m:Int)=c.2.1)(hn:1<=m/\m<=64)(u:1<=s0/\s0<=1073741824)(o:1<=s/\s<=1073741824):Gw ((s0,((m:Int),jj (L.take j) m)),(c,(e,(s,(k:Int)))))=some ((s,((m:Int),jj (L.take k) m)),0):=by
 have h:=l.len;suffices o:A3 (Gw ((s0,((m:Int),jj (L.take j) m)),(c,(e,(s,(k:Int)))))) λr=>r=((s,((m:Int),jj (L.take k) m)),0) by obtain⟨r,hr,rfl⟩:=o;exact hr
 unfold Gw;rw[ABm g (by omega) u hn,AE,Ds,cond_false];dsimp only;rw[zU f.vb l.vl,AE,bne_self_eq_false,cond_false,decide_eq_false (by omega),cond_false,decide_eq_false (by omega),cond_false,decide_eq_false (by omega),cond_false,decide_eq_false (by omega),cond_false];have q:len (jj (L.take j) m)=m:=by unfold len;rw[bp]
 refine AB (P:=λr=>r= .inr (jj (L.take k) m,(s,((m:Int),0)))) ?_ λr hr=>by rw[hr];exact A9 (AA rfl)
 refine Gf (λ(t:Int×List KD×Int×Int×Int)=>0<=t.1/\t.1<=m/\t.2=(jj (L.take k) t.1.toNat,(s,((m:Int),0)))) (λt=>((m:Int)-t.1).toNat) ⟨Ak _,by dsimp only;omega,rfl⟩ ?_;rintro⟨i,t⟩ ⟨a,A,p⟩;dsimp only at a A p;subst p;unfold XW;dsimp only;rw[q];refine AC (λb=>?_) (λb=>A3.done ?_)
 ·rw[uZ a b,AE,ya w g f l x d y ⟨a,by omega⟩ (by omega),AE,bne_self_eq_false,cond_false];refine AB (Ae (by rw[bp];simp;omega)) λv z=>?_;rw[AY];refine A3.next ⟨by dsimp only;omega,by dsimp only;omega,?_⟩ (by dsimp only;omega)
  dsimp only;rw[z.1,show(i+1).toNat=i.toNat+1 by omega,sq,LV a]
 rw[show i.toNat=m by omega]
def tF{m:Nat}(h:m<=64):F3 (1,(m:Int))=some (1,((m:Int),jj [] m)):=by
 suffices d:A3 (F3 (1,(m:Int))) λr=>r=(1,((m:Int),jj [] m)) by obtain⟨r,hr,rfl⟩:=d;exact hr
 unfold F3;refine AB (P:=λr=>r=(jj [] m,(1,(m:Int)))) ?_ λr hr=>AA (by rw[hr]);refine Gf (λ(t:Int×List KD×Int×Int)=>0<=t.1/\t.1<=m/\t.2=(jj [] t.1.toNat,(1,(m:Int)))) (λt=>((m:Int)-t.1).toNat) ⟨Ak _,by dsimp only;omega,rfl⟩ ?_;rintro⟨i,t⟩ ⟨b,f,c⟩;dsimp only at b f c;subst c;unfold Ry;dsimp only;refine AC (λa=>?_) (λa=>A3.done ?_)
 ·rw[vO,AE];refine AB (Ae (by rw[bp];simp;omega)) λv e=>?_;rw[AY];refine A3.next ⟨by dsimp only;omega,by dsimp only;omega,?_⟩ (by dsimp only;omega)
  dsimp only;rw[e.1,show(i+1).toNat=i.toNat+1 by omega,sq,LV b];rfl
 rw[show i.toNat=m by omega]
theorem ADH(x:Hp)(h:x.2.2.length<=16777216):HI (x,x)=some true:=by
 suffices c:A3 (HI (x,x)) λr=>r=true by obtain⟨r,hr,rfl⟩:=c;exact hr
 unfold HI;dsimp only;rw[bne_self_eq_false,cond_false,bne_self_eq_false,cond_false,bne_self_eq_false,cond_false];refine AB (P:=λr=>r= .inr ()) ?_ λr hr=>by rw[hr];exact A9 (AA rfl)
 refine Gf (λ(s:Int)=>0<=s/\s<=x.2.2.length) (λs=>((x.2.2.length:Int)-s).toNat) ⟨Ak _,by omega⟩ (λi a=>?_);obtain⟨e,f⟩:=a;unfold SH;dsimp only[len];refine AC (λb=>?_) (λ_=>A3.done rfl);obtain⟨v,d,_⟩:=AK (l:=x.2.2) e b;rw[d,AE,AE,beq_self_eq_true,beq_self_eq_true,beq_self_eq_true];simp only[Oe,Ds,cond_false];rw[AY (by omega)];exact A3.next ⟨by omega,by omega⟩ (by omega)
def QZ.nil:QZ []:=λi e h=>by simp at h
theorem nE{L:List EN}{a:AM}{l:Aj}{k:Nat}(b:l.1=1)(d:k<=l.2.1.length):Cov a l k:=λm f g p e c _=>.inl ⟨by omega,by omega⟩
def yS(h: ∀c∈g,0≤c∧c<256):A3 (bif (decide ((len g)>500))then
    Option.bind (bu g 0 500) λd=>
    some d
   else
   some g) λr=>CX (r,0):=by
 refine AC (λa=>?_) (λa=>AA ⟨Ak _,by simp only[len]at a;dsimp only;omega,h⟩);simp only[len]at a;refine AB (B9) λd e=>AA ⟨Ak _,by dsimp only;omega,λc b=>?_⟩;dsimp only at b;rw[e.1]at b;exact h c (Vk (KG b))
def AAR:IC ()=some true:=by
 suffices f:A3 (IC ()) λr=>r=true by obtain⟨r,hr,rfl⟩:=f;exact hr
 have a:Du ((1,([],0)):Aj):=⟨by decide,by decide,by decide,by decide,by decide,λi e h=>by simp at h⟩
 have hn:GZ ()=some (1,([],0)):=rfl;unfold IC;rw[show F3 (1,2)=_ from tF (m:=2) (by decide),AE,hn,AE];refine AB (mX (x:=(2,(1,([],0)))) ⟨by decide,by decide,λx h=>by simp at h⟩ ⟨by decide,by decide⟩ a) λl c=>?_;obtain⟨_,b,_,_,_,g,_⟩:=c;rw[AE];have d:=xr (s0:=1) (s:=2) (m:=2) (j:=0) (k:=0) (L:=[]) (LI.nil 0) QZ.nil b (Ud a) (nE (L:=[]) rfl (Bt _)) (Ag _) (Ag _) (by decide) g.symm (by decide) (by decide) (by decide);rw[show Gw ((1,(((2:Nat):Int),jj [] 2)),(l.1,((1,([],0)),(2,0))))=_ from d,AE];exact AA rfl
theorem lz{x:List Int×(Int×Int)}(h: ∀c∈x.1,0<=c/\c<256)(Q:0<=x.2.1/\x.2.1<256)(R:0<=x.2.2/\x.2.2<256):A3 (Ix x) λr=>r=true:=by
 unfold Ix;rw[AAR,AE,Ds,cond_false];refine AB (yS h) λv2 t=>?_;refine AB ((dw t (x:=25) (by omega)).and (uD t (x:=25) (by omega))) λe S=>?_;obtain⟨⟨c0,G,n2,g,n,li⟩,P,z⟩:=S;refine AB (mX (x:=(e.1,e.2.1)) c0 ⟨G,by dsimp only;omega⟩ g) λo T=>?_;obtain⟨c1,w,b2,b3,B,A,O,v⟩:=T;dsimp only at w A B O v;have E:=g.2.2.1;have C:=g.num z;refine AB (xz (x:=(o.1,2)) g.uq w ⟨by dsimp only;decide,by dsimp only;decide⟩ B (by decide)) λv5 U=>?_;obtain⟨t0,t1,H,t3,tr,t4,I,J,t7⟩:=U;dsimp only at H I J t7;have al:=w.vb.2.1;have y1:0<=Int.tmod x.2.2 o.1.2.2.2.1:=eu _ R.1;have y2:Int.tmod x.2.2 o.1.2.2.2.1<o.1.2.2.2.1:=er _ (by omega);rw[beq_eq_false_iff_ne.2 (by omega),cond_false,AY (x:=x.2.2) (by omega),AY (x:=1+Int.tmod x.2.2 o.1.2.2.2.1) (by omega)];refine AB (ADW g P (f:=1+Int.tmod x.2.2 o.1.2.2.2.1) (by omega) (by omega) (by omega)) λK V=>?_;obtain⟨M,w2,w3⟩:=V;refine AB (xv (L:=e.2.1.2.1) (x:=(e.1,[0])) ⟨G,by dsimp only;omega,by dsimp only;decide,by dsimp only;decide,rfl,λi a b y u Y=>by simp at u Y,λa u=>by simp at u;omega⟩) λv7 W=>?_;obtain⟨z1,z2,z3,z4,N,z6⟩:=W;dsimp only at N;have ed:e.2.1.2.2=e.2.1.2.1.length:=by omega
 generalize D:e.2.1.2.2=d at*;have m1:0<=Int.tmod x.2.1 (d+1):=eu _ Q.1;have m2:Int.tmod x.2.1 (d+1)<d+1:=er _ (by omega);rw[AY (x:=x.2.1) (by omega),AY (x:=d+1) (by omega),beq_eq_false_iff_ne.2 (by omega),cond_false];generalize Int.tmod x.2.1 (d+1)=k at*;obtain⟨k,rfl⟩:=Ei m1;obtain⟨m,hm⟩:=Ei (show 0<=e.1 by omega);rw[hm,tF (by omega),AE];have mk: ∀{a:AM} {l:Aj},AR e.2.1.2.1 a->lF e.2.1.2.1 l->Cov a l k->l.2.2=d->a.2.1=e.1->Gw ((1,((m:Int),jj [] m)),(a,(l,(2,(k:Int)))))=some ((2,((m:Int),jj (e.2.1.2.1.take k) m)),0):=λu hl Z ad X=>xr (j:=0) li C u hl Z (Bt _) (by omega) (by omega) (by omega) ⟨by omega,by omega⟩ (by decide) (by decide);have s:Cov v5.1 K.1 k:=λq q1 q2 p F y hp=>by by_cases hq:K.1.1<=q;exact .inl ⟨hq,by have:=M.vl.2.2.2.2.1;omega⟩;obtain⟨i,y,_⟩:=hp;rw[I]at y;exact .inr ((H F q).1 (v C F (BL y) q q1 (by omega)))
 rw[mk w (Ud g) (nE (L:=[]) z (by omega)) D A,AE,mk t1 M s w3 (J.trans A),AE,mk z1 (Ud g) (nE (L:=[]) z (by omega)) D N,AE];dsimp only;rw[beq_self_eq_true,cond_true,cond_true,cond_true,ADH _ (by rw[bp];omega),AE,cond_true,AE];exact AA rfl
end Go.Pm
namespace Go.Proofs.YtimajmppopkomaaGreat
open Go.RowKit Go.Ab Go.Pm
def vZ: ∃j,Tryz.prog.info? 199=some j/\j.size=2:=by
 have h:(Tryz.prog.info? 199).map (·.size)=some 2:=by kernel_rfl
 exact Vp.1 h
def AAW:liesAt Tryz.prog Tryz.prog.depth 199 (2/Tryz.prog.cellsOf 199) 0 199 1=true:=by kernel_rfl
set_option maxHeartbeats 1000000 in
set_option maxRecDepth 100000 in
def oe(b:Nat)(w:World)(d:w.cell? ⟨b,0,none⟩=some (.pointer (some ⟨b,0,none⟩))):
  Calls Tryz.prog 168 #[.pointer (some ⟨b,0,none⟩)] w λe c=>e= .returned (.tuple #[])/\c=w:=by
 obtain⟨j,a,_⟩:=vZ;go_enter Tryz.func168,Tryz.ntmps168;go_wp2;rw[Lib.run_neq_ptr_same w _ Tryz.underlying197 a];go_wp2;go_end0;exact⟨rfl,rfl⟩
set_option maxHeartbeats 1000000 in
set_option maxRecDepth 100000 in
def dQ(b:Nat)(w:World)(h:w.cell? ⟨b,0,none⟩=some (.pointer none))(a:w.shape? b=some (199,2))(f:w.frozen? ⟨b,0,none⟩=false):
  Calls Tryz.prog 168 #[.pointer (some ⟨b,0,none⟩)] w λe g=>e= .returned (.tuple #[])/\g=w.setCell ⟨b,0,none⟩ (.pointer (some ⟨b,0,none⟩)):=by
 obtain⟨j,d,c⟩:=vZ;go_enter Tryz.func168,Tryz.ntmps168;go_wp2;rw[Lib.run_to_unsafe w ⟨b,0,none⟩ Tryz.underlying197 Tryz.underlying294 d (by rw[c];decide) a (Nat.zero_lt_succ 1)];simp only[Result.andThen];rw[Oper.upon_value];go_wp2;rw[run_callFunc_extern Tryz.func207 (by kernel_rfl) (by kernel_rfl) (by kernel_rfl) (e:=Extern.AbiNoEscape.same) (by kernel_rfl)];rw[Lib.run_noEscape];simp only[Result.andThen];rw[Oper.upon_value];go_wp2;rw[Lib.run_from_unsafe w ⟨b,0,none⟩ Tryz.underlying294 Tryz.underlying197 d a AAW];simp only[Result.andThen];rw[Oper.upon_value];go_wp2;go_end0;exact⟨rfl,rfl⟩
def sG(B b:Nat)(bs:List Value)(w:World)(h:Lib.IsBuilderF 199 5 B b bs w):
  Calls Tryz.prog 168 #[.pointer (some ⟨b,0,none⟩)] w λe a=>e= .returned (.tuple #[])/\Lib.BuilderAtF 199 5 B b (.pointer (some ⟨b,0,none⟩)) bs a/\Below B w a:=by
 rcases h with h|h;apply (dQ b w h.cell0 h.shape h.frozen0).mono;rintro e a ⟨rfl,rfl⟩;exact⟨rfl,h.used _,(Below.refl B w).setCell (p:=⟨b,0,none⟩) h.1 _⟩;apply (oe b w h.cell0).mono;rintro e a ⟨rfl,rfl⟩;exact⟨rfl,h,Below.refl B _⟩
def vY: ∃i,Tryz.prog.info? 5=some i/\i.zero=some (.int .u8 0)/\i.size=1/\i.bytes=1:=by
 have h:(Tryz.prog.info? 5).map (λi=>(i.zero,i.size,i.bytes))=some (some (.int .u8 0),1,1):=by kernel_rfl
 obtain⟨i,b,a⟩:=Vp.1 h;simp only[Dq]at a;exact⟨i,b,a.1,a.2.1,a.2.2⟩
variable {d r A:Nat}
def mw{p:Value}{bs:List Value}{w:World}(h:Lib.BuilderAtF 199 5 d r p bs w): ∃v,w.heap[r]? =some (.cells #[p,v] 199 (0,0))/\w.cell? ⟨r,1,none⟩=some v/\w.ownsRowF d 5 1 v bs.length bs/\v.ownBlock≠some r:=by obtain⟨e,v,a,c,B⟩:=h;exact⟨v,a,by rw[Lib.cell_of_heap a];rfl,c,B⟩
set_option maxHeartbeats 1000000 in
set_option maxRecDepth 100000 in
def ACV(B b:Nat)(bs:List Value)(w:World)(h:Lib.IsBuilderF 199 5 B b bs w):
  Calls Tryz.prog 130 #[.pointer (some ⟨b,0,none⟩)] w λe l=>e= .returned (.int .i64 bs.length)/\l=w:=by
 obtain⟨p,j⟩: ∃p,Lib.BuilderAtF 199 5 B b p bs w:=h.elim (λh=>⟨_,h⟩) (λh=>⟨_,h⟩);obtain⟨v,k,m,a,_⟩:=mw j;obtain⟨d,cap,rfl⟩: ∃d cap,v= .slice d bs.length cap:=by rcases a.2 with⟨c,i⟩|⟨g,cap,f,n,c,_⟩;exact⟨none,0,by rw[c,i]⟩;exact⟨_,_,c⟩
 go_enter Tryz.func130,Tryz.ntmps130
 go_wp2
 go_ret
 exact⟨rfl,rfl⟩
set_option maxHeartbeats 2000000 in
set_option maxRecDepth 100000 in
def qR(B b:Nat)(bs:List Value)(c:Int)(w:World)(h:Lib.IsBuilderF 199 5 B b bs w)(C:bs.length+1≤140737488355328)(H:B≤w.heap.size):
  Calls Tryz.prog 125 #[.pointer (some ⟨b,0,none⟩),.int .u8 c] w λe E=>e= .returned .nilIface/\Lib.BuilderAtF 199 5 B b (.pointer (some ⟨b,0,none⟩)) (bs++[.int .u8 c]) E/\Below B w E:=by
 obtain⟨M,I,t,x,y⟩:=vY;go_enter Tryz.func125,Tryz.ntmps125;go_wp2_with (go_at_call 168;apply (sG B b bs _ h).mono)
 rintro e F ⟨rfl,m,l⟩;have A:=m.1;have r:=m.lt;have c0:=m.cell0;obtain⟨v,q,z,i,s⟩:=mw m;have K:=l.size;go_wp2_with (at_builtin;apply wpList_append_ownF _ rfl _ _ 22 rfl B 5 M (.int .u8 0) 1 1 Tryz.underlying22 I t x y rfl (by decide) _ _ _ rfl (i.alloc _) ⟨F.heap.size,0,none⟩ 1 1 [.int .u8 c] rfl rfl ?z ?c2 ?c3 ?c4 ?c5)
 case z=>
  intro j u n;match j,n with
  |0,n=>simp at n;subst n;simp[Addr.add]
 case c2=>intro u D;simp at D;subst D;rfl
 case c3=>unfold maxLen;omega
 case c4=>omega
 case c5=>simp;omega
 intro N o d a _;have f:o.heap[b]? =some (.cells #[.pointer (some ⟨b,0,none⟩),v] 199 (0,0)):=by rw[a.block b (by simp;omega) (λe=>s e.symm),Lib.alloc_old F _ b r];exact q
 have O:o.cell? ⟨b,0,none⟩=some (.pointer (some ⟨b,0,none⟩)):=by rw[Lib.cell_of_heap f];rfl
 have P:o.cell? ⟨b,1,none⟩=some v:=by rw[Lib.cell_of_heap f];rfl
 have Q:o.frozen? ⟨b,1,none⟩=false:=Lib.frozen_of_heap f 1;obtain⟨g,cap,rfl⟩: ∃g cap,N= .slice (some ⟨g,0,none⟩) (bs.length+1) cap:=by rcases d.2 with⟨_,S⟩|⟨g,cap,G,R,L,_⟩;omega;exact⟨g,cap,L⟩
 go_wp2
 go_ret
 refine⟨rfl,?_,?_⟩;exact Lib.BuilderAtF.put (T:=199) (e:=5) A f (bs':=bs++[.int .u8 c]) (by simpa using d) (by decide);exact((l.alloc (by omega) _).grown a (by simp;omega) (λk J=>(i.lt k J).1)).setCell (p:=⟨b,1,none⟩) A _
set_option maxHeartbeats 2000000 in
set_option maxRecDepth 100000 in
def Vs(B b:Nat)(bs:List Value)(s:ByteArray)(w:World)(h:Lib.IsBuilderF 199 5 B b bs w)(z:bs.length+s.size≤140737488355328)(E:B≤w.heap.size):
  Calls Tryz.prog 124 #[.pointer (some ⟨b,0,none⟩),.string s] w λe C=>e= .returned (.tuple #[.int .i64 s.size,.nilIface])/\Lib.BuilderAtF 199 5 B b (.pointer (some ⟨b,0,none⟩)) (bs++Lib.strCells s) C/\Below B w C:=by
 obtain⟨I,F,r,t,u⟩:=vY;go_enter Tryz.func124,Tryz.ntmps124;go_wp2_with (go_at_call 168;apply (sG B b bs _ h).mono)
 rintro e P ⟨rfl,j,i⟩;have y:=j.1;have n:=j.lt;have c0:=j.cell0;obtain⟨v,m,K,f,o⟩:=mw j;have H:=i.size;go_wp2_with (at_builtin;apply Lib.wpList_append_own_stringF _ rfl _ _ 22 9 rfl B 5 I Tryz.underlying22 Tryz.underlying9 F r t u _ _ _ rfl f s rfl ?c3 ?c4 ?c5)
 case c3=>unfold maxLen;omega
 case c4=>omega
 case c5=>omega
 intro J l c a _;have d:l.heap[b]? =some (.cells #[.pointer (some ⟨b,0,none⟩),v] 199 (0,0)):=by rw[a.block b n (λe=>o e.symm)];exact m
 have L:l.cell? ⟨b,0,none⟩=some (.pointer (some ⟨b,0,none⟩)):=by rw[Lib.cell_of_heap d];rfl
 have M:l.cell? ⟨b,1,none⟩=some v:=by rw[Lib.cell_of_heap d];rfl
 have N:l.frozen? ⟨b,1,none⟩=false:=Lib.frozen_of_heap d 1;obtain⟨x,A,cap,rfl⟩: ∃x A cap,J= .slice x A cap:=by rcases c.2 with⟨q,_⟩|⟨g,cap,D,O,q,_⟩;exact⟨_,_,_,q⟩;exact⟨_,_,_,q⟩
 go_wp2
 go_ret2
 refine⟨rfl,?_,?_⟩;exact Lib.BuilderAtF.put (T:=199) (e:=5) y d (bs':=bs++Lib.strCells s) (by simpa[Lib.strCells_length]using c) (by decide);exact(i.grown a (by omega) (λk G=>(f.lt k G).1)).setCell (p:=⟨b,1,none⟩) y _
set_option maxHeartbeats 1000000 in
set_option maxRecDepth 100000 in
def pL(B b:Nat)(l:List UInt8)(w:World)(h:Lib.IsBuilderF 199 5 B b (Lib.byteCells l) w)(y:l≠ []):
  Calls Tryz.prog 126 #[.pointer (some ⟨b,0,none⟩)] w λe z=>e= .returned (.string ⟨l.toArray⟩)/\Lib.IsBuilderF 199 5 B b (Lib.byteCells l) z/\Below B w z:=by
 obtain⟨p,K,k⟩: ∃p,(p= .pointer none\/p= .pointer (some ⟨b,0,none⟩))/\Lib.BuilderAtF 199 5 B b p (Lib.byteCells l) w:=h.elim (λh=>⟨_,.inl rfl,h⟩) (λh=>⟨_,.inr rfl,h⟩);obtain⟨D,v,i,c,t⟩:=k;have s:l.length≠0:=by simpa using y
 rw[Lib.byteCells_length]at c;obtain⟨g,cap,a,f,rfl,n,I,H,J,o,G,u⟩: ∃g cap a f,v= .slice (some ⟨g,0,none⟩) l.length cap/\B<=g/\w.heap[g]? =some (.cells a 5 f)/\f.2<=l.length*1/\l.length<=cap/\cap<=maxLen/\a.size=cap*1/\a.toList.take (l.length*1)=Lib.byteCells l:=by rcases c.2 with⟨_,N⟩|⟨g,cap,a,f,L,r⟩;exact absurd N s;exact⟨g,cap,a,f,L,r⟩
 have A:w.drew.cell? ⟨b,1,none⟩=some (.slice (some ⟨g,0,none⟩) l.length cap):=by have:w.drew.heap[b]? =some (.cells #[p,.slice (some ⟨g,0,none⟩) l.length cap] 199 (0,0)):=i;rw[Lib.cell_of_heap this];rfl
 have E:(Builtin.unsafeSliceData_ #[22] 250 #[.slice (some ⟨g,0,none⟩) l.length cap]).run Tryz.prog w.drew= .ok (.pointer (some ⟨g,0,none⟩)) w.drew:=Lib.run_unsafeSliceData_row _ _ _ _ _ _ (by omega);have F:(Builtin.unsafeString_ #[250,3] 9 #[.pointer (some ⟨g,0,none⟩),.int .i64 l.length]).run Tryz.prog w.drew= .ok (.string ⟨l.toArray⟩) (w.drew.freeze ⟨g,0,none⟩ l.length):=by apply Lib.run_unsafeString_row w.drew 250 3 9 5 Tryz.underlying250 (by kernel_rfl) g a.size (by have q:w.drew.heap[g]? =some (.cells a 5 f):=I;simp[World.shape?,q]) l y (by omega) (by unfold maxLen at o;omega);intro j x M;exact c.cells (g:=g) rfl j (.int .u8 x.toNat) (by simp[Lib.byteCells,M])
 have d:Lib.IsBuilderF 199 5 B b (Lib.byteCells l) (w.drew.freeze ⟨g,0,none⟩ l.length):=by
  have C:Lib.BuilderAtF 199 5 B b p (Lib.byteCells l) w.drew:=⟨D,_,i,by rw[Lib.byteCells_length];exact c,t⟩
  have m:=C.froze (g:=g) (cap:=cap) (by rw[Lib.byteCells_length];exact A);rw[Lib.byteCells_length]at m;rcases K with rfl|rfl;exact .inl m;exact .inr m
 go_enter Tryz.func126,Tryz.ntmps126
 go_wp2
 go_region
 all_goals (go_wp2;go_ret;exact⟨rfl,d,Lib.below_freeze (Below.drew (Below.refl B w)) (p:=⟨g,0,none⟩) n _⟩)
set_option maxHeartbeats 2000000 in
set_option maxRecDepth 1000000 in
def yN(B b n:Nat)(w:World)(p:B≤b)(a:w.heap[b]? =some (.cells #[.pointer (some ⟨b,0,none⟩),.slice none 0 0] 199 (0,0)))(j:B≤w.heap.size)(hn:n≤281474976710656):
  Calls Tryz.prog 172 #[.pointer (some ⟨b,0,none⟩),.int .i64 n] w λe o=>e= .returned (.tuple #[])/\Lib.BuilderAt 199 5 B b (.pointer (some ⟨b,0,none⟩)) [] o/\Below B w o:=by
 obtain⟨c,h,q,g⟩:=Lib.run_makeNoZero (P:=Tryz.prog) w.drew #[3] 22 5 Tryz.underlying22 n hn;have m:IntKind.i64.wrap (IntKind.i64.wrap 0+(n:Int))=n:=by rw[IntKind.wrap_i64,IntKind.wrap_i64];omega
 have k:(callFunc 208 #[.int .i64 (IntKind.i64.wrap (IntKind.i64.wrap 0+(n:Int)))]).run Tryz.prog w.drew= .ok (.value (.slice (some ⟨w.drew.heap.size,0,none⟩) n c.size)) (w.drew.drew.drew.alloc (.cells c 5)):=by rw[m,run_callFunc_extern Tryz.func208 (by kernel_rfl) (by kernel_rfl) (by kernel_rfl) (e:=Extern.BytealgMakeNoZero.makeNoZero #[3] #[22]) (by kernel_rfl),h];rfl
 have f:b<w.heap.size:=by rcases Ao b w.heap.size with i|i;exact i;simp[mq i]at a
 have r:w.drew.cell? ⟨b,1,none⟩=some (.slice none 0 0):=by have:w.drew.heap[b]? =_:=a;rw[Lib.cell_of_heap this];rfl
 have s:(w.alloc (.cells c 5)).cell? ⟨b,1,none⟩=some (.slice none 0 0):=by have:(w.alloc (.cells c 5)).heap[b]? =_:=(Lib.alloc_old w _ b f).trans a;rw[Lib.cell_of_heap this];rfl
 have t:(w.alloc (.cells c 5)).frozen? ⟨b,1,none⟩=false:=Lib.frozen_of_heap ((Lib.alloc_old w _ b f).trans a) 1;have l: ∀W:World,(Builtin.copy_ #[22,22] 3 #[.slice (some ⟨w.heap.size,0,none⟩) 0 c.size,.slice none 0 0]).run Tryz.prog W= .ok (goInt 0) W:=λW=>run_copy_none W 22 22 3 5 _ _ 0 c.size 0 0 Tryz.underlying22 (by kernel_rfl) rfl;clear m;have d:=Lib.grown_fresh (T:=199) (e:=5) (cs:=c) p a j (g (by unfold maxLen;omega)) (by decide);rw[World.setCell_alloc_past _ _ _ _ f]at d;go_enter Tryz.func172,Tryz.ntmps172;go_wp2;go_region;all_goals (go_wp2;go_end0;exact⟨rfl,d⟩)
set_option maxHeartbeats 2000000 in
set_option maxRecDepth 1000000 in
def AAV(B b n:Nat)(w:World)(g:B≤b)(c:w.heap[b]? =some (.cells #[.pointer none,.slice none 0 0] 199 (0,0)))(h:B≤w.heap.size)(hn:n≤281474976710656):
  Calls Tryz.prog 129 #[.pointer (some ⟨b,0,none⟩),.int .i64 n] w λe f=>e= .returned (.tuple #[])/\Lib.BuilderAt 199 5 B b (.pointer (some ⟨b,0,none⟩)) [] f/\Below B w f:=by
 have a:(w.setCell ⟨b,0,none⟩ (.pointer (some ⟨b,0,none⟩))).heap[b]? =some (.cells #[.pointer (some ⟨b,0,none⟩),.slice none 0 0] 199 (0,0)):=by simp[World.setCell,mr,c]
 have i:(w.setCell ⟨b,0,none⟩ (.pointer (some ⟨b,0,none⟩))).cell? ⟨b,1,none⟩=some (.slice none 0 0):=by rw[Lib.cell_of_heap a];rfl
 have d:Below B w (w.setCell ⟨b,0,none⟩ (.pointer (some ⟨b,0,none⟩))):=(Below.refl B w).setCell (p:=⟨b,0,none⟩) g _;have m:Lib.BuilderAt 199 5 B b (.pointer (some ⟨b,0,none⟩)) [] (w.setCell ⟨b,0,none⟩ (.pointer (some ⟨b,0,none⟩))):=⟨g,.slice none 0 0,a,World.ownsRow_nil _ _ _ _,by simp[Value.ownBlock]⟩
 have j:(w.setCell ⟨b,0,none⟩ (.pointer (some ⟨b,0,none⟩))).drew.cell? ⟨b,1,none⟩=some (.slice none 0 0):=i;go_enter Tryz.func129,Tryz.ntmps129;go_wp2_with (go_at_call 168;apply (dQ b w (by rw[Lib.cell_of_heap c];rfl) (by simp[World.shape?,c]) (Lib.frozen_of_heap c 0)).mono;rintro e f ⟨rfl,rfl⟩)
 go_region
 all_goals go_wp2_with (go_at_call 172;apply (yN B b n (w.setCell ⟨b,0,none⟩ (.pointer (some ⟨b,0,none⟩))).drew g a (by simpa[World.setCell,World.drew,-World.drew_eq]using h) hn).mono;rintro e f ⟨rfl,k,l⟩)
 all_goals first
  |(go_end0;exact⟨rfl,k,d.drew.trans l⟩)
  |(go_end0;exact⟨rfl,m.drew,d.drew⟩)
end Go.Proofs.YtimajmppopkomaaGreat
