/- Texts of wip, joined and shortened by wip/tools/pack.py; nothing is assumed. -/
import Derived.Test.YtimajmppopkomaaGreatK10
noncomputable section
set_option linter.all false
namespace Go.Pm
open Go Go.Ab
def AFT(n:Nat)(p:List NE×(Int×(Int×Int))):jQ (λg (p:List NE×(Int×(Int×Int)))=>B4 g p.1 p.2) (n+1) p=B4 (jQ (λg (p:List NE×(Int×(Int×Int)))=>B4 g p.1 p.2) n) p.1 p.2:=rfl
def xj: ∀(N:Nat) (d:Array NE) (a m b:Nat),a<m→m<b→b≤d.size→d.size≤16777216→Sort.SortedIn lN a m d→Sort.SortedIn lN m b d→
  PT (b-a<=N) (jQ (λg (p:List NE×(Int×(Int×Int)))=>B4 g p.1 p.2) N (d.toList,((a:Int),((m:Int),(b:Int))))) λr=> ∃e:Array NE,r=e.toList/\um a b d e
 |0,d,a,m,b,h1,h2,h3,h4,h5,h6=>⟨λt=>absurd t o!,λr e=>by cases e⟩
 |N+1,d,a,m,b,h1,h2,h3,h4,h5,h6=>by rw[AFT];exact AGt h1 h2 h3 h4 h5 h6 (xj N)
def AEB{d:Array NE}{a m b:Nat}(c:a<m)(f:m<b)(g:b≤d.size)(h:d.size≤16777216)(i:Sort.SortedIn lN a m d)(j:Sort.SortedIn lN m b d):
  Av (Ed d.toList ((a:Int),((m:Int),(b:Int)))) λr=> ∃e:Array NE,r=e.toList/\um a b d e:=by
 have⟨r,hr⟩:=(xj (b-a) d a m b c f g h i j).1 (Ai _);have⟨s,k⟩:=kM hr;have⟨N,l⟩:=iq k;exact⟨s,k,(xj N d a m b c f g h i j).2 s l⟩
def Mul(s a:Nat):Prop:= ∃k,a=k*s
def Mul.zero{s:Nat}:Mul s 0:=⟨0,k!⟩
def Mul.add{s a:Nat}(h:Mul s a):Mul s (a+s):=by obtain⟨k,rfl⟩:=h;exact⟨k+1,q!⟩
def Mul.half{s a:Nat}(h:Mul (2*s) a):Mul s a:=by obtain⟨k,rfl⟩:=h;exact⟨k*2,q!⟩
def Mul.lt{s a b:Nat}(c:Mul s a)(d:Mul s b)(h:a<b):a+s<=b:=by obtain⟨k,rfl⟩:=c;obtain⟨j,rfl⟩:=d;have:k<j:=Nat.lt_of_mul_lt_mul_right h;have:=P9 s (Nat.succ_le_of_lt this);grind
theorem Yr{a b c:Nat}{d:Array NE}(h:Sort.SortedIn lN a b d)(i:c<=b):Sort.SortedIn lN a c d:=λx y e f g=>h x y e f o!
def Vo{a b x y:Nat}{d e:Array NE}(h:Sort.SortedIn lN a b d)(c:Sort.PermIn x y d e)(l:b<=x\/y<=a):Sort.SortedIn lN a b e:=λi j f g k=>by rw[c.2.1 i o!,c.2.1 j o!];exact h i j f g k
def Blk(s n:Nat)(d:Array NE):Prop:= ∀a b,Mul s a->b<=a+s->b<=n->Sort.SortedIn lN a b d
theorem AAB{d0:Array NE}{n:Nat}(hn:n=d0.size)(hd:n<=1048576):Av (Ey d0.toList (n:Int)) λr=> ∃e:Array NE,r=e.toList/\um 0 n d0 e:=by
 unfold Ey;refine AA (P:=λ(r:Int×List NE)=> ∃(a:Nat) (d:Array NE),r.1=a/\r.2=d.toList/\a<=n/\n<a+20/\Mul 20 a/\Sort.PermIn 0 n d0 d/\ ∀c,Mul 20 c->c<a->Sort.SortedIn lN c (c+20) d) ?_ ?_;refine AS (λ(s:Int×(Int×List NE))=> ∃(a:Nat) (d:Array NE),s.1=a/\s.2.1=((a+20:Nat):Int)/\s.2.2=d.toList/\a<=n/\Mul 20 a/\Sort.PermIn 0 n d0 d/\ ∀c,Mul 20 c->c<a->Sort.SortedIn lN c (c+20) d) (λs=>n-s.1.toNat) ⟨0,d0,rfl,rfl,rfl,B8 _,Mul.zero,Sort.permIn_refl _ _ _,λc _ h=>absurd h (by omega)⟩ ?_;rintro⟨Y,Z,s3⟩ ⟨a,d,q1,q2,q3,q4,q5,q6,q7⟩;dsimp only at q1 q2 q3;subst q1 q2 q3;have hz:d.size=n:=by rw[q6.1,hn]
 unfold Ix;dsimp only;refine AC (λO=>?_) (λO=>AB ⟨a,d,rfl,rfl,q4,by omega,q5,q6,q7⟩);have A:=Sort.insertionSort_holds qu d a (a+20) (by omega) (by omega);rw[yV (d:=d) (k:=a) (m:=a+20) rfl rfl (by omega) (by omega) (by omega),AE];have j:Nat.beq (List.length (Sort.insertionSort lN d a (a+20)).toList) (List.length d.toList)=true:=by rw[Di,Di,A.1.1];exact Jy _
 have e1:wi (((a+20:Nat):Int)+20)=((a+20+20:Nat):Int):=by grind[Qh]
 rw[j,cond_true,e1];refine AB ⟨⟨a+20,_,rfl,rfl,rfl,by omega,q5.add,Sort.permIn_trans _ _ _ _ _ q6 (Sort.permIn_mono _ _ a (a+20) 0 n (by omega) (by omega) (by omega) A.1),λc g w=>?_⟩,?_⟩;rcases Aq c a with l|l;exact Vo (q7 c g l) A.1 (.inl (g.lt q5 l));have:c=a:=by rcases Aq a c with i|i;have:=q5.lt g i;omega;omega
 rw[this];exact A.2;show n-((a+20:Nat):Int).toNat<n-((a:Nat):Int).toNat
 omega;rintro⟨r1,r2⟩ ⟨a,d,q1,q2,q3,q4,q5,q6,q7⟩;dsimp only at q1 q2;subst q1 q2;have hz:d.size=n:=by rw[q6.1,hn]
 dsimp only;have A:=Sort.insertionSort_holds qu d a n q3 (by omega);rw[yV (d:=d) (k:=a) (m:=n) rfl rfl (by omega) (by omega) (by omega),AE];have j:Nat.beq (List.length (Sort.insertionSort lN d a n).toList) (List.length d.toList)=true:=by rw[Di,Di,A.1.1];exact Jy _
 rw[j,cond_true];have C:Sort.PermIn 0 n d0 (Sort.insertionSort lN d a n):=Sort.permIn_trans _ _ _ _ _ q6 (Sort.permIn_mono _ _ a n 0 n (by omega) (by omega) (by omega) A.1);have u:Blk 20 n (Sort.insertionSort lN d a n):=λc o g w l=>by rcases Aq c a with i|i;exact Yr (Vo (q7 c g i) A.1 (.inl (g.lt q5 i))) w;rcases Aq a c with E|E;have:=q5.lt g E;exact λx y H I J=>absurd J (by omega);grind[Yr]
 revert C u;generalize Sort.insertionSort lN d a n=d1;intro C u;refine AA (P:=λr=> ∃e:Array NE,r=e.toList/\um 0 n d0 e) (AS (λ(s:Int×List NE)=> ∃(t:Nat) (e:Array NE),s.1=t/\s.2=e.toList/\1<=t/\t<=2097172/\Sort.PermIn 0 n d0 e/\Blk t n e) (λs=>n-s.1.toNat) ⟨20,d1,rfl,rfl,by omega,by omega,C,u⟩ ?_) λr h=>AB h;rintro⟨Y,Z⟩ ⟨t,e,H,I,J,g4,V,W⟩;dsimp only at H I;subst H I;unfold Iy;dsimp only;refine AC (λO=>?_) (λO=>AB ⟨e,rfl,V,W 0 n Mul.zero (by omega) (Ai _)⟩);have U:wi (2*(t:Int))=((2*t:Nat):Int):=by rw[Qh (by omega)];omega
 have e3:wi ((t:Int)*2)=((2*t:Nat):Int):=by rw[Qh (by omega)];omega
 rw[U,e3];refine AA (P:=λ(r:Int×List NE)=> ∃(a:Nat) (f:Array NE),r.1=a/\r.2=f.toList/\a<=n/\n<a+2*t/\Mul (2*t) a/\Sort.PermIn 0 n d0 f/\(∀c,Mul (2*t) c->c<a->Sort.SortedIn lN c (c+2*t) f)/\ ∀c o,Mul t c->a<=c->o<=c+t->o<=n->Sort.SortedIn lN c o f) ?_ ?_;refine AS (λ(s:Int×(Int×List NE))=> ∃(a:Nat) (f:Array NE),s.1=a/\s.2.1=((a+2*t:Nat):Int)/\s.2.2=f.toList/\a<=n/\Mul (2*t) a/\Sort.PermIn 0 n d0 f/\(∀c,Mul (2*t) c->c<a->Sort.SortedIn lN c (c+2*t) f)/\ ∀c o,Mul t c->a<=c->o<=c+t->o<=n->Sort.SortedIn lN c o f) (λs=>n-s.1.toNat)
  ⟨0,e,rfl,by simp,rfl,B8 _,Mul.zero,V,λc _ h=>absurd h (by omega),λc o g _ w l=>W c o g w l⟩ ?_
 rintro⟨Y,Z,s3⟩ ⟨a,f,k1,G,T,X,p,D,K,B⟩;dsimp only at k1 G T;subst k1 G T;have S:f.size=n:=by rw[D.1,hn]
 unfold Iz;dsimp only;refine AC (λQ=>?_) (λQ=>AB ⟨a,f,rfl,rfl,X,by omega,p,D,K,B⟩);have N:wi ((a:Int)+(t:Int))=((a+t:Nat):Int):=by rw[Qh (by omega)];omega
 have e5:wi (((a+2*t:Nat):Int)+((2*t:Nat):Int))=((a+2*t+2*t:Nat):Int):=by rw[Qh (by omega)];omega
 rw[N,U,e5];refine AA (AEB (d:=f) (a:=a) (m:=a+t) (b:=a+2*t) (by omega) (by omega) (by omega) (by omega) (B a (a+t) p.half (Ai _) (Ai _) (by omega)) (B (a+t) (a+2*t) p.half.add (by omega) (by omega) (by omega))) ?_;rintro r ⟨q,rfl,v,F⟩;have j:Nat.beq (List.length q.toList) (List.length f.toList)=true:=by rw[Di,Di,v.1];exact Jy _
 rw[j,cond_true];refine AB ⟨⟨a+2*t,q,rfl,rfl,rfl,by omega,p.add,Sort.permIn_trans _ _ _ _ _ D (Sort.permIn_mono _ _ a (a+2*t) 0 n (by omega) (by omega) (by omega) v),λc g w=>?_,λc o g w l i=>Vo (B c o g (by omega) l i) v (.inr w)⟩,?_⟩;rcases Aq c a with l|l;exact Vo (K c g l) v (.inl (g.lt p l));have:c=a:=by rcases Aq a c with i|i;have:=p.lt g i;omega;omega
 rw[this];exact F;show n-((a+2*t:Nat):Int).toNat<n-((a:Nat):Int).toNat
 omega;rintro⟨v1,v2⟩ ⟨a,f,k1,G,T,X,p,D,K,B⟩;dsimp only at k1 G;subst k1 G;have S:f.size=n:=by rw[D.1,hn]
 dsimp only;have N:wi ((a:Int)+(t:Int))=((a+t:Nat):Int):=by rw[Qh (by omega)];omega
 rw[N];have z: ∀q:Array NE,Sort.PermIn a n f q->Sort.SortedIn lN a n q->(∃(L:Nat) (M:Array NE),((2*t:Nat):Int)=L/\q.toList=M.toList/\1<=L/\L<=2097172/\Sort.PermIn 0 n d0 M/\Blk L n M)/\n-((2*t:Nat):Int).toNat<n-((t:Nat):Int).toNat:=λq v F=>by refine⟨⟨2*t,q,rfl,rfl,by omega,by omega,Sort.permIn_trans _ _ _ _ _ D (Sort.permIn_mono _ _ a n 0 n (by omega) (by omega) (by omega) v),λc o g w l=>?_⟩,by omega⟩;rcases Aq c a with i|i;exact Yr (Vo (K c g i) v (.inl (g.lt p i))) w;rcases Aq a c with E|E;have:=p.lt g E;exact λx y H I J=>absurd J (by omega);rw[show c=a by omega];exact Yr F l
 refine AC (λR=>AA (AEB (d:=f) (a:=a) (m:=a+t) (b:=n) (by omega) (by omega) (by omega) (by omega) (B a (a+t) p.half (Ai _) (Ai _) (by omega)) (B (a+t) n p.half.add (by omega) (by omega) (Ai _))) ?_) (λR=>AB (z f (Sort.permIn_refl _ _ _) (B a n p.half (Ai _) (by omega) (Ai _))));rintro r ⟨q,rfl,v,F⟩;have j:Nat.beq (List.length q.toList) (List.length f.toList)=true:=by rw[Di,Di,v.1];exact Jy _
 rw[j,cond_true];exact AB (z q v F)
def ADl{l:List NE}(h:l.length<=1048576):Av (Cv l ()) λr=>r.Perm l/\r.Pairwise λx y=>lN y x=false:=by
 unfold Cv;apply AA (AAB (d0:=l.toArray) (n:=l.length) k! h);rintro r ⟨R,rfl,d,f⟩;have e:R.size=l.length:=by rw[d.1];simp
 have g:Nat.beq (List.length R.toList) (List.length l)=true:=by simp[e]
 rw[g,cond_true];refine AB ⟨?_,?_⟩;have:=d.2.2;rw[show R.extract 0 l.length=R by rw[<-e];exact kp,show l.toArray.extract 0 l.length=l.toArray by rw[show l.length=l.toArray.size by simp];exact kp]at this;exact this;rw[Hr];intro i j k m b;have a:i<R.size:=by simpa using k
 have c:j<R.size:=by simpa using m
 have:=f i j (B8 _) b o!;rw[getElem!_pos R j c,getElem!_pos R i a]at this;simpa using this
def ACL(l:List NE):Prop:= ∀x∈l,∀y∈l,x≠y->x.1.2.2.1=y.1.2.2.1->x.1.2.1<y.1.1\/y.1.2.1<x.1.1
def ADe{N a:List NE}(W:N.length=a.length)(G:a.length≤256)(I: ∀e∈a,1≤e.1.1∧e.1.1≤e.1.2.1∧e.1.2.1≤1099511627776∧0≤e.1.2.2.1)(P:a.Pairwise λx y=>lN y x=false)(hn:a.Nodup)(O:ACL a):
  Av (Af (Sa N a) (0,((-1),(0,([],[]))))) λr=>r=(a.map (·.1),a.map (·.2)):=by
 refine AS (λ(s:Int×(Int×(Int×(List AP×List Int))))=> ∃k:Nat,s.1=k/\k<=a.length/\s.2.2.2=((a.take k).map (·.1),(a.take k).map (·.2))/\((k=0/\s.2.1= -1)\/ ∃e,0<k/\a[k-1]? =some e/\s.2.1=e.1.2.2.1/\s.2.2.1=e.1.2.1)) (λs=>a.length-s.1.toNat) ⟨0,rfl,B8 _,rfl,.inl ⟨rfl,rfl⟩⟩ ?_;rintro⟨Y,R,Z,s4⟩ ⟨k,q1,q2,q3,q4⟩;dsimp only at q1 q3 q4;subst q1 q3;unfold Sa;dsimp only;refine AC (λw=>?_) (λw=>AB ?_)
 ·simp only[len]at w;refine AA (AI) λv8 _=>?_;refine AA (AI) λv h=>?_;have z:a[k]? =some v:=by simpa using h.1
  obtain⟨S,T,U,V⟩:=I v h.2;have C:a.take (k+1)=a.take k++[v]:=by rw[Dt,z];rfl
  have X:(a.take k).length<=256:=by rw[Ba];omega
  have j: ∀D:Int,D=v.1.2.2.1→Av (Option.bind (app ((a.take k).map (·.1)) [v.1]) λf=>Option.bind (app ((a.take k).map (·.2)) [v.2]) λg=>some (Step.next (wi ((k:Int)+1),(D,(v.1.2.1,(f,g)))))) λ(st:Step (Int×(Int×(Int×(List AP×List Int)))) (List AP×List Int))=>match st with
    | .next i=>(∃d:Nat,i.1=d/\d<=a.length/\i.2.2.2=((a.take d).map (·.1),(a.take d).map (·.2))/\((d=0/\i.2.1= -1)\/ ∃e,0<d/\a[d-1]? =some e/\i.2.1=e.1.2.2.1/\i.2.2.1=e.1.2.1))/\a.length-i.1.toNat<a.length-((k:Nat):Int).toNat
    | .done r=>r=(a.map (·.1),a.map (·.2)):=λD A=>by
   refine AA (Ac w!) λf t=>?_;refine AA (Ac w!) λg u=>AB ⟨⟨k+1,?_,o!,?_,.inr ⟨v,o!,by rw[jy];exact z,A,rfl⟩⟩,?_⟩;show wi ((k:Int)+1)=_;rw[ox];show(f,g)=_;rw[t.1,u.1,C,Mh,Mh];rfl;show a.length-(wi ((k:Int)+1)).toNat<a.length-((k:Nat):Int).toNat
   rw[ox];omega
  have b: ∀n:Int,n<v.1.1->Nk (v.1,n)=some v.1:=λn hn=>by unfold Nk;have:decide (v.1.1>n)=true:=decide_eq_true hn;dsimp only;rw[this,cond_true]
  refine AL (λm=>?_) (λc=>?_);refine AC (λq=>absurd q o!) (λ_=>?_);rw[b 0 o!,AE];obtain⟨st,E,F⟩:=j v.1.2.2.1 rfl;exact⟨st,E,by cases st<;>exact F⟩;rcases q4 with⟨_,q4⟩|⟨e,q5,q6,q7,q8⟩;exact absurd (c.trans q4) o!;have B:e.1.2.1<v.1.1:=by
   have H:=BM q6;obtain⟨J,K⟩:=U1.1 q6;obtain⟨L,M⟩:=U1.1 z;have m:e≠v:=λp=>by have:=(Hr.1 (Mj.1 hn)) (k-1) k J L o!;rw[K,M]at this;exact this p
   have o:=(Hr.1 P) (k-1) k J L o!;rw[K,M]at o;have Q:=I e H;have l:e.1.2.2.1=v.1.2.2.1:=by rw[<-q7];exact c.symm
   rcases O e H v h.2 m l with p|p;exact p;simp only[lN,decide_eq_false_iff_not]at o;omega
  rw[q8];refine AC (λq=>absurd q o!) (λ_=>?_);rw[b _ B,AE];obtain⟨st,E,F⟩:=j R c.symm;exact⟨st,E,by cases st<;>exact F⟩
 simp only[len]at w;rw[BS o!]
noncomputable def intR(a:AK)(f:BJ):Option NE:=
 match Gy (a,f)with
 |some (r,true)=>some (r,f.2.1)
 |_=>none
noncomputable def FU(a:AK):List NE:=a.2.2.1.filterMap (intR a)
def ADd{x:AK}(h:VB x)(t:DS x):Av (Af (SZ x) (0,[])) λr=>r=FU x/\r.length<=256/\ ∀e∈r,Z9 e.1:=by
 obtain⟨⟨v,w,y,n,z,A,B⟩,a1,a2,a3,a4,a5,a6⟩:=id h;refine AS (λ(s:Int×NL)=>0<=s.1/\s.1<=x.2.2.1.length/\s.2.length<=s.1/\(∀e∈s.2,Z9 e.1)/\s.2=(x.2.2.1.take s.1.toNat).filterMap (intR x)) (λ(s:Int×NL)=>((x.2.2.1.length:Int)-s.1).toNat) ⟨Ag _,d!,k!,λe a=>by simp at a,k!⟩ (λs q=>?_);obtain⟨u,C,D,j,k⟩:=q;unfold SZ;refine AC (λf=>?_) (λf=>AB ⟨?_,o!,j⟩);simp only[len]at f;have e:=AZ (x:=s.1+1);rw[e];refine AA (AI u f) λg m=>?_;have c:x.2.2.1.take (s.1+1).toNat=x.2.2.1.take s.1.toNat++[g]:=by rw[show(s.1+1).toNat=s.1.toNat+1 by omega,Dt,m.1];rfl
 refine D9 (jX n (t _ m.2)) λl d p=>?_;refine AJ (λb=>?_) (λb=>AB ⟨⟨d!,d!,d!,j,?_⟩,d!⟩);have hr:intR x g=some (l.1,g.2.1):=by unfold intR;rw[d];obtain⟨r,o⟩:=l;dsimp only at b;subst b;rfl
 refine AA (Ac w!) λE i=>AB ⟨⟨d!,d!,?_,λe a=>?_,?_⟩,d!⟩;have:=i.2.1;simp only[By,Bs]at this;dsimp only;omega;dsimp only at a;rw[i.1]at a;rcases An.1 a with a|a;exact j e a;rw[BA.1 a];exact p b;dsimp only;rw[c,rj,i.1,k];simp[hr];have hr:intR x g=none:=by unfold intR;rw[d];obtain⟨r,o⟩:=l;dsimp only at b;subst b;rfl
 dsimp only;rw[c,rj,k];simp[hr];simp only[len]at f;rw[k,BS o!];rfl
def AEX{x:AK}(h:VB x)(m:DS x)(hn:(FU x).Nodup)(b:ACL (FU x)):Av (J0 x) λr=> ∃v:List NE,v.Perm (FU x)/\(v.Pairwise λp q=>lN q p=false)/\r=(v.map (·.1),v.map (·.2))/\v.length<=256/\ ∀e∈v,Z9 e.1:=by
 unfold J0;refine AA (Od h) λt j=>?_;rw[j,C3,cond_false];refine AA (ADd h m) λu k=>?_;obtain⟨rfl,g,s⟩:=k;refine AA (ADl o!) λf a=>?_;have i:=a.1.length_eq;have l:Nat.beq (List.length f) (List.length (FU x))=true:=by rw[i];exact Jy _
 rw[l,cond_true];have c: ∀e∈f,Z9 e.1:=λe d=>s e (a.1.mem_iff.1 d);refine AA (ADe i.symm o! (λe d=>?_) a.2 (a.1.nodup_iff.2 hn) (λp n q o=>b p (a.1.mem_iff.1 n) q (a.1.mem_iff.1 o))) λr hr=>AB ⟨f,a.1,a.2,hr,o!,c⟩;have:=c e d;exact⟨this.1,this.2.1,this.2.2.1,this.2.2.2.1⟩
def vB(l:List (Int×Int))(n:Int):Prop:= ∃s∈l,s.1<=n/\n<=s.2
def AA5{l:List (Int×Int)}{u b:Int}(p:l.length<=16777216):Av (Af (Sb (l,u)) (0,b)) λr=>(∀q,r= .inl q->0<=q.1/\q.1<l.length/\q.2=b/\ ∀e,l[q.1.toNat]? =some e->e.1<=b/\b<=e.2)/\(∀q,r= .inr q->q=b/\ ¬vB l b):=by refine AS (λ(s:Int×Int)=>0<=s.1/\s.1<=l.length/\s.2=b/\ ∀e∈l.take s.1.toNat,¬(e.1<=b/\b<=e.2)) (λ(s:Int×Int)=>((l.length:Int)-s.1).toNat) ⟨Ag _,d!,rfl,k!⟩ (λt n=>?_);obtain⟨k,v,m,g⟩:=n;unfold Sb;refine AC (λd=>?_) (λd=>AB ⟨λu c=>(by cases c),λu c=>?_⟩);simp only[len]at d;have e:=AZ (x:=t.1+1);rw[e];refine AA (AI k d) λw h=>?_;unfold Tu;rw[has_eq,AE,AE,m];refine AJ (λf=>AB ⟨λu c=>?_,λu c=>(by cases c)⟩) (λi=>AB ⟨⟨d!,d!,rfl,λe a=>?_⟩,d!⟩);cases c;refine⟨k,d,rfl,λe a=>?_⟩;dsimp only at a;rw[h.1]at a;injection a with a;subst a;unfold Pc at f;simp only[BP,decide_eq_true_eq]at f;exact f;dsimp only at a;rw[show(t.1+1).toNat=t.1.toNat+1 by omega,Dt,h.1]at a;rcases An.1 a with a|a;exact g e a;rw[cP,BA]at a;subst a;intro j;unfold Pc at i;simp only[Bool.and_eq_false_iff,decide_eq_false_iff_not]at i;omega;cases c;simp only[len]at d;rw[BS o!]at g;exact⟨m,by rw[show vB l b↔ ∃s∈l,s.1<=b/\b<=s.2 from Iff.rfl];rintro⟨s,o,j⟩;exact g s o j⟩
def w6{l:List (Int×Int)}{u:Int}(h:SpL l)(w:0<=u)(A:u<=1099511627776):Av (L7 (l,u)) λr=>0<=r/\r<=u/\(∀n,r<n->n<=u->vB l n)/\(r=0\/ ¬vB l r):=by obtain⟨a1,a2⟩:=h;unfold L7;refine AA (P:=λr=>0<=r/\r<=u/\(∀n,r<n->n<=u->vB l n)/\(r=0\/ ¬vB l r)) ?_ λr hr=>AB hr;refine AS (λ(s:Int)=>0<=s/\s<=u/\ ∀n,s<n->n<=u->vB l n) (λ(s:Int)=>s.toNat) ⟨w,Ag _,λn k m=>by dsimp only at k;omega⟩ (λs v=>?_);obtain⟨p,t,g⟩:=v;unfold XF;refine AA (AA5 (b:=s) a1) λr hr=>?_;refine A8 (λq f=>?_) (λq f=>?_);obtain⟨i,j,y,z⟩:=hr.1 q f;refine AC (λd=>absurd d o!) (λ_=>?_);refine AC (λd=>AB ?_) (λB=>?_);rw[y]at d⊢;exact⟨p,t,g,.inl o!⟩;refine AA (AI i j) λa c=>?_;have q1:=z a c.1;have q2:=a2 a c.2;have e:=AZ (x:=a.1-1);rw[e];refine AB ⟨⟨o!,o!,λn k m=>?_⟩,o!⟩;rcases iP s n with o|o;exact g n o m;exact⟨a,c.2,o!⟩;obtain⟨i,j⟩:=hr.2 q f;rw[i];exact AB ⟨p,t,g,.inr j⟩
theorem sy{x:AK}(h:VB x):((FU x).map (·.2)).Pairwise (· < ·):=by
 have p:x.2.2.1.Pairwise λf g=>f.2.1<g.2.1:=by
  have k:=h.2.2.2.2.2.2.2;rw[Hr];have step: ∀n i:Nat,∀(b:i<x.2.2.1.length) (c:i+1+n<x.2.2.1.length),(x.2.2.1[i]).2.1<(x.2.2.1[i+1+n]).2.1:=by
   intro n;induction n with
   |zero=>intro i b c;exact k i _ _ o! (At b) (At c)
   |succ n r=>intro i b c;have l:=r i b o!;have m:=k (i+1+n) _ _ o! (At o!) (At c);exact Int.lt_trans l m
  intro i j b c o;have:=step (j-(i+1)) i b o!;have e:i+1+(j-(i+1))=j:=o!
  simp only[e]at this;exact this
 unfold FU;rw[SO,List.pairwise_filterMap];refine p.imp λ{f g} d y a z q=>?_;have one: ∀(f:BJ) (y:NE),intR x f=some y->y.2=f.2.1:=λf y a=>by unfold intR at a;split at a;injection a with a;rw[<-a];cases a
 rw[one f y a,one g z q];exact d
def Yq{x:AK}(h:VB x):(FU x).Nodup:=by have:=sy h;rw[SO]at this;exact Mj.2 (this.imp λh e=>by rw[e]at h;omega)
def AF7{a:AK}{l:Ah}{p i j:Int}{Q:List (Int×Int)}{d:Int×Int}{r:AP}{W:List (Int×EN)}{u:Int}{P:EN→Prop}(hr:r.2.2.2.2.2.length≤4096)(Y:Q[0]? =some d)(hm:Px W P)(hn:0≤u∧u≤1099511627776)
  (S: ∀v∈r.2.2.2.2.2,Km p i j v=true->(Pc d v.1=true->P v)/\ ∀e,(P e\/(e∈r.2.2.2.2.2/\Km p i j e=true))->e.1=v.1->e=v):
  Av (Af (Vw (a,(l,(p,(i,j)))) Q r) (0,(W,(u,([],0))))) λq=> ∃m n,q= .inl (m,(n,([],0)))/\Px m (λe=>P e\/(e∈r.2.2.2.2.2/\Km p i j e=true))/\n=u+((r.2.2.2.2.2.filter λe=>Km p i j e&&Pc d e.1).length:Int):=by
 generalize hL:r.2.2.2.2.2=L at hr S⊢;refine AS (λ(s:Int×(List (Int×EN)×(Int×(List EN×Int))))=>0<=s.1/\s.1<=L.length/\s.2.2.2=([],0)/\s.2.2.1=u+(((L.take s.1.toNat).filter λe=>Km p i j e&&Pc d e.1).length:Int)/\Px s.2.1 λe=>P e\/(e∈L.take s.1.toNat/\Km p i j e=true)) (λs=>((L.length:Int)-s.1).toNat)
  ⟨Ag _,d!,rfl,k!,hm.congr λe=>k!⟩ (λs Z=>?_)
 obtain⟨c,E,F,s4⟩:=s;obtain⟨U,i2,V,C,z⟩:=Z;dsimp only at U i2 V C z;subst V;unfold Vw;dsimp only;rw[hL];refine AC (λf=>?_) (λf=>AB ?_);simp only[len]at f;have X:=AZ (x:=c+1);rw[X];refine AA (AI U f) λv R=>?_;rw[kE,AE];have o:L.take (c+1).toNat=L.take c.toNat++[v]:=by rw[show(c+1).toNat=c.toNat+1 by omega,Dt,R.1];rfl
 have k:Km p i j v=false->(0<=c+1/\c+1<=L.length/\(([],0):List EN×Int)=([],0)/\F=u+(((L.take (c+1).toNat).filter λe=>Km p i j e&&Pc d e.1).length:Int)/\Px E λe=>P e\/(e∈L.take (c+1).toNat/\Km p i j e=true))/\((L.length:Int)-(c+1)).toNat<((L.length:Int)-c).toNat:=λy=>by
  refine⟨⟨o!,o!,rfl,?_,?_⟩,o!⟩;rw[o,II,C];simp[y];rw[o];refine z.congr λe=>⟨?_,?_⟩
  rintro(h|h);exact .inl h;exact .inr ⟨An.2 (.inl h.1),h.2⟩;rintro(h|⟨h,w⟩);exact .inl h;rcases An.1 h with h|h;exact .inr ⟨h,w⟩;rw[BA.1 h,y]at w;cases w
 refine AJ (λG=>?_) (λG=>AB (k (by simp[Km,G])));refine AJ (λH=>?_) (λH=>AB (k (by simp[Km,H])));refine AJ (λI=>?_) (λI=>AB (k (by unfold Km;rw[I];simp)));refine AO (λJ=>AB (k (by unfold Km;rw[J];simp))) (λJ=>?_);have y:Km p i j v=true:=by unfold Km;rw[G,H,I,J];rfl
 have O:ix Q 0=some d:=by unfold ix;rw[if_pos (Ag _)];exact Y
 rw[O,AE,has_eq,AE];obtain⟨M,A⟩:=S v R.2 y;have t:Px (UW v.1 v E) λe=>P e\/(e∈L.take (c+1).toNat/\Km p i j e=true):=by
  rw[o];refine z.put.congr λe=>⟨?_,λh=>?_⟩
  rintro(rfl|⟨h|h,_⟩);exact .inr ⟨An.2 (.inr (BA.2 rfl)),y⟩;exact .inl h;exact .inr ⟨An.2 (.inl h.1),h.2⟩;by_cases g:e=v;exact .inl g;rcases h with h|⟨h,w⟩;exact .inr ⟨.inl h,λN=>g (A e (.inl h) N)⟩;rcases An.1 h with h|h;exact .inr ⟨.inr ⟨h,w⟩,λN=>g (A e (.inr ⟨Fh h,w⟩) N)⟩;exact absurd (BA.1 h) g
 have T:(((L.take c.toNat).filter λe=>Km p i j e&&Pc d e.1).length:Int)<=4096:=by have h1:=IL (λe=>Km p i j e&&Pc d e.1) (L.take c.toNat);have h3:=List.length_take_le' c.toNat L;omega
 have K:=AZ (x:=F+1);rw[K];have B: ∀b:Bool,Pc d v.1=b->u+((((L.take (c+1).toNat).filter λe=>Km p i j e&&Pc d e.1).length:Nat):Int)=F+(if b=true then 1 else 0):=λb hb=>by rw[o,II,Ad,C];cases b<;>simp[y,hb]<;>omega
 refine AJ (λD=>?_) (λD=>AB ⟨⟨d!,d!,rfl,?_,t⟩,d!⟩);have hg:Qf v.1 E=some v:=z.get (.inl (M D));rw[hg];simp only[Option.isSome_some,C3,cond_false,j8,beq_self_eq_true,Sm];refine AB ⟨⟨d!,d!,rfl,?_,t⟩,d!⟩;rw[B true D];rfl;rw[B false D];simp;simp only[len]at f;rw[BS o!]at C z;exact⟨E,F,rfl,z,C⟩
def J5(low:Int)(rs:List AP):List EN:=(rs.filter λr=>r.2.2.1==low).flatMap λr=>r.2.2.2.2.2
def AF6{a:AK}{l:Ah}{p i j:Int}{X:List (Int×Int)}{sp:Int×Int}{b:Int×(Int×Bool)}{c:List AP}{E:List Int}{W:List (Int×EN)}{P:EN→Prop}(Z:X[0]? =some sp)(hm:Px W P)
  (U:c.length=E.length) (T:c.length<=256) (hr: ∀r∈c,r.2.2.2.2.2.length<=4096)
  (hc: ∀v∈J5 b.1 c,Km p i j v=true->(Pc sp v.1=true->P v)/\ ∀e,(P e\/(e∈J5 b.1 c/\Km p i j e=true))->e.1=v.1->e=v):
  Av (Af (Vv (a,(l,(p,(i,j)))) X b (c,E)) (0,(W,(0,([],0))))) λq=> ∃m n,q= .inl (m,(n,([],0)))/\Px m (λe=>P e\/(e∈J5 b.1 c/\Km p i j e=true))/\n=(((J5 b.1 c).filter λe=>Km p i j e&&Pc sp e.1).length:Int):=by
 have B: ∀k:Nat,(J5 b.1 (c.take k)).length<=k*4096:=by
  intro k;induction k with
  |zero=>simp[J5]
  |succ k ih=>rw[Dt];grind[J5,List.length_append,Nat.succ_mul,Nat.add_le_add]
 refine AS (λ(s:Int×(List (Int×EN)×(Int×(List EN×Int))))=>0<=s.1/\s.1<=c.length/\s.2.2.2=([],0)/\s.2.2.1=(((J5 b.1 (c.take s.1.toNat)).filter λe=>Km p i j e&&Pc sp e.1).length:Int)/\Px s.2.1 λe=>P e\/(e∈J5 b.1 (c.take s.1.toNat)/\Km p i j e=true)) (λs=>((c.length:Int)-s.1).toNat)
  ⟨Ag _,d!,rfl,by simp[J5],hm.congr λe=>by simp[J5]⟩ (λs hI=>?_)
 have⟨d,s2,S,s4⟩:=s;have⟨R,i2,V,C,D⟩:=hI;dsimp only at R i2 V C D;subst V;unfold Vv;dsimp only;refine AC (λo=>?_) (λo=>AB ?_);simp[len]at o;have Y:=AZ (x:=d+1);rw[Y];refine AA (AI R o) λv G=>?_;have t:c.take (d+1).toNat=c.take d.toNat++[v]:=by rw[show(d+1).toNat=d.toNat+1 by omega,Dt,G.1];rfl
 refine AJ (λF=>?_) (λF=>AB ⟨⟨d!,d!,rfl,?_,?_⟩,d!⟩);refine AA (AI R) λad _=>?_;have u: ∀e∈v.2.2.2.2.2,e∈J5 b.1 c:=λe g=>Hq.2 ⟨v,Bc.2 ⟨G.2,F⟩,g⟩;have z: ∀e∈J5 b.1 (c.take d.toNat),e∈J5 b.1 c:=λe g=>by have⟨r,L,M⟩:=Hq.1 g;have⟨N,O⟩:=Bc.1 L;exact Hq.2 ⟨r,Bc.2 ⟨Fh N,O⟩,M⟩
 have K:0<=S/\S<=1099511627776:=by
  have h1:=IL (λe=>Km p i j e&&Pc sp e.1) (J5 b.1 (c.take d.toNat));have h2:=B d.toNat
  omega
 have f:J5 b.1 (c.take d.toNat++[v])=J5 b.1 (c.take d.toNat)++v.2.2.2.2.2:=by grind[J5]
 refine AA (AF7 (hr v G.2) Z D K λw hw Q=>?_) ?_;have⟨q1,q2⟩:=hc w (u w hw) Q;refine⟨λh=>.inl (q1 h),λe g H=>q2 e ?_ H⟩;rcases g with(g|⟨g,y⟩)|⟨g,y⟩;exact .inl g;exact .inr ⟨z e g,y⟩;exact .inr ⟨u e g,y⟩;rintro q ⟨m,n,rfl,I,J⟩;refine BK (AB ⟨⟨d!,d!,rfl,?_,?_⟩,d!⟩);dsimp only;rw[t,f,J,C,II,Ad];omega;dsimp only;rw[t,f];refine I.congr λe=>?_;rw[An];constructor;rintro((h|⟨h,A⟩)|⟨h,A⟩);exact .inl h;exact .inr ⟨.inl h,A⟩;exact .inr ⟨.inr h,A⟩;rintro(h|⟨h|h,A⟩);exact .inl (.inl h);exact .inl (.inr ⟨h,A⟩);exact .inr ⟨h,A⟩;have f:J5 b.1 (c.take d.toNat++[v])=J5 b.1 (c.take d.toNat):=by unfold J5;rw[II,Wi];simp[F]
 dsimp only;rw[t,f];exact C;have f:J5 b.1 (c.take d.toNat++[v])=J5 b.1 (c.take d.toNat):=by unfold J5;rw[II,Wi];simp[F]
 dsimp only;rw[t,f];exact D;simp[len]at o;rw[BS o!]at C D;exact⟨s2,S,rfl,D,C⟩
def UJ{l:List EN}:(l.map (·.1)).Nodup-> ∀{a b:EN},a∈l->b∈l->a.1=b.1->a=b:=by
 induction l with
 |nil=>intro _ a b d;cases d
 |cons p r f=>intro e a b d c h;rw[Bo,GN]at e;rcases A3.1 d with d|d;rcases A3.1 c with c|c;rw[d,c];exact absurd (by rw[<-d,h];exact Wu c) e.1;rcases A3.1 c with c|c;exact absurd (by rw[<-c,<-h];exact Wu d) e.1;exact f e.2 d c h
def ADN{B:Nat}(i:CP B){l:List EN}(h:l.length<=B)(t:l.length<=16777216)(hn:(l.map (·.1)).Nodup):Av (qb Cc l) λr=>r.Perm l/\r.Pairwise λa b=>a.1<b.1:=by
 have key: ∀m,l.Perm m-> ∃r,Cc m ()=some r/\r.Perm l/\r.Pairwise λa b=>a.1<=b.1:=λm e=>by obtain⟨r,d,c,g⟩:=ADk i (l:=m) (by rw[<-e.length_eq];exact h) (by rw[<-e.length_eq];exact t);exact⟨r,d,c.trans e.symm,g⟩
 have uniq: ∀r s:List EN,r.Perm l->s.Perm l->(r.Pairwise λa b=>a.1<=b.1)->(s.Pairwise λa b=>a.1<=b.1)->r=s:=λr s hr j u v=>by refine re (le:=λa b=>a.1<=b.1) ?_ u v (hr.trans j.symm);intro a b p q d c;exact UJ hn (hr.subset p) (j.subset q) o!
 obtain⟨r,d,c,g⟩:=key l (List.Perm.refl l);refine⟨r,?_,c,?_⟩;unfold qb;rw[if_pos];exact d;intro m e;obtain⟨s,k,n,o⟩:=key m e;rw[k,d,uniq s r n c o g];have f:(r.map (·.1)).Nodup:=(c.map (·.1)).nodup_iff.2 hn;rw[Mj,SO]at f;exact(g.and f).imp λh=>o!
def sg: ∀(n:Nat) (i:Int) (l:List Int),l.Nodup->(∀x∈l,i<x/\x<=i+n)->l.length<=n
 |0,i,l,_,h=>by
  cases l with
  |nil=>exact Ai _
  |cons a r=>have:=h a (A3.2 (.inl rfl));omega
 |n+1,i,l,hl,h=>by
  have d:=sg n i (l.erase (i+(n+1:Nat))) (hl.erase _) λx c=>by have b:=(hl.mem_erase_iff).1 c;have:=h x b.2;have:=b.1;omega
  have e:l.length<=(l.erase (i+(n+1:Nat))).length+1:=by rw[List.length_erase];split<;>omega
  omega
def Wo(i:Int)(s:List EN):Prop:= ∀(k:Nat) (e:EN),s[k]? =some e->(k=0->e.2.2.2.2.1<=i)/\ ∀f,0<k->s[k-1]? =some f->e.2.2.2.2.1=f.1
def AF5{a:AK}{l:Ah}{p i j:Int}{s:List EN}(O:s.length≤16777216):
  Av (Af (PB (a,(l,(p,(i,j)))) s) (0,([],0))) λr=>(r= .inl ([],0)/\Wo i s)\/(r= .inr ([],13)/\ ¬Wo i s):=by
 refine AS (λ(t:Int×(List EN×Int))=>0<=t.1/\t.1<=s.length/\t.2=([],0)/\ ∀(k:Nat) (e:EN),k<t.1->s[k]? =some e->(k=0->e.2.2.2.2.1<=i)/\ ∀f,0<k->s[k-1]? =some f->e.2.2.2.2.1=f.1) (λt=>((s.length:Int)-t.1).toNat)
  ⟨Ag _,d!,rfl,λk e F=>(by dsimp only at F;omega)⟩ (λt K=>?_)
 obtain⟨b,P⟩:=t;obtain⟨C,L,G,D⟩:=K;dsimp only at C L G D;subst G;unfold PB;dsimp only;refine AC (λn=>?_) (λn=>AB (.inl ⟨rfl,λk e d=>D k e ?_ d⟩));simp only[len]at n;have I:=AZ (x:=b+1);rw[I];refine AA (AI C n) λM _=>?_;refine AA (AI C n) λv h=>?_;have o:((b=0->v.2.2.2.2.1<=i)/\ ∀f,0<b->s[b.toNat-1]? =some f->v.2.2.2.2.1=f.1)->(0<=b+1/\b+1<=s.length/\(([],0):List EN×Int)=([],0)/\ ∀(k:Nat) (e:EN),k<b+1->s[k]? =some e->(k=0->e.2.2.2.2.1<=i)/\ ∀f,0<k->s[k-1]? =some f->e.2.2.2.2.1=f.1)/\((s.length:Int)-(b+1)).toNat<((s.length:Int)-b).toNat:=λE=>by
  refine⟨⟨o!,o!,rfl,λk e F d=>?_⟩,o!⟩;by_cases B:(k:Int)<b;exact D k e B d;have H:k=b.toNat:=o!
  subst H;rw[h.1]at d;injection d with d;subst d;exact⟨λy=>E.1 o!,λf y g=>E.2 f o! g⟩
 apply AV<;>intro y;refine AC (λu=>AB (.inr ⟨rfl,λA=>?_⟩)) (λu=>?_);have:=(A b.toNat v h.1).1 o!;omega;refine AC (λm=>absurd m o!) (λ_=>AB (o ⟨λ_=>o!,λf g=>absurd g o!⟩));refine AC (λu=>?_) (λu=>absurd u o!);have w:=AZ (x:=b-1);rw[w];refine AA (AI) λN _=>?_;refine AA (AI) λq z=>?_;have c:s[b.toNat-1]? =some q:=by rw[show b.toNat-1=(b-1).toNat by omega];exact z.1
 refine AL (λm=>AB (.inr ⟨rfl,λA=>m ((A b.toNat v h.1).2 q o! c)⟩)) (λm=>AB (o ⟨λJ=>absurd J y,λf _ g=>?_⟩));rw[c]at g;injection g with g;rw[<-g];exact m;simp only[len]at n;have:=(U1.1 d).1;omega
def AF8{a:AK}{l:Ah}{p i j:Int}{s:List EN}(b:s.length≤16777216):
  Av (Af (PB (a,(l,(p,(i,j)))) s) (0,([],0))) λr=>(r= .inl ([],0)/\Wo i s)\/(r= .inr ([],13)/\ ¬Wo i s):=AF5 b
def UM(l:Ah)(low:Int)(rs:List AP):List (Int×Int):=(l.1,l.1+l.2.1.length-1)::(rs.filter λr=>r.2.2.1==low).map λr=>(r.1,r.2.1)
def wK{a:AK}{l:Ah}{p:Int}{e:Int×(Int×Bool)}{b:List AP}{d:List Int}(B:D8 l)(m:HI (a,p)=some e)(C:e.2.2=true)(n:J0 a=some (b,d))(u:b.length=d.length)(q:b.length≤256):
  PD (a,(l,p))=some (UM l e.1 b):=by
 obtain⟨G,y,z⟩:=nD B;unfold PD;dsimp only;rw[y,AE,m,AE,C,C3,cond_false,n,AE,z];have g:Av (Af (Sc e (b,d)) (0,([(l.1,l.1+l.2.1.length-1)]:List (Int×Int)))) λr=>r=UM l e.1 b:=by
  refine AS (λ(t:Int×List (Int×Int))=>0<=t.1/\t.1<=b.length/\t.2.length<=t.1.toNat+1/\t.2=UM l e.1 (b.take t.1.toNat)) (λt=>((b.length:Int)-t.1).toNat) ⟨Ag _,d!,k!,rfl⟩ (λt A=>?_);obtain⟨i,F⟩:=t;obtain⟨o,D,E,k⟩:=A;dsimp only at o D E k;unfold Sc;dsimp only;refine AC (λj=>?_) (λj=>AB ?_);simp only[len]at j;have w:=AZ (x:=i+1);rw[w];refine AA (AI o j) λv h=>?_;have f:b.take (i+1).toNat=b.take i.toNat++[v]:=by rw[show(i+1).toNat=i.toNat+1 by omega,Dt,h.1];rfl
  refine AJ (λc=>?_) (λc=>AB ⟨⟨d!,d!,d!,?_⟩,d!⟩);refine AA (AI o) λH _=>?_;refine AA (Ac (by simp only[By,Bs];omega)) λI s=>AB ⟨⟨d!,d!,?_,?_⟩,d!⟩;have:=s.2.1;simp only[By,Bs]at this;dsimp only;omega;dsimp only;rw[s.1,k,f];unfold UM;rw[II,Mh,rq (by exact c)];rfl;dsimp only;rw[k,f];unfold UM;rw[II,rl (by rw[c];decide)];simp;simp only[len]at j;rw[k,BS o!]
 obtain⟨r,q1,q2⟩:=g;rw[q1,AE,q2]
def lz{l:List EN}:(l.map (·.1)).Nodup->l.Nodup:=by
 induction l with
 |nil=>intro _;exact OU
 |cons p r b=>intro a;rw[Bo,GN]at a;exact GN.2 ⟨λh=>a.1 (Wu h),b a.2⟩
def D8.nodup{l:Ah}(h:D8 l):(l.2.1.map (·.1)).Nodup:=by obtain⟨l1,l2,i,j,k,a⟩:=h;rw[Mj,SO,Hr];intro x y b d c g;have e:=(a x _ (At b)).1;have f:=(a y _ (At d)).1;omega
def D8.has{l:Ah}(h:D8 l){e:EN}(a:e∈l.2.1):Pc (l.1,l.1+l.2.1.length-1) e.1=true:=by obtain⟨k,b,a⟩:=Uw.1 a;have c:=(h.2.2.2.2.2 k e (by rw[<-a];exact At b)).1;unfold Pc;simp only[BP,decide_eq_true_eq];omega
structure ADv(l:Ah)(low p i j:Int)(rs:List AP):Prop where
 fromLog: ∀f∈J5 low rs,Km p i j f=true->Pc (l.1,l.1+l.2.1.length-1) f.1=true->f∈l.2.1
 inRuns: ∀e∈l.2.1,Km p i j e=true->((rs.filter λr=>r.2.2.1==low).any λr=>Pc (r.1,r.2.1) e.1)=true->e∈J5 low rs
 own: ∀r∈rs,∀f∈r.2.2.2.2.2,Pc (r.1,r.2.1) f.1=true
 once:((J5 low rs).map (·.1)).Nodup
def AGe{B:Nat}{a:AK}{l:Ah}{p i j R:Int}{c:Int×(Int×Bool)}{b:List AP}{P:List Int}(V:CP B)(hB:B≤16777216)(ao:j-i≤B)(hi:0≤i)(hj:i≤j)
  (h:VB a) (D:D8 l) (hp:0<=p/\p<a.2.1) (L:HI (a,p)=some c) (ht:c.2.2=true) (N:J0 a=some (b,P)) (w:b.length=P.length) (t:b.length<=256)
  (hr: ∀r∈b,r.2.2.2.2.2.length<=4096) (W:L7 (UM l c.1 b,j)=some R) (z:ADv l c.1 p i j b):
  Av (MF (a,(l,(p,(i,j))))) λr=>(R>i/\r=([],42))\/(R<=i/\ ∃s:List EN,(s.Pairwise λx y=>x.1<y.1)/\(∀e,e∈s↔(e∈l.2.1\/e∈J5 c.1 b)/\Km p i j e=true)/\((Wo i s/\r=(s,0))\/(¬Wo i s/\r=([],13)))):=by
 have K:=D.nodup;unfold MF;dsimp only;refine AA (Ye (x:=(a,(l,(p,i)))) h D ⟨hp.1,hp.2,hi⟩) λv0 h0=>?_;refine AL (λk=>absurd h0 k) (λ_=>?_);refine AC (λk=>absurd k o!) (λ_=>?_);rw[wK D L ht N w t,AE,W,AE];refine AC (λhf=>AB (.inl ⟨hf,rfl⟩)) (λhf=>?_);refine AA (AF3 D (by simp[UM]) (by have:=IL (λr:AP=>r.2.2.1==c.1) b;simp only[UM,By,Ds];omega)) λal H=>?_;rw[L,AE,ht,C3,cond_false,N,AE];have hP: ∀v∈J5 c.1 b,Km p i j v=true->(Pc (l.1,l.1+l.2.1.length-1) v.1=true->(v∈l.2.1/\Km p i j v=true))/\ ∀e,((e∈l.2.1/\Km p i j e=true)\/(e∈J5 c.1 b/\Km p i j e=true))->e.1=v.1->e=v:=λv hv E=>by refine⟨λk=>⟨z.fromLog v hv E k,E⟩,λe u A=>?_⟩;rcases u with⟨u,_⟩|⟨u,_⟩;have ad:=z.fromLog v hv E (by rw[<-A];exact D.has u);exact UJ K u ad A;exact UJ z.once u hv A
 apply AA (AF6 (sp:=(l.1,l.1+l.2.1.length-1)) rfl H.2 w t hr hP);rintro q ⟨m,n,rfl,o,hn⟩;apply BK;dsimp only;have f:al.1=n:=by
  rw[H.1,hn];refine congrArg Int.ofNat (List.Perm.length_eq ?_)
  refine(jv ((lz K).filter _) ((lz z.once).filter _)).2 λe=>?_;rw[Bc,Bc];simp only[BP];have I:((UM l c.1 b).tail.any λs=>Pc s e.1)=((b.filter λr=>r.2.2.1==c.1).any λr=>Pc (r.1,r.2.1) e.1):=by unfold UM;rw[List.tail_cons,List.any_map];rfl
  rw[I];constructor;rintro⟨F,G,S⟩;exact⟨z.inRuns e F G S,G,D.has F⟩;rintro⟨F,G,S⟩;obtain⟨r,M,Y⟩:=Hq.1 F;exact⟨z.fromLog e F G S,G,mV.2 ⟨r,M,z.own r (Bc.1 M).1 e Y⟩⟩
 refine AL (λk=>absurd f k) (λ_=>?_);have J: ∀q∈m,Km p i j q.2=true:=λq d=>by
  have:(q.2.1,q.2)∈m:=by rw[<-o.2.1 q d];exact d
  rcases(o.2.2 q.2).1 this with g|g;exact g.2;exact g.2
 have X:m.length<=B:=by
  have:=sg (j-i).toNat i (m.map (·.1)) o.1 λx hx=>by obtain⟨q,d,rfl⟩:=B0.1 hx;have E:=J q d;have hk:=o.2.1 q d;unfold Km at E;simp only[BP,decide_eq_true_eq]at E;omega
  rw[Ds]at this;omega
 refine AC (λ_=>?_) (λk=>absurd k (by show¬ ¬((m.length:Int)<=16777216);omega));have C:((m.map (·.2)).map (·.1))=m.map (·.1):=by rw[OR];exact Mi λq d=>(o.2.1 q d).symm
 refine AA (ADN V (l:=m.map (·.2)) (by rw[Ds];exact X) (by rw[Ds];omega) (by rw[C];exact o.1)) λs Q=>?_;have Z:s.length=m.length:=by rw[Q.1.length_eq,Ds]
 have U:Nat.beq (List.length s) (List.length m)=true:=by rw[Z];exact Jy _
 rw[U,cond_true];have O: ∀e,e∈s↔(e∈l.2.1\/e∈J5 c.1 b)/\Km p i j e=true:=λe=>by
  rw[Q.1.mem_iff];constructor;intro u;obtain⟨q,d,rfl⟩:=B0.1 u;have:(q.2.1,q.2)∈m:=by rw[<-o.2.1 q d];exact d
  rcases(o.2.2 q.2).1 this with g|g;exact⟨.inl g.1,g.2⟩;exact⟨.inr g.1,g.2⟩;rintro⟨g,g'⟩;exact B0.2 ⟨(e.1,e),(o.2.2 e).2 (g.imp (λg=>⟨g,g'⟩) (λg=>⟨g,g'⟩)),rfl⟩
 refine AA (AF8 o!) λr hr=>?_;rcases hr with⟨rfl,T⟩|⟨rfl,T⟩;exact BK (AB (.inr ⟨o!,s,Q.2,O,.inl ⟨T,rfl⟩⟩));exact A5 (AB (.inr ⟨o!,s,Q.2,O,.inr ⟨T,rfl⟩⟩))
def oO{s t:List EN}(c:s.Pairwise λx y=>x.1<y.1)(d:t.Pairwise λx y=>x.1<y.1)(h: ∀e,e∈s↔e∈t):s=t:=by have nd: ∀{u:List EN},(u.Pairwise λx y=>x.1<y.1)->u.Nodup:=λg=>Mj.2 (g.imp λh e=>by rw[e]at h;omega);have f:=(jv (nd c) (nd d)).2 h;exact re (le:=λa b=>a.1<b.1) (λa b _ _ i j=>o!) c d f
structure Z7(L:List EN)(r:AP):Prop where
 mem: ∀e,e∈r.2.2.2.2.2↔e∈L/\fZ e=true/\r.2.2.1<=e.2.2.2.2.2.2.1.1/\e.2.2.2.2.2.2.1.1<=r.2.2.2.1/\r.1<=e.1/\e.1<=r.2.1
 nd:(r.2.2.2.2.2.map (·.1)).Nodup
def AAZ{L:List EN}{l:Ah}{k:List AP}{b p i j:Int}(a: ∀e,e∈l.2.1↔e∈L∧l.1≤e.1∧e.1≤l.1+l.2.1.length-1)(hr: ∀r∈k,Z7 L r)
  (t: ∀r∈k,r.2.2.1=b->b<=p/\p<=r.2.2.2.1) (h:(k.filter λr=>r.2.2.1==b).Pairwise λr s=>r.2.1<s.1\/s.2.1<r.1):ADv l b p i j k where
 fromLog f hf hw hh:=by obtain⟨r,c,g⟩:=Hq.1 hf;have d:=((hr r (Bc.1 c).1).mem f).1 g;unfold Pc at hh;simp only[BP,decide_eq_true_eq]at hh;exact(a f).2 ⟨d.1,o!⟩
 inRuns e o hw ha:=by obtain⟨r,c,g⟩:=mV.1 ha;have d:=Bc.1 c;have q:r.2.2.1=b:=eq_of_beq d.2;have A:=t r d.1 q;unfold Km at hw;unfold Pc at g;simp only[BP,decide_eq_true_eq,beq_iff_eq]at hw g;exact Hq.2 ⟨r,c,((hr r d.1).mem e).2 ⟨((a e).1 o).1,hw.1,o!⟩⟩
 own r hrr f hf:=by have d:=((hr r hrr).mem f).1 hf;unfold Pc;simp only[BP,decide_eq_true_eq];omega
 once:=by unfold J5;rw[List.map_flatMap,Mj,List.pairwise_flatMap];refine⟨λr c=>Mj.1 (hr r (Bc.1 c).1).nd,?_⟩;refine rZ ?_ h;intro r s c g d x u y v o;obtain⟨e,m,rfl⟩:=B0.1 u;obtain⟨f,n,rfl⟩:=B0.1 v;have w:=((hr r (Bc.1 c).1).mem e).1 m;have z:=((hr s (Bc.1 g).1).mem f).1 n;omega
def vL{L:List EN}{d:List AP}{a p i j:Int}(hr: ∀r∈d,Z7 L r)(n: ∀r∈d,r.2.2.1=a→a≤p∧p≤r.2.2.2.1){e:EN}(l:Km p i j e=true):
  e∈J5 a d↔e∈L/\ ∃r∈d,r.2.2.1=a/\r.1<=e.1/\e.1<=r.2.1:=by
 unfold Km at l;simp only[BP,decide_eq_true_eq,beq_iff_eq]at l;constructor;intro h;obtain⟨r,f,b⟩:=Hq.1 h;obtain⟨c,k⟩:=Bc.1 f;have g:=((hr r c).mem e).1 b;exact⟨g.1,r,c,eq_of_beq k,g.2.2.2.2.1,g.2.2.2.2.2⟩;rintro⟨f,r,b,c,k,m⟩;have g:=n r b c;exact Hq.2 ⟨r,Bc.2 ⟨b,by simp[c]⟩,((hr r b).mem e).2 ⟨f,l.1,o!,o!,k,m⟩⟩
def zQ(a:AK)(l:Ah)(low n:Int):Prop:=(l.1<=n/\n<=l.1+l.2.1.length-1)\/ ∃e∈FU a,e.1.2.2.1=low/\e.1.1<=n/\n<=e.1.2.1
def AEJ{B:Nat}{a:AK}{l:Ah}{L:List EN}{p i j:Int}{c:Int×(Int×Bool)}(O:CP B)(hB:B≤16777216)(P:j-i≤B)(Y:0≤i)(Z:i≤j)(hJ:j≤1099511627776)
  (h:VB a) (hd:DS a) (J:D8 l) (S:0<=p/\p<a.2.1) (G:HI (a,p)=some c) (ht:c.2.2=true) (K:L.Pairwise λx y=>x.1<y.1) (b: ∀e,e∈l.2.1↔e∈L/\l.1<=e.1/\e.1<=l.1+l.2.1.length-1)
  (hR: ∀e∈FU a,Z7 L e.1) (z:ACL (FU a)) (T: ∀e∈FU a,e.1.2.2.1=c.1->c.1<=p/\p<=e.1.2.2.2.1):
  ∃k,(0<=k/\k<=j/\(∀n,k<n->n<=j->zQ a l c.1 n)/\(k=0\/ ¬zQ a l c.1 k))/\Pk (a,(l,(p,(i,j))))=some (decide (k<=i))/\Av (MF (a,(l,(p,(i,j))))) λr=>(k>i/\r=([],42))\/(k<=i/\((Wo i (L.filter (Km p i j))/\r=(L.filter (Km p i j),0))\/(¬Wo i (L.filter (Km p i j))/\r=([],13)))):=by
 obtain⟨q,H,v,E,w2,rfl,w4,w5⟩:=AEX h hd (Yq h) z;have o: ∀r∈v.map (·.1),∃e∈FU a,e.1=r:=λr hr=>by obtain⟨e,d,rfl⟩:=B0.1 hr;exact⟨e,E.mem_iff.1 d,rfl⟩
 have D: ∀r∈v.map (·.1),Z7 L r:=λr hr=>by obtain⟨e,d,rfl⟩:=o r hr;exact hR e d
 have C: ∀r∈v.map (·.1),r.2.2.1=c.1->c.1<=p/\p<=r.2.2.2.1:=λr hr=>by obtain⟨e,d,rfl⟩:=o r hr;exact T e d
 have U:((v.map (·.1)).filter λr=>r.2.2.1==c.1).Pairwise λr s=>r.2.1<s.1\/s.2.1<r.1:=by rw[List.filter_map,SO];have R:v.Pairwise λx y=>x≠y:=Mj.1 (E.nodup_iff.2 (Yq h));refine rZ ?_ (R.filter _);intro x y hx hy Q;obtain⟨x1,x2⟩:=Bc.1 hx;obtain⟨V,W⟩:=Bc.1 hy;exact z x (E.mem_iff.1 x1) y (E.mem_iff.1 V) Q ((eq_of_beq x2).trans (eq_of_beq W).symm)
 have ad:(UM l c.1 (v.map (·.1))).length<=257:=by have:=IL (λr:AP=>r.2.2.1==c.1) (v.map (·.1));rw[Ds]at this;simp only[UM,By,Ds];omega
 have M:SpL (UM l c.1 (v.map (·.1))):=by refine⟨o!,λs f=>?_⟩;rcases A3.1 f with f|f;rw[f];exact J.1;obtain⟨r,hr,rfl⟩:=B0.1 f;obtain⟨e,d,rfl⟩:=B0.1 (Bc.1 hr).1;exact(w5 e d).1
 have m: ∀n,vB (UM l c.1 (v.map (·.1))) n↔zQ a l c.1 n:=λn=>by constructor;rintro⟨s,f,t,w⟩;rcases A3.1 f with f|f;rw[f]at t w;exact .inl ⟨t,w⟩;obtain⟨r,hr,rfl⟩:=B0.1 f;obtain⟨g1,I⟩:=Bc.1 hr;obtain⟨e,d,rfl⟩:=o r g1;exact .inr ⟨e,d,eq_of_beq I,t,w⟩;rintro(⟨t,w⟩|⟨e,d,h0,t,w⟩);exact⟨_,A3.2 (.inl rfl),t,w⟩;exact⟨(e.1.1,e.1.2.1),A3.2 (.inr (B0.2 ⟨e.1,Bc.2 ⟨Wu (E.mem_iff.2 d),by simp[h0]⟩,rfl⟩)),t,w⟩
 obtain⟨k,F,f1,f2,X,f4⟩:=w6 M (u:=j) o! hJ;refine⟨k,⟨f1,f2,λn t w=>(m n).1 (X n t w),f4.imp id λhh N=>hh ((m k).2 N)⟩,?_,?_⟩;obtain⟨v0,ev,hv⟩:=Ye (x:=(a,(l,(p,i)))) h J ⟨S.1,S.2,Y⟩;unfold Pk;dsimp only;rw[ev,AE,beq_iff_eq.2 hv,cond_true,decide_eq_true Z,cond_true,wK J G ht H (by rw[Ds,Ds]) (by rw[Ds];exact w4),AE,F,AE];refine(AGe O hB P Y Z h J S G ht H (by rw[Ds,Ds]) (by rw[Ds];exact w4) (λr hr=>?_) F (AAZ b D C U)).mono λr hr=>?_;obtain⟨e,d,rfl⟩:=B0.1 hr;exact(w5 e d).2.2.2.2.2.2.2.2;rcases hr with hr|⟨hr,s,s1,s2,s3⟩;exact .inl hr;refine .inr ⟨hr,?_⟩;have f:s=L.filter (Km p i j):=oO s1 (K.filter _) λe=>by rw[s2,Bc];constructor;rintro⟨g|g,A⟩;exact⟨((b e).1 g).1,A⟩;exact⟨((vL D C A).1 g).1,A⟩;rintro⟨g,A⟩;refine⟨?_,A⟩;have I:=A;unfold Km at I;simp only[BP,decide_eq_true_eq]at I;rcases(m e.1).1 (X e.1 o! o!)with N|⟨y,V,W,y3,y4⟩;exact .inl ((b e).2 ⟨g,N⟩);exact .inr ((vL D C A).2 ⟨g,y.1,Wu (E.mem_iff.2 V),W,y3,y4⟩)
 rw[<-f];exact s3
def BD.lt{n:Int}{l:List Int}(h:BD n l): ∀(d i:Nat) (x y:Int),l[i]? =some x->l[i+1+d]? =some y->x<y
 |0,i,x,y,hx,hy=>by have:=DU hy;exact h.2.2.2.2.2.1 i x y o! hx hy
 |d+1,i,x,y,hx,hy=>by have e:=DU hy;have a:l[i+1+d]? =some (l[i+1+d]' o!):=At o!;have b:=BD.lt h d i x _ hx a;have c:=h.2.2.2.2.2.1 (i+1+d) _ y o! a q!;omega
def BD.le{n:Int}{l:List Int}(h:BD n l){i j:Nat}{x y:Int}(a:i<=j)(b:l[i]? =some x)(c:l[j]? =some y):x<=y:=by
 by_cases e:i=j;grind;obtain⟨d,rfl⟩: ∃d,j=i+1+d:=⟨j-(i+1),o!⟩
 have:=h.lt d i x y b c;omega
def BD.mem{n:Int}{l:List Int}(h:BD n l){i:Nat}{x:Int}(a:l[i]? =some x):0<=x/\x<n:=by have f:=DU a;have b:l[l.length-1]? =some (l[l.length-1]' o!):=At o!;have c:=h.le (B8 i) h.2.2.2.2.1 a;have d:=h.le (by omega:i<=l.length-1) a b;have e:=h.2.2.2.2.2.2 _ b;omega
def BD.inj{n:Int}{l:List Int}(h:BD n l){i j:Nat}{x:Int}(b:l[i]? =some x)(c:l[j]? =some x):i=j:=by
 rcases P7 i j with a|a|a;obtain⟨d,rfl⟩: ∃d,j=i+1+d:=⟨j-(i+1),o!⟩
 have:=h.lt d i x x b c;omega;exact a;obtain⟨d,rfl⟩: ∃d,i=j+1+d:=⟨i-(j+1),o!⟩
 have:=h.lt d j x x c b;omega
def rP(a:AK)(i:Nat):Int:=match a.1[i+1]? with
 |some h=>h-1
 |none=>a.2.1-1
def Kn(a:AK)(lo hi:Int):Prop:= ∃i:Nat,a.1[i]? =some lo/\hi=rP a i
def AA9{a:AK}(h:BD a.2.1 a.1){i:Nat}(c:i<a.1.length):(∀w,a.1[i+1]? =some w->wi (w-1)=rP a i)/\(a.1.length<=i+1->wi (a.2.1-1)=rP a i):=by refine⟨λw b=>?_,λd=>?_⟩;have:=h.mem b;have:=h.2.1;grind[rP,AZ];have:=h.1;have:=h.2.1;grind[rP,List.getElem?_eq_none,AZ]
def kj{a:AK}(h:BD a.2.1 a.1){i:Nat}{b:Int}(c:a.1[i]? =some b):E2 (a,(i:Int))=some (b,rP a i):=by
 have f:=DU c;have d:=h.2.2.2.1;have⟨j,k⟩:=AA9 h f;unfold E2;rw[AZ (x:=(i:Int)+1),(by unfold ix;rw[if_pos o!,Int.toNat_natCast,c]:ix a.1 (i:Int)=some b)];by_cases e:i+1<a.1.length;have g:ix a.1 ((i:Int)+1)=some a.1[i+1]:=by unfold ix;rw[if_pos o!,show((i:Int)+1).toNat=i+1 by omega,(List.getElem?_eq_getElem e)]
 grind;grind
def ut{a:AK}(h:BD a.2.1 a.1){i:Nat}{b:Int}(c:a.1[i]? =some b):J1 (a,(i:Int))=some (b,rP a i):=by
 have f:=DU c;have d:=h.2.2.2.1;have⟨j,k⟩:=AA9 h f;unfold J1;rw[AZ (x:=(i:Int)+1),(by unfold ix;rw[if_pos o!,Int.toNat_natCast,c]:ix a.1 (i:Int)=some b)];by_cases e:i+1<a.1.length;have g:ix a.1 ((i:Int)+1)=some a.1[i+1]:=by unfold ix;rw[if_pos o!,show((i:Int)+1).toNat=i+1 by omega,(List.getElem?_eq_getElem e)]
 grind;grind
def vw{a:AK}{r:AP}(h:BD a.2.1 a.1):Av (Fe (a,r)) λk=>0<=k↔Kn a r.2.2.1 r.2.2.2.1:=by
 have g:=h.2.2.2.1;refine AA (P:=λq=>(∃k:Int,q= .inl k/\0<=k/\Kn a r.2.2.1 r.2.2.2.1)\/(q= .inr ()/\ ¬Kn a r.2.2.1 r.2.2.2.1)) ?_ λq p=>?_
 ·refine Dg (λ(s:Int)=>0<=s/\s<=a.1.length/\ ∀i:Nat,(i:Int)<s-> ¬(a.1[i]? =some r.2.2.1/\r.2.2.2.1=rP a i)) (λs=>((a.1.length:Int)-s).toNat) ⟨Ag _,o!,λi m=>o!⟩ (λs j=>?_);have⟨e,t,u⟩:=j;unfold HN;dsimp[len];refine AC (λl=>?_) (λl=>Av.done (.inr ⟨rfl,?_⟩))
  ·obtain⟨k,rfl⟩:=FF e;rw[kj h (At o!),AE,AZ];have f: ¬(a.1[k]? =some r.2.2.1/\r.2.2.2.1=rP a k)->Av (some (Step.next ((k:Int)+1)):Option (Step Int (Int ⊕ Unit))) (Sj (λ(s:Int)=>0<=s/\s<=a.1.length/\ ∀i:Nat,(i:Int)<s-> ¬(a.1[i]? =some r.2.2.1/\r.2.2.2.1=rP a i)) (λs=>((a.1.length:Int)-s).toNat) ((a.1.length:Int)-(k:Int)).toNat λq=>(∃k:Int,q= .inl k/\0<=k/\Kn a r.2.2.1 r.2.2.2.1)\/(q= .inr ()/\ ¬Kn a r.2.2.1 r.2.2.2.1)):=λhn=>by
    refine Av.next ⟨o!,o!,λi m=>?_⟩ o!
    grind
   refine AV (λb=>?_) (λb=>f λd=>b ?_)
   ·refine AV (λc=>Av.done (.inl ⟨_,rfl,e,k,?_,?_⟩)) (λc=>f λd=>c d.2.symm);grind;grind
   grind
  rintro⟨i,n,o⟩;grind
 grind[BK,AB,A5]
def ABU{a:AK}{r:AP}(h:BD a.2.1 a.1):Av (MD (a,r)) λk=>0<=k↔Kn a r.2.2.1 r.2.2.2.1:=by
 have g:=h.2.2.2.1;refine AA (P:=λq=>(∃k:Int,q= .inl k/\0<=k/\Kn a r.2.2.1 r.2.2.2.1)\/(q= .inr ()/\ ¬Kn a r.2.2.1 r.2.2.2.1)) ?_ λq p=>?_
 ·refine Dg (λ(s:Int)=>0<=s/\s<=a.1.length/\ ∀i:Nat,(i:Int)<s-> ¬(a.1[i]? =some r.2.2.1/\r.2.2.2.1=rP a i)) (λs=>((a.1.length:Int)-s).toNat) ⟨Ag _,o!,λi m=>o!⟩ (λs j=>?_);have⟨e,t,u⟩:=j;unfold QE;dsimp[len];refine AC (λl=>?_) (λl=>Av.done (.inr ⟨rfl,?_⟩))
  ·obtain⟨k,rfl⟩:=FF e;rw[ut h (At o!),AE,AZ];have f: ¬(a.1[k]? =some r.2.2.1/\r.2.2.2.1=rP a k)->Av (some (Step.next ((k:Int)+1)):Option (Step Int (Int ⊕ Unit))) (Sj (λ(s:Int)=>0<=s/\s<=a.1.length/\ ∀i:Nat,(i:Int)<s-> ¬(a.1[i]? =some r.2.2.1/\r.2.2.2.1=rP a i)) (λs=>((a.1.length:Int)-s).toNat) ((a.1.length:Int)-(k:Int)).toNat λq=>(∃k:Int,q= .inl k/\0<=k/\Kn a r.2.2.1 r.2.2.2.1)\/(q= .inr ()/\ ¬Kn a r.2.2.1 r.2.2.2.1)):=λhn=>by
    refine Av.next ⟨o!,o!,λi m=>?_⟩ o!
    grind
   refine AV (λb=>?_) (λb=>f λd=>b ?_)
   ·refine AV (λc=>Av.done (.inl ⟨_,rfl,e,k,?_,?_⟩)) (λc=>f λd=>c d.2.symm);grind;grind
   grind
  rintro⟨i,n,o⟩;grind
 grind[BK,AB,A5]
def Good(a:AK)(f:BJ)(r:AP):Prop:=f.1=1/\f.2.2=PA r/\VR r/\Kn a r.2.2.1 r.2.2.2.1
def Bad(f:BJ):Prop:=f.2.2.length<=1099511627776/\ ∀r,WR r->f.2.2≠PA r
def Good.intact{a:AK}{f:BJ}{r:AP}(h:Good a f r)(e:BD a.2.1 a.1):Gy (a,f)=some (r,true):=by have⟨b,c,d,g⟩:=h;have⟨k,k1,i⟩:=ABU (r:=r) e;unfold Gy;rw[b,c,bne_self_eq_false,cond_false,AFB d,AE,show(((r,(0:Int)):AP×Int).2==0)=true from rfl,cond_true];grind
def Good.intR{a:AK}{f:BJ}{r:AP}(h:Good a f r)(b:BD a.2.1 a.1):intR a f=some (r,f.2.1):=by unfold Go.Pm.intR;rw[h.intact b]
def Good.ref{a:AK}{f:BJ}{r:AP}(h:Good a f r)(g:BD a.2.1 a.1): ∃k,Cu (a,f)=some (r,k)/\0<=k:=by have⟨b,c,d,e⟩:=h;have⟨k,k1,i⟩:=vw (r:=r) g;refine⟨k,?_,i.2 e⟩;unfold Cu;rw[b,c,bne_self_eq_false,cond_false,uV d,AE,show(((r,(0:Int)):AP×Int).2 !=0)=false from rfl,cond_false];grind
def Bad.intR{a:AK}{f:BJ}(h:Bad f)(d:BD a.2.1 a.1):intR a f=none:=by
 have key:Av (Gy (a,f)) λr=>r.2=false:=by exact AL (λ_=>AB rfl) (λ_=>AA (AFC h.1) λv b=>AV (λc=>absurd (b c).1 (h.2 _ (b c).2)) (λ_=>AB rfl))
 have⟨⟨r,o⟩,k1,e⟩:=key;grind[Go.Pm.intR]
def Bad.ref{a:AK}{f:BJ}(h:Bad f): ∃r,Cu (a,f)=some (r,-1):=by
 have key:Av (Cu (a,f)) λr=>r.2= -1:=by exact AL (λ_=>AB rfl) (λ_=>AA (AFN h.1) λv b=>AL (λ_=>AB rfl) (λc=>absurd (b c).1 (h.2 _ (b c).2.wr)))
 have⟨⟨r,o⟩,k1,d⟩:=key;grind
def AA2{x y:AP}(b:VR x)(c:VR y)(h:PA x=PA y):x=y:=by have a:=uV b;rw[h,uV c]at a;injection a with a;exact(Prod.ext_iff.1 a).1.symm
structure AR(L:List EN)(a:AK):Prop where
 vb:VB a
 files: ∀f∈a.2.2.1,Bad f\/ ∃r,Good a f r/\Z7 L r/\r.2.1<a.2.2.2.1
 dis:ACL (FU a)
def AG(a:AK):Prop:= ∀f∈a.2.2.1,∃r,Good a f r
def RC(a:AK)(c:Nat):Prop:= ∀lo,((FU a).filter λe=>e.1.2.2.1==lo).length<=c
def mH{b:Type}: ∀(l m:List b),l.Nodup->(∀x∈l,x∈m)->l.length<=m.length
 |[],m,_,_=>B8 _
 |a::l,m,hn,hs=>by
  obtain⟨s,t,rfl⟩:=List.append_of_mem (hs a (A3.2 (.inl rfl)));rw[GN]at hn;have:=mH l (s++t) hn.2 λx c=>q!
  grind
def AR.mem{L:List EN}{a:AK}(h:AR L a){e:NE}(g:e∈FU a): ∃f∈a.2.2.1,Good a f e.1/\e.2=f.2.1/\Z7 L e.1/\e.1.2.1<a.2.2.2.1:=by have⟨f,i,b⟩:=P0.1 g;rcases h.files f i with d|⟨r,c,j,k⟩;rw[d.intR h.vb.1]at b;cases b;rw[c.intR h.vb.1]at b;grind
def TU{a:AK}(b:BD a.2.1 a.1){f:BJ}{r:AP}(c:f∈a.2.2.1)(h:Good a f r):(r,f.2.1)∈FU a:=by exact P0.2 ⟨f,c,h.intR b⟩
def Good.size{a:AK}{f:BJ}{r:AP}(h:Good a f r):f.2.2.length<=34406441:=by rw[h.2.1];exact h.2.2.1.len
def AR.sa{L:List EN}{a:AK}(h:AR L a):SA a:=by have⟨⟨g,i,j,b,k,l,m⟩,a1,a2,a3,a4,a5,a6⟩:=h.vb;refine⟨b,o!,λf e=>?_⟩;rcases h.files f e with d|⟨r,c,_⟩;exact d.1;have:=c.size;omega
def AR.ds{L:List EN}{a:AK}(h:AR L a):DS a:=λf b=>by have:=h.sa.2.2 f b;omega
def Kn.uniq{a:AK}(e:BD a.2.1 a.1){d b c:Int}(p:Kn a d b)(q:Kn a d c):b=c:=by obtain⟨i,f,g⟩:=p;obtain⟨j,h,k⟩:=q;have:=e.inj f h;subst this;rw[g,k]
def wW{l:List EN}{e:EN}(h:l.length<=16777000):Av (DB (l,e)) λr=>r.1.length<=l.length+1/\((∀y,y∈r.1↔y∈l\/y=e)\/(r.1=l/\ ∃z∈l,z.1=e.1)):=by
 unfold DB;refine AA (Pp (x:=(l,e)) ⟨Ag _,o!,d!⟩) λp g=>?_;dsimp only at g⊢;have i:Av (Option.bind (cH l 0 p) λj=>
  Option.bind (cH l p (len l)) λk=>
  Option.bind (app [] j) λm=>
  Option.bind (app m ([e]:List (Int×(Int×(Int×(Int×(Int×(Int×((Int×(Int×((Bool×BY)×(Bool×BY))))×BY))))))))) λw=>
  Option.bind (app w k) λA=>
  some (A,true)) λr=>r.1.length<=l.length+1/\((∀y,y∈r.1↔y∈l\/y=e)\/(r.1=l/\ ∃z∈l,z.1=e.1)):=by
  refine AA (B5 (Ag _) g.1 g.2) λu a=>?_;refine AA (B5 g.1 (by simp[len];omega) i!) λv o=>?_;have C:=a.2;have q:=o.2;simp[len]at q;refine AA (Ac w!) λj b=>?_;have s:=b.2.1;simp[Bs]at s;refine AA (Ac w!) λk d=>?_;have t:=d.2.1;simp[Bs,By]at t;refine AA (Ac o!) λm f=>AB ?_;have D:=f.2.1;refine⟨d!,.inl λy=>?_⟩;have n:u=l.take p.toNat:=by rw[a.1];simp
  dsimp only;rw[f.1,d.1,b.1,n,(by grind[List.take_of_length_le,List.length_drop]:v=l.drop p.toNat),Cn];conv=>rhs;rw[<-EP p.toNat l]
  grind[List.mem_singleton]
 refine AC (λB=>?_) (λ_=>i);simp[len]at B;refine AA (AI g.1 B) λE I=>?_;have⟨c,F,G,H⟩:=AD0 E e;grind[AV,AA,AI,AB]
def Uq(L:List EN):Prop:= ∀x∈L,∀y∈L,x.1=y.1->x=y
def kg{L l:List EN}{e:EN}(c:Uq L)(f: ∀x∈l,x∈L)(d:e∈L)(h:l.length<=16777000):Av (DB (l,e)) λr=>r.1.length<=l.length+1/\ ∀y,y∈r.1↔y∈l\/y=e:=by
 refine(wW h).mono λr hr=>⟨hr.1,?_⟩
 rcases hr.2 with hr|⟨b,z,a,i⟩;exact hr;have:=c z (f z a) e d i;subst this;intro y;rw[b];exact⟨.inl,λg=>g.elim id λh=>h▸a⟩
def VR.sorted{r:AP}(h:VR r):r.2.2.2.2.2.Pairwise xG:=by
 rw[Hr];have step: ∀d i:Nat,∀(a:i<r.2.2.2.2.2.length) (b:i+1+d<r.2.2.2.2.2.length),xG r.2.2.2.2.2[i] r.2.2.2.2.2[i+1+d]:=by
  intro d;induction d with
  |zero=>intro i a b;exact((h.2 (i+1) _ (At b)).2.2 _ o! (At a)).1
  |succ d e=>intro i a b;exact zj (e i a o!) (((h.2 (i+1+(d+1)) _ (At b)).2.2 _ o! (At (by omega:i+1+d<_))).1)
 intro i j a b c;have:=step (j-(i+1)) i a o!;simp[(by omega:i+1+(j-(i+1))=j)]at this;exact this
def VR.nd{L:List EN}{r:AP}(b:Uq L)(h:VR r)(a: ∀e∈r.2.2.2.2.2,e∈L):(r.2.2.2.2.2.map (·.1)).Nodup:=by rw[Mj,SO];refine h.sorted.imp_of_mem λ{x y} f g d c=>?_;have:=b x (a x f) y (a y g) c;grind[xH]
def VR.runOf{L:List EN}{r:AP}(b:Uq L)(h:VR r)(a: ∀e,e∈r.2.2.2.2.2↔e∈L/\fZ e=true/\r.2.2.1<=e.2.2.2.2.2.2.1.1/\e.2.2.2.2.2.2.1.1<=r.2.2.2.1/\r.1<=e.1/\e.1<=r.2.1):Z7 L r:=⟨a,h.nd b λe c=>((a e).1 c).1⟩
def yE{v:EN}:fZ v=true↔v.2.1=1\/v.2.1=2:=by grind[fZ]
def ACN{L d:List EN}{F T g f i:Int}(C:Uq L)(B: ∀e∈d,e∈L)(H:d.length≤16777000):
  Av (Af (Jv (d,(F,(T,(g,(f,i)))))) (false,(0,(F,(T,(g,(f,(i,[])))))))) λr=> ∃a:List EN,r.2=(F,(T,(g,(f,(i,a)))))/\a.length<=d.length/\ ∀y,y∈a↔y∈d/\fZ y=true/\g<=y.2.2.2.2.2.2.1.1/\y.2.2.2.2.2.2.1.1<=f/\F<=y.1/\y.1<=T:=by
 refine Dg (λ(s:Bool×(Int×AP))=> ∃(k:Nat) (a:List EN),s.2=((k:Int),(F,(T,(g,(f,(i,a))))))/\k<=d.length/\a.length<=k/\ ∀y,y∈a↔y∈d.take k/\fZ y=true/\g<=y.2.2.2.2.2.2.1.1/\y.2.2.2.2.2.2.1.1<=f/\F<=y.1/\y.1<=T) (λs=>d.length-s.2.1.toNat)
  ⟨0,[],rfl,B8 _,Ai _,λy=>k!⟩ ?_
 rintro⟨M,K⟩ ⟨k,a,rfl,I,J,n⟩;unfold Jv;dsimp only;simp only[len];refine AC (λw=>?_) (λw=>Av.done ⟨a,rfl,o!,by rw[BS o!]at n;exact n⟩);refine AA (AI o! w) λv l=>?_;have A:=l.1;rw[Dk]at A;have q:d.take (k+1)=d.take k++[v]:=by rw[Dt,A];rfl
 rw[AZ]
 have c: ∀m:Bool,¬(fZ v=true∧g≤v.2.2.2.2.2.2.1.1∧v.2.2.2.2.2.2.1.1≤f∧F≤v.1∧v.1≤T)→
   Av (some (Step.next (m,((k:Int)+1,(F,(T,(g,(f,(i,a)))))))):Option (Step (Bool×(Int×AP)) (Bool×AP))) (Sj (λ(s:Bool×(Int×AP))=> ∃(k:Nat) (a:List EN),s.2=((k:Int),(F,(T,(g,(f,(i,a))))))/\k<=d.length/\a.length<=k/\ ∀y,y∈a↔y∈d.take k/\fZ y=true/\g<=y.2.2.2.2.2.2.1.1/\y.2.2.2.2.2.2.1.1<=f/\F<=y.1/\y.1<=T) (λs=>d.length-s.2.1.toNat) (d.length-((k:Nat):Int).toNat)
    λr=> ∃a:List EN,r.2=(F,(T,(g,(f,(i,a)))))/\a.length<=d.length/\ ∀y,y∈a↔y∈d/\fZ y=true/\g<=y.2.2.2.2.2.2.1.1/\y.2.2.2.2.2.2.1.1<=f/\F<=y.1/\y.1<=T):=λm hn=>by
  refine Av.next ⟨k+1,a,rfl,o!,o!,λy=>?_⟩ d!
  grind[List.mem_singleton]
 refine AA B7 λb u=>?_;refine AO (λz=>c _ λj=>?_) (λD=>?_);rw[u.2 (yE.1 j.1)]at z;cases z;refine AC (λ_=>c _ λj=>o!) (λq2=>?_);refine AC (λ_=>c _ λj=>o!) (λq3=>?_);refine AC (λ_=>c _ λj=>o!) (λq4=>?_);refine AC (λ_=>c _ λj=>o!) (λq5=>?_);refine AA (Q9 ⟨Ag _,d!⟩) λG _=>?_;refine AA (kg C (λx E=>B x (Fh ((n x).1 E).1)) (B v l.2) o!) λt o=>?_;refine Av.next ⟨k+1,t.1,rfl,o!,o!,λy=>?_⟩ d!
 rw[o.2,n,q,An,BA];constructor;rintro(⟨h,p⟩|h);exact⟨.inl h,p⟩;subst h;exact⟨.inr rfl,(yE.2 (u.1 D)),o!⟩;rintro⟨h|h,p⟩;exact .inl ⟨h,p⟩;exact .inr h
def AEM{L c:List EN}{F T h g j:Int}(n:Uq L)(q: ∀e∈c,e∈L)(p:c.length<=16777000):Av (JY (c,(F,(T,(h,(g,j)))))) λr=>r.2=0->VR r.1/\ ∃b:List EN,r.1=(F,(T,(h,(g,(j,b)))))/\ ∀y,y∈b↔y∈c/\fZ y=true/\h<=y.2.2.2.2.2.2.1.1/\y.2.2.2.2.2.2.1.1<=g/\F<=y.1/\y.1<=T:=by unfold JY;refine AA If λw _=>?_;refine AO (λ_=>AB λa=>absurd (show(1:Int)=0 from a) g!) (λ_=>?_);refine AA (Q8 ⟨Ag _,d!⟩) λx m=>?_;refine A8 (λu i=>AB λa=>absurd a (m u i)) (λu i=>?_);refine AA (ACN n q p) λs d=>?_;have⟨b,k,v,l⟩:=d;refine AJ (λ_=>AB λa=>absurd (show(41:Int)=0 from a) g!) (λ_=>?_);refine AC (λ_=>AB λa=>absurd (show(21:Int)=0 from a) g!) (λ_=>?_);refine AA Wf λt f=>?_;refine AO (λ_=>AB λa=>absurd (show(13:Int)=0 from a) g!) (λo=>AB λ_=>⟨f.1 o,b,k,l⟩)
set_option maxHeartbeats 400000
def AEO{x:Int×List Int}(h:BD x.1 x.2):Av (KC x) λr=>r.2=0/\VB r.1/\r.1.2.1=x.1/\r.1.2.2.2.1=1:=by refine AA kB λl c=>?_;refine AO (λb=>(by rw[c.2 h]at b;cases b)) (λ_=>?_);have k:=h.2.2.2.1;refine AA (Ac w!) λm e=>AB ⟨rfl,⟨?_,u!,u!,u!,u!,k!,⟨λi f d a=>by simp at a,λi f g d a j=>by simp at a⟩⟩,rfl,rfl⟩;grind
theorem FR.push{l m:List BJ}{f:BJ}{c:Int}(h:FR l c l.length)(v:1<=c)(r:f.2.1=c)(u:m=l++[f]):FR m (c+1) m.length:=by
 subst u;obtain⟨q,t⟩:=h;have p:(l++[f]).length=l.length+1:=by simp
 have b: ∀(i:Nat) (g:BJ),¬i<l.length->(l++[f])[i]? =some g->g=f:=λi g j a=>by
  have o:=DU a;rw[p]at o;have s:i=l.length:=by omega
  subst s;rw[Cb (Ai _)]at a;simp at a;exact a.symm
 refine⟨λi g j a=>?_,λi g k j a n=>?_⟩;by_cases e:i<l.length;rw[CK e]at a;have:=q i g (by omega) a;exact⟨this.1,by omega⟩;rw[b i g e a,r];exact⟨by omega,by omega⟩;rw[p]at j;have e:i<l.length:=by omega
 rw[CK e]at a;by_cases d:i+1<l.length;rw[CK d]at n;exact t i g k (by omega) a n;rw[b (i+1) k d n,r];exact(q i g (by omega) a).2
def ACT{x:AK×Ah×Int}(h:SA x.1)(l:VB x.1):Av (En x) λr=>r.2=0->SA r.1/\VB r.1/\r.1.2.1=x.1.2.1/\(r.1.2.2.2.1=x.1.2.2.2.1\/r.1.2.2.2.1<=x.2.1.2.2+1):=by
 unfold En;refine AA Hh λv0 O=>?_;refine AO (λ_=>AB n!) (λd=>?_);obtain⟨a1,a2,a3,a4,a5,a6,a7,a8,a9⟩:=O d;refine AA Bn λv1 q=>?_;refine AO (λ_=>AB n!) (λm=>?_);obtain⟨l1,l2,l3,l4,l5,Z⟩:=q.1 m;refine AC (λ_=>AB n!) (λc1=>?_);refine AC (λ_=>AB n!) (λc2=>?_);generalize S:(if(x.2.1.1>x.1.2.2.2.1)then x.2.1.1 else x.1.2.2.2.1)=F;have f1:x.2.1.1<=F/\x.1.2.2.2.1<=F/\F<=1099511627777:=by rw[<-S];split<;>omega
 have D:=AZ (x:=F+x.2.2);have E:=AZ (x:=F+x.2.2-1);rw[D,E];generalize T:(if(x.2.1.2.2<(F+x.2.2-1))then x.2.1.2.2 else(F+x.2.2-1))=G;have g1:G<=x.2.1.2.2/\G<=F+x.2.2-1:=by rw[<-T];split<;>omega
 refine AC (λ_=>AB λ_=>⟨h,l,rfl,.inl rfl⟩) (λc3=>?_);have H:=AZ (x:=F-x.2.1.1);have I:=AZ (x:=G-x.2.1.1);have J:=AZ (x:=G-x.2.1.1+1);rw[H,I,J];have K:=AZ (x:=len x.1.2.2.1+len x.1.1) i!;have L:=AZ (x:=x.1.2.2.2.2+len x.1.1) i!;have M:=AZ (x:=G+1);rw[K,L,M];have U:G<=1099511627776:=by
  have X:x.2.1.2.1.length≠0:=o!
  obtain⟨i,n⟩: ∃i,x.2.1.2.1[x.2.1.2.1.length-1]? =some i:=⟨_,At o!⟩
  have:=Z _ i n;have q:=this.1;have t:=this.2.2.1;omega
 refine AC (λ_=>AB n!) (λB=>?_);refine AC (λ_=>AB n!) (λC=>?_);simp only[len]at B C;refine AA (B5) λv2 t=>?_;have W:=t.2;refine AA (RE ⟨Ag _,d!,o!⟩) λv8 R=>?_;refine A8 (λu b=>AB λa=>absurd a (R u b)) (λu b=>?_);refine AA (Ac w!) λad j=>?_;have c:=j.1;rw[Cn]at c;refine AA (P:=λr=>(∀u,r= .inl u->u.1≠0)/\ ∀u,r= .inr u->u.2.1=x.1.1/\u.1.length<=256/\(∀f∈u.1,f.2.2.length<=1099511627776)/\u.2.2.1=x.1.2.1/\u.2.2.2.2.1=x.1.2.2.2.2+x.1.1.length/\FR u.1 u.2.2.2.2.1 u.1.length) ?_ λr hr=>A8 (λu b=>AB λa=>absurd a (hr.1 u b)) (λu b=>AB λ_=>?_);refine AS (λ(s:Int×(List BJ)×(List Int)×Int×Int×Int×AK)=>0<=s.1/\s.1<=x.1.1.length/\s.2.2.1=x.1.1/\(s.2.1.length:Int)=x.1.2.2.1.length+s.1/\(∀f∈s.2.1,f.2.2.length<=1099511627776)/\s.2.2.2.1=x.1.2.1/\s.2.2.2.2.2.1=x.1.2.2.2.2+s.1/\FR s.2.1 s.2.2.2.2.2.1 s.2.1.length) (λ(s:Int×(List BJ)×(List Int)×Int×Int×Int×AK)=>((x.1.1.length:Int)-s.1).toNat) ⟨Ag _,d!,rfl,by dsimp only;rw[c];omega,by dsimp only;rw[c];exact h.2.2,rfl,d!,by dsimp only;rw[c];exact l.2.2.2.2.2.2⟩ (λs V=>?_);obtain⟨Y,i2,v,i4,y,z,i7,A⟩:=V;unfold N8;have e:=AZ (x:=s.1+1);rw[e];refine AC (λd=>?_) (λd=>AB ⟨λu b=>(by cases b),λu b=>(by cases b;simp only[len]at d;exact⟨v,o!,y,z,o!,A⟩)⟩);simp only[len]at d;refine AA (TK a4 ⟨Y,d⟩) λal _=>?_;refine AA (eK d!) λao Q=>?_;refine AL (λd=>AB ⟨λu b=>(by cases b;exact d),λu b=>(by cases b)⟩) (λ_=>?_);refine AA Zv λap k=>?_;refine AA (Ac w!) λar g=>AB ?_;have p:=g.2.1;simp only[By,Bs]at p;have N:=AZ (x:=s.2.2.2.2.2.1+1);rw[N];refine⟨⟨d!,d!,v,d!,λf o=>?_,z,d!,A.push o! rfl g.1⟩,d!⟩;dsimp only at o;rw[g.1]at o;rcases An.1 o with w|w;exact y f w;simp at w;rw[w];exact k;obtain⟨q1,q2,q3,q4,q5,q6⟩:=hr.2 u b;refine⟨⟨by dsimp only;rw[q1];exact a4,d!,q3⟩,⟨?_,d!,d!,d!,d!,q2,q6⟩,q4,.inr d!⟩;dsimp only;rw[q1,q4];exact l.1
def FP(l:List BJ)(m:Int):Prop:=(∀f∈l,0<f.2.1/\f.2.1<m)/\l.Pairwise λf g=>f.2.1<g.2.1
def wz{l:List BJ}{m:Int}(h:FP l m):FR l m l.length:=by refine⟨λi f e a=>h.1 f (BM a),λi f g e a d=>?_⟩;have b:=DU a;have c:=DU d;have:=Hr.1 h.2 i (i+1) b c o!;grind
def FR.fp{l:List BJ}{m:Int}(h:FR l m l.length):FP l m:=by
 refine⟨λf e=>?_,Hr.2 λi j b c g=>?_⟩;obtain⟨i,b⟩:=Fg.1 e;have:=DU b;exact h.1 i f o! b;obtain⟨d,rfl⟩: ∃d,j=i+1+d:=⟨j-(i+1),o!⟩
 induction d with
 |zero=>exact h.2 i _ _ o! (At b) (At c)
 |succ d k=>
  have a:i+1+d<l.length:=o!
  have n:=k a o!;have o:=h.2 (i+1+d) l[i+1+d] l[i+1+(d+1)] o! (At a) (At c);omega
def FR.sub{l k:List BJ}{m:Int}(h:FR l m l.length)(a:k.Sublist l):FR k m k.length:=wz ⟨λf b=>h.fp.1 f (a.subset b),h.fp.2.sublist a⟩
def AAR(L:List EN)(a:AK)(F G s:Int)(nf:List BJ):Prop:= ∀(j:Nat) (f:BJ),nf[j]? =some f->
 ∃r,f=(1,(s+j,PA r))/\VR r/\Z7 L r/\r.1=F/\r.2.1=G/\a.1[j]? =some r.2.2.1/\r.2.2.2.1=rP a j
def D8.uq{l:Ah}(h:D8 l):Uq l.2.1:=λx b y c a=>UJ h.nodup b c a
def zg{l:Ah}(h:D8 l){F G:Int}{v:List EN}(g:l.1<=F)(i:F<=G)(j:G<=l.1+l.2.1.length-1)(b:v=(l.2.1.drop (F-l.1).toNat).take ((G-l.1+1).toNat-(F-l.1).toNat))(e:EN):e∈v↔e∈l.2.1/\F<=e.1/\e.1<=G:=by subst b;have⟨l1,l2,m,n,o,c⟩:=h;rw[Fg,Fg];constructor;grind;rintro⟨⟨k,a⟩,d,f⟩;have:=(c _ e a).1;refine⟨k-(F-l.1).toNat,?_⟩;rw[aG,if_pos o!,L6,show(F-l.1).toNat+(k-(F-l.1).toNat)=k by omega,a]
def wY{x:AK×Ah×Int}(h:SA x.1)(hb:VB x.1)(q:D8 x.2.1):Av (En x) λr=>r.2=0→r.1=x.1∨
  ∃F G a,r.1=(x.1.1,(x.1.2.1,(x.1.2.2.1++a,(G+1,x.1.2.2.2.2+a.length))))/\(x.1.2.2.2.1<=F/\(x.2.1.1<=x.1.2.2.2.1->F=x.1.2.2.2.1)/\(x.2.1.1<=F/\G<=x.2.1.2.2))/\F<=G/\a.length=x.1.1.length/\AAR x.2.1.2.1 x.1 F G x.1.2.2.2.2 a:=by
 unfold En;refine AA Hh λv0 X=>AO (λ_=>AB λb=>absurd (show(54:Int)=0 from b) g!) (λi=>?_);have⟨a1,a2,a3,a4,a5,a6,a7,a8,a9⟩:=X i;refine AA Bn λv1 h1=>AO (λ_=>AB λb=>absurd (show(26:Int)=0 from b) g!) (λad=>?_);have⟨l1,l2,l3,l4,l5,l6⟩:=id q;refine AC (λ_=>AB λb=>absurd (show(1:Int)=0 from b) g!) (λc1=>AC (λ_=>AB λb=>absurd (show(1:Int)=0 from b) g!) (λc2=>?_));have o: ∃F,(if(x.2.1.1>x.1.2.2.2.1)then x.2.1.1 else x.1.2.2.2.1)=F:=⟨_,rfl⟩
 have⟨F,o⟩:=o;have V:x.2.1.1<=F/\x.1.2.2.2.1<=F/\F<=1099511627777:=q!
 have W:x.2.1.1<=x.1.2.2.2.1->F=x.1.2.2.2.1:=q!
 have C:=AZ (x:=F+x.2.2);have D:=AZ (x:=F+x.2.2-1);have p: ∃G,(if(x.2.1.2.2<(F+x.2.2-1))then x.2.1.2.2 else(F+x.2.2-1))=G:=⟨_,rfl⟩
 have⟨G,p⟩:=p;have g1:G<=x.2.1.2.2/\G<=F+x.2.2-1:=q!
 rw[o,C,D,p];refine AC (λ_=>AB λ_=>.inl rfl) (λc3=>?_);have Q:=AZ (x:=F-x.2.1.1);have R:=AZ (x:=G-x.2.1.1);have S:=AZ (x:=G-x.2.1.1+1);rw[Q,R,S];have T:=AZ (x:=len x.1.2.2.1+len x.1.1) (by simp[len];omega);have U:=AZ (x:=x.1.2.2.2.2+len x.1.1) (by simp[len];omega);rw[T,U,(AZ (x:=G+1))];refine AC (λ_=>AB λb=>absurd (show(21:Int)=0 from b) g!) (λN=>AC (λ_=>AB λb=>absurd (show(21:Int)=0 from b) g!) (λO=>?_));simp[len]at N O;refine AA (B5) λv2 E=>?_;have al:=E.2;have l:=zg q (F:=F) (G:=G) V.1 o! o! E.1;refine AA (RE ⟨Ag _,d!,o!⟩) λv8 Z=>A8 (λu c=>AB λb=>absurd b (Z u c)) (λu c=>AA (Ac w!) λao t=>?_);have g:=t.1;rw[Cn]at g;subst g;refine AA (P:=λr=>(∀u,r= .inl u->u.1≠0)/\ ∀u,r= .inr u-> ∃(a:List BJ),(u.1,(u.2.1,(u.2.2.1,(u.2.2.2.1,u.2.2.2.2.1))))=(x.1.2.2.1++a,(x.1.1,(x.1.2.1,(x.1.2.2.2.1,x.1.2.2.2.2+a.length))))/\a.length=x.1.1.length/\AAR x.2.1.2.1 x.1 F G x.1.2.2.2.2 a) ?_ λr hr=>A8 (λu c=>AB λb=>absurd b (hr.1 u c)) (λu c=>AB λ_=>.inr ?_)
 ·refine Dg (λ(s:Int×(List BJ)×(List Int)×Int×Int×Int×AK)=> ∃(k:Nat) (a:List BJ) (z:AK),s=((k:Int),(x.1.2.2.1++a,(x.1.1,(x.1.2.1,(x.1.2.2.2.1,(x.1.2.2.2.2+(k:Int),z))))))/\k<=x.1.1.length/\a.length=k/\AAR x.2.1.2.1 x.1 F G x.1.2.2.2.2 a) (λs=>x.1.1.length-s.1.toNat)
   ⟨0,[],u,k!,B8 _,rfl,λj f d=>by simp at d⟩ ?_
  rintro s ⟨k,a,z,rfl,i2,A,I⟩;unfold N8;dsimp only;simp only[len];rw[o,C,D,p];refine AC (λi=>?_) (λi=>Av.done ⟨λu c=>(by cases c),λu c=>(by cases c;exact⟨a,by dsimp only;rw[A],o!,I⟩)⟩);have H:x.1.1[k]? =some (x.1.1[k]' o!):=At o!;rw[kj hb.1 H,AE];refine AA (AEM q.uq (λe he=>((l e).1 he).1) o!) λn v=>AL (λi=>Av.done ⟨λu c=>(by cases c;exact i),λu c=>(by cases c)⟩) (λb=>?_);have⟨B,es,m,m3⟩:=v b;rw[nX B,AE];refine AA (Ac w!) λap Y=>?_;rw[AZ (x:=x.1.2.2.2.2+(k:Int)+1),AZ (x:=(k:Int)+1)];refine Av.next ⟨k+1,a++[(1,(x.1.2.2.2.2+(k:Int),PA n.1))],z,?_,o!,by rw[Ad,A];rfl,λj f d=>?_⟩ d!
  grind;by_cases hj:j<a.length;rw[CK hj]at d;exact I j f d;have y:=DU d;rw[Ad,By,Bs]at y;have w:j=k:=o!
  subst w;rw[Cb o!,A,Gu]at d;cases d;refine⟨n.1,rfl,B,B.runOf q.uq λe=>?_,by rw[m],by rw[m],by rw[m];exact H,by rw[m]⟩;rw[m];dsimp only;rw[m3,l];constructor;grind;rintro⟨q1,q2,q3,q4,q5,q6⟩;exact⟨⟨q1,q5,q6⟩,q2,q3,q4,q5,q6⟩
 have⟨a,q1,q2,q3⟩:=hr.2 u c;refine⟨F,G,a,?_,⟨o!,W,o!⟩,o!,q2,q3⟩;have J:=congrArg (·.1) q1;have K:=congrArg (·.2.1) q1;have L:=congrArg (·.2.2.1) q1;have M:=congrArg (·.2.2.2.2) q1;dsimp only at J K L M;dsimp only;rw[J,K,L,M]
def Kn.congr{a b:AK}(e:b.1=a.1)(f:b.2.1=a.2.1){d c:Int}:Kn a d c↔Kn b d c:=by grind[Kn,rP]
def Good.congr{a b:AK}(c:b.1=a.1)(d:b.2.1=a.2.1){f:BJ}{r:AP}(h:Good a f r):Good b f r:=⟨h.1,h.2.1,h.2.2.1,(Kn.congr c d).1 h.2.2.2⟩
def Good.run{a:AK}{f:BJ}{r s:AP}(h:Good a f r)(g:Good a f s):r=s:=AA2 h.2.2.1 g.2.2.1 (h.2.1.symm.trans g.2.1)
def AR.step{L:List EN}{a b:AK}{F G:Int}{s:List BJ}(h:AR L a)(e:b=(a.1,(a.2.1,(a.2.2.1++s,(G+1,a.2.2.2.2+s.length)))))(hF:a.2.2.2.1<=F)(hG:F<=G)(hn:AAR L a F G a.2.2.2.2 s)(D:VB b):AR L b/\(AG a->AG b)/\ ∀c,RC a c->RC b (c+1):=by
 have P:b.1=a.1:=by rw[e]
 have Q:b.2.1=a.2.1:=by rw[e]
 have Y:b.2.2.1=a.2.2.1++s:=by rw[e]
 have h4:b.2.2.2.1=G+1:=by rw[e]
 have q: ∀f∈s,∃(j:Nat) (r:AP),Good b f r/\Z7 L r/\r.1=F/\r.2.1=G/\a.1[j]? =some r.2.2.1/\s[j]? =some f:=λf k=>by have⟨j,hj⟩:=Fg.1 k;have⟨r,l,M,w,r4,W,S,r7⟩:=hn j f hj;refine⟨j,r,⟨by rw[l],by rw[l],M,(Kn.congr P Q).1 ⟨j,S,r7⟩⟩,w,r4,W,S,hj⟩
 have K: ∀f∈a.2.2.1,Bad f\/ ∃r,Good b f r/\Z7 L r/\r.2.1<a.2.2.2.1:=λf k=>(h.files f k).imp id λ⟨r,l,M,w⟩=>⟨r,l.congr P Q,M,w⟩
 have d: ∀x∈FU b,(x∈FU a/\x.1.2.1<a.2.2.2.1)\/ ∃(j:Nat) (f:BJ),s[j]? =some f/\Good b f x.1/\x.2=f.2.1/\x.1.1=F/\a.1[j]? =some x.1.2.2.1:=λx m=>by unfold FU at m;rw[Y]at m;have⟨f,k,z⟩:=P0.1 m;rcases An.1 k with k|k;rcases K f k with E|⟨r,l,M,w⟩;rw[E.intR D.1]at z;cases z;rw[l.intR D.1]at z;cases z;exact .inl ⟨TU h.vb.1 k (l.congr P.symm Q.symm),w⟩;have⟨j,r,l,M,w,r4,W,S⟩:=q f k;rw[l.intR D.1]at z;cases z;exact .inr ⟨j,f,S,l,rfl,w,W⟩
 refine⟨⟨D,λf k=>?_,λx m y R J p=>?_⟩,λU f k=>?_,λc Z v=>?_⟩;grind;rcases d x m with⟨n,A⟩|⟨i,f,n,A,N,x4,B⟩;rcases d y R with⟨o,C⟩|⟨j,g,o,C,T,y4,O⟩;exact h.dis x n y o J p;grind;rcases d y R with⟨o,C⟩|⟨j,g,o,C,T,y4,O⟩;exact .inr o!;rw[<-p]at O;have t:=h.vb.1.inj B O;subst t;rw[n]at o;cases o;exact absurd (Dj (A.run C) (N.trans T.symm)) J;rw[Y]at k;rcases An.1 k with k|k;have⟨r,hr⟩:=U f k;exact⟨r,hr.congr P Q⟩;have⟨j,r,l,_⟩:=q f k;exact⟨r,l⟩;have I:=(Yq D).filter λe=>e.1.2.2.1==v;by_cases H: ∃y∈(FU b).filter (λe=>e.1.2.2.1==v),∃(j:Nat) (f:BJ),s[j]? =some f/\Good b f y.1/\y.2=f.2.1/\a.1[j]? =some y.1.2.2.1;have⟨y,R,j,g,o,C,T,O⟩:=H;have V:y.1.2.2.1=v:=eq_of_beq (Bc.1 R).2;have:=mH _ (y::(FU a).filter λe=>e.1.2.2.1==v) I λx m=>by have⟨X,u⟩:=Bc.1 m;rcases d x X with⟨n,_⟩|⟨i,f,n,A,N,x4,B⟩;grind;rw[eq_of_beq u,<-V]at B;have t:=h.vb.1.inj B O;subst t;rw[n]at o;cases o;exact A3.2 (.inl (Dj (A.run C) (N.trans T.symm)))
 rw[By]at this;have:=Z v;omega;have:=mH _ ((FU a).filter λe=>e.1.2.2.1==v) I λx m=>by have⟨X,u⟩:=Bc.1 m;rcases d x X with⟨n,_⟩|⟨i,f,n,A,N,x4,B⟩;exact Bc.2 ⟨n,u⟩;exact absurd ⟨x,m,i,f,n,A,N,B⟩ H
 have:=Z v;omega
def AEI(a:AK)(lo n:Int):Prop:= ∃e∈FU a,e.1.2.2.1=lo/\e.1.1<=n/\n<=e.1.2.1
def AF(a:AK):Prop:= ∀lo∈a.1,∀n:Int,1<=n->n<a.2.2.2.1->AEI a lo n
def AF.step{L:List EN}{a b:AK}{F G:Int}{c:List BJ}(w:AF a)(h:AR L a)(e:b=(a.1,(a.2.1,(a.2.2.1++c,(G+1,a.2.2.2.2+c.length)))))(H:F=a.2.2.2.1)(z:c.length=a.1.length)(hn:AAR L a F G a.2.2.2.2 c)(s:VB b):AF b:=by
 have k:b.1=a.1:=by rw[e]
 have p:b.2.1=a.2.1:=by rw[e]
 have q:b.2.2.1=a.2.2.1++c:=by rw[e]
 have E:b.2.2.2.1=G+1:=by rw[e]
 intro A d n B I;rw[k]at d;rcases iP n a.2.2.2.1 with g|g;obtain⟨r,hr,i,m,u⟩:=w A d n B g;have⟨f,l,v,D,_⟩:=h.mem hr;exact⟨(r.1,f.2.1),TU s.1 (by rw[q];exact HQ _ l) (v.congr k p),i,m,u⟩;have⟨j,t⟩:=Fg.1 d;have y:=DU t;have l:c[j]? =some (c[j]' o!):=At o!;have⟨r,i,m,u,J,K,o,C⟩:=hn j _ l;have x:Good b (c[j]' o!) r:=⟨by rw[i],by rw[i],m,(Kn.congr k p).1 ⟨j,o,C⟩⟩
 refine⟨(r,(c[j]' o!).2.1),TU s.1 (by rw[q];exact OS _ (U2 _)) x,?_,d!⟩;rw[t]at o;exact(Bg o).symm
def SF(a:AK)(m:Int):Prop:=a.2.2.2.2+a.2.2.1.length<=m
def ACS{x:AK×Ah×Int}{m:Int}(h:AR x.2.1.2.1 x.1)(f:D8 x.2.1)(t:SF x.1 m):Av (En x) λr=>r.2=0->AR x.2.1.2.1 r.1/\(AG x.1->AG r.1)/\(∀c,RC x.1 c->RC r.1 (c+1))/\SF r.1 (m+32)/\r.1.2.1=x.1.2.1/\(r.1.2.2.2.1=x.1.2.2.2.1\/r.1.2.2.2.1<=x.2.1.2.2+1)/\(Lf x.2.1.2.1->AF x.1->AF r.1):=by
 refine((ACT h.sa h.vb).and (wY h.sa h.vb f)).mono λr hr k=>?_;have⟨q1,q2,q3,q4⟩:=hr.1 k;rcases hr.2 k with e|⟨F,G,u,g,i,l,n,j⟩;rw[e];exact⟨h,id,λc q s=>Nat.le_succ_of_le (q s),by unfold SF at*;omega,rfl,.inl rfl,λ_=>id⟩
 ·have a:=h.step g i.1 l j q2;have b:0<x.2.1.2.1.length:=by have:=f.2.2.2.2.1;omega
  have d:Lf x.2.1.2.1->AF x.1->AF r.1:=λo p=>p.step h g (i.2.1 (by have v:=(o 0 _ (At b)).1;have w:=(f.2.2.2.2.2 0 _ (At b)).1;have:=h.vb.2.1;omega)) n j q2;have:=h.sa.1;refine⟨a.1,a.2.1,a.2.2,?_,?_,?_,d⟩;all_goals unfold SF at*;grind
def ADu{c d:Type}(l:List c)(m:List d)(n:Nat):l.zip m=(l.take n).zip (m.take n)++(l.drop n).zip (m.drop n):=by
 induction n generalizing l m with
 |zero=>simp
 |succ n e=>
  cases l with
  |nil=>simp
  |cons a l=>
   cases m with
   |nil=>simp
   |cons b m=>grind[List.zip_cons_cons]
theorem AFZ{c d:Type}{l:List c}{m:List d}{k:Nat}{a:c}{b:d}(e:l[k]? =some a)(f:m[k]? =some b):(a,b)∈l.zip m:=by refine Fg.2 ⟨k,?_⟩;grind[List.getElem?_zip_eq_some]
def AAW{x:AK}{L:List EN}{U:Int×List AP×List Int×List Bool}(h:AR L x)(b:0<=U.1):Av (Af (Et x U) ([],([],0))) λr=>r.2.length=r.1.length/\ ∀p∈r.1.zip r.2,p∈FU x:=by
 obtain⟨⟨b1,b2,b3,b4,b5,b6,b7⟩,a1,a2,a3,a4,a5,a6⟩:=h.vb;refine Dg (λ(s:List AP×List Int×Int)=>0<=s.2.2/\s.2.2<=x.2.2.1.length/\s.2.1.length=s.1.length/\s.1.length<=s.2.2/\ ∀p∈s.1.zip s.2.1,p∈FU x) (λ(s:List AP×List Int×Int)=>((x.2.2.1.length:Int)-s.2.2).toNat) ⟨Ag _,d!,rfl,k!,λp b=>by simp at b⟩ (λs X=>?_);obtain⟨S,i2,T,i4,u⟩:=X;unfold Et;have e:=AZ (x:=s.2.2+1);rw[e];refine AC (λE=>?_) (λ_=>Av.done ⟨T,u⟩);simp only[len]at E;refine AA (AI S E) λv D=>?_;have q: ∃w,Cu (x,v)=some w/\(w.2= -1\/Good x v w.1):=by rcases h.files v D.2 with Y|⟨r,R,_⟩;obtain⟨r,hr⟩:=Y.ref (a:=x);exact⟨_,hr,.inl rfl⟩;obtain⟨k,hk,ad⟩:=R.ref h.vb.1;exact⟨_,hk,.inr R⟩
 obtain⟨w,F,t⟩:=q;rw[F,AE];refine AL (λ_=>Av.next ⟨d!,d!,T,d!,u⟩ d!) (λZ=>?_);have c:Good x v w.1:=t.elim (λhz=>absurd hz o!) id;refine AA (QX ⟨i!,i!,o!⟩) λy o=>?_;refine AA (B5 (Ag _) o.1 o.2) λv8 P=>?_;refine AA (B5 o.1 i! i!) λv9 Q=>?_;have l8:=P.2;have l9:=Q.2;simp only[len]at l9;refine AA (Ac w!) λar d=>?_;have G:=d.2.1;simp only[Bs]at G;refine AA (Ac w!) λax f=>?_;have H:=f.2.1;simp only[Bs,By]at H;refine AA (Ac o!) λa0 g=>?_;have al:=g.2.1;refine AA (B5 (Ag _) o.1) λM i=>?_;have ao:=i.2;refine AA (AI S E) λN C=>?_;refine AA (B5 o.1 i! i!) λO j=>?_;have I:=j.2;simp only[len]at I;refine AA (Ac w!) λa7 l=>?_;have J:=l.2.1;simp only[Bs]at J;refine AA (Ac w!) λa8 m=>?_;have K:=m.2.1;simp[Bs,By]at K;refine AA (Ac o!) λa9 n=>?_;have ap:=n.2.1;have A:N=v:=by have:=C.1;rw[D.1]at this;exact(Bg this).symm
 have V:v8=s.1.take y.toNat:=by rw[P.1];simp
 have W:v9=s.1.drop y.toNat:=by rw[Q.1];exact BS (by rw[GF];simp only[len];omega)
 have z:M=s.2.1.take y.toNat:=by rw[i.1];simp
 have B:O=s.2.1.drop y.toNat:=by rw[j.1];exact BS (by rw[GF];simp only[len];omega)
 refine Av.next ⟨d!,d!,d!,d!,λp b=>?_⟩ d!
 dsimp only at b;rw[g.1,f.1,d.1,n.1,m.1,l.1,V,W,z,B,Cn,Cn]at b;rw[cL (by simp[Ad,Ba,By,Bs];omega),cL (by simp[Ba];omega)]at b;rw[ADu s.1 s.2.1 y.toNat]at u;rcases An.1 b with b|b;rcases An.1 b with b|b;exact u p (An.2 (.inl b));rw[List.zip_cons_cons,List.zip_nil_left,BA]at b;rw[b,A];exact TU h.vb.1 D.2 c;exact u p (An.2 (.inr b))
def Wh(x:AK)(t:List AP×List Int×List Bool):Prop:= ∀p∈(t.1.zip t.2.1).zip t.2.2,p.2=true->p.1∈FU x
def AAX{x:AK}{a:List AP×List Int}{n:Int}{t:List AP×List Int×List Bool}(h:a.2.length=a.1.length/\a.1.length<=256/\RL a.1)(hn:n<=100000)(m:T3 n t)(R: ∀p∈a.1.zip a.2,p∈FU x)(G:Wh x t):Av (Af (Eu a) (0,(0,t))) λr=>Wh x r:=by
 refine Dg (λ(s:Int×Int×List AP×List Int×List Bool)=>0<=s.2.1/\s.2.1<=a.1.length/\T3 (n+s.2.1) s.2.2/\Wh x s.2.2) (λ(s:Int×Int×List AP×List Int×List Bool)=>((a.1.length:Int)-s.2.1).toNat) ⟨Ag _,d!,by simpa using m,G⟩ (λs F=>?_);have⟨g,S,⟨z,H,T,A⟩,o⟩:=F;have⟨P,Q,E⟩:=h;unfold Eu;rw[(AZ (x:=s.2.1+1))];refine AC (λf=>?_) (λ_=>Av.done o);simp[len]at f;refine AA (AI g f) λI _=>?_;refine AC (λ_=>Av.next ⟨d!,d!,⟨z,H,d!,A⟩,o⟩ d!) (λ_=>?_);refine AA (AI g f) λy k=>?_;refine AA (AI g) λJ C=>?_;refine AA (AI g f) λi D=>?_;have j:i=y:=by grind[Option.some.inj]
 subst j;refine D9 (RF (E i k.2)) λK B l=>?_;refine AA (Ac w!) λL b=>?_;have q:=b.2.1;simp[Bs,By]at q;refine AA (Ac w!) λM d=>?_;have u:=d.2.1;simp[Bs,By]at u;refine AA (Ac w!) λN e=>?_;have v:=e.2.1;simp[Bs,By]at v;refine AA (AI g f) λO _=>?_;refine Av.next ⟨d!,d!,⟨d!,d!,d!,λr hr=>?_⟩,λp c m=>?_⟩ d!
 dsimp only at hr;rw[b.1]at hr;rcases An.1 hr with w|w;exact A r w;simp at w;rw[w];exact l;dsimp only at c;rw[b.1,d.1,e.1,cL z.symm,cL (by rw[List.length_zip];omega)]at c;rcases An.1 c with c|c;exact o p c m;grind[List.zip_cons_cons,List.zip_nil_left,List.mem_singleton,FQ,AFZ]
def AAV{x:AK}{L:List EN}(h:AR L x):Av (F8 x) λr=>T3 4096 r/\Wh x r:=by unfold F8;refine AA Hh λo i=>?_;refine AO (λ_=>AB ⟨⟨rfl,rfl,k!,λr hr=>by simp at hr⟩,λp d=>by simp at d⟩) (λc=>?_);have e:=i c;have a4:=e.2.2.2.1;refine AA (P:=λr=>T3 4096 r/\Wh x r) ?_ λr hr=>AB hr;refine Dg (λ(s:Int×List AP×List Int×List Bool)=>0<=s.1/\s.1<=x.1.length/\T3 (256*s.1) s.2/\Wh x s.2) (λ(s:Int×List AP×List Int×List Bool)=>((x.1.length:Int)-s.1).toNat) ⟨Ag _,d!,⟨rfl,rfl,k!,λr hr=>by simp at hr⟩,λp d=>by simp at d⟩ (λs k=>?_);have⟨f,n,b,g⟩:=k;unfold ND;rw[(AZ (x:=s.1+1))];refine AC (λc=>?_) (λ_=>Av.done ⟨⟨b.1,b.2.1,by have:=b.2.2.1;omega,b.2.2.2⟩,g⟩);simp[len]at c;refine AA ((QW e h.sa f).and (AAW h f)) λl a=>?_;refine AA ((QY a.1 o! b).and (AAX a.1 o! b a.2.2 g)) λm j=>?_;grind[Av.next]
theorem uQ{a:AK}{r:AP}(h:BD a.2.1 a.1):Av (Fe (a,r)) λk=>0<=k->a.1[k.toNat]? =some r.2.2.1:=by
 have e:=h.2.2.2.1;refine AA (P:=λq=> ∀k:Int,q= .inl k->a.1[k.toNat]? =some r.2.2.1) ?_ λq i=>?_
 ·refine Dg (λ(s:Int)=>0<=s/\s<=a.1.length) (λs=>((a.1.length:Int)-s).toNat) ⟨Ag _,by omega⟩ (λs f=>?_);obtain⟨l,n⟩:=f;unfold HN;dsimp only[len];refine AC (λm=>?_) (λ_=>Av.done λk b=>by cases b);have b:a.1[s.toNat]? =some (a.1[s.toNat]'(by omega)):=At (by omega);have hr:=kj h b;rw[IH l]at hr;rw[hr,AE,AZ (by omega)];refine AV (λg=>AV (λ_=>Av.done λk c=>?_) (λ_=>Av.next ⟨by omega,by omega⟩ (by omega))) (λ_=>Av.next ⟨by omega,by omega⟩ (by omega));cases c;rw[b];exact congrArg some g
 refine A8 (λu d=>AB λ_=>i u d) (λu d=>AB λj=>absurd j (by decide))
def Good.refLo{a:AK}{f:BJ}{r:AP}(h:Good a f r)(e:BD a.2.1 a.1): ∃k,Cu (a,f)=some (r,k)/\(0<=k->a.1[k.toNat]? =some r.2.2.1):=by have⟨b,c,d,i⟩:=h;have⟨k,k1,g⟩:=uQ (r:=r) e;refine⟨k,?_,g⟩;unfold Cu;rw[b,c,bne_self_eq_false,cond_false,uV d,AE,show(((r,(0:Int)):AP×Int).2 !=0)=false from rfl,cond_false];grind
def Srt(x:AK)(k:Int)(l:List AP):Prop:=l.Pairwise (λa b=>a.1<=b.1)/\ ∀r∈l,x.1[k.toNat]? =some r.2.2.1/\ ∃id,(r,id)∈FU x
def zB{a:List AP×List Int×Int}{d:AP×Int}(h:a.1.length<=16777215):Av (Af (HE a d) (len a.1)) λr=>0<=r/\r<=a.1.length/\(∀e∈a.1.drop r.toNat,d.1.1<=e.1)/\(0<r-> ∀e,a.1[r.toNat-1]? =some e->e.1<=d.1.1):=by refine Dg (λ(s:Int)=>0<=s/\s<=a.1.length/\ ∀e∈a.1.drop s.toNat,d.1.1<=e.1) (λ(s:Int)=>s.toNat) ⟨by unfold len;omega,by unfold len;omega,λe b=>by simp[len]at b⟩ (λs k=>?_);obtain⟨i,j,c⟩:=k;unfold HE;refine AC (λl=>?_) (λl=>Av.done ⟨i,j,c,λn=>absurd n o!⟩);rw[AZ];refine AA (AI) λo f=>AC (λm=>Av.next ⟨o!,o!,λe b=>?_⟩ o!) (λm=>Av.done ⟨i,j,c,λ_ e b=>?_⟩);rw[show s.toNat=(s-1).toNat+1 by omega]at c;have g:=DU f.1;rw[So g]at b;rcases A3.1 b with q|q;have:=f.1;rw[At g]at this;rw[q,Bg this];omega;exact c e q;have:=f.1;rw[show(s-1).toNat=s.toNat-1 by omega,b]at this;rw[Bg this];omega
def zA{x:AK}{L:List EN}{z:Int×List AP×List Int×List Bool}(h:AR L x)(hp:0<=z.1):Av (Af (Et x z) ([],([],0))) λr=>Srt x z.1 r.1:=by
 obtain⟨⟨b1,b2,b3,b4,b5,b6,b7⟩,a1,a2,a3,a4,a5,a6⟩:=h.vb;refine Dg (λ(s:List AP×List Int×Int)=>0<=s.2.2/\s.2.2<=x.2.2.1.length/\s.2.1.length=s.1.length/\s.1.length<=s.2.2/\Srt x z.1 s.1) (λ(s:List AP×List Int×Int)=>((x.2.2.1.length:Int)-s.2.2).toNat) ⟨Ag _,d!,rfl,k!,List.Pairwise.nil,λp hp=>by simp at hp⟩ (λs hI=>?_);obtain⟨i1,i2,i3,i4,w,y⟩:=hI;unfold Et;have e:=AZ (x:=s.2.2+1);rw[e];refine AC (λI=>?_) (λ_=>Av.done ⟨w,y⟩);simp only[len]at I;refine AA (AI i1 I) λA W=>?_;have t: ∃g,Cu (x,A)=some g/\(g.2= -1\/(Good x A g.1/\(0<=g.2->x.1[g.2.toNat]? =some g.1.2.2.1))):=by rcases h.files A W.2 with G|⟨r,Z,_⟩;obtain⟨r,hr⟩:=G.ref (a:=x);exact⟨_,hr,.inl rfl⟩;obtain⟨k,i,K⟩:=Z.refLo h.vb.1;exact⟨_,i,.inr ⟨Z,K⟩⟩
 obtain⟨g,P,u⟩:=t;rw[P,AE];refine AL (λ_=>Av.next ⟨d!,d!,i3,d!,w,y⟩ d!) (λJ=>?_);have c:=u.elim (λhz=>absurd hz o!) id;refine AA (zB o!) λf j=>?_;refine AA (B5 (Ag _) j.1 j.2.1) λv8 X=>?_;refine AA (B5 j.1 i! i!) λv9 Y=>?_;have l8:=X.2;have l9:=Y.2;simp only[len]at l9;refine AA (Ac w!) λar m=>?_;have Q:=m.2.1;simp only[Bs]at Q;refine AA (Ac w!) λax n=>?_;have R:=n.2.1;simp only[Bs,By]at R;refine AA (Ac o!) λV o=>?_;have al:=o.2.1;refine AA (B5 (Ag _) j.1) λa0 B=>?_;have ao:=B.2;refine AA (AI i1 I) λa7 ad=>?_;refine AA (B5 j.1 i! i!) λa8 C=>?_;have S:=C.2;simp only[len]at S;refine AA (Ac w!) λa9 D=>?_;have T:=D.2.1;simp only[Bs]at T;refine AA (Ac w!) λa' E=>?_;have U:=E.2.1;simp[Bs,By]at U;refine AA (Ac o!) λbb F=>?_;have ap:=F.2.1;have e8:v8=s.1.take f.toNat:=by rw[X.1];simp
 have e9:v9=s.1.drop f.toNat:=by rw[Y.1];exact BS (by rw[GF];simp only[len];omega)
 have l:V=s.1.take f.toNat++(g.1::s.1.drop f.toNat):=by rw[o.1,n.1,m.1,e8,e9];simp
 refine Av.next ⟨d!,d!,d!,d!,?_,λr hr=>?_⟩ d!
 dsimp only;rw[l];have hs:=w;rw[<-EP f.toNat s.1]at hs;obtain⟨p1,p2,p3⟩:=List.pairwise_append.1 hs;have G: ∀a∈s.1.take f.toNat,a.1<=g.1.1:=λa v=>by obtain⟨k,i⟩:=Fg.1 v;have N:=DU i;rw[Ba]at N;rw[Kg o!]at i;have d:s.1[f.toNat-1]? =some (s.1[f.toNat-1]' o!):=At o!;have O:=j.2.2.2 o! _ d;by_cases M:k=f.toNat-1;rw[M,d]at i;rw[<-Bg i];exact O;have:=Hr.1 w k (f.toNat-1) o! o! o!;rw[At o!]at i;rw[<-Bg i];omega
 refine List.pairwise_append.2 ⟨p1,List.pairwise_cons.2 ⟨j.2.2.1,p2⟩,λa v b H=>?_⟩;rcases A3.1 H with q|q;rw[q];exact G a v;exact p3 a v b q;dsimp only at hr;rw[l]at hr;rcases An.1 hr with q|q;exact y r (Fh q);rcases A3.1 q with q|q;rw[q];refine⟨?_,A.2.1,TU h.vb.1 W.2 c.1⟩;rw[<-J];exact c.2 o!;exact y r (OT q)
def Wr(x:AK)(t:List AP×List Int×List Bool):Prop:= ∀r∈t.1,∃id,(r,id)∈FU x
def zC{x:AK}{L:List EN}{k:Int}{c:List AP×List Int}{n:Int}{t:List AP×List Int×List Bool}(S:AR L x)(h:c.2.length=c.1.length/\c.1.length<=256/\RL c.1)(hn:n<=100000)(ht:T3 n t)(A:Srt x k c.1)(hw:Wr x t):Av (Af (Eu c) (0,(0,t))) λr=>Wr x r/\ ∃M,r.1=t.1++M/\M.length<=256/\ ∀q∈M,q∈c.1:=by
 refine Dg (λ(s:Int×Int×List AP×List Int×List Bool)=>0<=s.2.1/\s.2.1<=c.1.length/\T3 (n+s.2.1) s.2.2/\Wr x s.2.2/\(∃M,s.2.2.1=t.1++M/\(M.length:Int)<=s.2.1/\ ∀q∈M,q∈c.1)/\(s.1=0\/ ∃(i:Nat) (r:AP),(i:Int)<s.2.1/\c.1[i]? =some r/\r.2.1=s.1)) (λ(s:Int×Int×List AP×List Int×List Bool)=>((c.1.length:Int)-s.2.1).toNat) ⟨Ag _,d!,by simpa using ht,hw,⟨[],k!,k!,λq I=>by simp at I⟩,.inl rfl⟩ (λs hI=>?_);have⟨B,i2,⟨j1,j2,j3,U⟩,J,⟨M,P,m2,Q⟩,T⟩:=hI;have⟨h1,h2,Z⟩:=h;unfold Eu;rw[(AZ (x:=s.2.1+1))];refine AC (λu=>?_) (λ_=>Av.done ⟨J,M,P,o!,Q⟩);simp[len]at u;refine AA (AI B u) λR W=>?_;have keep:s.1=0\/ ∃(i:Nat) (r:AP),(i:Int)<s.2.1+1/\c.1[i]? =some r/\r.2.1=s.1:=T.imp id λ⟨i,r,q1,q2⟩=>⟨i,r,o!,q2⟩
 refine AC (λ_=>Av.next ⟨d!,d!,⟨j1,j2,d!,U⟩,J,⟨M,P,d!,Q⟩,keep⟩ d!) (λad=>?_);refine AA (AI B u) λC X=>?_;have D:C=R:=by grind[Option.some.inj]
 subst D;refine AA (AI B) λap Y=>?_;refine AA (AI B u) λd j=>?_;have E:d=C:=by grind[Option.some.inj]
 subst E;obtain⟨id,o⟩:=(A.2 d j.2).2;have⟨_,_,V,_,_,_⟩:=S.mem o;have hv:=V.2.2.1.1;have m:d.1>s.1:=by
  rcases T with hz|⟨i,r,q1,q2,q3⟩;have:=hv.1;dsimp only at this;omega;obtain⟨ao,v⟩:=(A.2 r (BM q2)).2;have al:r.1<=d.1:=by have y:=DU q2;have:=Hr.1 A.1 i s.2.1.toNat y o! o!;rw[At y]at q2;have g:=j.1;rw[At o!]at g;rw[<-Bg q2,<-Bg g];exact this
  have z:r.2.2.1=d.2.2.1:=by have a:=(A.2 r (BM q2)).1;have b:=(A.2 d j.2).1;rw[a]at b;exact Bg b
  rcases S.dis _ v _ o (λe=>by have:=congrArg (·.1.2.1) e;dsimp only at this;omega) z with q|q;dsimp only at q;omega;dsimp only at q;omega
 rw[show FQ (d,s.1)=some d by unfold FQ;rw[decide_eq_true (by exact m)];rfl,Option.bind_some];refine AA (Ac w!) λar f=>?_;have K:=f.2.1;simp[Bs,By]at K;refine AA (Ac w!) λax G=>?_;have N:=G.2.1;simp[Bs,By]at N;refine AA (Ac w!) λa0 H=>?_;have O:=H.2.1;simp[Bs,By]at O;refine AA (AI B u) λp l=>?_;have F:p=d:=by grind[Option.some.inj]
 subst F;refine Av.next ⟨d!,d!,⟨d!,d!,d!,λr hr=>?_⟩,λr hr=>?_,⟨M++[p],by dsimp only;rw[f.1,P,Ay],by rw[Ad,aH];dsimp only;omega,λq I=>(An.1 I).elim (Q q) λw=>by rw[BA.1 w];exact l.2⟩,.inr ⟨s.2.1.toNat,p,d!,l.1,rfl⟩⟩ d!
 dsimp only at hr;rw[f.1]at hr;rcases An.1 hr with w|w;exact U r w;simp at w;rw[w];exact Z _ l.2;dsimp only at hr;rw[f.1]at hr;rcases An.1 hr with w|w;exact J r w;simp at w;rw[w];exact⟨id,o⟩
def ACR{x:AK}{L:List EN}(h:AR L x):Av (QV x) λr=>r.2.length=r.1.length/\r.1.length<=4096/\(∀q∈r.1,∃id,(q,id)∈FU x)/\ ∀a,(r.1.filter λq=>q.2.2.1==a).length<=256:=by
 suffices D:Av (F8 x) λr=>T3 4096 r/\Wr x r/\ ∀a,(r.1.filter λq=>q.2.2.1==a).length<=256 from AA D λr hr=>AB ⟨hr.1.1,by have:=hr.1.2.2.1;dsimp only;omega,hr.2.1,hr.2.2⟩
 unfold F8;refine AA Hh λI B=>?_;refine AO (λ_=>AB ⟨⟨rfl,rfl,k!,λr hr=>by simp at hr⟩,λp l=>by simp at l,λa=>k!⟩) (λi=>?_);have o:=B i;have a4:=o.2.2.2.1;refine AA (P:=λr=>T3 4096 r/\Wr x r/\ ∀a,(r.1.filter λq=>q.2.2.1==a).length<=256) ?_ λr hr=>AB hr;refine Dg (λ(s:Int×List AP×List Int×List Bool)=>0<=s.1/\s.1<=x.1.length/\T3 (256*s.1) s.2/\Wr x s.2/\(∀a,(s.2.1.filter λq=>q.2.2.1==a).length<=256)/\ ∀q∈s.2.1,∃k:Nat,(k:Int)<s.1/\x.1[k]? =some q.2.2.1) (λ(s:Int×List AP×List Int×List Bool)=>((x.1.length:Int)-s.1).toNat) ⟨Ag _,d!,⟨rfl,rfl,k!,λr hr=>by simp at hr⟩,λp l=>by simp at l,λa=>k!,λq c=>by simp at c⟩ (λs C=>?_);have⟨t,H,d,u,v,y⟩:=C;unfold ND;rw[(AZ (x:=s.1+1))];refine AC (λi=>?_) (λ_=>Av.done ⟨⟨d.1,d.2.1,by have:=d.2.2.1;omega,d.2.2.2⟩,u,v⟩);simp[len]at i;refine AA ((QW o h.sa t).and (zA h t)) λE b=>?_;refine AA ((QY b.1 o! d).and (zC h b.1 o! d b.2 u)) λF g=>?_;obtain⟨z,A,M,m,G,n⟩:=g;refine Av.next ⟨d!,d!,by dsimp only;rw[show 256*(s.1+1)=256*s.1+256 by omega];exact z,A,λa=>?_,λq c=>?_⟩ d!
 dsimp only;rw[m,II,Ad];by_cases e:x.1[s.1.toNat]? =some a;have:s.2.1.filter (λq=>q.2.2.1==a)=[]:=List.filter_eq_nil_iff.2 λq c j=>by obtain⟨k,k1,f⟩:=y q c;rw[eq_of_beq j]at f;have:=h.vb.1.inj f e;omega
 rw[this,Bs];have:=IL (λq=>q.2.2.1==a) M;omega;have:M.filter (λq=>q.2.2.1==a)=[]:=List.filter_eq_nil_iff.2 λq c j=>e (by rw[<-eq_of_beq j];exact(b.2.2 q (n q c)).1);rw[this,Bs];have:=v a;omega;dsimp only at c;rw[m]at c;rcases An.1 c with w|w;obtain⟨k,k1,f⟩:=y q w;exact⟨k,d!,f⟩;exact⟨s.1.toNat,d!,(b.2.2 q (n q w)).1⟩
def za{L:List EN}{x:List AP×List Bool}{k:Nat}{z t:AP}{F T lo hi lv:Int}{b:List EN}(i:Uq L)(m:x.1[k]? =some t)(f: ∀e∈t.2.2.2.2.2,e∈L)(n:t.2.2.2.2.2.length≤4096)(l: ∀e∈b,e∈L)(q:b.length≤1000000){o:AP}:
  Av (Af (HF x ((k:Int),(o,z))) (0,(F,(T,(lo,(hi,(lv,b))))))) λr=> ∃a:List EN,r=(F,(T,(lo,(hi,(lv,a)))))/\a.length<=b.length+4096/\ ∀y,y∈a↔y∈b\/y∈t.2.2.2.2.2:=by
 refine Dg (λ(s:Int×AP)=> ∃(j:Nat) (a:List EN),s=((j:Int),(F,(T,(lo,(hi,(lv,a))))))/\j<=t.2.2.2.2.2.length/\a.length<=b.length+j/\ ∀y,y∈a↔y∈b\/y∈t.2.2.2.2.2.take j) (λs=>t.2.2.2.2.2.length-s.1.toNat)
  ⟨0,b,rfl,B8 _,o!,λy=>k!⟩ ?_
 rintro s ⟨j,a,rfl,A,B,p⟩;unfold HF;rw[(by unfold ix;rw[if_pos o!,Int.toNat_natCast,m]:ix x.1 (k:Int)=some t),Option.bind_some];simp only[len];refine AC (λd=>?_) (λd=>Av.done ⟨a,rfl,o!,q!⟩);rw[AE];refine AA (AI o! d) λv g=>?_;have c:=g.1;rw[Dk]at c;refine AA (kg i (λe h=>((p e).1 h).elim (l e) λh=>f e (Fh h)) (f v g.2) o!) λw u=>?_;rw[AZ];refine Av.next ⟨j+1,w.1,q!,o!,o!,λy=>?_⟩ o!
 grind[List.take_add_one,Option.toList_some,List.mem_singleton]
def rU(x:List AP×List Bool)(lo hi:Int)(k:Nat):Prop:=x.2[k]? =some true/\ ∃r,x.1[k]? =some r/\r.2.2.1=lo/\r.2.2.2.1=hi/\(0<k-> ∀p,x.1[k-1]? =some p->r.1=p.2.1+1)
def AC2{L:List EN}{x:List AP×List Bool}{a l:AP}(hL:Uq L)(h: ∀(k:Nat) (r:AP),x.1[k]? =some r→x.2[k]? =some true→VR r∧ ∀e∈r.2.2.2.2.2,e∈L)(h1:1≤x.1.length∧x.1.length≤8)(h2:x.2.length=x.1.length)(V:x.1[0]? =some a)(W:x.1[x.1.length-1]? =some l):
  Av (Lc x) λr=>r.2=true->VR r.1/\ ∃(d:Int) (b:List EN),r.1=(a.1,(l.2.1,(a.2.2.1,(a.2.2.2.1,(d,b)))))/\(∀k,k<x.1.length->rU x a.2.2.1 a.2.2.2.1 k)/\ ∀y,y∈b↔ ∃(k:Nat) (r:AP),x.1[k]? =some r/\y∈r.2.2.2.2.2:=by
 have G:ix x.1 0=some a:=by unfold ix;rw[if_pos o!];exact V
 have R:ix x.1 (wi (len x.1-1))=some l:=by rw[AZ (x:=len x.1-1) (by simp[len];omega)];unfold ix;simp only[len];rw[if_pos o!,show((x.1.length:Int)-1).toNat=x.1.length-1 by omega,W]
 unfold Lc;rw[G,R,AE,AE,AE,AE,AE];generalize wi (a.2.2.2.2.1+1)=d;refine AA (P:=λr=>(∃u,r= .inl u/\u.1=false)\/ ∃z b,r= .inr ((a.1,(l.2.1,(a.2.2.1,(a.2.2.2.1,(d,b))))),z)/\(∀k,k<x.1.length->rU x a.2.2.1 a.2.2.2.1 k)/\ ∀y,y∈b↔ ∃(k:Nat) (r:AP),x.1[k]? =some r/\y∈r.2.2.2.2.2) ?_ λr hr=>?_
 ·refine Dg (λ(s:Int×AP×AP)=> ∃(k:Nat) (z:AP) (b:List EN),s=((k:Int),((a.1,(l.2.1,(a.2.2.1,(a.2.2.2.1,(d,b))))),z))/\k<=x.1.length/\b.length<=4096*k/\(∀j,j<k->rU x a.2.2.1 a.2.2.2.1 j)/\ ∀y,y∈b↔ ∃(j:Nat) (r:AP),j<k/\x.1[j]? =some r/\y∈r.2.2.2.2.2) (λs=>x.1.length-s.1.toNat)
   ⟨0,_,[],rfl,B8 _,B8 _,λj H=>absurd H o!,λy=>⟨λhy=>by simp at hy,λ⟨j,r,H,_⟩=>absurd H o!⟩⟩ ?_
  rintro s ⟨k,z,b,rfl,i2,i3,X,Y⟩;unfold R2;dsimp only;simp only[len];refine AC (λhc=>?_) (λhc=>Av.done (.inr ⟨z,b,rfl,λj H=>X j o!,λy=>?_⟩))
  ·have hk:k<x.1.length:=o!
   have c:x.1[k]? =some x.1[k]:=At hk;generalize x.1[k]=t at c;have i:x.2[k]? =some (x.2[k]' o!):=At o!;generalize x.2[k]' o!=bb at i;have U:ix x.1 (k:Int)=some t:=by unfold ix;rw[if_pos o!,Int.toNat_natCast,c]
   have Q:ix x.2 (k:Int)=some bb:=by unfold ix;rw[if_pos o!,Int.toNat_natCast,i]
   rw[Q,AE];refine AO (λ_=>Av.done (.inl ⟨_,rfl,rfl⟩)) (λO=>?_);rw[O]at i;have⟨tv,tm⟩:=h k t c i;rw[U,AE,G,AE];refine AL (λ_=>Av.done (.inl ⟨_,rfl,rfl⟩)) (λq1=>?_);rw[AE,AE];refine AL (λ_=>Av.done (.inl ⟨_,rfl,rfl⟩)) (λq2=>?_);rw[AE,AE];refine AL (λ_=>Av.done (.inl ⟨_,rfl,rfl⟩)) (λq3=>?_);have E: ∀e∈b,e∈L:=λe he=>by have⟨j,r,B,m,v⟩:=(Y e).1 he;exact(h j r m (X j B).1).2 e v
   have J:=za (x:=x) (k:=k) (z:=z) (o:=(a.1,(l.2.1,(a.2.2.1,(a.2.2.2.1,(d,b)))))) (F:=a.1) (T:=l.2.1) (lo:=a.2.2.1) (hi:=a.2.2.2.1) (lv:=d) hL c tm tv.1.2.2.2.2.2.2.2.2 E o!
   have D:rU x a.2.2.1 a.2.2.2.1 k→ ∀f:List EN,f.length≤b.length+4096→(∀y,y∈f↔y∈b∨y∈t.2.2.2.2.2)→
     Av (some (Step.next (wi ((k:Int)+1),((a.1,(l.2.1,(a.2.2.1,(a.2.2.2.1,(d,f))))),z))):Option (Step (Int×AP×AP) ((Bool×AP)⊕ (AP×AP)))) (Sj (λ(s:Int×AP×AP)=> ∃(k:Nat) (z:AP) (b:List EN),s=((k:Int),((a.1,(l.2.1,(a.2.2.1,(a.2.2.2.1,(d,b))))),z))/\k<=x.1.length/\b.length<=4096*k/\(∀j,j<k->rU x a.2.2.1 a.2.2.2.1 j)/\ ∀y,y∈b↔ ∃(j:Nat) (r:AP),j<k/\x.1[j]? =some r/\y∈r.2.2.2.2.2) (λs=>x.1.length-s.1.toNat) (x.1.length-((k:Nat):Int).toNat)
      λr=>(∃u,r= .inl u/\u.1=false)\/ ∃z b,r= .inr ((a.1,(l.2.1,(a.2.2.1,(a.2.2.2.1,(d,b))))),z)/\(∀k,k<x.1.length->rU x a.2.2.1 a.2.2.2.1 k)/\ ∀y,y∈b↔ ∃(k:Nat) (r:AP),x.1[k]? =some r/\y∈r.2.2.2.2.2):=λhm f M C=>by
    rw[AZ];refine Av.next ⟨k+1,z,f,by rw[show(k:Int)+1=((k+1:Nat):Int) by omega],o!,o!,λj H=>?_,λy=>?_⟩ d!
    grind;rw[C,Y];constructor;rintro(⟨j,r,B,m,v⟩|g);exact⟨j,r,o!,m,v⟩;exact⟨k,t,o!,c,g⟩;rintro⟨j,r,B,m,v⟩;by_cases ao:j=k<;>grind
   apply AC<;>intro al
   ·have hp:k-1<x.1.length:=o!
    have q:x.1[k-1]? =some x.1[k-1]:=At hp;generalize x.1[k-1]=p at q;have S:ix x.1 (wi ((k:Int)-1))=some p:=by rw[AZ];unfold ix;rw[if_pos o!,show((k:Int)-1).toNat=k-1 by omega,q]
    rw[AE,S,AE];have A:=(h (k-1) p q (X (k-1) o!).1).1.1;have ad:=A.2.2.1;have ap:=A.1;have ar:=A.2.1;rw[AZ (x:=p.2.1+1)];refine AL (λ_=>Av.done (.inl ⟨_,rfl,rfl⟩)) (λq4=>AA J λZ w=>?_);obtain⟨f,rfl,M,C⟩:=w;refine D ⟨i,t,c,q1,q2,λ_ p' n=>?_⟩ f M C;rw[q]at n;injection n with n;rw[<-n];exact q4
   have K:Av (Af (HF x ((k:Int),((a.1,(l.2.1,(a.2.2.1,(a.2.2.2.1,(d,b))))),z))) (0,(a.1,(l.2.1,(a.2.2.1,(a.2.2.2.1,(d,b))))))) λr=> ∃f:List EN,r=(a.1,(l.2.1,(a.2.2.1,(a.2.2.2.1,(d,f)))))/\f.length<=b.length+4096/\ ∀y,y∈f↔y∈b\/y∈t.2.2.2.2.2:=J;refine AA K λZ w=>?_;obtain⟨f,rfl,M,C⟩:=w;exact D ⟨i,t,c,q1,q2,λh0=>absurd h0 o!⟩ f M C
  rw[Y];constructor;rintro⟨j,r,B,m,v⟩;exact⟨j,r,m,v⟩;rintro⟨j,r,m,v⟩;exact⟨j,r,by have:=DU m;omega,m,v⟩
 rcases hr with⟨u,rfl,hu⟩|⟨z,b,rfl,B,m⟩;exact BK (AB λI=>by dsimp only at I;rw[hu]at I;cases I);refine A5 (AA Wf λax N=>AB λI=>⟨N.1 I,d,b,rfl,B,m⟩)
def fA(a b:AK):Prop:= ∀lo n,AEI a lo n↔AEI b lo n
def s8{a:AK}(h:VB a){x y:NE}(c:x∈FU a)(d:y∈FU a)(b:x.2=y.2):x=y:=by grind[sy,List.pairwise_iff_getElem,List.mem_iff_getElem]
structure Grp(M:List NE)(lo hi:Int):Prop where
 same: ∀(k:Nat) (e:NE),M[k]? =some e->e.1.2.2.1=lo/\e.1.2.2.2.1=hi/\e.1.1<=e.1.2.1
 next: ∀(k:Nat) (e f:NE),M[k]? =some e->M[k+1]? =some f->f.1.1=e.1.2.1+1
def Grp.cover{M:List NE}{m l:Int}(h:Grp M m l){c:NE}(d:M[0]? =some c): ∀(k:Nat) (b:NE),M[k]? =some b->c.1.1<=b.1.1/\ ∀n:Int,c.1.1<=n->n<=b.1.2.1-> ∃j e,j<=k/\M[j]? =some e/\e.1.1<=n/\n<=e.1.2.1
 |0,b,a=>by rw[d]at a;injection a with a;subst a;exact⟨Ag _,λn g i=>⟨0,c,Ai _,d,g,i⟩⟩
 |k+1,b,a=>by
  have o:=DU a;have f:M[k]? =some (M[k]' o!):=At o!;have q:=Grp.cover h d k _ f;have hn:=h.next k _ _ f a
  have p:=(h.same k _ f).2.2;grind
def Grp.le{M:List NE}{g c:Int}(h:Grp M g c){k:Nat}{a:NE}(f:M[k]? =some a): ∀(d:Nat) (e:NE),M[k+d]? =some e->a.1.2.1<=e.1.2.1
 |0,e,he=>q!
 |d+1,e,he=>by
  have i:=DU he;have b:M[k+d]? =some (M[k+d]' o!):=At o!;have l:=Grp.le h f d _ b;have hn:=h.next (k+d) _ _ b he
  have j:=(h.same _ _ he).2.2;omega
def yx{c:Type}{l:List c}{a b:c}(d:a∈l)(e:b∈l)(h:a≠b):2<=l.length:=by cases l<;>grind
def kQ{b:Type}(p:b->Bool): ∀l:List b,(l.filter p).length+(l.filter λa=>!p a).length=l.length
 |[]=>rfl
 |a::r=>by have:=kQ p r;grind
def Yi(M:List NE)(l:List BJ):List BJ:=l.filter λf=>!(M.any λe=>e.2==f.2.1)
def iy{M:List NE}{l:List BJ}{f:BJ}:f∈Yi M l↔f∈l/\ ∀e∈M,e.2≠f.2.1:=by grind[Yi]
def vf{L:List EN}{a:AK}{M:List NE}{r q:Int}(h:AR L a)(c: ∀e∈M,e∈FU a)(l:Grp M r q)(w:2<=M.length):(Yi M a.2.2.1).length+2<=a.2.2.1.length:=by
 have d:M[0]? =some (M[0]' o!):=At o!;have k:M[1]? =some (M[1]' o!):=At o!;have n:=BM d;have o:=BM k;have i:(M[0]' o!).2≠(M[1]' o!).2:=λm=>by
  have j:=l.next 0 _ _ d k
  have:=(l.same 0 _ d).2.2;rw[<-(s8 h.vb (c _ n) (c _ o) m)]at j;omega
 have⟨f,s,_,t,_⟩:=h.mem (c _ n);have⟨g,u,_,v,_⟩:=h.mem (c _ o);have p:=kQ (λf:BJ=>!(M.any λe=>e.2==f.2.1)) a.2.2.1;have:2<=(a.2.2.1.filter λf=>!!(M.any λe=>e.2==f.2.1)).length:=by refine yx (a:=f) (b:=g) ?_ ?_ λm=>i q!;grind;grind
 unfold Yi;omega
def ABQ{L:List EN}{a:AK}{M:List NE}{m l:Int}{s:BY}(h:AR L a)(j: ∀e∈M,e∈FU a)(k:Grp M m l)(i:2<=M.length)(q:a.2.2.2.2<=1073741824):VB (a.1,(a.2.1,(Yi M a.2.2.1++[(1,(a.2.2.2.2,s))],(a.2.2.2.1,a.2.2.2.2+1)))):=by have p:=vf h j k i;have⟨b,c,d,f,n,o,g⟩:=h.vb;refine⟨b,c,d,q!,q!,q!,?_⟩;exact(g.sub (List.filter_sublist)).push f rfl rfl
def notM(M:List NE)(x:NE):Bool:= !(M.any λe=>e.2==x.2)
def rL{L:List EN}{a b:AK}{M:List NE}{r:AP}{lo t:Int}{I T:NE}(hL:Uq L)(h:AR L a)(J: ∀e∈M,e∈FU a)(V:Grp M lo t)(h2:2≤M.length)(h0:M[0]? =some I)(hn:M[M.length-1]? =some T)
  (hr:VR r) (r1:r.1=I.1.1) (r2:r.2.1=T.1.2.1) (O:r.2.2.1=lo) (r4:r.2.2.2.1=t) (r5: ∀y,y∈r.2.2.2.2.2↔ ∃e∈M,y∈e.1.2.2.2.2.2)
  (hb:b=(a.1,(a.2.1,(Yi M a.2.2.1++[(1,(a.2.2.2.2,PA r))],(a.2.2.2.1,a.2.2.2.2+1))))) (q:VB b):
  AR L b/\fA a b/\(AG a->AG b)/\ ∀c,RC a c->RC b c:=by
 have b1:b.1=a.1:=by rw[hb]
 have b2:b.2.1=a.2.1:=by rw[hb]
 have S:b.2.2.1=Yi M a.2.2.1++[(1,(a.2.2.2.2,PA r))]:=by rw[hb]
 have b4:b.2.2.2.1=a.2.2.2.1:=by rw[hb]
 have m0:=BM h0;have mn:=BM hn;have z: ∀n:Int,(r.1<=n/\n<=r.2.1)↔ ∃e∈M,e.1.1<=n/\n<=e.1.2.1:=λn=>by constructor;rintro⟨B,C⟩;obtain⟨j,e,_,q2,q3⟩:=(V.cover h0 _ T hn).2 n o! o!;exact⟨e,BM q2,q3⟩;rintro⟨e,i,B,C⟩;obtain⟨k,W⟩:=Fg.1 i;have q1:=(V.cover h0 k e W).1;have a2:=DU W;have q2:=V.le W (M.length-1-k) T (by rw[show k+(M.length-1-k)=M.length-1 by omega];exact hn);omega
 have Z: ∀e∈M,Z7 L e.1:=λe i=>by obtain⟨f,_,_,_,g,_⟩:=h.mem (J e i);exact g
 have p: ∀e∈M,e.1.2.2.1=lo/\e.1.2.2.2.1=t/\e.1.1<=e.1.2.1:=λe i=>by obtain⟨k,W⟩:=Fg.1 i;exact V.same k e W
 have ad:Z7 L r:=by refine hr.runOf hL λy=>?_;rw[r5,O,r4];constructor;rintro⟨e,i,N⟩;have g:=((Z e i).mem y).1 N;obtain⟨p1,p2,p3⟩:=p e i;have:=(z y.1).2 ⟨e,i,g.2.2.2.2⟩;exact⟨g.1,g.2.1,o!,o!,this.1,this.2⟩;rintro⟨B,C,P,g4,g5,g6⟩;obtain⟨e,i,q1,q2⟩:=(z y.1).1 ⟨g5,g6⟩;obtain⟨p1,p2,p3⟩:=p e i;exact⟨e,i,((Z e i).mem y).2 ⟨B,C,o!,o!,q1,q2⟩⟩
 have K:Kn a r.2.2.1 r.2.2.2.1:=by obtain⟨f,_,g,_⟩:=h.mem (J I m0);obtain⟨p1,p2,p3⟩:=p I m0;rw[O,r4,<-p1,<-p2];exact g.2.2.2
 have u:Good b (1,(a.2.2.2.2,PA r)) r:=⟨rfl,rfl,hr,(Kn.congr b1 b2).1 K⟩
 have v: ∀{f:BJ} {s:AP},Good a f s->Good b f s:=λg=>g.congr b1 b2;have l: ∀x∈FU b,(x∈FU a/\ ∀e∈M,e.2≠x.2)\/x=(r,a.2.2.2.2):=λx w=>by unfold FU at w;rw[S]at w;obtain⟨f,d,t⟩:=P0.1 w;rcases An.1 d with d|d;obtain⟨f1,f2⟩:=iy.1 d;rcases h.files f f1 with U|⟨s,s1,s2,s3⟩;rw[U.intR q.1]at t;cases t;rw[(v s1).intR q.1]at t;injection t with t;subst t;exact .inl ⟨TU h.vb.1 f1 s1,f2⟩;rw[BA]at d;subst d;rw[u.intR q.1]at t;injection t with t;exact .inr t.symm
 have ar: ∀x∈FU a,(∀e∈M,e.2≠x.2)->x∈FU b:=λx w Q=>by
  obtain⟨f,f1,f2,f3,_⟩:=h.mem w;have:f∈b.2.2.1:=by rw[S];exact An.2 (.inl (iy.2 ⟨f1,λe i=>f3▸Q e i⟩))
  have:=TU q.1 this (v f2);rw[<-f3]at this;exact this
 have Y:(r,a.2.2.2.2)∈FU b:=TU q.1 (by rw[S];exact An.2 (.inr (BA.2 rfl))) u;have al: ∀x∈FU a,x.1.1<=x.1.2.1:=λx w=>by obtain⟨f,_,g,_⟩:=h.mem w;exact g.2.2.1.1.2.1
 have a0:r.1<=r.2.1:=hr.1.2.1;have A: ∀y∈FU a,(∀e∈M,e.2≠y.2)->y.1.2.2.1=lo->r.2.1<y.1.1\/y.1.2.1<r.1:=λy N Q o=>by refine Sn λF=>?_;have a4:=al y N;obtain⟨e,i,q1,q2⟩:=(z (if y.1.1<=r.1 then r.1 else y.1.1)).1 (by split<;>omega);have D:e≠y:=λF=>Q e i (by rw[F]);have:=h.dis e (J e i) y N D ((p e i).1.trans o.symm);split at q1<;>split at q2<;>omega
 refine⟨⟨q,λf d=>?_,λx w y N D o=>?_⟩,λm n=>?_,λao f d=>?_,λc hc m=>?_⟩;rw[S]at d;rw[b4];rcases An.1 d with d|d;exact(h.files f (iy.1 d).1).imp id λ⟨s,s1,s2,s3⟩=>⟨s,v s1,s2,s3⟩
 rw[BA]at d;subst d;obtain⟨f,_,_,_,_,g⟩:=h.mem (J T mn);exact .inr ⟨r,u,ad,o!⟩;rcases l x w with⟨R,x2⟩|rfl;rcases l y N with⟨y1,y2⟩|rfl;exact h.dis x R y y1 D o;have:=A x R x2 (o.trans O);exact this.symm;rcases l y N with⟨y1,y2⟩|rfl;exact A y y1 y2 (o.symm.trans O);exact absurd rfl D;constructor;rintro⟨e,i,B,C,P⟩;by_cases Q: ∃f∈M,f.2=e.2;obtain⟨f,d,ap⟩:=Q;have:=s8 h.vb (J f d) i ap;subst this;have hc:=(z n).2 ⟨f,d,C,P⟩;exact⟨_,Y,by rw[<-B,(p f d).1];exact O,hc.1,hc.2⟩;exact⟨e,ar e i λf d F=>Q ⟨f,d,F⟩,B,C,P⟩;rintro⟨e,i,B,C,P⟩;rcases l e i with⟨q1,q2⟩|rfl;exact⟨e,q1,B,C,P⟩;obtain⟨f,d,q1,q2⟩:=(z n).1 ⟨C,P⟩;exact⟨f,J f d,by rw[(p f d).1,<-B];exact O.symm,q1,q2⟩;rw[S]at d;rcases An.1 d with d|d;obtain⟨s,hs⟩:=ao f (iy.1 d).1;exact⟨s,v hs⟩;rw[BA]at d;subst d;exact⟨r,u⟩
 ·have X:=(Yq q).filter λe=>e.1.2.2.1==m;have a1:=hc m;by_cases hl:m=lo
  ·subst hl;have H:=mH _ ((r,a.2.2.2.2)::((FU a).filter λe=>e.1.2.2.1==m).filter (notM M)) X λx w=>by obtain⟨x0,E⟩:=Bc.1 w;rcases l x x0 with⟨R,x2⟩|rfl;refine A3.2 (.inr (Bc.2 ⟨Bc.2 ⟨R,E⟩,?_⟩));unfold notM;simp only[Wg,List.any_eq_false,beq_iff_eq];exact x2;exact A3.2 (.inl rfl)
   have a3:=kQ (notM M) ((FU a).filter λe=>e.1.2.2.1==m);have h1:M[1]? =some (M[1]' o!):=At o!;have m1:=BM h1;have a5:2<=(((FU a).filter λe=>e.1.2.2.1==m).filter λx=>!notM M x).length:=by
    have G: ∀e∈M,e∈((FU a).filter λe=>e.1.2.2.1==m).filter λx=>!notM M x:=λe i=>by refine Bc.2 ⟨Bc.2 ⟨J e i,by rw[(p e i).1];exact beq_self_eq_true _⟩,?_⟩;unfold notM;rw[Bool.not_not];exact mV.2 ⟨e,i,beq_self_eq_true _⟩
    refine yx (G I m0) (G _ m1) λF=>?_;have ax:=V.next 0 I _ h0 h1
    have:=(p I m0).2.2;rw[<-F]at ax;omega
   rw[By]at H;omega
  have H:=mH _ ((FU a).filter λe=>e.1.2.2.1==m) X λx w=>by obtain⟨x0,E⟩:=Bc.1 w;rcases l x x0 with⟨R,x2⟩|rfl;exact Bc.2 ⟨R,E⟩;exact absurd (eq_of_beq E) λF=>hl (F.symm.trans O)
  omega
def UV(v1:List AP×List Int×List Bool)(i n:Nat):List NE:=((v1.1.zip v1.2.1).drop i).take n
def tu{a:List AP×List Int×List Bool}{i n k:Nat}{e:NE}(b:k<n):(UV a i n)[k]? =some e↔a.1[i+k]? =some e.1/\a.2.1[i+k]? =some e.2:=by grind[UV]
def ACQ{x:AK×Int}{a:List AP×List Int×List Bool}{i n j:Nat}{f:BJ}{z:AK}{w:List BJ×List Int×Int×Int×Int}(hn:x.2=n)(o:n<=8)(t:a.2.1.length=a.1.length)(p:i+n<=a.1.length)(m:a.1.length<=4096)(h:x.1.2.2.1[j]? =some f):Av (Af (OA x a ((i:Int),z) ((j:Int),w)) (false,(i:Int))) λr=>r=(UV a i n).any λe=>e.2==f.2.1:=by
 have l:(UV a i n).length=n:=by grind[UV,List.length_take,List.length_drop,List.length_zip]
 refine Dg (λ(s:Bool×Int)=> ∃k:Nat,s=(((UV a i n).take k).any (λe=>e.2==f.2.1),((i+k:Nat):Int))/\k<=n) (λs=>i+n-s.2.toNat) ⟨0,k!,B8 _⟩ ?_;rintro s ⟨k,rfl,q⟩;unfold OA;dsimp only;rw[hn,AZ (x:=(i:Int)+(n:Int)),AZ (x:=((i+k:Nat):Int)+1)];refine AC (λg=>?_) (λg=>Av.done q!);have b:k<n:=o!
 have d:a.2.1[i+k]? =some (a.2.1[i+k]' o!):=At o!;refine AJ (λc=>Av.next ⟨k+1,?_,b⟩ q!) (λc=>?_);grind
 ·rw[(by unfold ix;rw[if_pos o!,Int.toNat_natCast,d]:ix a.2.1 ((i+k:Nat):Int)=some (a.2.1[i+k]' o!)),Option.bind_some,(by unfold ix;rw[if_pos o!,Int.toNat_natCast,h]:ix x.1.2.2.1 (j:Int)=some f),Option.bind_some];refine Av.next ⟨k+1,?_,b⟩ o!
  rw[(by rw[Dt,((tu (e:=(a.1[i+k]' o!,a.2.1[i+k]' o!)) b).2 ⟨(At o!),d⟩)];rfl:(UV a i n).take (k+1)=(UV a i n).take k++[(a.1[i+k]' o!,a.2.1[i+k]' o!)]),List.any_append,c,Bool.false_or];refine Dj ?_ q!;dsimp only;rw[List.any_cons,List.any_nil,Bool.or_false]
def ACP{x:AK×Int}{a:List AP×List Int×List Bool}{i n:Nat}{z:AK}(hn:x.2=n)(g:n<=8)(o:a.2.1.length=a.1.length)(l:i+n<=a.1.length)(f:a.1.length<=4096)(u:x.1.2.2.1.length<=256):Av (Af (N9 x a ((i:Int),z)) (0,([],(x.1.1,(x.1.2.1,x.1.2.2.2))))) λr=>r=(Yi (UV a i n) x.1.2.2.1,(x.1.1,(x.1.2.1,x.1.2.2.2))):=by
 refine Dg (λ(q:Int×List BJ×List Int×Int×Int×Int)=> ∃j:Nat,q=((j:Int),(Yi (UV a i n) (x.1.2.2.1.take j),(x.1.1,(x.1.2.1,x.1.2.2.2))))/\j<=x.1.2.2.1.length) (λq=>x.1.2.2.1.length-q.1.toNat) ⟨0,rfl,B8 _⟩ ?_;rintro q ⟨j,rfl,v⟩;unfold N9;simp only[len];rw[AZ];refine AC (λk=>?_) (λk=>Av.done q!);have d:x.1.2.2.1[j]? =some (x.1.2.2.1[j]' o!):=At o!;have m:ix x.1.2.2.1 (j:Int)=some (x.1.2.2.1[j]' o!):=by unfold ix;rw[if_pos o!,Int.toNat_natCast,d]
 refine AA (ACQ hn g o l f d) λc e=>?_;have p:Yi (UV a i n) (x.1.2.2.1.take (j+1))=Yi (UV a i n) (x.1.2.2.1.take j)++(if c=true then []else [x.1.2.2.1[j]' o!]):=by grind[List.take_add_one,Option.toList_some,Yi]
 refine AA (P:=λt=>t=(Yi (UV a i n) (x.1.2.2.1.take (j+1)),(x.1.1,(x.1.2.1,x.1.2.2.2)))) ?_ λs b=>?_;refine AO (λh=>?_) (λh=>AB ?_);grind[Yi,UV,Nat.le_trans,List.length_filter_le,List.length_take,AA,Ac,AB];grind
 ·rw[b];exact Av.next ⟨j+1,q!,o!⟩ q!
def ADx(L:List EN)(x:AK×Int)(r:AK×Bool×Int):Prop:=
 (x.1.2.2.2.2<=1073741824->r.2.2=0)/\(r.2.2=0->(r.2.1=false/\r.1=x.1)\/(r.2.1=true/\AR L r.1/\fA x.1 r.1/\(AG x.1->AG r.1)/\(∀c,RC x.1 c->RC r.1 c)/\r.1.1=x.1.1/\r.1.2.1=x.1.2.1/\r.1.2.2.2.1=x.1.2.2.2.1/\r.1.2.2.2.2=x.1.2.2.2.2+1/\r.1.2.2.1.length+1<=x.1.2.2.1.length/\x.1.2.2.2.2<=1073741824))
theorem AEQ{L:List EN}{x:AK×Int}(hL:Uq L)(h:AR L x.1)(hf:2<=x.2/\x.2<=8):Av (MX x) (ADx L x):=by
 have hs:=h.sa;have⟨n,hn⟩:=FF (show 0<=x.2 by omega);have p:x.1.2.2.1.length<=256:=by have:=h.vb.2.2.2.2.2.1;omega
 have al:=h.vb.2.2.2.1;unfold MX;have⟨v0,U,V⟩:=YT (x:=x.1);have X:=V.2 h.vb;subst X;rw[U,AE,C3,cond_false,decide_eq_false (by omega),cond_false,decide_eq_false (by omega),cond_false];refine AA (AAV h) λa o=>?_;have⟨⟨t1,t2,t3,t4⟩,hw⟩:=o;have q: ∀e∈FU x.1,VR e.1/\ ∀y∈e.1.2.2.2.2.2,y∈L:=λe t=>by have⟨f,_,g,_,g2,_⟩:=h.mem t;exact⟨g.2.2.1,λy hy=>((g2.mem y).1 hy).1⟩
 refine AA (P:=λr=>(∃z,r= .inr z)\/ ∃u,r= .inl u/\ADx L x (u.2.2,(u.1,u.2.1))) ?_ λr hr=>?_
 ·refine Dg (λ(s:Int×AK)=>0<=s.1/\s.1<=a.1.length) (λ(s:Int×AK)=>((a.1.length:Int)-s.1).toNat) ⟨Ag _,by dsimp only;omega⟩ (λs hI=>?_);have⟨i',z⟩:=s;have⟨D,i2⟩:=hI;dsimp only at D i2;obtain⟨i,rfl⟩:=FF D;unfold TL;dsimp only;rw[AZ (x:=(i:Int)+1) (by omega),AZ (x:=(i:Int)+x.2) (by omega)];refine AC (λhc=>?_) (λ_=>Av.done (.inl ⟨_,rfl⟩));simp[len]at hc;refine AA (B5 D (by omega) (by omega)) λd h3=>?_;refine AA (B5 D (by omega) (by omega)) λZ h4=>?_;have l3:=h3.2;have l4:=h4.2;have l: ∀k,k<n->d[k]? =a.1[i+k]? :=λk c=>by grind[Int.toNat_natCast]
  have F: ∀k,k<n->Z[k]? =a.2.2[i+k]? :=λk c=>by grind[Int.toNat_natCast]
  have w: ∀{k:Nat} {r:AP},d[k]? =some r->k<n:=λ{k r} c=>by have:=DU c;omega
  have whole: ∀(k:Nat) (r:AP),d[k]? =some r->Z[k]? =some true-> ∃id,a.2.1[i+k]? =some id/\(r,id)∈FU x.1:=λk r o h2=>by have c:=w o;rw[l k c]at o;rw[F k c]at h2;have ap:=DU o;have j:a.2.1[i+k]? =some (a.2.1[i+k]'(by omega)):=At (by omega);refine⟨_,j,?_⟩;refine hw ((r,a.2.1[i+k]'(by omega)),true) ?_ rfl;refine Fg.2 ⟨i+k,?_⟩;rw[r9,r9];exact⟨⟨o,j⟩,h2⟩
  have S:d.length=n:=by omega
  have I:d[0]? =some (d[0]'(by omega)):=At (by omega);have J:d[d.length-1]? =some (d[d.length-1]'(by omega)):=At (by omega);generalize d[0]'(by omega)=r0 at I;generalize d[d.length-1]'(by omega)=rn at J;refine AA (AC2 (x:=(d,Z)) hL (λk r q1 q2=>?_) ⟨by dsimp only;omega,by dsimp only;omega⟩ (by dsimp only;omega) I J) λv5 h5=>?_;have⟨id,_,q3⟩:=whole k r q1 q2;exact q _ q3;refine AO (λ_=>Av.next ⟨by dsimp only;omega,by dsimp only;omega⟩ (by dsimp only;omega)) (λT=>?_);have⟨w1,lv,es,B,E,w4⟩:=h5 T;dsimp only at E w4;refine AC (λad=>Av.done (.inr ⟨_,rfl,λhh=>absurd hh (by omega),λhz=>absurd (show(21:Int)=0 from hz) (by decide)⟩)) (λar=>?_);have hi:i+n<=a.1.length:=by omega
  have Q:(UV a i n).length=n:=by unfold UV;rw[List.length_take,List.length_drop,List.length_zip];omega
  have b: ∀(k:Nat) (e:NE),(UV a i n)[k]? =some e->k<n/\d[k]? =some e.1/\a.2.1[i+k]? =some e.2:=λk e c=>by
   have m:k<n:=by grind
   have:=(tu m).1 c;exact⟨m,by rw[l k m];exact this.1,this.2⟩
  have C: ∀e∈UV a i n,e∈FU x.1:=λe t=>by have⟨k,c⟩:=Fg.1 t;have⟨k1,v,Y⟩:=b k e c;have⟨q1,_⟩:=E k (by omega);have⟨id,q2,q3⟩:=whole k e.1 v q1;rw[Y]at q2;injection q2 with q2;rw[<-q2]at q3;exact q3
  have N:Grp (UV a i n) r0.2.2.1 r0.2.2.2.1:=by refine⟨λk e c=>?_,λk e f c hf=>?_⟩;have⟨k1,v,Y⟩:=b k e c;have⟨_,r,q1,q2,q3,_⟩:=E k (by omega);dsimp only at q1;rw[v]at q1;cases q1;exact⟨q2,q3,(q e (C e (BM c))).1.1.2.1⟩;have⟨k1,v,Y⟩:=b k e c;have⟨f1,f2,f3⟩:=b (k+1) f hf;have⟨_,r,q1,_,_,q2⟩:=E (k+1) (by omega);dsimp only at q1 q2;rw[f2]at q1;cases q1;exact q2 (by omega) e.1 (by rw[jy];exact v)
  have G:(UV a i n)[0]? =some ((UV a i n)[0]'(by omega)):=At (by omega);have H:(UV a i n)[(UV a i n).length-1]? =some ((UV a i n)[(UV a i n).length-1]'(by omega)):=At (by omega);generalize (UV a i n)[0]'(by omega)=m0 at G;generalize (UV a i n)[(UV a i n).length-1]'(by omega)=mn at H;have O:m0.1=r0:=by have:=(b 0 m0 G).2.1;rw[I]at this;exact(Bg this).symm
  have R:mn.1=rn:=by have:=(b _ mn H).2.1;rw[Q,<-S,J]at this;exact(Bg this).symm
  refine AA (ACP hn (by omega) t1 hi (by omega) p) λax K=>?_;subst K;rw[nX w1,AE];dsimp only;have ao:=vf h C N (by omega);refine AA (Ac (by simp;omega)) λa0 M=>?_;rw[AZ (x:=x.1.2.2.2.2+1) (by omega),M.1];have W:=ABQ (s:=PA v5.1) h C N (by omega) (by omega);have key:=rL (r:=v5.1) hL h C N (by omega) G H w1 (by rw[B,O]) (by rw[B,R]) (by rw[B]) (by rw[B]) (λy=>by rw[B];dsimp only;rw[w4];constructor;rintro⟨k,r,q1,q2⟩;have c:=w q1;have A:=q1;rw[l k c]at A;have j:a.2.1[i+k]? =some (a.2.1[i+k]'(by omega)):=At (by omega);exact⟨(r,_),BM ((tu (e:=(r,a.2.1[i+k]'(by omega))) c).2 ⟨A,j⟩),q2⟩;rintro⟨e,t,q2⟩;have⟨k,c⟩:=Fg.1 t;exact⟨k,e.1,(b k e c).2.1,q2⟩) rfl W;refine Av.done (.inr ⟨_,rfl,λ_=>rfl,λ_=>.inr ⟨rfl,key.1,key.2.1,key.2.2.1,key.2.2.2,rfl,rfl,rfl,rfl,?_,by omega⟩⟩);dsimp only;rw[Ad,By,Bs];omega
 rcases hr with⟨z,rfl⟩|⟨u,rfl,hu⟩;exact A5 (AB ⟨λ_=>rfl,λ_=>.inl ⟨rfl,rfl⟩⟩);exact BK (AB hu)
def fA.refl(a:AK):fA a a:=λ_ _=>Iff.rfl
def fA.trans{a b c:AK}(h:fA a b)(g:fA b c):fA a c:=λd n=>(h d n).trans (g d n)
def AEa{L:List EN}{x:AK×Int}{m:Int}(q:Uq L)(h:AR L x.1)(u:2<=x.2/\x.2<=8)(v:SF x.1 m)(w:m<=1073741824):Av (JZ x) λr=>r.2=0/\AR L r.1/\fA x.1 r.1/\(AG x.1->AG r.1)/\(∀c,RC x.1 c->RC r.1 c)/\SF r.1 m/\r.1.1=x.1.1/\r.1.2.1=x.1.2.1/\r.1.2.2.2.1=x.1.2.2.2.1:=by
 unfold JZ;refine AA (P:=λr=>r.1=0/\AR L r.2/\fA x.1 r.2/\(AG x.1->AG r.2)/\(∀c,RC x.1 c->RC r.2 c)/\SF r.2 m/\r.2.1=x.1.1/\r.2.2.1=x.1.2.1/\r.2.2.2.2.1=x.1.2.2.2.1) ?_ λr hr=>AB hr;refine Dg (λ(s:AK×AK)=>AR L s.1/\fA x.1 s.1/\(AG x.1->AG s.1)/\(∀c,RC x.1 c->RC s.1 c)/\SF s.1 m/\s.1.1=x.1.1/\s.1.2.1=x.1.2.1/\s.1.2.2.2.1=x.1.2.2.2.1) (λs=>s.1.2.2.1.length) ⟨h,fA.refl _,id,λ_=>id,v,rfl,rfl,rfl⟩ (λs p=>?_);obtain⟨e,f,l,n,g,i,j,k⟩:=p;unfold TM;refine AA (AEQ (x:=(s.1,x.2)) q e u) λC o=>?_;obtain⟨y,z⟩:=o;have b:s.1.2.2.2.2<=1073741824:=by unfold SF at g;omega
 have d:=y b;refine AL (λt=>absurd d t) (λ_=>?_);rcases z d with⟨q1,q2⟩|⟨q1,q2,q3,A,B,q4,q5,q6,q7,q8,q9⟩
 ·rw[q1,mQ,cond_true];exact Av.done ⟨rfl,e,f,l,n,g,i,j,k⟩
 ·rw[q1,C3,cond_false];dsimp only at q3 q4 q5 q6 q7 q8;exact Av.next ⟨q2,f.trans q3,λa=>A (l a),λc a=>B c (n c a),by unfold SF at*;dsimp only;omega,q4.trans i,q5.trans j,q6.trans k⟩ d!
def AEN{L:List EN}{x:Int×List Int}(h:BD x.1 x.2):Av (KC x) λr=>AR L r.1/\AG r.1/\RC r.1 0/\SF r.1 1/\r.1.2.1=x.1/\r.1.2.2.2.1=1:=by
 have a:Av (KC x) λr=>r.2=0->r.1.2.2.1=[]/\r.1.2.2.2.2=1:=by refine AA kB λo b=>AO (λj=>AB λm=>?_) (λ_=>?_);grind;have l:=h.2.2.2.1;grind[AA,Ac,AB]
 refine((AEO h).and a).mono λr hr=>?_;have⟨⟨b,c,d,g⟩,i⟩:=hr;refine⟨⟨c,λf a=>?_,λe k=>?_⟩,λf a=>?_,λn=>?_,?_,d,g⟩;grind;grind[FU];grind;grind[FU];unfold SF;grind
def AX(L:List EN)(n d m:Int)(a:AK):Prop:=AR L a/\AG a/\(∃c:Nat,RC a c/\100*(c:Int)<=m+99)/\SF a m/\a.2.1=n/\a.2.2.2.1<=d+1/\(Lf L->AF a)
def AX.step{n m:Int}{a:AK}{l:Ah}{c:Int}(p:D8 l)(h:AX l.2.1 n l.2.2 m a):Av (En (a,(l,c))) λr=>r.2=0->AX l.2.1 n l.2.2 (m+100) r.1:=by have⟨d,e,⟨k,j,o⟩,f,g,t,i⟩:=h;refine(ACS (x:=(a,(l,c))) d p f).mono λr hr q=>?_;have⟨q1,q2,s,q3,q4,q5,q6⟩:=hr q;exact⟨q1,q2 e,⟨k+1,s k j,o!⟩,by unfold SF at*;omega,q4.trans g,q!,λb=>q6 b (i b)⟩
def AX.mono{L:List EN}{n d m k:Int}{a:AK}(h:AX L n d m a)(o:m<=k):AX L n d k a:=by have⟨b,e,⟨c,i,j⟩,l,f,g⟩:=h;exact⟨b,e,⟨c,i,o!⟩,by unfold SF at*;omega,f,g⟩
def AX.tidy{L:List EN}{n d m:Int}{a:AK}{c:Int}(p:Uq L)(h:AX L n d m a)(u:m<=1073741824)(s:2<=c/\c<=8):Av (JZ (a,c)) λr=>AX L n d m r.1:=by have⟨g,i,⟨k,t,b⟩,j,l,z,o⟩:=h;refine(AEa (x:=(a,c)) p g s j u).mono λr hr=>?_;have⟨q0,q1,q2,q3,y,q4,q5,q6,q7⟩:=hr;exact⟨q1,q3 i,⟨k,y k t,b⟩,q4,q6.trans l,q!,λq f e n v w=>(q2 f n).1 (o q f (q5▸e) n v (q7▸w))⟩
theorem oz{b:Aa}{x:Int×Ah}(h:CX b)(C:1<=x.1/\x.1<=64)(e:D8 x.2):Av (KJ b x) λr=>CX r.2/\AX x.2.2.1 x.1 x.2.2.2 901 r.1:=by
 have T:=e.1;have U:=e.2.2.2.1;refine AA (y7 h C) λv0 m=>AA (AEN (L:=x.2.2.1) m.2) λI v=>?_;have⟨D,E,H,F,G,s5⟩:=v;have A:AX x.2.2.1 x.1 x.2.2.2 1 I.1:=⟨D,E,⟨0,H,by decide⟩,F,G,by omega,λ_ lo _ n n1 n2=>by omega⟩
 refine AA (Au m.1 (by decide)) λv2 w=>?_;have⟨t,u,S⟩:=w;refine AA (P:=λr=>CX r.1/\AX x.2.2.1 x.1 x.2.2.2 801 r.2) ?_ λK c=>AA (Au c.1 (by decide)) λM f=>AA (P:=λa=>AX x.2.2.1 x.1 x.2.2.2 901 a) (AJ (λ_=>AA (c.2.step e) λN g=>AA (P:=λa=>AX x.2.2.1 x.1 x.2.2.2 901 a) (AV (λk=>AB ((g k).mono (by decide))) (λ_=>AB (c.2.mono (by decide)))) λO i=>AB i) (λ_=>AB (c.2.mono (by decide)))) λQ j=>AB ⟨f.1,j⟩;refine Dg (λ(s:Int×Aa×AK)=>0<=s.1/\s.1<=8/\CX s.2.1/\AX x.2.2.1 x.1 x.2.2.2 (801-100*s.1) s.2.2) (λ(s:Int×Aa×AK)=>s.1.toNat) ⟨u,by grind,t,A.mono (by grind)⟩ (λs B=>?_);have⟨Y,Z,q,l⟩:=B;unfold Qx;rw[(AZ (x:=s.1-1) (by omega))];refine AC (λX=>AA (Au q (by decide)) λv4 y=>AA (l.step e) λv5 z=>AA (P:=λa=>AX x.2.2.1 x.1 x.2.2.2 (801-100*(s.1-1)) a) (AV (λk=>AB ((z k).mono (by omega))) (λ_=>AB (l.mono (by omega)))) λv6 o=>AA (Au y.1 (by decide)) λv7 p=>?_) (λ_=>Av.done ⟨q,l.mono (by omega)⟩);refine AA (P:=λr=>CX r.1/\AX x.2.2.1 x.1 x.2.2.2 (801-100*(s.1-1)) r.2) ?_ λJ d=>Av.next ⟨by grind,by grind,d.1,d.2⟩ (by grind)
 refine AJ (λ_=>AA (Au p.1 (by decide)) λR V=>?_) (λ_=>AB ⟨p.1,o⟩);rw[AZ (x:=2+R.1) (by omega)];refine AA (o.tidy e.uq (by omega) ⟨by omega,by omega⟩) λv9 W=>?_;grind[AA,AV,AB]
set_option maxHeartbeats 1000000
def AAU{n p:Int}{l:List Int}(h:BD n l):Av (Jb (l,p)) λr=>0<=r.1/\r.1<=l.length/\(∀(i:Nat) (v:Int),(i:Int)<r.1->l[i]? =some v->v<p)/\(∀(i:Nat) (v:Int),r.1<=(i:Int)->l[i]? =some v->p<=v)/\(r.2=true->l[r.1.toNat]? =some p)/\(r.2=false-> ∀v,l[r.1.toNat]? =some v->p<v):=by
 have t:=h.2.2.2.1;refine AA (P:=λ(r:Int)=>0<=r/\r<=l.length/\(∀(i:Nat) (v:Int),(i:Int)<r->l[i]? =some v->v<p)/\ ∀(i:Nat) (v:Int),r<=(i:Int)->l[i]? =some v->p<=v) ?_ λJ u=>?_
 ·refine Dg (λ(s:Int×Int)=>0<=s.1/\s.1<=s.2/\s.2<=l.length/\(∀(i:Nat) (v:Int),(i:Int)<s.1->l[i]? =some v->v<p)/\ ∀(i:Nat) (v:Int),s.2<=(i:Int)->l[i]? =some v->p<=v) (λ(s:Int×Int)=>(s.2-s.1).toNat) ⟨Ag _,q!,q!,λi v e=>q!,λi v e b=>q!⟩ (λs y=>?_);have⟨o,G,C,D,E⟩:=y;unfold Mb;rw[ABR o];refine AC (λa=>?_) (λa=>Av.done ?_)
  ·refine AA (AI o! q!) λF g=>?_;refine AA nB λH k=>?_;rw[(AZ (x:=(s.1+s.2)/2+1))];refine AA (P:=λ(q:Int×Int)=>(0<=q.1/\q.1<=q.2/\q.2<=(l.length:Int)/\(∀(i:Nat) (v:Int),(i:Int)<q.1->l[i]? =some v->v<p)/\ ∀(i:Nat) (v:Int),q.2<=(i:Int)->l[i]? =some v->p<=v)/\(q.2-q.1).toNat<(s.2-s.1).toNat) ?_ λI m=>Av.next m.1 m.2
   refine AJ (λB=>AB ⟨⟨q!,q!,C,λi v e b=>?_,E⟩,q!⟩) (λz=>AB ⟨⟨o,o!,o!,D,λi v e b=>?_⟩,o!⟩);have f:=k.1 B;have:=h.le (i:=i) (j:=((s.1+s.2)/2).toNat) o! b g.1;omega;have f: ¬F<p:=λq=>by have:=k.2 q;rw[z]at this;cases this
   have:=h.le (i:=((s.1+s.2)/2).toNat) (j:=i) o! g.1 b;omega
  grind
 have⟨a1,a2,a3,a4⟩:=u;refine AC (λa=>?_) (λa=>AB ⟨a1,a2,a3,a4,λc=>(by cases c),λ_ v b=>?_⟩);simp[len]at a;refine AA (AI a1 a) λK w=>?_;refine AV (λd=>AB ⟨a1,a2,a3,a4,λ_=>by dsimp only;rw[w.1,d],λc=>(by cases c)⟩) (λA=>?_);refine AA (AI a1 a) λL _=>?_;refine AJ (λc=>?_) (λ_=>AB ⟨a1,a2,a3,a4,λc=>(by cases c),λ_ v b=>?_⟩);grind;grind;grind
def pA(a:AK)(p lo hi:Int):Prop:= ∃i:Nat,a.1[i]? =some lo/\hi=rP a i/\lo<=p/\p<=hi
def AET{a:AK}{p:Int}(h:VB a)(z:0<=p/\p<a.2.1): ∃b d,HI (a,p)=some (b,(d,true))/\pA a p b d:=by
 have key:Av (HI (a,p)) λr=>r.2.2=true/\pA a p r.1 r.2.1:=by
  unfold HI;dsimp only;refine AA (Od h) λG m=>?_;rw[m,C3,cond_false,decide_eq_false o!,cond_false,decide_eq_false o!,cond_false];refine AA (AAU h.1) λc n=>?_;have⟨D,E,v,F,k,x⟩:=n;have q:=h.1.2.2.2.1;refine AA (P:=λl:Int=> ∃(i:Nat) (b:Int),l=i/\a.1[i]? =some b/\b<=p/\ ∀w,a.1[i+1]? =some w->p<w) ?_ λl s=>?_;refine AO (λt=>AB ?_) (λf=>AB ?_);have e:0<c.1:=by refine Sn λy=>?_;have:=x t 0 (by rw[show c.1.toNat=0 by omega];exact h.1.2.2.2.2.1);omega
  rw[AZ];refine⟨c.1.toNat-1,a.1[c.1.toNat-1],o!,At o!,?_,λw g=>?_⟩;have:=v (c.1.toNat-1) _ o! (At o!);omega;grind;refine⟨c.1.toNat,p,o!,(k f),Ag _,λw g=>?_⟩;exact h.1.lt 0 c.1.toNat p w (k f) g;obtain⟨i,b,rfl,j,u,A⟩:=s;rw[ut h.1 j,AE];refine AB ⟨rfl,i,j,rfl,u,?_⟩;grind[rP]
 have⟨⟨b,d,o⟩,k1,B,C⟩:=key;grind
def AFh(P:Int->Prop)(j fl:Int):Prop:=0<=fl/\fl<=j/\(∀n,fl<n->n<=j->P n)/\(fl=0\/ ¬P fl)
structure jd(L:List EN)(l:Ah):Prop where
 vl:D8 l
 sorted:L.Pairwise λx y=>x.1<y.1
 tail: ∀e,e∈l.2.1↔e∈L/\l.1<=e.1/\e.1<=l.1+l.2.1.length-1
 len:L.length<=4096
def AEK{B:Nat}{L:List EN}{a:AK}{l:Ah}{p i j:Int}(q:CP B)(D:B≤16777216)(v:j-i≤B)(t:0≤i)(F:i≤j)(E:j≤1099511627776)(h:AR L a)(w:jd L l)(y:0≤p∧p<a.2.1):
  ∃o t d,pA a p o t/\AFh (zQ a l o) j d/\Pk (a,(l,(p,(i,j))))=some (decide (d<=i))/\Av (MF (a,(l,(p,(i,j))))) λr=>(d>i/\r=([],42))\/(d<=i/\((Wo i (L.filter (Km p i j))/\r=(L.filter (Km p i j),0))\/(¬Wo i (L.filter (Km p i j))/\r=([],13)))):=by
 obtain⟨o,u,x,n⟩:=AET h.vb y;obtain⟨k,k1,G,H,I⟩:=id n;obtain⟨d,z,C,A⟩:=AEJ q D v t F E h.vb h.ds w.vl y x rfl w.sorted w.tail (λe s=>by
  obtain⟨f,_,_,_,g,_⟩:=h.mem s;exact g) h.dis (λe s m=>by
  obtain⟨f,_,g,_⟩:=h.mem s;have c:e.1.2.2.1=o:=m;have b:=g.2.2.2;rw[c]at b;have:=b.uniq h.vb.1 ⟨k,k1,G⟩;exact⟨H,o!⟩)
 exact⟨o,u,d,n,z,C,A⟩
def D8.sorted{l:Ah}(h:D8 l):l.2.1.Pairwise λx y=>x.1<y.1:=by have⟨l1,l2,a,b,c,d⟩:=h;rw[Hr];grind
def Vs{l:Ah}(h:D8 l):jd l.2.1 l:=⟨h,h.sorted,λe=>⟨λa=>⟨a,by have⟨k,b⟩:=Fg.1 a;have:=(h.2.2.2.2.2 k e b).1;have:=DU b;omega⟩,λa=>a.1⟩,h.2.2.1⟩
def tP{p i j:Int}{e:EN}:Km p i j e=(bC p e&&(decide (e.1>i)&&decide (e.1<=j))):=by unfold Km bC fZ;grind
def Wo.snoc{i:Int}{s:List EN}{e:EN}(h:Wo i s)(m:s=[]->e.2.2.2.2.1<=i)(n: ∀f,s[s.length-1]? =some f->e.2.2.2.2.1=f.1):Wo i (s++[e]):=by
 intro k g b;rcases Aq k s.length with d|d;rw[CK d]at b;refine⟨(h k g b).1,λf a c=>(h k g b).2 f a ?_⟩;grind;have o:=DU b;rw[Ad,aH]at o;have l:k=s.length:=o!
 subst l;have j:e=g:=q!
 subst j;refine⟨λp=>m (Eg p),λf a c=>n f ?_⟩;rwa [CK o!]at c
def sC{n p i j:Int}{L:List EN}(F:LI n L)(G:L.Pairwise λx y=>x.1<y.1)(H:0≤i): ∀m:Nat,m≤L.length→
  Wo i ((L.take m).filter (Km p i j))/\((∀f∈L.take m,f.1<=j)->((L.take m).filter (Km p i j)=[]->Bw (L.take m) p<=i)/\ ∀f,((L.take m).filter (Km p i j))[((L.take m).filter (Km p i j)).length-1]? =some f->Bw (L.take m) p=f.1)
 |0,_=>by rw[List.take_zero];exact⟨λk e E=>by simp at E,λ_=>⟨λ_=>H,λf a=>by simp at a⟩⟩
 |m+1,hm=>by
  obtain⟨C,D⟩:=sC (j:=j) F G H m o!;have d:m<L.length:=o!
  have B:L.take (m+1)=L.take m++[L[m]]:=by rw[Dt,At d];rfl
  have l: ∀f∈L.take m,f.1<L[m].1:=λf a=>by obtain⟨k,w⟩:=Eh a;have z:=DU w;rw[Ba]at z;rw[Kg o!,At o!]at w;rw[<-Bg w];exact Hr.1 G k m o! d o!
  have A:=F m _ (At d);rw[B,II];generalize I:L.take m=M at*;generalize L[m]=e at*;by_cases t:Km p i j e=true;have g:=t;rw[tP]at g;simp only[BP,decide_eq_true_eq]at g;obtain⟨s,K,N⟩:=g;have q:e.2.2.2.2.2.2.1.1=p/\(e.2.1=1\/e.2.1=2):=by unfold bC at s;simp only[BP,iN,beq_iff_eq]at s;exact⟨s.2,s.1⟩
  obtain⟨q1,q2⟩:=D λf a=>by have:=l f a;omega
  have b:=A.1 q.2;rw[q.1]at b;rw[rq t,iT];refine⟨C.snoc (λh=>by rw[b.1];exact q1 h) (λf a=>by rw[b.1];exact q2 f a),λ_=>⟨λh=>by simp at h,λf a=>?_⟩⟩;rw[O2,if_pos s];have:e=f:=by simpa using a
  rw[this];rw[rl t,iT,Dr];refine⟨C,λc=>?_⟩;have E:=c e k!;obtain⟨q1,q2⟩:=D λf a=>c f (HQ _ a);rw[O2];by_cases u:bC p e=true;have v:e.1<=i:=by refine Sn λJ=>t ?_;rw[tP,u];simp;omega
  have o:M.filter (Km p i j)=[]:=List.filter_eq_nil_iff.2 λf a r=>by rw[tP]at r;simp only[BP,decide_eq_true_eq]at r;have:=l f a;omega
  rw[if_pos u,o];exact⟨λ_=>v,λf a=>by simp at a⟩;rw[if_neg u];exact⟨q1,q2⟩
def zK{n p i j:Int}{L:List EN}(a:LI n L)(b:L.Pairwise λx y=>x.1<y.1)(c:0<=i):Wo i (L.filter (Km p i j)):=by have:=(sC (p:=p) (j:=j) a b c L.length (Ai _)).1;grind
def AEL{B:Nat}{n:Int}{L:List EN}{a:AK}{l:Ah}{p i j:Int}(e:CP B)(s:B≤16777216)(u:LI n L)(f:j-i≤B)(c:0≤i)(v:i≤j)(t:j≤1099511627776)(h:AR L a)(g:jd L l)(w:0≤p∧p<a.2.1):
  ∃d c b,pA a p d c/\AFh (zQ a l d) j b/\Pk (a,(l,(p,(i,j))))=some (decide (b<=i))/\((b>i/\MF (a,(l,(p,(i,j))))=some ([],42))\/(b<=i/\MF (a,(l,(p,(i,j))))=some (L.filter (Km p i j),0))):=by
 obtain⟨d,q,b,x,m,o,r,k,y⟩:=AEK e s f c v t h g w;refine⟨d,q,b,x,m,o,?_⟩;rcases y with⟨q1,q2⟩|⟨q1,⟨q2,q3⟩|⟨q2,q3⟩⟩;exact .inl ⟨q1,by rw[k,q2]⟩;exact .inr ⟨q1,by rw[k,q3]⟩;exact absurd (zK u g.sorted c) q2
def Src(L:List EN)(p:Int)(rs:List AP):Prop:=rs.length<=256/\ ∀r∈rs,VR r/\Z7 L r/\r.2.2.1<=p/\p<=r.2.2.2.1
def ADY{a:AK}{l:Ah}{p i j:Int}:Av (Pb (a,(l,(p,(i,j))))) λr=>r=0->0<=p/\p<a.2.1/\0<=i/\i<=j:=by refine AA Hh λk g=>AO (λ_=>AB n!) (λ_=>AA Bn λm h=>AO (λ_=>AB n!) (λ_=>?_));refine AC (λ_=>AB n!) (λc=>AC (λ_=>AB n!) (λd=>AC (λ_=>AB n!) (λe=>AC (λ_=>AB n!) (λf=>AB λ_=>?_))));dsimp only at c d e f;omega
def AES{a:AK}{p:Int}(h:VB a)(u:0<=p/\p<a.2.1):Av (QU (a,p)) λr=> ∃k:Nat,a.1[k]? =some r.1/\r.1<=p/\p<=rP a k:=by
 have n:=h.1.2.2.2.1;have y:=h.1.2.2.1;refine AA YT λB l=>AO (λc=>absurd (l.2 h) (by simp[c])) (λ_=>?_);dsimp only;rw[decide_eq_false o!,cond_false,decide_eq_false o!,cond_false];refine AA (P:=λk:Int=> ∃m:Nat,k=m/\ ∃b,a.1[m]? =some b/\b<=p/\p<=rP a m) ?_ λk t=>?_
 ·refine Dg (λ(s:Int)=>0<=s/\s<a.1.length/\ ∃b,a.1[s.toNat]? =some b/\b<=p) (λs=>((a.1.length:Int)-s).toNat) ⟨Ag _,o!,0,h.1.2.2.2.2.1,u.1⟩ (λs o=>?_);obtain⟨z,A,b,f,g⟩:=o;unfold TJ;dsimp only[len];rw[AZ];refine AC (λc=>AA (AI o! c) λv e=>?_) (λc=>Av.done ⟨s.toNat,o!,b,f,g,?_⟩)
  ·have j:(s+1).toNat=s.toNat+1:=o!
   refine AC (λd=>Av.next ⟨o!,o!,v,e.1,d⟩ o!) (λq=>Av.done ⟨s.toNat,o!,b,f,g,?_⟩);rw[j]at e;unfold rP;rw[e.1];dsimp only;omega
  unfold rP;rw[Cj o!];dsimp only;omega
 obtain⟨m,rfl,b,i,w,x⟩:=t;rw[kj h.1 i,AE];exact AB ⟨m,i,w,x⟩
def AB3{L:List EN}{a:AK}{l:Ah}{p:Int}(h:AR L a)(J:0<=p/\p<a.2.1):Av (NG (a,(l,p))) λr=>Src L p r.1/\r.2.2=l:=by
 refine AA (AES h.vb J) λm D=>AA (ACR h) λd E=>?_;obtain⟨k,k1,N,O⟩:=D;dsimp only at k1 N O;obtain⟨V,W,Q,R⟩:=E;refine AA (P:=λr=>r.1=d.1.filter (λq=>q.2.2.1==m.1)/\r.2.2=l) ?_ λr hr=>AB ⟨⟨by rw[hr.1];exact R _,λq x=>?_⟩,hr.2⟩
 ·refine Dg (λ(s:Int×List AP×List Int×Ah)=>0<=s.1/\s.1<=d.1.length/\s.2.1=(d.1.take s.1.toNat).filter (λq=>q.2.2.1==m.1)/\s.2.2.1.length<=s.1/\s.2.2.2=l) (λs=>((d.1.length:Int)-s.1).toNat) ⟨Ag _,d!,k!,k!,rfl⟩ ?_;rintro⟨s,A,B,z⟩ ⟨c,K,j,M,n⟩;dsimp only at c K j M n;unfold Ps;dsimp only[len];refine AC (λo=>?_) (λo=>Av.done ⟨by rw[j,BS o!],n⟩);refine AA (AI c o) λS w=>?_;have i:=bE (p:=λq:AP=>q.2.2.1==m.1) c w.1;have t:=gV (l:=d.1) (p:=λq:AP=>q.2.2.1==m.1) c;rw[<-j]at t;rw[AZ];refine AA (P:=λr=>r.1=(d.1.take (s+1).toNat).filter (λq=>q.2.2.1==m.1)/\r.2.1.length<=s+1/\r.2.2=l) ?_ λr hr=>Av.next ⟨d!,d!,hr.1,hr.2.1,hr.2.2⟩ d!
  refine AV (λI=>?_) (λv=>AB ⟨?_,d!,n⟩);refine AA (AI c o) λT F=>?_;have y:T=S:=by have:=F.1;rw[w.1]at this;exact(Bg this).symm
  refine AA (AI c) λX U=>AA (Ac w!) λY G=>AA (Ac w!) λZ H=>AB ⟨?_,?_,n⟩;dsimp only;rw[G.1,j,i,y,if_pos (beq_iff_eq.2 I)];have:=H.2.1;simp only[aH]at this;dsimp only;omega;dsimp only;rw[j,i,if_neg (by simpa using v),Dr]
 rw[hr.1]at x;obtain⟨q1,q2⟩:=Bc.1 x;obtain⟨id,u⟩:=Q q q1;obtain⟨f,_,g,_,C,_⟩:=h.mem u;have e:=eq_of_beq q2;have b:=g.2.2.2;dsimp only at b;rw[e]at b;have:=b.uniq h.vb.1 ⟨k,k1,rfl⟩;exact⟨g.2.2.1,C,o!⟩
def nm(rs:List AP)(l:Ah)(m:Int):Prop:=(∃r∈rs,r.1<=m/\m<=r.2.1)\/(l.1<=m/\m<=l.1+l.2.1.length-1)
def yU{l:Ah}{m:Int}(h:D8 l):Iu (l,m)=some (decide (l.1<=m/\m<=l.1+l.2.1.length-1)):=by have a:=h.1;have b:=h.2.1;have d:=h.2.2.1;unfold Iu;dsimp only[len];rw[AZ];by_cases c:l.1<=m;rw[decide_eq_true (show m>=l.1 from c),cond_true];exact congrArg some (decide_eq_decide.2 ⟨λ_=>⟨c,o!⟩,λ_=>o!⟩);rw[decide_eq_false (show¬m>=l.1 from c),cond_false,decide_eq_false (λq=>c q.1)]
theorem AEz{L:List EN}{p m:Int}{a:List AP}{r:List Int}{l:Ah}(h:Src L p a)(j:D8 l)(N:0<=m/\m<=2199023255552):Av (Qa ((a,(r,l)),m)) λv=>m-1<=v/\v<=2199023255552/\ ∀q,m<=q->q<=v->nm a l q:=by
 have J:=j.1;have K:=j.2.1;have M:=j.2.2.1;refine AA (P:=λv=>m-1<=v/\v<=2199023255552/\ ∀q,m<=q->q<=v->nm a l q) ?_ λQ C=>?_
 ·refine Dg (λ(s:Int×Int)=>0<=s.2/\s.2<=a.length/\m-1<=s.1/\s.1<=2199023255552/\ ∀q,m<=q->q<=s.1->nm a l q) (λs=>((a.length:Int)-s.2).toNat) ⟨Ag _,by dsimp only;omega,by dsimp only;rw[AZ (by omega)];omega,by dsimp only;rw[AZ (by omega)];omega,λq q1 q2=>by dsimp only at q2;rw[AZ (by omega)]at q2;omega⟩ ?_;rintro⟨b,k⟩ ⟨n,I,d,e,f⟩;dsimp only at n I d e f;have G:=h.1;unfold TN;dsimp only[len];refine AC (λo=>?_) (λ_=>Av.done ⟨d,e,f⟩);rw[AZ (x:=k+1) (by omega)];refine AA (AI n o) λu c=>?_;have hr:=(h.2 u c.2).1.1;refine AC (λF=>?_) (λ_=>Av.next ⟨by dsimp only;omega,by dsimp only;omega,d,e,f⟩ (by dsimp only;omega));refine AA (AI n o) λw g=>?_;have z:w=u:=by have:=g.1;rw[c.1]at this;exact(Bg this).symm
  subst z;refine AA (P:=λv=>m-1<=v/\v<=2199023255552/\ ∀q,m<=q->q<=v->nm a l q) ?_ λO B=>Av.next ⟨by dsimp only;omega,by dsimp only;omega,B⟩ (by dsimp only;omega)
  refine AC (λH=>AA (AI n o) λy i=>AB ?_) (λ_=>AB ⟨d,e,f⟩);have A:y=w:=by have:=i.1;rw[c.1]at this;exact(Bg this).symm
  subst A;have t:=hr.2.2.1;split;exact⟨by omega,by omega,λq q1 q2=>.inl ⟨y,c.2,by omega,q2⟩⟩;exact⟨d,e,f⟩
 rw[yU j,AE];dsimp only[len];obtain⟨c,g,i⟩:=C;refine AA (P:=λv=>m-1<=v/\v<=2199023255552/\ ∀q,m<=q->q<=v->nm a l q) ?_ λR D=>AB D;refine AC (λE=>AB ?_) (λ_=>AB ⟨c,g,i⟩);rw[AZ (x:=l.1+l.2.1.length) (by omega),AZ (by omega)];split;exact⟨by omega,by omega,λq q1 q2=>.inr ⟨by omega,by omega⟩⟩;exact⟨c,g,i⟩
theorem zR{L:List EN}{p i j:Int}{a:List AP}{d:List Int}{l:Ah}(h:Src L p a)(n:D8 l)(u:0<=i)(w:j<=1099511627776)(m:i<=j):Av (OB ((a,(d,l)),(i,j))) λb=>b=true-> ∀q,i<q->q<=j->nm a l q:=by
 refine AA (P:=λr=>(∃b,r= .inl b/\b=false)\/(r= .inr ()/\ ∀q,i<q->q<=j->nm a l q)) ?_ λr hr=>?_
 ·refine Dg (λ(s:Int)=>i<=s/\s<=2199023255552/\ ∀q,i<q->q<=s->nm a l q) (λs=>(j-s).toNat) ⟨Ag _,by dsimp only;omega,λq q1 q2=>by dsimp only at q2;omega⟩ (λs g=>?_);obtain⟨x,y,f⟩:=g;unfold QZ;dsimp only;refine AC (λk=>?_) (λk=>Av.done (.inr ⟨rfl,λq q1 q2=>f q q1 (by omega)⟩));rw[AZ (by omega)];refine AA (AEz h n ⟨by omega,by omega⟩) λv e=>AV (λ_=>Av.done (.inl ⟨_,rfl,rfl⟩)) (λo=>Av.next ⟨by omega,e.2.1,λq q1 q2=>?_⟩ (by omega));by_cases c:q<=s;exact f q q1 c;exact e.2.2 q (by omega) q2
 rcases hr with⟨b,rfl,rfl⟩|⟨rfl,c⟩;exact BK (AB λt=>by cases t);exact A5 (AB λ_=>c)
def ABz{r:AP}{p:Int}(h:VR r):Av (Oy (r,p)) λv=>v=r.2.2.2.2.2.filter λe=>e.2.2.2.2.2.2.1.1==p:=by
 have x:=h.1.2.2.2.2.2.2.2.2;refine AA Wf λy m=>AO (λa=>absurd (m.2 h) (by simp[a])) (λ_=>?_);refine AA (P:=λv=>v=r.2.2.2.2.2.filter λe=>e.2.2.2.2.2.2.1.1==p) ?_ λv i=>AB i;refine Dg (λ(s:Int×List EN)=>0<=s.1/\s.1<=r.2.2.2.2.2.length/\s.2=(r.2.2.2.2.2.take s.1.toNat).filter λe=>e.2.2.2.2.2.2.1.1==p) (λs=>((r.2.2.2.2.2.length:Int)-s.1).toNat) ⟨Ag _,d!,k!⟩ ?_;rintro⟨s,A⟩ ⟨c,t,d⟩;dsimp only at c t d;unfold RD;dsimp only[len];refine AC (λa=>?_) (λa=>Av.done (by rw[d,BS o!]));refine AA (AI c a) λu j=>?_;have b:=bE (p:=λe:EN=>e.2.2.2.2.2.2.1.1==p) c j.1;have f:=gV (l:=r.2.2.2.2.2) (p:=λe:EN=>e.2.2.2.2.2.2.1.1==p) c;rw[<-d]at f;rw[AZ];refine AA (P:=λv=>v=(r.2.2.2.2.2.take (s+1).toNat).filter λe=>e.2.2.2.2.2.2.1.1==p) ?_ λv i=>Av.next ⟨d!,d!,i⟩ d!
 refine AV (λq=>AA (AI c a) λw n=>AA (Ac w!) λz o=>AB ?_) (λg=>AB ?_);have k:w=u:=by have:=n.1;rw[j.1]at this;exact(Bg this).symm
 rw[o.1,d,b,k,if_pos (beq_iff_eq.2 q)];rw[d,b,if_neg (by simpa using g),Dr]
def wc{L:List EN}{p i j:Int}{c:List AP}(V:Uq L)(h:Src L p c):Av (NF (c,(p,(i,j)))) λr=>r.length<=1048576/\ ∀y,y∈r↔ ∃q∈c,y∈q.2.2.2.2.2/\y.2.2.2.2.2.2.1.1=p/\i<y.1/\y.1<=j:=by
 have W:=h.1;refine AA (P:=λr=>r.length<=1048576/\ ∀y,y∈r↔ ∃q∈c,y∈q.2.2.2.2.2/\y.2.2.2.2.2.2.1.1=p/\i<y.1/\y.1<=j) ?_ λr hr=>AB hr;refine Dg (λ(s:List EN×Int)=>0<=s.2/\s.2<=c.length/\s.1.length<=4096*s.2/\ ∀y,y∈s.1↔ ∃q∈c.take s.2.toNat,y∈q.2.2.2.2.2/\y.2.2.2.2.2.2.1.1=p/\i<y.1/\y.1<=j) (λs=>((c.length:Int)-s.2).toNat) ⟨Ag _,d!,k!,λy=>k!⟩ ?_;rintro⟨A,k⟩ ⟨M,X,Y,t⟩;dsimp only at M X Y t;unfold Pq;dsimp only[len];refine AC (λK=>?_) (λK=>Av.done ⟨o!,λy=>by rw[t y,BS o!]⟩);refine AA (AI M K) λv I=>?_;obtain⟨H,S,g3,g4⟩:=h.2 v I.2;have hl:=H.1.2.2.2.2.2.2.2.2;refine AA (ABz H) λa C=>?_;have G:=IL (λe:EN=>e.2.2.2.2.2.2.1.1==p) v.2.2.2.2.2;rw[<-C]at G;have D: ∀y∈A,y∈L:=λy f=>by obtain⟨q,q1,q2,_⟩:=(t y).1 f;exact(((h.2 q (Fh q1)).2.1.mem y).1 q2).1
 have g: ∀y∈a,y∈L:=λy f=>by rw[C]at f;exact((S.mem y).1 (Bc.1 f).1).1
 refine AA (P:=λr=>r.length<=A.length+a.length/\ ∀y,y∈r↔y∈A\/(y∈a/\i<y.1/\y.1<=j)) ?_ λr hr=>?_
 ·refine Dg (λ(s:List EN×Int)=>0<=s.2/\s.2<=a.length/\s.1.length<=A.length+s.2/\ ∀y,y∈s.1↔y∈A\/(y∈a.take s.2.toNat/\i<y.1/\y.1<=j)) (λs=>((a.length:Int)-s.2).toNat) ⟨Ag _,d!,d!,λy=>k!⟩ ?_;rintro⟨B,m⟩ ⟨u,Z,j2,l⟩;dsimp only at u Z j2 l;unfold Pr;dsimp only[len];refine AC (λb=>?_) (λb=>Av.done ⟨o!,λy=>by rw[l y,BS o!]⟩);refine AA (AI u b) λz o=>?_;rw[AZ (x:=m+1)];have n:a.take (m+1).toNat=a.take m.toNat++[z]:=by rw[show(m+1).toNat=m.toNat+1 by omega,Dt,o.1];rfl
  have d: ¬(i<z.1/\z.1<=j)-> ∀y,y∈B↔y∈A\/(y∈a.take (m+1).toNat/\i<y.1/\y.1<=j):=λhn y=>by rw[l y,n,An,BA];constructor;rintro(q|⟨q1,q2⟩);exact .inl q;exact .inr ⟨.inl q1,q2⟩;rintro(q|⟨q1|q1,q2⟩);exact .inl q;exact .inr ⟨q1,q2⟩;rw[q1]at q2;exact absurd q2 hn
  refine AC (λE=>?_) (λE=>Av.next ⟨d!,d!,d!,d λq=>o!⟩ d!);refine AA (AI u b) λN T=>?_;have Q:N=z:=by have:=T.1;rw[o.1]at this;exact(Bg this).symm
  subst Q;refine AA (P:=λr=>r.length<=B.length+1/\ ∀y,y∈r↔y∈A\/(y∈a.take (m+1).toNat/\i<y.1/\y.1<=j)) ?_ λr hr=>Av.next ⟨d!,d!,by have:=hr.1;dsimp only;omega,hr.2⟩ d!
  refine AC (λF=>?_) (λF=>AB ⟨o!,d λq=>o!⟩);refine AA (AI u b) λO U=>?_;have R:O=N:=by have:=U.1;rw[o.1]at this;exact(Bg this).symm
  subst R;refine AA (kg V (λy f=>?_) (g O o.2) o!) λv7 J=>AB ⟨J.1,λy=>?_⟩;rcases(l y).1 f with q|q;exact D y q;exact g y (Fh q.1);rw[J.2 y,l y,n,An,BA];constructor;rintro((q|⟨q1,q2⟩)|q);exact .inl q;exact .inr ⟨.inl q1,q2⟩;exact .inr ⟨.inr q,by rw[q];omega⟩;rintro(q|⟨q1|q1,q2⟩);exact .inl (.inl q);exact .inl (.inr ⟨q1,q2⟩);exact .inr q1
 ·rw[AZ];refine Av.next ⟨d!,d!,by have:=hr.1;dsimp only;omega,λy=>?_⟩ d!
  dsimp only;have n:c.take (k+1).toNat=c.take k.toNat++[v]:=by rw[show(k+1).toNat=k.toNat+1 by omega,Dt,I.1];rfl
  rw[hr.2 y,t y,n,C,Bc,beq_iff_eq];constructor;rintro(⟨q,q1,q2⟩|⟨⟨q1,q2⟩,q3⟩);exact⟨q,HQ _ q1,q2⟩;exact⟨v,OS _ (BA.2 rfl),q1,q2,q3⟩;rintro⟨q,q1,q2,q3,q4⟩;rcases An.1 q1 with w|w;exact .inl ⟨q,w,q2,q3,q4⟩;rw[BA.1 w]at q2;exact .inr ⟨⟨q2,q3⟩,q4⟩
def ABJ{l:Ah}{p i j:Int}(h:D8 l):Av (O0 (l,(p,(i,j)))) λr=>r=l.2.1.filter (Km p i j):=by
 have z:=h.2.2.1;refine AA (P:=λr=>r=l.2.1.filter (Km p i j)) ?_ λr hr=>AB hr;refine Dg (λ(q:Int×List EN)=>0<=q.1/\q.1<=l.2.1.length/\q.2=(l.2.1.take q.1.toNat).filter (Km p i j)) (λq=>((l.2.1.length:Int)-q.1).toNat) ⟨Ag _,d!,k!⟩ (λq w=>?_);obtain⟨q1,q2,q3⟩:=w;unfold RH;dsimp only[len];refine AC (λu=>?_) (λu=>Av.done (by rw[q3,BS o!]));refine AA (AI q1 u) λf v=>?_;have e:=bE (p:=Km p i j) q1 v.1;have s:=gV (l:=l.2.1) (p:=Km p i j) q1;rw[<-q3]at s;rw[AZ (x:=q.1+1)];have t:Km p i j f=false->Av (some (Step.next (q.1+1,q.2)):Option (Step (Int×List EN) (List EN))) (Sj (λ(q:Int×List EN)=>0<=q.1/\q.1<=l.2.1.length/\q.2=(l.2.1.take q.1.toNat).filter (Km p i j)) (λq=>((l.2.1.length:Int)-q.1).toNat) ((l.2.1.length:Int)-q.1).toNat λr=>r=l.2.1.filter (Km p i j)):=λm=>Av.next ⟨d!,d!,by dsimp only;rw[e,m,q3];simp⟩ d!
 refine AA B7 λn g=>?_;have k:fZ f=n:=by
  unfold fZ;cases n with
  |true=>rcases g.1 rfl with q|q<;>simp[q]
  |false=>
   have: ¬(f.2.1=1\/f.2.1=2):=λq=>by have:=g.2 q;cases this
   simp only[not_or]at this;simp[this.1,this.2]
 refine AJ (λa=>?_) (λa=>t (by unfold Km;rw[k,a];rfl));refine AV (λd=>?_) (λd=>t (by unfold Km;rw[beq_eq_false_iff_ne.2 d];simp));refine AC (λb=>?_) (λb=>t (by unfold Km;rw[decide_eq_false b];simp));refine AA (P:=λr=>r=(l.2.1.take (q.1+1).toNat).filter (Km p i j)) ?_ λy o=>Av.next ⟨d!,d!,o⟩ d!
 refine AC (λc=>?_) (λc=>AB ?_);refine AA (Ac w!) λr hr=>AB ?_;have m:Km p i j f=true:=by unfold Km;rw[k,a,beq_iff_eq.2 d,decide_eq_true b,decide_eq_true c];rfl
 rw[hr.1,e,m,q3];simp;have m:Km p i j f=false:=by unfold Km;rw[decide_eq_false c];simp
 rw[e,m,q3];simp
theorem ABA{a:List AP}{m:Int}(h:a.length<=256):Av (Oz (a,m)) λ_=>True:=by refine AA (P:=λ_=>True) ?_ λr _=>A8 (λu _=>AB trivial) (λu _=>AB trivial);refine Dg (λ(s:Int)=>0<=s/\s<=a.length) (λs=>((a.length:Int)-s).toNat) ⟨Ag _,by omega⟩ (λs d=>?_);obtain⟨c,e⟩:=d;unfold RG;dsimp only[len];refine AC (λb=>?_) (λ_=>Av.done trivial);rw[AZ (by omega)];refine AA (AI c b) λf _=>AC (λ_=>AA (AI c b) λg _=>AC (λ_=>Av.done trivial) (λ_=>Av.next ⟨by omega,by omega⟩ (by omega))) (λ_=>Av.next ⟨by omega,by omega⟩ (by omega))
theorem AD3{l:List EN}{e:EN}(h:l.length<=16777216):Av (NW (l,e)) λ_=>True:=by refine AA (P:=λ_=>True) ?_ λr _=>A8 (λu _=>AB trivial) (λu _=>AB trivial);refine Dg (λ(s:Int)=>0<=s/\s<=l.length) (λs=>((l.length:Int)-s).toNat) ⟨Ag _,by omega⟩ (λs a=>?_);obtain⟨c,d⟩:=a;unfold UA;dsimp only[len];refine AC (λb=>?_) (λ_=>Av.done trivial);rw[AZ (by omega)];exact AA (AI c b) λf _=>AJ (λ_=>Av.done trivial) (λ_=>Av.next ⟨by omega,by omega⟩ (by omega))
theorem ACU{L A B:List EN}{p:List AP}{l:Ah}(I:Uq L)(J:D8 l)(G: ∀y∈A,y∈L)(n: ∀y∈B,y∈L)(F:p.length<=256)(T:A.length<=1048576)(U:B.length<=4096):Av (Pa (p,(l,(A,B)))) λr=>r.2=true->r.1.length<=1052672/\ ∀y,y∈r.1↔y∈A\/y∈B:=by
 refine AA (Ac (by simp;omega)) λN E=>?_;have j:=E.1;rw[Cn]at j;dsimp only at j;subst N;refine AA (P:=λr=>(∃u,r= .inl u/\u.2=false)\/ ∃C,r= .inr C/\C.length<=A.length+B.length/\ ∀y,y∈C↔y∈A\/y∈B) ?_ λr hr=>?_
 ·refine Dg (λ(s:List EN×Int)=>0<=s.2/\s.2<=B.length/\s.1.length<=A.length+s.2/\ ∀y,y∈s.1↔y∈A\/y∈B.take s.2.toNat) (λs=>((B.length:Int)-s.2).toNat) ⟨Ag _,by dsimp only;omega,by dsimp only;omega,λy=>by simp⟩ ?_;rintro⟨C,k⟩ ⟨d,o,M,h⟩;dsimp only at d o M h;unfold R3;dsimp only[len];refine AC (λb=>?_) (λb=>Av.done (.inr ⟨C,rfl,by omega,λy=>by rw[h y,BS (by omega)]⟩));refine AA (AI d b) λt i=>AA (ABA F) λV _=>?_;rw[AZ (x:=k+1) (by omega)];have D:B.take (k+1).toNat=B.take k.toNat++[t]:=by rw[show(k+1).toNat=k.toNat+1 by omega,Dt,i.1];rfl
  have g: ∀a,B[k.toNat]? =some a/\a∈B->Av (Option.bind (DB (C,a)) λv=>some (Step.next (v.1,k+1)):Option (Step (List EN×Int) ((List EN×Bool)⊕ List EN))) (Sj (λ(s:List EN×Int)=>0<=s.2/\s.2<=B.length/\s.1.length<=A.length+s.2/\ ∀y,y∈s.1↔y∈A\/y∈B.take s.2.toNat) (λs=>((B.length:Int)-s.2).toNat) ((B.length:Int)-k).toNat λr=>(∃u,r= .inl u/\u.2=false)\/ ∃C,r= .inr C/\C.length<=A.length+B.length/\ ∀y,y∈C↔y∈A\/y∈B):=λa e=>by
   have z:a=t:=by have:=e.1;rw[i.1]at this;exact(Bg this).symm
   subst z;refine AA (kg I (λy K=>((h y).1 K).elim (G y) λq=>n y (Fh q)) (n a i.2) (by omega)) λv m=>Av.next ⟨by dsimp only;omega,by dsimp only;omega,by have:=m.1;dsimp only;omega,λy=>?_⟩ (by dsimp only;omega)
   dsimp only;rw[m.2 y,h y,D,An,BA,or_assoc]
  refine AC (λ_=>AA (AI d b) λW _=>AA (AD3 (by omega)) λX _=>AO (λ_=>Av.done (.inl ⟨_,rfl,rfl⟩)) (λ_=>AA (AI d b) λa e=>g a e)) (λ_=>AA (AI d b) λa e=>g a e)
 ·rcases hr with⟨u,rfl,c⟩|⟨C,rfl,S,w⟩;exact BK (AB λf=>by rw[c]at f;cases f)
  ·refine A5 (AA (P:=λr=> ∀u,r= .inl u->u.2=false) ?_ λr hr=>A8 (λu c=>AB λf=>by rw[hr u c]at f;cases f) (λu c=>AB λ_=>⟨by dsimp only;omega,w⟩));refine Dg (λ(s:Int)=>0<=s/\s<=A.length) (λs=>((A.length:Int)-s).toNat) ⟨Ag _,by omega⟩ (λs H=>?_);obtain⟨d,o⟩:=H;unfold R4;dsimp only[len];refine AC (λb=>?_) (λ_=>Av.done λu c=>by cases c);rw[AZ (by omega)];refine AA (AI d b) λO _=>?_;rw[yU J,AE];exact AC (λ_=>AA (AI d b) λQ _=>AA (AD3 (by omega)) λR _=>AO (λ_=>Av.done λu c=>by cases c;rfl) (λ_=>Av.next ⟨by omega,by omega⟩ (by omega))) (λ_=>Av.next ⟨by omega,by omega⟩ (by omega))
end Go.Pm
