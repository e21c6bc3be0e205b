/- Texts of wip, joined and shortened by wip/tools/pack.py; nothing is assumed. -/
import Derived.Test.YtdjfjcnheopcdaaGreatDoorK10
noncomputable section
set_option linter.all false
namespace Go.Pm
open Go Go.Ab
theorem eR{n:Int}{v:EN}: ∀{m:List (Int×EN)},(m.map (·.1)).Nodup-> ∀q,q∈QL n v m↔q=(n,v)\/(q∈m/\q.1≠n)
 |[],_,q=>by simp[QL]
 |p::r,h,q=>by
  rw[Bt,Gc]at h;unfold QL;by_cases b:p.1=n;grind[List.mem_cons_of_mem,List.mem_map_of_mem];have:(p.1==n)=false:=by simp[b]
  rw[this,cond_false];constructor;intro a;rcases A8.1 a with a|a;grind;rcases(eR h.2 q).1 a with a|⟨a,hn⟩;exact .inl a;grind[List.mem_cons_of_mem];rintro(a|⟨a,hn⟩);exact CQ _ ((eR h.2 q).2 (.inl a));rcases A8.1 a with a|a;grind;exact CQ _ ((eR h.2 q).2 (.inr ⟨a,hn⟩))
def wE{n:Int}{v:EN}: ∀{m:List (Int×EN)},(m.map (·.1)).Nodup->((QL n v m).map (·.1)).Nodup
 |[],_=>by simp[QL]
 |p::r,h=>by
  have b:=h;rw[Bt,Gc]at h;unfold QL;by_cases a:p.1=n;grind[List.nodup_cons];have:(p.1==n)=false:=by simp[a]
  rw[this,cond_false,Bt,Gc];refine⟨λc=>?_,wE h.2⟩;grind[eR,List.mem_map_of_mem]
def wC{n:Int}{e:EN}: ∀{m:List (Int×EN)},K5 n m=some e->(n,e)∈m
 |[],h=>by cases h
 |p::r,h=>by
  unfold K5 at h;by_cases a:p.1=n;grind;have:(p.1==n)=false:=by simp[a]
  rw[this,cond_false]at h;exact CQ _ (wC h)
def wB{n:Int}: ∀{m:List (Int×EN)},K5 n m=none-> ∀q∈m,q.1≠n
 |[],_,q,a=>by cases a
 |p::r,h,q,a=>by
  unfold K5 at h;by_cases b:p.1=n;have:(p.1==n)=true:=by simp[b]
  rw[this,cond_true]at h;cases h;have:(p.1==n)=false:=by simp[b]
  rw[this,cond_false]at h;rcases A8.1 a with a|a;rw[a];exact b;exact wB h q a
def Qp(m:List (Int×EN))(P:EN->Prop):Prop:=(m.map (·.1)).Nodup/\(∀q∈m,q.1=q.2.1)/\ ∀e,(e.1,e)∈m↔P e
def Qp.nil:Qp [] λ_=>False:=⟨Qx,k!,k!⟩
def Qp.put{m:List (Int×EN)}{P:EN->Prop}{v:EN}(h:Qp m P):Qp (QL v.1 v m) λe=>e=v\/(P e/\e.1≠v.1):=by refine⟨wE h.1,λq a=>?_,λe=>?_⟩;rcases(eR h.1 q).1 a with a|⟨a,_⟩;rw[a];exact h.2.1 q a;rw[eR h.1];constructor;rintro(a|⟨a,hn⟩);injection a with _ a;exact .inl a;exact .inr ⟨(h.2.2 e).1 a,hn⟩;rintro(rfl|⟨a,hn⟩);exact .inl rfl;exact .inr ⟨(h.2.2 e).2 a,hn⟩
def Qp.congr{m:List (Int×EN)}{P Q:EN->Prop}(h:Qp m P)(a: ∀e,P e↔Q e):Qp m Q:=⟨h.1,h.2.1,λe=>(h.2.2 e).trans (a e)⟩
def Qp.get{m:List (Int×EN)}{P:EN->Prop}(h:Qp m P){e:EN}(g:P e):K5 e.1 m=some e:=by
 have d:=(h.2.2 e).2 g;cases c:K5 e.1 m with
 |none=>exact absurd rfl (wB c _ d)
 |some f=>
  have i: ∀{l:List (Int×EN)},(l.map (·.1)).Nodup-> ∀{n:Int} {a b:EN},(n,a)∈l->(n,b)∈l->a=b:=by intro l;induction l<;>grind
  rw[i h.1 d (wC c)]
def jY(e:EN):Bool:=(e.2.1==1)||(e.2.1==2)
def nH(e:EN):BF e=some (jY e):=by grind[BF,jY]
def K9(p i j:Int)(e:EN):Bool:=jY e&&((e.2.2.2.2.2.2.1.1==p)&&(decide (e.1>i)&&decide (e.1<=j)))
def QK(s:Int×Int)(n:Int):Bool:=decide (n>=s.1)&&decide (n<=s.2)
def has_eq(s:Int×Int)(n:Int):I4 (s,n)=some (QK s n):=by grind[I4,QK]
def AIY{e:EN}{l:List (Int×Int)}(j:l.length<=16777216):Ar (AZ (XM e l) 0) λr=>(∀u,r= .inl u->0<=u/\(l.any λs=>QK s e.1)=true)/\(∀u,r= .inr u->(l.any λs=>QK s e.1)=false):=by refine AV (λ(s:Int)=>0<=s/\s<=l.length/\ ∀x∈l.take s.toNat,QK x e.1=false) (λ(s:Int)=>((l.length:Int)-s).toNat) ⟨Ad _,o!,k!⟩ (λs d=>?_);have⟨g,m,h⟩:=d;unfold XM;refine AC (λa=>?_) (λa=>AB ⟨λu b=>(by cases b),λu _=>?_⟩);simp[len]at a;rw[(AX (x:=s+1))];refine AA (AI g a) λn c=>?_;rw[has_eq,AD];refine AJ (λk=>AB ⟨λu b=>?_,λu b=>(by cases b)⟩) (λi=>AB ⟨⟨o!,o!,λx f=>?_⟩,o!⟩);grind[List.any_eq_true];rw[show(s+1).toNat=s.toNat+1 by omega,Ce,c.1]at f;grind[Option.toList_some,List.mem_singleton];simp[len]at a;rw[BK o!]at h;rw[Ts];grind[List.any_eq_true]
def AIX{a:AO}{l:Ae}{p i j:Int}{d:List (Int×Int)}(R:Dg l)(hv:1≤d.length)(S:d.length≤16777216):
  Ar (AZ (XL (a,(l,(p,(i,j)))) d) (0,(0,[]))) λr=>r.1=((l.2.1.filter λe=>K9 p i j e&&(d.tail.any λs=>QK s e.1)).length:Int)/\Qp r.2 λe=>e∈l.2.1/\K9 p i j e=true:=by
 obtain⟨l1,l2,l3,l4,l5,K⟩:=R;refine AV (λ(s:Int×(Int×List (Int×EN)))=>0<=s.1/\s.1<=l.2.1.length/\s.2.1=(((l.2.1.take s.1.toNat).filter λe=>K9 p i j e&&(d.tail.any λs=>QK s e.1)).length:Int)/\Qp s.2.2 λe=>e∈l.2.1.take s.1.toNat/\K9 p i j e=true) (λs=>((l.2.1.length:Int)-s.1).toNat)
  ⟨Ad _,d!,k!,Qp.nil.congr λe=>k!⟩ (λs O=>?_)
 obtain⟨T,i2,A,B⟩:=O;unfold XL;dsimp only;refine AC (λy=>?_) (λy=>AB ?_);simp only[len]at y;have L:=AX (x:=s.1+1);rw[L];refine AA (AI T y) λq I=>?_;rw[nH,AD];have g:l.2.1.take (s.1+1).toNat=l.2.1.take s.1.toNat++[q]:=by rw[show(s.1+1).toNat=s.1.toNat+1 by omega,Ce,I.1];rfl
 have f:K9 p i j q=false->(0<=s.1+1/\s.1+1<=l.2.1.length/\s.2.1=(((l.2.1.take (s.1+1).toNat).filter λe=>K9 p i j e&&(d.tail.any λs=>QK s e.1)).length:Int)/\Qp s.2.2 λe=>e∈l.2.1.take (s.1+1).toNat/\K9 p i j e=true)/\((l.2.1.length:Int)-(s.1+1)).toNat<((l.2.1.length:Int)-s.1).toNat:=λw=>by
  refine⟨⟨o!,o!,?_,?_⟩,o!⟩;rw[g,Gl,A];simp[w];rw[g];refine B.congr λe=>⟨λh=>⟨A1.2 (.inl h.1),h.2⟩,λh=>⟨?_,h.2⟩⟩
  rcases A1.1 h.1 with m|m;exact m;rw[BI.1 m,w]at h;cases h.2
 refine AJ (λC=>?_) (λC=>AB (f (by simp[K9,C])));refine AJ (λD=>?_) (λD=>AB (f (by simp[K9,D])));refine AJ (λE=>?_) (λE=>AB (f (by unfold K9;rw[E];simp)));refine AJ (λF=>?_) (λF=>AB (f (by unfold K9;rw[F];simp)));have w:K9 p i j q=true:=by unfold K9;rw[C,D,E,F];rfl
 refine AA (CU (lo:=1) (hi:=(d.length:Int))) λV N=>?_;have H:V=d.tail:=by
  rw[N.1,BK (by rw[FY];omega)];cases d with
  |nil=>rfl
  |cons a r=>rfl
 subst H;refine AA (AIY (by rw[List.length_tail];omega)) λU o=>?_;have M:=K s.1.toNat q I.1;have n:Qp (QL q.1 q s.2.2) λe=>e∈l.2.1.take (s.1+1).toNat/\K9 p i j e=true:=by
  rw[g];refine B.put.congr λe=>⟨?_,λh=>?_⟩
  rintro(rfl|⟨h,_⟩);exact⟨A1.2 (.inr (BI.2 rfl)),w⟩;exact⟨A1.2 (.inl h.1),h.2⟩;rcases A1.1 h.1 with m|m;refine .inr ⟨⟨m,h.2⟩,λZ=>?_⟩;obtain⟨k,Q,v⟩:=WG.1 m;rw[BM]at Q;rw[List.getElem_take]at v;have:=(K k e (by rw[<-v];exact A4 o!)).1;omega;exact .inl (BI.1 m)
 have t: ∀b:Bool,(d.tail.any λs=>QK s q.1)=b->((((l.2.1.take (s.1+1).toNat).filter λe=>K9 p i j e&&(d.tail.any λs=>QK s e.1)).length:Nat):Int)=s.2.1+(if b=true then 1 else 0):=λb P=>by rw[g,Gl,Aa,A];cases b<;>simp[w,P]
 have J:(((l.2.1.take s.1.toNat).filter λe=>K9 p i j e&&(d.tail.any λs=>QK s e.1)).length:Int)<=4096:=by have W:=Gm (λe=>K9 p i j e&&(d.tail.any λs=>QK s e.1)) (l.2.1.take s.1.toNat);have X:=fC s.1.toNat l.2.1;have Y:=List.length_take_le' s.1.toNat l.2.1;omega
 have G:=AX (x:=s.2.1+1);rw[G];refine BA (λu z=>?_) (λu z=>AB ⟨⟨d!,d!,?_,n⟩,d!⟩);refine AC (λ_=>AB ⟨⟨d!,d!,?_,n⟩,d!⟩) (λc=>absurd (o.1 u z).1 c);rw[t true (o.1 u z).2];rfl;rw[t false (o.2 u z)];simp;simp only[len]at y;rw[BK o!]at A B;exact⟨A,B⟩
def ltC(f e:EN):Prop:=f.2.2.2.2.2.2.1.1<e.2.2.2.2.2.2.1.1\/(f.2.2.2.2.2.2.1.1=e.2.2.2.2.2.2.1.1/\f.1<e.1)
theorem AAZ(e:EN): ¬ltC e e:=by unfold ltC;omega
def ACY{a b c:EN}(h:ltC a b)(g:ltC b c):ltC a c:=by unfold ltC at*;omega
def AGV(f e:EN): ∃c:Int,Dm (f,e)=some c/\(c<0↔ltC f e)/\(c=0↔f.2.2.2.2.2.2.1.1=e.2.2.2.2.2.2.1.1/\f.1=e.1):=by
 have:Ar (Dm (f,e)) λc=>(c<0↔ltC f e)/\(c=0↔f.2.2.2.2.2.2.1.1=e.2.2.2.2.2.2.1.1/\f.1=e.1):=by
  unfold Dm;unfold ltC;dsimp only;repeat' with_reducible first|intro a|apply AC|apply AQ|apply AJ|apply AB
  all_goals omega
 exact this
def yA(x:Af)(i:Nat):Prop:= ∀e,x.2.2.2.2.2[i]? =some e->
 (ML e/\jY e=true/\x.1<=e.1/\e.1<=x.2.1/\x.2.2.1<=e.2.2.2.2.2.2.1.1/\e.2.2.2.2.2.2.1.1<=x.2.2.2.1)/\(i=0->e.2.2.2.2.1<x.1)/\
 ∀f,0<i->x.2.2.2.2.2[i-1]? =some f->ltC f e/\(f.2.2.2.2.2.2.1.1=e.2.2.2.2.2.2.1.1->e.2.2.2.2.1=f.1)/\(f.2.2.2.2.2.2.1.1≠e.2.2.2.2.2.2.1.1->e.2.2.2.2.1<x.1)
def VR(x:Af):Prop:=jG x/\ ∀i,yA x i
def VR.ent{x:Af}(h:VR x){e:EN}(a:e∈x.2.2.2.2.2):ML e/\jY e=true/\x.1<=e.1/\e.1<=x.2.1/\x.2.2.1<=e.2.2.2.2.2.2.1.1/\e.2.2.2.2.2.2.1.1<=x.2.2.2.1:=by obtain⟨i,b,rfl⟩:=WG.1 a;exact(h.2 i _ (A4 b)).1
def zt{x:Af}(Q:x.2.2.2.2.2.length<=4096):Ar (AZ (G1 x) 0) λr=>(r= .inl false/\ ¬ ∀i,yA x i)\/(r= .inr ()/\ ∀i,yA x i):=by
 refine Cf (λ(s:Int)=>0<=s/\s<=x.2.2.2.2.2.length/\ ∀i:Nat,(i:Int)<s->yA x i) (λ(s:Int)=>((x.2.2.2.2.2.length:Int)-s).toNat) ⟨Ad _,o!,λi z=>o!⟩ (λs J=>?_);obtain⟨G,R,H⟩:=J;unfold G1;simp only[len];refine AC (λE=>?_) (λE=>Ar.done (.inr ⟨rfl,λi=>?_⟩))
 case refine_2=>by_cases z:(i:Int)<s;exact H i z;intro e m;rw[Cc o!]at m;cases m
 obtain⟨k,rfl⟩:=FF G;refine AA (AI G E) λv d=>?_;have d:=d.1;rw[Ct]at d;have a:(yA x k->False)->Ar (some (Step.done (.inl false)):Option (Step Int (Bool ⊕ Unit))) (MK (λ(s:Int)=>0<=s/\s<=x.2.2.2.2.2.length/\ ∀i:Nat,(i:Int)<s->yA x i) (λ(s:Int)=>((x.2.2.2.2.2.length:Int)-s).toNat) ((x.2.2.2.2.2.length:Int)-(k:Int)).toNat λr=>(r= .inl false/\ ¬ ∀i,yA x i)\/(r= .inr ()/\ ∀i,yA x i)):=λh=>Ar.done (.inl ⟨rfl,λu=>h (u k)⟩);have j:yA x k->Ar (some (Step.next (wi ((k:Int)+1))):Option (Step Int (Bool ⊕ Unit))) (MK (λ(s:Int)=>0<=s/\s<=x.2.2.2.2.2.length/\ ∀i:Nat,(i:Int)<s->yA x i) (λ(s:Int)=>((x.2.2.2.2.2.length:Int)-s).toNat) ((x.2.2.2.2.2.length:Int)-(k:Int)).toNat λr=>(r= .inl false/\ ¬ ∀i,yA x i)\/(r= .inr ()/\ ∀i,yA x i)):=λh=>by
  rw[AX];refine Ar.next ⟨o!,o!,λi z=>?_⟩ o!
  by_cases A:i=k;rw[A];exact h;exact H i o!
 refine AA CT λN C=>AM (λl=>a λok=>?_) (λl=>?_);have:=C.2 (ok v d).1.1;rw[l]at this;cases this;have q1:=C.1 l;refine AA B8 λO D=>?_;have q:jY v=true↔v.2.1=1\/v.2.1=2:=by unfold jY;simp
 refine AM (λl=>a λok=>?_) (λl=>?_);have:=D.2 (q.1 (ok v d).1.2.1);rw[l]at this;cases this;have q2:=q.2 (D.1 l);refine AC (λt=>a λok=>?_) (λq3=>?_);have:=(ok v d).1.2.2;omega;refine AC (λt=>a λok=>?_) (λq4=>?_);have:=(ok v d).1.2.2;omega;refine AC (λt=>a λok=>?_) (λq5=>?_);have:=(ok v d).1.2.2;omega;refine AC (λt=>a λok=>?_) (λq6=>?_);have:=(ok v d).1.2.2;omega;have q0:ML v/\jY v=true/\x.1<=v.1/\v.1<=x.2.1/\x.2.2.1<=v.2.2.2.2.2.2.1.1/\v.2.2.2.2.2.2.1.1<=x.2.2.2.1:=⟨q1,q2,o!⟩
 apply AC<;>intro L;have M:wi ((k:Int)-1)=((k-1:Nat):Int):=by rw[AX];omega
 have F:k-1<x.2.2.2.2.2.length:=o!
 have w:ix x.2.2.2.2.2 (wi ((k:Int)-1))=some (x.2.2.2.2.2[k-1]):=by rw[M];unfold ix;rw[if_pos o!,Ct,A4 F]
 have n:x.2.2.2.2.2[k-1]? =some (x.2.2.2.2.2[k-1]):=A4 F;generalize x.2.2.2.2.2[k-1]=f at w n;obtain⟨c,y,p,K⟩:=AGV f v;rw[w,AD,y,AD];refine AC (λt=>a λok=>?_) (λt=>?_);have:=p.2 ((ok v d).2.2 f o! n).1;omega;have q7:=p.1 o!;rw[decide_eq_true o!,cond_true,AD];refine AA (P:=λr:Bool ⊕ Unit=>(r= .inl false/\ ¬yA x k)\/(r= .inr ()/\yA x k)) ?_ λr hr=>?_;apply AQ<;>intro m;rw[AD];refine AK (λhn=>AB (.inl ⟨rfl,λok=>hn (((ok v d).2.2 f o! n).2.1 m)⟩)) (λhn=>AB (.inr ⟨rfl,λe g=>?_⟩));rw[d]at g;injection g with g;subst g;refine⟨q0,λo=>absurd o o!,λI _ b=>?_⟩;rw[n]at b;injection b with b;subst b;exact⟨q7,λ_=>hn,λu=>absurd m u⟩;refine AC (λhn=>AB (.inl ⟨rfl,λok=>?_⟩)) (λhn=>AB (.inr ⟨rfl,λe g=>?_⟩));have:=((ok v d).2.2 f o! n).2.2 m;omega;rw[d]at g;injection g with g;subst g;refine⟨q0,λo=>absurd o o!,λI _ b=>?_⟩;rw[n]at b;injection b with b;subst b;exact⟨q7,λu=>absurd u m,λ_=>o!⟩;rcases hr with⟨rfl,hr⟩|⟨rfl,hr⟩;exact BG (a hr);exact A3 (j hr);rw[decide_eq_false L,cond_false];have B:k=0:=o!
 apply Bd;apply AC<;>intro hn;rw[AD];refine BG (a λok=>?_);have:=(ok v d).2.1 B;omega;rw[AD];refine A3 (j λe g=>?_);rw[d]at g;injection g with g;subst g;exact⟨q0,λ_=>o!,λf o=>absurd o o!⟩
def bw{x:Af}:Ar (Ef x) λr=>r=true↔VR x:=by unfold Ef;refine AA IV λf c=>AM (λb=>AB ⟨λa=>(by cases a),λa=>?_⟩) (λb=>?_);obtain⟨⟨a1,a2,a3,a4,a5,a6,a7,a8,a9⟩,_⟩:=a;have:=c.2 ⟨a1,a2,a3,a4,a5,a6,a7,a8⟩;rw[b]at this;cases this;have hn:=c.1 b;dsimp only at hn;refine AC (λd=>AB ⟨λa=>(by cases a),λa=>?_⟩) (λe=>?_);have:=a.1.2.2.2.2.2.2.2.2;simp only[len]at d;omega;simp only[len]at e;refine AA (zt o!) λr hr=>?_;rcases hr with⟨rfl,hr⟩|⟨rfl,hr⟩;exact BG (AB ⟨λa=>(by cases a),λa=>absurd a.2 hr⟩);exact A3 (AB ⟨λ_=>⟨⟨hn.1,hn.2.1,hn.2.2.1,hn.2.2.2.1,hn.2.2.2.2.1,hn.2.2.2.2.2.1,hn.2.2.2.2.2.2.1,hn.2.2.2.2.2.2.2,o!⟩,hr⟩,λ_=>rfl⟩)
abbrev NE:=A0
def lN(x y:NE):Bool:=decide (x.1.2.2.1<y.1.2.2.1\/(x.1.2.2.1=y.1.2.2.1/\(x.1.1<y.1.1\/(x.1.1=y.1.1/\x.2<y.2))))
def ur:Sort.SWO lN where
 irrefl x:=by simp[lN]
 trans x y z h1 h2:=by simp[lN,decide_eq_true_eq]at*;omega
 ntrans x y z h1 h2:=by simp[lN,decide_eq_false_iff_not]at*;omega
def o7{l:List Int}{k:Nat}{v:Int}(h:l[k]? =some v)(b:k<1000)(c:l.length<1000):AZ (Jy l) (k:Int)=if v=0 then AZ (Jy l) ((k+1:Nat):Int)else some (.inl v):=by
 rw[Dv];have a:=(Kf.1 h).1;have d:decide ((k:Int)<len l)=true:=w!
 have e:ix l (k:Int)=some v:=by unfold ix;rw[if_pos o!];simpa using h
 grind[wip,Jy]
def AIe(a b c:Int):KG [a,b,c]=some (if a≠0 then a else if b≠0 then b else c):=by unfold KG;rw[show(0:Int)=((0:Nat):Int)from rfl,o7 (k:=0) (v:=a) rfl o! k!];by_cases d:a=0;rw[if_pos d,o7 (k:=1) (v:=b) rfl o! k!];by_cases e:b=0;rw[if_pos e,o7 (k:=2) (v:=c) rfl o! k!];grind[Dv,Jy];rw[if_neg e];simp[d,e];rw[if_neg d];simp[d]
def AF9(x y:NE): ∃v,Ho (x,y)=some v/\decide (v<0)=lN x y:=by
 unfold Ho;dsimp only;simp only[AAG,AD,AIe];refine⟨_,rfl,?_⟩;unfold lN;apply decide_eq_decide.2;repeat' split
 all_goals omega
section
variable {α:Type} [Inhabited α]
theorem ixG{d:Array α}{i:Int}{k:Nat}(a:i=k)(b:k<d.size:=by omega):ix d.toList i=some d[k]! :=by subst a;unfold ix;rw[if_pos (by omega)];simp[b]
omit [Inhabited α] in
theorem AHj{d:Array α}{i:Int}{k:Nat}(a:i=k)(x:α):E4 d.toList i x=(d.setIfInBounds k x).toList:=by subst a;unfold E4;simp
def AGK{d:Array α}{i j:Int}{a b:Nat}(c:i=a)(e:j=b):E4 (E4 d.toList i d[b]!) j d[a]! =(Sort.swp d a b).toList:=by rw[AHj c,AHj e];rfl
def AFf{d:Array α}{i j:Int}{a b:Nat}{x:α}(e:i=a)(f:j=b)(c:b<d.size:=by omega):ix (E4 d.toList i x) j=some (d.setIfInBounds a x)[b]! :=by grind[AHj,ixG]
theorem k9(lt:α->α->Bool)(k:Nat): ∀(j:Nat) (d:Array α),(Sort.insInner lt k j d).size=d.size
 |0,_=>rfl
 |j+1,d=>by unfold Sort.insInner;split;rw[k9 lt k j,Sort.size_swp];rfl
end
theorem ABd{a b:Int}{k:Nat}(g:a=k): ∀(j:Nat) (d:Array NE),j<d.size->d.size<=16777216->AZ (DO (a,b)) ((j:Int),d.toList)=some (Sort.insInner lN k j d).toList
 |0,d,hj,hd=>by
  rw[Dv];have:decide (((0:Nat):Int)>a)=false:=by simp;omega
  simp only[DO,this,cond_false];rfl
 |j+1,d,hj,hd=>by
  rw[Dv];have⟨v,e,f⟩:=AF9 d[j+1]! d[j]!;simp only[DO,(by grind[nh]:wi (((j+1:Nat):Int)-1)=(j:Int)),(ixG rfl hj),(ixG rfl:ix d.toList (j:Int)=some d[j]!),(AFf rfl rfl:ix (E4 d.toList ((j+1:Nat):Int) d[j]!) (j:Int)=some (d.setIfInBounds (j+1) d[j]!)[j]!),AD,e,f,AGK (d:=d) (a:=j+1) (b:=j) rfl rfl];unfold Sort.insInner;by_cases c:j+1>k;have:decide (((j+1:Nat):Int)>a)=true:=by simp;omega
  rw[this];cases h:lN d[j+1]! d[j]! with
  |true=>simp[cond_true,c,decide_true,YI,if_true];exact ABd g j _ (by rw[Sort.size_swp];omega) (by rw[Sort.size_swp];omega)
  |false=>simp[c]
  have:decide (((j+1:Nat):Int)>a)=false:=by simp;omega
  rw[this];simp[c]
def ADt{a b:Int}{k m:Nat}(g:a=k)(h:b=m): ∀(n i:Nat) (d:Array NE),m-i<=n->m<=d.size->d.size<=16777216->AZ (DN (a,b)) ((i:Int),d.toList)=some (Sort.insOuter lN k m i d).toList:=by
 intro n;induction n with
 |zero=>grind[Dv,Sort.insOuter,DN]
 |succ n j=>intro i d c e f;rw[Dv,Sort.insOuter];grind[nh,k9,DN,ABd]
def ABc{d:Array NE}{a b:Int}{k m:Nat}(c:a=k)(e:b=m)(g:m<=d.size)(h:k<=m)(f:d.size<=16777216):Cw d.toList (a,b)=some (Sort.insertionSort lN d k m).toList:=by unfold Cw;dsimp only;rw[(by grind[nh]:wi (a+1)=((k+1:Nat):Int)),ADt c e (m-(k+1)) (k+1) d o! g f];rfl
def swR(a b n:Nat)(d:Array NE)(k:Nat):NE:=if a<=k/\k<a+n then d[b+(k-a)]! else if b<=k/\k<b+n then d[a+(k-b)]! else d[k]!
def xu{d:Array NE}{a b n:Nat}(f:a+n≤b)(l:b+n≤d.size)(m:d.size≤16777216):
  Ar (Ci d.toList ((a:Int),((b:Int),(n:Int)))) λr=> ∃e:Array NE,r=e.toList/\e.size=d.size/\ ∀k,k<d.size->e[k]! =swR a b n d k:=by
 unfold Ci;refine AA (P:=λr=> ∃e:Array NE,r=e.toList/\e.size=d.size/\ ∀k,k<d.size->e[k]! =swR a b n d k) ?_ λr h=>AB h;refine AV (λ(s:Int×List NE)=> ∃(t:Nat) (e:Array NE),s.1=t/\s.2=e.toList/\t<=n/\e.size=d.size/\ ∀k,k<d.size->e[k]! =swR a b t d k) (λs=>n-s.1.toNat) ⟨0,d,rfl,rfl,Bi _,rfl,λk _=>by unfold swR;rw[if_neg (by omega),if_neg (by omega)]⟩ ?_;rintro⟨q,u⟩ ⟨t,e,q1,q2,q3,q4,q5⟩;dsimp only at q1 q2;subst q1 q2;unfold Hd;dsimp only;refine AC (λg=>?_) (λg=>AB ⟨e,rfl,q4,?_⟩);have o:t<n:=by omega
 simp only[(by grind[nh]:wi ((b:Int)+(t:Int))=((b+t:Nat):Int)),(by grind[nh]:wi ((a:Int)+(t:Int))=((a+t:Nat):Int)),(ixG rfl:ix e.toList ((b+t:Nat):Int)=some e[b+t]!),(ixG rfl:ix e.toList ((a+t:Nat):Int)=some e[a+t]!),(AFf rfl rfl:ix (E4 e.toList ((a+t:Nat):Int) e[b+t]!) ((b+t:Nat):Int)=some (e.setIfInBounds (a+t) e[b+t]!)[b+t]!),AD,wip (i:=t),AGK (d:=e) (a:=a+t) (b:=b+t) rfl rfl];refine AB ⟨⟨t+1,_,rfl,rfl,by omega,by rw[Sort.size_swp,q4],λk j=>?_⟩,?_⟩;rw[Sort.swp_get e (by omega) (by omega)];rw[(q5 (a+t) (by omega)),(q5 (b+t) (by omega)),(q5 k j)];unfold swR;by_cases k1:k=a+t;subst k1;rw[if_neg (by omega),if_pos rfl,if_neg (by omega),if_neg (by omega),if_pos (by omega)];exact congrArg (λz=>d[z]!) (by omega);by_cases c:k=b+t;subst c;rw[if_pos rfl,if_neg (by omega),if_neg (by omega),if_neg (by omega),if_pos (by omega)];exact congrArg (λz=>d[z]!) (by omega);rw[if_neg c,if_neg k1];by_cases p:a<=k/\k<a+t<;>grind;show n-((t+1:Nat):Int).toNat<n-((t:Nat):Int).toNat
 omega;have:t=n:=by omega
 rw[<-this];exact q5
def iS(x:Af):BW:=[80,77,82,78]++(C5 x.1 8++(C5 x.2.1 8++(C5 x.2.2.1 4++(C5 x.2.2.2.1 4++(C5 x.2.2.2.2.1 1++C5 (x.2.2.2.2.2.length:Int) 4)))))
def Rj(x:Af):BW:=Ib (iS x)++Ka x.2.2.2.2.2
theorem ln(x:Af):(iS x).length=33:=rfl
def jG.inr{x:Af}(h:jG x):ej 8 x.1/\ej 8 x.2.1/\ej 4 x.2.2.1/\ej 4 x.2.2.2.1/\ej 1 x.2.2.2.2.1/\ej 4 (x.2.2.2.2.2.length:Int):=by have⟨a1,a2,a3,a4,a5,a6,a7,a8,a9⟩:=h;grind[ej]
def VR.len{x:Af}(h:VR x):(Rj x).length<=34406441:=by have b:=sI (l:=x.2.2.2.2.2) λe a=>(h.ent a).1;have c:=h.1.2.2.2.2.2.2.2.2;grind[Rj,List.length_append,FJ,ln]
def AE0{x:Af}(h:jG x):HT x=some (iS x):=by unfold HT;rw[HZ k! g! g!,AD];rw[HZ (by simp only[Aa,Aw];simp) g! g!,AD];rw[HZ (by simp only[Aa,Aw];simp) g! g!,AD];rw[HZ (by simp only[Aa,Aw];simp) g! g!,AD];rw[HZ (by simp only[Aa,Aw];simp) g! g!,AD];rw[HZ (by simp only[Aa,Aw];simp) g! g!,AD];rfl
def yC{x:Af}(h:VR x):H7 x=some (Rj x,0):=by
 have q:=h.1.2.2.2.2.2.2.2.2;have⟨b,g,d⟩:=bw (x:=x);have c:=d.2 h;subst c;unfold H7;rw[g,AD,Cg,cond_false,AE0 h.1,AD,bv (by rw[ln];decide),AD];have key:Ar (AZ (MB x) (Ib (iS x),0)) λr=>r=Rj x:=by
  refine Cf (λ(s:BW×Int)=> ∃k:Nat,s.2=k/\k<=x.2.2.2.2.2.length/\s.1=Ib (iS x)++Ka (x.2.2.2.2.2.take k)) (λs=>x.2.2.2.2.2.length-s.2.toNat) ⟨0,rfl,Bi _,by simp[Ka]⟩ ?_;rintro⟨y,z⟩ ⟨k,o,u,p⟩;subst o p;unfold MB;simp only[len];refine AC (λf=>?_) (λf=>Ar.done (by rw[BK o!];rfl));refine AA (AI o! f) λv d=>?_;have a:=(h.ent d.2).1;have m:=Sk a;have j:=sI (l:=x.2.2.2.2.2.take k) λe i=>(h.ent (Hi i)).1;have n:(x.2.2.2.2.2.take k).length<=4096:=q!
  rw[qo a,AD,bv m,AD];refine AA (Cm (by rw[Aa,FJ,FJ,ln];omega)) λw t=>?_;rw[AX];refine Ar.next ⟨k+1,q!,o!,?_⟩ q!
  grind[Int.toNat_natCast,List.take_add_one,Option.toList_some,Sl,List.append_assoc]
 obtain⟨r,hr,rfl⟩:=key;rw[hr];rfl
def WR(x:Af):Prop:=jG x/\ ∀e∈x.2.2.2.2.2,IZ e.2.2.2.2.2.2.1.2.2.1/\IZ e.2.2.2.2.2.2.1.2.2.2/\e.2.2.2.2.2.2.2=[]
def ADU{e:EN}(h:ML e)(b:jY e=true):e.2.2.2.2.2.2.2=[]:=by
 have a:e.2.1=1\/e.2.1=2:=by grind[jY]
 have⟨_,_,_,_,_,_,_,_,c⟩:=h;grind[Vq]
def VR.wr{x:Af}(h:VR x):WR x:=⟨h.1,λe b=>by have a:=h.ent b;exact⟨a.1.cells.1,a.1.cells.2.1,ADU a.1 a.2.1⟩⟩
def ACb{e:EN}(h:GB e=some true)(g:jY e=true):e.2.2.2.2.2.2.2=[]:=by
 have f:e.2.1=1\/e.2.1=2:=by unfold jY at g;simpa using g
 have key: ∀r,GB e=some r->r=true->e.2.2.2.2.2.2.2=[]:=by
  have c:MT false (GB e) λr=>r=true->e.2.2.2.2.2.2.2=[]:=by
   have p: ∀{Q:Bool->Prop},(∀r,r=false->Q r)->MT false (some false) Q:=λn=>MT.some (n _ rfl);have a:MT false (some false) λr=>r=true->e.2.2.2.2.2.2.2=[]:=MT.some λb=>by cases b
   unfold GB;refine MT.dec (λ_=>a) λ_=>MT.dec (λ_=>a) λ_=>MT.dec (λ_=>a) λ_=>MT.dec (λ_=>a) λ_=>MT.bind (ka Kh) λq _=>MT.cond (λ_=>a) λ_=>MT.bind (ka Kh) λs _=>MT.cond (λ_=>a) λ_=>MT.bind (ka Kh) λt _=>MT.cond (λ_=>a) λ_=>MT.dec (λi=>absurd i o!) λ_=>MT.dec (λj=>?_) λj=>?_;refine MT.dec (λ_=>a) λ_=>MT.bind (P:=λ_=>True) (MT.dec (λ_=>MT.some trivial) λ_=>MT.some trivial) λo _=>MT.cond (λ_=>a) λ_=>MT.bind (P:=λr=>r=false->e.2.2.2.2.2.2.2=[]) ?_ λu l=>?_;refine MT.cond (λm=>MT.some λb=>?_) λ_=>MT.some λb=>?_;rw[m]at b;cases b;simpa using b;refine MT.cond (λ_=>a) λb=>?_;exact⟨λd=>(by cases d),λr _ _=>l b⟩;refine MT.dec (λk=>?_) λk=>absurd f o!;refine MT.dec (λ_=>a) λ_=>MT.bind (P:=λ_=>True) (MT.dec (λ_=>MT.some trivial) λ_=>MT.some trivial) λo _=>MT.cond (λ_=>a) λ_=>MT.cond (λ_=>a) λb=>?_;exact⟨λd=>(by cases d),λr _ _=>by simpa using b⟩
  exact c.2
 exact key true h rfl
def AAg{e:EN}:BF e=some (jY e):=by unfold BF jY;grind
def zK{x:Af}:Ar (MJ x) λr=>r=true↔1<=x.1/\x.1<=x.2.1/\x.2.1<=1099511627776/\0<=x.2.2.1/\x.2.2.1<=x.2.2.2.1/\x.2.2.2.1<64/\0<=x.2.2.2.2.1/\x.2.2.2.2.1<=8:=by
 unfold MJ;exact x!
def ACd{x:Af}{e:EN}:Ar (P7 (x,e)) λr=>r=true↔jY e=true/\x.2.2.1<=e.2.2.2.2.2.2.1.1/\e.2.2.2.2.2.2.1.1<=x.2.2.2.1/\x.1<=e.1/\e.1<=x.2.1:=by
 unfold P7;rw[AAg,AD];refine AJ (λa=>?_) (λa=>AB ⟨λb=>(by cases b),λb=>q!⟩);exact x!
def AHZ(a b:Int):KG [a,b]=some (if a≠0 then a else b):=by unfold KG;rw[show(0:Int)=((0:Nat):Int)from rfl,o7 (k:=0) (v:=a) rfl o! k!];by_cases c:a=0;rw[if_pos c,o7 (k:=1) (v:=b) rfl o! k!];grind[Dv,Jy];grind
def AAh(f e:EN): ∃c:Int,Og (f,e)=some c/\(c<0↔ltC f e):=by unfold Og;rw[AAG,AAG,AD,AD,AHZ,AD];unfold ltC;grind
def ACc{x:Af}(I:x.2.2.2.2.2.length<=4096):Ar (AZ (TQ x) 0) λr=>(r= .inl false/\ ¬ ∀i,yA x i)\/(r= .inr ()/\ ∀e∈x.2.2.2.2.2,jY e=true/\e.2.2.2.2.2.2.2=[]):=by
 refine Cf (λ(s:Int)=>0<=s/\s<=x.2.2.2.2.2.length/\ ∀e∈x.2.2.2.2.2.take s.toNat,jY e=true/\e.2.2.2.2.2.2.2=[]) (λ(s:Int)=>((x.2.2.2.2.2.length:Int)-s).toNat) ⟨Ad _,o!,λe p=>by simp at p⟩ (λs C=>?_);have⟨w,J,y⟩:=C;unfold TQ;simp only[len];refine AC (λu=>?_) (λu=>Ar.done (.inr ⟨rfl,by rw[BK o!]at y;exact y⟩));obtain⟨k,rfl⟩:=FF w;refine AA (AI w u) λv d=>?_;have d:=d.1;rw[Ct]at d;have a:(yA x k->False)->Ar (some (Step.done (.inl false)):Option (Step Int (Bool ⊕ Unit))) (MK (λ(s:Int)=>0<=s/\s<=x.2.2.2.2.2.length/\ ∀e∈x.2.2.2.2.2.take s.toNat,jY e=true/\e.2.2.2.2.2.2.2=[]) (λ(s:Int)=>((x.2.2.2.2.2.length:Int)-s).toNat) ((x.2.2.2.2.2.length:Int)-(k:Int)).toNat λr=>(r= .inl false/\ ¬ ∀i,yA x i)\/(r= .inr ()/\ ∀e∈x.2.2.2.2.2,jY e=true/\e.2.2.2.2.2.2.2=[])):=λh=>Ar.done (.inl ⟨rfl,λD=>h (D k)⟩);refine D8 Jz λG z B=>AM (λj=>a λok=>?_) (λj=>?_);have:=B (ok v d).1.1;rw[j]at this;cases this;refine AA ACd λH t=>AM (λj=>a λok=>?_) (λm=>?_);have q:=(ok v d).1;have:=t.2 ⟨q.2.1,q.2.2.2.2.1,q.2.2.2.2.2,q.2.2.1,q.2.2.2.1⟩;rw[j]at this;cases this;have q3:=ACb (by rw[z,j]) ((t.1 m).1);have b:Ar (some (Step.next (wi ((k:Int)+1))):Option (Step Int (Bool ⊕ Unit))) (MK (λ(s:Int)=>0<=s/\s<=x.2.2.2.2.2.length/\ ∀e∈x.2.2.2.2.2.take s.toNat,jY e=true/\e.2.2.2.2.2.2.2=[]) (λ(s:Int)=>((x.2.2.2.2.2.length:Int)-s).toNat) ((x.2.2.2.2.2.length:Int)-(k:Int)).toNat λr=>(r= .inl false/\ ¬ ∀i,yA x i)\/(r= .inr ()/\ ∀e∈x.2.2.2.2.2,jY e=true/\e.2.2.2.2.2.2.2=[])):=by
  rw[AX];refine Ar.next ⟨o!,o!,λe p=>?_⟩ o!
  rw[show((k:Int)+1).toNat=k+1 by omega,Ce,d]at p;grind[Option.toList_some,List.mem_singleton]
 have F: ∀f,0<k->x.2.2.2.2.2[k-1]? =some f->ix x.2.2.2.2.2 (wi ((k:Int)-1))=some f:=λf A g=>by rw[show wi ((k:Int)-1)=((k-1:Nat):Int) by rw[AX];omega];unfold ix;grind[Int.toNat_natCast]
 apply AQ<;>intro A;refine AC (λo=>a λok=>?_) (λ_=>b);have:=(ok v d).2.1 o!;omega;have g:x.2.2.2.2.2[k-1]? =some (x.2.2.2.2.2[k-1]):=A4 o!;generalize x.2.2.2.2.2[k-1]=f at g;rw[F f o! g,AD];apply AC<;>intro E;refine AC (λo=>a λok=>?_) (λ_=>b);have:=((ok v d).2.2 f o! g).2.2 o!;omega;have⟨c,n,l⟩:=AAh f v;rw[AD,n,AD];refine AC (λo=>a λok=>?_) (λo=>?_);have:=l.2 ((ok v d).2.2 f o! g).1;omega;refine AK (λhn=>a λok=>hn ?_) (λ_=>b);have:=l.1 o!;unfold ltC at this;exact((ok v d).2.2 f o! g).2.1 o!
def zL{x:Af}:Ar (Vc x) λr=>(VR x->r=true)/\(r=true->jG x/\ ∀e∈x.2.2.2.2.2,jY e=true/\e.2.2.2.2.2.2.2=[]):=by refine AA zK λg c=>AM (λb=>AB ⟨λa=>?_,λa=>(by cases a)⟩) (λb=>?_);have⟨⟨a1,a2,a3,a4,a5,a6,a7,a8,a9⟩,_⟩:=a;grind;have hn:=c.1 b;refine AC (λf=>AB ⟨λa=>?_,λa=>(by cases a)⟩) (λd=>?_);have:=a.1.2.2.2.2.2.2.2.2;grind;simp[len]at d;refine AA (ACc o!) λr hr=>?_;rcases hr with⟨rfl,hr⟩|⟨rfl,hr⟩;exact BG (AB ⟨λa=>absurd a.2 hr,λa=>(by cases a)⟩);exact A3 (AB ⟨λ_=>rfl,λ_=>⟨⟨hn.1,hn.2.1,hn.2.2.1,hn.2.2.2.1,hn.2.2.2.2.1,hn.2.2.2.2.2.1,hn.2.2.2.2.2.2.1,hn.2.2.2.2.2.2.2,o!⟩,hr⟩⟩)
def zQ{p:BW}(h:p.length=33):Eo (p,([80,77,82,78]:List UInt8))=some (p.take 4==[80,77,82,78]):=by grind[Eo,EP,Up,Option.bind]
abbrev ZR:=Int×(Int×(Int×(Int×(Int×Af))))
def vq{p:BW}(x:p.length=33)(t:p.take 4=[80,77,82,78]): ∃b c d e f a:Int,(Av (p,(4,8))=some (b,0)∧Av (p,(12,8))=some (c,0)∧Av (p,(20,4))=some (d,0)∧Av (p,(24,4))=some (e,0)∧Av (p,(28,1))=some (f,0)∧Av (p,(29,4))=some (a,0))∧
  (Bq (p,(4,8))=some (b,0)/\Bq (p,(12,8))=some (c,0)/\Bq (p,(20,4))=some (d,0)/\Bq (p,(24,4))=some (e,0)/\Bq (p,(28,1))=some (f,0)/\Bq (p,(29,4))=some (a,0))/\
  p=[80,77,82,78]++(C5 b 8++(C5 c 8++(C5 d 4++(C5 e 4++(C5 f 1++C5 a 4)))))/\0<=a:=by
 have D:(p.drop 4).length=29:=by rw[FY];omega
 have⟨b,J,a2,g,n,y,l2⟩:=ACQ (k:=8) (at_:=4) (by rw[<-t,Da]:p=[80,77,82,78]++p.drop 4) g! o! g! g! o!;have⟨c,K,a3,h,o,z,E⟩:=ACQ (k:=8) (at_:=12) n (by simp only[Aa,Aw];decide) o! g! g! o!;have⟨d,L,a4,i,q,A,F⟩:=ACQ (k:=4) (at_:=20) o (by simp only[Aa,Aw];decide) o! g! g! o!;have⟨e,M,a5,j,r,B,G⟩:=ACQ (k:=4) (at_:=24) q (by simp only[Aa,Aw];decide) o! g! g! o!;have⟨f,N,a6,l,s,C,H⟩:=ACQ (k:=1) (at_:=28) r (by simp only[Aa,Aw];decide) o! g! g! o!;have⟨a,v,a7,m,w,u,I⟩:=ACQ (k:=4) (at_:=29) s (by simp only[Aa,Aw];decide) o! g! g! o!;have:v=[]:=EL o!;subst this;refine⟨b,c,d,e,f,a,⟨a2,a3,a4,a5,a6,a7⟩,⟨g,h,i,j,l,m⟩,?_,(u.1 g!).1⟩;grind[List.append_assoc]
def yv{x:Af}(h:jG x):(Av (iS x,(4,8))=some (x.1,0)∧Av (iS x,(12,8))=some (x.2.1,0)∧Av (iS x,(20,4))=some (x.2.2.1,0)∧Av (iS x,(24,4))=some (x.2.2.2.1,0)∧Av (iS x,(28,1))=some (x.2.2.2.2.1,0)∧Av (iS x,(29,4))=some ((x.2.2.2.2.2.length:Int),0))∧
  (Bq (iS x,(4,8))=some (x.1,0)/\Bq (iS x,(12,8))=some (x.2.1,0)/\Bq (iS x,(20,4))=some (x.2.2.1,0)/\Bq (iS x,(24,4))=some (x.2.2.2.1,0)/\Bq (iS x,(28,1))=some (x.2.2.2.2.1,0)/\Bq (iS x,(29,4))=some ((x.2.2.2.2.2.length:Int),0)):=by
 have⟨i,j,l,m,n,o⟩:=h.inr;have q:=ln x;have a:iS x=[80,77,82,78]++(C5 x.1 8++(C5 x.2.1 8++(C5 x.2.2.1 4++(C5 x.2.2.2.1 4++(C5 x.2.2.2.2.1 1++(C5 (x.2.2.2.2.2.length:Int) 4++[])))))):=by rw[D4];rfl
 generalize iS x=p at*;have b:=ku (k:=8) (at_:=4) a g! o! g! g! i;rw[<-A6]at a;have c:=ku (k:=8) (at_:=12) a (by simp only[Aa,Aw];decide) o! g! g! j;rw[<-A6]at a;have d:=ku (k:=4) (at_:=20) a (by simp only[Aa,Aw];decide) o! g! g! l;rw[<-A6]at a;have e:=ku (k:=4) (at_:=24) a (by simp only[Aa,Aw];decide) o! g! g! m;rw[<-A6]at a;have f:=ku (k:=1) (at_:=28) a (by simp only[Aa,Aw];decide) o! g! g! n;rw[<-A6]at a;have g:=ku (k:=4) (at_:=29) a (by simp only[Aa,Aw];decide) o! g! g! o;exact⟨⟨b.1,c.1,d.1,e.1,f.1,g.1⟩,⟨b.2,c.2,d.2,e.2,f.2,g.2⟩⟩
def AIj{x p:BW}{n:Int}{z:ZR}{j:BW}(D:x.length≤1099511627776)(l:x=Ib p++j)(hn:0≤n)(o:n≤4096):Ar (AZ (GZ x n) (((Ib p).length:Int),(0,([],z)))) λr=>(∃u,r= .inl u∧u.1≠0)∨
  ∃a b,r= .inr (((Ib p++Ka a).length:Int),(a,z))/\(a.length:Int)=n/\x=(Ib p++Ka a)++b/\ ∀e∈a,IZ e.2.2.2.2.2.2.1.2.2.1/\IZ e.2.2.2.2.2.2.1.2.2.2:=by
 refine Cf (λ(s:Int×(Int×(List EN×ZR)))=> ∃a b,s=(((Ib p++Ka a).length:Int),((a.length:Int),(a,z)))/\(a.length:Int)<=n/\x=(Ib p++Ka a)++b/\ ∀e∈a,IZ e.2.2.2.2.2.2.1.2.2.1/\IZ e.2.2.2.2.2.2.1.2.2.2) (λs=>(n-s.2.1).toNat)
  ⟨[],j,by simp[Ka],by simpa using hn,by simpa[Ka]using l,λe c=>by cases c⟩ ?_
 rintro s ⟨a,b,rfl,E,h,i⟩;unfold GZ;dsimp only;refine AC (λm=>?_) (λm=>Ar.done (.inr ⟨a,b,rfl,o!,h,i⟩));have g:=congrArg List.length h;rw[Aa]at g;rw[(by grind[TU]:Bo (x,((Ib p++Ka a).length:Int))=some (UF (Ib p++Ka a).length b)),AD];refine AK (λc=>Ar.done (.inl ⟨_,rfl,c⟩)) (λc=>?_);have⟨H,⟨d,t⟩,I⟩:=yI c;refine AA (AHm o!) λv q=>AK (λc=>Ar.done (.inl ⟨_,rfl,c⟩)) (λf=>?_);have⟨y,A,B,J,K⟩:=q f;refine AA (Ac w!) λw C=>?_;have k:Ib p++Ka (a++[v.1])=(Ib p++Ka a)++Ib (B9 v.1):=by rw[Sl,A6]
 rw[AX];refine Ar.next ⟨a++[v.1],d,?_,by rw[Aa,Cu,Ck];omega,?_,λe c=>?_⟩ d!
 have F:((Ib p++Ka (a++[v.1])).length:Int)=((Ib p++Ka a).length:Int)+8+((UF (Ib p++Ka a).length b).1.length:Int):=by grind[List.length_append,Ib,Ka,FJ]
 have G:((a++[v.1]).length:Int)=(a.length:Int)+1:=by grind[List.length_append,List.length_cons,List.length_nil]
 grind[Prod.ext];rw[k,<-y,A6,<-t];exact h;rcases A1.1 c with c|c;exact i e c;rw[BI.1 c];exact⟨A,B⟩
def AHn{x:BW}(w:x.length<=1099511627776):Ar (GS x) λr=>r.2=0->x=Rj r.1/\VR r.1:=by unfold GS;have q:Bo (x,0)=some (UF 0 x):=TU (a:=[]) (t:=x) w!;rw[q,AD];refine AK (λh=>AB λb=>absurd b h) (λh=>?_);have⟨Q,⟨P,z⟩,A⟩:=yI h;generalize UF 0 x=v0 at*;refine AK (λ_=>AB λb=>absurd (show(4:Int)=0 from b) g!) (λg=>?_);simp[len]at g;rw[(by grind[Up]:Up v0.1 0 4=some (v0.1.take 4)),AD];refine AK (λ_=>AB λb=>absurd (show(4:Int)=0 from b) g!) (λm=>?_);have⟨K,L,M,N,O,y,⟨a2,a3,a4,a5,a6,a7⟩,⟨C,D,E,F,G,H⟩,J,j⟩:=vq (by omega:v0.1.length=33) (by simpa using m);unfold Bf;rw[a2,a3,a4,a5,a6,a7];simp only[AD];refine AC (λ_=>AB λb=>absurd (show(4:Int)=0 from b) g!) (λo=>?_);rw[(by rw[A,FJ];omega:v0.2.1=((Ib v0.1).length:Int))];refine AA (AIj (n:=y) w z j (by first|omega|(dsimp only;omega))) λr hr=>?_;rcases hr with⟨u,rfl,s⟩|⟨I,e,rfl,i,k,p⟩;grind[BG,AB];apply A3;dsimp only at i⊢;have l:=congrArg List.length k;rw[Aa]at l;refine AK (λ_=>AB λb=>absurd (show(4:Int)=0 from b) g!) (λd=>?_);have c:e=[]:=EL (by simp only[len]at d;omega);subst c;refine AA (bw) λB f=>AM (λ_=>AB λb=>absurd (show(40:Int)=0 from b) g!) (λv=>AB λ_=>⟨?_,f.1 v⟩);grind[Rj,iS]
def AAo{x:Af}(h:VR x):GS (Rj x)=some (x,0):=by
 have D:=h.1.2.2.2.2.2.2.2.2;have j:=h.len;have o:=ln x;have⟨⟨a2,a3,a4,a5,a6,a7⟩,⟨v,y,z,A,B,C⟩⟩:=yv h.1;unfold GS;have p:Bo (Rj x,0)=some (iS x,(((Ib (iS x)).length:Int),0)):=by refine(TU (a:=[]) (t:=Rj x) w!).trans (congrArg some ?_);grind[Rj,jy,FJ,Prod.ext,List.length_nil]
 have l:(iS x).take 4=[80,77,82,78]:=rfl;rw[p,AD];dsimp only[len];rw[show((0:Int) !=0)=false by decide,cond_false,o,show(((33:Nat):Int) !=33)=false by decide,cond_false];rw[(by grind[Up]:Up (iS x) 0 4=some ((iS x).take 4)),AD,l,bne_self_eq_false,cond_false];unfold Bf;rw[a2,a3,a4,a5,a6,a7];simp only[AD];rw[decide_eq_false o!,cond_false];have key:Ar (AZ (GZ (Rj x) (x.2.2.2.2.2.length:Int)) (((Ib (iS x)).length:Int),(0,([],(x.1,(x.2.1,(x.2.2.1,(x.2.2.2.1,(x.2.2.2.2.1,(0,(0,(0,(0,(0,[])))))))))))))) λr=>r= .inr (((Rj x).length:Int),(x.2.2.2.2.2,(x.1,(x.2.1,(x.2.2.1,(x.2.2.2.1,(x.2.2.2.2.1,(0,(0,(0,(0,(0,[])))))))))))):=by
  refine Cf (λ(s:Int×(Int×(List EN×ZR)))=> ∃k:Nat,k<=x.2.2.2.2.2.length/\s=(((Ib (iS x)++Ka (x.2.2.2.2.2.take k)).length:Int),((k:Int),(x.2.2.2.2.2.take k,(x.1,(x.2.1,(x.2.2.1,(x.2.2.2.1,(x.2.2.2.2.1,(0,(0,(0,(0,(0,[])))))))))))))) (λs=>x.2.2.2.2.2.length-s.2.1.toNat)
   ⟨0,Bi _,by simp[Ka]⟩ ?_
  rintro s ⟨k,F,rfl⟩;unfold GZ;dsimp only;refine AC (λn=>?_) (λn=>Ar.done ?_)
  ·have i:k<x.2.2.2.2.2.length:=o!
   have c:=(h.ent (Rc i)).1;have e:Ka x.2.2.2.2.2=Ka (x.2.2.2.2.2.take k)++(Ib (B9 x.2.2.2.2.2[k])++Ka (x.2.2.2.2.2.drop (k+1))):=by grind[oX,List.drop_eq_getElem_cons,Ka,List.flatten_append,List.take_append_drop]
   have d:Rj x=(Ib (iS x)++Ka (x.2.2.2.2.2.take k))++(Ib (B9 x.2.2.2.2.2[k])++Ka (x.2.2.2.2.2.drop (k+1))):=by grind[Rj,List.append_assoc]
   have g:=congrArg List.length d;rw[Aa]at g;have f:Bo (Rj x,((Ib (iS x)++Ka (x.2.2.2.2.2.take k)).length:Int))=some (B9 x.2.2.2.2.2[k],(((Ib (iS x)++Ka (x.2.2.2.2.2.take k)).length:Int)+8+((B9 x.2.2.2.2.2[k]).length:Int),0)):=by
    conv=>lhs;arg 1;rw[d]
    rw[TU o!,jy (Sk c)]
   rw[f,AD];dsimp only;rw[show((0:Int) !=0)=false by decide,cond_false,AET c,AD];dsimp only;rw[show((0:Int) !=0)=false by decide,cond_false];refine AA (Ac (by rw[BM];simp;omega)) λw u=>?_;rw[AX];refine Ar.next ⟨k+1,o!,?_⟩ d!
   rw[u.1,Ce,A4 i,mz,Sl,<-A6,Aa (bs:=Ib (B9 x.2.2.2.2.2[k])),FJ];grind[Prod.ext]
  rw[BK o!];rfl
 obtain⟨r,hr,rfl⟩:=key;rw[hr,AD,nA];dsimp only;rw[show(((Rj x).length:Int) !=len (Rj x))=false from bne_self_eq_false _,cond_false];obtain⟨b,E,q⟩:=(bw)
 have m:b=true:=q.2 h;grind[Bool.not_true]
def AIf{x p:BW}{n:(Int×Int)}{z:ZR}{j:BW}(D:x.length≤1099511627776)(l:x=Ib p++j)(hn:0≤n.1)(o:n.1≤4096):Ar (AZ (Ki x n) (((Ib p).length:Int),(0,([],z)))) λr=>(∃u,r= .inl u∧u.1≠0)∨
  ∃a b,r= .inr (((Ib p++Ka a).length:Int),(a,z))/\(a.length:Int)=n.1/\x=(Ib p++Ka a)++b/\ ∀e∈a,IZ e.2.2.2.2.2.2.1.2.2.1/\IZ e.2.2.2.2.2.2.1.2.2.2:=by
 refine Cf (λ(s:Int×(Int×(List EN×ZR)))=> ∃a b,s=(((Ib p++Ka a).length:Int),((a.length:Int),(a,z)))/\(a.length:Int)<=n.1/\x=(Ib p++Ka a)++b/\ ∀e∈a,IZ e.2.2.2.2.2.2.1.2.2.1/\IZ e.2.2.2.2.2.2.1.2.2.2) (λs=>(n.1-s.2.1).toNat)
  ⟨[],j,by simp[Ka],by simpa using hn,by simpa[Ka]using l,λe c=>by cases c⟩ ?_
 rintro s ⟨a,b,rfl,E,h,i⟩;unfold Ki;dsimp only;refine AC (λm=>?_) (λm=>Ar.done (.inr ⟨a,b,rfl,o!,h,i⟩));have g:=congrArg List.length h;rw[Aa]at g;rw[(by grind[W6]:DX (x,((Ib p++Ka a).length:Int))=some (UF (Ib p++Ka a).length b)),AD];refine AK (λc=>Ar.done (.inl ⟨_,rfl,c⟩)) (λc=>?_);have⟨H,⟨d,t⟩,I⟩:=yI c;refine AA (AHd o!) λv q=>AK (λc=>Ar.done (.inl ⟨_,rfl,c⟩)) (λf=>?_);have⟨y,A,B,J,K⟩:=q f;refine AA (Ac w!) λw C=>?_;have k:Ib p++Ka (a++[v.1])=(Ib p++Ka a)++Ib (B9 v.1):=by rw[Sl,A6]
 rw[AX];refine Ar.next ⟨a++[v.1],d,?_,by rw[Aa,Cu,Ck];omega,?_,λe c=>?_⟩ d!
 have F:((Ib p++Ka (a++[v.1])).length:Int)=((Ib p++Ka a).length:Int)+8+((UF (Ib p++Ka a).length b).1.length:Int):=by grind[List.length_append,Ib,Ka,FJ]
 have G:((a++[v.1]).length:Int)=(a.length:Int)+1:=by grind[List.length_append,List.length_cons,List.length_nil]
 grind[Prod.ext];rw[k,<-y,A6,<-t];exact h;rcases A1.1 c with c|c;exact i e c;rw[BI.1 c];exact⟨A,B⟩
def AHf{x:BW}(H:x.length<=1099511627776):Ar (Kc x) λr=>r.2=0->x=Rj r.1/\WR r.1:=by
 unfold Kc;have E:DX (x,0)=some (UF 0 x):=W6 (a:=[]) (t:=x) w!;rw[E,AD];refine AK (λc=>AB λb=>absurd b c) (λc=>?_);have⟨U,⟨T,J⟩,K⟩:=yI c;generalize UF 0 x=v0 at*;refine AK (λ_=>AB λb=>absurd (show(4:Int)=0 from b) g!) (λk=>?_);simp[len]at k;have q:v0.1.length=33:=o!
 rw[zQ q,AD];refine AM (λ_=>AB λb=>absurd (show(4:Int)=0 from b) g!) (λD=>?_);have⟨O,P,Q,R,S,I,⟨a2,a3,a4,a5,a6,a7⟩,⟨s,v,w,y,z,A⟩,N,m⟩:=vq q (by simpa using D);rw[show wi (4+8)=12 from rfl,show wi (12+8)=20 from rfl,show wi (20+4)=24 from rfl,show wi (24+4)=28 from rfl,show wi (28+1)=29 from rfl];rw[s,v,w,y,z,A];simp only[AD];refine AM (λ_=>AB λb=>absurd (show(4:Int)=0 from b) g!) (λf=>?_);have f:=of_decide_eq_true f;rw[(by rw[K,FJ];omega:v0.2.1=((Ib v0.1).length:Int))];refine AA (AIf (n:=(I,0)) H J m (by first|omega|(dsimp only;omega))) λr hr=>?_;rcases hr with⟨u,rfl,F⟩|⟨M,i,rfl,l,o,g⟩;grind[BG,AB];apply A3;dsimp only at l⊢;have p:=congrArg List.length o;rw[Aa]at p;refine AC (λ_=>AB λb=>absurd (show(4:Int)=0 from b) g!) (λh=>?_);have d:i=[]:=EL (by simp only[len]at h;omega);subst d;refine AA (zL) λL j=>AM (λ_=>AB λb=>absurd (show(40:Int)=0 from b) g!) (λG=>AB λ_=>⟨?_,?_⟩);grind[Rj,iS];have⟨B,C⟩:=j.2 G;exact⟨B,λe c=>⟨(g e c).1,(g e c).2,(C e c).2⟩⟩
def AHe{x:Af}(h:VR x):Kc (Rj x)=some (x,0):=by
 have E:=h.1.2.2.2.2.2.2.2.2;have j:=h.len;have l:=ln x;have⟨⟨a2,a3,a4,a5,a6,a7⟩,⟨m,n,o,p,q,u⟩⟩:=yv h.1;unfold Kc;have B:DX (Rj x,0)=some (iS x,(((Ib (iS x)).length:Int),0)):=by refine(W6 (a:=[]) (t:=Rj x) w!).trans (congrArg some ?_);grind[Rj,jy,FJ,Prod.ext,List.length_nil]
 have v:(iS x).take 4=[80,77,82,78]:=rfl;rw[B,AD];dsimp only[len];rw[show((0:Int) !=0)=false by decide,cond_false,l,show(((33:Nat):Int) !=33)=false by decide,cond_false];rw[zQ l,AD,v,beq_self_eq_true,Cg,cond_false];rw[show wi (4+8)=12 from rfl,show wi (12+8)=20 from rfl,show wi (20+4)=24 from rfl,show wi (24+4)=28 from rfl,show wi (28+1)=29 from rfl];rw[m,n,o,p,q,u];simp only[AD];rw[decide_eq_true o!,Cg,cond_false];have key:Ar (AZ (Ki (Rj x) ((x.2.2.2.2.2.length:Int),0)) (((Ib (iS x)).length:Int),(0,([],(x.1,(x.2.1,(x.2.2.1,(x.2.2.2.1,(x.2.2.2.2.1,(0,(0,(0,(0,(0,[])))))))))))))) λr=>r= .inr (((Rj x).length:Int),(x.2.2.2.2.2,(x.1,(x.2.1,(x.2.2.1,(x.2.2.2.1,(x.2.2.2.2.1,(0,(0,(0,(0,(0,[])))))))))))):=by
  refine Cf (λ(s:Int×(Int×(List EN×ZR)))=> ∃k:Nat,k<=x.2.2.2.2.2.length/\s=(((Ib (iS x)++Ka (x.2.2.2.2.2.take k)).length:Int),((k:Int),(x.2.2.2.2.2.take k,(x.1,(x.2.1,(x.2.2.1,(x.2.2.2.1,(x.2.2.2.2.1,(0,(0,(0,(0,(0,[])))))))))))))) (λs=>x.2.2.2.2.2.length-s.2.1.toNat)
   ⟨0,Bi _,by simp[Ka]⟩ ?_
  rintro s ⟨k,F,rfl⟩;unfold Ki;dsimp only;refine AC (λz=>?_) (λz=>Ar.done ?_)
  ·have i:k<x.2.2.2.2.2.length:=o!
   have c:=(h.ent (Rc i)).1;have A:=Sk c;have d:Ka x.2.2.2.2.2=Ka (x.2.2.2.2.2.take k)++(Ib (B9 x.2.2.2.2.2[k])++Ka (x.2.2.2.2.2.drop (k+1))):=by grind[oX,List.drop_eq_getElem_cons,Ka,List.flatten_append,List.take_append_drop]
   have g:Rj x=(Ib (iS x)++Ka (x.2.2.2.2.2.take k))++(Ib (B9 x.2.2.2.2.2[k])++Ka (x.2.2.2.2.2.drop (k+1))):=by grind[Rj,List.append_assoc]
   have f:=congrArg List.length g;rw[Aa]at f;rw[(by grind[W6,jy]:DX (Rj x,((Ib (iS x)++Ka (x.2.2.2.2.2.take k)).length:Int))=some (B9 x.2.2.2.2.2[k],(((Ib (iS x)++Ka (x.2.2.2.2.2.take k)).length:Int)+8+((B9 x.2.2.2.2.2[k]).length:Int),0))),AD];dsimp only;rw[show((0:Int) !=0)=false by decide,cond_false,AHc c,AD];dsimp only;rw[show((0:Int) !=0)=false by decide,cond_false];refine AA (Ac (by rw[BM];simp;omega)) λw D=>?_;rw[AX];refine Ar.next ⟨k+1,o!,?_⟩ d!
   rw[D.1,Ce,A4 i,mz,Sl,<-A6,Aa (bs:=Ib (B9 x.2.2.2.2.2[k])),FJ];grind[Prod.ext]
  rw[BK o!];rfl
 obtain⟨r,hr,rfl⟩:=key;rw[hr,AD,nA];dsimp only;rw[decide_eq_false (by first|omega|(simp[len];omega)),cond_false];obtain⟨b,y,C⟩:=(zL)
 have e:b=true:=C.1 h;subst e;rw[y,AD,Cg,cond_false]
def AEn{a b n k:Nat}{d:Array NE}(h:a<=k:=by omega)(c:k<a+n:=by omega):swR a b n d k=d[b+(k-a)]! :=if_pos ⟨h,c⟩
def AEo{a b n k:Nat}{d:Array NE}(e:a+n<=b)(h:b<=k:=by omega)(c:k<b+n:=by omega):swR a b n d k=d[a+(k-b)]! :=by unfold swR;rw[if_neg (by omega),if_pos ⟨h,c⟩]
def rZ{a b n k:Nat}{d:Array NE}(h:k<a\/a+n<=k:=by omega)(c:k<b\/b+n<=k:=by omega):swR a b n d k=d[k]! :=by unfold swR;rw[if_neg (by omega),if_neg (by omega)]
def xm(s m e:Nat)(d:Array NE)(k:Nat):NE:=if s<=k/\k<s+(e-m)then d[m+(k-s)]! else if s+(e-m)<=k/\k<e then d[s+(k-(s+(e-m)))]! else d[k]!
def lD{s m e k:Nat}{d:Array NE}(h:s<=k:=by omega)(a:k<s+(e-m):=by omega):xm s m e d k=d[m+(k-s)]! :=if_pos ⟨h,a⟩
def pA{s m e k:Nat}{d:Array NE}(h:s+(e-m)<=k:=by omega)(a:k<e:=by omega):xm s m e d k=d[s+(k-(s+(e-m)))]! :=by unfold xm;rw[if_neg (by omega),if_pos ⟨h,a⟩]
theorem Vh{s m e k:Nat}{d:Array NE}(a:s<=m:=by omega)(b:m<=e:=by omega)(h:k<s\/e<=k:=by omega):xm s m e d k=d[k]! :=by unfold xm;rw[if_neg (by omega),if_neg (by omega)]
def qu{d:Array NE}{x y:Nat}(h:x=y):d[x]! =d[y]! :=by rw[h]
def AEZ{m i j k:Nat}{d e:Array NE}(o:i<=m)(p:1<=j)(l:j<i)(n:m+j<=d.size)(a: ∀k,k<d.size->e[k]! =swR (m-i) m j d k)(b:k<d.size):xm (m-(i-j)) m (m+j) e k=xm (m-i) m (m+j) d k:=by rcases Au k (m-i)with c|c;rw[Vh,Vh,a k b,rZ];rcases Au k (m-i+j)with f|f;rw[Vh,lD,a k b,AEn];rcases Au k (m-(i-j)+j)with g|g;rw[lD,pA,a _ (by omega),AEo (by omega)];exact qu (by omega);rcases Au k (m+j)with h|h;rw[pA,pA,a _ (by omega),rZ];exact qu (by omega);rw[Vh,Vh,a k b,rZ]
def AEa{m i j k:Nat}{d e:Array NE}(p:i<=m)(n:1<=i)(l:i<j)(o:m+j<=d.size)(a: ∀k,k<d.size->e[k]! =swR (m-i) (m+j-i) i d k)(b:k<d.size):xm (m-i) m (m+(j-i)) e k=xm (m-i) m (m+j) d k:=by rcases Au k (m-i)with c|c;rw[Vh,Vh,a k b,rZ];rcases Au k (m-i+(j-i))with f|f;rw[lD,lD,a _ (by omega),rZ];rcases Au k (m+(j-i))with g|g;rw[pA,lD,a _ (by omega),AEn];exact qu (by omega);rcases Au k (m+j)with h|h;rw[Vh,pA,a _ (by omega),AEo (by omega)];exact qu (by omega);rw[Vh,Vh,a k b,rZ]
def ACn{d:Array NE}{a m b:Nat}(C:a<m)(D:m<b)(E:b≤d.size)(G:d.size≤16777216):
  Ar (Eb d.toList ((a:Int),((m:Int),(b:Int)))) λr=> ∃e:Array NE,r=e.toList/\e.size=d.size/\ ∀k,k<d.size->e[k]! =xm a m b d k:=by
 unfold Eb;have q:wi ((m:Int)-(a:Int))=((m-a:Nat):Int):=by rw[nh];omega
 have t:wi ((b:Int)-(m:Int))=((b-m:Nat):Int):=by rw[nh];omega
 dsimp only;rw[q,t];refine AA (P:=λ(r:Int×List NE)=> ∃(i:Nat) (e:Array NE),r.1=i/\r.2=e.toList/\1<=i/\i<=m-a/\m+i<=b/\e.size=d.size/\ ∀k,k<d.size->xm (m-i) m (m+i) e k=xm a m b d k) ?_ ?_;refine AV (λ(s:Int×(Int×List NE))=> ∃(i j:Nat) (e:Array NE),s.1=i/\s.2.1=j/\s.2.2=e.toList/\1<=i/\1<=j/\i<=m-a/\m+j<=b/\e.size=d.size/\ ∀k,k<d.size->xm (m-i) m (m+j) e k=xm a m b d k) (λs=>(s.1+s.2.1).toNat)
  ⟨m-a,b-m,d,rfl,rfl,rfl,by omega,by omega,Am _,by omega,rfl,λk _=>by rw[show m-(m-a)=a by omega,show m+(b-m)=b by omega]⟩ ?_
 rintro⟨H,I,J⟩ ⟨i,j,e,q1,q2,q3,q4,q5,q6,q7,q8,q9⟩;dsimp only at q1 q2 q3;subst q1 q2 q3;unfold Ir;dsimp only;have o:wi ((m:Int)-(i:Int))=((m-i:Nat):Int):=by rw[nh];omega
 rw[o];refine AK (λB=>?_) (λA=>AB ⟨i,e,rfl,rfl,q4,q6,by omega,q8,λk g=>?_⟩);apply AC<;>intro F;apply AA (xu (d:=e) (a:=m-i) (b:=m) (n:=j) (by omega) (by omega) (by omega));rintro v ⟨f,rfl,h,l⟩;have c:Nat.beq (List.length f.toList) (List.length e.toList)=true:=by rw[Dh,Dh,h];exact HB _
 have p:wi ((i:Int)-(j:Int))=((i-j:Nat):Int):=by rw[nh];omega
 rw[c,cond_true,p];refine AB ⟨⟨i-j,j,f,rfl,rfl,rfl,by omega,q5,by omega,q7,by omega,λk g=>?_⟩,?_⟩;rw[AEZ (by omega) q5 (by omega) (by omega) l (by omega),q9 k g];show(((i-j:Nat):Int)+(j:Int)).toNat<((i:Int)+(j:Int)).toNat
 omega;have u:wi (wi ((m:Int)+(j:Int))-(i:Int))=((m+j-i:Nat):Int):=by rw[nh (x:=(m:Int)+(j:Int)),nh];omega
 rw[u];apply AA (xu (d:=e) (a:=m-i) (b:=m+j-i) (n:=i) (by omega) (by omega) (by omega));rintro v ⟨f,rfl,h,l⟩;have c:Nat.beq (List.length f.toList) (List.length e.toList)=true:=by rw[Dh,Dh,h];exact HB _
 have p:wi ((j:Int)-(i:Int))=((j-i:Nat):Int):=by rw[nh];omega
 rw[c,cond_true,p];refine AB ⟨⟨i,j-i,f,rfl,rfl,rfl,q4,by omega,q6,by omega,by omega,λk g=>?_⟩,?_⟩;rw[AEa (by omega) q4 (by omega) (by omega) l (by omega),q9 k g];show((i:Int)+((j-i:Nat):Int)).toNat<((i:Int)+(j:Int)).toNat
 omega;have:j=i:=by omega
 subst this;exact q9 k g;rintro⟨K,L⟩ ⟨i,e,q1,q2,q3,q4,q5,q6,q7⟩;dsimp only at q1 q2;subst q1 q2;dsimp only;have o:wi ((m:Int)-(i:Int))=((m-i:Nat):Int):=by rw[nh];omega
 rw[o];apply AA (xu (d:=e) (a:=m-i) (b:=m) (n:=i) (by omega) (by omega) (by omega));rintro v ⟨f,rfl,h,l⟩;have c:Nat.beq (List.length f.toList) (List.length e.toList)=true:=by rw[Dh,Dh,h];exact HB _
 rw[c,cond_true];refine AB ⟨f,rfl,by omega,λk g=>?_⟩;rw[<-q7 k g,l k (by omega)];rcases Au k (m-i)with w|w;rw[rZ,Vh];rcases Au k m with y|y;rw[AEn,lD];rcases Au k (m+i)with z|z;rw[AEo (by omega),pA];exact qu (by omega);rw[rZ,Vh]
def zG{i j:Nat}(h:i+j<=1099511627776):wi (Int.fdiv (IntKind.wrap .u64 (wi ((i:Int)+(j:Int)))) (2^(min (Int.toNat 1) 64)))=(((i+j)/2:Nat):Int):=by rw[AAa];omega
def bs{body:Int×Int→Option (Step (Int×Int) Int)}{P:Nat→Bool}{b a:Nat}(m: ∀i:Nat,body ((i:Int),(i:Int))=some (.done (i:Int)))
  (s: ∀i j:Nat,b<=i->i<j->j<=a->body ((i:Int),(j:Int))=some (.next (if P ((i+j)/2)=true then((((i+j)/2+1:Nat):Int),(j:Int))else((i:Int),(((i+j)/2:Nat):Int))))) (l:b<=a):
  ∃r:Nat,AZ body ((b:Int),(a:Int))=some (r:Int)/\b<=r/\r<=a/\(b<r->P (r-1)=true)/\(r<a->P r=false):=by
 suffices h: ∀n i j:Nat,j-i<=n->b<=i->i<=j->j<=a->(b<i->P (i-1)=true)->(j<a->P j=false)-> ∃r:Nat,AZ body ((i:Int),(j:Int))=some (r:Int)/\b<=r/\r<=a/\(b<r->P (r-1)=true)/\(r<a->P r=false)from
  h _ b a (Am _) (Am _) l (Am _) (λh=>absurd h o!) (λh=>absurd h o!)
 intro n;induction n with
 |zero=>
  intro i j p c q d e f;have:i=j:=o!
  subst this;rw[Dv,m];exact⟨i,rfl,c,d,e,f⟩
 |succ n o=>intro i j p c q d e f;rw[Dv];by_cases k:i=j;subst k;rw[m];exact⟨i,rfl,c,d,e,f⟩;rw[s i j c o! d];by_cases g:P ((i+j)/2)=true;rw[if_pos g];exact o _ j o! o! o! d (λ_=>by rw[Nat.add_sub_cancel];exact g) f;rw[if_neg g];exact o i _ o! c o! o! e (λ_=>by simpa using g)
def AIn{d:Array NE}{a m b:Nat}(o:a<d.size)(g:m≤b)(p:b≤d.size)(q:d.size≤16777216)(c:Int×Int):
  ∃r:Nat,AZ (C4 d.toList ((a:Int),c)) ((m:Int),(b:Int))=some (r:Int)/\m<=r/\r<=b/\(m<r->lN d[r-1]! d[a]! =true)/\(r<b->lN d[r]! d[a]! =false):=by
 refine bs (P:=λk=>lN d[k]! d[a]!) (λi=>?_) (λi j h l n=>?_) g;unfold C4;have:decide ((i:Int)<(i:Int))=false:=by simp
 dsimp only;rw[this,cond_false];unfold C4;have:decide ((i:Int)<(j:Int))=true:=by simp;omega
 dsimp only;rw[this,cond_true,zG (by omega)];obtain⟨v,e,f⟩:=AF9 d[(i+j)/2]! d[a]!;rw[ixG (k:=(i+j)/2) rfl,ixG (k:=a) rfl];simp only[AD,e,f,wip (i:=(i+j)/2)];cases lN d[(i+j)/2]! d[a]! <;>rfl
def AIo{d:Array NE}{a r b:Nat}(h:a<r)(hr:r≤b)(w:b≤d.size)(x:d.size≤16777216):
  Ar (AZ (Dz (r:Int)) ((a:Int),d.toList)) λq=> ∃e:Array NE,q=e.toList/\Sort.PermIn a b d e/\(∀t,a<=t->t<r-1->e[t]! =d[t+1]!)/\e[r-1]! =d[a]! /\ ∀t,r<=t->e[t]! =d[t]! :=by
 refine AV (λ(s:Int×List NE)=> ∃(k:Nat) (e:Array NE),s.1=k/\s.2=e.toList/\a<=k/\k<r/\Sort.PermIn a b d e/\(∀t,a<=t->t<k->e[t]! =d[t+1]!)/\e[k]! =d[a]! /\ ∀t,k<t->e[t]! =d[t]!) (λs=>r-s.1.toNat) ⟨a,d,rfl,rfl,Am _,h,Sort.permIn_refl _ _ _,λt _ _=>o!,rfl,λt _=>rfl⟩ ?_;rintro⟨z,A⟩ ⟨k,e,q1,q2,q3,q4,q5,q6,q7,q8⟩;dsimp only at q1 q2;subst q1 q2;have y:=q5.1;unfold Dz;dsimp only;have l:wi ((r:Int)-1)=((r-1:Nat):Int):=by rw[wim];omega
 rw[l];refine AC (λn=>?_) (λn=>AB ⟨e,rfl,q5,λt g m=>q6 t g o!,?_,λt o=>q8 t o!⟩);have p:ix e.toList ((k+1:Nat):Int)=some e[k+1]! :=ixG rfl;have u:ix e.toList (k:Int)=some e[k]! :=ixG rfl;have v:ix (E4 e.toList (k:Int) e[k+1]!) ((k+1:Nat):Int)=some (e.setIfInBounds k e[k+1]!)[k+1]! :=AFf rfl rfl;simp only[wip (i:=k),p,u,v,AD,AGK (d:=e) (a:=k) (b:=k+1) rfl rfl];have c:=Sort.swp_get e (i:=k) (j:=k+1) o! o!;refine AB ⟨⟨k+1,_,rfl,rfl,o!,o!,Sort.permIn_trans _ _ _ _ _ q5 (Sort.swp_permIn e a b k (k+1) q3 o! o! o! o!),λt g m=>?_,?_,λt o=>?_⟩,?_⟩;rw[c,if_neg o!];by_cases f:t=k;subst f;rw[if_pos rfl];exact q8 _ o!;rw[if_neg f];exact q6 t g o!;rw[c,if_pos rfl];exact q7;rw[c,if_neg o!,if_neg o!];exact q8 t o!;show r-((k+1:Nat):Int).toNat<r-((k:Nat):Int).toNat
 omega;have:k=r-1:=o!
 rw[<-this];exact q7
def AEh{d:Array NE}{a b:Nat}(o:a+1≤b)(z:b≤d.size)(A:d.size≤16777216)(k:Sort.SortedIn lN (a+1) b d)(c:Int×Int):
  Ar (Option.bind (AZ (C4 d.toList ((a:Int),c)) (((a+1:Nat):Int),(b:Int))) λv=>Option.bind (AZ (Dz v) ((a:Int),d.toList)) λw=>some w) λq=> ∃e:Array NE,q=e.toList/\Sort.PermIn a b d e/\Sort.SortedIn lN a b e:=by
 obtain⟨r,g,H,I,J,K⟩:=AIn (d:=d) (a:=a) (m:=a+1) (b:=b) o! o z A c;rw[g,AD];apply AA (AIo (d:=d) (a:=a) (r:=r) (b:=b) o! I z A);rintro q ⟨e,rfl,G,n,B,C⟩;refine AB ⟨e,rfl,G,λx y p s u=>?_⟩;have W:=ur;have F: ∀t,a+1<=t->t<r->lN d[a]! d[t]! =false:=λt h l=>by
  have f:=J o!;cases D:lN d[a]! d[t]! with
  |false=>rfl
  |true=>have i:=W.trans _ _ _ f D;rcases Au t (r-1)with j|j;exact absurd i (by rw[k t (r-1) h j o!];decide);rw[show t=r-1 by omega,W.irrefl]at i;cases i
 have E: ∀t,r<=t->t<b->lN d[t]! d[a]! =false:=λt h l=>by have f:=K o!;rcases Au r t with j|j;exact W.ntrans _ _ _ (k r t H j l) f;rw[show t=r by omega];exact f
 rcases Au y (r-1)with h|h;rw[n x p o!,n y o! h];exact k (x+1) (y+1) o! o! o!;rcases Au (r-1) y with l|l;rw[C y o!];rcases Au x (r-1)with f|f;rw[n x p f];exact k (x+1) y o! o! u;rcases Au (r-1) x with i|i;rw[C x o!];exact k x y o! s u;rw[show x=r-1 by omega,B];exact E y o! u;rw[show y=r-1 by omega,B,n x p o!];exact F (x+1) o! o!
def AIp{d:Array NE}{a m:Nat}(l:a≤m)(w:m<d.size)(u:d.size≤16777216)(b:Int):
  ∃r:Nat,AZ (CG d.toList ((a:Int),((m:Int),b))) ((a:Int),(m:Int))=some (r:Int)/\a<=r/\r<=m/\(a<r->lN d[m]! d[r-1]! =false)/\(r<m->lN d[m]! d[r]! =true):=by
 have c: ∀i:Nat,CG d.toList ((a:Int),((m:Int),b)) ((i:Int),(i:Int))=some (.done (i:Int)):=λi=>by
  unfold CG;have:decide ((i:Int)<(i:Int))=false:=by simp
  dsimp only;rw[this,cond_false]
 have e: ∀i j:Nat,a<=i->i<j->j<=m->CG d.toList ((a:Int),((m:Int),b)) ((i:Int),(j:Int))=some (.next (if(!lN d[m]! d[(i+j)/2]!)=true then((((i+j)/2+1:Nat):Int),(j:Int))else((i:Int),(((i+j)/2:Nat):Int)))):=λi j q s t=>by
  unfold CG;have:decide ((i:Int)<(j:Int))=true:=by simp;omega
  dsimp only;rw[this,cond_true,zG (by omega)];obtain⟨v,f,g⟩:=AF9 d[m]! d[(i+j)/2]!;rw[ixG (k:=(i+j)/2) rfl,ixG (k:=m) rfl];simp only[AD,f,g,wip (i:=(i+j)/2)];cases lN d[m]! d[(i+j)/2]! <;>rfl
 obtain⟨r,f,g,n,o,p⟩:=bs (P:=λk=>!lN d[m]! d[k]!) c e l;exact⟨r,f,g,n,λh=>by simpa using o h,λh=>by simpa using p h⟩
def AIq{d:Array NE}{a r m:Nat}(n:a≤r)(hr:r≤m)(y:m<d.size)(x:d.size≤16777216):
  Ar (AZ (D0 (r:Int)) ((m:Int),d.toList)) λq=> ∃e:Array NE,q=e.toList/\Sort.PermIn a (m+1) d e/\(∀t,r<t->t<=m->e[t]! =d[t-1]!)/\e[r]! =d[m]! /\ ∀t,t<r->e[t]! =d[t]! :=by
 refine AV (λ(s:Int×List NE)=> ∃(k:Nat) (e:Array NE),s.1=k/\s.2=e.toList/\r<=k/\k<=m/\Sort.PermIn a (m+1) d e/\(∀t,k<t->t<=m->e[t]! =d[t-1]!)/\e[k]! =d[m]! /\ ∀t,t<k->e[t]! =d[t]!) (λs=>s.1.toNat) ⟨m,d,rfl,rfl,hr,Am _,Sort.permIn_refl _ _ _,λt _ _=>o!,rfl,λt _=>rfl⟩ ?_;rintro⟨A,B⟩ ⟨k,e,q1,q2,q3,q4,q5,q6,q7,q8⟩;dsimp only at q1 q2;subst q1 q2;have z:=q5.1;unfold D0;dsimp only;refine AC (λo=>?_) (λo=>AB ⟨e,rfl,q5,λt l g=>q6 t o! g,?_,λt p=>q8 t o!⟩);have h:wi ((k:Int)-1)=((k-1:Nat):Int):=by rw[wim];omega
 have u:ix e.toList ((k-1:Nat):Int)=some e[k-1]! :=ixG rfl;have v:ix e.toList (k:Int)=some e[k]! :=ixG rfl;have w:ix (E4 e.toList (k:Int) e[k-1]!) ((k-1:Nat):Int)=some (e.setIfInBounds k e[k-1]!)[k-1]! :=AFf rfl rfl;simp only[h,u,v,w,AD,AGK (d:=e) (a:=k) (b:=k-1) rfl rfl];have c:=Sort.swp_get e (i:=k) (j:=k-1) o! o!;refine AB ⟨⟨k-1,_,rfl,rfl,o!,o!,Sort.permIn_trans _ _ _ _ _ q5 (Sort.swp_permIn e a (m+1) k (k-1) o! o! o! o! o!),λt l g=>?_,?_,λt p=>?_⟩,?_⟩;rw[c,if_neg o!];by_cases f:t=k;subst f;rw[if_pos rfl];exact q8 _ o!;rw[if_neg f];exact q6 t o! g;rw[c,if_pos rfl];exact q7;rw[c,if_neg o!,if_neg o!];exact q8 t o!;show((k-1:Nat):Int).toNat<((k:Nat):Int).toNat
 omega;have:k=r:=o!
 rw[<-this];exact q7
def AGG{d:Array NE}{a m:Nat}(n:a≤m)(u:m<d.size)(s:d.size≤16777216)(k:Sort.SortedIn lN a m d)(b:Int):
  Ar (Option.bind (AZ (CG d.toList ((a:Int),((m:Int),b))) ((a:Int),(m:Int))) λv=>Option.bind (AZ (D0 v) ((m:Int),d.toList)) λw=>some w) λq=> ∃e:Array NE,q=e.toList/\Sort.PermIn a (m+1) d e/\Sort.SortedIn lN a (m+1) e:=by
 obtain⟨r,g,B,G,H,I⟩:=AIp (d:=d) (a:=a) (m:=m) n u s b;rw[g,AD];apply AA (AIq (d:=d) (a:=a) (r:=r) (m:=m) B G u s);rintro q ⟨e,rfl,F,z,A,l⟩;refine AB ⟨e,rfl,F,λx y o p J=>?_⟩;have W:=ur;have E: ∀t,a<=t->t<r->lN d[m]! d[t]! =false:=λt h i=>by have c:=H o!;rcases Au t (r-1)with j|j;exact W.ntrans _ _ _ c (k t (r-1) h j o!);rw[show t=r-1 by omega];exact c
 have D: ∀t,r<=t->t<m->lN d[t]! d[m]! =false:=λt h i=>by
  have c:=I o!;cases C:lN d[t]! d[m]! with
  |false=>rfl
  |true=>have f:=W.trans _ _ _ C c;rcases Au r t with j|j;exact absurd f (by rw[k r t B j i];decide);rw[show t=r by omega,W.irrefl]at f;cases f
 rcases Au y r with h|h;rw[l x o!,l y h];exact k x y o p o!;rcases Au r y with i|i;rw[z y i o!];rcases Au x r with c|c;rw[l x c];exact k x (y-1) o o! o!;rcases Au r x with f|f;rw[z x f o!];exact k (x-1) (y-1) o! o! o!;rw[show x=r by omega,A];exact D (y-1) o! o!;rw[show y=r by omega,A,l x o!];exact E x o o!
def AIr{d:Array NE}{a m b lo hi:Nat}(l:lo≤hi)(s:a≤lo)(t:hi≤m)(u:(a+b)/2+m-lo≤b)(y:hi≤(a+b)/2+m)(w:m≤b)(z:b≤d.size)(A:d.size≤16777216):
  ∃r:Nat,AZ (CZ d.toList ((a:Int),((m:Int),(b:Int)))) ((lo:Int),(hi:Int))=some (r:Int)/\lo<=r/\r<=hi/\(lo<r->lN d[(a+b)/2+m-1-(r-1)]! d[r-1]! =false)/\(r<hi->lN d[(a+b)/2+m-1-r]! d[r]! =true):=by
 have c: ∀i:Nat,CZ d.toList ((a:Int),((m:Int),(b:Int))) ((i:Int),(i:Int))=some (.done (i:Int)):=λi=>by
  unfold CZ;have:decide ((i:Int)<(i:Int))=false:=by simp
  dsimp only;rw[this,cond_false]
 have e: ∀i j:Nat,lo<=i->i<j->j<=hi->CZ d.toList ((a:Int),((m:Int),(b:Int))) ((i:Int),(j:Int))=some (.next (if(!lN d[(a+b)/2+m-1-(i+j)/2]! d[(i+j)/2]!)=true then((((i+j)/2+1:Nat):Int),(j:Int))else((i:Int),(((i+j)/2:Nat):Int)))):=λi j s t u=>by
  unfold CZ;have:decide ((i:Int)<(j:Int))=true:=by simp;omega
  dsimp only;rw[this,cond_true,zG (i:=i) (j:=j) (by omega),zG (i:=a) (j:=b) (by omega)];have n:wi (wi (wi ((((a+b)/2:Nat):Int)+(m:Int))-1)-(((i+j)/2:Nat):Int))=(((a+b)/2+m-1-(i+j)/2:Nat):Int):=by rw[nh (x:=(((a+b)/2:Nat):Int)+(m:Int)),nh (x:=(((a+b)/2:Nat):Int)+(m:Int)-1),nh];omega
  obtain⟨v,f,g⟩:=AF9 d[(a+b)/2+m-1-(i+j)/2]! d[(i+j)/2]!;rw[n,ixG (k:=(i+j)/2) rfl,ixG (k:=(a+b)/2+m-1-(i+j)/2) rfl];simp only[AD,f,g,wip (i:=(i+j)/2)];cases lN d[(a+b)/2+m-1-(i+j)/2]! d[(i+j)/2]! <;>rfl
 obtain⟨r,f,g,o,p,q⟩:=bs (P:=λk=>!lN d[(a+b)/2+m-1-k]! d[k]!) c e l;exact⟨r,f,g,o,λh=>by simpa using p h,λh=>by simpa using q h⟩
def AF8{s m e:Nat}{d f:Array NE}(o:s<=m)(p:m<=e)(b:e<=d.size)(c:f.size=d.size)(h: ∀k,k<d.size->f[k]! =xm s m e d k):Sort.PermIn s e d f:=by
 refine⟨c,λi a=>?_,?_⟩;grind[Nat.lt_or_ge,Vh];have key: ∀(g:Nat->NE) (s n:Nat),(List.range' s n).map g=(List.range n).map λi=>g (s+i):=λg s n=>by rw[List.range'_eq_map_range,Qu];rfl
 rw[Sort.extract_toList f s e o!,Sort.extract_toList d s e b];have j:List.range' s (e-s)=List.range' s (e-m)++List.range' (s+(e-m)) (m-s):=q!
 have l:List.range' s (e-s)=List.range' s (m-s)++List.range' (s+(m-s)) (e-m):=q!
 have l1:(List.range' s (e-m)).map (λi=>f[i]!)=(List.range' (s+(m-s)) (e-m)).map λi=>d[i]! :=by rw[key,key];refine M6 λi a=>?_;have:=Hj.1 a;rw[h _ o!,lD];simp_all
 have l2:(List.range' (s+(e-m)) (m-s)).map (λi=>f[i]!)=(List.range' s (m-s)).map λi=>d[i]! :=by rw[key,key];refine M6 λi a=>?_;have:=Hj.1 a;rw[h _ o!,pA];simp_all
 grind
def yG(a b:Nat)(d e:Array NE):Prop:=Sort.PermIn a b d e/\Sort.SortedIn lN a b e
def pC{a m b:Nat}{d:Array NE}(h:m<=a\/b<=m)(c:Sort.SortedIn lN a m d)(e:Sort.SortedIn lN m b d)(f:a<=m)(g:m<=b):Sort.SortedIn lN a b d:=by
 rcases h with h|h;have:m=a:=o!
 rw[<-this];exact e;have:m=b:=o!
 rw[<-this];exact c
def AJu{C:List NE×(Int×(Int×Int))→Option (List NE)}{N a m b:Nat}{d:Array NE}(a3:a<m)(a4:m<b)(hb:b≤d.size)(hd:d.size≤16777216)(s:Sort.SortedIn lN a m d)(A:Sort.SortedIn lN m b d)
  (O: ∀(S:Array NE) (V m' R:Nat),V<m'->m'<R->R<=S.size->S.size<=16777216->Sort.SortedIn lN V m' S->Sort.SortedIn lN m' R S->PT (R-V<=N) (C (S.toList,((V:Int),((m':Int),(R:Int))))) λr=> ∃e:Array NE,r=e.toList/\yG V R S e):
  PT (b-a<=N+1) (B7 C d.toList ((a:Int),((m:Int),(b:Int)))) λr=> ∃e:Array NE,r=e.toList/\yG a b d e:=by
 have W:=ur;unfold B7;have e0:wi ((m:Int)-(a:Int))=((m-a:Nat):Int):=by grind[nh]
 have e1:wi ((b:Int)-(m:Int))=((b-m:Nat):Int):=by grind[nh]
 dsimp only;rw[e0,e1,zG (i:=a) (j:=b) (by omega)];apply PT.cond<;>intro Q;have Q:m=a+1:=by have:=eq_of_beq Q;omega
 subst Q;exact kY (AEh (by omega) hb hd A _);apply PT.cond<;>intro n;have n:b=m+1:=by have:=eq_of_beq n;omega
 subst n;exact kY (AGG (by omega) hb hd s _);have n1:m-a≠1:=λh=>by rw[h]at Q;exact absurd Q (by decide)
 have n2:b-m≠1:=λh=>by rw[h]at n;exact absurd n (by decide)
 have Y:a<(a+b)/2/\(a+b)/2<b:=by omega
 generalize hM:(a+b)/2=M at Y⊢;have e2:wi ((M:Int)+(m:Int))=((M+m:Nat):Int):=by rw[nh];omega
 rw[e2];refine PT.bind (P:=λv=> ∃L J:Nat,v=((L:Int),(J:Int))/\L<=J/\a<=L/\J<=m/\J<=M/\M+m-L<=b/\(L=a\/M+m-L=b)/\(J=m\/J=M)) ?_ ?_;refine PT.dec (λhc=>PT.some ⟨M+m-b,M,?_,by omega⟩) (λhc=>PT.some ⟨a,m,rfl,by omega⟩);rw[nh];exact congrArg (λz=>(z,(M:Int))) (by omega);rintro v ⟨L,J,rfl,f1,f2,f3,f4,f5,f6,f7⟩;have⟨r,g,r1,r2,r3,r4⟩:=AIr (d:=d) (a:=a) (m:=m) (b:=b) (lo:=L) (hi:=J) f1 f2 f3 (by omega) (by omega) (by omega) hb hd;rw[hM]at r3 r4;rw[g,AD];have e3:wi (((M+m:Nat):Int)-(r:Int))=((M+m-r:Nat):Int):=by rw[nh];omega
 simp only[e3];obtain⟨E,hE⟩: ∃E,E=M+m-r:=⟨_,rfl⟩
 rw[<-hE];have c1:a<r->E<b->lN d[E]! d[r-1]! =false:=λQ n=>by have:=r3 (by omega);rw[show M+m-1-(r-1)=E by omega]at this;exact this
 have c2:r<m->m<E->lN d[E-1]! d[r]! =true:=λQ n=>by have:=r4 (by omega);rw[show M+m-1-r=E-1 by omega]at this;exact this
 have s3: ∀c l:Array NE,Sort.PermIn a b d c->(∀k,k<d.size->c[k]! =xm r m E d k)->yG a M c l->PT (b-a<=N+1) (bif decide ((M:Int)<(E:Int))then Option.bind (bif decide ((E:Int)<(b:Int))then Option.bind (C (l.toList,((M:Int),((E:Int),(b:Int))))) λv=>bif Nat.beq (List.length v) (List.length l.toList)then some v else none else some l.toList) λv=>some v else some l.toList) λq=> ∃e:Array NE,q=e.toList/\yG a b d e:=by
  intro c l U f n;have z1:c.size=d.size:=U.1;have z2:l.size=c.size:=n.1.1;have ap: ∀k,k<r->c[k]! =d[k]! :=λk hk=>by rw[f k (by omega),Vh]
  have ar: ∀k,r<=k->k<M->c[k]! =d[m+(k-r)]! :=λk h h'=>by rw[f k (by omega),lD]
  have H: ∀k,M<=k->k<E->c[k]! =d[r+(k-M)]! :=λk h h'=>by rw[f k (by omega),pA];exact qu (by omega)
  have I: ∀k,E<=k->k<b->c[k]! =d[k]! :=λk h h'=>by rw[f k (by omega),Vh]
  have ax: ∀x y,a<=x->x<M->M<=y->y<b->lN c[y]! c[x]! =false:=by
   intro x y F a2 G K;rcases Au x r with q1|q1;rw[ap x q1];rcases Au y E with q2|q2;rw[H y G q2];exact s x _ F (by omega) (by omega);rw[I y q2 K];have k1:lN d[y]! d[E]! =false:=by rcases Au E y with q3|q3;exact A E y (by omega) q3 K;rw[show y=E by omega];exact W.irrefl _
   have k2:lN d[r-1]! d[x]! =false:=by rcases Au x (r-1)with q3|q3;exact s x (r-1) F q3 (by omega);rw[show r-1=x by omega];exact W.irrefl _
   exact W.ntrans _ _ _ (W.ntrans _ _ _ k1 (c1 (by omega) (by omega))) k2;rw[ar x q1 a2];rcases Au y E with q2|q2;rw[H y G q2];have hc:=c2 (by omega) (by omega);have k1:lN d[E-1]! d[m+(x-r)]! =false:=by rcases Au (m+(x-r)) (E-1)with q3|q3;exact A _ (E-1) (by omega) q3 (by omega);rw[show m+(x-r)=E-1 by omega];exact W.irrefl _
   refine W.ntrans _ d[E-1]! _ ?_ k1;cases hk:lN d[r+(y-M)]! d[E-1]! with
   |false=>rfl
   |true=>have k2:=W.trans _ _ _ hk hc;rcases Au r (r+(y-M))with q3|q3;exact absurd k2 (by rw[s r _ (by omega) q3 (by omega)];decide);rw[show r+(y-M)=r by omega,W.irrefl]at k2;cases k2
   rw[I y q2 K];exact A _ y (by omega) (by omega) K
  have X: ∀d3:Array NE,yG M b l d3->yG a b d d3:=λd3 T=>by refine⟨Sort.permIn_trans _ _ _ _ _ U (Sort.permIn_trans _ _ _ _ _ (Sort.permIn_mono _ _ a M a b (by omega) (by omega) (by omega) n.1) (Sort.permIn_mono _ _ M b a b (by omega) (by omega) (by omega) T.1)),λx y F B G=>?_⟩;rcases Au y M with q1|q1;rw[T.1.2.1 x (by omega),T.1.2.1 y (by omega)];exact n.2 x y F B q1;rcases Au x M with q2|q2;rw[T.1.2.1 x (by omega)];refine Sort.permIn_all l d3 M b (λz=>lN z l[x]! =false) (by omega) T.1 (λw hw a1=>?_) y q1 G;rw[n.1.2.1 w (by omega)];exact Sort.permIn_all c l a M (λz=>lN c[w]! z=false) (by omega) n.1 (λu hu a0=>ax u w hu a0 hw a1) x F q2;exact T.2 x y q2 B G
  have al:Sort.SortedIn lN M E l:=λx y F B G=>by rw[n.1.2.1 x (by omega),n.1.2.1 y (by omega),H x F (by omega),H y (by omega) G];exact s _ _ (by omega) (by omega) (by omega)
  have ao:Sort.SortedIn lN E b l:=λx y F B G=>by rw[n.1.2.1 x (by omega),n.1.2.1 y (by omega),I x F (by omega),I y (by omega) G];exact A _ _ (by omega) (by omega) (by omega)
  have o:E<=M\/b<=E->yG a b d l:=λh=>X l ⟨Sort.permIn_refl _ _ _,pC h al ao (by omega) (by omega)⟩;refine PT.dec (λq1=>PT.bind (P:=λq=> ∃e:Array NE,q=e.toList/\yG a b d e) (PT.dec (λq2=>?_) (λq2=>PT.some ⟨l,rfl,o (by omega)⟩)) λr h=>PT.some h) (λq1=>PT.some ⟨l,rfl,o (by omega)⟩);have hr:=O l M E b (by omega) (by omega) (by omega) (by omega) al ao;refine PT.bind (P:=λq=> ∃e:Array NE,q=e.toList/\yG M b l e) ⟨λt=>hr.1 (by omega),hr.2⟩ ?_;rintro q ⟨e,rfl,D⟩;exact bF (by rw[Dh,Dh,D.1.1]) (PT.some ⟨e,rfl,X e D⟩)
 have s2: ∀c:Array NE,Sort.PermIn a b d c->(∀k,k<d.size->c[k]! =xm r m E d k)->PT (b-a<=N+1) (bif decide ((a:Int)<(r:Int))then Option.bind (bif decide ((r:Int)<(M:Int))then Option.bind (C (c.toList,((a:Int),((r:Int),(M:Int))))) λv=>bif Nat.beq (List.length v) (List.length c.toList)then some v else none else some c.toList) λv=>(bif decide ((M:Int)<(E:Int))then Option.bind (bif decide ((E:Int)<(b:Int))then Option.bind (C (v,((M:Int),((E:Int),(b:Int))))) λw=>bif Nat.beq (List.length w) (List.length v)then some w else none else some v) λw=>some w else some v)else(bif decide ((M:Int)<(E:Int))then Option.bind (bif decide ((E:Int)<(b:Int))then Option.bind (C (c.toList,((M:Int),((E:Int),(b:Int))))) λw=>bif Nat.beq (List.length w) (List.length c.toList)then some w else none else some c.toList) λw=>some w else some c.toList)) λq=> ∃e:Array NE,q=e.toList/\yG a b d e:=by
  intro c U f;have z1:c.size=d.size:=U.1;have ad:Sort.SortedIn lN a r c:=λx y F B G=>by rw[f x (by omega),f y (by omega),Vh,Vh];exact s _ _ (by omega) (by omega) (by omega)
  have ag:Sort.SortedIn lN r M c:=λx y F B G=>by rw[f x (by omega),f y (by omega),lD,lD];exact A _ _ (by omega) (by omega) (by omega)
  have o:r<=a\/M<=r->yG a M c c:=λh=>⟨Sort.permIn_refl _ _ _,pC h ad ag (by omega) (by omega)⟩
  refine PT.dec (λq1=>PT.bind (P:=λq=> ∃e:Array NE,q=e.toList/\yG a M c e) ?_ ?_) (λq1=>s3 c c U f (o (by omega)));refine PT.dec (λq2=>?_) (λq2=>PT.some ⟨c,rfl,o (by omega)⟩);have hr:=O c a r M (by omega) (by omega) (by omega) (by omega) ad ag;refine PT.bind (P:=λq=> ∃e:Array NE,q=e.toList/\yG a M c e) ⟨λt=>hr.1 (by omega),hr.2⟩ ?_;rintro q ⟨e,rfl,D⟩;exact bF (by rw[Dh,Dh,D.1.1]) (PT.some ⟨e,rfl,D⟩);rintro q ⟨e,rfl,D⟩;exact s3 c e U f D
 have Z:r=m\/E=m-> ∀k,k<d.size->d[k]! =xm r m E d k:=λh k hk=>by rcases Au k r with q1|q1;rw[Vh];rcases Au k (r+(E-m))with q2|q2;rw[lD q1 q2];exact qu (by omega);rcases Au k E with q3|q3;rw[pA q2 q3];exact qu (by omega);rw[Vh]
 refine PT.dec (λq1=>PT.bind (P:=λq=> ∃e:Array NE,q=e.toList/\Sort.PermIn a b d e/\ ∀k,k<d.size->e[k]! =xm r m E d k) ?_ ?_) (λq1=>s2 d (Sort.permIn_refl _ _ _) (Z (by omega)));refine PT.dec (λq2=>PT.bind (kY (ACn (d:=d) (a:=r) (m:=m) (b:=E) (by omega) (by omega) (by omega) hd)) ?_) (λq2=>PT.some ⟨d,rfl,Sort.permIn_refl _ _ _,Z (by omega)⟩);rintro q ⟨e,rfl,z,D⟩;exact bF (by rw[Dh,Dh,z]) (PT.some ⟨e,rfl,Sort.permIn_mono _ _ r E a b (by omega) (by omega) hb (AF8 (by omega) (by omega) (by omega) z D),D⟩);rintro q ⟨e,rfl,p,D⟩;exact s2 e p D
def AHr(n:Nat)(p:List NE×(Int×(Int×Int))):oT (λg (p:List NE×(Int×(Int×Int)))=>B7 g p.1 p.2) (n+1) p=B7 (oT (λg (p:List NE×(Int×(Int×Int)))=>B7 g p.1 p.2) n) p.1 p.2:=rfl
def AA2: ∀(N:Nat) (d:Array NE) (a m b:Nat),a<m→m<b→b≤d.size→d.size≤16777216→Sort.SortedIn lN a m d→Sort.SortedIn lN m b d→
  PT (b-a<=N) (oT (λg (p:List NE×(Int×(Int×Int)))=>B7 g p.1 p.2) N (d.toList,((a:Int),((m:Int),(b:Int))))) λr=> ∃e:Array NE,r=e.toList/\yG a b d e
 |0,d,a,m,b,h1,h2,h3,h4,h5,h6=>⟨λt=>absurd t o!,λr e=>by cases e⟩
 |N+1,d,a,m,b,h1,h2,h3,h4,h5,h6=>by rw[AHr];exact AJu h1 h2 h3 h4 h5 h6 (AA2 N)
def AGg{d:Array NE}{a m b:Nat}(c:a<m)(f:m<b)(g:b≤d.size)(h:d.size≤16777216)(i:Sort.SortedIn lN a m d)(j:Sort.SortedIn lN m b d):
  Ar (EJ d.toList ((a:Int),((m:Int),(b:Int)))) λr=> ∃e:Array NE,r=e.toList/\yG a b d e:=by
 have⟨r,hr⟩:=(AA2 (b-a) d a m b c f g h i j).1 (Am _);have⟨s,k⟩:=gh hr;have⟨N,l⟩:=dT k;exact⟨s,k,(AA2 N d a m b c f g h i j).2 s l⟩
def Mul(s a:Nat):Prop:= ∃k,a=k*s
def Mul.zero{s:Nat}:Mul s 0:=⟨0,k!⟩
def Mul.add{s a:Nat}(h:Mul s a):Mul s (a+s):=by obtain⟨k,rfl⟩:=h;exact⟨k+1,q!⟩
def Mul.half{s a:Nat}(h:Mul (2*s) a):Mul s a:=by obtain⟨k,rfl⟩:=h;exact⟨k*2,q!⟩
def Mul.lt{s a b:Nat}(c:Mul s a)(d:Mul s b)(h:a<b):a+s<=b:=by obtain⟨k,rfl⟩:=c;obtain⟨j,rfl⟩:=d;have:k<j:=Nat.lt_of_mul_lt_mul_right h;have:=O6 s (Nat.succ_le_of_lt this);grind
theorem aH{a b c:Nat}{d:Array NE}(h:Sort.SortedIn lN a b d)(i:c<=b):Sort.SortedIn lN a c d:=λx y e f g=>h x y e f o!
def W9{a b x y:Nat}{d e:Array NE}(h:Sort.SortedIn lN a b d)(c:Sort.PermIn x y d e)(l:b<=x\/y<=a):Sort.SortedIn lN a b e:=λi j f g k=>by rw[c.2.1 i o!,c.2.1 j o!];exact h i j f g k
def Blk(s n:Nat)(d:Array NE):Prop:= ∀a b,Mul s a->b<=a+s->b<=n->Sort.SortedIn lN a b d
def ACs{d0:Array NE}{n:Nat}(hn:n=d0.size)(hd:n<=1048576):Ar (Ec d0.toList (n:Int)) λr=> ∃e:Array NE,r=e.toList/\yG 0 n d0 e:=by
 unfold Ec;refine AA (P:=λ(r:Int×List NE)=> ∃(a:Nat) (d:Array NE),r.1=a/\r.2=d.toList/\a<=n/\n<a+20/\Mul 20 a/\Sort.PermIn 0 n d0 d/\ ∀c,Mul 20 c->c<a->Sort.SortedIn lN c (c+20) d) ?_ ?_;refine AV (λ(s:Int×(Int×List NE))=> ∃(a:Nat) (d:Array NE),s.1=a/\s.2.1=((a+20:Nat):Int)/\s.2.2=d.toList/\a<=n/\Mul 20 a/\Sort.PermIn 0 n d0 d/\ ∀c,Mul 20 c->c<a->Sort.SortedIn lN c (c+20) d) (λs=>n-s.1.toNat) ⟨0,d0,rfl,rfl,rfl,Bi _,Mul.zero,Sort.permIn_refl _ _ _,λc _ h=>absurd h o!⟩ ?_;rintro⟨Y,Z,s3⟩ ⟨a,d,q1,q2,q3,q4,q5,q6,q7⟩;dsimp only at q1 q2 q3;subst q1 q2 q3;have hz:d.size=n:=by rw[q6.1,hn]
 unfold Is;dsimp only;refine AC (λO=>?_) (λO=>AB ⟨a,d,rfl,rfl,q4,o!,q5,q6,q7⟩);have A:=Sort.insertionSort_holds ur d a (a+20) o! o!;rw[ABc (d:=d) (k:=a) (m:=a+20) rfl rfl o! o! o!,AD];have j:Nat.beq (List.length (Sort.insertionSort lN d a (a+20)).toList) (List.length d.toList)=true:=by rw[Dh,Dh,A.1.1];exact HB _
 have e1:wi (((a+20:Nat):Int)+20)=((a+20+20:Nat):Int):=by grind[nh]
 rw[j,cond_true,e1];refine AB ⟨⟨a+20,_,rfl,rfl,rfl,o!,q5.add,Sort.permIn_trans _ _ _ _ _ q6 (Sort.permIn_mono _ _ a (a+20) 0 n o! o! o! A.1),λc g w=>?_⟩,?_⟩;rcases Au c a with l|l;exact W9 (q7 c g l) A.1 (.inl (g.lt q5 l));have:c=a:=by rcases Au a c with i|i;have:=q5.lt g i;omega;omega
 rw[this];exact A.2;show n-((a+20:Nat):Int).toNat<n-((a:Nat):Int).toNat
 omega;rintro⟨r1,r2⟩ ⟨a,d,q1,q2,q3,q4,q5,q6,q7⟩;dsimp only at q1 q2;subst q1 q2;have hz:d.size=n:=by rw[q6.1,hn]
 dsimp only;have A:=Sort.insertionSort_holds ur d a n q3 o!;rw[ABc (d:=d) (k:=a) (m:=n) rfl rfl o! o! o!,AD];have j:Nat.beq (List.length (Sort.insertionSort lN d a n).toList) (List.length d.toList)=true:=by rw[Dh,Dh,A.1.1];exact HB _
 rw[j,cond_true];have C:Sort.PermIn 0 n d0 (Sort.insertionSort lN d a n):=Sort.permIn_trans _ _ _ _ _ q6 (Sort.permIn_mono _ _ a n 0 n o! o! o! A.1);have u:Blk 20 n (Sort.insertionSort lN d a n):=λc o g w l=>by rcases Au c a with i|i;exact aH (W9 (q7 c g i) A.1 (.inl (g.lt q5 i))) w;rcases Au a c with E|E;have:=q5.lt g E;exact λx y H I J=>absurd J o!;grind[aH]
 revert C u;generalize Sort.insertionSort lN d a n=d1;intro C u;refine AA (P:=λr=> ∃e:Array NE,r=e.toList/\yG 0 n d0 e) (AV (λ(s:Int×List NE)=> ∃(t:Nat) (e:Array NE),s.1=t/\s.2=e.toList/\1<=t/\t<=2097172/\Sort.PermIn 0 n d0 e/\Blk t n e) (λs=>n-s.1.toNat) ⟨20,d1,rfl,rfl,o!,o!,C,u⟩ ?_) λr h=>AB h;rintro⟨Y,Z⟩ ⟨t,e,H,I,J,g4,V,W⟩;dsimp only at H I;subst H I;unfold It;dsimp only;refine AC (λO=>?_) (λO=>AB ⟨e,rfl,V,W 0 n Mul.zero o! (Am _)⟩);have U:wi (2*(t:Int))=((2*t:Nat):Int):=by rw[nh];omega
 have e3:wi ((t:Int)*2)=((2*t:Nat):Int):=by rw[nh];omega
 rw[U,e3];refine AA (P:=λ(r:Int×List NE)=> ∃(a:Nat) (f:Array NE),r.1=a/\r.2=f.toList/\a<=n/\n<a+2*t/\Mul (2*t) a/\Sort.PermIn 0 n d0 f/\(∀c,Mul (2*t) c->c<a->Sort.SortedIn lN c (c+2*t) f)/\ ∀c o,Mul t c->a<=c->o<=c+t->o<=n->Sort.SortedIn lN c o f) ?_ ?_;refine AV (λ(s:Int×(Int×List NE))=> ∃(a:Nat) (f:Array NE),s.1=a/\s.2.1=((a+2*t:Nat):Int)/\s.2.2=f.toList/\a<=n/\Mul (2*t) a/\Sort.PermIn 0 n d0 f/\(∀c,Mul (2*t) c->c<a->Sort.SortedIn lN c (c+2*t) f)/\ ∀c o,Mul t c->a<=c->o<=c+t->o<=n->Sort.SortedIn lN c o f) (λs=>n-s.1.toNat)
  ⟨0,e,rfl,k!,rfl,Bi _,Mul.zero,V,λc _ h=>absurd h o!,λc o g _ w l=>W c o g w l⟩ ?_
 rintro⟨Y,Z,s3⟩ ⟨a,f,k1,G,T,X,p,D,K,B⟩;dsimp only at k1 G T;subst k1 G T;have S:f.size=n:=by rw[D.1,hn]
 unfold Iu;dsimp only;refine AC (λQ=>?_) (λQ=>AB ⟨a,f,rfl,rfl,X,o!,p,D,K,B⟩);have N:wi ((a:Int)+(t:Int))=((a+t:Nat):Int):=by rw[nh];omega
 have e5:wi (((a+2*t:Nat):Int)+((2*t:Nat):Int))=((a+2*t+2*t:Nat):Int):=by rw[nh];omega
 rw[N,U,e5];apply AA (AGg (d:=f) (a:=a) (m:=a+t) (b:=a+2*t) o! o! o! o! (B a (a+t) p.half (Am _) (Am _) o!) (B (a+t) (a+2*t) p.half.add o! o! o!));rintro r ⟨q,rfl,v,F⟩;have j:Nat.beq (List.length q.toList) (List.length f.toList)=true:=by rw[Dh,Dh,v.1];exact HB _
 rw[j,cond_true];refine AB ⟨⟨a+2*t,q,rfl,rfl,rfl,o!,p.add,Sort.permIn_trans _ _ _ _ _ D (Sort.permIn_mono _ _ a (a+2*t) 0 n o! o! o! v),λc g w=>?_,λc o g w l i=>W9 (B c o g o! l i) v (.inr w)⟩,?_⟩;rcases Au c a with l|l;exact W9 (K c g l) v (.inl (g.lt p l));have:c=a:=by rcases Au a c with i|i;have:=p.lt g i;omega;omega
 rw[this];exact F;show n-((a+2*t:Nat):Int).toNat<n-((a:Nat):Int).toNat
 omega;rintro⟨v1,v2⟩ ⟨a,f,k1,G,T,X,p,D,K,B⟩;dsimp only at k1 G;subst k1 G;have S:f.size=n:=by rw[D.1,hn]
 dsimp only;have N:wi ((a:Int)+(t:Int))=((a+t:Nat):Int):=by rw[nh];omega
 rw[N];have z: ∀q:Array NE,Sort.PermIn a n f q->Sort.SortedIn lN a n q->(∃(L:Nat) (M:Array NE),((2*t:Nat):Int)=L/\q.toList=M.toList/\1<=L/\L<=2097172/\Sort.PermIn 0 n d0 M/\Blk L n M)/\n-((2*t:Nat):Int).toNat<n-((t:Nat):Int).toNat:=λq v F=>by refine⟨⟨2*t,q,rfl,rfl,o!,o!,Sort.permIn_trans _ _ _ _ _ D (Sort.permIn_mono _ _ a n 0 n o! o! o! v),λc o g w l=>?_⟩,o!⟩;rcases Au c a with i|i;exact aH (W9 (K c g i) v (.inl (g.lt p i))) w;rcases Au a c with E|E;have:=p.lt g E;exact λx y H I J=>absurd J o!;rw[show c=a by omega];exact aH F l
 refine AC (λR=>AA (AGg (d:=f) (a:=a) (m:=a+t) (b:=n) o! o! o! o! (B a (a+t) p.half (Am _) (Am _) o!) (B (a+t) n p.half.add o! o! (Am _))) ?_) (λR=>AB (z f (Sort.permIn_refl _ _ _) (B a n p.half (Am _) o! (Am _))));rintro r ⟨q,rfl,v,F⟩;have j:Nat.beq (List.length q.toList) (List.length f.toList)=true:=by rw[Dh,Dh,v.1];exact HB _
 rw[j,cond_true];exact AB (z q v F)
def AGI{l:List NE}(h:l.length<=1048576):Ar (Cq l ()) λr=>r.Perm l/\r.Pairwise λx y=>lN y x=false:=by
 unfold Cq;apply AA (ACs (d0:=l.toArray) (n:=l.length) k! h);rintro r ⟨R,rfl,d,f⟩;have e:R.size=l.length:=by rw[d.1];simp
 have g:Nat.beq (List.length R.toList) (List.length l)=true:=by simp[e]
 rw[g,cond_true];refine AB ⟨?_,?_⟩;have:=d.2.2;rw[show R.extract 0 l.length=R by rw[<-e];exact nm,show l.toArray.extract 0 l.length=l.toArray by rw[show l.length=l.toArray.size by simp];exact nm]at this;exact this;rw[HA];intro i j k m b;have a:i<R.size:=by simpa using k
 have c:j<R.size:=by simpa using m
 have:=f i j (Bi _) b o!;rw[getElem!_pos R j c,getElem!_pos R i a]at this;simpa using this
def AEz(l:List NE):Prop:= ∀x∈l,∀y∈l,x≠y->x.1.2.2.1=y.1.2.2.1->x.1.2.1<y.1.1\/y.1.2.1<x.1.1
def AGB{N a:List NE}(W:N.length=a.length)(G:a.length≤256)(I: ∀e∈a,1≤e.1.1∧e.1.1≤e.1.2.1∧e.1.2.1≤1099511627776∧0≤e.1.2.2.1)(P:a.Pairwise λx y=>lN y x=false)(hn:a.Nodup)(O:AEz a):
  Ar (AZ (Th N a) (0,((-1),(0,([],[]))))) λr=>r=(a.map (·.1),a.map (·.2)):=by
 refine AV (λ(s:Int×(Int×(Int×(List Af×List Int))))=> ∃k:Nat,s.1=k/\k<=a.length/\s.2.2.2=((a.take k).map (·.1),(a.take k).map (·.2))/\((k=0/\s.2.1= -1)\/ ∃e,0<k/\a[k-1]? =some e/\s.2.1=e.1.2.2.1/\s.2.2.1=e.1.2.1)) (λs=>a.length-s.1.toNat) ⟨0,rfl,Bi _,rfl,.inl ⟨rfl,rfl⟩⟩ ?_;rintro⟨Y,R,Z,s4⟩ ⟨k,q1,q2,q3,q4⟩;dsimp only at q1 q3 q4;subst q1 q3;unfold Th;dsimp only;refine AC (λw=>?_) (λw=>AB ?_)
 ·simp only[len]at w;refine AA (AI) λv8 _=>AA (AI) λv h=>?_;have z:a[k]? =some v:=by simpa using h.1
  obtain⟨S,T,U,V⟩:=I v h.2;have C:a.take (k+1)=a.take k++[v]:=by rw[Ce,z];rfl
  have X:(a.take k).length<=256:=by rw[BM];omega
  have j: ∀D:Int,D=v.1.2.2.1→Ar (Option.bind (app ((a.take k).map (·.1)) [v.1]) λf=>Option.bind (app ((a.take k).map (·.2)) [v.2]) λg=>some (Step.next (wi ((k:Int)+1),(D,(v.1.2.1,(f,g)))))) λ(st:Step (Int×(Int×(Int×(List Af×List Int)))) (List Af×List Int))=>match st with
    | .next i=>(∃d:Nat,i.1=d/\d<=a.length/\i.2.2.2=((a.take d).map (·.1),(a.take d).map (·.2))/\((d=0/\i.2.1= -1)\/ ∃e,0<d/\a[d-1]? =some e/\i.2.1=e.1.2.2.1/\i.2.2.1=e.1.2.1))/\a.length-i.1.toNat<a.length-((k:Nat):Int).toNat
    | .done r=>r=(a.map (·.1),a.map (·.2)):=λD A=>by
   refine AA (Ac w!) λf t=>AA (Ac w!) λg u=>AB ⟨⟨k+1,?_,o!,?_,.inr ⟨v,o!,by rw[Nat.add_sub_cancel];exact z,A,rfl⟩⟩,?_⟩;show wi ((k:Int)+1)=_;rw[wip];show(f,g)=_;rw[t.1,u.1,C,M5,M5];rfl;show a.length-(wi ((k:Int)+1)).toNat<a.length-((k:Nat):Int).toNat
   rw[wip];omega
  have b: ∀n:Int,n<v.1.1->N9 (v.1,n)=some v.1:=λn hn=>by unfold N9;have:decide (v.1.1>n)=true:=decide_eq_true hn;dsimp only;rw[this,cond_true]
  refine AK (λm=>?_) (λc=>?_);refine AC (λq=>absurd q o!) (λ_=>?_);rw[b 0 o!,AD];obtain⟨st,E,F⟩:=j v.1.2.2.1 rfl;exact⟨st,E,by cases st<;>exact F⟩;rcases q4 with⟨_,q4⟩|⟨e,q5,q6,q7,q8⟩;exact absurd (c.trans q4) o!;have B:e.1.2.1<v.1.1:=by
   have H:=BU q6;obtain⟨J,K⟩:=Kf.1 q6;obtain⟨L,M⟩:=Kf.1 z;have m:e≠v:=λp=>by have:=(HA.1 (I0.1 hn)) (k-1) k J L o!;rw[K,M]at this;exact this p
   have o:=(HA.1 P) (k-1) k J L o!;rw[K,M]at o;have Q:=I e H;have l:e.1.2.2.1=v.1.2.2.1:=by rw[<-q7];exact c.symm
   rcases O e H v h.2 m l with p|p;exact p;simp only[lN,decide_eq_false_iff_not]at o;omega
  rw[q8];refine AC (λq=>absurd q o!) (λ_=>?_);rw[b _ B,AD];obtain⟨st,E,F⟩:=j R c.symm;exact⟨st,E,by cases st<;>exact F⟩
 simp only[len]at w;rw[BK o!]
noncomputable def intR(a:AO)(f:AT):Option NE:=
 match Gi (a,f)with
 |some (r,true)=>some (r,f.2.1)
 |_=>none
noncomputable def F9(a:AO):List NE:=a.2.2.1.filterMap (intR a)
def AGA{x:AO}(h:VB x)(t:DS x):Ar (AZ (Tg x) (0,[])) λr=>r=F9 x/\r.length<=256/\ ∀e∈r,jG e.1:=by
 obtain⟨⟨v,w,y,n,z,A,B⟩,a1,a2,a3,a4,a5,a6⟩:=id h;refine AV (λ(s:Int×NL)=>0<=s.1/\s.1<=x.2.2.1.length/\s.2.length<=s.1/\(∀e∈s.2,jG e.1)/\s.2=(x.2.2.1.take s.1.toNat).filterMap (intR x)) (λ(s:Int×NL)=>((x.2.2.1.length:Int)-s.1).toNat) ⟨Ad _,d!,k!,λe a=>by simp at a,k!⟩ (λs q=>?_);obtain⟨u,C,D,j,k⟩:=q;unfold Tg;refine AC (λf=>?_) (λf=>AB ⟨?_,o!,j⟩);simp only[len]at f;have e:=AX (x:=s.1+1);rw[e];refine AA (AI u f) λg m=>?_;have c:x.2.2.1.take (s.1+1).toNat=x.2.2.1.take s.1.toNat++[g]:=by rw[show(s.1+1).toNat=s.1.toNat+1 by omega,Ce,m.1];rfl
 refine D8 (mU n (t _ m.2)) λl d p=>AJ (λb=>?_) (λb=>AB ⟨⟨d!,d!,d!,j,?_⟩,d!⟩);have hr:intR x g=some (l.1,g.2.1):=by unfold intR;rw[d];obtain⟨r,o⟩:=l;dsimp only at b;subst b;rfl
 refine AA (Ac w!) λE i=>AB ⟨⟨d!,d!,?_,λe a=>?_,?_⟩,d!⟩;have:=i.2.1;simp only[Cu,Ck]at this;dsimp only;omega;dsimp only at a;rw[i.1]at a;rcases A1.1 a with a|a;exact j e a;rw[BI.1 a];exact p b;dsimp only;rw[c,vT,i.1,k];simp[hr];have hr:intR x g=none:=by unfold intR;rw[d];obtain⟨r,o⟩:=l;dsimp only at b;subst b;rfl
 dsimp only;rw[c,vT,k];simp[hr];simp only[len]at f;rw[k,BK o!];rfl
def we{x:AO}(h:VB x)(m:DS x)(hn:(F9 x).Nodup)(b:AEz (F9 x)):Ar (G3 x) λr=> ∃v:List NE,v.Perm (F9 x)/\(v.Pairwise λp q=>lN q p=false)/\r=(v.map (·.1),v.map (·.2))/\v.length<=256/\ ∀e∈v,jG e.1:=by
 unfold G3;refine AA (HE h) λt j=>?_;rw[j,Cg,cond_false];refine AA (AGA h m) λu k=>?_;obtain⟨rfl,g,s⟩:=k;refine AA (AGI o!) λf a=>?_;have i:=a.1.length_eq;have l:Nat.beq (List.length f) (List.length (F9 x))=true:=by rw[i];exact HB _
 rw[l,cond_true];have c: ∀e∈f,jG e.1:=λe d=>s e (a.1.mem_iff.1 d);refine AA (AGB i.symm o! (λe d=>?_) a.2 (a.1.nodup_iff.2 hn) (λp n q o=>b p (a.1.mem_iff.1 n) q (a.1.mem_iff.1 o))) λr hr=>AB ⟨f,a.1,a.2,hr,o!,c⟩;have:=c e d;exact⟨this.1,this.2.1,this.2.2.1,this.2.2.2.1⟩
def yX(l:List (Int×Int))(n:Int):Prop:= ∃s∈l,s.1<=n/\n<=s.2
def ADm{l:List (Int×Int)}{u b:Int}(p:l.length<=16777216):Ar (AZ (Ti (l,u)) (0,b)) λr=>(∀q,r= .inl q->0<=q.1/\q.1<l.length/\q.2=b/\ ∀e,l[q.1.toNat]? =some e->e.1<=b/\b<=e.2)/\(∀q,r= .inr q->q=b/\ ¬yX l b):=by refine AV (λ(s:Int×Int)=>0<=s.1/\s.1<=l.length/\s.2=b/\ ∀e∈l.take s.1.toNat,¬(e.1<=b/\b<=e.2)) (λ(s:Int×Int)=>((l.length:Int)-s.1).toNat) ⟨Ad _,d!,rfl,k!⟩ (λt n=>?_);obtain⟨k,v,m,g⟩:=n;unfold Ti;refine AC (λd=>?_) (λd=>AB ⟨λu c=>(by cases c),λu c=>?_⟩);simp only[len]at d;have e:=AX (x:=t.1+1);rw[e];refine AA (AI k d) λw h=>?_;unfold VM;rw[has_eq,AD,AD,m];refine AJ (λf=>AB ⟨λu c=>?_,λu c=>(by cases c)⟩) (λi=>AB ⟨⟨d!,d!,rfl,λe a=>?_⟩,d!⟩);cases c;refine⟨k,d,rfl,λe a=>?_⟩;dsimp only at a;rw[h.1]at a;injection a with a;subst a;unfold QK at f;simp only[BO,decide_eq_true_eq]at f;exact f;dsimp only at a;rw[show(t.1+1).toNat=t.1.toNat+1 by omega,Ce,h.1]at a;rcases A1.1 a with a|a;exact g e a;rw[mz,BI]at a;subst a;intro j;unfold QK at i;simp only[pP,decide_eq_false_iff_not]at i;omega;cases c;simp only[len]at d;rw[BK o!]at g;exact⟨m,by rw[show yX l b↔ ∃s∈l,s.1<=b/\b<=s.2 from Iff.rfl];rintro⟨s,o,j⟩;exact g s o j⟩
def AAL{l:List (Int×Int)}{u:Int}(h:SpL l)(w:0<=u)(A:u<=1099511627776):Ar (MI (l,u)) λr=>0<=r/\r<=u/\(∀n,r<n->n<=u->yX l n)/\(r=0\/ ¬yX l r):=by obtain⟨a1,a2⟩:=h;unfold MI;refine AA (P:=λr=>0<=r/\r<=u/\(∀n,r<n->n<=u->yX l n)/\(r=0\/ ¬yX l r)) ?_ λr hr=>AB hr;refine AV (λ(s:Int)=>0<=s/\s<=u/\ ∀n,s<n->n<=u->yX l n) (λ(s:Int)=>s.toNat) ⟨w,Ad _,λn k m=>by dsimp only at k;omega⟩ (λs v=>?_);obtain⟨p,t,g⟩:=v;unfold Yo;refine AA (ADm (b:=s) a1) λr hr=>BA (λq f=>?_) (λq f=>?_);obtain⟨i,j,y,z⟩:=hr.1 q f;refine AC (λd=>absurd d o!) (λ_=>AC (λd=>AB ?_) (λB=>?_));rw[y]at d⊢;exact⟨p,t,g,.inl o!⟩;refine AA (AI i j) λa c=>?_;have q1:=z a c.1;have q2:=a2 a c.2;have e:=AX (x:=a.1-1);rw[e];refine AB ⟨⟨o!,o!,λn k m=>?_⟩,o!⟩;rcases lM s n with o|o;exact g n o m;exact⟨a,c.2,o!⟩;obtain⟨i,j⟩:=hr.2 q f;rw[i];exact AB ⟨p,t,g,.inr j⟩
def vi{x:AO}(h:VB x):x.2.2.1.Pairwise λf g=>f.2.1<g.2.1:=by
 have c:=h.2.2.2.2.2.2.2;rw[HA];have step: ∀n i:Nat,∀(a:i<x.2.2.1.length) (b:i+1+n<x.2.2.1.length),(x.2.2.1[i]).2.1<(x.2.2.1[i+1+n]).2.1:=by
  intro n;induction n with
  |zero=>intro i a b;exact c i _ _ o! (A4 a) (A4 b)
  |succ n m=>intro i a b;have d:=m i a o!;have k:=c (i+1+n) _ _ o! (A4 o!) (A4 b);exact Int.lt_trans d k
 intro i j a b l;have:=step (j-(i+1)) i a o!;have e:i+1+(j-(i+1))=j:=o!
 simp only[e]at this;exact this
def wQ{x:AO}(h:VB x):((F9 x).map (·.2)).Pairwise (· < ·):=by
 unfold F9;rw[TX,List.pairwise_filterMap];refine(vi h).imp λ{f g} b y a z c=>?_;have one: ∀(f:AT) (y:NE),intR x f=some y->y.2=f.2.1:=λf y a=>by unfold intR at a;split at a;injection a with a;rw[<-a];cases a
 rw[one f y a,one g z c];exact b
def Uj{x:AO}(h:VB x):(F9 x).Nodup:=by have:=wQ h;rw[TX]at this;exact I0.2 (this.imp λh e=>by rw[e]at h;omega)
def AIb{a:AO}{l:Ae}{p i j:Int}{Q:List (Int×Int)}{d:Int×Int}{r:Af}{W:List (Int×EN)}{u:Int}{P:EN→Prop}(hr:r.2.2.2.2.2.length≤4096)(Y:Q[0]? =some d)(hm:Qp W P)(hn:0≤u∧u≤1099511627776)
  (S: ∀v∈r.2.2.2.2.2,K9 p i j v=true->(QK d v.1=true->P v)/\ ∀e,(P e\/(e∈r.2.2.2.2.2/\K9 p i j e=true))->e.1=v.1->e=v):
  Ar (AZ (XO (a,(l,(p,(i,j)))) Q r) (0,(W,(u,([],0))))) λq=> ∃m n,q= .inl (m,(n,([],0)))/\Qp m (λe=>P e\/(e∈r.2.2.2.2.2/\K9 p i j e=true))/\n=u+((r.2.2.2.2.2.filter λe=>K9 p i j e&&QK d e.1).length:Int):=by
 generalize hL:r.2.2.2.2.2=L at hr S⊢;refine AV (λ(s:Int×(List (Int×EN)×(Int×(List EN×Int))))=>0<=s.1/\s.1<=L.length/\s.2.2.2=([],0)/\s.2.2.1=u+(((L.take s.1.toNat).filter λe=>K9 p i j e&&QK d e.1).length:Int)/\Qp s.2.1 λe=>P e\/(e∈L.take s.1.toNat/\K9 p i j e=true)) (λs=>((L.length:Int)-s.1).toNat)
  ⟨Ad _,d!,rfl,k!,hm.congr λe=>k!⟩ (λs Z=>?_)
 obtain⟨c,E,F,s4⟩:=s;obtain⟨U,i2,V,C,z⟩:=Z;dsimp only at U i2 V C z;subst V;unfold XO;dsimp only;rw[hL];refine AC (λf=>?_) (λf=>AB ?_);simp only[len]at f;have X:=AX (x:=c+1);rw[X];refine AA (AI U f) λv R=>?_;rw[nH,AD];have o:L.take (c+1).toNat=L.take c.toNat++[v]:=by rw[show(c+1).toNat=c.toNat+1 by omega,Ce,R.1];rfl
 have k:K9 p i j v=false->(0<=c+1/\c+1<=L.length/\(([],0):List EN×Int)=([],0)/\F=u+(((L.take (c+1).toNat).filter λe=>K9 p i j e&&QK d e.1).length:Int)/\Qp E λe=>P e\/(e∈L.take (c+1).toNat/\K9 p i j e=true))/\((L.length:Int)-(c+1)).toNat<((L.length:Int)-c).toNat:=λy=>by
  refine⟨⟨o!,o!,rfl,?_,?_⟩,o!⟩;rw[o,Gl,C];simp[y];rw[o];refine z.congr λe=>⟨?_,?_⟩
  rintro(h|h);exact .inl h;exact .inr ⟨A1.2 (.inl h.1),h.2⟩;rintro(h|⟨h,w⟩);exact .inl h;rcases A1.1 h with h|h;exact .inr ⟨h,w⟩;rw[BI.1 h,y]at w;cases w
 refine AJ (λG=>?_) (λG=>AB (k (by simp[K9,G])));refine AJ (λH=>?_) (λH=>AB (k (by simp[K9,H])));refine AJ (λI=>?_) (λI=>AB (k (by unfold K9;rw[I];simp)));refine AM (λJ=>AB (k (by unfold K9;rw[J];simp))) (λJ=>?_);have y:K9 p i j v=true:=by unfold K9;rw[G,H,I,J];rfl
 have O:ix Q 0=some d:=by unfold ix;rw[if_pos (Ad _)];exact Y
 rw[O,AD,has_eq,AD];obtain⟨M,A⟩:=S v R.2 y;have t:Qp (QL v.1 v E) λe=>P e\/(e∈L.take (c+1).toNat/\K9 p i j e=true):=by
  rw[o];refine z.put.congr λe=>⟨?_,λh=>?_⟩
  rintro(rfl|⟨h|h,_⟩);exact .inr ⟨A1.2 (.inr (BI.2 rfl)),y⟩;exact .inl h;exact .inr ⟨A1.2 (.inl h.1),h.2⟩;by_cases g:e=v;exact .inl g;rcases h with h|⟨h,w⟩;exact .inr ⟨.inl h,λN=>g (A e (.inl h) N)⟩;rcases A1.1 h with h|h;exact .inr ⟨.inr ⟨h,w⟩,λN=>g (A e (.inr ⟨Hi h,w⟩) N)⟩;exact absurd (BI.1 h) g
 have T:(((L.take c.toNat).filter λe=>K9 p i j e&&QK d e.1).length:Int)<=4096:=by have h1:=Gm (λe=>K9 p i j e&&QK d e.1) (L.take c.toNat);have h3:=List.length_take_le' c.toNat L;omega
 have K:=AX (x:=F+1);rw[K];have B: ∀b:Bool,QK d v.1=b->u+((((L.take (c+1).toNat).filter λe=>K9 p i j e&&QK d e.1).length:Nat):Int)=F+(if b=true then 1 else 0):=λb hb=>by rw[o,Gl,Aa,C];cases b<;>simp[y,hb]<;>omega
 refine AJ (λD=>?_) (λD=>AB ⟨⟨d!,d!,rfl,?_,t⟩,d!⟩);have hg:K5 v.1 E=some v:=z.get (.inl (M D));rw[hg];simp only[Option.isSome_some,Cg,cond_false,my,beq_self_eq_true,YI];refine AB ⟨⟨d!,d!,rfl,?_,t⟩,d!⟩;rw[B true D];rfl;rw[B false D];simp;simp only[len]at f;rw[BK o!]at C z;exact⟨E,F,rfl,z,C⟩
def J3(low:Int)(rs:List Af):List EN:=(rs.filter λr=>r.2.2.1==low).flatMap λr=>r.2.2.2.2.2
def AIa{a:AO}{l:Ae}{p i j:Int}{X:List (Int×Int)}{sp:Int×Int}{b:Int×(Int×Bool)}{c:List Af}{E:List Int}{W:List (Int×EN)}{P:EN→Prop}(Z:X[0]? =some sp)(hm:Qp W P)
  (U:c.length=E.length) (T:c.length<=256) (hr: ∀r∈c,r.2.2.2.2.2.length<=4096)
  (hc: ∀v∈J3 b.1 c,K9 p i j v=true->(QK sp v.1=true->P v)/\ ∀e,(P e\/(e∈J3 b.1 c/\K9 p i j e=true))->e.1=v.1->e=v):
  Ar (AZ (XN (a,(l,(p,(i,j)))) X b (c,E)) (0,(W,(0,([],0))))) λq=> ∃m n,q= .inl (m,(n,([],0)))/\Qp m (λe=>P e\/(e∈J3 b.1 c/\K9 p i j e=true))/\n=(((J3 b.1 c).filter λe=>K9 p i j e&&QK sp e.1).length:Int):=by
 have B: ∀k:Nat,(J3 b.1 (c.take k)).length<=k*4096:=by
  intro k;induction k with
  |zero=>simp[J3]
  |succ k ih=>rw[Ce];grind[J3,List.length_append,Nat.succ_mul,Nat.add_le_add]
 refine AV (λ(s:Int×(List (Int×EN)×(Int×(List EN×Int))))=>0<=s.1/\s.1<=c.length/\s.2.2.2=([],0)/\s.2.2.1=(((J3 b.1 (c.take s.1.toNat)).filter λe=>K9 p i j e&&QK sp e.1).length:Int)/\Qp s.2.1 λe=>P e\/(e∈J3 b.1 (c.take s.1.toNat)/\K9 p i j e=true)) (λs=>((c.length:Int)-s.1).toNat)
  ⟨Ad _,d!,rfl,by simp[J3],hm.congr λe=>by simp[J3]⟩ (λs hI=>?_)
 have⟨d,s2,S,s4⟩:=s;have⟨R,i2,V,C,D⟩:=hI;dsimp only at R i2 V C D;subst V;unfold XN;dsimp only;refine AC (λo=>?_) (λo=>AB ?_);simp[len]at o;have Y:=AX (x:=d+1);rw[Y];refine AA (AI R o) λv G=>?_;have t:c.take (d+1).toNat=c.take d.toNat++[v]:=by rw[show(d+1).toNat=d.toNat+1 by omega,Ce,G.1];rfl
 refine AJ (λF=>?_) (λF=>AB ⟨⟨d!,d!,rfl,?_,?_⟩,d!⟩);refine AA (AI R) λad _=>?_;have u: ∀e∈v.2.2.2.2.2,e∈J3 b.1 c:=λe g=>Hh.2 ⟨v,Bk.2 ⟨G.2,F⟩,g⟩;have z: ∀e∈J3 b.1 (c.take d.toNat),e∈J3 b.1 c:=λe g=>by have⟨r,L,M⟩:=Hh.1 g;have⟨N,O⟩:=Bk.1 L;exact Hh.2 ⟨r,Bk.2 ⟨Hi N,O⟩,M⟩
 have K:0<=S/\S<=1099511627776:=by
  have h1:=Gm (λe=>K9 p i j e&&QK sp e.1) (J3 b.1 (c.take d.toNat));have h2:=B d.toNat
  omega
 have f:J3 b.1 (c.take d.toNat++[v])=J3 b.1 (c.take d.toNat)++v.2.2.2.2.2:=by grind[J3]
 refine AA (AIb (hr v G.2) Z D K λw hw Q=>?_) ?_;have⟨q1,q2⟩:=hc w (u w hw) Q;refine⟨λh=>.inl (q1 h),λe g H=>q2 e ?_ H⟩;rcases g with(g|⟨g,y⟩)|⟨g,y⟩;exact .inl g;exact .inr ⟨z e g,y⟩;exact .inr ⟨u e g,y⟩;rintro q ⟨m,n,rfl,I,J⟩;refine BG (AB ⟨⟨d!,d!,rfl,?_,?_⟩,d!⟩);dsimp only;rw[t,f,J,C,Gl,Aa];omega;dsimp only;rw[t,f];refine I.congr λe=>?_;rw[A1];constructor;rintro((h|⟨h,A⟩)|⟨h,A⟩);exact .inl h;exact .inr ⟨.inl h,A⟩;exact .inr ⟨.inr h,A⟩;rintro(h|⟨h|h,A⟩);exact .inl (.inl h);exact .inl (.inr ⟨h,A⟩);exact .inr ⟨h,A⟩;have f:J3 b.1 (c.take d.toNat++[v])=J3 b.1 (c.take d.toNat):=by unfold J3;rw[Gl,YM];simp[F]
 dsimp only;rw[t,f];exact C;have f:J3 b.1 (c.take d.toNat++[v])=J3 b.1 (c.take d.toNat):=by unfold J3;rw[Gl,YM];simp[F]
 dsimp only;rw[t,f];exact D;simp[len]at o;rw[BK o!]at C D;exact⟨s2,S,rfl,D,C⟩
def YD{l:List EN}:(l.map (·.1)).Nodup-> ∀{a b:EN},a∈l->b∈l->a.1=b.1->a=b:=by
 induction l with
 |nil=>intro _ a b d;cases d
 |cons p r f=>intro e a b d c h;rw[Bt,Gc]at e;rcases A8.1 d with d|d;rcases A8.1 c with c|c;rw[d,c];exact absurd (by rw[<-d,h];exact WH c) e.1;rcases A8.1 c with c|c;exact absurd (by rw[<-c,<-h];exact WH d) e.1;exact f e.2 d c h
def AFr{B:Nat}(j:CP B){l:List EN}(h:l.length<=B)(k:l.length<=16777216)(hn:(l.map (·.1)).Nodup):Ar (uc C0 l) λr=>r.Perm l/\r.Pairwise λa b=>a.1<b.1:=by
 have n:=List.pairwise_mergeSort (le:=λa b:EN=>decide (a.1<=b.1)) (λa b c o p=>by simp only[decide_eq_true_eq]at*;omega) (λa b=>by simp only[YJ,decide_eq_true_eq];omega) l;have i:(l.mergeSort λa b:EN=>decide (a.1<=b.1)).Perm l:=List.mergeSort_perm _ _;have g:(l.mergeSort λa b:EN=>decide (a.1<=b.1)).Pairwise λa b=>a.1<=b.1:=n.imp λh=>of_decide_eq_true h;have key: ∀m,l.Perm m->C0 m ()=some (l.mergeSort λa b:EN=>decide (a.1<=b.1)):=λm f=>by have d:(m.map (·.1)).Nodup:=(f.map (·.1)).nodup_iff.1 hn;unfold C0 zb;rw[if_pos ⟨d,by rw[<-f.length_eq];exact k⟩,<-um (key:=λe:EN=>e.1) d (i.trans f) g]
 refine⟨_,?_,i,?_⟩;unfold uc;rw[if_pos];exact key l (lO l);intro m f;rw[key m f,key l (lO l)];have d:=(i.map (·.1)).nodup_iff.2 hn;rw[I0,TX]at d;exact(g.and d).imp λh=>o!
def wG: ∀(n:Nat) (i:Int) (l:List Int),l.Nodup->(∀x∈l,i<x/\x<=i+n)->l.length<=n
 |0,i,l,_,h=>by
  cases l with
  |nil=>exact Am _
  |cons a r=>have:=h a (A8.2 (.inl rfl));omega
 |n+1,i,l,hl,h=>by
  have d:=wG n i (l.erase (i+(n+1:Nat))) (hl.erase _) λx c=>by have b:=(hl.mem_erase_iff).1 c;have:=h x b.2;have:=b.1;omega
  have e:l.length<=(l.erase (i+(n+1:Nat))).length+1:=by rw[List.length_erase];split<;>omega
  omega
def YU(i:Int)(s:List EN):Prop:= ∀(k:Nat) (e:EN),s[k]? =some e->(k=0->e.2.2.2.2.1<=i)/\ ∀f,0<k->s[k-1]? =some f->e.2.2.2.2.1=f.1
def AIZ{a:AO}{l:Ae}{p i j:Int}{s:List EN}(O:s.length≤16777216):
  Ar (AZ (Pq (a,(l,(p,(i,j)))) s) (0,([],0))) λr=>(r= .inl ([],0)/\YU i s)\/(r= .inr ([],13)/\ ¬YU i s):=by
 refine AV (λ(t:Int×(List EN×Int))=>0<=t.1/\t.1<=s.length/\t.2=([],0)/\ ∀(k:Nat) (e:EN),k<t.1->s[k]? =some e->(k=0->e.2.2.2.2.1<=i)/\ ∀f,0<k->s[k-1]? =some f->e.2.2.2.2.1=f.1) (λt=>((s.length:Int)-t.1).toNat)
  ⟨Ad _,d!,rfl,λk e F=>(by dsimp only at F;omega)⟩ (λt K=>?_)
 obtain⟨b,P⟩:=t;obtain⟨C,L,G,D⟩:=K;dsimp only at C L G D;subst G;unfold Pq;dsimp only;refine AC (λn=>?_) (λn=>AB (.inl ⟨rfl,λk e d=>D k e ?_ d⟩));simp only[len]at n;have I:=AX (x:=b+1);rw[I];refine AA (AI C n) λM _=>AA (AI C n) λv h=>?_;have o:((b=0->v.2.2.2.2.1<=i)/\ ∀f,0<b->s[b.toNat-1]? =some f->v.2.2.2.2.1=f.1)->(0<=b+1/\b+1<=s.length/\(([],0):List EN×Int)=([],0)/\ ∀(k:Nat) (e:EN),k<b+1->s[k]? =some e->(k=0->e.2.2.2.2.1<=i)/\ ∀f,0<k->s[k-1]? =some f->e.2.2.2.2.1=f.1)/\((s.length:Int)-(b+1)).toNat<((s.length:Int)-b).toNat:=λE=>by
  refine⟨⟨o!,o!,rfl,λk e F d=>?_⟩,o!⟩;by_cases B:(k:Int)<b;exact D k e B d;have H:k=b.toNat:=o!
  subst H;rw[h.1]at d;injection d with d;subst d;exact⟨λy=>E.1 o!,λf y g=>E.2 f o! g⟩
 apply AQ<;>intro y;refine AC (λu=>AB (.inr ⟨rfl,λA=>?_⟩)) (λu=>?_);have:=(A b.toNat v h.1).1 o!;omega;refine AC (λm=>absurd m o!) (λ_=>AB (o ⟨λ_=>o!,λf g=>absurd g o!⟩));refine AC (λu=>?_) (λu=>absurd u o!);have w:=AX (x:=b-1);rw[w];refine AA (AI) λN _=>AA (AI) λq z=>?_;have c:s[b.toNat-1]? =some q:=by rw[show b.toNat-1=(b-1).toNat by omega];exact z.1
 refine AK (λm=>AB (.inr ⟨rfl,λA=>m ((A b.toNat v h.1).2 q o! c)⟩)) (λm=>AB (o ⟨λJ=>absurd J y,λf _ g=>?_⟩));rw[c]at g;injection g with g;rw[<-g];exact m;simp only[len]at n;have:=(Kf.1 d).1;omega
def AIc{a:AO}{l:Ae}{p i j:Int}{s:List EN}(b:s.length≤16777216):
  Ar (AZ (Pq (a,(l,(p,(i,j)))) s) (0,([],0))) λr=>(r= .inl ([],0)/\YU i s)\/(r= .inr ([],13)/\ ¬YU i s):=AIZ b
def Vi(l:Ae)(low:Int)(rs:List Af):List (Int×Int):=(l.1,l.1+l.2.1.length-1)::(rs.filter λr=>r.2.2.1==low).map λr=>(r.1,r.2.1)
def zc{a:AO}{l:Ae}{p:Int}{e:Int×(Int×Bool)}{b:List Af}{d:List Int}(B:Dg l)(m:GA (a,p)=some e)(C:e.2.2=true)(n:G3 a=some (b,d))(u:b.length=d.length)(q:b.length≤256):
  Ps (a,(l,p))=some (Vi l e.1 b):=by
 obtain⟨G,y,z⟩:=dh B;unfold Ps;dsimp only;rw[y,AD,m,AD,C,Cg,cond_false,n,AD,z];have g:Ar (AZ (Tj e (b,d)) (0,([(l.1,l.1+l.2.1.length-1)]:List (Int×Int)))) λr=>r=Vi l e.1 b:=by
  refine AV (λ(t:Int×List (Int×Int))=>0<=t.1/\t.1<=b.length/\t.2.length<=t.1.toNat+1/\t.2=Vi l e.1 (b.take t.1.toNat)) (λt=>((b.length:Int)-t.1).toNat) ⟨Ad _,d!,k!,rfl⟩ (λt A=>?_);obtain⟨i,F⟩:=t;obtain⟨o,D,E,k⟩:=A;dsimp only at o D E k;unfold Tj;dsimp only;refine AC (λj=>?_) (λj=>AB ?_);simp only[len]at j;have w:=AX (x:=i+1);rw[w];refine AA (AI o j) λv h=>?_;have f:b.take (i+1).toNat=b.take i.toNat++[v]:=by rw[show(i+1).toNat=i.toNat+1 by omega,Ce,h.1];rfl
  refine AJ (λc=>?_) (λc=>AB ⟨⟨d!,d!,d!,?_⟩,d!⟩);refine AA (AI o) λH _=>AA (Ac (by simp only[Cu,Ck];omega)) λI s=>AB ⟨⟨d!,d!,?_,?_⟩,d!⟩;have:=s.2.1;simp only[Cu,Ck]at this;dsimp only;omega;dsimp only;rw[s.1,k,f];unfold Vi;rw[Gl,M5,vV (by exact c)];rfl;dsimp only;rw[k,f];unfold Vi;rw[Gl,vU (by rw[c];decide)];simp;simp only[len]at j;rw[k,BK o!]
 obtain⟨r,q1,q2⟩:=g;rw[q1,AD,q2]
def o0{l:List EN}:(l.map (·.1)).Nodup->l.Nodup:=by
 induction l with
 |nil=>intro _;exact Qx
 |cons p r b=>intro a;rw[Bt,Gc]at a;exact Gc.2 ⟨λh=>a.1 (WH h),b a.2⟩
def Dg.nodup{l:Ae}(h:Dg l):(l.2.1.map (·.1)).Nodup:=by obtain⟨l1,l2,i,j,k,a⟩:=h;rw[I0,TX,HA];intro x y b d c g;have e:=(a x _ (A4 b)).1;have f:=(a y _ (A4 d)).1;omega
def Dg.has{l:Ae}(h:Dg l){e:EN}(a:e∈l.2.1):QK (l.1,l.1+l.2.1.length-1) e.1=true:=by obtain⟨k,b,a⟩:=WG.1 a;have c:=(h.2.2.2.2.2 k e (by rw[<-a];exact A4 b)).1;unfold QK;simp only[BO,decide_eq_true_eq];omega
structure AGP(l:Ae)(low p i j:Int)(rs:List Af):Prop where
 fromLog: ∀f∈J3 low rs,K9 p i j f=true->QK (l.1,l.1+l.2.1.length-1) f.1=true->f∈l.2.1
 inRuns: ∀e∈l.2.1,K9 p i j e=true->((rs.filter λr=>r.2.2.1==low).any λr=>QK (r.1,r.2.1) e.1)=true->e∈J3 low rs
 own: ∀r∈rs,∀f∈r.2.2.2.2.2,QK (r.1,r.2.1) f.1=true
 once:((J3 low rs).map (·.1)).Nodup
def AJC{B:Nat}{a:AO}{l:Ae}{p i j R:Int}{c:Int×(Int×Bool)}{b:List Af}{P:List Int}(V:CP B)(hB:B≤16777216)(al:j-i≤B)(hi:0≤i)(hj:i≤j)
  (h:VB a) (D:Dg l) (hp:0<=p/\p<a.2.1) (L:GA (a,p)=some c) (ht:c.2.2=true) (N:G3 a=some (b,P)) (w:b.length=P.length) (t:b.length<=256)
  (hr: ∀r∈b,r.2.2.2.2.2.length<=4096) (W:MI (Vi l c.1 b,j)=some R) (z:AGP l c.1 p i j b):
  Ar (Hq (a,(l,(p,(i,j))))) λr=>(R>i/\r=([],42))\/(R<=i/\ ∃s:List EN,(s.Pairwise λx y=>x.1<y.1)/\(∀e,e∈s↔(e∈l.2.1\/e∈J3 c.1 b)/\K9 p i j e=true)/\((YU i s/\r=(s,0))\/(¬YU i s/\r=([],13)))):=by
 have K:=D.nodup;unfold Hq;dsimp only;refine AA (aA (x:=(a,(l,(p,i)))) h D ⟨hp.1,hp.2,hi⟩) λv0 h0=>AK (λk=>absurd h0 k) (λ_=>AC (λk=>absurd k o!) (λ_=>?_));rw[zc D L ht N w t,AD,W,AD];refine AC (λhf=>AB (.inl ⟨hf,rfl⟩)) (λhf=>AA (AIX D (by simp[Vi]) (by have:=Gm (λr:Af=>r.2.2.1==c.1) b;simp only[Vi,Cu,B5];omega)) λag H=>?_);rw[L,AD,ht,Cg,cond_false,N,AD];have hP: ∀v∈J3 c.1 b,K9 p i j v=true->(QK (l.1,l.1+l.2.1.length-1) v.1=true->(v∈l.2.1/\K9 p i j v=true))/\ ∀e,((e∈l.2.1/\K9 p i j e=true)\/(e∈J3 c.1 b/\K9 p i j e=true))->e.1=v.1->e=v:=λv hv E=>by refine⟨λk=>⟨z.fromLog v hv E k,E⟩,λe u A=>?_⟩;rcases u with⟨u,_⟩|⟨u,_⟩;have ad:=z.fromLog v hv E (by rw[<-A];exact D.has u);exact YD K u ad A;exact YD z.once u hv A
 apply AA (AIa (sp:=(l.1,l.1+l.2.1.length-1)) rfl H.2 w t hr hP);rintro q ⟨m,n,rfl,o,hn⟩;apply BG;dsimp only;have f:ag.1=n:=by
  rw[H.1,hn];refine congrArg Int.ofNat (List.Perm.length_eq ?_)
  refine(mr ((o0 K).filter _) ((o0 z.once).filter _)).2 λe=>?_;rw[Bk,Bk];simp only[BO];have I:((Vi l c.1 b).tail.any λs=>QK s e.1)=((b.filter λr=>r.2.2.1==c.1).any λr=>QK (r.1,r.2.1) e.1):=by unfold Vi;rw[List.tail_cons,List.any_map];rfl
  rw[I];constructor;rintro⟨F,G,S⟩;exact⟨z.inRuns e F G S,G,D.has F⟩;rintro⟨F,G,S⟩;obtain⟨r,M,Y⟩:=Hh.1 F;exact⟨z.fromLog e F G S,G,pW.2 ⟨r,M,z.own r (Bk.1 M).1 e Y⟩⟩
 refine AK (λk=>absurd f k) (λ_=>?_);have J: ∀q∈m,K9 p i j q.2=true:=λq d=>by
  have:(q.2.1,q.2)∈m:=by rw[<-o.2.1 q d];exact d
  rcases(o.2.2 q.2).1 this with g|g;exact g.2;exact g.2
 have X:m.length<=B:=by
  have:=wG (j-i).toNat i (m.map (·.1)) o.1 λx hx=>by obtain⟨q,d,rfl⟩:=Bl.1 hx;have E:=J q d;have hk:=o.2.1 q d;unfold K9 at E;simp only[BO,decide_eq_true_eq]at E;omega
  rw[B5]at this;omega
 refine AC (λ_=>?_) (λk=>absurd k (by show¬ ¬((m.length:Int)<=16777216);omega));have C:((m.map (·.2)).map (·.1))=m.map (·.1):=by rw[Qu];exact M6 λq d=>(o.2.1 q d).symm
 refine AA (AFr V (l:=m.map (·.2)) (by rw[B5];exact X) (by rw[B5];omega) (by rw[C];exact o.1)) λs Q=>?_;have Z:s.length=m.length:=by rw[Q.1.length_eq,B5]
 have U:Nat.beq (List.length s) (List.length m)=true:=by rw[Z];exact HB _
 rw[U,cond_true];have O: ∀e,e∈s↔(e∈l.2.1\/e∈J3 c.1 b)/\K9 p i j e=true:=λe=>by
  rw[Q.1.mem_iff];constructor;intro u;obtain⟨q,d,rfl⟩:=Bl.1 u;have:(q.2.1,q.2)∈m:=by rw[<-o.2.1 q d];exact d
  rcases(o.2.2 q.2).1 this with g|g;exact⟨.inl g.1,g.2⟩;exact⟨.inr g.1,g.2⟩;rintro⟨g,g'⟩;exact Bl.2 ⟨(e.1,e),(o.2.2 e).2 (g.imp (λg=>⟨g,g'⟩) (λg=>⟨g,g'⟩)),rfl⟩
 refine AA (AIc o!) λr hr=>?_;rcases hr with⟨rfl,T⟩|⟨rfl,T⟩;exact BG (AB (.inr ⟨o!,s,Q.2,O,.inl ⟨T,rfl⟩⟩));exact A3 (AB (.inr ⟨o!,s,Q.2,O,.inr ⟨T,rfl⟩⟩))
def rY{s t:List EN}(c:s.Pairwise λx y=>x.1<y.1)(d:t.Pairwise λx y=>x.1<y.1)(h: ∀e,e∈s↔e∈t):s=t:=by have nd: ∀{u:List EN},(u.Pairwise λx y=>x.1<y.1)->u.Nodup:=λg=>I0.2 (g.imp λh e=>by rw[e]at h;omega);have f:=(mr (nd c) (nd d)).2 h;exact vR (le:=λa b=>a.1<b.1) (λa b _ _ i j=>o!) c d f
structure ju(L:List EN)(r:Af):Prop where
 mem: ∀e,e∈r.2.2.2.2.2↔e∈L/\jY e=true/\r.2.2.1<=e.2.2.2.2.2.2.1.1/\e.2.2.2.2.2.2.1.1<=r.2.2.2.1/\r.1<=e.1/\e.1<=r.2.1
 nd:(r.2.2.2.2.2.map (·.1)).Nodup
def ADJ{L:List EN}{l:Ae}{k:List Af}{b p i j:Int}(a: ∀e,e∈l.2.1↔e∈L∧l.1≤e.1∧e.1≤l.1+l.2.1.length-1)(hr: ∀r∈k,ju L r)
  (t: ∀r∈k,r.2.2.1=b->b<=p/\p<=r.2.2.2.1) (h:(k.filter λr=>r.2.2.1==b).Pairwise λr s=>r.2.1<s.1\/s.2.1<r.1):AGP l b p i j k where
 fromLog f hf hw hh:=by obtain⟨r,c,g⟩:=Hh.1 hf;have d:=((hr r (Bk.1 c).1).mem f).1 g;unfold QK at hh;simp only[BO,decide_eq_true_eq]at hh;exact(a f).2 ⟨d.1,o!⟩
 inRuns e o hw ha:=by obtain⟨r,c,g⟩:=pW.1 ha;have d:=Bk.1 c;have q:r.2.2.1=b:=eq_of_beq d.2;have A:=t r d.1 q;unfold K9 at hw;unfold QK at g;simp only[BO,decide_eq_true_eq,beq_iff_eq]at hw g;exact Hh.2 ⟨r,c,((hr r d.1).mem e).2 ⟨((a e).1 o).1,hw.1,o!⟩⟩
 own r hrr f hf:=by have d:=((hr r hrr).mem f).1 hf;unfold QK;simp only[BO,decide_eq_true_eq];omega
 once:=by unfold J3;rw[List.map_flatMap,I0,List.pairwise_flatMap];refine⟨λr c=>I0.1 (hr r (Bk.1 c).1).nd,?_⟩;refine pT ?_ h;intro r s c g d x u y v o;obtain⟨e,m,rfl⟩:=Bl.1 u;obtain⟨f,n,rfl⟩:=Bl.1 v;have w:=((hr r (Bk.1 c).1).mem e).1 m;have z:=((hr s (Bk.1 g).1).mem f).1 n;omega
def yh{L:List EN}{d:List Af}{a p i j:Int}(hr: ∀r∈d,ju L r)(n: ∀r∈d,r.2.2.1=a→a≤p∧p≤r.2.2.2.1){e:EN}(l:K9 p i j e=true):
  e∈J3 a d↔e∈L/\ ∃r∈d,r.2.2.1=a/\r.1<=e.1/\e.1<=r.2.1:=by
 unfold K9 at l;simp only[BO,decide_eq_true_eq,beq_iff_eq]at l;constructor;intro h;obtain⟨r,f,b⟩:=Hh.1 h;obtain⟨c,k⟩:=Bk.1 f;have g:=((hr r c).mem e).1 b;exact⟨g.1,r,c,eq_of_beq k,g.2.2.2.2.1,g.2.2.2.2.2⟩;rintro⟨f,r,b,c,k,m⟩;have g:=n r b c;exact Hh.2 ⟨r,Bk.2 ⟨b,by simp[c]⟩,((hr r b).mem e).2 ⟨f,l.1,o!,o!,k,m⟩⟩
def rp(a:AO)(l:Ae)(low n:Int):Prop:=(l.1<=n/\n<=l.1+l.2.1.length-1)\/ ∃e∈F9 a,e.1.2.2.1=low/\e.1.1<=n/\n<=e.1.2.1
def AGp{B:Nat}{a:AO}{l:Ae}{L:List EN}{p i j:Int}{c:Int×(Int×Bool)}(O:CP B)(hB:B≤16777216)(P:j-i≤B)(Y:0≤i)(Z:i≤j)(hJ:j≤1099511627776)
  (h:VB a) (hd:DS a) (J:Dg l) (S:0<=p/\p<a.2.1) (G:GA (a,p)=some c) (ht:c.2.2=true) (K:L.Pairwise λx y=>x.1<y.1) (b: ∀e,e∈l.2.1↔e∈L/\l.1<=e.1/\e.1<=l.1+l.2.1.length-1)
  (hR: ∀e∈F9 a,ju L e.1) (z:AEz (F9 a)) (T: ∀e∈F9 a,e.1.2.2.1=c.1->c.1<=p/\p<=e.1.2.2.2.1):
  ∃k,(0<=k/\k<=j/\(∀n,k<n->n<=j->rp a l c.1 n)/\(k=0\/ ¬rp a l c.1 k))/\QW (a,(l,(p,(i,j))))=some (decide (k<=i))/\Ar (Hq (a,(l,(p,(i,j))))) λr=>(k>i/\r=([],42))\/(k<=i/\((YU i (L.filter (K9 p i j))/\r=(L.filter (K9 p i j),0))\/(¬YU i (L.filter (K9 p i j))/\r=([],13)))):=by
 obtain⟨q,H,v,E,w2,rfl,w4,w5⟩:=we h hd (Uj h) z;have o: ∀r∈v.map (·.1),∃e∈F9 a,e.1=r:=λr hr=>by obtain⟨e,d,rfl⟩:=Bl.1 hr;exact⟨e,E.mem_iff.1 d,rfl⟩
 have D: ∀r∈v.map (·.1),ju L r:=λr hr=>by obtain⟨e,d,rfl⟩:=o r hr;exact hR e d
 have C: ∀r∈v.map (·.1),r.2.2.1=c.1->c.1<=p/\p<=r.2.2.2.1:=λr hr=>by obtain⟨e,d,rfl⟩:=o r hr;exact T e d
 have U:((v.map (·.1)).filter λr=>r.2.2.1==c.1).Pairwise λr s=>r.2.1<s.1\/s.2.1<r.1:=by rw[List.filter_map,TX];have R:v.Pairwise λx y=>x≠y:=I0.1 (E.nodup_iff.2 (Uj h));refine pT ?_ (R.filter _);intro x y hx hy Q;obtain⟨x1,x2⟩:=Bk.1 hx;obtain⟨V,W⟩:=Bk.1 hy;exact z x (E.mem_iff.1 x1) y (E.mem_iff.1 V) Q ((eq_of_beq x2).trans (eq_of_beq W).symm)
 have ad:(Vi l c.1 (v.map (·.1))).length<=257:=by have:=Gm (λr:Af=>r.2.2.1==c.1) (v.map (·.1));rw[B5]at this;simp only[Vi,Cu,B5];omega
 have M:SpL (Vi l c.1 (v.map (·.1))):=by refine⟨o!,λs f=>?_⟩;rcases A8.1 f with f|f;rw[f];exact J.1;obtain⟨r,hr,rfl⟩:=Bl.1 f;obtain⟨e,d,rfl⟩:=Bl.1 (Bk.1 hr).1;exact(w5 e d).1
 have m: ∀n,yX (Vi l c.1 (v.map (·.1))) n↔rp a l c.1 n:=λn=>by constructor;rintro⟨s,f,t,w⟩;rcases A8.1 f with f|f;rw[f]at t w;exact .inl ⟨t,w⟩;obtain⟨r,hr,rfl⟩:=Bl.1 f;obtain⟨g1,I⟩:=Bk.1 hr;obtain⟨e,d,rfl⟩:=o r g1;exact .inr ⟨e,d,eq_of_beq I,t,w⟩;rintro(⟨t,w⟩|⟨e,d,h0,t,w⟩);exact⟨_,A8.2 (.inl rfl),t,w⟩;exact⟨(e.1.1,e.1.2.1),A8.2 (.inr (Bl.2 ⟨e.1,Bk.2 ⟨WH (E.mem_iff.2 d),by simp[h0]⟩,rfl⟩)),t,w⟩
 obtain⟨k,F,f1,f2,X,f4⟩:=AAL M (u:=j) o! hJ;refine⟨k,⟨f1,f2,λn t w=>(m n).1 (X n t w),f4.imp id λhh N=>hh ((m k).2 N)⟩,?_,?_⟩;obtain⟨v0,ev,hv⟩:=aA (x:=(a,(l,(p,i)))) h J ⟨S.1,S.2,Y⟩;unfold QW;dsimp only;rw[ev,AD,beq_iff_eq.2 hv,cond_true,decide_eq_true Z,cond_true,zc J G ht H (by rw[B5,B5]) (by rw[B5];exact w4),AD,F,AD];refine(AJC O hB P Y Z h J S G ht H (by rw[B5,B5]) (by rw[B5];exact w4) (λr hr=>?_) F (ADJ b D C U)).mono λr hr=>?_;obtain⟨e,d,rfl⟩:=Bl.1 hr;exact(w5 e d).2.2.2.2.2.2.2.2;rcases hr with hr|⟨hr,s,s1,s2,s3⟩;exact .inl hr;refine .inr ⟨hr,?_⟩;have f:s=L.filter (K9 p i j):=rY s1 (K.filter _) λe=>by rw[s2,Bk];constructor;rintro⟨g|g,A⟩;exact⟨((b e).1 g).1,A⟩;exact⟨((yh D C A).1 g).1,A⟩;rintro⟨g,A⟩;refine⟨?_,A⟩;have I:=A;unfold K9 at I;simp only[BO,decide_eq_true_eq]at I;rcases(m e.1).1 (X e.1 o! o!)with N|⟨y,V,W,y3,y4⟩;exact .inl ((b e).2 ⟨g,N⟩);exact .inr ((yh D C A).2 ⟨g,y.1,WH (E.mem_iff.2 V),W,y3,y4⟩)
 rw[<-f];exact s3
def BD.lt{n:Int}{l:List Int}(h:BD n l): ∀(d i:Nat) (x y:Int),l[i]? =some x->l[i+1+d]? =some y->x<y
 |0,i,x,y,hx,hy=>by have:=DQ hy;exact h.2.2.2.2.2.1 i x y o! hx hy
 |d+1,i,x,y,hx,hy=>by have e:=DQ hy;have a:l[i+1+d]? =some (l[i+1+d]' o!):=A4 o!;have b:=BD.lt h d i x _ hx a;have c:=h.2.2.2.2.2.1 (i+1+d) _ y o! a q!;omega
def BD.le{n:Int}{l:List Int}(h:BD n l){i j:Nat}{x y:Int}(a:i<=j)(b:l[i]? =some x)(c:l[j]? =some y):x<=y:=by
 by_cases e:i=j;grind;obtain⟨d,rfl⟩: ∃d,j=i+1+d:=⟨j-(i+1),o!⟩
 have:=h.lt d i x y b c;omega
def BD.mem{n:Int}{l:List Int}(h:BD n l){i:Nat}{x:Int}(a:l[i]? =some x):0<=x/\x<n:=by have f:=DQ a;have b:l[l.length-1]? =some (l[l.length-1]' o!):=A4 o!;have c:=h.le (Bi i) h.2.2.2.2.1 a;have d:=h.le (by omega:i<=l.length-1) a b;have e:=h.2.2.2.2.2.2 _ b;omega
def BD.inj{n:Int}{l:List Int}(h:BD n l){i j:Nat}{x:Int}(b:l[i]? =some x)(c:l[j]? =some x):i=j:=by
 rcases Qz i j with a|a|a;obtain⟨d,rfl⟩: ∃d,j=i+1+d:=⟨j-(i+1),o!⟩
 have:=h.lt d i x x b c;omega;exact a;obtain⟨d,rfl⟩: ∃d,i=j+1+d:=⟨i-(j+1),o!⟩
 have:=h.lt d j x x c b;omega
def qP(a:AO)(i:Nat):Int:=match a.1[i+1]? with
 |some h=>h-1
 |none=>a.2.1-1
def M4(a:AO)(lo hi:Int):Prop:= ∃i:Nat,a.1[i]? =some lo/\hi=qP a i
def ADq{a:AO}(h:BD a.2.1 a.1){i:Nat}(c:i<a.1.length):(∀w,a.1[i+1]? =some w->wi (w-1)=qP a i)/\(a.1.length<=i+1->wi (a.2.1-1)=qP a i):=by refine⟨λw b=>?_,λd=>?_⟩;have:=h.mem b;have:=h.2.1;grind[qP,AX];have:=h.1;have:=h.2.1;grind[qP,List.getElem?_eq_none,AX]
def nj{a:AO}(h:BD a.2.1 a.1){i:Nat}{b:Int}(c:a.1[i]? =some b):Eg (a,(i:Int))=some (b,qP a i):=by
 have f:=DQ c;have d:=h.2.2.2.1;have⟨j,k⟩:=ADq h f;unfold Eg;rw[AX (x:=(i:Int)+1),(by unfold ix;rw[if_pos o!,Int.toNat_natCast,c]:ix a.1 (i:Int)=some b)];by_cases e:i+1<a.1.length;have g:ix a.1 ((i:Int)+1)=some a.1[i+1]:=by unfold ix;rw[if_pos o!,show((i:Int)+1).toNat=i+1 by omega,(List.getElem?_eq_getElem e)]
 grind;grind
def yL{a:AO}(h:BD a.2.1 a.1){i:Nat}{b:Int}(c:a.1[i]? =some b):Jx (a,(i:Int))=some (b,qP a i):=by
 have f:=DQ c;have d:=h.2.2.2.1;have⟨j,k⟩:=ADq h f;unfold Jx;rw[AX (x:=(i:Int)+1),(by unfold ix;rw[if_pos o!,Int.toNat_natCast,c]:ix a.1 (i:Int)=some b)];by_cases e:i+1<a.1.length;have g:ix a.1 ((i:Int)+1)=some a.1[i+1]:=by unfold ix;rw[if_pos o!,show((i:Int)+1).toNat=i+1 by omega,(List.getElem?_eq_getElem e)]
 grind;grind
def zN{a:AO}{r:Af}(h:BD a.2.1 a.1):Ar (IW (a,r)) λk=>0<=k↔M4 a r.2.2.1 r.2.2.2.1:=by
 have g:=h.2.2.2.1;refine AA (P:=λq=>(∃k:Int,q= .inl k/\0<=k/\M4 a r.2.2.1 r.2.2.2.1)\/(q= .inr ()/\ ¬M4 a r.2.2.1 r.2.2.2.1)) ?_ λq p=>?_
 ·refine Cf (λ(s:Int)=>0<=s/\s<=a.1.length/\ ∀i:Nat,(i:Int)<s-> ¬(a.1[i]? =some r.2.2.1/\r.2.2.2.1=qP a i)) (λs=>((a.1.length:Int)-s).toNat) ⟨Ad _,o!,λi m=>o!⟩ (λs j=>?_);have⟨e,t,u⟩:=j;unfold J0;dsimp[len];refine AC (λl=>?_) (λl=>Ar.done (.inr ⟨rfl,?_⟩))
  ·obtain⟨k,rfl⟩:=FF e;rw[nj h (A4 o!),AD,AX];have f: ¬(a.1[k]? =some r.2.2.1/\r.2.2.2.1=qP a k)->Ar (some (Step.next ((k:Int)+1)):Option (Step Int (Int ⊕ Unit))) (MK (λ(s:Int)=>0<=s/\s<=a.1.length/\ ∀i:Nat,(i:Int)<s-> ¬(a.1[i]? =some r.2.2.1/\r.2.2.2.1=qP a i)) (λs=>((a.1.length:Int)-s).toNat) ((a.1.length:Int)-(k:Int)).toNat λq=>(∃k:Int,q= .inl k/\0<=k/\M4 a r.2.2.1 r.2.2.2.1)\/(q= .inr ()/\ ¬M4 a r.2.2.1 r.2.2.2.1)):=λhn=>by
    refine Ar.next ⟨o!,o!,λi m=>?_⟩ o!
    grind
   refine AQ (λb=>?_) (λb=>f λd=>b ?_)
   ·refine AQ (λc=>Ar.done (.inl ⟨_,rfl,e,k,?_,?_⟩)) (λc=>f λd=>c d.2.symm);grind;grind
   grind
  rintro⟨i,n,o⟩;grind
 grind[BG,AB,A3]
def AEB{a:AO}{r:Af}(h:BD a.2.1 a.1):Ar (MO (a,r)) λk=>0<=k↔M4 a r.2.2.1 r.2.2.2.1:=by
 have g:=h.2.2.2.1;refine AA (P:=λq=>(∃k:Int,q= .inl k/\0<=k/\M4 a r.2.2.1 r.2.2.2.1)\/(q= .inr ()/\ ¬M4 a r.2.2.1 r.2.2.2.1)) ?_ λq p=>?_
 ·refine Cf (λ(s:Int)=>0<=s/\s<=a.1.length/\ ∀i:Nat,(i:Int)<s-> ¬(a.1[i]? =some r.2.2.1/\r.2.2.2.1=qP a i)) (λs=>((a.1.length:Int)-s).toNat) ⟨Ad _,o!,λi m=>o!⟩ (λs j=>?_);have⟨e,t,u⟩:=j;unfold Q7;dsimp[len];refine AC (λl=>?_) (λl=>Ar.done (.inr ⟨rfl,?_⟩))
  ·obtain⟨k,rfl⟩:=FF e;rw[yL h (A4 o!),AD,AX];have f: ¬(a.1[k]? =some r.2.2.1/\r.2.2.2.1=qP a k)->Ar (some (Step.next ((k:Int)+1)):Option (Step Int (Int ⊕ Unit))) (MK (λ(s:Int)=>0<=s/\s<=a.1.length/\ ∀i:Nat,(i:Int)<s-> ¬(a.1[i]? =some r.2.2.1/\r.2.2.2.1=qP a i)) (λs=>((a.1.length:Int)-s).toNat) ((a.1.length:Int)-(k:Int)).toNat λq=>(∃k:Int,q= .inl k/\0<=k/\M4 a r.2.2.1 r.2.2.2.1)\/(q= .inr ()/\ ¬M4 a r.2.2.1 r.2.2.2.1)):=λhn=>by
    refine Ar.next ⟨o!,o!,λi m=>?_⟩ o!
    grind
   refine AQ (λb=>?_) (λb=>f λd=>b ?_)
   ·refine AQ (λc=>Ar.done (.inl ⟨_,rfl,e,k,?_,?_⟩)) (λc=>f λd=>c d.2.symm);grind;grind
   grind
  rintro⟨i,n,o⟩;grind
 grind[BG,AB,A3]
def Good(a:AO)(f:AT)(r:Af):Prop:=f.1=1/\f.2.2=Rj r/\VR r/\M4 a r.2.2.1 r.2.2.2.1
def Bad(f:AT):Prop:=f.2.2.length<=1099511627776/\ ∀r,WR r->f.2.2≠Rj r
def Good.intact{a:AO}{f:AT}{r:Af}(h:Good a f r)(e:BD a.2.1 a.1):Gi (a,f)=some (r,true):=by have⟨b,c,d,g⟩:=h;have⟨k,k1,i⟩:=AEB (r:=r) e;unfold Gi;rw[b,c,bne_self_eq_false,cond_false,AHe d,AD,show(((r,(0:Int)):Af×Int).2==0)=true from rfl,cond_true];grind
def Good.intR{a:AO}{f:AT}{r:Af}(h:Good a f r)(b:BD a.2.1 a.1):intR a f=some (r,f.2.1):=by unfold Go.Pm.intR;rw[h.intact b]
def Bad.intR{a:AO}{f:AT}(h:Bad f)(d:BD a.2.1 a.1):intR a f=none:=by
 have key:Ar (Gi (a,f)) λr=>r.2=false:=by exact AK (λ_=>AB rfl) (λ_=>AA (AHf h.1) λv b=>AQ (λc=>absurd (b c).1 (h.2 _ (b c).2)) (λ_=>AB rfl))
 have⟨⟨r,o⟩,k1,e⟩:=key;grind[Go.Pm.intR]
def Bad.ref{a:AO}{f:AT}(h:Bad f): ∃r,GU (a,f)=some (r,-1):=by
 have key:Ar (GU (a,f)) λr=>r.2= -1:=by exact AK (λ_=>AB rfl) (λ_=>AA (AHn h.1) λv b=>AK (λ_=>AB rfl) (λc=>absurd (b c).1 (h.2 _ (b c).2.wr)))
 have⟨⟨r,o⟩,k1,d⟩:=key;grind
def tU{x y:Af}(b:VR x)(c:VR y)(h:Rj x=Rj y):x=y:=by have a:=AAo b;rw[h,AAo c]at a;injection a with a;exact(Prod.ext_iff.1 a).1.symm
structure AR(L:List EN)(a:AO):Prop where
 vb:VB a
 files: ∀f∈a.2.2.1,Bad f\/ ∃r,Good a f r/\ju L r/\r.2.1<a.2.2.2.1
 dis:AEz (F9 a)
def AG(a:AO):Prop:= ∀f∈a.2.2.1,∃r,Good a f r
def RC(a:AO)(c:Nat):Prop:= ∀lo,((F9 a).filter λe=>e.1.2.2.1==lo).length<=c
def sS{b:Type}: ∀(l m:List b),l.Nodup->(∀x∈l,x∈m)->l.length<=m.length
 |[],m,_,_=>Bi _
 |a::l,m,hn,hs=>by
  obtain⟨s,t,rfl⟩:=List.append_of_mem (hs a (A8.2 (.inl rfl)));rw[Gc]at hn;have:=sS l (s++t) hn.2 λx c=>q!
  grind
def AR.mem{L:List EN}{a:AO}(h:AR L a){e:NE}(g:e∈F9 a): ∃f∈a.2.2.1,Good a f e.1/\e.2=f.2.1/\ju L e.1/\e.1.2.1<a.2.2.2.1:=by have⟨f,i,b⟩:=TW.1 g;rcases h.files f i with d|⟨r,c,j,k⟩;rw[d.intR h.vb.1]at b;cases b;rw[c.intR h.vb.1]at b;grind
def eQ{a:AO}(b:BD a.2.1 a.1){f:AT}{r:Af}(c:f∈a.2.2.1)(h:Good a f r):(r,f.2.1)∈F9 a:=by exact TW.2 ⟨f,c,h.intR b⟩
def Good.size{a:AO}{f:AT}{r:Af}(h:Good a f r):f.2.2.length<=34406441:=by rw[h.2.1];exact h.2.2.1.len
def AR.sa{L:List EN}{a:AO}(h:AR L a):SA a:=by have⟨⟨g,i,j,b,k,l,m⟩,a1,a2,a3,a4,a5,a6⟩:=h.vb;refine⟨b,o!,λf e=>?_⟩;rcases h.files f e with d|⟨r,c,_⟩;exact d.1;have:=c.size;omega
def AR.ds{L:List EN}{a:AO}(h:AR L a):DS a:=λf b=>by have:=h.sa.2.2 f b;omega
def M4.uniq{a:AO}(e:BD a.2.1 a.1){d b c:Int}(p:M4 a d b)(q:M4 a d c):b=c:=by obtain⟨i,f,g⟩:=p;obtain⟨j,h,k⟩:=q;have:=e.inj f h;subst this;rw[g,k]
def zp{l:List EN}{e:EN}(h:l.length<=16777000):Ar (DZ (l,e)) λr=>r.1.length<=l.length+1/\((∀y,y∈r.1↔y∈l\/y=e)\/(r.1=l/\ ∃z∈l,z.1=e.1)):=by
 unfold DZ;refine AA (Qa (x:=(l,e)) ⟨Ad _,o!,d!⟩) λp g=>?_;dsimp only at g⊢;have i:Ar (Option.bind (br l 0 p) λj=>
  Option.bind (br l p (len l)) λk=>
  Option.bind (app [] j) λm=>
  Option.bind (app m ([e]:List (Int×(Int×(Int×(Int×(Int×(Int×((Int×(Int×((Bool×BW)×(Bool×BW))))×BW))))))))) λw=>
  Option.bind (app w k) λA=>
  some (A,true)) λr=>r.1.length<=l.length+1/\((∀y,y∈r.1↔y∈l\/y=e)\/(r.1=l/\ ∃z∈l,z.1=e.1)):=by
  refine AA (CU (Ad _) g.1 g.2) λu a=>AA (CU g.1 (by simp[len];omega) i!) λv o=>?_;have C:=a.2;have q:=o.2;simp[len]at q;refine AA (Ac w!) λj b=>?_;have s:=b.2.1;simp[Ck]at s;refine AA (Ac w!) λk d=>?_;have t:=d.2.1;simp[Ck,Cu]at t;refine AA (Ac o!) λm f=>AB ?_;have D:=f.2.1;refine⟨d!,.inl λy=>?_⟩;have n:u=l.take p.toNat:=by rw[a.1];simp
  dsimp only;rw[f.1,d.1,b.1,n,(by grind[List.take_of_length_le,List.length_drop]:v=l.drop p.toNat),Cp];conv=>rhs;rw[<-Da p.toNat l]
  grind[List.mem_singleton]
 refine AC (λB=>?_) (λ_=>i);simp[len]at B;refine AA (AI g.1 B) λE I=>?_;have⟨c,F,G,H⟩:=AGV E e;grind[AQ,AA,AI,AB]
def Uq(L:List EN):Prop:= ∀x∈L,∀y∈L,x.1=y.1->x=y
theorem se{L l:List EN}{e:EN}(c:Uq L)(f: ∀x∈l,x∈L)(d:e∈L)(h:l.length<=16777000):Ar (DZ (l,e)) λr=>r.1.length<=l.length+1/\ ∀y,y∈r.1↔y∈l\/y=e:=by
 refine(zp h).mono λr hr=>⟨hr.1,?_⟩
 rcases hr.2 with hr|⟨b,z,a,i⟩;exact hr;have:=c z (f z a) e d i;subst this;intro y;rw[b];exact⟨.inl,λg=>g.elim id λh=>h▸a⟩
def VR.sorted{r:Af}(h:VR r):r.2.2.2.2.2.Pairwise ltC:=by
 rw[HA];have step: ∀d i:Nat,∀(a:i<r.2.2.2.2.2.length) (b:i+1+d<r.2.2.2.2.2.length),ltC r.2.2.2.2.2[i] r.2.2.2.2.2[i+1+d]:=by
  intro d;induction d with
  |zero=>intro i a b;exact((h.2 (i+1) _ (A4 b)).2.2 _ o! (A4 a)).1
  |succ d e=>intro i a b;exact ACY (e i a o!) (((h.2 (i+1+(d+1)) _ (A4 b)).2.2 _ o! (A4 (by omega:i+1+d<_))).1)
 intro i j a b c;have:=step (j-(i+1)) i a o!;simp[(by omega:i+1+(j-(i+1))=j)]at this;exact this
def VR.nd{L:List EN}{r:Af}(b:Uq L)(h:VR r)(a: ∀e∈r.2.2.2.2.2,e∈L):(r.2.2.2.2.2.map (·.1)).Nodup:=by rw[I0,TX];refine h.sorted.imp_of_mem λ{x y} f g d c=>?_;have:=b x (a x f) y (a y g) c;grind[AAZ]
def VR.runOf{L:List EN}{r:Af}(b:Uq L)(h:VR r)(a: ∀e,e∈r.2.2.2.2.2↔e∈L/\jY e=true/\r.2.2.1<=e.2.2.2.2.2.2.1.1/\e.2.2.2.2.2.2.1.1<=r.2.2.2.1/\r.1<=e.1/\e.1<=r.2.1):ju L r:=⟨a,h.nd b λe c=>((a e).1 c).1⟩
def ABM{v:EN}:jY v=true↔v.2.1=1\/v.2.1=2:=by grind[jY]
def AE2{L d:List EN}{F T g f i:Int}(C:Uq L)(B: ∀e∈d,e∈L)(H:d.length≤16777000):
  Ar (AZ (Jv (d,(F,(T,(g,(f,i)))))) (false,(0,(F,(T,(g,(f,(i,[])))))))) λr=> ∃a:List EN,r.2=(F,(T,(g,(f,(i,a)))))/\a.length<=d.length/\ ∀y,y∈a↔y∈d/\jY y=true/\g<=y.2.2.2.2.2.2.1.1/\y.2.2.2.2.2.2.1.1<=f/\F<=y.1/\y.1<=T:=by
 refine Cf (λ(s:Bool×(Int×Af))=> ∃(k:Nat) (a:List EN),s.2=((k:Int),(F,(T,(g,(f,(i,a))))))/\k<=d.length/\a.length<=k/\ ∀y,y∈a↔y∈d.take k/\jY y=true/\g<=y.2.2.2.2.2.2.1.1/\y.2.2.2.2.2.2.1.1<=f/\F<=y.1/\y.1<=T) (λs=>d.length-s.2.1.toNat)
  ⟨0,[],rfl,Bi _,Am _,λy=>k!⟩ ?_
 rintro⟨M,K⟩ ⟨k,a,rfl,I,J,n⟩;unfold Jv;dsimp only;simp only[len];refine AC (λw=>?_) (λw=>Ar.done ⟨a,rfl,o!,by rw[BK o!]at n;exact n⟩);refine AA (AI o! w) λv l=>?_;have A:=l.1;rw[Ct]at A;have q:d.take (k+1)=d.take k++[v]:=by rw[Ce,A];rfl
 rw[AX]
 have c: ∀m:Bool,¬(jY v=true∧g≤v.2.2.2.2.2.2.1.1∧v.2.2.2.2.2.2.1.1≤f∧F≤v.1∧v.1≤T)→
   Ar (some (Step.next (m,((k:Int)+1,(F,(T,(g,(f,(i,a)))))))):Option (Step (Bool×(Int×Af)) (Bool×Af))) (MK (λ(s:Bool×(Int×Af))=> ∃(k:Nat) (a:List EN),s.2=((k:Int),(F,(T,(g,(f,(i,a))))))/\k<=d.length/\a.length<=k/\ ∀y,y∈a↔y∈d.take k/\jY y=true/\g<=y.2.2.2.2.2.2.1.1/\y.2.2.2.2.2.2.1.1<=f/\F<=y.1/\y.1<=T) (λs=>d.length-s.2.1.toNat) (d.length-((k:Nat):Int).toNat)
    λr=> ∃a:List EN,r.2=(F,(T,(g,(f,(i,a)))))/\a.length<=d.length/\ ∀y,y∈a↔y∈d/\jY y=true/\g<=y.2.2.2.2.2.2.1.1/\y.2.2.2.2.2.2.1.1<=f/\F<=y.1/\y.1<=T):=λm hn=>by
  refine Ar.next ⟨k+1,a,rfl,o!,o!,λy=>?_⟩ d!
  grind[List.mem_singleton]
 refine AA B8 λb u=>AM (λz=>c _ λj=>?_) (λD=>?_);rw[u.2 (ABM.1 j.1)]at z;cases z;refine AC (λ_=>c _ λj=>o!) (λq2=>AC (λ_=>c _ λj=>o!) (λq3=>AC (λ_=>c _ λj=>o!) (λq4=>AC (λ_=>c _ λj=>o!) (λq5=>AA (R7 ⟨Ad _,d!⟩) λG _=>AA (se C (λx E=>B x (Hi ((n x).1 E).1)) (B v l.2) o!) λt o=>Ar.next ⟨k+1,t.1,rfl,o!,o!,λy=>?_⟩ d!))))
 rw[o.2,n,q,A1,BI];constructor;rintro(⟨h,p⟩|h);exact⟨.inl h,p⟩;subst h;exact⟨.inr rfl,(ABM.2 (u.1 D)),o!⟩;rintro⟨h|h,p⟩;exact .inl ⟨h,p⟩;exact .inr h
def AGr{L c:List EN}{F T h g j:Int}(n:Uq L)(q: ∀e∈c,e∈L)(p:c.length<=16777000):Ar (JV (c,(F,(T,(h,(g,j)))))) λr=>r.2=0->VR r.1/\ ∃b:List EN,r.1=(F,(T,(h,(g,(j,b)))))/\ ∀y,y∈b↔y∈c/\jY y=true/\h<=y.2.2.2.2.2.2.1.1/\y.2.2.2.2.2.2.1.1<=g/\F<=y.1/\y.1<=T:=by unfold JV;refine AA IV λw _=>AM (λ_=>AB λa=>absurd (show(1:Int)=0 from a) g!) (λ_=>?_);refine AA (R6 ⟨Ad _,d!⟩) λx m=>BA (λu i=>AB λa=>absurd a (m u i)) (λu i=>AA (AE2 n q p) λs d=>?_);have⟨b,k,v,l⟩:=d;refine AJ (λ_=>AB λa=>absurd (show(41:Int)=0 from a) g!) (λ_=>?_);refine AC (λ_=>AB λa=>absurd (show(21:Int)=0 from a) g!) (λ_=>?_);refine AA bw λt f=>AM (λ_=>AB λa=>absurd (show(13:Int)=0 from a) g!) (λo=>AB λ_=>⟨f.1 o,b,k,l⟩)
set_option maxHeartbeats 400000
def AGs{x:Int×List Int}(h:BD x.1 x.2):Ar (Fh x) λr=>r.2=0/\VB r.1/\r.1.2.1=x.1/\r.1.2.2.2.1=1:=by refine AA fN λl c=>AM (λb=>(by rw[c.2 h]at b;cases b)) (λ_=>?_);have k:=h.2.2.2.1;refine AA (Ac w!) λm e=>AB ⟨rfl,⟨?_,u!,u!,u!,u!,k!,⟨λi f d a=>by simp at a,λi f g d a j=>by simp at a⟩⟩,rfl,rfl⟩;grind
def FR.push{l m:List AT}{f:AT}{c:Int}(h:FR l c l.length)(v:1<=c)(r:f.2.1=c)(u:m=l++[f]):FR m (c+1) m.length:=by
 subst u;obtain⟨q,t⟩:=h;have p:(l++[f]).length=l.length+1:=k!
 have b: ∀(i:Nat) (g:AT),¬i<l.length->(l++[f])[i]? =some g->g=f:=λi g j a=>by
  have o:=DQ a;rw[p]at o;have s:i=l.length:=o!
  subst s;rw[Cb (Am _)]at a;simp at a;exact a.symm
 refine⟨λi g j a=>?_,λi g k j a n=>?_⟩;by_cases e:i<l.length;rw[CL e]at a;have:=q i g o! a;exact⟨this.1,o!⟩;rw[b i g e a,r];exact o!;rw[p]at j;have e:i<l.length:=o!
 rw[CL e]at a;by_cases d:i+1<l.length;rw[CL d]at n;exact t i g k o! a n;rw[b (i+1) k d n,r];exact(q i g o! a).2
def AE7{x:AO×Ae×Int}(h:SA x.1)(l:VB x.1):Ar (F8 x) λr=>r.2=0->SA r.1/\VB r.1/\r.1.2.1=x.1.2.1/\(r.1.2.2.2.1=x.1.2.2.2.1\/r.1.2.2.2.1<=x.2.1.2.2+1):=by
 unfold F8;refine AA Ob λv0 N=>AM (λ_=>AB n!) (λd=>?_);obtain⟨a1,a2,a3,a4,a5,a6,a7,a8,a9⟩:=N d;refine AA Be λv1 q=>AM (λ_=>AB n!) (λm=>?_);obtain⟨l1,l2,l3,l4,l5,Y⟩:=q.1 m;refine AC (λ_=>AB n!) (λc1=>AC (λ_=>AB n!) (λc2=>?_));generalize R:(if(x.2.1.1>x.1.2.2.2.1)then x.2.1.1 else x.1.2.2.2.1)=F;have f1:x.2.1.1<=F/\x.1.2.2.2.1<=F/\F<=1099511627777:=by rw[<-R];split<;>omega
 have C:=AX (x:=F+x.2.2);have D:=AX (x:=F+x.2.2-1);rw[C,D];generalize S:(if(x.2.1.2.2<(F+x.2.2-1))then x.2.1.2.2 else(F+x.2.2-1))=G;have g1:G<=x.2.1.2.2/\G<=F+x.2.2-1:=by rw[<-S];split<;>omega
 refine AC (λ_=>AB λ_=>⟨h,l,rfl,.inl rfl⟩) (λc3=>?_);have E:=AX (x:=F-x.2.1.1);have H:=AX (x:=G-x.2.1.1);have I:=AX (x:=G-x.2.1.1+1);rw[E,H,I];have J:=AX (x:=len x.1.2.2.1+len x.1.1) i!;have K:=AX (x:=x.1.2.2.2.2+len x.1.1) i!;have L:=AX (x:=G+1);rw[J,K,L];have T:G<=1099511627776:=by
  have W:x.2.1.2.1.length≠0:=o!
  obtain⟨i,n⟩: ∃i,x.2.1.2.1[x.2.1.2.1.length-1]? =some i:=⟨_,A4 o!⟩
  have:=Y _ i n;have q:=this.1;have t:=this.2.2.1;omega
 refine AC (λ_=>AB n!) (λA=>AC (λ_=>AB n!) (λB=>?_));simp only[len]at A B;refine AA (CU) λv2 t=>?_;have V:=t.2;refine AA (R9 ⟨Ad _,d!,o!⟩) λv8 Q=>BA (λu b=>AB λa=>absurd a (Q u b)) (λu b=>AA (Ac w!) λZ j=>?_);have c:=j.1;rw[Cp]at c;refine AA (P:=λr=>(∀u,r= .inl u->u.1≠0)/\ ∀u,r= .inr u->u.2.1=x.1.1/\u.1.length<=256/\(∀f∈u.1,f.2.2.length<=1099511627776)/\u.2.2.1=x.1.2.1/\u.2.2.2.2.1=x.1.2.2.2.2+x.1.1.length/\FR u.1 u.2.2.2.2.1 u.1.length) ?_ λr hr=>BA (λu b=>AB λa=>absurd a (hr.1 u b)) (λu b=>AB λ_=>?_);refine AV (λ(s:Int×(List AT)×(List Int)×Int×Int×Int×AO)=>0<=s.1/\s.1<=x.1.1.length/\s.2.2.1=x.1.1/\(s.2.1.length:Int)=x.1.2.2.1.length+s.1/\(∀f∈s.2.1,f.2.2.length<=1099511627776)/\s.2.2.2.1=x.1.2.1/\s.2.2.2.2.2.1=x.1.2.2.2.2+s.1/\FR s.2.1 s.2.2.2.2.2.1 s.2.1.length) (λ(s:Int×(List AT)×(List Int)×Int×Int×Int×AO)=>((x.1.1.length:Int)-s.1).toNat) ⟨Ad _,d!,rfl,by dsimp only;rw[c];omega,by dsimp only;rw[c];exact h.2.2,rfl,d!,by dsimp only;rw[c];exact l.2.2.2.2.2.2⟩ (λs U=>?_);obtain⟨X,i2,v,i4,y,z,i7,i8⟩:=U;unfold Oa;have e:=AX (x:=s.1+1);rw[e];refine AC (λd=>?_) (λd=>AB ⟨λu b=>(by cases b),λu b=>(by cases b;simp only[len]at d;exact⟨v,o!,y,z,o!,i8⟩)⟩);simp only[len]at d;refine AA (eO a4 ⟨X,d⟩) λad _=>AA (iP d!) λag O=>AK (λd=>AB ⟨λu b=>(by cases b;exact d),λu b=>(by cases b)⟩) (λ_=>AA bi λal k=>AA (Ac w!) λao g=>AB ?_);have p:=g.2.1;simp only[Cu,Ck]at p;have M:=AX (x:=s.2.2.2.2.2.1+1);rw[M];refine⟨⟨d!,d!,v,d!,λf o=>?_,z,d!,i8.push o! rfl g.1⟩,d!⟩;dsimp only at o;rw[g.1]at o;rcases A1.1 o with w|w;exact y f w;simp at w;rw[w];exact k;obtain⟨q1,q2,q3,q4,q5,q6⟩:=hr.2 u b;refine⟨⟨by dsimp only;rw[q1];exact a4,d!,q3⟩,⟨?_,d!,d!,d!,d!,q2,q6⟩,q4,.inr d!⟩;dsimp only;rw[q1,q4];exact l.1
def FP(l:List AT)(m:Int):Prop:=(∀f∈l,0<f.2.1/\f.2.1<m)/\l.Pairwise λf g=>f.2.1<g.2.1
def AAK{l:List AT}{m:Int}(h:FP l m):FR l m l.length:=by refine⟨λi f e a=>h.1 f (BU a),λi f g e a d=>?_⟩;have b:=DQ a;have c:=DQ d;have:=HA.1 h.2 i (i+1) b c o!;grind
def FR.fp{l:List AT}{m:Int}(h:FR l m l.length):FP l m:=by
 refine⟨λf e=>?_,HA.2 λi j b c g=>?_⟩;obtain⟨i,b⟩:=Iz.1 e;have:=DQ b;exact h.1 i f o! b;obtain⟨d,rfl⟩: ∃d,j=i+1+d:=⟨j-(i+1),o!⟩
 induction d with
 |zero=>exact h.2 i _ _ o! (A4 b) (A4 c)
 |succ d k=>
  have a:i+1+d<l.length:=o!
  have n:=k a o!;have o:=h.2 (i+1+d) l[i+1+d] l[i+1+(d+1)] o! (A4 a) (A4 c);omega
def FR.sub{l k:List AT}{m:Int}(h:FR l m l.length)(a:k.Sublist l):FR k m k.length:=AAK ⟨λf b=>h.fp.1 f (a.subset b),h.fp.2.sublist a⟩
def ADA(L:List EN)(a:AO)(F G s:Int)(nf:List AT):Prop:= ∀(j:Nat) (f:AT),nf[j]? =some f->
 ∃r,f=(1,(s+j,Rj r))/\VR r/\ju L r/\r.1=F/\r.2.1=G/\a.1[j]? =some r.2.2.1/\r.2.2.2.1=qP a j
def Dg.uq{l:Ae}(h:Dg l):Uq l.2.1:=λx b y c a=>YD h.nodup b c a
def ACV{l:Ae}(h:Dg l){F G:Int}{v:List EN}(g:l.1<=F)(i:F<=G)(j:G<=l.1+l.2.1.length-1)(b:v=(l.2.1.drop (F-l.1).toNat).take ((G-l.1+1).toNat-(F-l.1).toNat))(e:EN):e∈v↔e∈l.2.1/\F<=e.1/\e.1<=G:=by subst b;have⟨l1,l2,m,n,o,c⟩:=h;rw[Iz,Iz];constructor;grind;rintro⟨⟨k,a⟩,d,f⟩;have:=(c _ e a).1;refine⟨k-(F-l.1).toNat,?_⟩;rw[cF,if_pos o!,Ja,show(F-l.1).toNat+(k-(F-l.1).toNat)=k by omega,a]
def sj{x:AO×Ae×Int}(h:SA x.1)(hb:VB x.1)(q:Dg x.2.1):Ar (F8 x) λr=>r.2=0→r.1=x.1∨
  ∃F G a,r.1=(x.1.1,(x.1.2.1,(x.1.2.2.1++a,(G+1,x.1.2.2.2.2+a.length))))/\(x.1.2.2.2.1<=F/\(x.2.1.1<=x.1.2.2.2.1->F=x.1.2.2.2.1)/\(x.2.1.1<=F/\G<=x.2.1.2.2))/\F<=G/\a.length=x.1.1.length/\ADA x.2.1.2.1 x.1 F G x.1.2.2.2.2 a:=by
 unfold F8;refine AA Ob λv0 X=>AM (λ_=>AB λb=>absurd (show(54:Int)=0 from b) g!) (λi=>?_);have⟨a1,a2,a3,a4,a5,a6,a7,a8,a9⟩:=X i;refine AA Be λv1 h1=>AM (λ_=>AB λb=>absurd (show(26:Int)=0 from b) g!) (λad=>?_);have⟨l1,l2,l3,l4,l5,l6⟩:=id q;refine AC (λ_=>AB λb=>absurd (show(1:Int)=0 from b) g!) (λc1=>AC (λ_=>AB λb=>absurd (show(1:Int)=0 from b) g!) (λc2=>?_));have o: ∃F,(if(x.2.1.1>x.1.2.2.2.1)then x.2.1.1 else x.1.2.2.2.1)=F:=⟨_,rfl⟩
 have⟨F,o⟩:=o;have V:x.2.1.1<=F/\x.1.2.2.2.1<=F/\F<=1099511627777:=q!
 have W:x.2.1.1<=x.1.2.2.2.1->F=x.1.2.2.2.1:=q!
 have C:=AX (x:=F+x.2.2);have D:=AX (x:=F+x.2.2-1);have p: ∃G,(if(x.2.1.2.2<(F+x.2.2-1))then x.2.1.2.2 else(F+x.2.2-1))=G:=⟨_,rfl⟩
 have⟨G,p⟩:=p;have g1:G<=x.2.1.2.2/\G<=F+x.2.2-1:=q!
 rw[o,C,D,p];refine AC (λ_=>AB λ_=>.inl rfl) (λc3=>?_);have Q:=AX (x:=F-x.2.1.1);have R:=AX (x:=G-x.2.1.1);have S:=AX (x:=G-x.2.1.1+1);rw[Q,R,S];have T:=AX (x:=len x.1.2.2.1+len x.1.1) (by simp[len];omega);have U:=AX (x:=x.1.2.2.2.2+len x.1.1) (by simp[len];omega);rw[T,U,(AX (x:=G+1))];refine AC (λ_=>AB λb=>absurd (show(21:Int)=0 from b) g!) (λN=>AC (λ_=>AB λb=>absurd (show(21:Int)=0 from b) g!) (λO=>?_));simp[len]at N O;refine AA (CU) λv2 E=>?_;have ag:=E.2;have l:=ACV q (F:=F) (G:=G) V.1 o! o! E.1;refine AA (R9 ⟨Ad _,d!,o!⟩) λv8 Z=>BA (λu c=>AB λb=>absurd b (Z u c)) (λu c=>AA (Ac w!) λal t=>?_);have g:=t.1;rw[Cp]at g;subst g;refine AA (P:=λr=>(∀u,r= .inl u->u.1≠0)/\ ∀u,r= .inr u-> ∃(a:List AT),(u.1,(u.2.1,(u.2.2.1,(u.2.2.2.1,u.2.2.2.2.1))))=(x.1.2.2.1++a,(x.1.1,(x.1.2.1,(x.1.2.2.2.1,x.1.2.2.2.2+a.length))))/\a.length=x.1.1.length/\ADA x.2.1.2.1 x.1 F G x.1.2.2.2.2 a) ?_ λr hr=>BA (λu c=>AB λb=>absurd b (hr.1 u c)) (λu c=>AB λ_=>.inr ?_)
 ·refine Cf (λ(s:Int×(List AT)×(List Int)×Int×Int×Int×AO)=> ∃(k:Nat) (a:List AT) (z:AO),s=((k:Int),(x.1.2.2.1++a,(x.1.1,(x.1.2.1,(x.1.2.2.2.1,(x.1.2.2.2.2+(k:Int),z))))))/\k<=x.1.1.length/\a.length=k/\ADA x.2.1.2.1 x.1 F G x.1.2.2.2.2 a) (λs=>x.1.1.length-s.1.toNat)
   ⟨0,[],u,k!,Bi _,rfl,λj f d=>by simp at d⟩ ?_
  rintro s ⟨k,a,z,rfl,i2,A,I⟩;unfold Oa;dsimp only;simp only[len];rw[o,C,D,p];refine AC (λi=>?_) (λi=>Ar.done ⟨λu c=>(by cases c),λu c=>(by cases c;exact⟨a,by dsimp only;rw[A],o!,I⟩)⟩);have H:x.1.1[k]? =some (x.1.1[k]' o!):=A4 o!;rw[nj hb.1 H,AD];refine AA (AGr q.uq (λe he=>((l e).1 he).1) o!) λn v=>AK (λi=>Ar.done ⟨λu c=>(by cases c;exact i),λu c=>(by cases c)⟩) (λb=>?_);have⟨B,es,m,m3⟩:=v b;rw[yC B,AD];refine AA (Ac w!) λao Y=>?_;rw[AX (x:=x.1.2.2.2.2+(k:Int)+1),AX (x:=(k:Int)+1)];refine Ar.next ⟨k+1,a++[(1,(x.1.2.2.2.2+(k:Int),Rj n.1))],z,?_,o!,by rw[Aa,A];rfl,λj f d=>?_⟩ d!
  grind;by_cases hj:j<a.length;rw[CL hj]at d;exact I j f d;have y:=DQ d;rw[Aa,Cu,Ck]at y;have w:j=k:=o!
  subst w;rw[Cb o!,A,Gd]at d;cases d;refine⟨n.1,rfl,B,B.runOf q.uq λe=>?_,by rw[m],by rw[m],by rw[m];exact H,by rw[m]⟩;rw[m];dsimp only;rw[m3,l];constructor;grind;rintro⟨q1,q2,q3,q4,q5,q6⟩;exact⟨⟨q1,q5,q6⟩,q2,q3,q4,q5,q6⟩
 have⟨a,q1,q2,q3⟩:=hr.2 u c;refine⟨F,G,a,?_,⟨o!,W,o!⟩,o!,q2,q3⟩;have J:=congrArg (·.1) q1;have K:=congrArg (·.2.1) q1;have L:=congrArg (·.2.2.1) q1;have M:=congrArg (·.2.2.2.2) q1;dsimp only at J K L M;dsimp only;rw[J,K,L,M]
def M4.congr{a b:AO}(e:b.1=a.1)(f:b.2.1=a.2.1){d c:Int}:M4 a d c↔M4 b d c:=by grind[M4,qP]
def Good.congr{a b:AO}(c:b.1=a.1)(d:b.2.1=a.2.1){f:AT}{r:Af}(h:Good a f r):Good b f r:=⟨h.1,h.2.1,h.2.2.1,(M4.congr c d).1 h.2.2.2⟩
def Good.run{a:AO}{f:AT}{r s:Af}(h:Good a f r)(g:Good a f s):r=s:=tU h.2.2.1 g.2.2.1 (h.2.1.symm.trans g.2.1)
def AR.step{L:List EN}{a b:AO}{F G:Int}{s:List AT}(h:AR L a)(e:b=(a.1,(a.2.1,(a.2.2.1++s,(G+1,a.2.2.2.2+s.length)))))(hF:a.2.2.2.1<=F)(hG:F<=G)(hn:ADA L a F G a.2.2.2.2 s)(D:VB b):AR L b/\(AG a->AG b)/\ ∀c,RC a c->RC b (c+1):=by
 have P:b.1=a.1:=by rw[e]
 have Q:b.2.1=a.2.1:=by rw[e]
 have Y:b.2.2.1=a.2.2.1++s:=by rw[e]
 have h4:b.2.2.2.1=G+1:=by rw[e]
 have q: ∀f∈s,∃(j:Nat) (r:Af),Good b f r/\ju L r/\r.1=F/\r.2.1=G/\a.1[j]? =some r.2.2.1/\s[j]? =some f:=λf k=>by have⟨j,hj⟩:=Iz.1 k;have⟨r,l,M,w,r4,W,S,r7⟩:=hn j f hj;refine⟨j,r,⟨by rw[l],by rw[l],M,(M4.congr P Q).1 ⟨j,S,r7⟩⟩,w,r4,W,S,hj⟩
 have K: ∀f∈a.2.2.1,Bad f\/ ∃r,Good b f r/\ju L r/\r.2.1<a.2.2.2.1:=λf k=>(h.files f k).imp id λ⟨r,l,M,w⟩=>⟨r,l.congr P Q,M,w⟩
 have d: ∀x∈F9 b,(x∈F9 a/\x.1.2.1<a.2.2.2.1)\/ ∃(j:Nat) (f:AT),s[j]? =some f/\Good b f x.1/\x.2=f.2.1/\x.1.1=F/\a.1[j]? =some x.1.2.2.1:=λx m=>by unfold F9 at m;rw[Y]at m;have⟨f,k,z⟩:=TW.1 m;rcases A1.1 k with k|k;rcases K f k with E|⟨r,l,M,w⟩;rw[E.intR D.1]at z;cases z;rw[l.intR D.1]at z;cases z;exact .inl ⟨eQ h.vb.1 k (l.congr P.symm Q.symm),w⟩;have⟨j,r,l,M,w,r4,W,S⟩:=q f k;rw[l.intR D.1]at z;cases z;exact .inr ⟨j,f,S,l,rfl,w,W⟩
 refine⟨⟨D,λf k=>?_,λx m y R J p=>?_⟩,λU f k=>?_,λc Z v=>?_⟩;grind;rcases d x m with⟨n,A⟩|⟨i,f,n,A,N,x4,B⟩;rcases d y R with⟨o,C⟩|⟨j,g,o,C,T,y4,O⟩;exact h.dis x n y o J p;grind;rcases d y R with⟨o,C⟩|⟨j,g,o,C,T,y4,O⟩;exact .inr o!;rw[<-p]at O;have t:=h.vb.1.inj B O;subst t;rw[n]at o;cases o;exact absurd (DT (A.run C) (N.trans T.symm)) J;rw[Y]at k;rcases A1.1 k with k|k;have⟨r,hr⟩:=U f k;exact⟨r,hr.congr P Q⟩;have⟨j,r,l,_⟩:=q f k;exact⟨r,l⟩;have I:=(Uj D).filter λe=>e.1.2.2.1==v;by_cases H: ∃y∈(F9 b).filter (λe=>e.1.2.2.1==v),∃(j:Nat) (f:AT),s[j]? =some f/\Good b f y.1/\y.2=f.2.1/\a.1[j]? =some y.1.2.2.1;have⟨y,R,j,g,o,C,T,O⟩:=H;have V:y.1.2.2.1=v:=eq_of_beq (Bk.1 R).2;have:=sS _ (y::(F9 a).filter λe=>e.1.2.2.1==v) I λx m=>by have⟨X,u⟩:=Bk.1 m;rcases d x X with⟨n,_⟩|⟨i,f,n,A,N,x4,B⟩;grind;rw[eq_of_beq u,<-V]at B;have t:=h.vb.1.inj B O;subst t;rw[n]at o;cases o;exact A8.2 (.inl (DT (A.run C) (N.trans T.symm)))
 rw[Cu]at this;have:=Z v;omega;have:=sS _ ((F9 a).filter λe=>e.1.2.2.1==v) I λx m=>by have⟨X,u⟩:=Bk.1 m;rcases d x X with⟨n,_⟩|⟨i,f,n,A,N,x4,B⟩;exact Bk.2 ⟨n,u⟩;exact absurd ⟨x,m,i,f,n,A,N,B⟩ H
 have:=Z v;omega
def AI9(a:AO)(lo n:Int):Prop:= ∃e∈F9 a,e.1.2.2.1=lo/\e.1.1<=n/\n<=e.1.2.1
def AF(a:AO):Prop:= ∀lo∈a.1,∀n:Int,1<=n->n<a.2.2.2.1->AI9 a lo n
def AF.step{L:List EN}{a b:AO}{F G:Int}{c:List AT}(w:AF a)(h:AR L a)(e:b=(a.1,(a.2.1,(a.2.2.1++c,(G+1,a.2.2.2.2+c.length)))))(H:F=a.2.2.2.1)(z:c.length=a.1.length)(hn:ADA L a F G a.2.2.2.2 c)(s:VB b):AF b:=by
 have k:b.1=a.1:=by rw[e]
 have p:b.2.1=a.2.1:=by rw[e]
 have q:b.2.2.1=a.2.2.1++c:=by rw[e]
 have E:b.2.2.2.1=G+1:=by rw[e]
 intro A d n B I;rw[k]at d;rcases lM n a.2.2.2.1 with g|g;obtain⟨r,hr,i,m,u⟩:=w A d n B g;have⟨f,l,v,D,_⟩:=h.mem hr;exact⟨(r.1,f.2.1),eQ s.1 (by rw[q];exact Gb _ l) (v.congr k p),i,m,u⟩;have⟨j,t⟩:=Iz.1 d;have y:=DQ t;have l:c[j]? =some (c[j]' o!):=A4 o!;have⟨r,i,m,u,J,K,o,C⟩:=hn j _ l;have x:Good b (c[j]' o!) r:=⟨by rw[i],by rw[i],m,(M4.congr k p).1 ⟨j,o,C⟩⟩
 refine⟨(r,(c[j]' o!).2.1),eQ s.1 (by rw[q];exact M7 _ (Rc _)) x,?_,d!⟩;rw[t]at o;exact(Ba o).symm
def SF(a:AO)(m:Int):Prop:=a.2.2.2.2+a.2.2.1.length<=m
def AE6{x:AO×Ae×Int}{m:Int}(h:AR x.2.1.2.1 x.1)(f:Dg x.2.1)(t:SF x.1 m):Ar (F8 x) λr=>r.2=0->AR x.2.1.2.1 r.1/\(AG x.1->AG r.1)/\(∀c,RC x.1 c->RC r.1 (c+1))/\SF r.1 (m+32)/\r.1.2.1=x.1.2.1/\(r.1.2.2.2.1=x.1.2.2.2.1\/r.1.2.2.2.1<=x.2.1.2.2+1)/\(He x.2.1.2.1->AF x.1->AF r.1):=by
 refine((AE7 h.sa h.vb).and (sj h.sa h.vb f)).mono λr hr k=>?_;have⟨q1,q2,q3,q4⟩:=hr.1 k;rcases hr.2 k with e|⟨F,G,u,g,i,l,n,j⟩;rw[e];exact⟨h,id,λc q s=>Nat.le_succ_of_le (q s),by unfold SF at*;omega,rfl,.inl rfl,λ_=>id⟩
 ·have a:=h.step g i.1 l j q2;have b:0<x.2.1.2.1.length:=by have:=f.2.2.2.2.1;omega
  have d:He x.2.1.2.1->AF x.1->AF r.1:=λo p=>p.step h g (i.2.1 (by have v:=(o 0 _ (A4 b)).1;have w:=(f.2.2.2.2.2 0 _ (A4 b)).1;have:=h.vb.2.1;omega)) n j q2;have:=h.sa.1;refine⟨a.1,a.2.1,a.2.2,?_,?_,?_,d⟩;all_goals unfold SF at*;grind
def ADB{L:List EN}{x:Int×List Int}(h:BD x.1 x.2):Ar (Fh x) λr=>AR L r.1/\AG r.1/\RC r.1 0/\SF r.1 1/\r.1.2.1=x.1/\r.1.2.2.2.1=1:=by
 have a:Ar (Fh x) λr=>r.2=0->r.1.2.2.1=[]/\r.1.2.2.2.2=1:=by refine AA fN λo b=>AM (λj=>AB λm=>?_) (λ_=>?_);grind;have l:=h.2.2.2.1;grind[AA,Ac,AB]
 refine((AGs h).and a).mono λr hr=>?_;have⟨⟨b,c,d,g⟩,i⟩:=hr;refine⟨⟨c,λf a=>?_,λe k=>?_⟩,λf a=>?_,λn=>?_,?_,d,g⟩;grind;grind[F9];grind;grind[F9];unfold SF;grind
set_option maxHeartbeats 1000000
def ADH{n p:Int}{l:List Int}(h:BD n l):Ar (JX (l,p)) λr=>0<=r.1/\r.1<=l.length/\(∀(i:Nat) (v:Int),(i:Int)<r.1->l[i]? =some v->v<p)/\(∀(i:Nat) (v:Int),r.1<=(i:Int)->l[i]? =some v->p<=v)/\(r.2=true->l[r.1.toNat]? =some p)/\(r.2=false-> ∀v,l[r.1.toNat]? =some v->p<v):=by
 have t:=h.2.2.2.1;refine AA (P:=λ(r:Int)=>0<=r/\r<=l.length/\(∀(i:Nat) (v:Int),(i:Int)<r->l[i]? =some v->v<p)/\ ∀(i:Nat) (v:Int),r<=(i:Int)->l[i]? =some v->p<=v) ?_ λJ u=>?_
 ·refine Cf (λ(s:Int×Int)=>0<=s.1/\s.1<=s.2/\s.2<=l.length/\(∀(i:Nat) (v:Int),(i:Int)<s.1->l[i]? =some v->v<p)/\ ∀(i:Nat) (v:Int),s.2<=(i:Int)->l[i]? =some v->p<=v) (λ(s:Int×Int)=>(s.2-s.1).toNat) ⟨Ad _,q!,q!,λi v e=>q!,λi v e b=>q!⟩ (λs y=>?_);have⟨o,G,C,D,E⟩:=y;unfold Mz;rw[AAa o];refine AC (λa=>?_) (λa=>Ar.done ?_)
  ·refine AA (AI o! q!) λF g=>AA da λH k=>?_;rw[(AX (x:=(s.1+s.2)/2+1))];refine AA (P:=λ(q:Int×Int)=>(0<=q.1/\q.1<=q.2/\q.2<=(l.length:Int)/\(∀(i:Nat) (v:Int),(i:Int)<q.1->l[i]? =some v->v<p)/\ ∀(i:Nat) (v:Int),q.2<=(i:Int)->l[i]? =some v->p<=v)/\(q.2-q.1).toNat<(s.2-s.1).toNat) ?_ λI m=>Ar.next m.1 m.2
   refine AJ (λB=>AB ⟨⟨q!,q!,C,λi v e b=>?_,E⟩,q!⟩) (λz=>AB ⟨⟨o,o!,o!,D,λi v e b=>?_⟩,o!⟩);have f:=k.1 B;have:=h.le (i:=i) (j:=((s.1+s.2)/2).toNat) o! b g.1;omega;have f: ¬F<p:=λq=>by have:=k.2 q;rw[z]at this;cases this
   have:=h.le (i:=((s.1+s.2)/2).toNat) (j:=i) o! g.1 b;omega
  grind
 have⟨a1,a2,a3,a4⟩:=u;refine AC (λa=>?_) (λa=>AB ⟨a1,a2,a3,a4,λc=>(by cases c),λ_ v b=>?_⟩);simp[len]at a;refine AA (AI a1 a) λK w=>AQ (λd=>AB ⟨a1,a2,a3,a4,λ_=>by dsimp only;rw[w.1,d],λc=>(by cases c)⟩) (λA=>AA (AI a1 a) λL _=>AJ (λc=>?_) (λ_=>AB ⟨a1,a2,a3,a4,λc=>(by cases c),λ_ v b=>?_⟩));grind;grind;grind
def YX(a:AO)(p lo hi:Int):Prop:= ∃i:Nat,a.1[i]? =some lo/\hi=qP a i/\lo<=p/\p<=hi
def ADE{a:AO}{p:Int}(h:VB a)(z:0<=p/\p<a.2.1): ∃b d,GA (a,p)=some (b,(d,true))/\YX a p b d:=by
 have key:Ar (GA (a,p)) λr=>r.2.2=true/\YX a p r.1 r.2.1:=by
  unfold GA;dsimp only;refine AA (HE h) λG m=>?_;rw[m,Cg,cond_false,decide_eq_false o!,cond_false,decide_eq_false o!,cond_false];refine AA (ADH h.1) λc n=>?_;have⟨D,E,v,F,k,x⟩:=n;have q:=h.1.2.2.2.1;refine AA (P:=λl:Int=> ∃(i:Nat) (b:Int),l=i/\a.1[i]? =some b/\b<=p/\ ∀w,a.1[i+1]? =some w->p<w) ?_ λl s=>?_;refine AM (λt=>AB ?_) (λf=>AB ?_);have e:0<c.1:=by refine RX λy=>?_;have:=x t 0 (by rw[show c.1.toNat=0 by omega];exact h.1.2.2.2.2.1);omega
  rw[AX];refine⟨c.1.toNat-1,a.1[c.1.toNat-1],o!,A4 o!,?_,λw g=>?_⟩;have:=v (c.1.toNat-1) _ o! (A4 o!);omega;grind;refine⟨c.1.toNat,p,o!,(k f),Ad _,λw g=>?_⟩;exact h.1.lt 0 c.1.toNat p w (k f) g;obtain⟨i,b,rfl,j,u,A⟩:=s;rw[yL h.1 j,AD];refine AB ⟨rfl,i,j,rfl,u,?_⟩;grind[qP]
 have⟨⟨b,d,o⟩,k1,B,C⟩:=key;grind
def YX.uniq{a b:AO}{p l1 l2 f g:Int}(h:BD a.2.1 a.1)(d:b.1=a.1)(e:b.2.1=a.2.1)(m:YX a p l1 f)(n:YX b p l2 g):l1=l2:=by
 obtain⟨i,s,t,u,v⟩:=m;obtain⟨j,w,z,A,B⟩:=n;have o:qP b j=qP a j:=by unfold qP;rw[d,e]
 have key: ∀{i j:Nat} {x y:Int},a.1[i]? =some x->a.1[j]? =some y->i<j->qP a i<y:=λ{i j x y} q c k=>by have r:=DQ c;have l:a.1[i+1]? =some (a.1[i+1]' o!):=A4 o!;have:=h.le (by omega:i+1<=j) l c;unfold qP;grind
 grind
def yD(P:Int->Prop)(j fl:Int):Prop:=0<=fl/\fl<=j/\(∀n,fl<n->n<=j->P n)/\(fl=0\/ ¬P fl)
def yD.uniq{P Q:Int->Prop}{j r s:Int}(h: ∀n,P n↔Q n)(hr:yD P j r)(a:yD Q j s):r=s:=by obtain⟨b,c,d,e⟩:=hr;obtain⟨f,g,i,k⟩:=a;grind
structure Us(L:List EN)(l:Ae):Prop where
 vl:Dg l
 sorted:L.Pairwise λx y=>x.1<y.1
 tail: ∀e,e∈l.2.1↔e∈L/\l.1<=e.1/\e.1<=l.1+l.2.1.length-1
 len:L.length<=4096
def AGq{B:Nat}{L:List EN}{a:AO}{l:Ae}{p i j:Int}(q:CP B)(D:B≤16777216)(v:j-i≤B)(t:0≤i)(F:i≤j)(E:j≤1099511627776)(h:AR L a)(w:Us L l)(y:0≤p∧p<a.2.1):
  ∃o t d,YX a p o t/\yD (rp a l o) j d/\QW (a,(l,(p,(i,j))))=some (decide (d<=i))/\Ar (Hq (a,(l,(p,(i,j))))) λr=>(d>i/\r=([],42))\/(d<=i/\((YU i (L.filter (K9 p i j))/\r=(L.filter (K9 p i j),0))\/(¬YU i (L.filter (K9 p i j))/\r=([],13)))):=by
 obtain⟨o,u,x,n⟩:=ADE h.vb y;obtain⟨k,k1,G,H,I⟩:=id n;obtain⟨d,z,C,A⟩:=AGp q D v t F E h.vb h.ds w.vl y x rfl w.sorted w.tail (λe s=>by
  obtain⟨f,_,_,_,g,_⟩:=h.mem s;exact g) h.dis (λe s m=>by
  obtain⟨f,_,g,_⟩:=h.mem s;have c:e.1.2.2.1=o:=m;have b:=g.2.2.2;rw[c]at b;have:=b.uniq h.vb.1 ⟨k,k1,G⟩;exact⟨H,o!⟩)
 exact⟨o,u,d,n,z,C,A⟩
def Dg.sorted{l:Ae}(h:Dg l):l.2.1.Pairwise λx y=>x.1<y.1:=by have⟨l1,l2,a,b,c,d⟩:=h;rw[HA];grind
theorem XJ{l:Ae}(h:Dg l):Us l.2.1 l:=⟨h,h.sorted,λe=>⟨λa=>⟨a,by have⟨k,b⟩:=Iz.1 a;have:=(h.2.2.2.2.2 k e b).1;have:=DQ b;omega⟩,λa=>a.1⟩,h.2.2.1⟩
theorem AH5{l:Ae}{f:Int}(h:Dg l)(n:l.2.2=l.1+l.2.1.length-1)(i:l.1<=f)(j:f<=l.2.2+1)(m:f<=1099511627776):Ar (J7 (l,f)) λr=>Us l.2.1 r.1/\r.1.1=f/\r.1.2.2=l.2.2:=by
 have o:Ar (J7 (l,f)) λr=>r.2=0->r.1=(f,(l.2.1.drop (f-l.1).toNat,l.2.2)):=by have⟨a1,a2,a3,a4,a5,a6⟩:=id h;refine AA Be λv t=>AM (λ_=>AB λa=>absurd (show(26:Int)=0 from a) g!) (λ_=>?_);refine AC (λ_=>AB λa=>absurd (show(1:Int)=0 from a) g!) (λ_=>?_);refine AC (λ_=>AB λa=>absurd (show(1:Int)=0 from a) g!) (λ_=>?_);refine AC (λ_=>AB λa=>absurd (show(1:Int)=0 from a) g!) (λ_=>?_);refine AC (λ_=>AB λa=>absurd (show(15:Int)=0 from a) g!) (λ_=>?_);grind[AX,AA,CU,Ac,AB,List.take_of_length_le]
 refine((jd (x:=(l,f)) h n i j m).and o).mono λr hr=>?_;have⟨⟨c,q,s⟩,d⟩:=hr;refine⟨⟨q,h.sorted,λe=>?_,h.2.2.1⟩,s,by rw[(d c)]⟩;rw[(d c)];have⟨l1,l2,u,w,y,p⟩:=h;rw[Iz,Iz];constructor;grind;rintro⟨⟨k,b⟩,g,_⟩;have:=(p _ e b).1;exact⟨k-(f-l.1).toNat,by rw[Ja,show(f-l.1).toNat+(k-(f-l.1).toNat)=k by omega];exact b⟩
def wq{p i j:Int}{e:EN}:K9 p i j e=(dO p e&&(decide (e.1>i)&&decide (e.1<=j))):=by unfold K9 dO jY;grind
def YU.snoc{i:Int}{s:List EN}{e:EN}(h:YU i s)(m:s=[]->e.2.2.2.2.1<=i)(n: ∀f,s[s.length-1]? =some f->e.2.2.2.2.1=f.1):YU i (s++[e]):=by
 intro k g b;rcases Au k s.length with d|d;rw[CL d]at b;refine⟨(h k g b).1,λf a c=>(h k g b).2 f a ?_⟩;grind;have o:=DQ b;rw[Aa,so]at o;have l:k=s.length:=o!
 subst l;have j:e=g:=q!
 subst j;refine⟨λp=>m (EL p),λf a c=>n f ?_⟩;rwa [CL o!]at c
def vZ{n p i j:Int}{L:List EN}(F:LI n L)(G:L.Pairwise λx y=>x.1<y.1)(H:0≤i): ∀m:Nat,m≤L.length→
  YU i ((L.take m).filter (K9 p i j))/\((∀f∈L.take m,f.1<=j)->((L.take m).filter (K9 p i j)=[]->Bg (L.take m) p<=i)/\ ∀f,((L.take m).filter (K9 p i j))[((L.take m).filter (K9 p i j)).length-1]? =some f->Bg (L.take m) p=f.1)
 |0,_=>by rw[List.take_zero];exact⟨λk e E=>by simp at E,λ_=>⟨λ_=>H,λf a=>by simp at a⟩⟩
 |m+1,hm=>by
  obtain⟨C,D⟩:=vZ (j:=j) F G H m o!;have d:m<L.length:=o!
  have B:L.take (m+1)=L.take m++[L[m]]:=by rw[Ce,A4 d];rfl
  have l: ∀f∈L.take m,f.1<L[m].1:=λf a=>by obtain⟨k,w⟩:=Di a;have z:=DQ w;rw[BM]at z;rw[Jb o!,A4 o!]at w;rw[<-Ba w];exact HA.1 G k m o! d o!
  have A:=F m _ (A4 d);rw[B,Gl];generalize I:L.take m=M at*;generalize L[m]=e at*;by_cases t:K9 p i j e=true;have g:=t;rw[wq]at g;simp only[BO,decide_eq_true_eq]at g;obtain⟨s,K,N⟩:=g;have q:e.2.2.2.2.2.2.1.1=p/\(e.2.1=1\/e.2.1=2):=by unfold dO at s;simp only[BO,YJ,beq_iff_eq]at s;exact⟨s.2,s.1⟩
  obtain⟨q1,q2⟩:=D λf a=>by have:=l f a;omega
  have b:=A.1 q.2;rw[q.1]at b;rw[vV t,lR];refine⟨C.snoc (λh=>by rw[b.1];exact q1 h) (λf a=>by rw[b.1];exact q2 f a),λ_=>⟨λh=>by simp at h,λf a=>?_⟩⟩;rw[Pe,if_pos s];have:e=f:=by simpa using a
  rw[this];rw[vU t,lR,D4];refine⟨C,λc=>?_⟩;have E:=c e k!;obtain⟨q1,q2⟩:=D λf a=>c f (Gb _ a);rw[Pe];by_cases u:dO p e=true;have v:e.1<=i:=by refine RX λJ=>t ?_;rw[wq,u];simp;omega
  have o:M.filter (K9 p i j)=[]:=List.filter_eq_nil_iff.2 λf a r=>by rw[wq]at r;simp only[BO,decide_eq_true_eq]at r;have:=l f a;omega
  rw[if_pos u,o];exact⟨λ_=>v,λf a=>by simp at a⟩;rw[if_neg u];exact⟨q1,q2⟩
def ACD{n p i j:Int}{L:List EN}(a:LI n L)(b:L.Pairwise λx y=>x.1<y.1)(c:0<=i):YU i (L.filter (K9 p i j)):=by have:=(vZ (p:=p) (j:=j) a b c L.length (Am _)).1;grind
end Go.Pm
