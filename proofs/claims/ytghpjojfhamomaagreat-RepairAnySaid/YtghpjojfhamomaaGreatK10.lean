/- Texts of wip, joined and shortened by wip/tools/pack.py; nothing is assumed. -/
import Derived.Test.YtghpjojfhamomaaGreatK9
import Derived.Sort.AssemblyPlain
import Derived.KernelRfl
noncomputable section
set_option linter.all false
namespace Go.Pm
open Go Go.Ab
set_option maxHeartbeats 400000
def Ris(l:List Int)(n:Int):Prop:= ∀(i:Nat) (a b:Int),(i:Int)+1<n->l[i]? =some a->l[i+1]? =some b->a<b
def BD(n:Int)(l:List Int):Prop:=1<=n/\n<=64/\1<=l.length/\l.length<=16/\l[0]? =some 0/\Ris l l.length/\ ∀a,l[l.length-1]? =some a->a<n
def kw{x:Int×List Int}:Ap (Fk x) λr=>r=true↔BD x.1 x.2:=by
 unfold Fk;refine AC (λc=>AB ⟨λd=>(by cases d),λh=>(by have:=h.1;omega)⟩) (λL=>?_);refine AC (λc=>AB ⟨λd=>(by cases d),λh=>(by have:=h.2.1;omega)⟩) (λM=>?_);refine AC (λc=>AB ⟨λd=>(by cases d),λh=>(by have:=h.2.2.1;simp only[len]at c;omega)⟩) (λy=>?_);refine AC (λc=>AB ⟨λd=>(by cases d),λh=>(by have:=h.2.2.2.1;simp only[len]at c;omega)⟩) (λz=>?_);simp only[len]at y z;refine AA (AI (Af _)) λQ E=>?_;have f:=E.1;refine AL (λc=>AB ⟨λd=>(by cases d),λh=>?_⟩) (λo=>?_);have:=h.2.2.2.2.1;simp only[Int.toNat_zero]at f;rw[f]at this;exact absurd (BP this) c;rw[o]at f;refine AA (P:=λr=>(r= .inl false/\ ¬Ris x.2 x.2.length)\/(r= .inr ()/\Ris x.2 x.2.length)) ?_ λr hr=>?_;refine AW (λ(s:Int)=>1<=s/\s<=x.2.length/\Ris x.2 s) (λ(s:Int)=>((x.2.length:Int)-s).toNat) ⟨Af _,o!,λi a b v=>absurd v o!⟩ (λs G=>?_);obtain⟨N,O,w⟩:=G;unfold Lv;have A:=AY (x:=s-1);have B:=AY (x:=s+1);rw[A,B];refine AC (λk=>?_) (λk=>AB (.inr ⟨rfl,?_⟩));simp only[len]at k;refine AA (AI) λa j=>?_;refine AA (AI o! k) λb u=>?_;have t:(s-1).toNat+1=s.toNat:=o!
 refine AC (λJ=>AB (.inl ⟨rfl,λH=>?_⟩)) (λm=>AB ⟨⟨o!,o!,λi p q v n l=>?_⟩,o!⟩);have:=H (s-1).toNat a b o! j.1 (by rw[t];exact u.1);omega;by_cases I:(i:Int)+1<s;exact w i p q I n l;have C:i=(s-1).toNat:=o!
 subst C;rw[t]at l;rw[j.1]at n;rw[u.1]at l;have:=BP n;have:=BP l;omega;simp only[len]at k;have:s=x.2.length:=o!
 rw[<-this];exact w;rcases hr with⟨rfl,hr⟩|⟨rfl,hr⟩;exact BK (AB ⟨λd=>(by cases d),λh=>absurd h.2.2.2.2.2.1 hr⟩);apply A7;have e:=AY (x:=len x.2-1) i!;rw[e];refine AA (AI i! i!) λK F=>AB ?_;have g:=F.1;have D:(len x.2-1).toNat=x.2.length-1:=i!
 rw[D]at g;rw[decide_eq_true_eq];refine⟨λm=>⟨o!,o!,o!,o!,f,hr,λa j=>?_⟩,λh=>h.2.2.2.2.2.2 K g⟩;rw[g]at j;have:=BP j;omega
def BI(i:Int)(l:List Int):Prop:=1<=l.length/\l.length<=16/\l[0]? =some 0/\Ris l l.length/\ ∀a,l[l.length-1]? =some a->a<i
def BI.mono{i:Int}{l:List Int}(h:BI i l):BI (i+1) l:=⟨h.1,h.2.1,h.2.2.1,h.2.2.2.1,λa b=>by have:=h.2.2.2.2 a b;omega⟩
def BI.push{i:Int}{l m:List Int}(h:BI i l)(u:l.length<16)(r:m=l++[i]):BI (i+1) m:=by
 subst r;obtain⟨s,t,n,o,p⟩:=h;have g:(l++[i]).length=l.length+1:=q!
 refine⟨o!,o!,?_,λk a b q c d=>?_,λa c=>?_⟩;rw[CT o!];exact n;rw[g]at q;rw[CT o!]at c;by_cases f:k+1<l.length;rw[CT f]at d;exact o k a b o! c d;have j:k=l.length-1:=o!
 subst j;rw[Ch o!]at d;have e:l.length-1+1-l.length=0:=o!
 rw[e]at d;simp at d;have:=p a c;omega;rw[g]at c;rw[Ch o!]at c;have e:l.length+1-1-l.length=0:=o!
 rw[e]at c;simp at c;omega
def AAU{b:AQ}{x:Int}(h:CX b)(d:1<=x/\x<=64):Ap (K2 b x) λr=>CX r.2/\BD x r.1:=by
 unfold K2;refine AA (P:=λr=>CX r.2/\BD x r.1) ?_ λr hr=>AB hr;refine AW (λ(s:Int×List Int×AQ)=>1<=s.1/\s.1<=x/\BI s.1 s.2.1/\CX s.2.2) (λ(s:Int×List Int×AQ)=>(x-s.1).toNat) ⟨Af _,d.1,⟨q!,q!,q!,λi a b q=>absurd q w!,λa o=>by simp at o;omega⟩,h⟩ (λs n=>?_);obtain⟨u,v,c,g⟩:=n;unfold R3;have e:=AY (x:=s.1+1);rw[e];refine AC (λp=>?_) (λp=>AB ⟨g,?_⟩);refine AA (Ad g g!) λw f=>?_;refine AP (λ_=>?_) (λ_=>AB ⟨⟨d!,d!,c.mono,f.1⟩,d!⟩);refine AA (P:=λl=>BI (s.1+1) l) ?_ λz m=>AB ⟨⟨d!,d!,m,f.1⟩,d!⟩;refine AC (λt=>?_) (λ_=>AB c.mono);simp only[len]at t;exact AA (Ac w!) λy k=>AB (c.push o! k.1);have j:s.1=x:=o!
 rw[j]at c;exact⟨d.1,d.2,c.1,c.2.1,c.2.2.1,c.2.2.2.1,c.2.2.2.2⟩
def FR(l:List Av)(m n:Int):Prop:=(∀(i:Nat) (f:Av),(i:Int)<n->l[i]? =some f->0<f.2.1/\f.2.1<m)/\ ∀(i:Nat) (f g:Av),(i:Int)+1<n->l[i]? =some f->l[i+1]? =some g->f.2.1<g.2.1
def VB(a:AJ):Prop:=BD a.2.1 a.1/\1<=a.2.2.2.1/\a.2.2.2.1<=1099511627777/\1<=a.2.2.2.2/\a.2.2.2.2<=1073741825/\a.2.2.1.length<=256/\FR a.2.2.1 a.2.2.2.2 a.2.2.1.length
def Vp{x:AJ}:Ap (C4 x) λr=>r=true↔VB x:=by
 unfold C4;refine AA kw λU w=>?_;refine AO (λj=>AB ⟨λb=>(by cases b),λh=>(by rw[w.2 h.1]at j;cases j)⟩) (λj=>?_);have H:=w.1 j;refine AC (λc=>AB ⟨λb=>(by cases b),λh=>(by have:=h.2.1;omega)⟩) (λN=>?_);refine AC (λc=>AB ⟨λb=>(by cases b),λh=>(by have:=h.2.2.1;omega)⟩) (λO=>?_);refine AC (λc=>AB ⟨λb=>(by cases b),λh=>(by have:=h.2.2.2.1;omega)⟩) (λQ=>?_);refine AC (λc=>AB ⟨λb=>(by cases b),λh=>(by have:=h.2.2.2.2.1;omega)⟩) (λR=>?_);refine AC (λc=>AB ⟨λb=>(by cases b),λh=>(by have:=h.2.2.2.2.2.1;simp only[len]at c;omega)⟩) (λA=>?_);simp only[len]at A;refine AA (P:=λr=>(r= .inl false/\ ¬FR x.2.2.1 x.2.2.2.2 x.2.2.1.length)\/(r= .inr ()/\FR x.2.2.1 x.2.2.2.2 x.2.2.1.length)) ?_ λr hr=>?_;refine AW (λ(s:Int×Int)=>0<=s.2/\s.2<=x.2.2.1.length/\FR x.2.2.1 x.2.2.2.2 s.2/\0<=s.1/\(s.2=0->s.1=0)/\ ∀f,0<s.2->x.2.2.1[(s.2-1).toNat]? =some f->f.2.1=s.1) (λ(s:Int×Int)=>((x.2.2.1.length:Int)-s.2).toNat) ⟨Af _,d!,⟨λi f k=>absurd k d!,λi f g k=>absurd k d!⟩,Af _,λ_=>rfl,λf d=>absurd d d!⟩ (λs G=>?_);obtain⟨q,S,t,T,L,z⟩:=G;unfold JB;have e:=AY (x:=s.2+1);rw[e];refine AC (λj=>?_) (λj=>AB (.inr ⟨rfl,?_⟩));simp only[len]at j;refine AA (AI q j) λu D=>?_;have a:=D.1;refine AC (λJ=>AB (.inl ⟨rfl,λn=>?_⟩)) (λK=>?_);by_cases b:s.2=0;have:=(n.1 s.2.toNat u o! a).1;have:=L b;omega;obtain⟨f,d⟩: ∃f,x.2.2.1[(s.2-1).toNat]? =some f:=⟨_,As o!⟩
 have m:(s.2-1).toNat+1=s.2.toNat:=o!
 have:=n.2 (s.2-1).toNat f u o! d (by rw[m];exact a);have:=z f o! d;omega;refine AA (AI q j) λv E=>?_;have B:v=u:=by have:=E.1;rw[a]at this;exact(BP this).symm
 subst B;refine AC (λI=>AB (.inl ⟨rfl,λn=>?_⟩)) (λy=>?_);have:=(n.1 s.2.toNat v o! a).2;omega;refine AA (AI q j) λM F=>AB ?_;have C:M=v:=by have:=F.1;rw[a]at this;exact(BP this).symm
 subst C;refine⟨⟨d!,d!,⟨λi f k d=>?_,λi f g k d p=>?_⟩,d!,λb=>absurd b d!,λf _ d=>?_⟩,d!⟩;dsimp only at k;by_cases l:(i:Int)<s.2;exact t.1 i f l d;have o:i=s.2.toNat:=o!
 subst o;rw[a]at d;have:=BP d;subst this;exact o!;dsimp only at k;by_cases l:(i:Int)+1<s.2;exact t.2 i f g l d p;have o:i=(s.2-1).toNat:=o!
 have m:i+1=s.2.toNat:=o!
 rw[m,a]at p;have:=BP p;subst this;rw[o]at d;have:=z f o! d;omega;dsimp only at d⊢;have m:(s.2+1-1).toNat=s.2.toNat:=o!
 rw[m,a]at d;have:=BP d;rw[this];simp only[len]at j;have:s.2=x.2.2.1.length:=o!
 rw[<-this];exact t;rcases hr with⟨rfl,hr⟩|⟨rfl,hr⟩;exact BK (AB ⟨λb=>(by cases b),λh=>absurd h.2.2.2.2.2.2 hr⟩);exact A7 (AB ⟨λ_=>⟨H,o!,o!,o!,o!,o!,hr⟩,λ_=>rfl⟩)
set_option maxHeartbeats 1000000
def oI{x:Int}:Ap (GJ x) λr=>r=true↔0<=x/\x<64:=by
 unfold GJ;repeat' with_reducible first|intro a|apply AC|apply AK|apply AB
 all_goals grind
def bx{x:Do}:Ap (Nh x) λr=>r=true↔OR x:=by
 unfold Nh OR
 repeat' first
   |with_reducible apply AC<;>intro a
   |with_reducible apply AK<;>intro a
   |(with_reducible apply BA;try dsimp only)
   |with_reducible apply BZ
   |with_reducible apply Bx
   |with_reducible apply AB
   |(with_reducible apply AA (oI);intro r hr)
   |(with_reducible apply AA (J6);intro r hr)
 all_goals grind
def KU{x:Int×AE}:Ap (Ni x) λr=>r=true↔0<=x.1/\x.1<x.2.1:=by
 unfold Ni;repeat' with_reducible first|intro a|apply AC|apply AK|apply AB
 all_goals grind
def rT{x:Do}:Ap (L9 x) λr=>r=true↔x=Pt:=by grind[L9,Pt,AB,Prod.ext_iff]
def mo{x:AE}:Ap (GR x) λr=>r=true:=by grind[GR,AB]
def mq{x:AE}:Ap (Sd x) λr=>r=true↔1<=x.2.2.2.2.2.1/\x.2.2.2.2.2.1<=x.2.2.2.1:=by
 unfold Sd;repeat' with_reducible first|intro a|apply AC|apply AK|apply AB
 all_goals grind
def mr{x:Do}:Ap (Se x) λr=>r=true↔0<=x.1/\x.1<64/\x.2=Pt.2:=by
 unfold Se Pt;have⟨a,b,⟨c,d⟩,e,f⟩:=x;refine AK (λg=>?_) (λg=>AB ?_);refine AC (λh=>AB ?_) (λh=>AB ?_);simp at g;simp[g,h];try omega
 simp;try omega
 grind[Prod.ext_iff]
theorem Jp{x:AE}:Ap (GQ x) λr=>Lc x->r=true:=by
 unfold GQ;refine AC (λi=>AB λh=>?_) (λs=>?_);have:=h.1;omega;refine AC (λi=>AB λh=>?_) (λt=>?_);have:=h.2.1;omega;refine AC (λi=>AB λh=>?_) (λu=>?_);have:=h.2.2.2.2.2.2.2.2;unfold Ut at this;omega;refine AC (λi=>AB λh=>?_) (λv=>?_);have:=h.2.2.2.2.2.2.2.2;unfold Ut at this;omega;refine AA KU λw j=>?_;refine AO (λi=>AB λh=>?_) (λn=>?_);rw[j.2 ⟨h.2.2.1,h.2.2.2.1⟩]at i;cases i;refine AA KU λy k=>?_;refine AO (λi=>AB λh=>?_) (λo=>?_);rw[k.2 ⟨h.2.2.2.2.1,h.2.2.2.2.2.1⟩]at i;cases i;refine AA KU λz l=>?_;refine AO (λi=>AB λh=>?_) (λp=>?_);rw[l.2 ⟨h.2.2.2.2.2.2.1,h.2.2.2.2.2.2.2.1⟩]at i;cases i;refine Ap.mono (P:=λr=>Ut x->r=true) ?_ λr h q=>h q.2.2.2.2.2.2.2.2;clear j k l n o p;have⟨a,b,c,d,e,f,g,m⟩:=x;unfold Ut;dsimp only at*;refine AC (λi=>absurd i o!) (λk0=>?_);repeat' with_reducible first
  |apply AC<;>intro i
  |apply AP<;>intro i
  |apply AL<;>intro i
  |apply AO<;>intro i
  |apply AK<;>intro i
  |apply BZ
  |apply BA
  |apply AB
  |apply Z1
  |(apply AA mo;intro r hr)
  |(apply AA mq;intro r hr)
  |(apply AA mr;intro r hr)
  |(apply AA rT;intro r hr)
  |(apply AA bx;intro r hr)
 all_goals grind
def fx{x:Ae}:Ap (Cf x) λr=>r=wi (wi (x.1+len x.2.1)-1):=by grind[Cf,AB]
def MA{x:Ae}(h:Dj x):Ap (Jq x) λr=>r=true:=by have⟨a1,a2,a3,a4,a5,a6⟩:=id h;unfold Jq;refine AC (λa=>absurd a o!) (λ_=>?_);refine AC (λa=>absurd a o!) (λ_=>?_);refine AC (λa=>absurd a (by simp[len];omega)) (λ_=>?_);rw[(AY (x:=x.1-1))];refine AC (λa=>absurd a o!) (λ_=>?_);refine AA fx λf b=>?_;rw[h.last]at b;refine AC (λa=>absurd a o!) (λ_=>?_);refine AA (P:=λr=> ∃u,r= .inr u) ?_ λr hr=>?_;refine AW (λ(s:Int)=>0<=s/\s<=x.2.1.length) (λ(s:Int)=>((x.2.1.length:Int)-s).toNat) ⟨Af _,o!⟩ (λs c=>?_);have⟨d,e⟩:=c;unfold Xw;refine AC (λa=>?_) (λ_=>AB ⟨_,rfl⟩);grind[AA,AI,AY,AL,Jp,AO,AB];grind[A7,AB]
def Q4{x:Ae}(h:Dj x):Ap (Nk x) λr=>r=x.1+x.2.1.length-1:=by unfold Nk;refine AA (MA h) λv c=>?_;refine AO (λb=>?_) (λ_=>?_);rw[c]at b;cases b;refine AA fx λd a=>AB ?_;rw[h.last]at a;exact a
def Iu{x:AJ}(h:VB x):Ap (HN x) λr=>r=true:=by
 obtain⟨⟨L,M,N,O,p,t,v⟩,a1,a2,a3,a4,a5,a6⟩:=id h;unfold HN;refine AC (λa=>absurd a (by omega)) (λ_=>?_);refine AC (λa=>absurd a (by omega)) (λ_=>?_);refine AC (λa=>absurd a (by simp only[len];omega)) (λ_=>?_);refine AC (λa=>absurd a (by simp only[len];omega)) (λ_=>?_);refine AA (AI (Af _)) λQ B=>?_;have b:=B.1;rw[show((0:Int).toNat)=0 from rfl,p]at b;injection b with b;refine AL (λa=>absurd b.symm a) (λ_=>?_);have w:=AY (x:=len x.1-1) (by simp only[len];omega);rw[w];refine AA (AI (by simp only[len];omega) (by simp only[len];omega)) λI C=>?_;have c:=C.1;have y:(len x.1-1).toNat=x.1.length-1:=by simp only[len];omega
 rw[y]at c;refine AC (λa=>absurd a (by have:=v I c;omega)) (λ_=>?_);refine AA (P:=λr=> ∃u,r= .inr u) ?_ λr hr=>?_;refine AW (λ(s:Int)=>1<=s/\s<=x.1.length) (λ(s:Int)=>((x.1.length:Int)-s).toNat) ⟨Af _,by omega⟩ (λs i=>?_);obtain⟨o,F⟩:=i;unfold Wi;refine AC (λa=>?_) (λ_=>AB ⟨_,rfl⟩);simp only[len]at a;have z:=AY (x:=s-1);have e:=AY (x:=s+1);rw[z,e];refine AA (AI) λJ D=>?_;refine AA (AI (by omega) a) λK E=>?_
 have q:=t (s-1).toNat J K (by omega) D.1 (by have:(s-1).toNat+1=s.toNat:=by omega
                                              rw[this];exact E.1)
 refine AC (λa=>absurd a (by omega)) (λ_=>AB ⟨by omega,by omega⟩);obtain⟨u,rfl⟩:=hr;apply A7;refine AC (λa=>absurd a (by omega)) (λ_=>?_);refine AC (λa=>absurd a (by omega)) (λ_=>?_);refine AC (λa=>absurd a (by omega)) (λ_=>?_);refine AC (λa=>absurd a (by omega)) (λ_=>?_);refine AC (λa=>absurd a (by simp only[len];omega)) (λ_=>?_);refine AA (P:=λr=> ∃u,r= .inr u) ?_ λr hr=>?_;refine AW (λ(s:Int×Int)=>0<=s.2/\s.2<=x.2.2.1.length/\(s.2=0->s.1=0)/\ ∀f:Av,0<s.2->x.2.2.1[(s.2-1).toNat]? =some f->s.1=f.2.1) (λ(s:Int×Int)=>((x.2.2.1.length:Int)-s.2).toNat) ⟨Af _,by dsimp only;omega,λ_=>rfl,λf m=>by dsimp only at m;omega⟩ (λs i=>?_);obtain⟨o,F,G,H⟩:=i;unfold Wj;refine AC (λa=>?_) (λ_=>AB ⟨_,rfl⟩);simp only[len]at a;have e:=AY (x:=s.2+1);rw[e];refine AA (AI o a) λl g=>?_;have q1:=a6.1 s.2.toNat l (by omega) g.1;have q2:s.1<l.2.1:=by
  by_cases k:s.2=0;rw[G k];exact q1.1;have j:(s.2-1).toNat<x.2.2.1.length:=by omega
  have n:x.2.2.1[(s.2-1).toNat]? =some x.2.2.1[(s.2-1).toNat]:=As j
  have:=a6.2 (s.2-1).toNat _ l (by omega) n (by have:(s.2-1).toNat+1=s.2.toNat:=by omega
                                                rw[this];exact g.1)
  rw[H _ (by omega) n];exact this
 refine AC (λa=>absurd a (by omega)) (λ_=>?_);refine AC (λa=>absurd a (by have:=q1.2;omega)) (λ_=>AB ⟨⟨by dsimp only;omega,by dsimp only;omega,λk=>?_,λf m d=>?_⟩,by dsimp only;omega⟩);dsimp only at k;omega;dsimp only at d⊢;have A:(s.2+1-1).toNat=s.2.toNat:=by omega
 rw[A,g.1]at d;injection d with d;rw[d];obtain⟨u,rfl⟩:=hr;exact A7 (AB rfl)
def ZH{x:AJ×Ae×Int×Int}(h:VB x.1)(c:Dj x.2.1)(e:0<=x.2.2.1/\x.2.2.1<x.1.2.1/\0<=x.2.2.2):Ap (PK x) λr=>r=0:=by unfold PK;refine AA (Iu h) λv d=>?_;refine AO (λa=>?_) (λ_=>?_);rw[d]at a;cases a;refine AA (MA c) λf b=>?_;refine AO (λa=>?_) (λ_=>?_);rw[b]at a;cases a;refine AC (λa=>absurd a o!) (λ_=>?_);refine AC (λa=>absurd a o!) (λ_=>?_);exact AC (λa=>absurd a o!) (λ_=>AB rfl)
def aY{x p:BT}{c:BT×Int×Int}{k:Nat}(h:CS x p c)(o:x.length<=1099511627776)(q:1<=k)(m:k<=8):Ap (B3 c (k:Int)) λr=>CS x (p++C6 r.1 k) r.2/\(r.2.2.2=0->ae k r.1)/\(c.2.2≠0->r=(0,c)):=by obtain⟨s,i,e⟩:=c;obtain⟨j,l⟩:=h;subst j;refine AL (λd=>AB ⟨⟨rfl,λb=>absurd b d⟩,λb=>absurd b d,λ_=>rfl⟩) (λd=>?_);subst d;obtain⟨a,hr,n⟩:=l rfl;subst hr n;rw[Aa]at o;rw[XG o! o! o!];by_cases g:(k:Int)<=a.length;rw[if_pos g,AD,Dd];obtain⟨q1,q2⟩:=qR (t:=a) (k:=k) o! m;refine AB ⟨⟨rfl,λ_=>⟨a.drop k,?_,?_⟩⟩,λ_=>q1,λf=>absurd rfl f⟩;simp_all;dsimp only;rw[AY,Aa,A2];omega;rw[if_neg g,AD];exact AB ⟨⟨rfl,λb=>absurd (show(5:Int)=0 from b) g!⟩,λb=>absurd (show(5:Int)=0 from b) g!,λf=>absurd rfl f⟩
def ACy{x p:BT}{c:BT×Int×Int}{n:Int}(h:CS x p c)(l:x.length<=1099511627776)(hn:c.2.2=0->0<=n/\n<4294967296):Ap (E0 c n) λr=>CS x (p++r.1) r.2/\(r.2.2.2=0->(r.1.length:Int)=n/\c.2.2=0):=by
 obtain⟨s,f,e⟩:=c;obtain⟨g,i⟩:=h;subst g;unfold E0;by_cases d:e=0;subst d;obtain⟨a,hr,j⟩:=i rfl;obtain⟨o,t⟩:=hn rfl;subst hr j;obtain⟨m,rfl⟩:=D6 o;rw[Aa]at l;rw[show wi (((p++a).length:Int)-(p.length:Int))=a.length by rw[Aa,AY];omega];by_cases q:(m:Int)<=a.length;rw[decide_eq_false o!,cond_false,AD,show((0:Int) !=0)=false by decide,cond_false];have k:Rk (p++a) (wi (wi ((p.length:Int)+(m:Int))-(m:Int))) (wi ((p.length:Int)+(m:Int)))=some (a.take m):=by rw[AY (x:=(p.length:Int)+(m:Int)),AY];unfold Rk;rw[if_pos k!,show((p.length:Int)+(m:Int)-(m:Int)).toNat=p.length by omega,PV,show((p.length:Int)+(m:Int)).toNat-p.length=m by omega]
 rw[k,AD];refine AB ⟨⟨rfl,λ_=>⟨a.drop m,?_,?_⟩⟩,λ_=>⟨?_,k!⟩⟩;simp_all;dsimp only;rw[AY,Aa,BQ];omega;grind;rw[decide_eq_true o!,cond_true,AD,show((5:Int) !=0)=true by decide,cond_true];exact AB ⟨⟨rfl,λb=>absurd (show(5:Int)=0 from b) g!⟩,λb=>absurd (show(5:Int)=0 from b) g!⟩;rw[beq_false_of_ne d,cond_false,bne_iff_ne.2 d,cond_true];exact AB ⟨⟨rfl,λb=>absurd b d⟩,λb=>absurd b d⟩
def ACw{x p:BT}{c:BT×Int×Int}(h:CS x p c)(j:x.length<=1099511627776):Ap (Ez c ()) λr=>CS x (p++UG r.1) r.2/\(r.2.2.2=0->Fo r.1):=by
 refine AA (aY (k:=1) h j g! g!) λv o=>?_;obtain⟨⟨g,l⟩,s,z⟩:=o;refine AL (λd=>AB ⟨⟨g,λa=>absurd a d⟩,λa=>absurd a d⟩) (λd=>?_);obtain⟨f,hr,i⟩:=l d;have y:=(s d).1 g!;refine AP (λb=>AB ⟨⟨g,λ_=>⟨f,?_,?_⟩⟩,λ_=>⟨Bk _,.inr rfl⟩⟩) (λb=>?_);dsimp only;rw[b]at hr;exact hr;dsimp only;rw[b]at i;exact i;refine AC (λ_=>AB ⟨⟨g,λa=>absurd (show(4:Int)=0 from a) g!⟩,λa=>absurd (show(4:Int)=0 from a) g!⟩) (λn=>AA (ACy (x:=x) (p:=p++C6 v.1 1) ⟨g,l⟩ j (λ_=>o!)) λw q=>AB ?_);obtain⟨⟨t,A⟩,u⟩:=q;refine⟨⟨t,λa=>?_⟩,λa=>?_⟩;dsimp only at a⊢;obtain⟨m,_⟩:=u a;have e:UG (true,w.1)=C6 v.1 1++w.1:=by unfold UG;rw[cond_true,m]
 grind;dsimp only at a⊢;exact⟨k!,.inl rfl⟩
def YR{x p a:BT}{n:Int}{k:Nat}(c:x=p++(C6 n k++a))(f:x.length<=1099511627776)(e:1<=k)(d:k<=8)(hn:ae k n):B3 (x,((p.length:Int),0)) (k:Int)=some (n,(x,(((p++C6 n k).length:Int),0))):=by
 have b:=congrArg List.length c;simp only[Aa,A2]at b;unfold B3;dsimp only;rw[show((0:Int) !=0)=false by decide,cond_false];conv=>lhs;arg 1;rw[c]
 rw[XG k! o! o!,if_pos k!,AD,Dd,Gm (A2 _ _),og d hn];rw[Aa,A2];rw[AY];rfl
def ACx{x p w a:BT}(c:x=p++(w++a))(e:x.length<=1099511627776):E0 (x,((p.length:Int),0)) (w.length:Int)=some (w,(x,(((p++w).length:Int),0))):=by
 have b:=congrArg List.length c;simp at b;unfold E0;rw[show decide (wi ((x.length:Int)-(p.length:Int))<(w.length:Int))=false from decide_eq_false (by rw[AY];omega),cond_false];rw[AD,show((0:Int) !=0)=false by decide,cond_false];dsimp only;have d:Rk x (wi (wi ((p.length:Int)+(w.length:Int))-(w.length:Int))) (wi ((p.length:Int)+(w.length:Int)))=some w:=by rw[AY (x:=(p.length:Int)+(w.length:Int)),AY];unfold Rk;rw[if_pos o!,c,show((p.length:Int)+(w.length:Int)-(w.length:Int)).toNat=p.length by omega,PV,show((p.length:Int)+(w.length:Int)).toNat-p.length=w.length by omega,VT]
 rw[d,AD,AY,Aa];rfl
def ACv{x p a:BT}{c:Ce}(e:x=p++(UG c++a))(f:x.length<=1099511627776)(j:Fo c):Ez (x,((p.length:Int),0)) ()=some (c,(x,(((p++UG c).length:Int),0))):=by
 obtain⟨b,d⟩:=c;obtain⟨h,i⟩:=j;dsimp only at h i;unfold Ez;cases b with
 |false=>
  have k:d=[]:=k!
  subst k;rw[show(1:Int)=((1:Nat):Int)from rfl,YR e f g! g! ⟨λ_=>g!,g!,g!⟩];rfl
 |true=>have g:UG (true,d)=C6 (d.length:Int) 1++d:=rfl;rw[g,Ax]at e;rw[g];rw[show(1:Int)=((1:Nat):Int)from rfl,YR e f g! g! ⟨λ_=>k!,o!⟩,AD];rw[show((0:Int) !=0)=false by decide,cond_false,show((d.length:Int)==255)=false by grind,cond_false,decide_eq_false o!,cond_false];rw[ACx (by rw[e,Ax]) f,AD,Ax]
def AGS{x:BT}(a:x.length<=1099511627776):Ap (JI x) λr=>r.2=0->x=CA r.1/\Fo r.1.2.2.2.2.2.2.1.2.2.1/\Fo r.1.2.2.2.2.2.2.1.2.2.2/\ae 4 (r.1.2.2.2.2.2.2.2.length:Int)/\GQ r.1=some true:=by
 unfold JI;have I:CS x [] (x,(0,0)):=⟨rfl,λ_=>⟨x,rfl,rfl⟩⟩
 refine AA (aY (k:=8) I a g! g!) λO y=>?_;refine AA (aY (k:=1) y.1 a g! g!) λP z=>?_;refine AA (aY (k:=4) z.1 a g! g!) λQ A=>?_;refine AA (aY (k:=8) A.1 a g! g!) λR B=>?_;refine AA (aY (k:=8) B.1 a g! g!) λS C=>?_;refine AA (aY (k:=8) C.1 a g! g!) λT D=>?_;refine AA (aY (k:=4) D.1 a g! g!) λU E=>?_;refine AA (aY (k:=1) E.1 a g! g!) λV F=>?_;refine D4 (ACw F.1 a) λq M o=>?_;refine D4 (ACw o.1 a) λs w p=>?_;refine AA (aY (k:=4) p.1 a g! g!) λj b=>?_;refine AA (ACy (n:=j.1) b.1 a (λc=>?_)) λJ f=>?_;have:=(b.2.1 c).1 g!;rw[show(256:Int)^4=4294967296 by decide]at this;exact this;refine AL (λh=>AB λc=>absurd c h) (λh=>?_);refine AL (λ_=>AB n!) (λG=>?_);refine D4 (Jp) λK i _=>?_;refine AO (λ_=>AB n!) (λH=>AB λ_=>?_);subst H;obtain⟨q11,d⟩:=f.2 h;have l:s.2.2.2=0:=S8 λe=>by have:=b.2.2 e;rw[this]at d;exact e d
 have u:=p.2 l;have L:q.2.2.2=0:=S8 λe=>by
  have:s=((false,[]),q.2):=by have:=w;unfold Ez B3 at this;rw[bne_iff_ne.2 e,cond_true,AD,bne_iff_ne.2 e,cond_true]at this;injection this with this;exact this.symm
  rw[this]at l;exact e l
 have t:=o.2 L;obtain⟨g,m,N⟩:=f.1.2 h;have hr:g=[]:=by simp only[len]at G;have v:=congrArg List.length m;rw[Aa]at v;exact EZ o!
 subst hr;refine⟨?_,t,u,?_,i⟩;rw[m];unfold CA;dsimp only;rw[q11];simp only[Ax,Bw,C0];dsimp only;rw[q11];exact b.2.1 d
def AGR{e:AE}(h:Lc e):JI (CA e)=some (e,0):=by
 obtain⟨s,t,H,w,y,z,A,B,C,D,E⟩:=h.cells;have I:=Ry h;have g:ae 4 (e.2.2.2.2.2.2.2.length:Int):=⟨λ_=>by rw[show(256:Int)^4=4294967296 by decide];omega,o!⟩
 have a:CA e=[]++(C6 e.1 8++(C6 e.2.1 1++(C6 e.2.2.1 4++(C6 e.2.2.2.1 8++(C6 e.2.2.2.2.1 8++(C6 e.2.2.2.2.2.1 8++(C6 e.2.2.2.2.2.2.1.1 4++(C6 e.2.2.2.2.2.2.1.2.1 1++
 (UG e.2.2.2.2.2.2.1.2.2.1++(UG e.2.2.2.2.2.2.1.2.2.2++(C6 (e.2.2.2.2.2.2.2.length:Int) 4++(e.2.2.2.2.2.2.2++[])))))))))))):=by rw[C0];rfl
 generalize CA e=x at*;have i:B3 (x,(((0:Int)),0)) 8=_:=YR (p:=[]) (k:=8) a o! g! g! w;rw[Bw]at i;rw[Bw]at a;have j:=YR (k:=1) a o! g! g! y;rw[<-Ax]at a;have l:=YR (k:=4) a o! g! g! z;rw[<-Ax]at a;have m:=YR (k:=8) a o! g! g! A;rw[<-Ax]at a;have n:=YR (k:=8) a o! g! g! B;rw[<-Ax]at a;have o:=YR (k:=8) a o! g! g! C;rw[<-Ax]at a;have q:=YR (k:=4) a o! g! g! D;rw[<-Ax]at a;have r:=YR (k:=1) a o! g! g! E;rw[<-Ax]at a;have F:=ACv a o! s;rw[<-Ax]at a;have G:=ACv a o! t;rw[<-Ax]at a;have c:=YR (k:=4) a o! g! g! g;rw[<-Ax]at a;have d:=ACx a o!;rw[C0]at a;rw[<-a]at d;unfold JI;rw[i,AD];rw[show((1:Nat):Int)=1 from rfl]at j r;rw[show((4:Nat):Int)=4 from rfl]at l q c;rw[show((8:Nat):Int)=8 from rfl]at m n o;rw[j,AD,l,AD,m,AD,n,AD,o,AD,q,AD,r,AD,F,AD,G,AD,c,AD,d,AD];obtain⟨b,u,v⟩:=Jp (x:=e);have f:b=true:=v h;subst f;dsimp only[len];rw[show((0:Int) !=0)=false by decide,cond_false,bne_self_eq_false,cond_false];rw[show(e.1,(e.2.1,(e.2.2.1,(e.2.2.2.1,(e.2.2.2.2.1,(e.2.2.2.2.2.1,((e.2.2.2.2.2.2.1.1,(e.2.2.2.2.2.2.1.2.1,(e.2.2.2.2.2.2.1.2.2.1,e.2.2.2.2.2.2.1.2.2.2))),e.2.2.2.2.2.2.2)))))))=e from rfl,u,AD,Cg,cond_false]
def yy{a v i:Int}(f:0≤i)(c:i<8)(e:0≤a)(b:a<2^(8*i.toNat))(g:0≤v)(d:v<256):
  0<=IntKind.wrap .u64 (((BitVec.toNat ((BitVec.ofInt 64 a)|||(BitVec.ofInt 64 (IntKind.wrap .u64 ((IntKind.wrap .u64 v)*(2^(min (Int.toNat (wi (8*i))) 64))))))):Nat):Int)/\
  IntKind.wrap .u64 (((BitVec.toNat ((BitVec.ofInt 64 a)|||(BitVec.ofInt 64 (IntKind.wrap .u64 ((IntKind.wrap .u64 v)*(2^(min (Int.toNat (wi (8*i))) 64))))))):Nat):Int)<2^(8*(wi (i+1)).toNat):=by
 have h:=w6 f c e b g d;rw[(by rw[(AY),Wl];omega:IntKind.wrap .u64 (wi (8*i))=wi (8*i))]at h;exact h
def AEi{n:Int}(h:n<=1):(2:Int)^(8*n.toNat)<=256:=by
 have:n.toNat=0\/n.toNat=1:=o!
 rcases this with h|h<;>rw[h]<;>decide
def Ei{x:BT×Int×Int}(h:x.1.length<=2199023255552):Ap (Bt x) λr=>(r.2=0->0<=x.2.1/\x.2.1+x.2.2<=x.1.length/\(x.2.2<=4->0<=r.1/\r.1<4294967296)/\(x.2.2<=1->r.1<256))/\(r.2≠0->r.1=0):=by
 unfold Bt;refine AC (λ_=>AB ⟨n!,λ_=>rfl⟩) (λo=>?_);refine AC (λ_=>AB ⟨n!,λ_=>rfl⟩) (λp=>?_);refine AC (λ_=>AB ⟨n!,λ_=>rfl⟩) (λq=>?_);refine AC (λ_=>AB ⟨n!,λ_=>rfl⟩) (λf=>?_);simp[len]at f⊢;rw[(AY (x:=(x.1.length:Int)-x.2.1))];refine AC (λ_=>AB ⟨n!,λ_=>rfl⟩) (λt=>?_);refine AA (P:=λr=>0<=r/\r<2^(8*x.2.2.toNat)) ?_ λA y=>AB ⟨λ_=>⟨o!,o!,λg=>?_,λc=>?_⟩,λb=>absurd rfl b⟩;refine AW (λ(s:Int×Int)=>0<=s.2/\s.2<=x.2.2/\0<=s.1/\s.1<2^(8*s.2.toNat)) (λ(s:Int×Int)=>(x.2.2-s.2).toNat) ⟨Af _,d!,Af _,u!⟩ (λs j=>?_);have⟨m,z,d,e⟩:=j;unfold UK;refine AC (λk=>?_) (λk=>AB ⟨d,?_⟩);rw[(AY (x:=x.2.1+s.2))];refine AA (Q2 o! o!) λn c=>?_;refine AC (λl=>?_) (λ_=>AB ?_);grind[AY];have⟨u,w⟩:=yy (a:=s.1) (v:=n) (i:=s.2) m o! d e c.1 c.2;grind[AY];have:s.2=x.2.2:=o!
 rw[<-this];exact e;have:=AAG g;grind[AY];have:=AEi c;grind[AY]
def ox(a:BitVec 32):0<=IntKind.wrap .u32 (((BitVec.toNat (a&&&BitVec.ofInt 32 15):Nat)):Int)/\IntKind.wrap .u32 (((BitVec.toNat (a&&&BitVec.ofInt 32 15):Nat)):Int)<16:=by grind[ut,BitVec.toNat_and,BitVec.ofInt,Nat.and_le_right]
def iV{x:Unit}:Ap (Kl x) λr=>True:=by unfold Kl;refine AA (P:=λ_=>True) ?_ λv _=>AB trivial;refine AW (λ(s:Int×(Fin (15+1)->(Ty.int IntKind.u32).D))=>0<=s.1/\s.1<=16) (λ(s:Int×(Fin (15+1)->(Ty.int IntKind.u32).D))=>(16-s.1).toNat) ⟨Af _,g!⟩ (λs a=>?_);have⟨c,d⟩:=a;unfold U4;refine AC (λb=>?_) (λ_=>AB trivial);refine AA (P:=λ_=>True) ?_ λg _=>?_;refine AW (λ(s:Int×Int)=>0<=s.2/\s.2<=4) (λ(s:Int×Int)=>(4-s.2).toNat) ⟨Af _,d!⟩ (λs a=>?_);have⟨e,f⟩:=a;unfold K1;rw[(AY (x:=s.2+1))];refine AC (λb=>?_) (λ_=>AB trivial);refine AA (P:=λ_=>True) (AK (λ_=>AB trivial) (λ_=>AB trivial)) λv _=>AB ⟨d!,d!⟩;rw[(AY (x:=s.1+1))];refine AA (Cq c b) λh _=>?_;exact AA (Cq c b) λi _=>AB ⟨d!,d!⟩
theorem kR{x:BT}(h:x.length<=2199023255552):Ap (OH x) λr=>True:=by unfold OH;refine AA iV λe _=>?_;refine AA (P:=λ_=>True) ?_ λv _=>AB trivial;refine AW (λ(s:Int×Int)=>0<=s.2/\s.2<=x.length) (λ(s:Int×Int)=>((x.length:Int)-s.2).toNat) ⟨Af _,d!⟩ (λs b=>?_);have⟨c,d⟩:=b;unfold UL;rw[(AY (x:=s.2+1))];refine AC (λa=>?_) (λ_=>AB trivial);simp[len]at a;refine AA (Q2 c a) λf _=>?_;refine AA (Cq (ox _).1 (ox _).2) λg _=>?_;refine AA (Cq (ox _).1 (ox _).2) λi _=>?_;refine AA (Cq (ox _).1 (ox _).2) λj _=>?_;refine AA (Cq (ox _).1 (ox _).2) λk _=>AB ⟨d!,d!⟩
theorem ZF{x:BT×Int}(h:x.1.length<=2199023255552):Ap (DM x) λr=>r.2.2=0->r.1.length<=8392/\x.2+8+r.1.length=r.2.1/\0<=x.2/\r.2.1<=x.1.length:=by unfold DM;refine AC (λ_=>AB n!) (λg=>?_);refine AC (λ_=>AB n!) (λe=>?_);simp[len]at e;refine AA (Ei h) λd f=>?_;refine AL (λb=>AB λa=>absurd a b) (λc=>?_);have⟨a1,a2,a3,_⟩:=f.1 c;have a5:=a3 d!;dsimp only at a2;refine AC (λ_=>AB n!) (λi=>?_);rw[(AY (x:=x.2+4)),(AY (x:=x.2+4+d.1)),(AY (x:=x.2+4+d.1+4))];refine AA (Ei h) λk j=>?_;grind[AL,AB,AA,B8,kR]
def VJ{x:BT×BT}:Ap (E5 x) λr=>True:=by unfold E5 Eb;refine AA (P:=λ_=>True) ?_ λv _=>AB trivial;refine AC (λa=>?_) (λ_=>AB trivial);simp[len]at a;exact AA (B8 (Af _) i! (by simp[len];omega)) λv _=>AB trivial
def RB(b:Fm):Prop:=b.1.length<=2199023255552/\0<=b.2.1/\b.2.1<=b.1.length
def DQ{b:Fm}{x:Int}(h:RB b)(j:1<=x/\x<=8):Ap (B3 b x) λr=>RB r.2/\(x<=4->0<=r.1/\r.1<4294967296):=by have⟨a1,a2,a3⟩:=id h;unfold B3;refine AL (λ_=>AB ⟨h,λ_=>d!⟩) (λ_=>?_);refine AA (Ei (by exact a1)) λf a=>?_;dsimp only at a;refine AA (P:=λr=>RB r) ?_ λk d=>AB ⟨d,λe=>?_⟩;refine AP (λc=>AB ?_) (λ_=>AB ⟨a1,a2,a3⟩);have⟨g,i,_⟩:=a.1 c;rw[AY];exact⟨a1,d!⟩;by_cases c:f.2=0<;>grind
theorem U6{b:Fm}{x:Int}(h:RB b)(n:0<=x/\x<4294967296):Ap (E0 b x) λr=>RB r.2:=by have⟨a1,a2,a3⟩:=id h;unfold E0;refine AP (λd=>?_) (λl=>?_);rw[(AY (x:=len b.1-b.2.1) (by simp[len];omega))];refine AA (P:=λr=>RB r/\(r.2.2=0->r.2.1+x<=r.1.length)) ?_ λe j=>?_;refine AC (λ_=>AB ⟨⟨a1,a2,a3⟩,λd=>absurd d u!⟩) (λk=>AB ⟨h,λ_=>?_⟩);simp[len]at k;omega;have⟨⟨c,f,g⟩,i⟩:=j;refine AL (λ_=>AB ⟨c,f,g⟩) (λa=>?_);have m:=i a;rw[(AY (x:=e.2.1+x)),(AY (x:=e.2.1+x-x))];exact AA (B8) λo _=>AB ⟨c,d!⟩;grind[AL,AB]
def U5{b:Fm}{x:Unit}(h:RB b):Ap (Ez b x) λr=>RB r.2:=by unfold Ez;refine AA (DQ h g!) λc a=>?_;refine AL (λ_=>AB a.1) (λ_=>?_);refine AP (λ_=>AB a.1) (λ_=>?_);have q:=a.2 g!;refine AC (λ_=>AB a.1) (λ_=>?_);grind[AA,U6,AB]
theorem oJ{x:BT}(h:x.length<=2199023255552):Ap (JI x) λr=>True:=by unfold JI;refine AA (DQ (b:=(x,(0,0))) ⟨h,Af _,d!⟩ g!) λs c=>?_;refine AA (DQ c.1 g!) λt d=>?_;refine AA (DQ d.1 g!) λu f=>?_;refine AA (DQ f.1 g!) λv g=>?_;refine AA (DQ g.1 g!) λw i=>?_;refine AA (DQ i.1 g!) λy j=>?_;refine AA (DQ j.1 g!) λz k=>?_;refine AA (DQ k.1 g!) λA l=>?_;refine AA (U5 l.1) λB m=>?_;refine AA (U5 m) λC n=>?_;refine AA (DQ n g!) λo a=>?_;refine AA (U6 a.1 (a.2 g!)) λp e=>?_;refine AL (λ_=>AB trivial) (λ_=>?_);refine AL (λ_=>AB trivial) (λ_=>?_);refine AA Jp λq _=>?_;exact AO (λ_=>AB trivial) (λ_=>AB trivial)
theorem Rh{x:Int×Int}:Ap (EI x) λr=>True:=by unfold EI Fp;refine BA (BA ?_);refine AK (λ_=>AK (λ_=>AB trivial) (λ_=>AB trivial)) (λ_=>AK (λ_=>AB trivial) (λ_=>?_));exact AC (λ_=>AB trivial) (λ_=>AC (λ_=>AB trivial) (λ_=>AB trivial))
theorem rS{x:List Int}(h:x.length<=16777216):Ap (J3 x) λr=>True:=by unfold J3;refine AA (P:=λ_=>True) ?_ λv _=>BB (λ_ _=>AB trivial) (λ_ _=>AB trivial);refine AW (λ(s:Int)=>0<=s/\s<=x.length) (λ(s:Int)=>((x.length:Int)-s).toNat) ⟨Af _,o!⟩ (λs a=>?_);have⟨c,d⟩:=a;unfold Jo;rw[(AY (x:=s+1))];refine AC (λb=>?_) (λ_=>AB trivial);grind[AA,AI,AL,AB]
def ms{x:AS}:Ap (L4 x) λr=>r=true->1<=x.1/\x.1<=x.2.1/\x.2.1<=1099511627776/\0<=x.2.2.1/\x.2.2.1<=x.2.2.2.1/\x.2.2.2.1<64/\0<=x.2.2.2.2.1/\x.2.2.2.2.1<=8:=by
 unfold L4;repeat' with_reducible first|intro a|apply AC|apply AK|apply AB
 all_goals grind
def mm{x:AE}:Ap (BH x) λr=>True:=by grind[BH,AP,AB]
def pw{x:AS×AE}:Ap (Pa x) λr=>True:=by unfold Pa;refine AA mm λv _=>?_;refine AK (λ_=>?_) (λ_=>AB trivial);refine AC (λ_=>?_) (λ_=>AB trivial);refine AC (λ_=>?_) (λ_=>AB trivial);exact AC (λ_=>AB trivial) (λ_=>AB trivial)
def oK{x:AE×AE}:Ap (OB x) λr=>True:=by unfold OB;grind[AA,Rh,rS,AB]
def rU{x:AS}:Ap (Uc x) λr=>r=true->ag x:=by
 unfold Uc;refine AA ms λj d=>?_;refine AO (λ_=>AB λb=>by cases b) (λa=>?_);have hn:=d a;refine AC (λ_=>AB λb=>by cases b) (λf=>?_);simp[len]at f;have q:ag x:=⟨hn.1,hn.2.1,hn.2.2.1,hn.2.2.2.1,hn.2.2.2.2.1,hn.2.2.2.2.2.1,hn.2.2.2.2.2.2.1,hn.2.2.2.2.2.2.2,o!⟩
 refine AA (P:=λ_=>True) ?_ λv _=>BB (λ_ _=>AB λ_=>q) (λ_ _=>AB λ_=>q);refine AW (λ(s:Int)=>0<=s/\s<=x.2.2.2.2.2.length) (λ(s:Int)=>((x.2.2.2.2.2.length:Int)-s).toNat) ⟨Af _,o!⟩ (λs e=>?_);have⟨h,i⟩:=e;unfold Sf;rw[(AY (x:=s+1)),(AY (x:=s-1))];refine AC (λa=>?_) (λ_=>AB trivial);simp[len]at a;have c:((0<=s+1/\s+1<=x.2.2.2.2.2.length)/\((x.2.2.2.2.2.length:Int)-(s+1)).toNat<((x.2.2.2.2.2.length:Int)-s).toNat):=⟨o!,o!⟩
 refine AA (AI h a) λk _=>?_;refine AA Jp λl _=>?_;refine AO (λ_=>AB trivial) (λ_=>?_);refine AA pw λm _=>?_;refine AO (λ_=>AB trivial) (λ_=>?_);refine AP (λ_=>AC (λ_=>AB trivial) (λ_=>AB c)) (λg=>?_);refine AA (AI) λn _=>?_;refine AC (λ_=>AC (λ_=>AB trivial) (λ_=>AB c)) (λ_=>?_);refine AA (AI) λo _=>?_;refine AA oK λp _=>?_;refine AC (λ_=>AB trivial) (λ_=>?_);exact AL (λ_=>AB trivial) (λ_=>AB c)
def pu{x:BT}(h:x.length<=2199023255552):Ap (KO x) λr=>r.2=0->ag r.1:=by
 unfold KO;refine AA (ZF (by exact h)) λp k=>?_;refine AL (λf=>AB λa=>absurd a f) (λg=>?_);have⟨a1,a2,a3,a4⟩:=k g;dsimp only at a1 a2 a3 a4;refine AL (λ_=>AB n!) (λl=>?_);refine AA VJ λy _=>?_;refine AO (λ_=>AB n!) (λ_=>?_);have b:p.1.length<=2199023255552:=o!
 refine AA (Ei b) λz _=>?_;refine AA (Ei b) λA _=>?_;refine AA (Ei b) λB _=>?_;refine AA (Ei b) λC _=>?_;refine AA (Ei b) λD _=>?_;refine AA (Ei b) λi _=>?_;refine AO (λ_=>AB n!) (λm=>?_);have n:i.1<=4096:=by simpa using m
 refine AA (P:=λr=> ∀u,r= .inl u->u.1≠0) ?_ λr hr=>BB (λu c=>AB λa=>absurd a (hr u c)) (λu c=>?_);refine AW (λ(s:Int×(Int×((List AE)×(Int×(Int×(Int×(Int×(Int×AS))))))))=>0<=s.2.1/\(s.2.1<=i.1\/s.2.1=0)/\s.2.2.1.length<=s.2.1) (λ(s:Int×(Int×((List AE)×(Int×(Int×(Int×(Int×(Int×AS))))))))=>(i.1-s.2.1).toNat) ⟨Af _,.inr rfl,q!⟩ (λs o=>?_);have⟨t,v,w⟩:=o;unfold KW;refine AC (λj=>?_) (λ_=>AB λu c=>by cases c);have e:=AY (x:=s.2.1+1);grind[AA,ZF,AL,AB,oJ,Ac,List.length_cons,List.length_nil];refine AC (λ_=>AB n!) (λ_=>?_);refine AA rU λq d=>?_;exact AO (λ_=>AB n!) (λj=>AB λ_=>d j)
abbrev EN:=AE
def yR(x y:Int):EI (x,y)=some (if x<y then-1 else if x>y then 1 else 0):=by unfold EI Fp;simp only[bne_self_eq_false,AD,cond_false];by_cases a:x<y;simp[a];by_cases b:x>y;simp[a,b];simp[a,b]
theorem lm{x:Int}(h:0<=x/\x<=1099511627776:=by omega):wi x=x:=AY
theorem wip{i:Nat}(h:i<=16777216:=by omega):wi ((i:Int)+1)=((i+1:Nat):Int):=by grind[lm]
def wim{i:Nat}(h:i<=16777216:=by omega):wi ((i:Int)-1)=(i:Int)-1:=by grind[AY]
def bl8(n:Nat):Nat:=if n=0 then 0 else if n<2 then 1 else if n<4 then 2 else if n<8 then 3 else if n<16 then 4 else if n<32 then 5 else if n<64 then 6 else if n<128 then 7 else 8
def nh{n:Nat}(h:n<256):bl8 n<=8/\(1<=n->2^bl8 n<=2*n):=by grind[bl8]
def T8:BT:=(List.range 256).map λn=>UInt8.ofNat (bl8 n)
def AIT{n:Nat}(h:n<256):six T8 (n:Int)=some ((bl8 n:Nat):Int):=by have a:=(nh h).1;unfold six T8;simp[h];omega
noncomputable def Lz(x:Int):Option Int:=
 Option.bind ((
   bif (decide (x>=4294967296))then
    some ((Int.fdiv x (2^(min (Int.toNat 32) 64))),32)
   else
   some (x,0)):(Option (Int×Int))) λv0=>
 Option.bind ((
   bif (decide (v0.1>=65536))then
    some ((Int.fdiv v0.1 (2^(min (Int.toNat 16) 64))),(wi (v0.2+16)))
   else
   some v0):(Option (Int×Int))) λv1=>
 Option.bind ((
   bif (decide (v1.1>=256))then
    some ((Int.fdiv v1.1 (2^(min (Int.toNat 8) 64))),(wi (v1.2+8)))
   else
   some v1):(Option (Int×Int))) λv2=>
 Option.bind (six T8 (IntKind.wrap .u8 v2.1)) λv3=>
 some (wi (v2.2+(wi v3)))
def AGu:P1=Lz:=by kernel_rfl
def AIH(n:Nat):Int.fdiv (n:Int) (2^(min (Int.toNat 16) 64))=((n/65536:Nat):Int):=by grind[Int.toNat,Int.fdiv_eq_ediv_of_nonneg]
def fd8(n:Nat):Int.fdiv (n:Int) (2^(min (Int.toNat 8) 64))=((n/256:Nat):Int):=by grind[Int.toNat,Int.fdiv_eq_ediv_of_nonneg]
def ux{y s:Nat}(h:y<256)(c:s<=64):(Option.bind (six T8 (IntKind.wrap .u8 (y:Int))) λa=>some (wi ((s:Int)+(wi a))))=some ((s+bl8 y:Nat):Int):=by have b:=(nh h).1;rw[AFE,show(y:Int)%256=(y:Int) by omega,AIT h,AD,lm (x:=((bl8 y:Nat):Int)),lm];exact congrArg some (by omega)
def ADm{x:Nat}(h:x<=16777216): ∃r:Nat,P1 (x:Int)=some (r:Int)/\r<=32/\(1<=x->2^r<=2*x):=by
 rw[AGu];unfold Lz;have c:decide ((x:Int)>=4294967296)=false:=w!
 rw[c,cond_false,AD];by_cases f:x>=65536;have:decide (((x:Int),(0:Int)).1>=65536)=true:=w!
 have e:wi (((x:Int),(0:Int)).2+16)=((16:Nat):Int):=by show wi (0+16)=_;decide
 rw[this,cond_true,AD,e,AIH];by_cases g:x/65536>=256;have:decide (((((x/65536:Nat):Int),((16:Nat):Int)):Int×Int).1>=256)=true:=w!
 have e:wi (((((x/65536:Nat):Int),((16:Nat):Int)):Int×Int).2+8)=((24:Nat):Int):=by show wi (((16:Nat):Int)+8)=_;decide
 rw[this,cond_true,AD,e,fd8];have a:x/65536/256<256:=o!
 have b:=nh a;refine⟨_,ux a o!,o!,λ_=>?_⟩;grind[Nat.pow_add];have:decide (((((x/65536:Nat):Int),((16:Nat):Int)):Int×Int).1>=256)=false:=w!
 rw[this,cond_false,AD];have a:x/65536<256:=o!
 have b:=nh a;refine⟨_,ux a o!,o!,λ_=>?_⟩;grind[Nat.pow_add];have:decide (((x:Int),(0:Int)).1>=65536)=false:=w!
 rw[this,cond_false,AD];by_cases g:x>=256;have:decide (((x:Int),(0:Int)).1>=256)=true:=w!
 have e:wi (((x:Int),(0:Int)).2+8)=((8:Nat):Int):=by show wi (0+8)=_;decide
 rw[this,cond_true,AD,e,fd8];have a:x/256<256:=o!
 have b:=nh a;refine⟨_,ux a o!,o!,λ_=>?_⟩;grind[Nat.pow_add];have:decide (((x:Int),(0:Int)).1>=256)=false:=w!
 rw[this,cond_false,AD];have a:x<256:=o!
 have b:=nh a;refine⟨_,ux (s:=0) a o!,o!,λd=>?_⟩;have:=b.2 d;rw[EK];omega
def CP(B:Nat):Prop:=True
def CPa(B:Nat):CP B:=trivial
def PT{α:Type}(T:Prop)(o:Option α)(Q:α->Prop):Prop:=(T-> ∃r,o=some r)/\ ∀r,o=some r->Q r
section
variable {α β γ:Type} {T:Prop}
def PT.some{r:α}{Q:α->Prop}(h:Q r):PT T (.some r) Q:=⟨λ_=>⟨r,rfl⟩,λs e=>k!⟩
def iR{o:Option α}{Q:α->Prop}(h:Ap o Q):PT T o Q:=by obtain⟨r,rfl,h⟩:=h;exact PT.some h
def PT.bind{o:Option α}{k:α->Option β}{P:α->Prop}{Q:β->Prop}(h:PT T o P)(a: ∀r,P r->PT T (k r) Q):PT T (Option.bind o k) Q:=by
 cases o with
 |none=>exact⟨λt=>(by have⟨r,h⟩:=h.1 t;cases h),λr e=>(by cases e)⟩
 |some r=>exact a r (h.2 r rfl)
def PT.cond{c:Bool}{a b:Option α}{Q:α->Prop}(d:c=true->PT T a Q)(e:c=false->PT T b Q):PT T (bif c then a else b) Q:=k!
def PT.dec{p:Prop}{_:Decidable p}{a b:Option α}{Q:α->Prop}(c:p->PT T a Q)(d: ¬p->PT T b Q):PT T (bif decide p then a else b) Q:=k!
def Z0{n m:Nat}{a b:Option α}{Q:α->Prop}(e:n=m)(h:PT T a Q):PT T (bif Nat.beq n m then a else b) Q:=t!
end
def ml{x:AJ×Int}(h:x.1.1.length<=16)(a:0<=x.2/\x.2<x.1.1.length):Ap (Jn x) λr=>True:=by unfold Jn;have e:=AY (x:=x.2+1);rw[e];refine AC (λb=>?_) (λ_=>?_);simp only[len]at b;refine AA (AI a.1 a.2) λc _=>?_;exact AA (AI o! b) λd _=>AB trivial;exact AA (AI a.1 a.2) λf _=>AB trivial
def kH{x:AJ×AS}(h:x.1.1.length<=16):Ap (L8 x) λr=>True:=by
 unfold L8;refine AA (P:=λ_=>True) ?_ λv _=>BB (λ_ _=>AB trivial) (λ_ _=>AB trivial);refine AW (λ(s:Int)=>0<=s/\s<=x.1.1.length) (λ(s:Int)=>((x.1.1.length:Int)-s).toNat) ⟨Af _,o!⟩ (λs c=>?_);unfold QR;have e:=AY (x:=s+1);rw[e];refine AC (λa=>?_) (λ_=>AB trivial);simp only[len]at a;have b:((0<=s+1/\s+1<=x.1.1.length)/\((x.1.1.length:Int)-(s+1)).toNat<((x.1.1.length:Int)-s).toNat):=⟨o!,o!⟩
 refine AA (ml h ⟨c.1,a⟩) λd _=>?_;refine AP (λ_=>?_) (λ_=>AB b);exact AP (λ_=>AB trivial) (λ_=>AB b)
def kG{x:AJ×Av}(h:x.1.1.length<=16)(c:x.2.2.2.length<=2199023255552):Ap (Gr x) λr=>r.2=true->ag r.1:=by unfold Gr;refine AL (λ_=>AB n!) (λ_=>?_);refine AA (pu c) λd b=>?_;refine AP (λa=>?_) (λ_=>AB λa=>by cases a);exact AA (kH h) λe _=>AB λ_=>b a
def yn{a b:Int}(f:0<=a:=by omega)(g:0<=b:=by omega)(h:a+b<=1099511627776:=by omega):wi (Int.fdiv (IntKind.wrap .u64 (wi (a+b))) (2^(min (Int.toNat 1) 64)))=(a+b)/2:=by
 have c:wi (a+b)=a+b:=AY;have d:IntKind.wrap .u64 (a+b)=a+b:=by rw[Wl];omega
 have e:(2:Int)^(min (Int.toNat 1) 64)=2:=by decide
 rw[c,d,e,jI _ (by decide)];exact AY
def cA{x:Int×Int}:Ap (QT x) λr=>r=true↔x.1<x.2:=by unfold QT Fp;apply BA;refine AK (λa=>?_) (λ_=>AB q!);simp at a
def MT{α:Type}(b:Bool)(o:Option α)(Q:α->Prop):Prop:=(b=true-> ∃r,o=some r)/\ ∀r,o=some r->Q r
section
variable {α β:Type} {b:Bool}
def MT.some{r:α}{Q:α->Prop}(h:Q r):MT b (.some r) Q:=⟨λ_=>⟨r,rfl⟩,λs e=>by injection e with e;rw[<-e];exact h⟩
def iT{o:Option α}{Q:α->Prop}(h:Ap o Q):MT b o Q:=⟨λ_=>by have⟨r,e,_⟩:=h;exact⟨r,e⟩,λr e=>h.get e⟩
def MT.bind{o:Option α}{k:α->Option β}{P:α->Prop}{Q:β->Prop}(h:MT b o P)(d: ∀r,P r->MT b (k r) Q):MT b (Option.bind o k) Q:=by refine⟨λc=>?_,λr e=>?_⟩;have⟨r,e⟩:=h.1 c;have⟨s,a⟩:=(d r (h.2 r e)).1 c;exact⟨s,by rw[e];exact a⟩;have⟨s,f,a⟩:=D2.1 e;exact(d s (h.2 s f)).2 r a
def MT.cond{c:Bool}{x y:Option α}{Q:α->Prop}(a:c=true->MT b x Q)(d:c=false->MT b y Q):MT b (bif c then x else y) Q:=by cases c<;>grind
def MT.dec{p:Prop}{_:Decidable p}{x y:Option α}{Q:α->Prop}(a:p->MT b x Q)(c: ¬p->MT b y Q):MT b (bif decide p then x else y) Q:=by simp_all[MT.cond]
end
def sF{a:Type}{l:List a}{i:Int}{x:a}:(FT l i x).length=l.length:=by simp[FT]
abbrev NL:=List A1
def DS(a:AJ):Prop:= ∀f∈a.2.2.1,f.2.2.length<=2199023255552
def SpL(l:List E7):Prop:=l.length<=16777216/\ ∀s∈l,1<=s.1
theorem cq{n:Int}{v:EN}: ∀{m:List (Int×EN)},(m.map (·.1)).Nodup-> ∀q,q∈Pq n v m↔q=(n,v)\/(q∈m/\q.1≠n)
 |[],_,q=>by simp[Pq]
 |p::r,h,q=>by
  rw[Bi,Gl]at h;unfold Pq;by_cases b:p.1=n;grind[List.mem_cons_of_mem,List.mem_map_of_mem];have:(p.1==n)=false:=by simp[b]
  rw[this,cond_false];constructor;intro a;rcases Au.1 a with a|a;grind;rcases(cq h.2 q).1 a with a|⟨a,hn⟩;exact .inl a;grind[List.mem_cons_of_mem];rintro(a|⟨a,hn⟩);exact CZ _ ((cq h.2 q).2 (.inl a));rcases Au.1 a with a|a;grind;exact CZ _ ((cq h.2 q).2 (.inr ⟨a,hn⟩))
def uU{n:Int}{v:EN}: ∀{m:List (Int×EN)},(m.map (·.1)).Nodup->((Pq n v m).map (·.1)).Nodup
 |[],_=>by simp[Pq]
 |p::r,h=>by
  have b:=h;rw[Bi,Gl]at h;unfold Pq;by_cases a:p.1=n;grind[List.nodup_cons];have:(p.1==n)=false:=by simp[a]
  rw[this,cond_false,Bi,Gl];refine⟨λc=>?_,uU h.2⟩;grind[cq,List.mem_map_of_mem]
def uS{n:Int}{e:EN}: ∀{m:List (Int×EN)},Ku n m=some e->(n,e)∈m
 |[],h=>by cases h
 |p::r,h=>by
  unfold Ku at h;by_cases a:p.1=n;grind;have:(p.1==n)=false:=by simp[a]
  rw[this,cond_false]at h;exact CZ _ (uS h)
def uR{n:Int}: ∀{m:List (Int×EN)},Ku n m=none-> ∀q∈m,q.1≠n
 |[],_,q,a=>by cases a
 |p::r,h,q,a=>by
  unfold Ku at h;by_cases b:p.1=n;have:(p.1==n)=true:=by simp[b]
  rw[this,cond_true]at h;cases h;have:(p.1==n)=false:=by simp[b]
  rw[this,cond_false]at h;rcases Au.1 a with a|a;rw[a];exact b;exact uR h q a
def QG(m:List (Int×EN))(P:EN->Prop):Prop:=(m.map (·.1)).Nodup/\(∀q∈m,q.1=q.2.1)/\ ∀e,(e.1,e)∈m↔P e
def QG.nil:QG [] λ_=>False:=⟨QL,q!,q!⟩
def QG.put{m:List (Int×EN)}{P:EN->Prop}{v:EN}(h:QG m P):QG (Pq v.1 v m) λe=>e=v\/(P e/\e.1≠v.1):=by refine⟨uU h.1,λq a=>?_,λe=>?_⟩;rcases(cq h.1 q).1 a with a|⟨a,_⟩;rw[a];exact h.2.1 q a;rw[cq h.1];constructor;rintro(a|⟨a,hn⟩);injection a with _ a;exact .inl a;exact .inr ⟨(h.2.2 e).1 a,hn⟩;rintro(rfl|⟨a,hn⟩);exact .inl rfl;exact .inr ⟨(h.2.2 e).2 a,hn⟩
def QG.congr{m:List (Int×EN)}{P Q:EN->Prop}(h:QG m P)(a: ∀e,P e↔Q e):QG m Q:=⟨h.1,h.2.1,λe=>(h.2.2 e).trans (a e)⟩
def QG.get{m:List (Int×EN)}{P:EN->Prop}(h:QG m P){e:EN}(g:P e):Ku e.1 m=some e:=by
 have d:=(h.2.2 e).2 g;cases c:Ku e.1 m with
 |none=>exact absurd rfl (uR c _ d)
 |some f=>
  have i: ∀{l:List (Int×EN)},(l.map (·.1)).Nodup-> ∀{n:Int} {a b:EN},(n,a)∈l->(n,b)∈l->a=b:=by intro l;induction l<;>grind
  rw[i h.1 d (uS c)]
def gR(e:EN):Bool:=(e.2.1==1)||(e.2.1==2)
def lC(e:EN):BH e=some (gR e):=by grind[BH,gR]
def Ka(p i j:Int)(e:EN):Bool:=gR e&&((e.2.2.2.2.2.2.1.1==p)&&(decide (e.1>i)&&decide (e.1<=j)))
def Pp(s:Int×Int)(n:Int):Bool:=decide (n>=s.1)&&decide (n<=s.2)
def has_eq(s:Int×Int)(n:Int):Iv (s,n)=some (Pp s n):=by grind[Iv,Pp]
def AHJ{e:EN}{l:List (Int×Int)}(j:l.length<=16777216):Ap (Ai (WK e l) 0) λr=>(∀u,r= .inl u->0<=u/\(l.any λs=>Pp s e.1)=true)/\(∀u,r= .inr u->(l.any λs=>Pp s e.1)=false):=by refine AW (λ(s:Int)=>0<=s/\s<=l.length/\ ∀x∈l.take s.toNat,Pp x e.1=false) (λ(s:Int)=>((l.length:Int)-s).toNat) ⟨Af _,o!,q!⟩ (λs d=>?_);have⟨g,m,h⟩:=d;unfold WK;refine AC (λa=>?_) (λa=>AB ⟨λu b=>(by cases b),λu _=>?_⟩);simp[len]at a;rw[(AY (x:=s+1))];refine AA (AI g a) λn c=>?_;rw[has_eq,AD];refine AK (λk=>AB ⟨λu b=>?_,λu b=>(by cases b)⟩) (λi=>AB ⟨⟨o!,o!,λx f=>?_⟩,o!⟩);grind[List.any_eq_true];rw[show(s+1).toNat=s.toNat+1 by omega,Cv,c.1]at f;grind[Option.toList_some,List.mem_singleton];simp[len]at a;rw[BR o!]at h;rw[Bool.eq_false_iff];grind[List.any_eq_true]
def AHI{a:AJ}{l:Ae}{p i j:Int}{d:List (Int×Int)}(R:Dj l)(hv:1≤d.length)(S:d.length≤16777216):
  Ap (Ai (WJ (a,(l,(p,(i,j)))) d) (0,(0,[]))) λr=>r.1=((l.2.1.filter λe=>Ka p i j e&&(d.tail.any λs=>Pp s e.1)).length:Int)/\QG r.2 λe=>e∈l.2.1/\Ka p i j e=true:=by
 obtain⟨l1,l2,l3,l4,l5,K⟩:=R;refine AW (λ(s:Int×(Int×List (Int×EN)))=>0<=s.1/\s.1<=l.2.1.length/\s.2.1=(((l.2.1.take s.1.toNat).filter λe=>Ka p i j e&&(d.tail.any λs=>Pp s e.1)).length:Int)/\QG s.2.2 λe=>e∈l.2.1.take s.1.toNat/\Ka p i j e=true) (λs=>((l.2.1.length:Int)-s.1).toNat)
  ⟨Af _,d!,q!,QG.nil.congr λe=>q!⟩ (λs O=>?_)
 obtain⟨T,i2,A,B⟩:=O;unfold WJ;dsimp only;refine AC (λy=>?_) (λy=>AB ?_);simp only[len]at y;have L:=AY (x:=s.1+1);rw[L];refine AA (AI T y) λq I=>?_;rw[lC,AD];have g:l.2.1.take (s.1+1).toNat=l.2.1.take s.1.toNat++[q]:=by rw[show(s.1+1).toNat=s.1.toNat+1 by omega,Cv,I.1];rfl
 have f:Ka p i j q=false->(0<=s.1+1/\s.1+1<=l.2.1.length/\s.2.1=(((l.2.1.take (s.1+1).toNat).filter λe=>Ka p i j e&&(d.tail.any λs=>Pp s e.1)).length:Int)/\QG s.2.2 λe=>e∈l.2.1.take (s.1+1).toNat/\Ka p i j e=true)/\((l.2.1.length:Int)-(s.1+1)).toNat<((l.2.1.length:Int)-s.1).toNat:=λw=>by
  refine⟨⟨o!,o!,?_,?_⟩,o!⟩;rw[g,GU,A];simp[w];rw[g];refine B.congr λe=>⟨λh=>⟨An.2 (.inl h.1),h.2⟩,λh=>⟨?_,h.2⟩⟩
  rcases An.1 h.1 with m|m;exact m;rw[BC.1 m,w]at h;cases h.2
 refine AK (λC=>?_) (λC=>AB (f (by simp[Ka,C])));refine AK (λD=>?_) (λD=>AB (f (by simp[Ka,D])));refine AK (λE=>?_) (λE=>AB (f (by unfold Ka;rw[E];simp)));refine AK (λF=>?_) (λF=>AB (f (by unfold Ka;rw[F];simp)));have w:Ka p i j q=true:=by unfold Ka;rw[C,D,E,F];rfl
 refine AA (Bj (lo:=1) (hi:=(d.length:Int))) λV N=>?_;have H:V=d.tail:=by
  rw[N.1,BR (by rw[FY];omega)];cases d with
  |nil=>rfl
  |cons a r=>rfl
 subst H;refine AA (AHJ (by rw[List.length_tail];omega)) λU o=>?_;have M:=K s.1.toNat q I.1;have n:QG (Pq q.1 q s.2.2) λe=>e∈l.2.1.take (s.1+1).toNat/\Ka p i j e=true:=by
  rw[g];refine B.put.congr λe=>⟨?_,λh=>?_⟩
  rintro(rfl|⟨h,_⟩);exact⟨An.2 (.inr (BC.2 rfl)),w⟩;exact⟨An.2 (.inl h.1),h.2⟩;rcases An.1 h.1 with m|m;refine .inr ⟨⟨m,h.2⟩,λZ=>?_⟩;obtain⟨k,Q,v⟩:=VP.1 m;rw[BQ]at Q;rw[List.getElem_take]at v;have:=(K k e (by rw[<-v];exact As o!)).1;omega;exact .inl (BC.1 m)
 have t: ∀b:Bool,(d.tail.any λs=>Pp s q.1)=b->((((l.2.1.take (s.1+1).toNat).filter λe=>Ka p i j e&&(d.tail.any λs=>Pp s e.1)).length:Nat):Int)=s.2.1+(if b=true then 1 else 0):=λb P=>by rw[g,GU,Aa,A];cases b<;>simp[w,P]
 have J:(((l.2.1.take s.1.toNat).filter λe=>Ka p i j e&&(d.tail.any λs=>Pp s e.1)).length:Int)<=4096:=by have W:=Fy (λe=>Ka p i j e&&(d.tail.any λs=>Pp s e.1)) (l.2.1.take s.1.toNat);have X:=dI s.1.toNat l.2.1;have Y:=List.length_take_le' s.1.toNat l.2.1;omega
 have G:=AY (x:=s.2.1+1);rw[G];refine BB (λu z=>?_) (λu z=>AB ⟨⟨d!,d!,?_,n⟩,d!⟩);refine AC (λ_=>AB ⟨⟨d!,d!,?_,n⟩,d!⟩) (λc=>absurd (o.1 u z).1 c);rw[t true (o.1 u z).2];rfl;rw[t false (o.2 u z)];simp;simp only[len]at y;rw[BR o!]at A B;exact⟨A,B⟩
def yl(f e:EN):Prop:=f.2.2.2.2.2.2.1.1<e.2.2.2.2.2.2.1.1\/(f.2.2.2.2.2.2.1.1=e.2.2.2.2.2.2.1.1/\f.1<e.1)
theorem ym(e:EN): ¬yl e e:=by unfold yl;omega
def AA6{a b c:EN}(h:yl a b)(g:yl b c):yl a c:=by unfold yl at*;omega
def AFM(f e:EN): ∃c:Int,Du (f,e)=some c/\(c<0↔yl f e)/\(c=0↔f.2.2.2.2.2.2.1.1=e.2.2.2.2.2.2.1.1/\f.1=e.1):=by
 have:Ap (Du (f,e)) λc=>(c<0↔yl f e)/\(c=0↔f.2.2.2.2.2.2.1.1=e.2.2.2.2.2.2.1.1/\f.1=e.1):=by
  unfold Du;unfold yl;dsimp only;repeat' with_reducible first|intro a|apply AC|apply AP|apply AK|apply AB
  all_goals omega
 exact this
def wJ(x:AS)(i:Nat):Prop:= ∀e,x.2.2.2.2.2[i]? =some e->
 (Lc e/\gR e=true/\x.1<=e.1/\e.1<=x.2.1/\x.2.2.1<=e.2.2.2.2.2.2.1.1/\e.2.2.2.2.2.2.1.1<=x.2.2.2.1)/\(i=0->e.2.2.2.2.1<x.1)/\
 ∀f,0<i->x.2.2.2.2.2[i-1]? =some f->yl f e/\(f.2.2.2.2.2.2.1.1=e.2.2.2.2.2.2.1.1->e.2.2.2.2.1=f.1)/\(f.2.2.2.2.2.2.1.1≠e.2.2.2.2.2.2.1.1->e.2.2.2.2.1<x.1)
def VR(x:AS):Prop:=ag x/\ ∀i,wJ x i
def VR.ent{x:AS}(h:VR x){e:EN}(a:e∈x.2.2.2.2.2):Lc e/\gR e=true/\x.1<=e.1/\e.1<=x.2.1/\x.2.2.1<=e.2.2.2.2.2.2.1.1/\e.2.2.2.2.2.2.1.1<=x.2.2.2.1:=by obtain⟨i,b,rfl⟩:=VP.1 a;exact(h.2 i _ (As b)).1
def yF{x:AS}(Q:x.2.2.2.2.2.length<=4096):Ap (Ai (G5 x) 0) λr=>(r= .inl false/\ ¬ ∀i,wJ x i)\/(r= .inr ()/\ ∀i,wJ x i):=by
 refine Cu (λ(s:Int)=>0<=s/\s<=x.2.2.2.2.2.length/\ ∀i:Nat,(i:Int)<s->wJ x i) (λ(s:Int)=>((x.2.2.2.2.2.length:Int)-s).toNat) ⟨Af _,o!,λi z=>o!⟩ (λs J=>?_);obtain⟨G,R,H⟩:=J;unfold G5;simp only[len];refine AC (λE=>?_) (λE=>Ap.done (.inr ⟨rfl,λi=>?_⟩))
 case refine_2=>by_cases z:(i:Int)<s;exact H i z;intro e m;rw[Cj o!]at m;cases m
 obtain⟨k,rfl⟩:=D6 G;refine AA (AI G E) λv d=>?_;have d:=d.1;rw[Dd]at d;have a:(wJ x k->False)->Ap (some (Step.done (.inl false)):Option (Step Int (Bool ⊕ Unit))) (LW (λ(s:Int)=>0<=s/\s<=x.2.2.2.2.2.length/\ ∀i:Nat,(i:Int)<s->wJ x i) (λ(s:Int)=>((x.2.2.2.2.2.length:Int)-s).toNat) ((x.2.2.2.2.2.length:Int)-(k:Int)).toNat λr=>(r= .inl false/\ ¬ ∀i,wJ x i)\/(r= .inr ()/\ ∀i,wJ x i)):=λh=>Ap.done (.inl ⟨rfl,λu=>h (u k)⟩);have j:wJ x k->Ap (some (Step.next (wi ((k:Int)+1))):Option (Step Int (Bool ⊕ Unit))) (LW (λ(s:Int)=>0<=s/\s<=x.2.2.2.2.2.length/\ ∀i:Nat,(i:Int)<s->wJ x i) (λ(s:Int)=>((x.2.2.2.2.2.length:Int)-s).toNat) ((x.2.2.2.2.2.length:Int)-(k:Int)).toNat λr=>(r= .inl false/\ ¬ ∀i,wJ x i)\/(r= .inr ()/\ ∀i,wJ x i)):=λh=>by
  rw[AY];refine Ap.next ⟨o!,o!,λi z=>?_⟩ o!
  by_cases A:i=k;rw[A];exact h;exact H i o!
 refine AA CV λN C=>?_;refine AO (λl=>a λok=>?_) (λl=>?_);have:=C.2 (ok v d).1.1;rw[l]at this;cases this;have q1:=C.1 l;refine AA CL λO D=>?_;have q:gR v=true↔v.2.1=1\/v.2.1=2:=by unfold gR;simp
 refine AO (λl=>a λok=>?_) (λl=>?_);have:=D.2 (q.1 (ok v d).1.2.1);rw[l]at this;cases this;have q2:=q.2 (D.1 l);refine AC (λt=>a λok=>?_) (λq3=>?_);have:=(ok v d).1.2.2;omega;refine AC (λt=>a λok=>?_) (λq4=>?_);have:=(ok v d).1.2.2;omega;refine AC (λt=>a λok=>?_) (λq5=>?_);have:=(ok v d).1.2.2;omega;refine AC (λt=>a λok=>?_) (λq6=>?_);have:=(ok v d).1.2.2;omega;have q0:Lc v/\gR v=true/\x.1<=v.1/\v.1<=x.2.1/\x.2.2.1<=v.2.2.2.2.2.2.1.1/\v.2.2.2.2.2.2.1.1<=x.2.2.2.1:=⟨q1,q2,o!⟩
 apply AC<;>intro L;have M:wi ((k:Int)-1)=((k-1:Nat):Int):=by rw[AY];omega
 have F:k-1<x.2.2.2.2.2.length:=o!
 have w:ix x.2.2.2.2.2 (wi ((k:Int)-1))=some (x.2.2.2.2.2[k-1]):=by rw[M];unfold ix;rw[if_pos o!,Dd,As F]
 have n:x.2.2.2.2.2[k-1]? =some (x.2.2.2.2.2[k-1]):=As F;generalize x.2.2.2.2.2[k-1]=f at w n;obtain⟨c,y,p,K⟩:=AFM f v;rw[w,AD,y,AD];refine AC (λt=>a λok=>?_) (λt=>?_);have:=p.2 ((ok v d).2.2 f o! n).1;omega;have q7:=p.1 o!;rw[decide_eq_true o!,cond_true,AD];refine AA (P:=λr:Bool ⊕ Unit=>(r= .inl false/\ ¬wJ x k)\/(r= .inr ()/\wJ x k)) ?_ λr hr=>?_;apply AP<;>intro m;rw[AD];refine AL (λhn=>AB (.inl ⟨rfl,λok=>hn (((ok v d).2.2 f o! n).2.1 m)⟩)) (λhn=>AB (.inr ⟨rfl,λe g=>?_⟩));rw[d]at g;injection g with g;subst g;refine⟨q0,λo=>absurd o o!,λI _ b=>?_⟩;rw[n]at b;injection b with b;subst b;exact⟨q7,λ_=>hn,λu=>absurd m u⟩;refine AC (λhn=>AB (.inl ⟨rfl,λok=>?_⟩)) (λhn=>AB (.inr ⟨rfl,λe g=>?_⟩));have:=((ok v d).2.2 f o! n).2.2 m;omega;rw[d]at g;injection g with g;subst g;refine⟨q0,λo=>absurd o o!,λI _ b=>?_⟩;rw[n]at b;injection b with b;subst b;exact⟨q7,λu=>absurd u m,λ_=>o!⟩;rcases hr with⟨rfl,hr⟩|⟨rfl,hr⟩;exact BK (a hr);exact A7 (j hr);rw[decide_eq_false L,cond_false];have B:k=0:=o!
 apply BZ;apply AC<;>intro hn;rw[AD];refine BK (a λok=>?_);have:=(ok v d).2.1 B;omega;rw[AD];refine A7 (j λe g=>?_);rw[d]at g;injection g with g;subst g;exact⟨q0,λ_=>o!,λf o=>absurd o o!⟩
def XJ{x:AS}:Ap (EO x) λr=>r=true↔VR x:=by unfold EO;refine AA IR λf c=>?_;refine AO (λb=>AB ⟨λa=>(by cases a),λa=>?_⟩) (λb=>?_);obtain⟨⟨a1,a2,a3,a4,a5,a6,a7,a8,a9⟩,_⟩:=a;have:=c.2 ⟨a1,a2,a3,a4,a5,a6,a7,a8⟩;rw[b]at this;cases this;have hn:=c.1 b;dsimp only at hn;refine AC (λd=>AB ⟨λa=>(by cases a),λa=>?_⟩) (λe=>?_);have:=a.1.2.2.2.2.2.2.2.2;simp only[len]at d;omega;simp only[len]at e;refine AA (yF o!) λr hr=>?_;rcases hr with⟨rfl,hr⟩|⟨rfl,hr⟩;exact BK (AB ⟨λa=>(by cases a),λa=>absurd a.2 hr⟩);exact A7 (AB ⟨λ_=>⟨⟨hn.1,hn.2.1,hn.2.2.1,hn.2.2.2.1,hn.2.2.2.2.1,hn.2.2.2.2.2.1,hn.2.2.2.2.2.2.1,hn.2.2.2.2.2.2.2,o!⟩,hr⟩,λ_=>rfl⟩)
abbrev NE:=A1
def lN(x y:NE):Bool:=decide (x.1.2.2.1<y.1.2.2.1\/(x.1.2.2.1=y.1.2.2.1/\(x.1.1<y.1.1\/(x.1.1=y.1.1/\x.2<y.2))))
def sj:Sort.SWO lN where
 irrefl x:=by simp[lN]
 trans x y z h1 h2:=by simp[lN,decide_eq_true_eq]at*;omega
 ntrans x y z h1 h2:=by simp[lN,decide_eq_false_iff_not]at*;omega
def nE{l:List Int}{k:Nat}{v:Int}(h:l[k]? =some v)(b:k<1000)(c:l.length<1000):Ai (Jo l) (k:Int)=if v=0 then Ai (Jo l) ((k+1:Nat):Int)else some (.inl v):=by
 rw[H5];have a:=(KT.1 h).1;have d:decide ((k:Int)<len l)=true:=w!
 have e:ix l (k:Int)=some v:=by unfold ix;rw[if_pos o!];simpa using h
 grind[wip,Jo]
def AHO(a b c:Int):J3 [a,b,c]=some (if a≠0 then a else if b≠0 then b else c):=by unfold J3;rw[show(0:Int)=((0:Nat):Int)from rfl,nE (k:=0) (v:=a) rfl o! q!];by_cases d:a=0;rw[if_pos d,nE (k:=1) (v:=b) rfl o! q!];by_cases e:b=0;rw[if_pos e,nE (k:=2) (v:=c) rfl o! q!];grind[H5,Jo];rw[if_neg e];simp[d,e];rw[if_neg d];simp[d]
def AEx(x y:NE): ∃v,Hm (x,y)=some v/\decide (v<0)=lN x y:=by
 unfold Hm;dsimp only;simp only[yR,AD,AHO];refine⟨_,rfl,?_⟩;unfold lN;apply decide_eq_decide.2;repeat' split
 all_goals omega
section
variable {α:Type} [Inhabited α]
theorem yb{d:Array α}{i:Int}{k:Nat}(a:i=k)(b:k<d.size:=by omega):ix d.toList i=some d[k]! :=by subst a;unfold ix;rw[if_pos (by omega)];simp[b]
omit [Inhabited α] in
theorem AGY{d:Array α}{i:Int}{k:Nat}(a:i=k)(x:α):FT d.toList i x=(d.setIfInBounds k x).toList:=by subst a;unfold FT;simp
def AE8{d:Array α}{i j:Int}{a b:Nat}(c:i=a)(e:j=b):FT (FT d.toList i d[b]!) j d[a]! =(Sort.swp d a b).toList:=by rw[AGY c,AGY e];rfl
def AEU{d:Array α}{i j:Int}{a b:Nat}{x:α}(e:i=a)(f:j=b)(c:b<d.size:=by omega):ix (FT d.toList i x) j=some (d.setIfInBounds a x)[b]! :=by grind[AGY,yb]
theorem im(lt:α->α->Bool)(k:Nat): ∀(j:Nat) (d:Array α),(Sort.insInner lt k j d).size=d.size
 |0,_=>rfl
 |j+1,d=>by unfold Sort.insInner;split;rw[im lt k j,Sort.size_swp];rfl
end
theorem AAA{a b:Int}{k:Nat}(g:a=k): ∀(j:Nat) (d:Array NE),j<d.size->d.size<=16777216->Ai (Da (a,b)) ((j:Int),d.toList)=some (Sort.insInner lN k j d).toList
 |0,d,hj,hd=>by
  rw[H5];have:decide (((0:Nat):Int)>a)=false:=by simp;omega
  simp only[Da,this,cond_false];rfl
 |j+1,d,hj,hd=>by
  rw[H5];have⟨v,e,f⟩:=AEx d[j+1]! d[j]!;simp only[Da,(by grind[lm]:wi (((j+1:Nat):Int)-1)=(j:Int)),(yb rfl hj),(yb rfl:ix d.toList (j:Int)=some d[j]!),(AEU rfl rfl:ix (FT d.toList ((j+1:Nat):Int) d[j]!) (j:Int)=some (d.setIfInBounds (j+1) d[j]!)[j]!),AD,e,f,AE8 (d:=d) (a:=j+1) (b:=j) rfl rfl];unfold Sort.insInner;by_cases c:j+1>k;have:decide (((j+1:Nat):Int)>a)=true:=by simp;omega
  rw[this];cases h:lN d[j+1]! d[j]! with
  |true=>simp[cond_true,c,decide_true,XK,if_true];exact AAA g j _ (by rw[Sort.size_swp];omega) (by rw[Sort.size_swp];omega)
  |false=>simp[c]
  have:decide (((j+1:Nat):Int)>a)=false:=by simp;omega
  rw[this];simp[c]
def ACY{a b:Int}{k m:Nat}(g:a=k)(h:b=m): ∀(n i:Nat) (d:Array NE),m-i<=n->m<=d.size->d.size<=16777216->Ai (DZ (a,b)) ((i:Int),d.toList)=some (Sort.insOuter lN k m i d).toList:=by
 intro n;induction n with
 |zero=>grind[H5,Sort.insOuter,DZ]
 |succ n j=>intro i d c e f;rw[H5,Sort.insOuter];grind[lm,im,DZ,AAA]
def z7{d:Array NE}{a b:Int}{k m:Nat}(c:a=k)(e:b=m)(g:m<=d.size)(h:k<=m)(f:d.size<=16777216):C2 d.toList (a,b)=some (Sort.insertionSort lN d k m).toList:=by unfold C2;dsimp only;rw[(by grind[lm]:wi (a+1)=((k+1:Nat):Int)),ACY c e (m-(k+1)) (k+1) d o! g f];rfl
def swR(a b n:Nat)(d:Array NE)(k:Nat):NE:=if a<=k/\k<a+n then d[b+(k-a)]! else if b<=k/\k<b+n then d[a+(k-b)]! else d[k]!
def wE{d:Array NE}{a b n:Nat}(f:a+n≤b)(l:b+n≤d.size)(m:d.size≤16777216):
  Ap (Cn d.toList ((a:Int),((b:Int),(n:Int)))) λr=> ∃e:Array NE,r=e.toList/\e.size=d.size/\ ∀k,k<d.size->e[k]! =swR a b n d k:=by
 unfold Cn;refine AA (P:=λr=> ∃e:Array NE,r=e.toList/\e.size=d.size/\ ∀k,k<d.size->e[k]! =swR a b n d k) ?_ λr h=>AB h;refine AW (λ(s:Int×List NE)=> ∃(t:Nat) (e:Array NE),s.1=t/\s.2=e.toList/\t<=n/\e.size=d.size/\ ∀k,k<d.size->e[k]! =swR a b t d k) (λs=>n-s.1.toNat) ⟨0,d,rfl,rfl,Bk _,rfl,λk _=>by unfold swR;rw[if_neg (by omega),if_neg (by omega)]⟩ ?_;rintro⟨q,u⟩ ⟨t,e,q1,q2,q3,q4,q5⟩;dsimp only at q1 q2;subst q1 q2;unfold Hf;dsimp only;refine AC (λg=>?_) (λg=>AB ⟨e,rfl,q4,?_⟩);have o:t<n:=by omega
 simp only[(by grind[lm]:wi ((b:Int)+(t:Int))=((b+t:Nat):Int)),(by grind[lm]:wi ((a:Int)+(t:Int))=((a+t:Nat):Int)),(yb rfl:ix e.toList ((b+t:Nat):Int)=some e[b+t]!),(yb rfl:ix e.toList ((a+t:Nat):Int)=some e[a+t]!),(AEU rfl rfl:ix (FT e.toList ((a+t:Nat):Int) e[b+t]!) ((b+t:Nat):Int)=some (e.setIfInBounds (a+t) e[b+t]!)[b+t]!),AD,wip (i:=t),AE8 (d:=e) (a:=a+t) (b:=b+t) rfl rfl];refine AB ⟨⟨t+1,_,rfl,rfl,by omega,by rw[Sort.size_swp,q4],λk j=>?_⟩,?_⟩;rw[Sort.swp_get e (by omega) (by omega)];rw[(q5 (a+t) (by omega)),(q5 (b+t) (by omega)),(q5 k j)];unfold swR;by_cases k1:k=a+t;subst k1;rw[if_neg (by omega),if_pos rfl,if_neg (by omega),if_neg (by omega),if_pos (by omega)];exact congrArg (λz=>d[z]!) (by omega);by_cases c:k=b+t;subst c;rw[if_pos rfl,if_neg (by omega),if_neg (by omega),if_neg (by omega),if_pos (by omega)];exact congrArg (λz=>d[z]!) (by omega);rw[if_neg c,if_neg k1];by_cases p:a<=k/\k<a+t<;>grind;show n-((t+1:Nat):Int).toNat<n-((t:Nat):Int).toNat
 omega;have:t=n:=by omega
 rw[<-this];exact q5
def dE(x:AS):BT:=[80,77,82,78]++(C6 x.1 8++(C6 x.2.1 8++(C6 x.2.2.1 4++(C6 x.2.2.2.1 4++(C6 x.2.2.2.2.1 1++C6 (x.2.2.2.2.2.length:Int) 4)))))
def Ml(x:AS):BT:=HA (dE x)++J2 x.2.2.2.2.2
theorem ZJ(x:AS):(dE x).length=33:=rfl
def ag.inr{x:AS}(h:ag x):ae 8 x.1/\ae 8 x.2.1/\ae 4 x.2.2.1/\ae 4 x.2.2.2.1/\ae 1 x.2.2.2.2.1/\ae 4 (x.2.2.2.2.2.length:Int):=by have⟨a1,a2,a3,a4,a5,a6,a7,a8,a9⟩:=h;grind[ae]
def VR.len{x:AS}(h:VR x):(Ml x).length<=34406441:=by have b:=qA (l:=x.2.2.2.2.2) λe a=>(h.ent a).1;have c:=h.1.2.2.2.2.2.2.2.2;grind[Ml,List.length_append,Dn,ZJ]
def ADj{x:AS}(h:ag x):HV x=some (dE x):=by unfold HV;rw[Hd q! g! g!,AD];rw[Hd (by simp only[Aa,A2];simp) g! g!,AD];rw[Hd (by simp only[Aa,A2];simp) g! g!,AD];rw[Hd (by simp only[Aa,A2];simp) g! g!,AD];rw[Hd (by simp only[Aa,A2];simp) g! g!,AD];rw[Hd (by simp only[Aa,A2];simp) g! g!,AD];rfl
def ou{x:AS}(h:VR x):Ge x=some (Ml x,0):=by
 have q:=h.1.2.2.2.2.2.2.2.2;have⟨b,g,d⟩:=XJ (x:=x);have c:=d.2 h;subst c;unfold Ge;rw[g,AD,Cg,cond_false,ADj h.1,AD,ac (by rw[ZJ];decide),AD];have key:Ap (Ai (Ls x) (HA (dE x),0)) λr=>r=Ml x:=by
  refine Cu (λ(s:BT×Int)=> ∃k:Nat,s.2=k/\k<=x.2.2.2.2.2.length/\s.1=HA (dE x)++J2 (x.2.2.2.2.2.take k)) (λs=>x.2.2.2.2.2.length-s.2.toNat) ⟨0,rfl,Bk _,by simp[J2]⟩ ?_;rintro⟨y,z⟩ ⟨k,o,u,p⟩;subst o p;unfold Ls;simp only[len];refine AC (λf=>?_) (λf=>Ap.done (by rw[BR o!];rfl));refine AA (AI o! f) λv d=>?_;have a:=(h.ent d.2).1;have m:=Ry a;have j:=qA (l:=x.2.2.2.2.2.take k) λe i=>(h.ent (FA i)).1;have n:(x.2.2.2.2.2.take k).length<=4096:=k!
  rw[ot a,AD,ac m,AD];refine AA (CC (by rw[Aa,Dn,Dn,ZJ];omega)) λw t=>?_;rw[AY];refine Ap.next ⟨k+1,k!,o!,?_⟩ k!
  grind[Int.toNat_natCast,List.take_add_one,Option.toList_some,R0,List.append_assoc]
 obtain⟨r,hr,rfl⟩:=key;rw[hr];rfl
def WR(x:AS):Prop:=ag x/\ ∀e∈x.2.2.2.2.2,Fo e.2.2.2.2.2.2.1.2.2.1/\Fo e.2.2.2.2.2.2.1.2.2.2/\e.2.2.2.2.2.2.2=[]
def AB8{e:EN}(h:Lc e)(b:gR e=true):e.2.2.2.2.2.2.2=[]:=by
 have a:e.2.1=1\/e.2.1=2:=by grind[gR]
 have⟨_,_,_,_,_,_,_,_,c⟩:=h;grind[Ut]
def VR.wr{x:AS}(h:VR x):WR x:=⟨h.1,λe b=>by have a:=h.ent b;exact⟨a.1.cells.1,a.1.cells.2.1,AB8 a.1 a.2.1⟩⟩
def ABC{e:EN}(h:GQ e=some true)(g:gR e=true):e.2.2.2.2.2.2.2=[]:=by
 have f:e.2.1=1\/e.2.1=2:=by unfold gR at g;simpa using g
 have key: ∀r,GQ e=some r->r=true->e.2.2.2.2.2.2.2=[]:=by
  have c:MT false (GQ e) λr=>r=true->e.2.2.2.2.2.2.2=[]:=by
   have p: ∀{Q:Bool->Prop},(∀r,r=false->Q r)->MT false (some false) Q:=λn=>MT.some (n _ rfl);have a:MT false (some false) λr=>r=true->e.2.2.2.2.2.2.2=[]:=MT.some λb=>by cases b
   unfold GQ;refine MT.dec (λ_=>a) λ_=>?_;refine MT.dec (λ_=>a) λ_=>?_;refine MT.dec (λ_=>a) λ_=>?_;refine MT.dec (λ_=>a) λ_=>?_;refine MT.bind (iT KU) λq _=>?_;refine MT.cond (λ_=>a) λ_=>?_;refine MT.bind (iT KU) λs _=>?_;refine MT.cond (λ_=>a) λ_=>?_;refine MT.bind (iT KU) λt _=>?_;refine MT.cond (λ_=>a) λ_=>?_;refine MT.dec (λi=>absurd i o!) λ_=>?_;refine MT.dec (λj=>?_) λj=>?_;refine MT.dec (λ_=>a) λ_=>?_;refine MT.bind (P:=λ_=>True) (MT.dec (λ_=>MT.some trivial) λ_=>MT.some trivial) λo _=>?_;refine MT.cond (λ_=>a) λ_=>?_;refine MT.bind (P:=λr=>r=false->e.2.2.2.2.2.2.2=[]) ?_ λu l=>?_;refine MT.cond (λm=>MT.some λb=>?_) λ_=>MT.some λb=>?_;rw[m]at b;cases b;simpa using b;refine MT.cond (λ_=>a) λb=>?_;exact⟨λd=>(by cases d),λr _ _=>l b⟩;refine MT.dec (λk=>?_) λk=>absurd f o!;refine MT.dec (λ_=>a) λ_=>?_;refine MT.bind (P:=λ_=>True) (MT.dec (λ_=>MT.some trivial) λ_=>MT.some trivial) λo _=>?_;refine MT.cond (λ_=>a) λ_=>?_;refine MT.cond (λ_=>a) λb=>?_;exact⟨λd=>(by cases d),λr _ _=>by simpa using b⟩
  exact c.2
 exact key true h rfl
def yw{e:EN}:BH e=some (gR e):=by unfold BH gR;grind
def xU{x:AS}:Ap (L4 x) λr=>r=true↔1<=x.1/\x.1<=x.2.1/\x.2.1<=1099511627776/\0<=x.2.2.1/\x.2.2.1<=x.2.2.2.1/\x.2.2.2.1<64/\0<=x.2.2.2.2.1/\x.2.2.2.2.1<=8:=by
 unfold L4;repeat' with_reducible first|apply AC<;>intro a|apply AB
 all_goals grind
def ABE{x:AS}{e:EN}:Ap (Pa (x,e)) λr=>r=true↔gR e=true/\x.2.2.1<=e.2.2.2.2.2.2.1.1/\e.2.2.2.2.2.2.1.1<=x.2.2.2.1/\x.1<=e.1/\e.1<=x.2.1:=by
 unfold Pa;rw[yw,AD];refine AK (λa=>?_) (λa=>AB ⟨λb=>(by cases b),λb=>k!⟩);repeat' with_reducible first|apply AC<;>intro a|apply AB
 all_goals grind
def AGO(a b:Int):J3 [a,b]=some (if a≠0 then a else b):=by unfold J3;rw[show(0:Int)=((0:Nat):Int)from rfl,nE (k:=0) (v:=a) rfl o! q!];by_cases c:a=0;rw[if_pos c,nE (k:=1) (v:=b) rfl o! q!];grind[H5,Jo];grind
def yx(f e:EN): ∃c:Int,OB (f,e)=some c/\(c<0↔yl f e):=by unfold OB;rw[yR,yR,AD,AD,AGO,AD];unfold yl;grind
def ABD{x:AS}(I:x.2.2.2.2.2.length<=4096):Ap (Ai (Sf x) 0) λr=>(r= .inl false/\ ¬ ∀i,wJ x i)\/(r= .inr ()/\ ∀e∈x.2.2.2.2.2,gR e=true/\e.2.2.2.2.2.2.2=[]):=by
 refine Cu (λ(s:Int)=>0<=s/\s<=x.2.2.2.2.2.length/\ ∀e∈x.2.2.2.2.2.take s.toNat,gR e=true/\e.2.2.2.2.2.2.2=[]) (λ(s:Int)=>((x.2.2.2.2.2.length:Int)-s).toNat) ⟨Af _,o!,λe p=>by simp at p⟩ (λs C=>?_);have⟨w,J,y⟩:=C;unfold Sf;simp only[len];refine AC (λu=>?_) (λu=>Ap.done (.inr ⟨rfl,by rw[BR o!]at y;exact y⟩));obtain⟨k,rfl⟩:=D6 w;refine AA (AI w u) λv d=>?_;have d:=d.1;rw[Dd]at d;have a:(wJ x k->False)->Ap (some (Step.done (.inl false)):Option (Step Int (Bool ⊕ Unit))) (LW (λ(s:Int)=>0<=s/\s<=x.2.2.2.2.2.length/\ ∀e∈x.2.2.2.2.2.take s.toNat,gR e=true/\e.2.2.2.2.2.2.2=[]) (λ(s:Int)=>((x.2.2.2.2.2.length:Int)-s).toNat) ((x.2.2.2.2.2.length:Int)-(k:Int)).toNat λr=>(r= .inl false/\ ¬ ∀i,wJ x i)\/(r= .inr ()/\ ∀e∈x.2.2.2.2.2,gR e=true/\e.2.2.2.2.2.2.2=[])):=λh=>Ap.done (.inl ⟨rfl,λD=>h (D k)⟩);refine D4 Jp λG z B=>?_;refine AO (λj=>a λok=>?_) (λj=>?_);have:=B (ok v d).1.1;rw[j]at this;cases this;refine AA ABE λH t=>?_;refine AO (λj=>a λok=>?_) (λm=>?_);have q:=(ok v d).1;have:=t.2 ⟨q.2.1,q.2.2.2.2.1,q.2.2.2.2.2,q.2.2.1,q.2.2.2.1⟩;rw[j]at this;cases this;have q3:=ABC (by rw[z,j]) ((t.1 m).1);have b:Ap (some (Step.next (wi ((k:Int)+1))):Option (Step Int (Bool ⊕ Unit))) (LW (λ(s:Int)=>0<=s/\s<=x.2.2.2.2.2.length/\ ∀e∈x.2.2.2.2.2.take s.toNat,gR e=true/\e.2.2.2.2.2.2.2=[]) (λ(s:Int)=>((x.2.2.2.2.2.length:Int)-s).toNat) ((x.2.2.2.2.2.length:Int)-(k:Int)).toNat λr=>(r= .inl false/\ ¬ ∀i,wJ x i)\/(r= .inr ()/\ ∀e∈x.2.2.2.2.2,gR e=true/\e.2.2.2.2.2.2.2=[])):=by
  rw[AY];refine Ap.next ⟨o!,o!,λe p=>?_⟩ o!
  rw[show((k:Int)+1).toNat=k+1 by omega,Cv,d]at p;grind[Option.toList_some,List.mem_singleton]
 have F: ∀f,0<k->x.2.2.2.2.2[k-1]? =some f->ix x.2.2.2.2.2 (wi ((k:Int)-1))=some f:=λf A g=>by rw[show wi ((k:Int)-1)=((k-1:Nat):Int) by rw[AY];omega];unfold ix;grind[Int.toNat_natCast]
 apply AP<;>intro A;refine AC (λo=>a λok=>?_) (λ_=>b);have:=(ok v d).2.1 o!;omega;have g:x.2.2.2.2.2[k-1]? =some (x.2.2.2.2.2[k-1]):=As o!;generalize x.2.2.2.2.2[k-1]=f at g;rw[F f o! g,AD];apply AC<;>intro E;refine AC (λo=>a λok=>?_) (λ_=>b);have:=((ok v d).2.2 f o! g).2.2 o!;omega;have⟨c,n,l⟩:=yx f v;rw[AD,n,AD];refine AC (λo=>a λok=>?_) (λo=>?_);have:=l.2 ((ok v d).2.2 f o! g).1;omega;refine AL (λhn=>a λok=>hn ?_) (λ_=>b);have:=l.1 o!;unfold yl at this;exact((ok v d).2.2 f o! g).2.1 o!
def xW{x:AS}:Ap (Uc x) λr=>(VR x->r=true)/\(r=true->ag x/\ ∀e∈x.2.2.2.2.2,gR e=true/\e.2.2.2.2.2.2.2=[]):=by refine AA xU λg c=>?_;refine AO (λb=>AB ⟨λa=>?_,λa=>(by cases a)⟩) (λb=>?_);have⟨⟨a1,a2,a3,a4,a5,a6,a7,a8,a9⟩,_⟩:=a;grind;have hn:=c.1 b;refine AC (λf=>AB ⟨λa=>?_,λa=>(by cases a)⟩) (λd=>?_);have:=a.1.2.2.2.2.2.2.2.2;grind;simp[len]at d;refine AA (ABD o!) λr hr=>?_;rcases hr with⟨rfl,hr⟩|⟨rfl,hr⟩;exact BK (AB ⟨λa=>absurd a.2 hr,λa=>(by cases a)⟩);exact A7 (AB ⟨λ_=>rfl,λ_=>⟨⟨hn.1,hn.2.1,hn.2.2.1,hn.2.2.2.1,hn.2.2.2.2.1,hn.2.2.2.2.2.1,hn.2.2.2.2.2.2.1,hn.2.2.2.2.2.2.2,o!⟩,hr⟩⟩)
def xa{p:BT}(h:p.length=33):E5 (p,([80,77,82,78]:List UInt8))=some (p.take 4==[80,77,82,78]):=by grind[E5,Eb,Rk,Option.bind]
abbrev ZR:=Int×(Int×(Int×(Int×(Int×AS))))
def uI{p:BT}(x:p.length=33)(t:p.take 4=[80,77,82,78]): ∃b c d e f a:Int,(Ay (p,(4,8))=some (b,0)∧Ay (p,(12,8))=some (c,0)∧Ay (p,(20,4))=some (d,0)∧Ay (p,(24,4))=some (e,0)∧Ay (p,(28,1))=some (f,0)∧Ay (p,(29,4))=some (a,0))∧
  (Bt (p,(4,8))=some (b,0)/\Bt (p,(12,8))=some (c,0)/\Bt (p,(20,4))=some (d,0)/\Bt (p,(24,4))=some (e,0)/\Bt (p,(28,1))=some (f,0)/\Bt (p,(29,4))=some (a,0))/\
  p=[80,77,82,78]++(C6 b 8++(C6 c 8++(C6 d 4++(C6 e 4++(C6 f 1++C6 a 4)))))/\0<=a:=by
 have D:(p.drop 4).length=29:=by rw[FY];omega
 have⟨b,J,a2,g,n,y,l2⟩:=AAx (k:=8) (at_:=4) (by rw[<-t,D1]:p=[80,77,82,78]++p.drop 4) g! o! g! g! o!;have⟨c,K,a3,h,o,z,E⟩:=AAx (k:=8) (at_:=12) n (by simp only[Aa,A2];decide) o! g! g! o!;have⟨d,L,a4,i,q,A,F⟩:=AAx (k:=4) (at_:=20) o (by simp only[Aa,A2];decide) o! g! g! o!;have⟨e,M,a5,j,r,B,G⟩:=AAx (k:=4) (at_:=24) q (by simp only[Aa,A2];decide) o! g! g! o!;have⟨f,N,a6,l,s,C,H⟩:=AAx (k:=1) (at_:=28) r (by simp only[Aa,A2];decide) o! g! g! o!;have⟨a,v,a7,m,w,u,I⟩:=AAx (k:=4) (at_:=29) s (by simp only[Aa,A2];decide) o! g! g! o!;have:v=[]:=EZ o!;subst this;refine⟨b,c,d,e,f,a,⟨a2,a3,a4,a5,a6,a7⟩,⟨g,h,i,j,l,m⟩,?_,(u.1 g!).1⟩;grind[List.append_assoc]
def w9{x:AS}(h:ag x):(Ay (dE x,(4,8))=some (x.1,0)∧Ay (dE x,(12,8))=some (x.2.1,0)∧Ay (dE x,(20,4))=some (x.2.2.1,0)∧Ay (dE x,(24,4))=some (x.2.2.2.1,0)∧Ay (dE x,(28,1))=some (x.2.2.2.2.1,0)∧Ay (dE x,(29,4))=some ((x.2.2.2.2.2.length:Int),0))∧
  (Bt (dE x,(4,8))=some (x.1,0)/\Bt (dE x,(12,8))=some (x.2.1,0)/\Bt (dE x,(20,4))=some (x.2.2.1,0)/\Bt (dE x,(24,4))=some (x.2.2.2.1,0)/\Bt (dE x,(28,1))=some (x.2.2.2.2.1,0)/\Bt (dE x,(29,4))=some ((x.2.2.2.2.2.length:Int),0)):=by
 have⟨i,j,l,m,n,o⟩:=h.inr;have q:=ZJ x;have a:dE x=[80,77,82,78]++(C6 x.1 8++(C6 x.2.1 8++(C6 x.2.2.1 4++(C6 x.2.2.2.1 4++(C6 x.2.2.2.2.1 1++(C6 (x.2.2.2.2.2.length:Int) 4++[])))))):=by rw[C0];rfl
 generalize dE x=p at*;have b:=ic (k:=8) (at_:=4) a g! o! g! g! i;rw[<-Ax]at a;have c:=ic (k:=8) (at_:=12) a (by simp only[Aa,A2];decide) o! g! g! j;rw[<-Ax]at a;have d:=ic (k:=4) (at_:=20) a (by simp only[Aa,A2];decide) o! g! g! l;rw[<-Ax]at a;have e:=ic (k:=4) (at_:=24) a (by simp only[Aa,A2];decide) o! g! g! m;rw[<-Ax]at a;have f:=ic (k:=1) (at_:=28) a (by simp only[Aa,A2];decide) o! g! g! n;rw[<-Ax]at a;have g:=ic (k:=4) (at_:=29) a (by simp only[Aa,A2];decide) o! g! g! o;exact⟨⟨b.1,c.1,d.1,e.1,f.1,g.1⟩,⟨b.2,c.2,d.2,e.2,f.2,g.2⟩⟩
def AHo{x p:BT}{n:Int}{z:ZR}{j:BT}(D:x.length≤1099511627776)(l:x=HA p++j)(hn:0≤n)(o:n≤4096):Ap (Ai (Gj x n) (((HA p).length:Int),(0,([],z)))) λr=>(∃u,r= .inl u∧u.1≠0)∨
  ∃a b,r= .inr (((HA p++J2 a).length:Int),(a,z))/\(a.length:Int)=n/\x=(HA p++J2 a)++b/\ ∀e∈a,Fo e.2.2.2.2.2.2.1.2.2.1/\Fo e.2.2.2.2.2.2.1.2.2.2:=by
 refine Cu (λ(s:Int×(Int×(List EN×ZR)))=> ∃a b,s=(((HA p++J2 a).length:Int),((a.length:Int),(a,z)))/\(a.length:Int)<=n/\x=(HA p++J2 a)++b/\ ∀e∈a,Fo e.2.2.2.2.2.2.1.2.2.1/\Fo e.2.2.2.2.2.2.1.2.2.2) (λs=>(n-s.2.1).toNat)
  ⟨[],j,by simp[J2],by simpa using hn,by simpa[J2]using l,λe c=>by cases c⟩ ?_
 rintro s ⟨a,b,rfl,E,h,i⟩;unfold Gj;dsimp only;refine AC (λm=>?_) (λm=>Ap.done (.inr ⟨a,b,rfl,o!,h,i⟩));have g:=congrArg List.length h;rw[Aa]at g;rw[(by grind[VO]:CQ (x,((HA p++J2 a).length:Int))=some (UF (HA p++J2 a).length b)),AD];refine AL (λc=>Ap.done (.inl ⟨_,rfl,c⟩)) (λc=>?_);have⟨H,⟨d,t⟩,I⟩:=qW c;refine AA (AGb o!) λv q=>?_;refine AL (λc=>Ap.done (.inl ⟨_,rfl,c⟩)) (λf=>?_);have⟨y,A,B,J,K⟩:=q f;refine AA (Ac w!) λw C=>?_;have k:HA p++J2 (a++[v.1])=(HA p++J2 a)++HA (CA v.1):=by rw[R0,Ax]
 rw[AY];refine Ap.next ⟨a++[v.1],d,?_,by rw[Aa,Bd,BX];omega,?_,λe c=>?_⟩ d!
 have F:((HA p++J2 (a++[v.1])).length:Int)=((HA p++J2 a).length:Int)+8+((UF (HA p++J2 a).length b).1.length:Int):=by grind[List.length_append,HA,J2,Dn]
 have G:((a++[v.1]).length:Int)=(a.length:Int)+1:=by grind[List.length_append,List.length_cons,List.length_nil]
 grind[Prod.ext];rw[k,<-y,Ax,<-t];exact h;rcases An.1 c with c|c;exact i e c;rw[BC.1 c];exact⟨A,B⟩
def AGc{x:BT}(w:x.length<=1099511627776):Ap (Fj x) λr=>r.2=0->x=Ml r.1/\VR r.1:=by unfold Fj;have q:CQ (x,0)=some (UF 0 x):=VO (a:=[]) (t:=x) w!;rw[q,AD];refine AL (λh=>AB λb=>absurd b h) (λh=>?_);have⟨Q,⟨P,z⟩,A⟩:=qW h;generalize UF 0 x=v0 at*;refine AL (λ_=>AB λb=>absurd (show(4:Int)=0 from b) g!) (λg=>?_);simp[len]at g;rw[(by grind[Rk]:Rk v0.1 0 4=some (v0.1.take 4)),AD];refine AL (λ_=>AB λb=>absurd (show(4:Int)=0 from b) g!) (λm=>?_);have⟨K,L,M,N,O,y,⟨a2,a3,a4,a5,a6,a7⟩,⟨C,D,E,F,G,H⟩,J,j⟩:=uI (by omega:v0.1.length=33) (by simpa using m);unfold DD;rw[a2,a3,a4,a5,a6,a7];simp only[AD];refine AC (λ_=>AB λb=>absurd (show(4:Int)=0 from b) g!) (λo=>?_);rw[(by rw[A,Dn];omega:v0.2.1=((HA v0.1).length:Int))];refine AA (AHo (n:=y) w z j (by first|omega|(dsimp only;omega))) λr hr=>?_;rcases hr with⟨u,rfl,s⟩|⟨I,e,rfl,i,k,p⟩;grind[BK,AB];apply A7;dsimp only at i⊢;have l:=congrArg List.length k;rw[Aa]at l;refine AL (λ_=>AB λb=>absurd (show(4:Int)=0 from b) g!) (λd=>?_);have c:e=[]:=EZ (by simp only[len]at d;omega);subst c;refine AA (XJ) λB f=>?_;refine AO (λ_=>AB λb=>absurd (show(40:Int)=0 from b) g!) (λv=>AB λ_=>⟨?_,f.1 v⟩);grind[Ml,dE]
def vw{x:AS}(h:VR x):Fj (Ml x)=some (x,0):=by
 have D:=h.1.2.2.2.2.2.2.2.2;have j:=h.len;have o:=ZJ x;have⟨⟨a2,a3,a4,a5,a6,a7⟩,⟨v,y,z,A,B,C⟩⟩:=w9 h.1;unfold Fj;have p:CQ (Ml x,0)=some (dE x,(((HA (dE x)).length:Int),0)):=by refine(VO (a:=[]) (t:=Ml x) w!).trans (congrArg some ?_);grind[Ml,kY,Dn,Prod.ext,List.length_nil]
 have l:(dE x).take 4=[80,77,82,78]:=rfl;rw[p,AD];dsimp only[len];rw[show((0:Int) !=0)=false by decide,cond_false,o,show(((33:Nat):Int) !=33)=false by decide,cond_false];rw[(by grind[Rk]:Rk (dE x) 0 4=some ((dE x).take 4)),AD,l,bne_self_eq_false,cond_false];unfold DD;rw[a2,a3,a4,a5,a6,a7];simp only[AD];rw[decide_eq_false o!,cond_false];have key:Ap (Ai (Gj (Ml x) (x.2.2.2.2.2.length:Int)) (((HA (dE x)).length:Int),(0,([],(x.1,(x.2.1,(x.2.2.1,(x.2.2.2.1,(x.2.2.2.2.1,(0,(0,(0,(0,(0,[])))))))))))))) λr=>r= .inr (((Ml x).length:Int),(x.2.2.2.2.2,(x.1,(x.2.1,(x.2.2.1,(x.2.2.2.1,(x.2.2.2.2.1,(0,(0,(0,(0,(0,[])))))))))))):=by
  refine Cu (λ(s:Int×(Int×(List EN×ZR)))=> ∃k:Nat,k<=x.2.2.2.2.2.length/\s=(((HA (dE x)++J2 (x.2.2.2.2.2.take k)).length:Int),((k:Int),(x.2.2.2.2.2.take k,(x.1,(x.2.1,(x.2.2.1,(x.2.2.2.1,(x.2.2.2.2.1,(0,(0,(0,(0,(0,[])))))))))))))) (λs=>x.2.2.2.2.2.length-s.2.1.toNat)
   ⟨0,Bk _,by simp[J2]⟩ ?_
  rintro s ⟨k,F,rfl⟩;unfold Gj;dsimp only;refine AC (λn=>?_) (λn=>Ap.done ?_)
  ·have i:k<x.2.2.2.2.2.length:=o!
   have c:=(h.ent (Qv i)).1;have e:J2 x.2.2.2.2.2=J2 (x.2.2.2.2.2.take k)++(HA (CA x.2.2.2.2.2[k])++J2 (x.2.2.2.2.2.drop (k+1))):=by grind[mg,List.drop_eq_getElem_cons,J2,List.flatten_append,List.take_append_drop]
   have d:Ml x=(HA (dE x)++J2 (x.2.2.2.2.2.take k))++(HA (CA x.2.2.2.2.2[k])++J2 (x.2.2.2.2.2.drop (k+1))):=by grind[Ml,List.append_assoc]
   have g:=congrArg List.length d;rw[Aa]at g;have f:CQ (Ml x,((HA (dE x)++J2 (x.2.2.2.2.2.take k)).length:Int))=some (CA x.2.2.2.2.2[k],(((HA (dE x)++J2 (x.2.2.2.2.2.take k)).length:Int)+8+((CA x.2.2.2.2.2[k]).length:Int),0)):=by
    conv=>lhs;arg 1;rw[d]
    rw[VO o!,kY (Ry c)]
   rw[f,AD];dsimp only;rw[show((0:Int) !=0)=false by decide,cond_false,ADA c,AD];dsimp only;rw[show((0:Int) !=0)=false by decide,cond_false];refine AA (Ac (by rw[BQ];simp;omega)) λw u=>?_;rw[AY];refine Ap.next ⟨k+1,o!,?_⟩ d!
   rw[u.1,Cv,As i,dQ,R0,<-Ax,Aa (bs:=HA (CA x.2.2.2.2.2[k])),Dn];grind[Prod.ext]
  rw[BR o!];rfl
 obtain⟨r,hr,rfl⟩:=key;rw[hr,AD,kq];dsimp only;rw[show(((Ml x).length:Int) !=len (Ml x))=false from bne_self_eq_false _,cond_false];obtain⟨b,E,q⟩:=(XJ)
 have m:b=true:=q.2 h;grind[Bool.not_true]
def AHP{x p:BT}{n:(Int×Int)}{z:ZR}{j:BT}(D:x.length≤1099511627776)(l:x=HA p++j)(hn:0≤n.1)(o:n.1≤4096):Ap (Ai (KW x n) (((HA p).length:Int),(0,([],z)))) λr=>(∃u,r= .inl u∧u.1≠0)∨
  ∃a b,r= .inr (((HA p++J2 a).length:Int),(a,z))/\(a.length:Int)=n.1/\x=(HA p++J2 a)++b/\ ∀e∈a,Fo e.2.2.2.2.2.2.1.2.2.1/\Fo e.2.2.2.2.2.2.1.2.2.2:=by
 refine Cu (λ(s:Int×(Int×(List EN×ZR)))=> ∃a b,s=(((HA p++J2 a).length:Int),((a.length:Int),(a,z)))/\(a.length:Int)<=n.1/\x=(HA p++J2 a)++b/\ ∀e∈a,Fo e.2.2.2.2.2.2.1.2.2.1/\Fo e.2.2.2.2.2.2.1.2.2.2) (λs=>(n.1-s.2.1).toNat)
  ⟨[],j,by simp[J2],by simpa using hn,by simpa[J2]using l,λe c=>by cases c⟩ ?_
 rintro s ⟨a,b,rfl,E,h,i⟩;unfold KW;dsimp only;refine AC (λm=>?_) (λm=>Ap.done (.inr ⟨a,b,rfl,o!,h,i⟩));have g:=congrArg List.length h;rw[Aa]at g;rw[(by grind[Qq]:DM (x,((HA p++J2 a).length:Int))=some (UF (HA p++J2 a).length b)),AD];refine AL (λc=>Ap.done (.inl ⟨_,rfl,c⟩)) (λc=>?_);have⟨H,⟨d,t⟩,I⟩:=qW c;refine AA (AGS o!) λv q=>?_;refine AL (λc=>Ap.done (.inl ⟨_,rfl,c⟩)) (λf=>?_);have⟨y,A,B,J,K⟩:=q f;refine AA (Ac w!) λw C=>?_;have k:HA p++J2 (a++[v.1])=(HA p++J2 a)++HA (CA v.1):=by rw[R0,Ax]
 rw[AY];refine Ap.next ⟨a++[v.1],d,?_,by rw[Aa,Bd,BX];omega,?_,λe c=>?_⟩ d!
 have F:((HA p++J2 (a++[v.1])).length:Int)=((HA p++J2 a).length:Int)+8+((UF (HA p++J2 a).length b).1.length:Int):=by grind[List.length_append,HA,J2,Dn]
 have G:((a++[v.1]).length:Int)=(a.length:Int)+1:=by grind[List.length_append,List.length_cons,List.length_nil]
 grind[Prod.ext];rw[k,<-y,Ax,<-t];exact h;rcases An.1 c with c|c;exact i e c;rw[BC.1 c];exact⟨A,B⟩
def AGU{x:BT}(H:x.length<=1099511627776):Ap (KO x) λr=>r.2=0->x=Ml r.1/\WR r.1:=by
 unfold KO;have E:DM (x,0)=some (UF 0 x):=Qq (a:=[]) (t:=x) w!;rw[E,AD];refine AL (λc=>AB λb=>absurd b c) (λc=>?_);have⟨U,⟨T,J⟩,K⟩:=qW c;generalize UF 0 x=v0 at*;refine AL (λ_=>AB λb=>absurd (show(4:Int)=0 from b) g!) (λk=>?_);simp[len]at k;have q:v0.1.length=33:=o!
 rw[xa q,AD];refine AO (λ_=>AB λb=>absurd (show(4:Int)=0 from b) g!) (λD=>?_);have⟨O,P,Q,R,S,I,⟨a2,a3,a4,a5,a6,a7⟩,⟨s,v,w,y,z,A⟩,N,m⟩:=uI q (by simpa using D);rw[show wi (4+8)=12 from rfl,show wi (12+8)=20 from rfl,show wi (20+4)=24 from rfl,show wi (24+4)=28 from rfl,show wi (28+1)=29 from rfl];rw[s,v,w,y,z,A];simp only[AD];refine AO (λ_=>AB λb=>absurd (show(4:Int)=0 from b) g!) (λf=>?_);have f:=of_decide_eq_true f;rw[(by rw[K,Dn];omega:v0.2.1=((HA v0.1).length:Int))];refine AA (AHP (n:=(I,0)) H J m (by first|omega|(dsimp only;omega))) λr hr=>?_;rcases hr with⟨u,rfl,F⟩|⟨M,i,rfl,l,o,g⟩;grind[BK,AB];apply A7;dsimp only at l⊢;have p:=congrArg List.length o;rw[Aa]at p;refine AC (λ_=>AB λb=>absurd (show(4:Int)=0 from b) g!) (λh=>?_);have d:i=[]:=EZ (by simp only[len]at h;omega);subst d;refine AA (xW) λL j=>?_;refine AO (λ_=>AB λb=>absurd (show(40:Int)=0 from b) g!) (λG=>AB λ_=>⟨?_,?_⟩);grind[Ml,dE];have⟨B,C⟩:=j.2 G;exact⟨B,λe c=>⟨(g e c).1,(g e c).2,(C e c).2⟩⟩
def AGT{x:AS}(h:VR x):KO (Ml x)=some (x,0):=by
 have E:=h.1.2.2.2.2.2.2.2.2;have j:=h.len;have l:=ZJ x;have⟨⟨a2,a3,a4,a5,a6,a7⟩,⟨m,n,o,p,q,u⟩⟩:=w9 h.1;unfold KO;have B:DM (Ml x,0)=some (dE x,(((HA (dE x)).length:Int),0)):=by refine(Qq (a:=[]) (t:=Ml x) w!).trans (congrArg some ?_);grind[Ml,kY,Dn,Prod.ext,List.length_nil]
 have v:(dE x).take 4=[80,77,82,78]:=rfl;rw[B,AD];dsimp only[len];rw[show((0:Int) !=0)=false by decide,cond_false,l,show(((33:Nat):Int) !=33)=false by decide,cond_false];rw[xa l,AD,v,beq_self_eq_true,Cg,cond_false];rw[show wi (4+8)=12 from rfl,show wi (12+8)=20 from rfl,show wi (20+4)=24 from rfl,show wi (24+4)=28 from rfl,show wi (28+1)=29 from rfl];rw[m,n,o,p,q,u];simp only[AD];rw[decide_eq_true o!,Cg,cond_false];have key:Ap (Ai (KW (Ml x) ((x.2.2.2.2.2.length:Int),0)) (((HA (dE x)).length:Int),(0,([],(x.1,(x.2.1,(x.2.2.1,(x.2.2.2.1,(x.2.2.2.2.1,(0,(0,(0,(0,(0,[])))))))))))))) λr=>r= .inr (((Ml x).length:Int),(x.2.2.2.2.2,(x.1,(x.2.1,(x.2.2.1,(x.2.2.2.1,(x.2.2.2.2.1,(0,(0,(0,(0,(0,[])))))))))))):=by
  refine Cu (λ(s:Int×(Int×(List EN×ZR)))=> ∃k:Nat,k<=x.2.2.2.2.2.length/\s=(((HA (dE x)++J2 (x.2.2.2.2.2.take k)).length:Int),((k:Int),(x.2.2.2.2.2.take k,(x.1,(x.2.1,(x.2.2.1,(x.2.2.2.1,(x.2.2.2.2.1,(0,(0,(0,(0,(0,[])))))))))))))) (λs=>x.2.2.2.2.2.length-s.2.1.toNat)
   ⟨0,Bk _,by simp[J2]⟩ ?_
  rintro s ⟨k,F,rfl⟩;unfold KW;dsimp only;refine AC (λz=>?_) (λz=>Ap.done ?_)
  ·have i:k<x.2.2.2.2.2.length:=o!
   have c:=(h.ent (Qv i)).1;have A:=Ry c;have d:J2 x.2.2.2.2.2=J2 (x.2.2.2.2.2.take k)++(HA (CA x.2.2.2.2.2[k])++J2 (x.2.2.2.2.2.drop (k+1))):=by grind[mg,List.drop_eq_getElem_cons,J2,List.flatten_append,List.take_append_drop]
   have g:Ml x=(HA (dE x)++J2 (x.2.2.2.2.2.take k))++(HA (CA x.2.2.2.2.2[k])++J2 (x.2.2.2.2.2.drop (k+1))):=by grind[Ml,List.append_assoc]
   have f:=congrArg List.length g;rw[Aa]at f;rw[(by grind[Qq,kY]:DM (Ml x,((HA (dE x)++J2 (x.2.2.2.2.2.take k)).length:Int))=some (CA x.2.2.2.2.2[k],(((HA (dE x)++J2 (x.2.2.2.2.2.take k)).length:Int)+8+((CA x.2.2.2.2.2[k]).length:Int),0))),AD];dsimp only;rw[show((0:Int) !=0)=false by decide,cond_false,AGR c,AD];dsimp only;rw[show((0:Int) !=0)=false by decide,cond_false];refine AA (Ac (by rw[BQ];simp;omega)) λw D=>?_;rw[AY];refine Ap.next ⟨k+1,o!,?_⟩ d!
   rw[D.1,Cv,As i,dQ,R0,<-Ax,Aa (bs:=HA (CA x.2.2.2.2.2[k])),Dn];grind[Prod.ext]
  rw[BR o!];rfl
 obtain⟨r,hr,rfl⟩:=key;rw[hr,AD,kq];dsimp only;rw[decide_eq_false (by first|omega|(simp[len];omega)),cond_false];obtain⟨b,y,C⟩:=(xW)
 have e:b=true:=C.1 h;subst e;rw[y,AD,Cg,cond_false]
def frames(P:List BT):BT:=(P.map HA).flatten
def Sml(P:List BT):Prop:= ∀p∈P,33<=p.length/\p.length<=255
def JH(p:BT)(P:List BT):frames (p::P)=HA p++frames P:=rfl
def Rz{p:BT}(h:p.length<=255):HA p=UInt8.ofNat p.length::0::0::0::(p++C6 (PH (C6 (p.length:Int) 4++p)) 4):=by
 have e:C6 (p.length:Int) 4=[UInt8.ofNat p.length,0,0,0]:=by simp only[C6];rw[show((p.length:Int)%256).toNat=p.length by omega,show((p.length:Int)/256%256).toNat=0 by omega,show((p.length:Int)/256/256%256).toNat=0 by omega,show((p.length:Int)/256/256/256%256).toNat=0 by omega];rfl
 unfold HA;grind
theorem oW{m n:Nat}(a:m<=255)(hn:n<=255)(h:UInt8.ofNat m=UInt8.ofNat n):m=n:=by grind[UInt8.toNat,UInt8.toNat_ofNat']
def xQ{n:Nat}(h:33<=n)(hn:n<=255)(e:UInt8.ofNat n=0):False:=by have:=congrArg UInt8.toNat e;rw[dR]at this;grind
def vc: ∀(P Q:List BT),Sml P->Sml Q-> ∀(u v:BT) (b:UInt8),frames P=u++v->frames Q=u++b::v->False
 |P,[],hP,hQ,u,v,b,h1,d=>by have:=congrArg List.length d;simp[frames]at this
 |[],q::Q,hP,hQ,u,v,b,h1,d=>by have B:=congrArg List.length h1;have y:=congrArg List.length d;rw[JH,Aa,Dn]at y;simp only[frames,HF,List.flatten_nil,BX,Aa,Bd]at B y;have:=hQ q (Au.2 (.inl rfl));omega
 |p::P,q::Q,hP,hQ,u,v,b,h1,d=>by
  obtain⟨I,n⟩:=hP p (Au.2 (.inl rfl));obtain⟨q1,q2⟩:=hQ q (Au.2 (.inl rfl));have f:Sml P:=λx w=>hP x (Au.2 (.inr w));have g:Sml Q:=λx w=>hQ x (Au.2 (.inr w));rw[JH]at h1 d;cases u with
  |nil=>rw[Bw]at h1 d;rw[<-h1,Rz n,Rz q2,Dr,Dr]at d;injection d with _ d;injection d with d _;exact xQ I n d.symm
  |cons a u=>
   have i:=h1;have j:=d;rw[Rz n,Dr,Dr]at i;rw[Rz q2,Dr,Dr]at j;injection i with C _;injection j with D _;have o:p.length=q.length:=oW n q2 (C.trans D.symm);have h:(HA p).length=(HA q).length:=by rw[Dn,Dn,o]
   rcases jM.1 h1 with⟨t,l,m⟩|⟨t,l,m⟩;rw[l,Ax]at d;obtain⟨G,e⟩:=D7 d h.symm;exact vc P Q f g t v b m e
   
   cases z:t.reverse with
   |nil=>
    have s:t=[]:=by simpa using z
    subst s;rw[C0]at l;rw[Bw]at m;rw[<-l,m]at d;obtain⟨G,e⟩:=D7 d h.symm;exact vc P Q f g [] (frames P) b (by rw[Bw]) (by rw[Bw];exact e)
   |cons c r=>
    have k:t=r.reverse++[c]:=by have:=congrArg List.reverse z;rwa [List.reverse_reverse,List.reverse_cons]at this
    have E:HA q++frames Q=((a::u)++b::r.reverse)++(c::frames P):=by rw[d,m,k];simp only[Ax,Dr,Bw]
    have F:(HA q).length=((a::u)++b::r.reverse).length:=by have:=congrArg List.length l;rw[k]at this;simp only[Aa,Bd,BX]at this⊢;omega
    obtain⟨_,e⟩:=D7 E F;cases Q with
    |nil=>exact absurd (congrArg List.length e) (by simp[frames])
    |cons J Q=>
     obtain⟨M,K⟩:=g J (Au.2 (.inl rfl));rw[JH,Rz K,Dr,Dr]at e;injection e with _ e;cases P with
     |nil=>exact absurd (congrArg List.length e) (by simp[frames])
     |cons H P=>obtain⟨L,A⟩:=f H (Au.2 (.inl rfl));rw[JH,Rz A,Dr]at e;injection e with e _;exact xQ L A e.symm
def zt{p q u w:BT}{a b:UInt8}(m:p.length=q.length)(g:HA p=u++a::w)(d:HA q=u++b::w):a=b:=by
 have r:HA p=(C6 (p.length:Int) 4++p)++C6 (PH (C6 (p.length:Int) 4++p)) 4:=by unfold HA;rw[List.append_assoc]
 have v:HA q=(C6 (p.length:Int) 4++q)++C6 (PH (C6 (p.length:Int) 4++q)) 4:=by unfold HA;rw[List.append_assoc,m]
 rw[r]at g;rw[v]at d;have h:(C6 (p.length:Int) 4++p).length=(C6 (p.length:Int) 4++q).length:=by rw[Aa,Aa,m]
 generalize C6 (p.length:Int) 4++p=A at*;generalize C6 (p.length:Int) 4++q=B at*;have l: ∀s,ae 4 (PH s):=λs=>by have:=ZD s;exact⟨λ_=>by rw[show(256:Int)^4=4294967296 by decide];omega,o!⟩
 have C:=A2 4 (PH A);have D:=A2 4 (PH B);rcases jM.1 g with⟨t,f,j⟩|⟨t,f,j⟩
 
 have:B=A:=by rw[f,Ax]at d;exact(D7 d h.symm).1
 subst this;have:=g.symm.trans d;have:=(D7 this rfl).2;injection this;cases t with
 |nil=>
  rw[C0]at f;rw[f]at h;have i:=(D7 d o!)
  have:B=A:=by rw[i.1,f]
  rw[this]at d;rw[d]at g;have:=(D7 g rfl).2;injection this with e _;exact e.symm
 |cons c t=>
  rw[Dr]at j;injection j with n o;subst n o;have z:B++C6 (PH B) 4=(u++b::t)++C6 (PH A) 4:=by rw[d,Ax,Dr]
  obtain⟨x,y⟩:=D7 z (by rw[<-h,f,Aa,Aa,Bd,Bd]);have k:=XF g! (l B) (l A) y;rw[x,f]at k;exact(AEB k).symm
def yr: ∀(P Q:List BT),Sml P→Sml Q→(∀(i:Nat) (p q s t:BT),P[i]? =some p→Q[i]? =some q→p++s=q++t→p.length=q.length)→
  ∀(u v:BT) (a b:UInt8),frames P=u++a::v->frames Q=u++b::v->a=b
 |[],Q,hP,hQ,hf,u,v,a,b,f,e=>by have:=congrArg List.length f;simp[frames]at this
 |P,[],hP,hQ,hf,u,v,a,b,f,e=>by have:=congrArg List.length e;simp[frames]at this
 |p::P,q::Q,hP,hQ,hf,u,v,a,b,f,e=>by
  obtain⟨G,E⟩:=hP p (Au.2 (.inl rfl));obtain⟨q1,q2⟩:=hQ q (Au.2 (.inl rfl));have k:Sml P:=λx C=>hP x (Au.2 (.inr C));have l:Sml Q:=λx C=>hQ x (Au.2 (.inr C));have m: ∀(i:Nat) (p q s t:BT),P[i]? =some p->Q[i]? =some q->p++s=q++t->p.length=q.length:=λi p q s t A B=>hf (i+1) p q s t (by simpa using A) (by simpa using B);rw[JH]at f e;cases u with
  |nil=>rw[Bw]at f e;rw[Rz E,Dr]at f;rw[Rz q2,Dr]at e;injection f with y f;injection e with z e;rw[<-f]at e;simp only[Dr,Ax]at e;injection e with _ e;injection e with _ e;injection e with _ e;have:=hf 0 p q _ _ rfl rfl e.symm;rw[<-y,<-z,this]
  |cons c u=>
   have n:=f;have o:=e;rw[Rz E,Dr,Dr]at n;rw[Rz q2,Dr,Dr]at o;injection n with A _;injection o with B _;have r:p.length=q.length:=oW E q2 (A.trans B.symm);have g:(HA p).length=(HA q).length:=by rw[Dn,Dn,r]
   rcases jM.1 f with⟨t,h,j⟩|⟨t,h,j⟩;rw[h,Ax]at e;obtain⟨D,w⟩:=D7 e g.symm;exact yr P Q k l m t v a b j w;cases t with
   |nil=>rw[C0]at h;rw[Bw]at j;rw[<-h]at e;obtain⟨D,w⟩:=D7 e g.symm;exact yr P Q k l m [] v a b (by rw[Bw];exact j.symm) (by rw[Bw];exact w)
   |cons d t=>
    rw[Dr]at j;injection j with y z;subst y z;have F:HA q++frames Q=((c::u)++b::t)++frames P:=by rw[e];simp only[Ax,Dr]
    obtain⟨D,w⟩:=D7 F (by rw[<-g,h];simp only[Aa,Bd]);exact zt r h D
def tz{c d:Ce}(e:Fo c)(f:Fo d){s t:BT}(h:UG c++s=UG d++t):(UG c).length=(UG d).length:=by
 have g: ∀{c:Ce},Fo c-> ∃(n:Nat) (r:BT),UG c=UInt8.ofNat n::r/\n<=255/\(UG c).length=if n=255 then 1 else n+1:=λ{c} e=>by
  have⟨b,w⟩:=c;have a:=e.1;dsimp only at a;unfold UG;cases b with
  |false=>exact⟨255,[],rfl,Ao _,rfl⟩
  |true=>refine⟨w.length,w,?_,o!,?_⟩;grind[C6];grind[List.length_append,A2]
 grind[oW]
def AAt{e f:EN}(d:Fo e.2.2.2.2.2.2.1.2.2.1/\Fo e.2.2.2.2.2.2.1.2.2.2/\e.2.2.2.2.2.2.2=[])(g:Fo f.2.2.2.2.2.2.1.2.2.1/\Fo f.2.2.2.2.2.2.1.2.2.2/\f.2.2.2.2.2.2.2=[]){s t:BT}(h:CA e++s=CA f++t):(CA e).length=(CA f).length:=by have⟨a1,a2,a3⟩:=d;have⟨a,b,c⟩:=g;unfold CA at*;rw[a3,c]at*;simp at h;have st: ∀{n m:Int} {k:Nat} {x y:BT},C6 n k++x=C6 m k++y->x=y:=λi=>(D7 i (by rw[A2,A2])).2;have h:=st (st (st (st (st (st (st (st h)))))));have l1:=tz a1 a h;simp[Aa,A2,l1,(tz a2 b ((D7 h l1).2))]
def ACz(x:AS):List BT:=dE x::x.2.2.2.2.2.map CA
def pF(x:AS):Ml x=frames (ACz x):=by unfold Ml ACz;rw[JH];unfold J2 frames;rw[Mh];rfl
def WR.sml{x:AS}(h:WR x):Sml (ACz x):=λp a=>by rcases Au.1 a with rfl|a;rw[ZJ];decide;obtain⟨e,f,rfl⟩:=Bv.1 a;have⟨b,c,d⟩:=h.2 e f;have l1:=iN b;have l2:=iN c;unfold CA;rw[d];simp[Aa,A2,BX];omega
inductive qV(s t:BT):Prop where
 |more (u v:BT) (b:UInt8) (h1:s=u++v) (h2:t=u++b::v)
 |less (u v:BT) (b:UInt8) (h1:s=u++b::v) (h2:t=u++v)
 |other (u v:BT) (a b:UInt8) (h:a≠b) (h1:s=u++a::v) (h2:t=u++b::v)
def ACp{x y:AS}(g:WR x)(j:WR y)(h:qV (Ml x) (Ml y)):False:=by
 rw[pF,pF]at h;rcases h with⟨u,v,b,c,d⟩|⟨u,v,b,c,d⟩|⟨u,v,a,b,h,c,d⟩;exact vc _ _ g.sml j.sml u v b c d;exact vc _ _ j.sml g.sml u v b d c;refine h (yr _ _ g.sml j.sml (λi p q s t k l o=>?_) u v a b c d);cases i with
 |zero=>grind[ACz,List.getElem?_cons_zero,Option.some.injEq,ZJ]
 |succ i=>simp only[ACz,na,CM,Sn]at k l;obtain⟨e,m,rfl⟩:=k;obtain⟨f,n,rfl⟩:=l;exact AAt (g.2 e (BN m)) (j.2 f (BN n)) o
def ADU{a b n k:Nat}{d:Array NE}(h:a<=k:=by omega)(c:k<a+n:=by omega):swR a b n d k=d[b+(k-a)]! :=if_pos ⟨h,c⟩
def ADV{a b n k:Nat}{d:Array NE}(e:a+n<=b)(h:b<=k:=by omega)(c:k<b+n:=by omega):swR a b n d k=d[a+(k-b)]! :=by unfold swR;rw[if_neg (by omega),if_pos ⟨h,c⟩]
def ph{a b n k:Nat}{d:Array NE}(h:k<a\/a+n<=k:=by omega)(c:k<b\/b+n<=k:=by omega):swR a b n d k=d[k]! :=by unfold swR;rw[if_neg (by omega),if_neg (by omega)]
def vy(s m e:Nat)(d:Array NE)(k:Nat):NE:=if s<=k/\k<s+(e-m)then d[m+(k-s)]! else if s+(e-m)<=k/\k<e then d[s+(k-(s+(e-m)))]! else d[k]!
def iw{s m e k:Nat}{d:Array NE}(h:s<=k:=by omega)(a:k<s+(e-m):=by omega):vy s m e d k=d[m+(k-s)]! :=if_pos ⟨h,a⟩
def nH{s m e k:Nat}{d:Array NE}(h:s+(e-m)<=k:=by omega)(a:k<e:=by omega):vy s m e d k=d[s+(k-(s+(e-m)))]! :=by unfold vy;rw[if_neg (by omega),if_pos ⟨h,a⟩]
theorem Uh{s m e k:Nat}{d:Array NE}(a:s<=m:=by omega)(b:m<=e:=by omega)(h:k<s\/e<=k:=by omega):vy s m e d k=d[k]! :=by unfold vy;rw[if_neg (by omega),if_neg (by omega)]
def oz{d:Array NE}{x y:Nat}(h:x=y):d[x]! =d[y]! :=by rw[h]
def ADG{m i j k:Nat}{d e:Array NE}(o:i<=m)(p:1<=j)(l:j<i)(n:m+j<=d.size)(a: ∀k,k<d.size->e[k]! =swR (m-i) m j d k)(b:k<d.size):vy (m-(i-j)) m (m+j) e k=vy (m-i) m (m+j) d k:=by rcases Aw k (m-i)with c|c;rw[Uh,Uh,a k b,ph];rcases Aw k (m-i+j)with f|f;rw[Uh,iw,a k b,ADU];rcases Aw k (m-(i-j)+j)with g|g;rw[iw,nH,a _ (by omega),ADV (by omega)];exact oz (by omega);rcases Aw k (m+j)with h|h;rw[nH,nH,a _ (by omega),ph];exact oz (by omega);rw[Uh,Uh,a k b,ph]
def ADH{m i j k:Nat}{d e:Array NE}(p:i<=m)(n:1<=i)(l:i<j)(o:m+j<=d.size)(a: ∀k,k<d.size->e[k]! =swR (m-i) (m+j-i) i d k)(b:k<d.size):vy (m-i) m (m+(j-i)) e k=vy (m-i) m (m+j) d k:=by rcases Aw k (m-i)with c|c;rw[Uh,Uh,a k b,ph];rcases Aw k (m-i+(j-i))with f|f;rw[iw,iw,a _ (by omega),ph];rcases Aw k (m+(j-i))with g|g;rw[nH,iw,a _ (by omega),ADU];exact oz (by omega);rcases Aw k (m+j)with h|h;rw[Uh,nH,a _ (by omega),ADV (by omega)];exact oz (by omega);rw[Uh,Uh,a k b,ph]
def ABP{d:Array NE}{a m b:Nat}(C:a<m)(D:m<b)(E:b≤d.size)(G:d.size≤16777216):
  Ap (Ep d.toList ((a:Int),((m:Int),(b:Int)))) λr=> ∃e:Array NE,r=e.toList/\e.size=d.size/\ ∀k,k<d.size->e[k]! =vy a m b d k:=by
 unfold Ep;have q:wi ((m:Int)-(a:Int))=((m-a:Nat):Int):=by rw[lm];omega
 have t:wi ((b:Int)-(m:Int))=((b-m:Nat):Int):=by rw[lm];omega
 dsimp only;rw[q,t];refine AA (P:=λ(r:Int×List NE)=> ∃(i:Nat) (e:Array NE),r.1=i/\r.2=e.toList/\1<=i/\i<=m-a/\m+i<=b/\e.size=d.size/\ ∀k,k<d.size->vy (m-i) m (m+i) e k=vy a m b d k) ?_ ?_;refine AW (λ(s:Int×(Int×List NE))=> ∃(i j:Nat) (e:Array NE),s.1=i/\s.2.1=j/\s.2.2=e.toList/\1<=i/\1<=j/\i<=m-a/\m+j<=b/\e.size=d.size/\ ∀k,k<d.size->vy (m-i) m (m+j) e k=vy a m b d k) (λs=>(s.1+s.2.1).toNat)
  ⟨m-a,b-m,d,rfl,rfl,rfl,by omega,by omega,Ao _,by omega,rfl,λk _=>by rw[show m-(m-a)=a by omega,show m+(b-m)=b by omega]⟩ ?_
 rintro⟨H,I,J⟩ ⟨i,j,e,q1,q2,q3,q4,q5,q6,q7,q8,q9⟩;dsimp only at q1 q2 q3;subst q1 q2 q3;unfold Ii;dsimp only;have o:wi ((m:Int)-(i:Int))=((m-i:Nat):Int):=by rw[lm];omega
 rw[o];refine AL (λB=>?_) (λA=>AB ⟨i,e,rfl,rfl,q4,q6,by omega,q8,λk g=>?_⟩);apply AC<;>intro F;apply AA (wE (d:=e) (a:=m-i) (b:=m) (n:=j) (by omega) (by omega) (by omega));rintro v ⟨f,rfl,h,l⟩;have c:Nat.beq (List.length f.toList) (List.length e.toList)=true:=by rw[Dq,Dq,h];exact Ir _
 have p:wi ((i:Int)-(j:Int))=((i-j:Nat):Int):=by rw[lm];omega
 rw[c,cond_true,p];refine AB ⟨⟨i-j,j,f,rfl,rfl,rfl,by omega,q5,by omega,q7,by omega,λk g=>?_⟩,?_⟩;rw[ADG (by omega) q5 (by omega) (by omega) l (by omega),q9 k g];show(((i-j:Nat):Int)+(j:Int)).toNat<((i:Int)+(j:Int)).toNat
 omega;have u:wi (wi ((m:Int)+(j:Int))-(i:Int))=((m+j-i:Nat):Int):=by rw[lm (x:=(m:Int)+(j:Int)),lm];omega
 rw[u];apply AA (wE (d:=e) (a:=m-i) (b:=m+j-i) (n:=i) (by omega) (by omega) (by omega));rintro v ⟨f,rfl,h,l⟩;have c:Nat.beq (List.length f.toList) (List.length e.toList)=true:=by rw[Dq,Dq,h];exact Ir _
 have p:wi ((j:Int)-(i:Int))=((j-i:Nat):Int):=by rw[lm];omega
 rw[c,cond_true,p];refine AB ⟨⟨i,j-i,f,rfl,rfl,rfl,q4,by omega,q6,by omega,by omega,λk g=>?_⟩,?_⟩;rw[ADH (by omega) q4 (by omega) (by omega) l (by omega),q9 k g];show((i:Int)+((j-i:Nat):Int)).toNat<((i:Int)+(j:Int)).toNat
 omega;have:j=i:=by omega
 subst this;exact q9 k g;rintro⟨K,L⟩ ⟨i,e,q1,q2,q3,q4,q5,q6,q7⟩;dsimp only at q1 q2;subst q1 q2;dsimp only;have o:wi ((m:Int)-(i:Int))=((m-i:Nat):Int):=by rw[lm];omega
 rw[o];apply AA (wE (d:=e) (a:=m-i) (b:=m) (n:=i) (by omega) (by omega) (by omega));rintro v ⟨f,rfl,h,l⟩;have c:Nat.beq (List.length f.toList) (List.length e.toList)=true:=by rw[Dq,Dq,h];exact Ir _
 rw[c,cond_true];refine AB ⟨f,rfl,by omega,λk g=>?_⟩;rw[<-q7 k g,l k (by omega)];rcases Aw k (m-i)with w|w;rw[ph,Uh];rcases Aw k m with y|y;rw[ADU,iw];rcases Aw k (m+i)with z|z;rw[ADV (by omega),nH];exact oz (by omega);rw[ph,Uh]
theorem xO{i j:Nat}(h:i+j<=1099511627776):wi (Int.fdiv (IntKind.wrap .u64 (wi ((i:Int)+(j:Int)))) (2^(min (Int.toNat 1) 64)))=(((i+j)/2:Nat):Int):=by rw[yn (by omega) (by omega) (by omega)];omega
def bs{body:Int×Int→Option (Step (Int×Int) Int)}{P:Nat→Bool}{b a:Nat}(m: ∀i:Nat,body ((i:Int),(i:Int))=some (.done (i:Int)))
  (s: ∀i j:Nat,b<=i->i<j->j<=a->body ((i:Int),(j:Int))=some (.next (if P ((i+j)/2)=true then((((i+j)/2+1:Nat):Int),(j:Int))else((i:Int),(((i+j)/2:Nat):Int))))) (l:b<=a):
  ∃r:Nat,Ai body ((b:Int),(a:Int))=some (r:Int)/\b<=r/\r<=a/\(b<r->P (r-1)=true)/\(r<a->P r=false):=by
 suffices h: ∀n i j:Nat,j-i<=n->b<=i->i<=j->j<=a->(b<i->P (i-1)=true)->(j<a->P j=false)-> ∃r:Nat,Ai body ((i:Int),(j:Int))=some (r:Int)/\b<=r/\r<=a/\(b<r->P (r-1)=true)/\(r<a->P r=false)from
  h _ b a (Ao _) (Ao _) l (Ao _) (λh=>absurd h o!) (λh=>absurd h o!)
 intro n;induction n with
 |zero=>
  intro i j p c q d e f;have:i=j:=o!
  subst this;rw[H5,m];exact⟨i,rfl,c,d,e,f⟩
 |succ n o=>intro i j p c q d e f;rw[H5];by_cases k:i=j;subst k;rw[m];exact⟨i,rfl,c,d,e,f⟩;rw[s i j c o! d];by_cases g:P ((i+j)/2)=true;rw[if_pos g];exact o _ j o! o! o! d (λ_=>by rw[kj];exact g) f;rw[if_neg g];exact o i _ o! c o! o! e (λ_=>by simpa using g)
def AHr{d:Array NE}{a m b:Nat}(o:a<d.size)(g:m≤b)(p:b≤d.size)(q:d.size≤16777216)(c:Int×Int):
  ∃r:Nat,Ai (DF d.toList ((a:Int),c)) ((m:Int),(b:Int))=some (r:Int)/\m<=r/\r<=b/\(m<r->lN d[r-1]! d[a]! =true)/\(r<b->lN d[r]! d[a]! =false):=by
 refine bs (P:=λk=>lN d[k]! d[a]!) (λi=>?_) (λi j h l n=>?_) g;unfold DF;have:decide ((i:Int)<(i:Int))=false:=by simp
 dsimp only;rw[this,cond_false];unfold DF;have:decide ((i:Int)<(j:Int))=true:=by simp;omega
 dsimp only;rw[this,cond_true,xO (by omega)];obtain⟨v,e,f⟩:=AEx d[(i+j)/2]! d[a]!;rw[yb (k:=(i+j)/2) rfl,yb (k:=a) rfl];simp only[AD,e,f,wip (i:=(i+j)/2)];cases lN d[(i+j)/2]! d[a]! <;>rfl
def AHs{d:Array NE}{a r b:Nat}(h:a<r)(hr:r≤b)(w:b≤d.size)(x:d.size≤16777216):
  Ap (Ai (EC (r:Int)) ((a:Int),d.toList)) λq=> ∃e:Array NE,q=e.toList/\Sort.PermIn a b d e/\(∀t,a<=t->t<r-1->e[t]! =d[t+1]!)/\e[r-1]! =d[a]! /\ ∀t,r<=t->e[t]! =d[t]! :=by
 refine AW (λ(s:Int×List NE)=> ∃(k:Nat) (e:Array NE),s.1=k/\s.2=e.toList/\a<=k/\k<r/\Sort.PermIn a b d e/\(∀t,a<=t->t<k->e[t]! =d[t+1]!)/\e[k]! =d[a]! /\ ∀t,k<t->e[t]! =d[t]!) (λs=>r-s.1.toNat) ⟨a,d,rfl,rfl,Ao _,h,Sort.permIn_refl _ _ _,λt _ _=>by omega,rfl,λt _=>rfl⟩ ?_;rintro⟨z,A⟩ ⟨k,e,q1,q2,q3,q4,q5,q6,q7,q8⟩;dsimp only at q1 q2;subst q1 q2;have y:=q5.1;unfold EC;dsimp only;have l:wi ((r:Int)-1)=((r-1:Nat):Int):=by rw[wim];omega
 rw[l];refine AC (λn=>?_) (λn=>AB ⟨e,rfl,q5,λt g m=>q6 t g (by omega),?_,λt o=>q8 t (by omega)⟩);have p:ix e.toList ((k+1:Nat):Int)=some e[k+1]! :=yb rfl;have u:ix e.toList (k:Int)=some e[k]! :=yb rfl;have v:ix (FT e.toList (k:Int) e[k+1]!) ((k+1:Nat):Int)=some (e.setIfInBounds k e[k+1]!)[k+1]! :=AEU rfl rfl;simp only[wip (i:=k),p,u,v,AD,AE8 (d:=e) (a:=k) (b:=k+1) rfl rfl];have c:=Sort.swp_get e (i:=k) (j:=k+1) (by omega) (by omega);refine AB ⟨⟨k+1,_,rfl,rfl,by omega,by omega,Sort.permIn_trans _ _ _ _ _ q5 (Sort.swp_permIn e a b k (k+1) q3 (by omega) (by omega) (by omega) (by omega)),λt g m=>?_,?_,λt o=>?_⟩,?_⟩;rw[c,if_neg (by omega)];by_cases f:t=k;subst f;rw[if_pos rfl];exact q8 _ (by omega);rw[if_neg f];exact q6 t g (by omega);rw[c,if_pos rfl];exact q7;rw[c,if_neg (by omega),if_neg (by omega)];exact q8 t (by omega);show r-((k+1:Nat):Int).toNat<r-((k:Nat):Int).toNat
 omega;have:k=r-1:=by omega
 rw[<-this];exact q7
def ADO{d:Array NE}{a b:Nat}(o:a+1≤b)(z:b≤d.size)(A:d.size≤16777216)(k:Sort.SortedIn lN (a+1) b d)(c:Int×Int):
  Ap (Option.bind (Ai (DF d.toList ((a:Int),c)) (((a+1:Nat):Int),(b:Int))) λv=>Option.bind (Ai (EC v) ((a:Int),d.toList)) λw=>some w) λq=> ∃e:Array NE,q=e.toList/\Sort.PermIn a b d e/\Sort.SortedIn lN a b e:=by
 obtain⟨r,g,H,I,J,K⟩:=AHr (d:=d) (a:=a) (m:=a+1) (b:=b) o! o z A c;rw[g,AD];apply AA (AHs (d:=d) (a:=a) (r:=r) (b:=b) o! I z A);rintro q ⟨e,rfl,G,n,B,C⟩;refine AB ⟨e,rfl,G,λx y p s u=>?_⟩;have W:=sj;have F: ∀t,a+1<=t->t<r->lN d[a]! d[t]! =false:=λt h l=>by
  have f:=J o!;cases D:lN d[a]! d[t]! with
  |false=>rfl
  |true=>have i:=W.trans _ _ _ f D;rcases Aw t (r-1)with j|j;exact absurd i (by rw[k t (r-1) h j o!];decide);rw[show t=r-1 by omega,W.irrefl]at i;cases i
 have E: ∀t,r<=t->t<b->lN d[t]! d[a]! =false:=λt h l=>by have f:=K o!;rcases Aw r t with j|j;exact W.ntrans _ _ _ (k r t H j l) f;rw[show t=r by omega];exact f
 rcases Aw y (r-1)with h|h;rw[n x p o!,n y o! h];exact k (x+1) (y+1) o! o! o!;rcases Aw (r-1) y with l|l;rw[C y o!];rcases Aw x (r-1)with f|f;rw[n x p f];exact k (x+1) y o! o! u;rcases Aw (r-1) x with i|i;rw[C x o!];exact k x y o! s u;rw[show x=r-1 by omega,B];exact E y o! u;rw[show y=r-1 by omega,B,n x p o!];exact F (x+1) o! o!
def AHt{d:Array NE}{a m:Nat}(l:a≤m)(w:m<d.size)(u:d.size≤16777216)(b:Int):
  ∃r:Nat,Ai (CU d.toList ((a:Int),((m:Int),b))) ((a:Int),(m:Int))=some (r:Int)/\a<=r/\r<=m/\(a<r->lN d[m]! d[r-1]! =false)/\(r<m->lN d[m]! d[r]! =true):=by
 have c: ∀i:Nat,CU d.toList ((a:Int),((m:Int),b)) ((i:Int),(i:Int))=some (.done (i:Int)):=λi=>by
  unfold CU;have:decide ((i:Int)<(i:Int))=false:=by simp
  dsimp only;rw[this,cond_false]
 have e: ∀i j:Nat,a<=i->i<j->j<=m->CU d.toList ((a:Int),((m:Int),b)) ((i:Int),(j:Int))=some (.next (if(!lN d[m]! d[(i+j)/2]!)=true then((((i+j)/2+1:Nat):Int),(j:Int))else((i:Int),(((i+j)/2:Nat):Int)))):=λi j q s t=>by
  unfold CU;have:decide ((i:Int)<(j:Int))=true:=by simp;omega
  dsimp only;rw[this,cond_true,xO (by omega)];obtain⟨v,f,g⟩:=AEx d[m]! d[(i+j)/2]!;rw[yb (k:=(i+j)/2) rfl,yb (k:=m) rfl];simp only[AD,f,g,wip (i:=(i+j)/2)];cases lN d[m]! d[(i+j)/2]! <;>rfl
 obtain⟨r,f,g,n,o,p⟩:=bs (P:=λk=>!lN d[m]! d[k]!) c e l;exact⟨r,f,g,n,λh=>by simpa using o h,λh=>by simpa using p h⟩
def AHu{d:Array NE}{a r m:Nat}(n:a≤r)(hr:r≤m)(y:m<d.size)(x:d.size≤16777216):
  Ap (Ai (ED (r:Int)) ((m:Int),d.toList)) λq=> ∃e:Array NE,q=e.toList/\Sort.PermIn a (m+1) d e/\(∀t,r<t->t<=m->e[t]! =d[t-1]!)/\e[r]! =d[m]! /\ ∀t,t<r->e[t]! =d[t]! :=by
 refine AW (λ(s:Int×List NE)=> ∃(k:Nat) (e:Array NE),s.1=k/\s.2=e.toList/\r<=k/\k<=m/\Sort.PermIn a (m+1) d e/\(∀t,k<t->t<=m->e[t]! =d[t-1]!)/\e[k]! =d[m]! /\ ∀t,t<k->e[t]! =d[t]!) (λs=>s.1.toNat) ⟨m,d,rfl,rfl,hr,Ao _,Sort.permIn_refl _ _ _,λt _ _=>o!,rfl,λt _=>rfl⟩ ?_;rintro⟨A,B⟩ ⟨k,e,q1,q2,q3,q4,q5,q6,q7,q8⟩;dsimp only at q1 q2;subst q1 q2;have z:=q5.1;unfold ED;dsimp only;refine AC (λo=>?_) (λo=>AB ⟨e,rfl,q5,λt l g=>q6 t o! g,?_,λt p=>q8 t o!⟩);have h:wi ((k:Int)-1)=((k-1:Nat):Int):=by rw[wim];omega
 have u:ix e.toList ((k-1:Nat):Int)=some e[k-1]! :=yb rfl;have v:ix e.toList (k:Int)=some e[k]! :=yb rfl;have w:ix (FT e.toList (k:Int) e[k-1]!) ((k-1:Nat):Int)=some (e.setIfInBounds k e[k-1]!)[k-1]! :=AEU rfl rfl;simp only[h,u,v,w,AD,AE8 (d:=e) (a:=k) (b:=k-1) rfl rfl];have c:=Sort.swp_get e (i:=k) (j:=k-1) o! o!;refine AB ⟨⟨k-1,_,rfl,rfl,o!,o!,Sort.permIn_trans _ _ _ _ _ q5 (Sort.swp_permIn e a (m+1) k (k-1) o! o! o! o! o!),λt l g=>?_,?_,λt p=>?_⟩,?_⟩;rw[c,if_neg o!];by_cases f:t=k;subst f;rw[if_pos rfl];exact q8 _ o!;rw[if_neg f];exact q6 t o! g;rw[c,if_pos rfl];exact q7;rw[c,if_neg o!,if_neg o!];exact q8 t o!;show((k-1:Nat):Int).toNat<((k:Nat):Int).toNat
 omega;have:k=r:=o!
 rw[<-this];exact q7
def AE3{d:Array NE}{a m:Nat}(n:a≤m)(u:m<d.size)(s:d.size≤16777216)(k:Sort.SortedIn lN a m d)(b:Int):
  Ap (Option.bind (Ai (CU d.toList ((a:Int),((m:Int),b))) ((a:Int),(m:Int))) λv=>Option.bind (Ai (ED v) ((m:Int),d.toList)) λw=>some w) λq=> ∃e:Array NE,q=e.toList/\Sort.PermIn a (m+1) d e/\Sort.SortedIn lN a (m+1) e:=by
 obtain⟨r,g,B,G,H,I⟩:=AHt (d:=d) (a:=a) (m:=m) n u s b;rw[g,AD];apply AA (AHu (d:=d) (a:=a) (r:=r) (m:=m) B G u s);rintro q ⟨e,rfl,F,z,A,l⟩;refine AB ⟨e,rfl,F,λx y o p J=>?_⟩;have W:=sj;have E: ∀t,a<=t->t<r->lN d[m]! d[t]! =false:=λt h i=>by have c:=H o!;rcases Aw t (r-1)with j|j;exact W.ntrans _ _ _ c (k t (r-1) h j o!);rw[show t=r-1 by omega];exact c
 have D: ∀t,r<=t->t<m->lN d[t]! d[m]! =false:=λt h i=>by
  have c:=I o!;cases C:lN d[t]! d[m]! with
  |false=>rfl
  |true=>have f:=W.trans _ _ _ C c;rcases Aw r t with j|j;exact absurd f (by rw[k r t B j i];decide);rw[show t=r by omega,W.irrefl]at f;cases f
 rcases Aw y r with h|h;rw[l x o!,l y h];exact k x y o p o!;rcases Aw r y with i|i;rw[z y i o!];rcases Aw x r with c|c;rw[l x c];exact k x (y-1) o o! o!;rcases Aw r x with f|f;rw[z x f o!];exact k (x-1) (y-1) o! o! o!;rw[show x=r by omega,A];exact D (y-1) o! o!;rw[show y=r by omega,A,l x o!];exact E x o o!
def AHv{d:Array NE}{a m b lo hi:Nat}(l:lo≤hi)(s:a≤lo)(t:hi≤m)(u:(a+b)/2+m-lo≤b)(y:hi≤(a+b)/2+m)(w:m≤b)(z:b≤d.size)(A:d.size≤16777216):
  ∃r:Nat,Ai (Ck d.toList ((a:Int),((m:Int),(b:Int)))) ((lo:Int),(hi:Int))=some (r:Int)/\lo<=r/\r<=hi/\(lo<r->lN d[(a+b)/2+m-1-(r-1)]! d[r-1]! =false)/\(r<hi->lN d[(a+b)/2+m-1-r]! d[r]! =true):=by
 have c: ∀i:Nat,Ck d.toList ((a:Int),((m:Int),(b:Int))) ((i:Int),(i:Int))=some (.done (i:Int)):=λi=>by
  unfold Ck;have:decide ((i:Int)<(i:Int))=false:=by simp
  dsimp only;rw[this,cond_false]
 have e: ∀i j:Nat,lo<=i->i<j->j<=hi->Ck d.toList ((a:Int),((m:Int),(b:Int))) ((i:Int),(j:Int))=some (.next (if(!lN d[(a+b)/2+m-1-(i+j)/2]! d[(i+j)/2]!)=true then((((i+j)/2+1:Nat):Int),(j:Int))else((i:Int),(((i+j)/2:Nat):Int)))):=λi j s t u=>by
  unfold Ck;have:decide ((i:Int)<(j:Int))=true:=by simp;omega
  dsimp only;rw[this,cond_true,xO (i:=i) (j:=j) (by omega),xO (i:=a) (j:=b) (by omega)];have n:wi (wi (wi ((((a+b)/2:Nat):Int)+(m:Int))-1)-(((i+j)/2:Nat):Int))=(((a+b)/2+m-1-(i+j)/2:Nat):Int):=by rw[lm (x:=(((a+b)/2:Nat):Int)+(m:Int)),lm (x:=(((a+b)/2:Nat):Int)+(m:Int)-1),lm];omega
  obtain⟨v,f,g⟩:=AEx d[(a+b)/2+m-1-(i+j)/2]! d[(i+j)/2]!;rw[n,yb (k:=(i+j)/2) rfl,yb (k:=(a+b)/2+m-1-(i+j)/2) rfl];simp only[AD,f,g,wip (i:=(i+j)/2)];cases lN d[(a+b)/2+m-1-(i+j)/2]! d[(i+j)/2]! <;>rfl
 obtain⟨r,f,g,o,p,q⟩:=bs (P:=λk=>!lN d[(a+b)/2+m-1-k]! d[k]!) c e l;exact⟨r,f,g,o,λh=>by simpa using p h,λh=>by simpa using q h⟩
def AEw{s m e:Nat}{d f:Array NE}(o:s<=m)(p:m<=e)(b:e<=d.size)(c:f.size=d.size)(h: ∀k,k<d.size->f[k]! =vy s m e d k):Sort.PermIn s e d f:=by
 refine⟨c,λi a=>?_,?_⟩;grind[Nat.lt_or_ge,Uh];have key: ∀(g:Nat->NE) (s n:Nat),(List.range' s n).map g=(List.range n).map λi=>g (s+i):=λg s n=>by rw[List.range'_eq_map_range,Mh];rfl
 rw[Sort.extract_toList f s e o!,Sort.extract_toList d s e b];have j:List.range' s (e-s)=List.range' s (e-m)++List.range' (s+(e-m)) (m-s):=k!
 have l:List.range' s (e-s)=List.range' s (m-s)++List.range' (s+(m-s)) (e-m):=k!
 have l1:(List.range' s (e-m)).map (λi=>f[i]!)=(List.range' (s+(m-s)) (e-m)).map λi=>d[i]! :=by rw[key,key];refine Mg λi a=>?_;have:=Hj.1 a;rw[h _ o!,iw];simp_all
 have l2:(List.range' (s+(e-m)) (m-s)).map (λi=>f[i]!)=(List.range' s (m-s)).map λi=>d[i]! :=by rw[key,key];refine Mg λi a=>?_;have:=Hj.1 a;rw[h _ o!,nH];simp_all
 grind
def wM(a b:Nat)(d e:Array NE):Prop:=Sort.PermIn a b d e/\Sort.SortedIn lN a b e
def nI{a m b:Nat}{d:Array NE}(h:m<=a\/b<=m)(c:Sort.SortedIn lN a m d)(e:Sort.SortedIn lN m b d)(f:a<=m)(g:m<=b):Sort.SortedIn lN a b d:=by
 rcases h with h|h;have:m=a:=o!
 rw[<-this];exact e;have:m=b:=o!
 rw[<-this];exact c
def AIU{C:List NE×(Int×(Int×Int))→Option (List NE)}{N a m b:Nat}{d:Array NE}(a4:a<m)(a5:m<b)(hb:b≤d.size)(hd:d.size≤16777216)(s:Sort.SortedIn lN a m d)(A:Sort.SortedIn lN m b d)
  (O: ∀(S:Array NE) (V m' R:Nat),V<m'->m'<R->R<=S.size->S.size<=16777216->Sort.SortedIn lN V m' S->Sort.SortedIn lN m' R S->PT (R-V<=N) (C (S.toList,((V:Int),((m':Int),(R:Int))))) λr=> ∃e:Array NE,r=e.toList/\wM V R S e):
  PT (b-a<=N+1) (CE C d.toList ((a:Int),((m:Int),(b:Int)))) λr=> ∃e:Array NE,r=e.toList/\wM a b d e:=by
 have W:=sj;unfold CE;have e0:wi ((m:Int)-(a:Int))=((m-a:Nat):Int):=by grind[lm]
 have e1:wi ((b:Int)-(m:Int))=((b-m:Nat):Int):=by grind[lm]
 dsimp only;rw[e0,e1,xO (i:=a) (j:=b) (by omega)];apply PT.cond<;>intro Q;have Q:m=a+1:=by have:=eq_of_beq Q;omega
 subst Q;exact iR (ADO (by omega) hb hd A _);apply PT.cond<;>intro n;have n:b=m+1:=by have:=eq_of_beq n;omega
 subst n;exact iR (AE3 (by omega) hb hd s _);have n1:m-a≠1:=λh=>by rw[h]at Q;exact absurd Q (by decide)
 have n2:b-m≠1:=λh=>by rw[h]at n;exact absurd n (by decide)
 have Y:a<(a+b)/2/\(a+b)/2<b:=by omega
 generalize hM:(a+b)/2=M at Y⊢;have e2:wi ((M:Int)+(m:Int))=((M+m:Nat):Int):=by rw[lm];omega
 rw[e2];refine PT.bind (P:=λv=> ∃L J:Nat,v=((L:Int),(J:Int))/\L<=J/\a<=L/\J<=m/\J<=M/\M+m-L<=b/\(L=a\/M+m-L=b)/\(J=m\/J=M)) ?_ ?_;refine PT.dec (λhc=>PT.some ⟨M+m-b,M,?_,by omega⟩) (λhc=>PT.some ⟨a,m,rfl,by omega⟩);rw[lm];exact congrArg (λz=>(z,(M:Int))) (by omega);rintro v ⟨L,J,rfl,f1,f2,f3,f4,f5,f6,f7⟩;have⟨r,g,r1,r2,r3,r4⟩:=AHv (d:=d) (a:=a) (m:=m) (b:=b) (lo:=L) (hi:=J) f1 f2 f3 (by omega) (by omega) (by omega) hb hd;rw[hM]at r3 r4;rw[g,AD];have e3:wi (((M+m:Nat):Int)-(r:Int))=((M+m-r:Nat):Int):=by rw[lm];omega
 simp only[e3];obtain⟨E,hE⟩: ∃E,E=M+m-r:=⟨_,rfl⟩
 rw[<-hE];have c1:a<r->E<b->lN d[E]! d[r-1]! =false:=λQ n=>by have:=r3 (by omega);rw[show M+m-1-(r-1)=E by omega]at this;exact this
 have c2:r<m->m<E->lN d[E-1]! d[r]! =true:=λQ n=>by have:=r4 (by omega);rw[show M+m-1-r=E-1 by omega]at this;exact this
 have s3: ∀c l:Array NE,Sort.PermIn a b d c->(∀k,k<d.size->c[k]! =vy r m E d k)->wM a M c l->PT (b-a<=N+1) (bif decide ((M:Int)<(E:Int))then Option.bind (bif decide ((E:Int)<(b:Int))then Option.bind (C (l.toList,((M:Int),((E:Int),(b:Int))))) λv=>bif Nat.beq (List.length v) (List.length l.toList)then some v else none else some l.toList) λv=>some v else some l.toList) λq=> ∃e:Array NE,q=e.toList/\wM a b d e:=by
  intro c l U f n;have z1:c.size=d.size:=U.1;have z2:l.size=c.size:=n.1.1;have ar: ∀k,k<r->c[k]! =d[k]! :=λk hk=>by rw[f k (by omega),Uh]
  have ax: ∀k,r<=k->k<M->c[k]! =d[m+(k-r)]! :=λk h h'=>by rw[f k (by omega),iw]
  have H: ∀k,M<=k->k<E->c[k]! =d[r+(k-M)]! :=λk h h'=>by rw[f k (by omega),nH];exact oz (by omega)
  have I: ∀k,E<=k->k<b->c[k]! =d[k]! :=λk h h'=>by rw[f k (by omega),Uh]
  have a0: ∀x y,a<=x->x<M->M<=y->y<b->lN c[y]! c[x]! =false:=by
   intro x y F a3 G K;rcases Aw x r with q1|q1;rw[ar x q1];rcases Aw y E with q2|q2;rw[H y G q2];exact s x _ F (by omega) (by omega);rw[I y q2 K];have k1:lN d[y]! d[E]! =false:=by rcases Aw E y with q3|q3;exact A E y (by omega) q3 K;rw[show y=E by omega];exact W.irrefl _
   have k2:lN d[r-1]! d[x]! =false:=by rcases Aw x (r-1)with q3|q3;exact s x (r-1) F q3 (by omega);rw[show r-1=x by omega];exact W.irrefl _
   exact W.ntrans _ _ _ (W.ntrans _ _ _ k1 (c1 (by omega) (by omega))) k2;rw[ax x q1 a3];rcases Aw y E with q2|q2;rw[H y G q2];have hc:=c2 (by omega) (by omega);have k1:lN d[E-1]! d[m+(x-r)]! =false:=by rcases Aw (m+(x-r)) (E-1)with q3|q3;exact A _ (E-1) (by omega) q3 (by omega);rw[show m+(x-r)=E-1 by omega];exact W.irrefl _
   refine W.ntrans _ d[E-1]! _ ?_ k1;cases hk:lN d[r+(y-M)]! d[E-1]! with
   |false=>rfl
   |true=>have k2:=W.trans _ _ _ hk hc;rcases Aw r (r+(y-M))with q3|q3;exact absurd k2 (by rw[s r _ (by omega) q3 (by omega)];decide);rw[show r+(y-M)=r by omega,W.irrefl]at k2;cases k2
   rw[I y q2 K];exact A _ y (by omega) (by omega) K
  have X: ∀d3:Array NE,wM M b l d3->wM a b d d3:=λd3 T=>by refine⟨Sort.permIn_trans _ _ _ _ _ U (Sort.permIn_trans _ _ _ _ _ (Sort.permIn_mono _ _ a M a b (by omega) (by omega) (by omega) n.1) (Sort.permIn_mono _ _ M b a b (by omega) (by omega) (by omega) T.1)),λx y F B G=>?_⟩;rcases Aw y M with q1|q1;rw[T.1.2.1 x (by omega),T.1.2.1 y (by omega)];exact n.2 x y F B q1;rcases Aw x M with q2|q2;rw[T.1.2.1 x (by omega)];refine Sort.permIn_all l d3 M b (λz=>lN z l[x]! =false) (by omega) T.1 (λw hw a2=>?_) y q1 G;rw[n.1.2.1 w (by omega)];exact Sort.permIn_all c l a M (λz=>lN c[w]! z=false) (by omega) n.1 (λu hu a1=>a0 u w hu a1 hw a2) x F q2;exact T.2 x y q2 B G
  have ao:Sort.SortedIn lN M E l:=λx y F B G=>by rw[n.1.2.1 x (by omega),n.1.2.1 y (by omega),H x F (by omega),H y (by omega) G];exact s _ _ (by omega) (by omega) (by omega)
  have ap:Sort.SortedIn lN E b l:=λx y F B G=>by rw[n.1.2.1 x (by omega),n.1.2.1 y (by omega),I x F (by omega),I y (by omega) G];exact A _ _ (by omega) (by omega) (by omega)
  have o:E<=M\/b<=E->wM a b d l:=λh=>X l ⟨Sort.permIn_refl _ _ _,nI h ao ap (by omega) (by omega)⟩;refine PT.dec (λq1=>PT.bind (P:=λq=> ∃e:Array NE,q=e.toList/\wM a b d e) (PT.dec (λq2=>?_) (λq2=>PT.some ⟨l,rfl,o (by omega)⟩)) λr h=>PT.some h) (λq1=>PT.some ⟨l,rfl,o (by omega)⟩);have hr:=O l M E b (by omega) (by omega) (by omega) (by omega) ao ap;refine PT.bind (P:=λq=> ∃e:Array NE,q=e.toList/\wM M b l e) ⟨λt=>hr.1 (by omega),hr.2⟩ ?_;rintro q ⟨e,rfl,D⟩;exact Z0 (by rw[Dq,Dq,D.1.1]) (PT.some ⟨e,rfl,X e D⟩)
 have s2: ∀c:Array NE,Sort.PermIn a b d c->(∀k,k<d.size->c[k]! =vy r m E d k)->PT (b-a<=N+1) (bif decide ((a:Int)<(r:Int))then Option.bind (bif decide ((r:Int)<(M:Int))then Option.bind (C (c.toList,((a:Int),((r:Int),(M:Int))))) λv=>bif Nat.beq (List.length v) (List.length c.toList)then some v else none else some c.toList) λv=>(bif decide ((M:Int)<(E:Int))then Option.bind (bif decide ((E:Int)<(b:Int))then Option.bind (C (v,((M:Int),((E:Int),(b:Int))))) λw=>bif Nat.beq (List.length w) (List.length v)then some w else none else some v) λw=>some w else some v)else(bif decide ((M:Int)<(E:Int))then Option.bind (bif decide ((E:Int)<(b:Int))then Option.bind (C (c.toList,((M:Int),((E:Int),(b:Int))))) λw=>bif Nat.beq (List.length w) (List.length c.toList)then some w else none else some c.toList) λw=>some w else some c.toList)) λq=> ∃e:Array NE,q=e.toList/\wM a b d e:=by
  intro c U f;have z1:c.size=d.size:=U.1;have ad:Sort.SortedIn lN a r c:=λx y F B G=>by rw[f x (by omega),f y (by omega),Uh,Uh];exact s _ _ (by omega) (by omega) (by omega)
  have al:Sort.SortedIn lN r M c:=λx y F B G=>by rw[f x (by omega),f y (by omega),iw,iw];exact A _ _ (by omega) (by omega) (by omega)
  have o:r<=a\/M<=r->wM a M c c:=λh=>⟨Sort.permIn_refl _ _ _,nI h ad al (by omega) (by omega)⟩
  refine PT.dec (λq1=>PT.bind (P:=λq=> ∃e:Array NE,q=e.toList/\wM a M c e) ?_ ?_) (λq1=>s3 c c U f (o (by omega)));refine PT.dec (λq2=>?_) (λq2=>PT.some ⟨c,rfl,o (by omega)⟩);have hr:=O c a r M (by omega) (by omega) (by omega) (by omega) ad al;refine PT.bind (P:=λq=> ∃e:Array NE,q=e.toList/\wM a M c e) ⟨λt=>hr.1 (by omega),hr.2⟩ ?_;rintro q ⟨e,rfl,D⟩;exact Z0 (by rw[Dq,Dq,D.1.1]) (PT.some ⟨e,rfl,D⟩);rintro q ⟨e,rfl,D⟩;exact s3 c e U f D
 have Z:r=m\/E=m-> ∀k,k<d.size->d[k]! =vy r m E d k:=λh k hk=>by rcases Aw k r with q1|q1;rw[Uh];rcases Aw k (r+(E-m))with q2|q2;rw[iw q1 q2];exact oz (by omega);rcases Aw k E with q3|q3;rw[nH q2 q3];exact oz (by omega);rw[Uh]
 refine PT.dec (λq1=>PT.bind (P:=λq=> ∃e:Array NE,q=e.toList/\Sort.PermIn a b d e/\ ∀k,k<d.size->e[k]! =vy r m E d k) ?_ ?_) (λq1=>s2 d (Sort.permIn_refl _ _ _) (Z (by omega)));refine PT.dec (λq2=>PT.bind (iR (ABP (d:=d) (a:=r) (m:=m) (b:=E) (by omega) (by omega) (by omega) hd)) ?_) (λq2=>PT.some ⟨d,rfl,Sort.permIn_refl _ _ _,Z (by omega)⟩);rintro q ⟨e,rfl,z,D⟩;exact Z0 (by rw[Dq,Dq,z]) (PT.some ⟨e,rfl,Sort.permIn_mono _ _ r E a b (by omega) (by omega) hb (AEw (by omega) (by omega) (by omega) z D),D⟩);rintro q ⟨e,rfl,p,D⟩;exact s2 e p D
def AGf(n:Nat)(p:List NE×(Int×(Int×Int))):mZ (λg (p:List NE×(Int×(Int×Int)))=>CE g p.1 p.2) (n+1) p=CE (mZ (λg (p:List NE×(Int×(Int×Int)))=>CE g p.1 p.2) n) p.1 p.2:=rfl
def zP: ∀(N:Nat) (d:Array NE) (a m b:Nat),a<m→m<b→b≤d.size→d.size≤16777216→Sort.SortedIn lN a m d→Sort.SortedIn lN m b d→
  PT (b-a<=N) (mZ (λg (p:List NE×(Int×(Int×Int)))=>CE g p.1 p.2) N (d.toList,((a:Int),((m:Int),(b:Int))))) λr=> ∃e:Array NE,r=e.toList/\wM a b d e
 |0,d,a,m,b,h1,h2,h3,h4,h5,h6=>⟨λt=>absurd t o!,λr e=>by cases e⟩
 |N+1,d,a,m,b,h1,h2,h3,h4,h5,h6=>by rw[AGf];exact AIU h1 h2 h3 h4 h5 h6 (zP N)
def AFX{d:Array NE}{a m b:Nat}(c:a<m)(f:m<b)(g:b≤d.size)(h:d.size≤16777216)(i:Sort.SortedIn lN a m d)(j:Sort.SortedIn lN m b d):
  Ap (EV d.toList ((a:Int),((m:Int),(b:Int)))) λr=> ∃e:Array NE,r=e.toList/\wM a b d e:=by
 have⟨r,hr⟩:=(zP (b-a) d a m b c f g h i j).1 (Ao _);have⟨s,k⟩:=lM hr;have⟨N,l⟩:=jf k;exact⟨s,k,(zP N d a m b c f g h i j).2 s l⟩
def Mul(s a:Nat):Prop:= ∃k,a=k*s
def Mul.zero{s:Nat}:Mul s 0:=⟨0,q!⟩
def Mul.add{s a:Nat}(h:Mul s a):Mul s (a+s):=by obtain⟨k,rfl⟩:=h;exact⟨k+1,k!⟩
def Mul.half{s a:Nat}(h:Mul (2*s) a):Mul s a:=by obtain⟨k,rfl⟩:=h;exact⟨k*2,k!⟩
def Mul.lt{s a b:Nat}(c:Mul s a)(d:Mul s b)(h:a<b):a+s<=b:=by obtain⟨k,rfl⟩:=c;obtain⟨j,rfl⟩:=d;have:k<j:=Nat.lt_of_mul_lt_mul_right h;have:=OZ s (Nat.succ_le_of_lt this);grind
theorem ZP{a b c:Nat}{d:Array NE}(h:Sort.SortedIn lN a b d)(i:c<=b):Sort.SortedIn lN a c d:=λx y e f g=>h x y e f o!
def WC{a b x y:Nat}{d e:Array NE}(h:Sort.SortedIn lN a b d)(c:Sort.PermIn x y d e)(l:b<=x\/y<=a):Sort.SortedIn lN a b e:=λi j f g k=>by rw[c.2.1 i o!,c.2.1 j o!];exact h i j f g k
def Blk(s n:Nat)(d:Array NE):Prop:= ∀a b,Mul s a->b<=a+s->b<=n->Sort.SortedIn lN a b d
def ABT{d0:Array NE}{n:Nat}(hn:n=d0.size)(hd:n<=1048576):Ap (Er d0.toList (n:Int)) λr=> ∃e:Array NE,r=e.toList/\wM 0 n d0 e:=by
 unfold Er;refine AA (P:=λ(r:Int×List NE)=> ∃(a:Nat) (d:Array NE),r.1=a/\r.2=d.toList/\a<=n/\n<a+20/\Mul 20 a/\Sort.PermIn 0 n d0 d/\ ∀c,Mul 20 c->c<a->Sort.SortedIn lN c (c+20) d) ?_ ?_;refine AW (λ(s:Int×(Int×List NE))=> ∃(a:Nat) (d:Array NE),s.1=a/\s.2.1=((a+20:Nat):Int)/\s.2.2=d.toList/\a<=n/\Mul 20 a/\Sort.PermIn 0 n d0 d/\ ∀c,Mul 20 c->c<a->Sort.SortedIn lN c (c+20) d) (λs=>n-s.1.toNat) ⟨0,d0,rfl,rfl,rfl,Bk _,Mul.zero,Sort.permIn_refl _ _ _,λc _ h=>absurd h o!⟩ ?_;rintro⟨Y,Z,s3⟩ ⟨a,d,q1,q2,q3,q4,q5,q6,q7⟩;dsimp only at q1 q2 q3;subst q1 q2 q3;have hz:d.size=n:=by rw[q6.1,hn]
 unfold Ij;dsimp only;refine AC (λO=>?_) (λO=>AB ⟨a,d,rfl,rfl,q4,o!,q5,q6,q7⟩);have A:=Sort.insertionSort_holds sj d a (a+20) o! o!;rw[z7 (d:=d) (k:=a) (m:=a+20) rfl rfl o! o! o!,AD];have j:Nat.beq (List.length (Sort.insertionSort lN d a (a+20)).toList) (List.length d.toList)=true:=by rw[Dq,Dq,A.1.1];exact Ir _
 have e1:wi (((a+20:Nat):Int)+20)=((a+20+20:Nat):Int):=by grind[lm]
 rw[j,cond_true,e1];refine AB ⟨⟨a+20,_,rfl,rfl,rfl,o!,q5.add,Sort.permIn_trans _ _ _ _ _ q6 (Sort.permIn_mono _ _ a (a+20) 0 n o! o! o! A.1),λc g w=>?_⟩,?_⟩;rcases Aw c a with l|l;exact WC (q7 c g l) A.1 (.inl (g.lt q5 l));have:c=a:=by rcases Aw a c with i|i;have:=q5.lt g i;omega;omega
 rw[this];exact A.2;show n-((a+20:Nat):Int).toNat<n-((a:Nat):Int).toNat
 omega;rintro⟨r1,r2⟩ ⟨a,d,q1,q2,q3,q4,q5,q6,q7⟩;dsimp only at q1 q2;subst q1 q2;have hz:d.size=n:=by rw[q6.1,hn]
 dsimp only;have A:=Sort.insertionSort_holds sj d a n q3 o!;rw[z7 (d:=d) (k:=a) (m:=n) rfl rfl o! o! o!,AD];have j:Nat.beq (List.length (Sort.insertionSort lN d a n).toList) (List.length d.toList)=true:=by rw[Dq,Dq,A.1.1];exact Ir _
 rw[j,cond_true];have C:Sort.PermIn 0 n d0 (Sort.insertionSort lN d a n):=Sort.permIn_trans _ _ _ _ _ q6 (Sort.permIn_mono _ _ a n 0 n o! o! o! A.1);have u:Blk 20 n (Sort.insertionSort lN d a n):=λc o g w l=>by rcases Aw c a with i|i;exact ZP (WC (q7 c g i) A.1 (.inl (g.lt q5 i))) w;rcases Aw a c with E|E;have:=q5.lt g E;exact λx y H I J=>absurd J o!;grind[ZP]
 revert C u;generalize Sort.insertionSort lN d a n=d1;intro C u;refine AA (P:=λr=> ∃e:Array NE,r=e.toList/\wM 0 n d0 e) (AW (λ(s:Int×List NE)=> ∃(t:Nat) (e:Array NE),s.1=t/\s.2=e.toList/\1<=t/\t<=2097172/\Sort.PermIn 0 n d0 e/\Blk t n e) (λs=>n-s.1.toNat) ⟨20,d1,rfl,rfl,o!,o!,C,u⟩ ?_) λr h=>AB h;rintro⟨Y,Z⟩ ⟨t,e,H,I,J,g4,V,W⟩;dsimp only at H I;subst H I;unfold Ik;dsimp only;refine AC (λO=>?_) (λO=>AB ⟨e,rfl,V,W 0 n Mul.zero o! (Ao _)⟩);have U:wi (2*(t:Int))=((2*t:Nat):Int):=by rw[lm];omega
 have e3:wi ((t:Int)*2)=((2*t:Nat):Int):=by rw[lm];omega
 rw[U,e3];refine AA (P:=λ(r:Int×List NE)=> ∃(a:Nat) (f:Array NE),r.1=a/\r.2=f.toList/\a<=n/\n<a+2*t/\Mul (2*t) a/\Sort.PermIn 0 n d0 f/\(∀c,Mul (2*t) c->c<a->Sort.SortedIn lN c (c+2*t) f)/\ ∀c o,Mul t c->a<=c->o<=c+t->o<=n->Sort.SortedIn lN c o f) ?_ ?_;refine AW (λ(s:Int×(Int×List NE))=> ∃(a:Nat) (f:Array NE),s.1=a/\s.2.1=((a+2*t:Nat):Int)/\s.2.2=f.toList/\a<=n/\Mul (2*t) a/\Sort.PermIn 0 n d0 f/\(∀c,Mul (2*t) c->c<a->Sort.SortedIn lN c (c+2*t) f)/\ ∀c o,Mul t c->a<=c->o<=c+t->o<=n->Sort.SortedIn lN c o f) (λs=>n-s.1.toNat)
  ⟨0,e,rfl,q!,rfl,Bk _,Mul.zero,V,λc _ h=>absurd h o!,λc o g _ w l=>W c o g w l⟩ ?_
 rintro⟨Y,Z,s3⟩ ⟨a,f,k1,G,T,X,p,D,K,B⟩;dsimp only at k1 G T;subst k1 G T;have S:f.size=n:=by rw[D.1,hn]
 unfold Il;dsimp only;refine AC (λQ=>?_) (λQ=>AB ⟨a,f,rfl,rfl,X,o!,p,D,K,B⟩);have N:wi ((a:Int)+(t:Int))=((a+t:Nat):Int):=by rw[lm];omega
 have e5:wi (((a+2*t:Nat):Int)+((2*t:Nat):Int))=((a+2*t+2*t:Nat):Int):=by rw[lm];omega
 rw[N,U,e5];apply AA (AFX (d:=f) (a:=a) (m:=a+t) (b:=a+2*t) o! o! o! o! (B a (a+t) p.half (Ao _) (Ao _) o!) (B (a+t) (a+2*t) p.half.add o! o! o!));rintro r ⟨q,rfl,v,F⟩;have j:Nat.beq (List.length q.toList) (List.length f.toList)=true:=by rw[Dq,Dq,v.1];exact Ir _
 rw[j,cond_true];refine AB ⟨⟨a+2*t,q,rfl,rfl,rfl,o!,p.add,Sort.permIn_trans _ _ _ _ _ D (Sort.permIn_mono _ _ a (a+2*t) 0 n o! o! o! v),λc g w=>?_,λc o g w l i=>WC (B c o g o! l i) v (.inr w)⟩,?_⟩;rcases Aw c a with l|l;exact WC (K c g l) v (.inl (g.lt p l));have:c=a:=by rcases Aw a c with i|i;have:=p.lt g i;omega;omega
 rw[this];exact F;show n-((a+2*t:Nat):Int).toNat<n-((a:Nat):Int).toNat
 omega;rintro⟨v1,v2⟩ ⟨a,f,k1,G,T,X,p,D,K,B⟩;dsimp only at k1 G;subst k1 G;have S:f.size=n:=by rw[D.1,hn]
 dsimp only;have N:wi ((a:Int)+(t:Int))=((a+t:Nat):Int):=by rw[lm];omega
 rw[N];have z: ∀q:Array NE,Sort.PermIn a n f q->Sort.SortedIn lN a n q->(∃(L:Nat) (M:Array NE),((2*t:Nat):Int)=L/\q.toList=M.toList/\1<=L/\L<=2097172/\Sort.PermIn 0 n d0 M/\Blk L n M)/\n-((2*t:Nat):Int).toNat<n-((t:Nat):Int).toNat:=λq v F=>by refine⟨⟨2*t,q,rfl,rfl,o!,o!,Sort.permIn_trans _ _ _ _ _ D (Sort.permIn_mono _ _ a n 0 n o! o! o! v),λc o g w l=>?_⟩,o!⟩;rcases Aw c a with i|i;exact ZP (WC (K c g i) v (.inl (g.lt p i))) w;rcases Aw a c with E|E;have:=p.lt g E;exact λx y H I J=>absurd J o!;rw[show c=a by omega];exact ZP F l
 refine AC (λR=>AA (AFX (d:=f) (a:=a) (m:=a+t) (b:=n) o! o! o! o! (B a (a+t) p.half (Ao _) (Ao _) o!) (B (a+t) n p.half.add o! o! (Ao _))) ?_) (λR=>AB (z f (Sort.permIn_refl _ _ _) (B a n p.half (Ao _) o! (Ao _))));rintro r ⟨q,rfl,v,F⟩;have j:Nat.beq (List.length q.toList) (List.length f.toList)=true:=by rw[Dq,Dq,v.1];exact Ir _
 rw[j,cond_true];exact AB (z q v F)
def AE6{l:List NE}(h:l.length<=1048576):Ap (Cw l ()) λr=>r.Perm l/\r.Pairwise λx y=>lN y x=false:=by
 unfold Cw;apply AA (ABT (d0:=l.toArray) (n:=l.length) q! h);rintro r ⟨R,rfl,d,f⟩;have e:R.size=l.length:=by rw[d.1];simp
 have g:Nat.beq (List.length R.toList) (List.length l)=true:=by simp[e]
 rw[g,cond_true];refine AB ⟨?_,?_⟩;have:=d.2.2;rw[show R.extract 0 l.length=R by rw[<-e];exact ly,show l.toArray.extract 0 l.length=l.toArray by rw[show l.length=l.toArray.size by simp];exact ly]at this;exact this;rw[HH];intro i j k m b;have a:i<R.size:=by simpa using k
 have c:j<R.size:=by simpa using m
 have:=f i j (Bk _) b o!;rw[getElem!_pos R j c,getElem!_pos R i a]at this;simpa using this
def ADi(l:List NE):Prop:= ∀x∈l,∀y∈l,x≠y->x.1.2.2.1=y.1.2.2.1->x.1.2.1<y.1.1\/y.1.2.1<x.1.1
def AEz{N a:List NE}(W:N.length=a.length)(G:a.length≤256)(I: ∀e∈a,1≤e.1.1∧e.1.1≤e.1.2.1∧e.1.2.1≤1099511627776∧0≤e.1.2.2.1)(P:a.Pairwise λx y=>lN y x=false)(hn:a.Nodup)(O:ADi a):
  Ap (Ai (Sx N a) (0,((-1),(0,([],[]))))) λr=>r=(a.map (·.1),a.map (·.2)):=by
 refine AW (λ(s:Int×(Int×(Int×(List AS×List Int))))=> ∃k:Nat,s.1=k/\k<=a.length/\s.2.2.2=((a.take k).map (·.1),(a.take k).map (·.2))/\((k=0/\s.2.1= -1)\/ ∃e,0<k/\a[k-1]? =some e/\s.2.1=e.1.2.2.1/\s.2.2.1=e.1.2.1)) (λs=>a.length-s.1.toNat) ⟨0,rfl,Bk _,rfl,.inl ⟨rfl,rfl⟩⟩ ?_;rintro⟨Y,R,Z,s4⟩ ⟨k,q1,q2,q3,q4⟩;dsimp only at q1 q3 q4;subst q1 q3;unfold Sx;dsimp only;refine AC (λw=>?_) (λw=>AB ?_)
 ·simp only[len]at w;refine AA (AI) λv8 _=>?_;refine AA (AI) λv h=>?_;have z:a[k]? =some v:=by simpa using h.1
  obtain⟨S,T,U,V⟩:=I v h.2;have C:a.take (k+1)=a.take k++[v]:=by rw[Cv,z];rfl
  have X:(a.take k).length<=256:=by rw[BQ];omega
  have j: ∀D:Int,D=v.1.2.2.1→Ap (Option.bind (app ((a.take k).map (·.1)) [v.1]) λf=>Option.bind (app ((a.take k).map (·.2)) [v.2]) λg=>some (Step.next (wi ((k:Int)+1),(D,(v.1.2.1,(f,g)))))) λ(st:Step (Int×(Int×(Int×(List AS×List Int)))) (List AS×List Int))=>match st with
    | .next i=>(∃d:Nat,i.1=d/\d<=a.length/\i.2.2.2=((a.take d).map (·.1),(a.take d).map (·.2))/\((d=0/\i.2.1= -1)\/ ∃e,0<d/\a[d-1]? =some e/\i.2.1=e.1.2.2.1/\i.2.2.1=e.1.2.1))/\a.length-i.1.toNat<a.length-((k:Nat):Int).toNat
    | .done r=>r=(a.map (·.1),a.map (·.2)):=λD A=>by
   refine AA (Ac (by simp;omega)) λf t=>?_;refine AA (Ac (by simp;omega)) λg u=>AB ⟨⟨k+1,?_,by omega,?_,.inr ⟨v,by omega,by rw[kj];exact z,A,rfl⟩⟩,?_⟩;show wi ((k:Int)+1)=_;rw[wip];show(f,g)=_;rw[t.1,u.1,C,Jm,Jm];rfl;show a.length-(wi ((k:Int)+1)).toNat<a.length-((k:Nat):Int).toNat
   rw[wip];omega
  have b: ∀n:Int,n<v.1.1->Ng (v.1,n)=some v.1:=λn hn=>by unfold Ng;have:decide (v.1.1>n)=true:=decide_eq_true hn;dsimp only;rw[this,cond_true]
  refine AL (λm=>?_) (λc=>?_);refine AC (λq=>absurd q (by omega)) (λ_=>?_);rw[b 0 (by omega),AD];obtain⟨st,E,F⟩:=j v.1.2.2.1 rfl;exact⟨st,E,by cases st<;>exact F⟩;rcases q4 with⟨_,q4⟩|⟨e,q5,q6,q7,q8⟩;exact absurd (c.trans q4) (by omega);have B:e.1.2.1<v.1.1:=by
   have H:=BN q6;obtain⟨J,K⟩:=KT.1 q6;obtain⟨L,M⟩:=KT.1 z;have m:e≠v:=λp=>by have:=(HH.1 (Kf.1 hn)) (k-1) k J L (by omega);rw[K,M]at this;exact this p
   have o:=(HH.1 P) (k-1) k J L (by omega);rw[K,M]at o;have Q:=I e H;have l:e.1.2.2.1=v.1.2.2.1:=by rw[<-q7];exact c.symm
   rcases O e H v h.2 m l with p|p;exact p;simp only[lN,decide_eq_false_iff_not]at o;omega
  rw[q8];refine AC (λq=>absurd q (by omega)) (λ_=>?_);rw[b _ B,AD];obtain⟨st,E,F⟩:=j R c.symm;exact⟨st,E,by cases st<;>exact F⟩
 simp only[len]at w;rw[BR (by omega)]
noncomputable def intR(a:AJ)(f:Av):Option NE:=
 match Gr (a,f)with
 |some (r,true)=>some (r,f.2.1)
 |_=>none
noncomputable def D5(a:AJ):List NE:=a.2.2.1.filterMap (intR a)
def AEy{x:AJ}(h:VB x)(t:DS x):Ap (Ai (Sw x) (0,[])) λr=>r=D5 x/\r.length<=256/\ ∀e∈r,ag e.1:=by
 obtain⟨⟨v,w,y,n,z,A,B⟩,a1,a2,a3,a4,a5,a6⟩:=id h;refine AW (λ(s:Int×NL)=>0<=s.1/\s.1<=x.2.2.1.length/\s.2.length<=s.1/\(∀e∈s.2,ag e.1)/\s.2=(x.2.2.1.take s.1.toNat).filterMap (intR x)) (λ(s:Int×NL)=>((x.2.2.1.length:Int)-s.1).toNat) ⟨Af _,d!,q!,λe a=>by simp at a,q!⟩ (λs q=>?_);obtain⟨u,C,D,j,k⟩:=q;unfold Sw;refine AC (λf=>?_) (λf=>AB ⟨?_,o!,j⟩);simp only[len]at f;have e:=AY (x:=s.1+1);rw[e];refine AA (AI u f) λg m=>?_;have c:x.2.2.1.take (s.1+1).toNat=x.2.2.1.take s.1.toNat++[g]:=by rw[show(s.1+1).toNat=s.1.toNat+1 by omega,Cv,m.1];rfl
 refine D4 (kG n (t _ m.2)) λl d p=>?_;refine AK (λb=>?_) (λb=>AB ⟨⟨d!,d!,d!,j,?_⟩,d!⟩);have hr:intR x g=some (l.1,g.2.1):=by unfold intR;rw[d];obtain⟨r,o⟩:=l;dsimp only at b;subst b;rfl
 refine AA (Ac w!) λE i=>AB ⟨⟨d!,d!,?_,λe a=>?_,?_⟩,d!⟩;have:=i.2.1;simp only[Bd,BX]at this;dsimp only;omega;dsimp only at a;rw[i.1]at a;rcases An.1 a with a|a;exact j e a;rw[BC.1 a];exact p b;dsimp only;rw[c,tc,i.1,k];simp[hr];have hr:intR x g=none:=by unfold intR;rw[d];obtain⟨r,o⟩:=l;dsimp only at b;subst b;rfl
 dsimp only;rw[c,tc,k];simp[hr];simp only[len]at f;rw[k,BR o!];rfl
def ABq{x:AJ}(h:VB x)(m:DS x)(hn:(D5 x).Nodup)(b:ADi (D5 x)):Ap (IE x) λr=> ∃v:List NE,v.Perm (D5 x)/\(v.Pairwise λp q=>lN q p=false)/\r=(v.map (·.1),v.map (·.2))/\v.length<=256/\ ∀e∈v,ag e.1:=by
 unfold IE;refine AA (Iu h) λt j=>?_;rw[j,Cg,cond_false];refine AA (AEy h m) λu k=>?_;obtain⟨rfl,g,s⟩:=k;refine AA (AE6 o!) λf a=>?_;have i:=a.1.length_eq;have l:Nat.beq (List.length f) (List.length (D5 x))=true:=by rw[i];exact Ir _
 rw[l,cond_true];have c: ∀e∈f,ag e.1:=λe d=>s e (a.1.mem_iff.1 d);refine AA (AEz i.symm o! (λe d=>?_) a.2 (a.1.nodup_iff.2 hn) (λp n q o=>b p (a.1.mem_iff.1 n) q (a.1.mem_iff.1 o))) λr hr=>AB ⟨f,a.1,a.2,hr,o!,c⟩;have:=c e d;exact⟨this.1,this.2.1,this.2.2.1,this.2.2.2.1⟩
def wb(l:List (Int×Int))(n:Int):Prop:= ∃s∈l,s.1<=n/\n<=s.2
def ACQ{l:List (Int×Int)}{u b:Int}(p:l.length<=16777216):Ap (Ai (Sy (l,u)) (0,b)) λr=>(∀q,r= .inl q->0<=q.1/\q.1<l.length/\q.2=b/\ ∀e,l[q.1.toNat]? =some e->e.1<=b/\b<=e.2)/\(∀q,r= .inr q->q=b/\ ¬wb l b):=by refine AW (λ(s:Int×Int)=>0<=s.1/\s.1<=l.length/\s.2=b/\ ∀e∈l.take s.1.toNat,¬(e.1<=b/\b<=e.2)) (λ(s:Int×Int)=>((l.length:Int)-s.1).toNat) ⟨Af _,d!,rfl,q!⟩ (λt n=>?_);obtain⟨k,v,m,g⟩:=n;unfold Sy;refine AC (λd=>?_) (λd=>AB ⟨λu c=>(by cases c),λu c=>?_⟩);simp only[len]at d;have e:=AY (x:=t.1+1);rw[e];refine AA (AI k d) λw h=>?_;unfold UM;rw[has_eq,AD,AD,m];refine AK (λf=>AB ⟨λu c=>?_,λu c=>(by cases c)⟩) (λi=>AB ⟨⟨d!,d!,rfl,λe a=>?_⟩,d!⟩);cases c;refine⟨k,d,rfl,λe a=>?_⟩;dsimp only at a;rw[h.1]at a;injection a with a;subst a;unfold Pp at f;simp only[BW,decide_eq_true_eq]at f;exact f;dsimp only at a;rw[show(t.1+1).toNat=t.1.toNat+1 by omega,Cv,h.1]at a;rcases An.1 a with a|a;exact g e a;rw[dQ,BC]at a;subst a;intro j;unfold Pp at i;simp only[Bool.and_eq_false_iff,decide_eq_false_iff_not]at i;omega;cases c;simp only[len]at d;rw[BR o!]at g;exact⟨m,by rw[show wb l b↔ ∃s∈l,s.1<=b/\b<=s.2 from Iff.rfl];rintro⟨s,o,j⟩;exact g s o j⟩
def yW{l:List (Int×Int)}{u:Int}(h:SpL l)(w:0<=u)(A:u<=1099511627776):Ap (L3 (l,u)) λr=>0<=r/\r<=u/\(∀n,r<n->n<=u->wb l n)/\(r=0\/ ¬wb l r):=by obtain⟨a1,a2⟩:=h;unfold L3;refine AA (P:=λr=>0<=r/\r<=u/\(∀n,r<n->n<=u->wb l n)/\(r=0\/ ¬wb l r)) ?_ λr hr=>AB hr;refine AW (λ(s:Int)=>0<=s/\s<=u/\ ∀n,s<n->n<=u->wb l n) (λ(s:Int)=>s.toNat) ⟨w,Af _,λn k m=>by dsimp only at k;omega⟩ (λs v=>?_);obtain⟨p,t,g⟩:=v;unfold Xv;refine AA (ACQ (b:=s) a1) λr hr=>?_;refine BB (λq f=>?_) (λq f=>?_);obtain⟨i,j,y,z⟩:=hr.1 q f;refine AC (λd=>absurd d o!) (λ_=>?_);refine AC (λd=>AB ?_) (λB=>?_);rw[y]at d⊢;exact⟨p,t,g,.inl o!⟩;refine AA (AI i j) λa c=>?_;have q1:=z a c.1;have q2:=a2 a c.2;have e:=AY (x:=a.1-1);rw[e];refine AB ⟨⟨o!,o!,λn k m=>?_⟩,o!⟩;rcases jJ s n with o|o;exact g n o m;exact⟨a,c.2,o!⟩;obtain⟨i,j⟩:=hr.2 q f;rw[i];exact AB ⟨p,t,g,.inr j⟩
def uC{x:AJ}(h:VB x):x.2.2.1.Pairwise λf g=>f.2.1<g.2.1:=by
 have c:=h.2.2.2.2.2.2.2;rw[HH];have step: ∀n i:Nat,∀(a:i<x.2.2.1.length) (b:i+1+n<x.2.2.1.length),(x.2.2.1[i]).2.1<(x.2.2.1[i+1+n]).2.1:=by
  intro n;induction n with
  |zero=>intro i a b;exact c i _ _ o! (As a) (As b)
  |succ n m=>intro i a b;have d:=m i a o!;have k:=c (i+1+n) _ _ o! (As o!) (As b);exact Int.lt_trans d k
 intro i j a b l;have:=step (j-(i+1)) i a o!;have e:i+1+(j-(i+1))=j:=o!
 simp only[e]at this;exact this
theorem ui{x:AJ}(h:VB x):((D5 x).map (·.2)).Pairwise (· < ·):=by
 unfold D5;rw[Sj,List.pairwise_filterMap];refine(uC h).imp λ{f g} b y a z c=>?_;have one: ∀(f:Av) (y:NE),intR x f=some y->y.2=f.2.1:=λf y a=>by unfold intR at a;split at a;injection a with a;rw[<-a];cases a
 rw[one f y a,one g z c];exact b
def To{x:AJ}(h:VB x):(D5 x).Nodup:=by have:=ui h;rw[Sj]at this;exact Kf.2 (this.imp λh e=>by rw[e]at h;omega)
def AHM{a:AJ}{l:Ae}{p i j:Int}{Q:List (Int×Int)}{d:Int×Int}{r:AS}{W:List (Int×EN)}{u:Int}{P:EN→Prop}(hr:r.2.2.2.2.2.length≤4096)(Y:Q[0]? =some d)(hm:QG W P)(hn:0≤u∧u≤1099511627776)
  (S: ∀v∈r.2.2.2.2.2,Ka p i j v=true->(Pp d v.1=true->P v)/\ ∀e,(P e\/(e∈r.2.2.2.2.2/\Ka p i j e=true))->e.1=v.1->e=v):
  Ap (Ai (WM (a,(l,(p,(i,j)))) Q r) (0,(W,(u,([],0))))) λq=> ∃m n,q= .inl (m,(n,([],0)))/\QG m (λe=>P e\/(e∈r.2.2.2.2.2/\Ka p i j e=true))/\n=u+((r.2.2.2.2.2.filter λe=>Ka p i j e&&Pp d e.1).length:Int):=by
 generalize hL:r.2.2.2.2.2=L at hr S⊢;refine AW (λ(s:Int×(List (Int×EN)×(Int×(List EN×Int))))=>0<=s.1/\s.1<=L.length/\s.2.2.2=([],0)/\s.2.2.1=u+(((L.take s.1.toNat).filter λe=>Ka p i j e&&Pp d e.1).length:Int)/\QG s.2.1 λe=>P e\/(e∈L.take s.1.toNat/\Ka p i j e=true)) (λs=>((L.length:Int)-s.1).toNat)
  ⟨Af _,d!,rfl,q!,hm.congr λe=>q!⟩ (λs Z=>?_)
 obtain⟨c,E,F,s4⟩:=s;obtain⟨U,i2,V,C,z⟩:=Z;dsimp only at U i2 V C z;subst V;unfold WM;dsimp only;rw[hL];refine AC (λf=>?_) (λf=>AB ?_);simp only[len]at f;have X:=AY (x:=c+1);rw[X];refine AA (AI U f) λv R=>?_;rw[lC,AD];have o:L.take (c+1).toNat=L.take c.toNat++[v]:=by rw[show(c+1).toNat=c.toNat+1 by omega,Cv,R.1];rfl
 have k:Ka p i j v=false->(0<=c+1/\c+1<=L.length/\(([],0):List EN×Int)=([],0)/\F=u+(((L.take (c+1).toNat).filter λe=>Ka p i j e&&Pp d e.1).length:Int)/\QG E λe=>P e\/(e∈L.take (c+1).toNat/\Ka p i j e=true))/\((L.length:Int)-(c+1)).toNat<((L.length:Int)-c).toNat:=λy=>by
  refine⟨⟨o!,o!,rfl,?_,?_⟩,o!⟩;rw[o,GU,C];simp[y];rw[o];refine z.congr λe=>⟨?_,?_⟩
  rintro(h|h);exact .inl h;exact .inr ⟨An.2 (.inl h.1),h.2⟩;rintro(h|⟨h,w⟩);exact .inl h;rcases An.1 h with h|h;exact .inr ⟨h,w⟩;rw[BC.1 h,y]at w;cases w
 refine AK (λG=>?_) (λG=>AB (k (by simp[Ka,G])));refine AK (λH=>?_) (λH=>AB (k (by simp[Ka,H])));refine AK (λI=>?_) (λI=>AB (k (by unfold Ka;rw[I];simp)));refine AO (λJ=>AB (k (by unfold Ka;rw[J];simp))) (λJ=>?_);have y:Ka p i j v=true:=by unfold Ka;rw[G,H,I,J];rfl
 have O:ix Q 0=some d:=by unfold ix;rw[if_pos (Af _)];exact Y
 rw[O,AD,has_eq,AD];obtain⟨M,A⟩:=S v R.2 y;have t:QG (Pq v.1 v E) λe=>P e\/(e∈L.take (c+1).toNat/\Ka p i j e=true):=by
  rw[o];refine z.put.congr λe=>⟨?_,λh=>?_⟩
  rintro(rfl|⟨h|h,_⟩);exact .inr ⟨An.2 (.inr (BC.2 rfl)),y⟩;exact .inl h;exact .inr ⟨An.2 (.inl h.1),h.2⟩;by_cases g:e=v;exact .inl g;rcases h with h|⟨h,w⟩;exact .inr ⟨.inl h,λN=>g (A e (.inl h) N)⟩;rcases An.1 h with h|h;exact .inr ⟨.inr ⟨h,w⟩,λN=>g (A e (.inr ⟨FA h,w⟩) N)⟩;exact absurd (BC.1 h) g
 have T:(((L.take c.toNat).filter λe=>Ka p i j e&&Pp d e.1).length:Int)<=4096:=by have h1:=Fy (λe=>Ka p i j e&&Pp d e.1) (L.take c.toNat);have h3:=List.length_take_le' c.toNat L;omega
 have K:=AY (x:=F+1);rw[K];have B: ∀b:Bool,Pp d v.1=b->u+((((L.take (c+1).toNat).filter λe=>Ka p i j e&&Pp d e.1).length:Nat):Int)=F+(if b=true then 1 else 0):=λb hb=>by rw[o,GU,Aa,C];cases b<;>simp[y,hb]<;>omega
 refine AK (λD=>?_) (λD=>AB ⟨⟨d!,d!,rfl,?_,t⟩,d!⟩);have hg:Ku v.1 E=some v:=z.get (.inl (M D));rw[hg];simp only[Option.isSome_some,Cg,cond_false,kp,beq_self_eq_true,XK];refine AB ⟨⟨d!,d!,rfl,?_,t⟩,d!⟩;rw[B true D];rfl;rw[B false D];simp;simp only[len]at f;rw[BR o!]at C z;exact⟨E,F,rfl,z,C⟩
def Jt(low:Int)(rs:List AS):List EN:=(rs.filter λr=>r.2.2.1==low).flatMap λr=>r.2.2.2.2.2
def AHL{a:AJ}{l:Ae}{p i j:Int}{X:List (Int×Int)}{sp:Int×Int}{b:Int×(Int×Bool)}{c:List AS}{E:List Int}{W:List (Int×EN)}{P:EN→Prop}(Z:X[0]? =some sp)(hm:QG W P)
  (U:c.length=E.length) (T:c.length<=256) (hr: ∀r∈c,r.2.2.2.2.2.length<=4096)
  (hc: ∀v∈Jt b.1 c,Ka p i j v=true->(Pp sp v.1=true->P v)/\ ∀e,(P e\/(e∈Jt b.1 c/\Ka p i j e=true))->e.1=v.1->e=v):
  Ap (Ai (WL (a,(l,(p,(i,j)))) X b (c,E)) (0,(W,(0,([],0))))) λq=> ∃m n,q= .inl (m,(n,([],0)))/\QG m (λe=>P e\/(e∈Jt b.1 c/\Ka p i j e=true))/\n=(((Jt b.1 c).filter λe=>Ka p i j e&&Pp sp e.1).length:Int):=by
 have B: ∀k:Nat,(Jt b.1 (c.take k)).length<=k*4096:=by
  intro k;induction k with
  |zero=>simp[Jt]
  |succ k ih=>rw[Cv];grind[Jt,List.length_append,Nat.succ_mul,Nat.add_le_add]
 refine AW (λ(s:Int×(List (Int×EN)×(Int×(List EN×Int))))=>0<=s.1/\s.1<=c.length/\s.2.2.2=([],0)/\s.2.2.1=(((Jt b.1 (c.take s.1.toNat)).filter λe=>Ka p i j e&&Pp sp e.1).length:Int)/\QG s.2.1 λe=>P e\/(e∈Jt b.1 (c.take s.1.toNat)/\Ka p i j e=true)) (λs=>((c.length:Int)-s.1).toNat)
  ⟨Af _,d!,rfl,by simp[Jt],hm.congr λe=>by simp[Jt]⟩ (λs hI=>?_)
 have⟨d,s2,S,s4⟩:=s;have⟨R,i2,V,C,D⟩:=hI;dsimp only at R i2 V C D;subst V;unfold WL;dsimp only;refine AC (λo=>?_) (λo=>AB ?_);simp[len]at o;have Y:=AY (x:=d+1);rw[Y];refine AA (AI R o) λv G=>?_;have t:c.take (d+1).toNat=c.take d.toNat++[v]:=by rw[show(d+1).toNat=d.toNat+1 by omega,Cv,G.1];rfl
 refine AK (λF=>?_) (λF=>AB ⟨⟨d!,d!,rfl,?_,?_⟩,d!⟩);refine AA (AI R) λad _=>?_;have u: ∀e∈v.2.2.2.2.2,e∈Jt b.1 c:=λe g=>Hi.2 ⟨v,BV.2 ⟨G.2,F⟩,g⟩;have z: ∀e∈Jt b.1 (c.take d.toNat),e∈Jt b.1 c:=λe g=>by have⟨r,L,M⟩:=Hi.1 g;have⟨N,O⟩:=BV.1 L;exact Hi.2 ⟨r,BV.2 ⟨FA N,O⟩,M⟩
 have K:0<=S/\S<=1099511627776:=by
  have h1:=Fy (λe=>Ka p i j e&&Pp sp e.1) (Jt b.1 (c.take d.toNat));have h2:=B d.toNat
  omega
 have f:Jt b.1 (c.take d.toNat++[v])=Jt b.1 (c.take d.toNat)++v.2.2.2.2.2:=by grind[Jt]
 refine AA (AHM (hr v G.2) Z D K λw hw Q=>?_) ?_;have⟨q1,q2⟩:=hc w (u w hw) Q;refine⟨λh=>.inl (q1 h),λe g H=>q2 e ?_ H⟩;rcases g with(g|⟨g,y⟩)|⟨g,y⟩;exact .inl g;exact .inr ⟨z e g,y⟩;exact .inr ⟨u e g,y⟩;rintro q ⟨m,n,rfl,I,J⟩;refine BK (AB ⟨⟨d!,d!,rfl,?_,?_⟩,d!⟩);dsimp only;rw[t,f,J,C,GU,Aa];omega;dsimp only;rw[t,f];refine I.congr λe=>?_;rw[An];constructor;rintro((h|⟨h,A⟩)|⟨h,A⟩);exact .inl h;exact .inr ⟨.inl h,A⟩;exact .inr ⟨.inr h,A⟩;rintro(h|⟨h|h,A⟩);exact .inl (.inl h);exact .inl (.inr ⟨h,A⟩);exact .inr ⟨h,A⟩;have f:Jt b.1 (c.take d.toNat++[v])=Jt b.1 (c.take d.toNat):=by unfold Jt;rw[GU,XO];simp[F]
 dsimp only;rw[t,f];exact C;have f:Jt b.1 (c.take d.toNat++[v])=Jt b.1 (c.take d.toNat):=by unfold Jt;rw[GU,XO];simp[F]
 dsimp only;rw[t,f];exact D;simp[len]at o;rw[BR o!]at C D;exact⟨s2,S,rfl,D,C⟩
def XE{l:List EN}:(l.map (·.1)).Nodup-> ∀{a b:EN},a∈l->b∈l->a.1=b.1->a=b:=by
 induction l with
 |nil=>intro _ a b d;cases d
 |cons p r f=>intro e a b d c h;rw[Bi,Gl]at e;rcases Au.1 d with d|d;rcases Au.1 c with c|c;rw[d,c];exact absurd (by rw[<-d,h];exact VQ c) e.1;rcases Au.1 c with c|c;exact absurd (by rw[<-c,<-h];exact VQ d) e.1;exact f e.2 d c h
def AEg{B:Nat}(j:CP B){l:List EN}(h:l.length<=B)(k:l.length<=16777216)(hn:(l.map (·.1)).Nodup):Ap (sS C5 l) λr=>r.Perm l/\r.Pairwise λa b=>a.1<b.1:=by
 have n:=List.pairwise_mergeSort (le:=λa b:EN=>decide (a.1<=b.1)) (λa b c o p=>by simp only[decide_eq_true_eq]at*;omega) (λa b=>by simp only[XM,decide_eq_true_eq];omega) l;have i:(l.mergeSort λa b:EN=>decide (a.1<=b.1)).Perm l:=List.mergeSort_perm _ _;have g:(l.mergeSort λa b:EN=>decide (a.1<=b.1)).Pairwise λa b=>a.1<=b.1:=n.imp λh=>of_decide_eq_true h;have key: ∀m,l.Perm m->C5 m ()=some (l.mergeSort λa b:EN=>decide (a.1<=b.1)):=λm f=>by have d:(m.map (·.1)).Nodup:=(f.map (·.1)).nodup_iff.1 hn;unfold C5 xn;rw[if_pos ⟨d,by rw[<-f.length_eq];exact k⟩,<-sg (key:=λe:EN=>e.1) d (i.trans f) g]
 refine⟨_,?_,i,?_⟩;unfold sS;rw[if_pos];exact key l (nU l);intro m f;rw[key m f,key l (nU l)];have d:=(i.map (·.1)).nodup_iff.2 hn;rw[Kf,Sj]at d;exact(g.and d).imp λh=>o!
def uW: ∀(n:Nat) (i:Int) (l:List Int),l.Nodup->(∀x∈l,i<x/\x<=i+n)->l.length<=n
 |0,i,l,_,h=>by
  cases l with
  |nil=>exact Ao _
  |cons a r=>have:=h a (Au.2 (.inl rfl));omega
 |n+1,i,l,hl,h=>by
  have d:=uW n i (l.erase (i+(n+1:Nat))) (hl.erase _) λx c=>by have b:=(hl.mem_erase_iff).1 c;have:=h x b.2;have:=b.1;omega
  have e:l.length<=(l.erase (i+(n+1:Nat))).length+1:=by rw[List.length_erase];split<;>omega
  omega
def XZ(i:Int)(s:List EN):Prop:= ∀(k:Nat) (e:EN),s[k]? =some e->(k=0->e.2.2.2.2.1<=i)/\ ∀f,0<k->s[k-1]? =some f->e.2.2.2.2.1=f.1
def AHK{a:AJ}{l:Ae}{p i j:Int}{s:List EN}(O:s.length≤16777216):
  Ap (Ai (PJ (a,(l,(p,(i,j)))) s) (0,([],0))) λr=>(r= .inl ([],0)/\XZ i s)\/(r= .inr ([],13)/\ ¬XZ i s):=by
 refine AW (λ(t:Int×(List EN×Int))=>0<=t.1/\t.1<=s.length/\t.2=([],0)/\ ∀(k:Nat) (e:EN),k<t.1->s[k]? =some e->(k=0->e.2.2.2.2.1<=i)/\ ∀f,0<k->s[k-1]? =some f->e.2.2.2.2.1=f.1) (λt=>((s.length:Int)-t.1).toNat)
  ⟨Af _,d!,rfl,λk e F=>(by dsimp only at F;omega)⟩ (λt K=>?_)
 obtain⟨b,P⟩:=t;obtain⟨C,L,G,D⟩:=K;dsimp only at C L G D;subst G;unfold PJ;dsimp only;refine AC (λn=>?_) (λn=>AB (.inl ⟨rfl,λk e d=>D k e ?_ d⟩));simp only[len]at n;have I:=AY (x:=b+1);rw[I];refine AA (AI C n) λM _=>?_;refine AA (AI C n) λv h=>?_;have o:((b=0->v.2.2.2.2.1<=i)/\ ∀f,0<b->s[b.toNat-1]? =some f->v.2.2.2.2.1=f.1)->(0<=b+1/\b+1<=s.length/\(([],0):List EN×Int)=([],0)/\ ∀(k:Nat) (e:EN),k<b+1->s[k]? =some e->(k=0->e.2.2.2.2.1<=i)/\ ∀f,0<k->s[k-1]? =some f->e.2.2.2.2.1=f.1)/\((s.length:Int)-(b+1)).toNat<((s.length:Int)-b).toNat:=λE=>by
  refine⟨⟨o!,o!,rfl,λk e F d=>?_⟩,o!⟩;by_cases B:(k:Int)<b;exact D k e B d;have H:k=b.toNat:=o!
  subst H;rw[h.1]at d;injection d with d;subst d;exact⟨λy=>E.1 o!,λf y g=>E.2 f o! g⟩
 apply AP<;>intro y;refine AC (λu=>AB (.inr ⟨rfl,λA=>?_⟩)) (λu=>?_);have:=(A b.toNat v h.1).1 o!;omega;refine AC (λm=>absurd m o!) (λ_=>AB (o ⟨λ_=>o!,λf g=>absurd g o!⟩));refine AC (λu=>?_) (λu=>absurd u o!);have w:=AY (x:=b-1);rw[w];refine AA (AI) λN _=>?_;refine AA (AI) λq z=>?_;have c:s[b.toNat-1]? =some q:=by rw[show b.toNat-1=(b-1).toNat by omega];exact z.1
 refine AL (λm=>AB (.inr ⟨rfl,λA=>m ((A b.toNat v h.1).2 q o! c)⟩)) (λm=>AB (o ⟨λJ=>absurd J y,λf _ g=>?_⟩));rw[c]at g;injection g with g;rw[<-g];exact m;simp only[len]at n;have:=(KT.1 d).1;omega
def AHN{a:AJ}{l:Ae}{p i j:Int}{s:List EN}(b:s.length≤16777216):
  Ap (Ai (PJ (a,(l,(p,(i,j)))) s) (0,([],0))) λr=>(r= .inl ([],0)/\XZ i s)\/(r= .inr ([],13)/\ ¬XZ i s):=AHK b
def Ui(l:Ae)(low:Int)(rs:List AS):List (Int×Int):=(l.1,l.1+l.2.1.length-1)::(rs.filter λr=>r.2.2.1==low).map λr=>(r.1,r.2.1)
def xo{a:AJ}{l:Ae}{p:Int}{e:Int×(Int×Bool)}{b:List AS}{d:List Int}(B:Dj l)(m:GP (a,p)=some e)(C:e.2.2=true)(n:IE a=some (b,d))(u:b.length=d.length)(q:b.length≤256):
  PL (a,(l,p))=some (Ui l e.1 b):=by
 obtain⟨G,y,z⟩:=Q4 B;unfold PL;dsimp only;rw[y,AD,m,AD,C,Cg,cond_false,n,AD,z];have g:Ap (Ai (Sz e (b,d)) (0,([(l.1,l.1+l.2.1.length-1)]:List (Int×Int)))) λr=>r=Ui l e.1 b:=by
  refine AW (λ(t:Int×List (Int×Int))=>0<=t.1/\t.1<=b.length/\t.2.length<=t.1.toNat+1/\t.2=Ui l e.1 (b.take t.1.toNat)) (λt=>((b.length:Int)-t.1).toNat) ⟨Af _,d!,q!,rfl⟩ (λt A=>?_);obtain⟨i,F⟩:=t;obtain⟨o,D,E,k⟩:=A;dsimp only at o D E k;unfold Sz;dsimp only;refine AC (λj=>?_) (λj=>AB ?_);simp only[len]at j;have w:=AY (x:=i+1);rw[w];refine AA (AI o j) λv h=>?_;have f:b.take (i+1).toNat=b.take i.toNat++[v]:=by rw[show(i+1).toNat=i.toNat+1 by omega,Cv,h.1];rfl
  refine AK (λc=>?_) (λc=>AB ⟨⟨d!,d!,d!,?_⟩,d!⟩);refine AA (AI o) λH _=>?_;refine AA (Ac (by simp only[Bd,BX];omega)) λI s=>AB ⟨⟨d!,d!,?_,?_⟩,d!⟩;have:=s.2.1;simp only[Bd,BX]at this;dsimp only;omega;dsimp only;rw[s.1,k,f];unfold Ui;rw[GU,Jm,tf (by exact c)];rfl;dsimp only;rw[k,f];unfold Ui;rw[GU,td (by rw[c];decide)];simp;simp only[len]at j;rw[k,BR o!]
 obtain⟨r,q1,q2⟩:=g;rw[q1,AD,q2]
end Go.Pm
