/- What these functions answer, part 10. Texts of the folder wip, laid in few files with shorter names by a program (wip/tools/pack.py); nothing is assumed. -/
import Derived.Test.YtacnadmajkjfbaaGreatK9
import Derived.Sort.AssemblyPlain
import Derived.KernelRfl
noncomputable section
set_option linter.unusedVariables false
set_option linter.unusedSimpArgs false
set_option linter.unusedSectionVars false
set_option linter.defProp false
set_option linter.unnecessarySimpa false
set_option linter.deprecated false
namespace Go.Pm
open Go Go.Ab
set_option maxHeartbeats 400000
def FR(l:List BL)(m n:Int):Prop:=(∀(i:Nat) (f:BL),(i:Int)<n->l[i]? =some f->0<f.2.1/\f.2.1<m)/\ ∀(i:Nat) (f g:BL),(i:Int)+1<n->l[i]? =some f->l[i+1]? =some g->f.2.1<g.2.1
def VB(a:AK):Prop:=BD a.2.1 a.1/\1<=a.2.2.2.1/\a.2.2.2.1<=1099511627777/\1<=a.2.2.2.2/\a.2.2.2.2<=1073741825/\a.2.2.1.length<=256/\FR a.2.2.1 a.2.2.2.2 a.2.2.1.length
theorem ph{x:AK}:Ay (Ej x) λr=>r=true↔VB x:=by
 unfold Ej;refine AB Zx λU w=>?_;refine AO (λj=>AA ⟨λb=>(by cases b),λh=>(by rw[w.2 h.1]at j;cases j)⟩) (λj=>?_);have H:=w.1 j;refine AC (λc=>AA ⟨λb=>(by cases b),λh=>(by have:=h.2.1;omega)⟩) (λN=>?_);refine AC (λc=>AA ⟨λb=>(by cases b),λh=>(by have:=h.2.2.1;omega)⟩) (λO=>?_);refine AC (λc=>AA ⟨λb=>(by cases b),λh=>(by have:=h.2.2.2.1;omega)⟩) (λQ=>?_);refine AC (λc=>AA ⟨λb=>(by cases b),λh=>(by have:=h.2.2.2.2.1;omega)⟩) (λR=>?_);refine AC (λc=>AA ⟨λb=>(by cases b),λh=>(by have:=h.2.2.2.2.2.1;simp only[len]at c;omega)⟩) (λA=>?_);simp only[len]at A;refine AB (P:=λr=>(r= .inl false/\ ¬FR x.2.2.1 x.2.2.2.2 x.2.2.1.length)\/(r= .inr ()/\FR x.2.2.1 x.2.2.2.2 x.2.2.1.length)) ?_ λr hr=>?_;refine AM (λ(s:Int×Int)=>0<=s.2/\s.2<=x.2.2.1.length/\FR x.2.2.1 x.2.2.2.2 s.2/\0<=s.1/\(s.2=0->s.1=0)/\ ∀f,0<s.2->x.2.2.1[(s.2-1).toNat]? =some f->f.2.1=s.1) (λ(s:Int×Int)=>((x.2.2.1.length:Int)-s.2).toNat) ⟨Ae _,by dsimp only;omega,⟨λi f k=>absurd k (by dsimp only;omega),λi f g k=>absurd k (by dsimp only;omega)⟩,Ae _,λ_=>rfl,λf d=>absurd d (by dsimp only;omega)⟩ (λs G=>?_);obtain⟨q,S,t,T,L,z⟩:=G;unfold Il;have e:=AW (x:=s.2+1) (by omega);rw[e];refine AC (λj=>?_) (λj=>AA (.inr ⟨rfl,?_⟩));simp only[len]at j;refine AB (AE q j) λu D=>?_;have a:=D.1;refine AC (λJ=>AA (.inl ⟨rfl,λn=>?_⟩)) (λK=>?_);by_cases b:s.2=0;have:=(n.1 s.2.toNat u (by omega) a).1;have:=L b;omega;obtain⟨f,d⟩: ∃f,x.2.2.1[(s.2-1).toNat]? =some f:=⟨_,Az (by omega)⟩
 have m:(s.2-1).toNat+1=s.2.toNat:=by omega
 have:=n.2 (s.2-1).toNat f u (by omega) d (by rw[m];exact a);have:=z f (by omega) d;omega;refine AB (AE q j) λv E=>?_;have B:v=u:=by have:=E.1;rw[a]at this;exact(Ch this).symm
 subst B;refine AC (λI=>AA (.inl ⟨rfl,λn=>?_⟩)) (λy=>?_);have:=(n.1 s.2.toNat v (by omega) a).2;omega;refine AB (AE q j) λM F=>AA ?_;have C:M=v:=by have:=F.1;rw[a]at this;exact(Ch this).symm
 subst C;refine⟨⟨by dsimp only;omega,by dsimp only;omega,⟨λi f k d=>?_,λi f g k d p=>?_⟩,by dsimp only;omega,λb=>absurd b (by dsimp only;omega),λf _ d=>?_⟩,by dsimp only;omega⟩;dsimp only at k;by_cases l:(i:Int)<s.2;exact t.1 i f l d;have o:i=s.2.toNat:=by omega
 subst o;rw[a]at d;have:=Ch d;subst this;exact⟨by omega,by omega⟩;dsimp only at k;by_cases l:(i:Int)+1<s.2;exact t.2 i f g l d p;have o:i=(s.2-1).toNat:=by omega
 have m:i+1=s.2.toNat:=by omega
 rw[m,a]at p;have:=Ch p;subst this;rw[o]at d;have:=z f (by omega) d;omega;dsimp only at d⊢;have m:(s.2+1-1).toNat=s.2.toNat:=by omega
 rw[m,a]at d;have:=Ch d;rw[this];simp only[len]at j;have:s.2=x.2.2.1.length:=by omega
 rw[<-this];exact t;rcases hr with⟨rfl,hr⟩|⟨rfl,hr⟩;exact BF (AA ⟨λb=>(by cases b),λh=>absurd h.2.2.2.2.2.2 hr⟩);exact BC (AA ⟨λ_=>⟨H,by omega,by omega,by omega,by omega,by omega,hr⟩,λ_=>rfl⟩)
set_option maxHeartbeats 1000000
def jD{x:Int}:Ay (R4 x) λr=>r=true↔0<=x/\x<64:=by
 unfold R4;repeat' with_reducible first|apply AC<;>intro a|apply AF<;>intro a|apply AA
 all_goals grind
def jC{x:D8}:Ay (PF x) λr=>r=true↔TT x:=by
 unfold PF TT
 repeat' first
   |with_reducible apply AC<;>intro a
   |with_reducible apply AF<;>intro a
   |(with_reducible apply BE;try dsimp only)
   |with_reducible apply BP
   |with_reducible apply BX
   |with_reducible apply AA
   |(with_reducible apply AB (jD);intro r hr)
   |(with_reducible apply AB (Jc);intro r hr)
 all_goals grind
def Js{x:Int×AD}:Ay (My x) λr=>r=true↔0<=x.1/\x.1<x.2.1:=by
 unfold My;repeat' with_reducible first|apply AC<;>intro a|apply AF<;>intro a|apply AA
 all_goals grind
def lj{x:D8}:Ay (LO x) λr=>r=true↔x=Oi:=by unfold LO Oi;obtain⟨a,b,⟨c,d⟩,e,f⟩:=x;apply AA;simp[fP,and_assoc]
def gi{x:AD}:Ay (GN x) λr=>r=true:=by unfold GN;exact AA rfl
def gj{x:AD}:Ay (Qp x) λr=>r=true↔1<=x.2.2.2.2.2.1/\x.2.2.2.2.2.1<=x.2.2.2.1:=by
 unfold Qp;repeat' with_reducible first|apply AC<;>intro a|apply AF<;>intro a|apply AA
 all_goals grind
def gk{x:D8}:Ay (Qq x) λr=>r=true↔0<=x.1/\x.1<64/\x.2=Oi.2:=by
 unfold Qq Oi;obtain⟨a,b,⟨c,d⟩,e,f⟩:=x;refine AF (λg=>?_) (λg=>AA ?_);refine AC (λh=>AA ?_) (λh=>AA ?_);simp at g;simp[g,h];try omega
 simp;try omega
 simp[fP]at g⊢;try grind
def LD{x:AD}:Ay (Gw x) λr=>OF x->r=true:=by
 unfold Gw;refine AC (λi=>AA λh=>?_) (λs=>?_);have:=h.1;omega;refine AC (λi=>AA λh=>?_) (λt=>?_);have:=h.2.1;omega;refine AC (λi=>AA λh=>?_) (λu=>?_);have:=h.2.2.2.2.2.2.2.2;unfold U8 at this;omega;refine AC (λi=>AA λh=>?_) (λv=>?_);have:=h.2.2.2.2.2.2.2.2;unfold U8 at this;omega;refine AB Js λw j=>?_;refine AO (λi=>AA λh=>?_) (λn=>?_);rw[j.2 ⟨h.2.2.1,h.2.2.2.1⟩]at i;cases i;refine AB Js λy k=>?_;refine AO (λi=>AA λh=>?_) (λo=>?_);rw[k.2 ⟨h.2.2.2.2.1,h.2.2.2.2.2.1⟩]at i;cases i;refine AB Js λz l=>?_;refine AO (λi=>AA λh=>?_) (λp=>?_);rw[l.2 ⟨h.2.2.2.2.2.2.1,h.2.2.2.2.2.2.2.1⟩]at i;cases i;refine Ay.mono (P:=λr=>U8 x->r=true) ?_ λr h q=>h q.2.2.2.2.2.2.2.2;clear j k l n o p;obtain⟨a,b,c,d,e,f,g,m⟩:=x;unfold U8;dsimp only at*;refine AC (λi=>absurd i (by omega)) (λk0=>?_);repeat' with_reducible first
  |apply AC<;>intro i
  |apply AQ<;>intro i
  |apply AL<;>intro i
  |apply AO<;>intro i
  |apply AF<;>intro i
  |apply BP
  |apply BE
  |apply AA
  |apply XW
  |(apply AB gi;intro r hr)
  |(apply AB gj;intro r hr)
  |(apply AB gk;intro r hr)
  |(apply AB lj;intro r hr)
  |(apply AB jC;intro r hr)
 all_goals grind
def bh{x:Aj}:Ay (CW x) λr=>r=wi (wi (x.1+len x.2.1)-1):=by unfold CW;exact AA rfl
theorem Wq{x:Aj}(h:D2 x):Ay (OO x) λr=>r=true:=by obtain⟨a1,a2,a3,a4,a5,a6⟩:=id h;unfold OO;refine AC (λa=>absurd a (by omega)) (λ_=>?_);refine AC (λa=>absurd a (by omega)) (λ_=>?_);refine AC (λa=>absurd a (by simp only[len];omega)) (λ_=>?_);have b:=AW (x:=x.1-1) (by omega);rw[b];refine AC (λa=>absurd a (by omega)) (λ_=>?_);refine AB bh λm e=>?_;rw[h.last]at e;refine AC (λa=>absurd a (by omega)) (λ_=>?_);refine AB (P:=λr=> ∃u,r= .inr u) ?_ λr hr=>?_;refine AM (λ(s:Int)=>0<=s/\s<=x.2.1.length) (λ(s:Int)=>((x.2.1.length:Int)-s).toNat) ⟨Ae _,by omega⟩ (λs i=>?_);obtain⟨j,l⟩:=i;unfold VO;refine AC (λa=>?_) (λ_=>AA ⟨_,rfl⟩);simp only[len]at a;refine AB (AE j a) λk f=>?_;have q:=a6 s.toNat k f.1;have c:=AW (x:=x.1+s) (by omega);have d:=AW (x:=s+1) (by omega);rw[c,d];refine AL (λa=>absurd (by have:=q.1;omega) a) (λ_=>?_);refine AB LD λn g=>?_;refine AO (λa=>?_) (λ_=>AA ⟨⟨by omega,by omega⟩,by omega⟩);rw[g q.2]at a;cases a;obtain⟨u,rfl⟩:=hr;exact BC (AA rfl)
def Y7{x:Aj}(h:D2 x):Ay (R9 x) λr=>r=x.1+x.2.1.length-1:=by unfold R9;refine AB (Wq h) λv c=>?_;refine AO (λb=>?_) (λ_=>?_);rw[c]at b;cases b;refine AB bh λd a=>AA ?_;rw[h.last]at a;exact a
theorem J1{x:AK}(h:VB x):Ay (Jr x) λr=>r=true:=by
 obtain⟨⟨L,M,N,O,p,t,v⟩,a1,a2,a3,a4,a5,a6⟩:=id h;unfold Jr;refine AC (λa=>absurd a (by omega)) (λ_=>?_);refine AC (λa=>absurd a (by omega)) (λ_=>?_);refine AC (λa=>absurd a (by simp only[len];omega)) (λ_=>?_);refine AC (λa=>absurd a (by simp only[len];omega)) (λ_=>?_);refine AB (AE (Ae _) (by omega)) λQ B=>?_;have b:=B.1;rw[show((0:Int).toNat)=0 from rfl,p]at b;injection b with b;refine AL (λa=>absurd b.symm a) (λ_=>?_);have w:=AW (x:=len x.1-1) (by simp only[len];omega);rw[w];refine AB (AE (by simp only[len];omega) (by simp only[len];omega)) λI C=>?_;have c:=C.1;have y:(len x.1-1).toNat=x.1.length-1:=by simp only[len];omega
 rw[y]at c;refine AC (λa=>absurd a (by have:=v I c;omega)) (λ_=>?_);refine AB (P:=λr=> ∃u,r= .inr u) ?_ λr hr=>?_;refine AM (λ(s:Int)=>1<=s/\s<=x.1.length) (λ(s:Int)=>((x.1.length:Int)-s).toNat) ⟨Ae _,by omega⟩ (λs i=>?_);obtain⟨o,F⟩:=i;unfold UN;refine AC (λa=>?_) (λ_=>AA ⟨_,rfl⟩);simp only[len]at a;have z:=AW (x:=s-1) (by omega);have e:=AW (x:=s+1) (by omega);rw[z,e];refine AB (AE (by omega) (by omega)) λJ D=>?_;refine AB (AE (by omega) a) λK E=>?_
 have q:=t (s-1).toNat J K (by omega) D.1 (by have:(s-1).toNat+1=s.toNat:=by omega
                                              rw[this];exact E.1)
 refine AC (λa=>absurd a (by omega)) (λ_=>AA ⟨⟨by omega,by omega⟩,by omega⟩);obtain⟨u,rfl⟩:=hr;refine BC ?_;refine AC (λa=>absurd a (by omega)) (λ_=>?_);refine AC (λa=>absurd a (by omega)) (λ_=>?_);refine AC (λa=>absurd a (by omega)) (λ_=>?_);refine AC (λa=>absurd a (by omega)) (λ_=>?_);refine AC (λa=>absurd a (by simp only[len];omega)) (λ_=>?_);refine AB (P:=λr=> ∃u,r= .inr u) ?_ λr hr=>?_;refine AM (λ(s:Int×Int)=>0<=s.2/\s.2<=x.2.2.1.length/\(s.2=0->s.1=0)/\ ∀f:BL,0<s.2->x.2.2.1[(s.2-1).toNat]? =some f->s.1=f.2.1) (λ(s:Int×Int)=>((x.2.2.1.length:Int)-s.2).toNat) ⟨Ae _,by dsimp only;omega,λ_=>rfl,λf m=>by dsimp only at m;omega⟩ (λs i=>?_);obtain⟨o,F,G,H⟩:=i;unfold UO;refine AC (λa=>?_) (λ_=>AA ⟨_,rfl⟩);simp only[len]at a;have e:=AW (x:=s.2+1) (by omega);rw[e];refine AB (AE o a) λl g=>?_;have q1:=a6.1 s.2.toNat l (by omega) g.1;have q2:s.1<l.2.1:=by
  by_cases k:s.2=0;rw[G k];exact q1.1;have j:(s.2-1).toNat<x.2.2.1.length:=by omega
  have n:x.2.2.1[(s.2-1).toNat]? =some x.2.2.1[(s.2-1).toNat]:=Az j
  have:=a6.2 (s.2-1).toNat _ l (by omega) n (by have:(s.2-1).toNat+1=s.2.toNat:=by omega
                                                rw[this];exact g.1)
  rw[H _ (by omega) n];exact this
 refine AC (λa=>absurd a (by omega)) (λ_=>?_);refine AC (λa=>absurd a (by have:=q1.2;omega)) (λ_=>AA ⟨⟨by dsimp only;omega,by dsimp only;omega,λk=>?_,λf m d=>?_⟩,by dsimp only;omega⟩);dsimp only at k;omega;dsimp only at d⊢;have A:(s.2+1-1).toNat=s.2.toNat:=by omega
 rw[A,g.1]at d;injection d with d;rw[d];obtain⟨u,rfl⟩:=hr;exact BC (AA rfl)
def R8{x:AK×Aj×Int×Int}(h:VB x.1)(c:D2 x.2.1)(e:0<=x.2.2.1/\x.2.2.1<x.1.2.1/\0<=x.2.2.2):Ay (ON x) λr=>r=0:=by unfold ON;refine AB (J1 h) λv d=>?_;refine AO (λa=>?_) (λ_=>?_);rw[d]at a;cases a;refine AB (Wq c) λf b=>?_;refine AO (λa=>?_) (λ_=>?_);rw[b]at a;cases a;refine AC (λa=>absurd a (by omega)) (λ_=>?_);refine AC (λa=>absurd a (by omega)) (λ_=>?_);exact AC (λa=>absurd a (by omega)) (λ_=>AA rfl)
def X3{x p:Bb}{c:Bb×Int×Int}{k:Nat}(h:CS x p c)(o:x.length<=1099511627776)(q:1<=k)(m:k<=8):Ay (Bi c (k:Int)) λr=>CS x (p++EZ r.1 k) r.2/\(r.2.2.2=0->Wz k r.1)/\(c.2.2≠0->r=(0,c)):=by obtain⟨s,i,e⟩:=c;obtain⟨j,l⟩:=h;subst j;refine AL (λd=>AA ⟨⟨rfl,λb=>absurd b d⟩,λb=>absurd b d,λ_=>rfl⟩) (λd=>?_);subst d;obtain⟨a,hr,n⟩:=l rfl;subst hr n;rw[Ag]at o;rw[bQ (by omega) (by omega) (by omega)];by_cases g:(k:Int)<=a.length;rw[if_pos g,AI,DD];obtain⟨q1,q2⟩:=kp (t:=a) (k:=k) (by omega) m;refine AA ⟨⟨rfl,λ_=>⟨a.drop k,?_,?_⟩⟩,λ_=>q1,λf=>absurd rfl f⟩;simp_all;dsimp only;rw[AW,Ag,BN];omega;rw[if_neg g,AI];exact AA ⟨⟨rfl,λb=>absurd (show(5:Int)=0 from b) (by decide)⟩,λb=>absurd (show(5:Int)=0 from b) (by decide),λf=>absurd rfl f⟩
def xI{x p:Bb}{c:Bb×Int×Int}{n:Int}(h:CS x p c)(l:x.length<=1099511627776)(hn:c.2.2=0->0<=n/\n<4294967296):Ay (Em c n) λr=>CS x (p++r.1) r.2/\(r.2.2.2=0->(r.1.length:Int)=n/\c.2.2=0):=by
 obtain⟨s,f,e⟩:=c;obtain⟨g,i⟩:=h;subst g;unfold Em;by_cases d:e=0;subst d;obtain⟨a,hr,j⟩:=i rfl;obtain⟨o,t⟩:=hn rfl;subst hr j;obtain⟨m,rfl⟩:=Eb o;rw[Ag]at l;rw[show wi (((p++a).length:Int)-(p.length:Int))=a.length by rw[Ag,AW];omega];by_cases q:(m:Int)<=a.length;rw[decide_eq_false (by omega),cond_false,AI,show((0:Int) !=0)=false by decide,cond_false];have k:Rp (p++a) (wi (wi ((p.length:Int)+(m:Int))-(m:Int))) (wi ((p.length:Int)+(m:Int)))=some (a.take m):=by rw[AW (x:=(p.length:Int)+(m:Int)),AW];unfold Rp;rw[if_pos (by grind),show((p.length:Int)+(m:Int)-(m:Int)).toNat=p.length by omega,RG,show((p.length:Int)+(m:Int)).toNat-p.length=m by omega]
 rw[k,AI];refine AA ⟨⟨rfl,λ_=>⟨a.drop m,?_,?_⟩⟩,λ_=>⟨?_,by grind⟩⟩;simp_all;dsimp only;rw[AW,Ag,CH];omega;grind;rw[decide_eq_true (by omega),cond_true,AI,show((5:Int) !=0)=true by decide,cond_true];exact AA ⟨⟨rfl,λb=>absurd (show(5:Int)=0 from b) (by decide)⟩,λb=>absurd (show(5:Int)=0 from b) (by decide)⟩;rw[beq_false_of_ne d,cond_false,bne_iff_ne.2 d,cond_true];exact AA ⟨⟨rfl,λb=>absurd b d⟩,λb=>absurd b d⟩
theorem xG{x p:Bb}{c:Bb×Int×Int}(h:CS x p c)(j:x.length<=1099511627776):Ay (El c ()) λr=>CS x (p++Rz r.1) r.2/\(r.2.2.2=0->HS r.1):=by
 refine AB (X3 (k:=1) h j (by decide) (by decide)) λv o=>?_;obtain⟨⟨g,l⟩,s,z⟩:=o;refine AL (λd=>AA ⟨⟨g,λa=>absurd a d⟩,λa=>absurd a d⟩) (λd=>?_);obtain⟨f,hr,i⟩:=l d;have y:=(s d).1 (by decide);refine AQ (λb=>AA ⟨⟨g,λ_=>⟨f,?_,?_⟩⟩,λ_=>⟨B7 _,.inr rfl⟩⟩) (λb=>?_);dsimp only;rw[b]at hr;exact hr;dsimp only;rw[b]at i;exact i;refine AC (λ_=>AA ⟨⟨g,λa=>absurd (show(4:Int)=0 from a) (by decide)⟩,λa=>absurd (show(4:Int)=0 from a) (by decide)⟩) (λn=>AB (xI (x:=x) (p:=p++EZ v.1 1) ⟨g,l⟩ j (λ_=>⟨by omega,by omega⟩)) λw q=>AA ?_);obtain⟨⟨t,A⟩,u⟩:=q;refine⟨⟨t,λa=>?_⟩,λa=>?_⟩;dsimp only at a⊢;obtain⟨m,_⟩:=u a;have e:Rz (true,w.1)=EZ v.1 1++w.1:=by unfold Rz;rw[cond_true,m]
 grind;dsimp only at a⊢;exact⟨by grind,.inl rfl⟩
def Vt{x p a:Bb}{n:Int}{k:Nat}(c:x=p++(EZ n k++a))(f:x.length<=1099511627776)(e:1<=k)(d:k<=8)(hn:Wz k n):Bi (x,((p.length:Int),0)) (k:Int)=some (n,(x,(((p++EZ n k).length:Int),0))):=by
 have b:=congrArg List.length c;simp only[Ag,BN]at b;unfold Bi;dsimp only;rw[show((0:Int) !=0)=false by decide,cond_false];conv=>lhs;arg 1;rw[c]
 rw[bQ (by grind) (by omega) (by omega),if_pos (by grind),AI,DD,O6 (BN _ _),jU d hn];rw[Ag,BN];rw[AW];rfl
def xH{x p w a:Bb}(c:x=p++(w++a))(e:x.length<=1099511627776):Em (x,((p.length:Int),0)) (w.length:Int)=some (w,(x,(((p++w).length:Int),0))):=by
 have b:=congrArg List.length c;simp at b;unfold Em;rw[show decide (wi ((x.length:Int)-(p.length:Int))<(w.length:Int))=false from decide_eq_false (by rw[AW];omega),cond_false];rw[AI,show((0:Int) !=0)=false by decide,cond_false];dsimp only;have d:Rp x (wi (wi ((p.length:Int)+(w.length:Int))-(w.length:Int))) (wi ((p.length:Int)+(w.length:Int)))=some w:=by rw[AW (x:=(p.length:Int)+(w.length:Int)),AW];unfold Rp;rw[if_pos (by omega),c,show((p.length:Int)+(w.length:Int)-(w.length:Int)).toNat=p.length by omega,RG,show((p.length:Int)+(w.length:Int)).toNat-p.length=w.length by omega,Zo]
 rw[d,AI,AW,Ag];rfl
def xF{x p a:Bb}{c:FG}(e:x=p++(Rz c++a))(f:x.length<=1099511627776)(j:HS c):El (x,((p.length:Int),0)) ()=some (c,(x,(((p++Rz c).length:Int),0))):=by
 obtain⟨b,d⟩:=c;obtain⟨h,i⟩:=j;dsimp only at h i;unfold El;cases b with
 |false=>
  have k:d=[]:=by grind
  subst k;rw[show(1:Int)=((1:Nat):Int)from rfl,Vt e f (by decide) (by decide) ⟨λ_=>by decide,by decide,by decide⟩];rfl
 |true=>have g:Rz (true,d)=EZ (d.length:Int) 1++d:=rfl;rw[g,Ax]at e;rw[g];rw[show(1:Int)=((1:Nat):Int)from rfl,Vt e f (by decide) (by decide) ⟨λ_=>by grind,by omega⟩,AI];rw[show((0:Int) !=0)=false by decide,cond_false,show((d.length:Int)==255)=false by grind,cond_false,decide_eq_false (by omega),cond_false];rw[xH (by rw[e,Ax]) f,AI,Ax]
def AA4{x:Bb}(a:x.length<=1099511627776):Ay (Is x) λr=>r.2=0->x=Br r.1/\HS r.1.2.2.2.2.2.2.1.2.2.1/\HS r.1.2.2.2.2.2.2.1.2.2.2/\Wz 4 (r.1.2.2.2.2.2.2.2.length:Int)/\Gw r.1=some true:=by
 unfold Is;have I:CS x [] (x,(0,0)):=⟨rfl,λ_=>⟨x,rfl,rfl⟩⟩
 refine AB (X3 (k:=8) I a (by decide) (by decide)) λO y=>?_;refine AB (X3 (k:=1) y.1 a (by decide) (by decide)) λP z=>?_;refine AB (X3 (k:=4) z.1 a (by decide) (by decide)) λQ A=>?_;refine AB (X3 (k:=8) A.1 a (by decide) (by decide)) λR B=>?_;refine AB (X3 (k:=8) B.1 a (by decide) (by decide)) λS C=>?_;refine AB (X3 (k:=8) C.1 a (by decide) (by decide)) λT D=>?_;refine AB (X3 (k:=4) D.1 a (by decide) (by decide)) λU E=>?_;refine AB (X3 (k:=1) E.1 a (by decide) (by decide)) λV F=>?_;refine EM (xG F.1 a) λq M o=>?_;refine EM (xG o.1 a) λs w p=>?_;refine AB (X3 (k:=4) p.1 a (by decide) (by decide)) λj b=>?_;refine AB (xI (n:=j.1) b.1 a (λc=>?_)) λJ f=>?_;have:=(b.2.1 c).1 (by decide);rw[show(256:Int)^4=4294967296 by decide]at this;exact this;refine AL (λh=>AA λc=>absurd c h) (λh=>?_);refine AL (λ_=>AA λc=>absurd c (by decide)) (λG=>?_);refine EM (LD) λK i _=>?_;refine AO (λ_=>AA λc=>absurd c (by decide)) (λH=>AA λ_=>?_);subst H;obtain⟨q11,d⟩:=f.2 h;have l:s.2.2.2=0:=RF λe=>by have:=b.2.2 e;rw[this]at d;exact e d
 have u:=p.2 l;have L:q.2.2.2=0:=RF λe=>by
  have:s=((false,[]),q.2):=by have:=w;unfold El Bi at this;rw[bne_iff_ne.2 e,cond_true,AI,bne_iff_ne.2 e,cond_true]at this;injection this with this;exact this.symm
  rw[this]at l;exact e l
 have t:=o.2 L;obtain⟨g,m,N⟩:=f.1.2 h;have hr:g=[]:=by simp only[len]at G;have v:=congrArg List.length m;rw[Ag]at v;exact EJ (by omega)
 subst hr;refine⟨?_,t,u,?_,i⟩;rw[m];unfold Br;dsimp only;rw[q11];simp only[Ax,CD,Dn];dsimp only;rw[q11];exact b.2.1 d
def AA3{e:AD}(h:OF e):Is (Br e)=some (e,0):=by
 obtain⟨s,t,H,w,y,z,A,B,C,D,E⟩:=h.cells;have I:=R1 h;have g:Wz 4 (e.2.2.2.2.2.2.2.length:Int):=⟨λ_=>by rw[show(256:Int)^4=4294967296 by decide];omega,by omega⟩
 have a:Br e=[]++(EZ e.1 8++(EZ e.2.1 1++(EZ e.2.2.1 4++(EZ e.2.2.2.1 8++(EZ e.2.2.2.2.1 8++(EZ e.2.2.2.2.2.1 8++(EZ e.2.2.2.2.2.2.1.1 4++(EZ e.2.2.2.2.2.2.1.2.1 1++
 (Rz e.2.2.2.2.2.2.1.2.2.1++(Rz e.2.2.2.2.2.2.1.2.2.2++(EZ (e.2.2.2.2.2.2.2.length:Int) 4++(e.2.2.2.2.2.2.2++[])))))))))))):=by rw[Dn];rfl
 generalize Br e=x at*;have i:Bi (x,(((0:Int)),0)) 8=_:=Vt (p:=[]) (k:=8) a (by omega) (by decide) (by decide) w;rw[CD]at i;rw[CD]at a;have j:=Vt (k:=1) a (by omega) (by decide) (by decide) y;rw[<-Ax]at a;have l:=Vt (k:=4) a (by omega) (by decide) (by decide) z;rw[<-Ax]at a;have m:=Vt (k:=8) a (by omega) (by decide) (by decide) A;rw[<-Ax]at a;have n:=Vt (k:=8) a (by omega) (by decide) (by decide) B;rw[<-Ax]at a;have o:=Vt (k:=8) a (by omega) (by decide) (by decide) C;rw[<-Ax]at a;have q:=Vt (k:=4) a (by omega) (by decide) (by decide) D;rw[<-Ax]at a;have r:=Vt (k:=1) a (by omega) (by decide) (by decide) E;rw[<-Ax]at a;have F:=xF a (by omega) s;rw[<-Ax]at a;have G:=xF a (by omega) t;rw[<-Ax]at a;have c:=Vt (k:=4) a (by omega) (by decide) (by decide) g;rw[<-Ax]at a;have d:=xH a (by omega);rw[Dn]at a;rw[<-a]at d;unfold Is;rw[i,AI];rw[show((1:Nat):Int)=1 from rfl]at j r;rw[show((4:Nat):Int)=4 from rfl]at l q c;rw[show((8:Nat):Int)=8 from rfl]at m n o;rw[j,AI,l,AI,m,AI,n,AI,o,AI,q,AI,r,AI,F,AI,G,AI,c,AI,d,AI];obtain⟨b,u,v⟩:=LD (x:=e);have f:b=true:=v h;subst f;dsimp only[len];rw[show((0:Int) !=0)=false by decide,cond_false,bne_self_eq_false,cond_false];rw[show(e.1,(e.2.1,(e.2.2.1,(e.2.2.2.1,(e.2.2.2.2.1,(e.2.2.2.2.2.1,((e.2.2.2.2.2.2.1.1,(e.2.2.2.2.2.2.1.2.1,(e.2.2.2.2.2.2.1.2.2.1,e.2.2.2.2.2.2.1.2.2.2))),e.2.2.2.2.2.2.2)))))))=e from rfl,u,AI,Ea,cond_false]
def sY{a v i:Int}(f:0≤i)(c:i<8)(e:0≤a)(b:a<2^(8*i.toNat))(g:0≤v)(d:v<256):
  0<=IntKind.wrap .u64 (((BitVec.toNat ((BitVec.ofInt 64 a)|||(BitVec.ofInt 64 (IntKind.wrap .u64 ((IntKind.wrap .u64 v)*(2^(min (Int.toNat (wi (8*i))) 64))))))):Nat):Int)/\
  IntKind.wrap .u64 (((BitVec.toNat ((BitVec.ofInt 64 a)|||(BitVec.ofInt 64 (IntKind.wrap .u64 ((IntKind.wrap .u64 v)*(2^(min (Int.toNat (wi (8*i))) 64))))))):Nat):Int)<2^(8*(wi (i+1)).toNat):=by
 have h:=qI f c e b g d;rw[(by rw[(AW),S2];omega:IntKind.wrap .u64 (wi (8*i))=wi (8*i))]at h;exact h
def zP{n:Int}(h:n<=1):(2:Int)^(8*n.toNat)<=256:=by
 have:n.toNat=0\/n.toNat=1:=by omega
 rcases this with h|h<;>rw[h]<;>decide
def Ic{x:Bb×Int×Int}(h:x.1.length<=2199023255552):Ay (CN x) λr=>(r.2=0->0<=x.2.1/\x.2.1+x.2.2<=x.1.length/\(x.2.2<=4->0<=r.1/\r.1<4294967296)/\(x.2.2<=1->r.1<256))/\(r.2≠0->r.1=0):=by
 unfold CN;refine AC (λ_=>AA ⟨λb=>absurd b (by decide),λ_=>rfl⟩) (λo=>?_);refine AC (λ_=>AA ⟨λb=>absurd b (by decide),λ_=>rfl⟩) (λp=>?_);refine AC (λ_=>AA ⟨λb=>absurd b (by decide),λ_=>rfl⟩) (λq=>?_);refine AC (λ_=>AA ⟨λb=>absurd b (by decide),λ_=>rfl⟩) (λf=>?_);simp[len]at f⊢;rw[(AW (x:=(x.1.length:Int)-x.2.1))];refine AC (λ_=>AA ⟨λb=>absurd b (by decide),λ_=>rfl⟩) (λt=>?_);refine AB (P:=λr=>0<=r/\r<2^(8*x.2.2.toNat)) ?_ λA y=>AA ⟨λ_=>⟨by omega,by omega,λg=>?_,λc=>?_⟩,λb=>absurd rfl b⟩;refine AM (λ(s:Int×Int)=>0<=s.2/\s.2<=x.2.2/\0<=s.1/\s.1<2^(8*s.2.toNat)) (λ(s:Int×Int)=>(x.2.2-s.2).toNat) ⟨Ae _,by dsimp only;omega,Ae _,by dsimp only;decide⟩ (λs j=>?_);have⟨m,z,d,e⟩:=j;unfold R6;refine AC (λk=>?_) (λk=>AA ⟨d,?_⟩);rw[(AW (x:=x.2.1+s.2))];refine AB (Pe (by omega) (by omega)) λn c=>?_;refine AC (λl=>?_) (λ_=>AA ?_);grind[AW];have⟨u,w⟩:=sY (a:=s.1) (v:=n) (i:=s.2) m (by omega) d e c.1 c.2;grind[AW];have:s.2=x.2.2:=by omega
 rw[<-this];exact e;have:=uG g;grind[AW];have:=zP c;grind[AW]
def jd(a:BitVec 32):0<=IntKind.wrap .u32 (((BitVec.toNat (a&&&BitVec.ofInt 32 15):Nat)):Int)/\IntKind.wrap .u32 (((BitVec.toNat (a&&&BitVec.ofInt 32 15):Nat)):Int)<16:=by grind[rJ,BitVec.toNat_and,BitVec.ofInt,Nat.and_le_right]
theorem dK{x:Unit}:Ay (J2 x) λr=>True:=by unfold J2;refine AB (P:=λ_=>True) ?_ λv _=>AA trivial;refine AM (λ(s:Int×(Fin (15+1)->(Ty.int IntKind.u32).D))=>0<=s.1/\s.1<=16) (λ(s:Int×(Fin (15+1)->(Ty.int IntKind.u32).D))=>(16-s.1).toNat) ⟨Ae _,by decide⟩ (λs a=>?_);have⟨c,d⟩:=a;unfold So;refine AC (λb=>?_) (λ_=>AA trivial);refine AB (P:=λ_=>True) ?_ λg _=>?_;refine AM (λ(s:Int×Int)=>0<=s.2/\s.2<=4) (λ(s:Int×Int)=>(4-s.2).toNat) ⟨Ae _,by dsimp only;omega⟩ (λs a=>?_);have⟨e,f⟩:=a;unfold KH;rw[(AW (x:=s.2+1) (by omega))];refine AC (λb=>?_) (λ_=>AA trivial);refine AB (P:=λ_=>True) (AF (λ_=>AA trivial) (λ_=>AA trivial)) λv _=>AA ⟨⟨by dsimp only;omega,by dsimp only;omega⟩,by dsimp only;omega⟩;rw[(AW (x:=s.1+1) (by omega))];refine AB (Dh c b) λh _=>?_;exact AB (Dh c b) λi _=>AA ⟨⟨by dsimp only;omega,by dsimp only;omega⟩,by dsimp only;omega⟩
theorem my{x:Bb}(h:x.length<=2199023255552):Ay (RV x) λr=>True:=by unfold RV;refine AB dK λe _=>?_;refine AB (P:=λ_=>True) ?_ λv _=>AA trivial;refine AM (λ(s:Int×Int)=>0<=s.2/\s.2<=x.length) (λ(s:Int×Int)=>((x.length:Int)-s.2).toNat) ⟨Ae _,by dsimp only;omega⟩ (λs b=>?_);have⟨c,d⟩:=b;unfold R7;rw[(AW (x:=s.2+1) (by omega))];refine AC (λa=>?_) (λ_=>AA trivial);simp[len]at a;refine AB (Pe c a) λf _=>?_;refine AB (Dh (jd _).1 (jd _).2) λg _=>?_;refine AB (Dh (jd _).1 (jd _).2) λi _=>?_;refine AB (Dh (jd _).1 (jd _).2) λj _=>?_;refine AB (Dh (jd _).1 (jd _).2) λk _=>AA ⟨⟨by dsimp only;omega,by dsimp only;omega⟩,by dsimp only;omega⟩
theorem Wp{x:Bb×Int}(h:x.1.length<=2199023255552):Ay (FW x) λr=>r.2.2=0->r.1.length<=8392/\x.2+8+r.1.length=r.2.1/\0<=x.2/\r.2.1<=x.1.length:=by unfold FW;refine AC (λ_=>AA λa=>absurd a (by decide)) (λg=>?_);refine AC (λ_=>AA λa=>absurd a (by decide)) (λe=>?_);simp[len]at e;refine AB (Ic h) λd f=>?_;refine AL (λb=>AA λa=>absurd a b) (λc=>?_);have⟨a1,a2,a3,_⟩:=f.1 c;have a5:=a3 (by dsimp only;omega);dsimp only at a2;refine AC (λ_=>AA λa=>absurd a (by decide)) (λi=>?_);rw[(AW (x:=x.2+4)),(AW (x:=x.2+4+d.1)),(AW (x:=x.2+4+d.1+4))];refine AB (Ic h) λk j=>?_;grind[AL,AA,AB,Dr,my]
def cQ{x:Bb×Bb}:Ay (Hu x) λr=>True:=by unfold Hu Ft;refine AB (P:=λ_=>True) ?_ λv _=>AA trivial;refine AC (λa=>?_) (λ_=>AA trivial);simp[len]at a;exact AB (Dr (Ae _) (by simp only[len];omega) (by simp[len];omega)) λv _=>AA trivial
def RB(b:FU):Prop:=b.1.length<=2199023255552/\0<=b.2.1/\b.2.1<=b.1.length
def DE{b:FU}{x:Int}(h:RB b)(j:1<=x/\x<=8):Ay (Bi b x) λr=>RB r.2/\(x<=4->0<=r.1/\r.1<4294967296):=by have⟨a1,a2,a3⟩:=id h;unfold Bi;refine AL (λ_=>AA ⟨h,λ_=>by dsimp only;omega⟩) (λ_=>?_);refine AB (Ic (by exact a1)) λf a=>?_;dsimp only at a;refine AB (P:=λr=>RB r) ?_ λk d=>AA ⟨d,λe=>?_⟩;refine AQ (λc=>AA ?_) (λ_=>AA ⟨a1,a2,a3⟩);have⟨g,i,_⟩:=a.1 c;rw[AW];exact⟨a1,by dsimp only;omega⟩;by_cases c:f.2=0<;>grind
theorem Sq{b:FU}{x:Int}(h:RB b)(n:0<=x/\x<4294967296):Ay (Em b x) λr=>RB r.2:=by have⟨a1,a2,a3⟩:=id h;unfold Em;refine AQ (λd=>?_) (λl=>?_);rw[(AW (x:=len b.1-b.2.1) (by simp[len];omega))];refine AB (P:=λr=>RB r/\(r.2.2=0->r.2.1+x<=r.1.length)) ?_ λe j=>?_;refine AC (λ_=>AA ⟨⟨a1,a2,a3⟩,λd=>absurd d (by dsimp only;decide)⟩) (λk=>AA ⟨h,λ_=>?_⟩);simp[len]at k;omega;have⟨⟨c,f,g⟩,i⟩:=j;refine AL (λ_=>AA ⟨c,f,g⟩) (λa=>?_);have m:=i a;rw[(AW (x:=e.2.1+x)),(AW (x:=e.2.1+x-x))];exact AB (Dr) λo _=>AA ⟨c,by dsimp only;omega⟩;grind[AL,AA]
def Sp{b:FU}{x:Unit}(h:RB b):Ay (El b x) λr=>RB r.2:=by unfold El;refine AB (DE h (by decide)) λc a=>?_;refine AL (λ_=>AA a.1) (λ_=>?_);refine AQ (λ_=>AA a.1) (λ_=>?_);have q:=a.2 (by decide);refine AC (λ_=>AA a.1) (λ_=>?_);grind[AB,Sq,AA]
theorem jE{x:Bb}(h:x.length<=2199023255552):Ay (Is x) λr=>True:=by unfold Is;refine AB (DE (b:=(x,(0,0))) ⟨h,Ae _,by dsimp only;omega⟩ (by decide)) λs c=>?_;refine AB (DE c.1 (by decide)) λt d=>?_;refine AB (DE d.1 (by decide)) λu f=>?_;refine AB (DE f.1 (by decide)) λv g=>?_;refine AB (DE g.1 (by decide)) λw i=>?_;refine AB (DE i.1 (by decide)) λy j=>?_;refine AB (DE j.1 (by decide)) λz k=>?_;refine AB (DE k.1 (by decide)) λA l=>?_;refine AB (Sp l.1) λB m=>?_;refine AB (Sp m) λC n=>?_;refine AB (DE n (by decide)) λo a=>?_;refine AB (Sq a.1 (a.2 (by decide))) λp e=>?_;refine AL (λ_=>AA trivial) (λ_=>?_);refine AL (λ_=>AA trivial) (λ_=>?_);refine AB LD λq _=>?_;exact AO (λ_=>AA trivial) (λ_=>AA trivial)
theorem Md{x:Int×Int}:Ay (EO x) λr=>True:=by unfold EO EK;refine BE (BE ?_);refine AF (λ_=>AF (λ_=>AA trivial) (λ_=>AA trivial)) (λ_=>AF (λ_=>AA trivial) (λ_=>?_));exact AC (λ_=>AA trivial) (λ_=>AC (λ_=>AA trivial) (λ_=>AA trivial))
theorem dJ{x:List Int}(h:x.length<=16777216):Ay (Ja x) λr=>True:=by unfold Ja;refine AB (P:=λ_=>True) ?_ λv _=>A2 (λ_ _=>AA trivial) (λ_ _=>AA trivial);refine AM (λ(s:Int)=>0<=s/\s<=x.length) (λ(s:Int)=>((x.length:Int)-s).toNat) ⟨Ae _,by omega⟩ (λs a=>?_);have⟨c,d⟩:=a;unfold JN;rw[(AW (x:=s+1))];refine AC (λb=>?_) (λ_=>AA trivial);grind[AB,AE,AL,AA]
def gl{x:AU}:Ay (LF x) λr=>r=true->1<=x.1/\x.1<=x.2.1/\x.2.1<=1099511627776/\0<=x.2.2.1/\x.2.2.1<=x.2.2.2.1/\x.2.2.2.1<64/\0<=x.2.2.2.2.1/\x.2.2.2.2.1<=8:=by
 unfold LF;repeat' with_reducible first|apply AC<;>intro a|apply AF<;>intro a|apply AA
 all_goals grind
def gh{x:AD}:Ay (A5 x) λr=>True:=by grind[A5,AQ,AA]
def kS{x:AU×AD}:Ay (OW x) λr=>True:=by unfold OW;refine AB gh λv _=>?_;refine AF (λ_=>?_) (λ_=>AA trivial);refine AC (λ_=>?_) (λ_=>AA trivial);refine AC (λ_=>?_) (λ_=>AA trivial);exact AC (λ_=>AA trivial) (λ_=>AA trivial)
def jF{x:AD×AD}:Ay (NS x) λr=>True:=by unfold NS;grind[AB,Md,dJ,AA]
theorem lk{x:AU}:Ay (SM x) λr=>r=true->X7 x:=by
 unfold SM;refine AB gl λj d=>?_;refine AO (λ_=>AA λb=>by cases b) (λa=>?_);have hn:=d a;refine AC (λ_=>AA λb=>by cases b) (λf=>?_);simp[len]at f;have q:X7 x:=⟨hn.1,hn.2.1,hn.2.2.1,hn.2.2.2.1,hn.2.2.2.2.1,hn.2.2.2.2.2.1,hn.2.2.2.2.2.2.1,hn.2.2.2.2.2.2.2,by omega⟩
 refine AB (P:=λ_=>True) ?_ λv _=>A2 (λ_ _=>AA λ_=>q) (λ_ _=>AA λ_=>q);refine AM (λ(s:Int)=>0<=s/\s<=x.2.2.2.2.2.length) (λ(s:Int)=>((x.2.2.2.2.2.length:Int)-s).toNat) ⟨Ae _,by omega⟩ (λs e=>?_);have⟨h,i⟩:=e;unfold Qr;rw[(AW (x:=s+1) (by omega)),(AW (x:=s-1) (by omega))];refine AC (λa=>?_) (λ_=>AA trivial);simp[len]at a;have c:((0<=s+1/\s+1<=x.2.2.2.2.2.length)/\((x.2.2.2.2.2.length:Int)-(s+1)).toNat<((x.2.2.2.2.2.length:Int)-s).toNat):=⟨⟨by omega,by omega⟩,by omega⟩
 refine AB (AE h a) λk _=>?_;refine AB LD λl _=>?_;refine AO (λ_=>AA trivial) (λ_=>?_);refine AB kS λm _=>?_;refine AO (λ_=>AA trivial) (λ_=>?_);refine AQ (λ_=>AC (λ_=>AA trivial) (λ_=>AA c)) (λg=>?_);refine AB (AE (by omega) (by omega)) λn _=>?_;refine AC (λ_=>AC (λ_=>AA trivial) (λ_=>AA c)) (λ_=>?_);refine AB (AE (by omega) (by omega)) λo _=>?_;refine AB jF λp _=>?_;refine AC (λ_=>AA trivial) (λ_=>?_);exact AL (λ_=>AA trivial) (λ_=>AA c)
def kR{x:Bb}(h:x.length<=2199023255552):Ay (Jo x) λr=>r.2=0->X7 r.1:=by
 unfold Jo;refine AB (Wp (by exact h)) λp k=>?_;refine AL (λf=>AA λa=>absurd a f) (λg=>?_);have⟨a1,a2,a3,a4⟩:=k g;dsimp only at a1 a2 a3 a4;refine AL (λ_=>AA λa=>absurd a (by decide)) (λl=>?_);refine AB cQ λy _=>?_;refine AO (λ_=>AA λa=>absurd a (by decide)) (λ_=>?_);have b:p.1.length<=2199023255552:=by omega
 refine AB (Ic b) λz _=>?_;refine AB (Ic b) λA _=>?_;refine AB (Ic b) λB _=>?_;refine AB (Ic b) λC _=>?_;refine AB (Ic b) λD _=>?_;refine AB (Ic b) λi _=>?_;refine AO (λ_=>AA λa=>absurd a (by decide)) (λm=>?_);have n:i.1<=4096:=by simpa using m
 refine AB (P:=λr=> ∀u,r= .inl u->u.1≠0) ?_ λr hr=>A2 (λu c=>AA λa=>absurd a (hr u c)) (λu c=>?_);refine AM (λ(s:Int×(Int×((List AD)×(Int×(Int×(Int×(Int×(Int×AU))))))))=>0<=s.2.1/\(s.2.1<=i.1\/s.2.1=0)/\s.2.2.1.length<=s.2.1) (λ(s:Int×(Int×((List AD)×(Int×(Int×(Int×(Int×(Int×AU))))))))=>(i.1-s.2.1).toNat) ⟨Ae _,.inr rfl,by simp⟩ (λs o=>?_);have⟨t,v,w⟩:=o;unfold Jt;refine AC (λj=>?_) (λ_=>AA λu c=>by cases c);have e:=AW (x:=s.2.1+1);grind[AB,Wp,AL,AA,jE,Ac,List.length_cons,List.length_nil];refine AC (λ_=>AA λa=>absurd a (by decide)) (λ_=>?_);refine AB lk λq d=>?_;exact AO (λ_=>AA λa=>absurd a (by decide)) (λj=>AA λ_=>d j)
abbrev EN:=AD
def lE(a b:EN):Bool:=decide (a.1<b.1)
def oV(x y:Int):EO (x,y)=some (if x<y then-1 else if x>y then 1 else 0):=by unfold EO EK;simp only[bne_self_eq_false,AI,cond_false];by_cases a:x<y;simp[a];by_cases b:x>y;simp[a,b];simp[a,b]
def uE(a b:EN): ∃v,BT (a,b)=some v/\decide (v<0)=lE a b:=by refine⟨_,by unfold BT;rw[oV];rfl,?_⟩;unfold lE;by_cases c:a.1<b.1;simp[c];by_cases d:a.1>b.1;simp[c,d];simp[c,d]
def Un{d:Array EN}{i:Int}{k:Nat}(a:i=k)(b:k<d.size:=by omega):ix d.toList i=some d[k]! :=by subst a;unfold ix;rw[if_pos (by omega)];simp[b]
def AA9{d:Array EN}{i:Int}{k:Nat}(a:i=k)(x:EN):BR d.toList i x=(d.setIfInBounds k x).toList:=by subst a;unfold BR;simp
def fv{d:Array EN}{i j:Int}{a b:Nat}(c:i=a)(e:j=b):BR (BR d.toList i d[b]!) j d[a]! =(Sort.swp d a b).toList:=by rw[AA9 c,AA9 e];rfl
theorem Oy{x:Int}(h:0<=x/\x<=1099511627776):wi x=x:=AW ⟨by omega,by omega⟩
def eZ(k:Nat): ∀(j:Nat) (d:Array EN),(Sort.insInner lE k j d).size=d.size
 |0,_=>rfl
 |j+1,d=>by unfold Sort.insInner;split;rw[eZ k j,Sort.size_swp];rfl
theorem we{a b:Int}{k:Nat}(h:a=k): ∀(j:Nat) (d:Array EN),j<d.size->d.size<=16777216->Ad (Dv (a,b)) ((j:Int),d.toList)=some (Sort.insInner lE k j d).toList
 |0,d,hj,hd=>by
  rw[Ce];have:decide (((0:Nat):Int)>a)=false:=by simp;omega
  simp only[Dv,this,cond_false,AI,Sum.elim_inl];rfl
 |j+1,d,hj,hd=>by
  rw[Ce];have e:wi (((j+1:Nat):Int)-1)=(j:Int):=by rw[Oy (by omega)];omega
  obtain⟨v,f,g⟩:=uE d[j+1]! d[j]!;have i:ix d.toList ((j+1:Nat):Int)=some d[j+1]! :=Un rfl hj;have l:ix d.toList (j:Int)=some d[j]! :=Un rfl (by omega);have m:ix (BR d.toList ((j+1:Nat):Int) d[j]!) (j:Int)=some (d.setIfInBounds (j+1) d[j]!)[j]! :=by rw[AA9 rfl];exact Un rfl (by simp;omega)
  simp only[Dv,e,i,l,m,AI,f,g,fv rfl rfl];unfold Sort.insInner;by_cases c:j+1>k;have:decide (((j+1:Nat):Int)>a)=true:=by simp;omega
  rw[this];cases n:lE d[j+1]! d[j]! with
  |true=>simp only[cond_true,c,decide_true,PY,if_true,AI,VF];exact we h j _ (by rw[Sort.size_swp];omega) (by rw[Sort.size_swp];omega)
  |false=>simp[c]
  have:decide (((j+1:Nat):Int)>a)=false:=by simp;omega
  rw[this];simp[c]
theorem y0{a b:Int}{k m:Nat}(j:a=k)(p:b=m): ∀(n i:Nat) (d:Array EN),m-i<=n->m<=d.size->d.size<=16777216->Ad (C4 (a,b)) ((i:Int),d.toList)=some (Sort.insOuter lE k m i d).toList:=by
 intro n;induction n with
 |zero=>
  intro i d g h c;rw[Ce,Sort.insOuter];have:decide ((i:Int)<b)=false:=by simp;omega
  simp only[C4,this,cond_false];rw[if_neg (by omega)]
 |succ n o=>
  intro i d g h c;rw[Ce,Sort.insOuter];by_cases e:i<m;have:decide ((i:Int)<b)=true:=by simp;omega
  have f:wi ((i:Int)+1)=((i+1:Nat):Int):=by rw[Oy (by omega)];omega
  have l:=eZ k i d;simp only[C4,this,cond_true,we j i d (by omega) c,AI,f];rw[if_pos e];exact o (i+1) _ (by omega) (by omega) (by omega);have:decide ((i:Int)<b)=false:=by simp;omega
  simp only[C4,this,cond_false];rw[if_neg e]
theorem AAp{l:List EN}{a b:Int}{k m:Nat}(d:a=k)(e:b=m)(g:m<=l.length)(h:k<=m)(f:l.length<=16777216):DR l (a,b)=some (Sort.insertionSort lE l.toArray k m).toList:=by
 unfold DR;have c:wi (a+1)=((k+1:Nat):Int):=by rw[Oy (by omega)];omega
 dsimp only;rw[c];have:=y0 d e (m-(k+1)) (k+1) l.toArray (by omega) (by simpa using g) (by simpa using f);rw[show l.toArray.toList=l from rfl]at this;rw[this];rfl
def uA{d:Array EN}{i j:Int}{a b:Nat}{x:EN}(e:j=b)(c:b<d.size:=by omega):ix (BR d.toList i x) j=some (d.setIfInBounds i.toNat x)[b]! :=by unfold BR;rw[<-Array.toList_setIfInBounds];exact Un e (by simpa using c)
theorem xW: ∀(n i j:Nat) (d:Array EN),j-i<=n->(i<j->j<d.size)->i<=16777216->j<=16777216->Ad DA ((i:Int),((j:Int),d.toList))=some (Sort.reverseLoop i j d).toList:=by
 intro n;induction n with
 |zero=>
  intro i j d h e k l;rw[Ce,Sort.reverseLoop];have:decide ((i:Int)<(j:Int))=false:=by simp;omega
  simp only[DA,this,cond_false];rw[if_neg (by omega)]
 |succ n q=>
  intro i j d h e k l;rw[Ce,Sort.reverseLoop];by_cases c:i<j;have:decide ((i:Int)<(j:Int))=true:=by simp;omega
  have b:=e c;have f:wi ((i:Int)+1)=((i+1:Nat):Int):=by rw[Oy (by omega)];omega
  have g:wi ((j:Int)-1)=((j-1:Nat):Int):=by rw[Oy (by omega)];omega
  have m:ix d.toList (i:Int)=some d[i]! :=Un rfl (by omega);have o:ix d.toList (j:Int)=some d[j]! :=Un rfl b;have p:ix (BR d.toList (i:Int) d[j]!) (j:Int)=some (d.setIfInBounds (i:Int).toNat d[j]!)[j]! :=uA (a:=i) rfl b;simp only[DA,this,cond_true,m,o,p,AI,f,g,fv rfl rfl];rw[if_pos c];exact q (i+1) (j-1) _ (by omega) (by rw[Sort.size_swp];omega) (by omega) (by omega);have:decide ((i:Int)<(j:Int))=false:=by simp;omega
  simp only[DA,this,cond_false];rw[if_neg c]
theorem ABI{l:List EN}{a b:Int}{k m:Nat}(d:a=k)(e:b=m)(f:k<m)(h:m<=l.length)(g:l.length<=16777216):Da l (a,b)=some (Sort.reverseRange l.toArray k m).toList:=by
 unfold Da;have c:wi (b-1)=((m-1:Nat):Int):=by rw[Oy (by omega)];omega
 dsimp only;rw[c,d];have:=xW (m-1-k) k (m-1) l.toArray (by omega) (λ_=>by simp;omega) (by omega) (by omega);rw[show l.toArray.toList=l from rfl]at this;rw[this];rfl
def jY(b first:Nat): ∀(n a:Nat) (d:Array EN),b-a<=n->(Sort.siftDown lE b first a d).size=d.size:=by
 intro n;induction n with
 |zero=>intro a d h;rw[Sort.siftDown,dif_pos (by omega)]
 |succ n c=>intro a d h;rw[Sort.siftDown];split;rfl;split;split;rfl;split;rw[c _ _ (by omega),Sort.size_swp];rfl;split;rfl;rw[c _ _ (by omega),Sort.size_swp]
theorem vO{hi first:Nat}(x:Int): ∀(n b:Nat) (d:Array EN),hi-b≤n→first+hi≤d.size→d.size≤16777216→b≤16777216→
  ∃r,Ad (Cz (x,((hi:Int),(first:Int)))) ((b:Int),d.toList)=some r/\Sum.elim (λu=>u) (λu=>u) r=(Sort.siftDown lE hi first b d).toList:=by
 intro n;induction n with
 |zero=>
  intro b d D E F G;rw[Ce,Sort.siftDown,dif_pos (by omega)];have k:wi (2*(b:Int))=2*(b:Int):=Oy (by omega);have l:wi (2*(b:Int)+1)=2*(b:Int)+1:=Oy (by omega);have:decide (2*(b:Int)+1>=(hi:Int))=true:=by simp;omega
  refine⟨.inl d.toList,by simp only[Cz,k,l,this,cond_true],rfl⟩
 |succ n K=>
  intro b d D E F G;rw[Ce,Sort.siftDown];have k:wi (2*(b:Int))=2*(b:Int):=Oy (by omega);have l:wi (2*(b:Int)+1)=2*(b:Int)+1:=Oy (by omega);by_cases w:2*b+1>=hi;have:decide (2*(b:Int)+1>=(hi:Int))=true:=by simp;omega
  rw[dif_pos w];exact⟨.inl d.toList,by simp only[Cz,k,l,this,cond_true],rfl⟩
  ·rw[dif_neg w];have I:decide (2*(b:Int)+1>=(hi:Int))=false:=by simp;omega
   have y:wi (2*(b:Int)+1+1)=2*(b:Int)+1+1:=Oy (by omega);have z:wi ((first:Int)+(2*(b:Int)+1))=((first+(2*b+1):Nat):Int):=by rw[Oy (by omega)];omega
   have A:wi (((first+(2*b+1):Nat):Int)+1)=((first+(2*b+1)+1:Nat):Int):=by rw[Oy (by omega)];omega
   have B:wi ((first:Int)+(b:Int))=((first+b:Nat):Int):=by rw[Oy (by omega)];omega
   obtain⟨c,H,t,e,i⟩: ∃c:Nat,(c=2*b+1∨c=2*b+2)∧c<hi∧(if(decide (2*b+1+1<hi)&&lE d[first+(2*b+1)]! d[first+(2*b+1)+1]!)=true then c=2*b+2 else c=2*b+1)∧
     ((bif (decide (2*(b:Int)+1+1<(hi:Int)))then
      Option.bind (ix d.toList ((first+(2*b+1):Nat):Int)) λO=>
      Option.bind (ix d.toList ((first+(2*b+1):Nat):Int)) λL=>
      Option.bind (ix d.toList ((first+(2*b+1)+1:Nat):Int)) λP=>
      Option.bind (ix d.toList ((first+(2*b+1)+1:Nat):Int)) λM=>
      Option.bind (BT (L,M)) λN=>
      bif (decide (N<0))then some (2*(b:Int)+1+1)else some (2*(b:Int)+1)
     else some (2*(b:Int)+1)):Option Int)=some (c:Int):=by
    by_cases h:2*b+1+1<hi;have f:decide (2*(b:Int)+1+1<(hi:Int))=true:=by simp;omega
    obtain⟨v,m,o⟩:=uE d[first+(2*b+1)]! d[first+(2*b+1)+1]!;have q:ix d.toList ((first+(2*b+1):Nat):Int)=some d[first+(2*b+1)]! :=Un rfl (by omega);have s:ix d.toList ((first+(2*b+1)+1:Nat):Int)=some d[first+(2*b+1)+1]! :=Un rfl (by omega);cases g:lE d[first+(2*b+1)]! d[first+(2*b+1)+1]! with
    |true=>refine⟨2*b+2,.inr rfl,by omega,by simp[h,g],?_⟩;simp only[f,cond_true,q,s,AI,m,o,g];exact congrArg some (by omega)
    |false=>refine⟨2*b+1,.inl rfl,by omega,by simp[g],?_⟩;simp only[f,cond_true,q,s,AI,m,o,g,cond_false];exact congrArg some (by omega)
    have f:decide (2*(b:Int)+1+1<(hi:Int))=false:=by simp;omega
    refine⟨2*b+1,.inl rfl,by omega,by simp[h],?_⟩;simp only[f,cond_false];exact congrArg some (by omega)
   have C:wi ((first:Int)+(c:Int))=((first+c:Nat):Int):=by rw[Oy (by omega)];omega
   have q:ix d.toList ((first+b:Nat):Int)=some d[first+b]! :=Un rfl (by omega);have s:ix d.toList ((first+c:Nat):Int)=some d[first+c]! :=Un rfl (by omega);have J:ix (BR d.toList ((first+b:Nat):Int) d[first+c]!) ((first+c:Nat):Int)=some (d.setIfInBounds ((first+b:Nat):Int).toNat d[first+c]!)[first+c]! :=uA (a:=first+b) rfl (by omega);obtain⟨v,m,o⟩:=uE d[first+b]! d[first+c]!;have body:Cz (x,((hi:Int),(first:Int))) ((b:Int),d.toList)=bif !lE d[first+b]! d[first+c]! then some (.done (.inr d.toList))else some (.next ((c:Int),(Sort.swp d (first+b) (first+c)).toList)):=by simp only[Cz,k,l,y,z,A,B,I,cond_false,i,AI,C,q,s,J,m,o,fv rfl rfl]
   rw[body];have j:=K c (Sort.swp d (first+b) (first+c)) (by omega) (by rw[Sort.size_swp];omega) (by rw[Sort.size_swp];omega) (by omega);by_cases p:(decide (2*b+1+1<hi)&&lE d[first+(2*b+1)]! d[first+(2*b+1)+1]!)=true;rw[if_pos p]at e;subst e;rw[if_pos p];cases g:lE d[first+b]! d[first+(2*b+2)]! with
   |true=>simp only[Ea,cond_false,Iz,if_false];rw[dif_pos t];exact j
   |false=>simp only[YB,cond_true,if_true];exact⟨_,rfl,rfl⟩
   rw[if_neg p]at e;subst e;rw[if_neg p];cases g:lE d[first+b]! d[first+(2*b+1)]! with
   |true=>simp only[Ea,cond_false,Iz,if_false];exact j
   |false=>simp only[YB,cond_true,if_true];exact⟨_,rfl,rfl⟩
def uO{d:Array EN}{root a first:Nat}(b:first+a<=d.size)(c:d.size<=16777216)(e:root<=16777216):DP d.toList ((root:Int),((a:Int),(first:Int)))=some (Sort.siftDown lE a first root d).toList:=by
 unfold DP;obtain⟨r,q1,q2⟩:=vO (hi:=a) (first:=first) (root:Int) (a-root) root d (Ak _) b c e;dsimp only;rw[q1];cases r with
 |inl u=>exact congrArg some q2
 |inr u=>exact congrArg some q2
theorem ln{hi first:Nat}: ∀(k:Nat) (d:Array EN),first+hi≤d.size→d.size≤16777216→k≤16777216→
  Ad (Ec ((first:Int),((first+hi:Nat):Int))) ((k:Int)-1,d.toList)=some (Sort.heapBuild lE hi first k d).toList
 |0,d,h1,h2,h3=>by
  rw[Ce];have:decide ((((0:Nat):Int)-1)>=0)=false:=by simp
  simp only[Ec,this,cond_false];rfl
 |k+1,d,h1,h2,h3=>by
  rw[Ce];have a:((k+1:Nat):Int)-1=(k:Int):=by omega
  have b:wi (((first+hi:Nat):Int)-(first:Int))=(hi:Int):=by rw[Oy (by omega)];omega
  have c:wi ((k:Int)-1)=(k:Int)-1:=AW ⟨by omega,by omega⟩;have:decide ((k:Int)>=0)=true:=by simp
  have f:=jY hi first (hi-k) k d (Ak _)
  have e:Nat.beq (List.length (Sort.siftDown lE hi first k d).toList) (List.length d.toList)=true:=by simp[f]
  simp only[Ec,a,this,cond_true,b,uO h1 h2 (by omega:k<=16777216),AI,e,c];exact ln k _ (by omega) (by omega) (by omega)
theorem qM{first:Nat}(b:Int): ∀(k:Nat) (d:Array EN),first+k≤d.size→d.size≤16777216→
  Ad (Ed ((first:Int),b)) ((k:Int)-1,d.toList)=some (Sort.heapPop lE first k d).toList
 |0,d,h1,h2=>by
  rw[Ce];have:decide ((((0:Nat):Int)-1)>=0)=false:=by simp
  simp only[Ed,this,cond_false];rfl
 |k+1,d,h1,h2=>by
  rw[Ce];have c:((k+1:Nat):Int)-1=(k:Int):=by omega
  have e:wi ((first:Int)+(k:Int))=((first+k:Nat):Int):=by rw[Oy (by omega)];omega
  have f:wi ((k:Int)-1)=(k:Int)-1:=AW ⟨by omega,by omega⟩;have:decide ((k:Int)>=0)=true:=by simp
  have l:ix d.toList ((first+k:Nat):Int)=some d[first+k]! :=Un rfl (by omega);have m:ix d.toList (first:Int)=some d[first]! :=Un rfl (by omega);have n:ix (BR d.toList (first:Int) d[first+k]!) ((first+k:Nat):Int)=some (d.setIfInBounds (first:Int).toNat d[first+k]!)[first+k]! :=uA (a:=first) rfl (by omega);have j:(Sort.swp d first (first+k)).size=d.size:=Sort.size_swp _ _ _;have i:=jY k first (k-0) 0 (Sort.swp d first (first+k)) (Ak _)
  have g:Nat.beq (List.length (Sort.siftDown lE k first 0 (Sort.swp d first (first+k))).toList) (List.length d.toList)=true:=by simp[i,j]
  have h:DP (Sort.swp d first (first+k)).toList (0,((k:Int),(first:Int)))=some (Sort.siftDown lE k first 0 (Sort.swp d first (first+k))).toList:=uO (root:=0) (by omega) (by omega) (by omega);simp only[Ed,c,this,cond_true,e,l,m,n,AI,fv rfl rfl,h,g,f];exact qM b k _ (by omega) (by omega)
def Vr(a first:Nat): ∀(k:Nat) (d:Array EN),(Sort.heapBuild lE a first k d).size=d.size
 |0,_=>rfl
 |k+1,d=>by unfold Sort.heapBuild;rw[Vr a first k,jY a first _ k d (Ak _)]
theorem yx{l:List EN}{a b:Int}{k m:Nat}(h:a=k)(i:b=m)(o:k<=m)(d:m<=l.length)(c:l.length<=16777216):D7 l (a,b)=some (Sort.heapSort lE l.toArray k m).toList:=by
 subst h i;obtain⟨n,rfl⟩: ∃n,m=k+n:=⟨m-k,by omega⟩
 unfold D7;have e:wi (((k+n:Nat):Int)-(k:Int))=(n:Int):=by rw[Oy (by omega)];omega
 have f:wi ((n:Int)-1)=(n:Int)-1:=AW ⟨by omega,by omega⟩;have g:wi (Int.tdiv ((n:Int)-1) 2)=(((n-1)/2+1:Nat):Int)-1:=by
  rcases Qz n with rfl|j;rfl;have:((n:Int)-1).tdiv 2=(((n-1)/2:Nat):Int):=by rw[show(n:Int)-1=((n-1:Nat):Int) by omega];rfl
  rw[this,Oy (by omega)];omega
 dsimp only;rw[e,f,g];have q1:=ln (hi:=n) (first:=k) ((n-1)/2+1) l.toArray (by simpa using d) (by simpa using c) (by omega);rw[show l.toArray.toList=l from rfl]at q1;rw[q1];have q2:=qM (first:=k) ((k+n:Nat):Int) n (Sort.heapBuild lE n k ((n-1)/2+1) l.toArray) (by rw[Vr];simpa using d) (by rw[Vr];simpa using c);rw[AI,q2];unfold Sort.heapSort;rw[show k+n-k=n by omega];rfl
def hY{body:Int→Option (Step Int Int)}{p:EN→Bool}{d:Array EN}{j:Nat}(b: ∀i:Nat,i≤j+1→body i=some (if(decide (i≤j)&&p d[i]!)=true then .next ((i+1:Nat):Int)else .done (i:Int))):
  ∀n i:Nat,j+1-i<=n->i<=j+1->Ad body i=some ((Sort.scanUp p d j i:Nat):Int):=by
 intro n;induction n with
 |zero=>
  intro i c a;rw[Ce,b i a,Sort.scanUp];have: ¬(decide (i<=j)&&p d[i]!)=true:=by grind
  rw[if_neg this,if_neg this]
 |succ n e=>intro i c a;rw[Ce,b i a,Sort.scanUp];by_cases h:(decide (i<=j)&&p d[i]!)=true;grind;rw[if_neg h,if_neg h]
def U3{body:Int→Option (Step Int Int)}{p:EN→Bool}{d:Array EN}{i N:Nat}(b:1≤i)(a: ∀j:Nat,i≤j+1→j<N→body j=some (if(decide (i≤j)&&p d[j]!)=true then .next ((j:Int)-1)else .done (j:Int))):
  ∀j:Nat,i<=j+1->j<N->Ad body j=some ((Sort.scanDown p d i j:Nat):Int)
 |0,h1,h2=>by
  rw[Ce,a 0 h1 h2,Sort.scanDown];have: ¬(decide (i<=0)&&p d[0]!)=true:=by grind
  rw[if_neg this]
 |j+1,h1,h2=>by
  rw[Ce,a (j+1) h1 h2,Sort.scanDown];by_cases h:(decide (i<=j+1)&&p d[j+1]!)=true;rw[if_pos h,if_pos h];have:i<=j+1:=by grind
  have e:((j+1:Nat):Int)-1=(j:Int):=by omega
  rw[e];exact U3 b a j (by omega) (by omega);rw[if_neg h,if_neg h]
def uj(i j:Nat):decide ((i:Int)<=(j:Int))=decide (i<=j):=by simp
def sA(i j:Nat):decide ((i:Int)>(j:Int))=decide (i>j):=by simp
theorem kf{i:Nat}(h:i<=16777216):wi ((i:Int)+1)=((i+1:Nat):Int):=by rw[Oy (by omega)];omega
theorem rI{i:Nat}(h:i<=16777216):wi ((i:Int)-1)=(i:Int)-1:=AW ⟨by omega,by omega⟩
def Tq{c:Bool}{o:Option (Unit ⊕ Unit)}{q:Bool}{s u v:Step Int Int}(a:c=true→o=some (if q=true then .inr ()else .inl ()))(b:c=true→q=true→s=u)(d:v=v):
  Option.bind ((bif c then o else some (.inl ())):Option (Unit ⊕ Unit)) (λw=>Sum.elim (λ_=>some v) (λ_=>some s) w)=some (if(c&&q)=true then u else v):=by
 cases c with
 |false=>rfl
 |true=>
  rw[cond_true,a rfl];cases q with
  |false=>rfl
  |true=>simp only[if_true,AI,VF,PY];exact congrArg some (b rfl rfl)
theorem AAJ{a b pv:Int}{k j i:Nat}{s1:Int}{d:Array EN}(c:a=k)(e:k<d.size)(n:j<d.size)(l:d.size≤16777216)(m:i≤j+1):
  GK (a,(b,pv)) (s1,((j:Int),d.toList)) (i:Int)=some (if(decide (i<=j)&&lE d[i]! d[k]!)=true then .next ((i+1:Nat):Int)else .done (i:Int)):=by
 subst c;unfold GK;rw[uj];refine Tq (λh=>?_) (λh _=>by rw[kf (by omega)]) rfl;have h:=of_decide_eq_true h;obtain⟨v,f,g⟩:=uE d[i]! d[k]!;rw[Un rfl (show i<d.size by omega),Un rfl e];grind
theorem tZ{a b pv:Int}{k j i:Nat}{s1 s2:Int}{d:Array EN}(c:a=k)(f:k<d.size)(e:j<d.size)(m:d.size≤16777216):
  GL (a,(b,pv)) (s1,(s2,d.toList)) (i:Int) (j:Int)=some (if(decide (i<=j)&& !lE d[j]! d[k]!)=true then .next ((j:Int)-1)else .done (j:Int)):=by
 subst c;unfold GL;rw[uj];refine Tq (λh=>?_) (λh _=>by rw[rI (by omega)]) rfl;obtain⟨v,g,l⟩:=uE d[j]! d[k]!;rw[Un rfl e,Un rfl f];grind
def pL{a j b:Nat}{p:Nat->Bool}{c d e f g:Prop}(k:c/\d/\e/\(a<=j->p a=false))(l:b<=j/\f/\g/\(a<=b->0<b->(!p b)=false))(h: ¬a>b)(i:0<a):a≠b:=by grind
def zK{k:Nat}: ∀(n i j:Nat) (d:Array EN),j+1-i<=n->k<i->i<=j+1->(Sort.partLoop lE k i j d).2.size=d.size/\k<=(Sort.partLoop lE k i j d).1/\(Sort.partLoop lE k i j d).1<=j:=by
 intro n;induction n with
 |zero=>intro i j d e f g;have b:=Sort.scanUp_spec (λx=>lE x d[k]!) d j _ i rfl;have c:=Sort.scanDown_spec (λx=>!lE x d[k]!) d (Sort.scanUp (λx=>lE x d[k]!) d j i) j;rw[Sort.partLoop_eq];grind
 |succ n l=>intro i j d e f g;have b:=Sort.scanUp_spec (λx=>lE x d[k]!) d j _ i rfl;have c:=Sort.scanDown_spec (λx=>!lE x d[k]!) d (Sort.scanUp (λx=>lE x d[k]!) d j i) j;rw[Sort.partLoop_eq];revert b c;generalize Sort.scanUp (λx=>lE x d[k]!) d j i=i2;generalize Sort.scanDown (λx=>!lE x d[k]!) d i2 j=j2;intro b c;by_cases a:i2>j2;grind;rw[if_neg a];have h:=pL (p:=λt=>lE d[t]! d[k]!) b c a (by omega);obtain⟨q1,q2,q3⟩:=l (i2+1) (j2-1) (Sort.swp d i2 j2) (by omega) (by omega) (by omega);exact⟨by rw[q1,Sort.size_swp],q2,by omega⟩
theorem vD{a b pv:Int}{k:Nat}(s:a=k): ∀(n i j:Nat) (d:Array EN),j+1-i≤n→k<i→i≤j+1→j<d.size→d.size≤16777216→
  Ad (DZ (a,(b,pv))) ((i:Int),((j:Int),d.toList))=some ((((Sort.partLoop lE k i j d).1:Nat):Int),(Sort.partLoop lE k i j d).2.toList):=by
 intro n;induction n with
 |zero=>
  intro i j d z A v q r;have m:=hY (p:=λx=>lE x d[k]!) (j:=j) (d:=d) (λC h=>AAJ (b:=b) (pv:=pv) (s1:=(i:Int)) s (by omega) q r h) (j+1-i) i (Ak _) v;have g:=Sort.scanUp_spec (λx=>lE x d[k]!) d j _ i rfl;have o:=U3 (p:=λx=>!lE x d[k]!) (i:=Sort.scanUp (λx=>lE x d[k]!) d j i) (N:=d.size) (d:=d) (by omega) (λH h u=>tZ (b:=b) (pv:=pv) (s1:=(i:Int)) (s2:=(j:Int)) s (by omega) u r) j (by omega) q;have l:=Sort.scanDown_spec (λx=>!lE x d[k]!) d (Sort.scanUp (λx=>lE x d[k]!) d j i) j;rw[Ce,Sort.partLoop_eq];have c:Sort.scanUp (λx=>lE x d[k]!) d j i>Sort.scanDown (λx=>!lE x d[k]!) d (Sort.scanUp (λx=>lE x d[k]!) d j i) j:=by omega
  simp only[DZ,m,o,AI,sA,c,decide_true,cond_true,if_true]
 |succ n G=>
  intro i j d z A v q r;have m:=hY (p:=λx=>lE x d[k]!) (j:=j) (d:=d) (λC h=>AAJ (b:=b) (pv:=pv) (s1:=(i:Int)) s (by omega) q r h) (j+1-i) i (Ak _) v;have g:=Sort.scanUp_spec (λx=>lE x d[k]!) d j _ i rfl;have o:=U3 (p:=λx=>!lE x d[k]!) (i:=Sort.scanUp (λx=>lE x d[k]!) d j i) (N:=d.size) (d:=d) (by omega) (λH h u=>tZ (b:=b) (pv:=pv) (s1:=(i:Int)) (s2:=(j:Int)) s (by omega) u r) j (by omega) q;have l:=Sort.scanDown_spec (λx=>!lE x d[k]!) d (Sort.scanUp (λx=>lE x d[k]!) d j i) j;rw[Ce,Sort.partLoop_eq];revert m g o l;generalize Sort.scanUp (λx=>lE x d[k]!) d j i=f;generalize Sort.scanDown (λx=>!lE x d[k]!) d f j=e;intro m g o l;by_cases c:f>e;simp only[DZ,m,o,AI,sA,c,decide_true,cond_true,if_true];have B:=pL (p:=λt=>lE d[t]! d[k]!) g l c (by omega);have D:ix d.toList (e:Int)=some d[e]! :=Un rfl (by omega);have E:ix d.toList (f:Int)=some d[f]! :=Un rfl (by omega);have F:ix (BR d.toList (f:Int) d[e]!) (e:Int)=some (d.setIfInBounds (f:Int).toNat d[e]!)[e]! :=uA (a:=f) rfl (by omega);have w:=kf (i:=f) (by omega);have y:wi ((e:Int)-1)=((e-1:Nat):Int):=by rw[rI (by omega)];omega
  simp only[DZ,m,o,AI,sA,c,decide_false,cond_false,if_false,D,E,F,w,y,fv rfl rfl];exact G (f+1) (e-1) _ (by omega) (by omega) (by omega) (by rw[Sort.size_swp];omega) (by rw[Sort.size_swp];omega)
theorem ACI{a b pv:Int}{k m i:Nat}{l:List EN}{c f:EN}{d:Array EN}(n:BR (BR l a c) pv f=d.toList)(g:a=k)(j:b=m)(s:k<m)(t:m≤d.size)(q:d.size≤16777216)(r:i≤m-1+1):
  GI l (a,(b,pv)) c f (i:Int)=some (if(decide (i<=m-1)&&lE d[i]! d[k]!)=true then .next ((i+1:Nat):Int)else .done (i:Int)):=by
 subst g j;unfold GI;have e:wi ((m:Int)-1)=((m-1:Nat):Int):=by rw[rI (by omega)];omega
 rw[n,e,uj];refine Tq (λh=>?_) (λh _=>by rw[kf (by omega)]) rfl;have h:=of_decide_eq_true h;obtain⟨v,o,p⟩:=uE d[i]! d[k]!;rw[Un rfl (show i<d.size by omega),Un rfl (show k<d.size by omega)];grind
theorem yl{a b pv:Int}{k j i:Nat}{l:List EN}{c e:EN}{d:Array EN}(g:BR (BR l a c) pv e=d.toList)(f:a=k)(n:k<d.size)(m:j<d.size)(q:d.size≤16777216):
  GJ l (a,(b,pv)) c e (i:Int) (j:Int)=some (if(decide (i<=j)&& !lE d[j]! d[k]!)=true then .next ((j:Int)-1)else .done (j:Int)):=by
 subst f;unfold GJ;rw[g,uj];refine Tq (λh=>?_) (λh _=>by rw[rI (by omega)]) rfl;obtain⟨v,o,p⟩:=uE d[j]! d[k]!;rw[Un rfl m,Un rfl n];grind
theorem zM{l:List EN}{a b q:Int}{k m p:Nat}(D:a=k)(E:b=m)(M:q=p)(Y:k≤p)(Z:p<m)(hm:m≤l.length)(hl:l.length≤16777216):
  D0 l (a,(b,q))=some ((((Sort.partition lE l.toArray k m p).1:Nat):Int),((Sort.partition lE l.toArray k m p).2.1,(Sort.partition lE l.toArray k m p).2.2.toList)):=by
 have g:=D;have v:=E;subst D E M;unfold D0;have O:l.toArray.size=l.length:=by simp
 have P:ix l (p:Int)=some l.toArray[p]! :=Un (d:=l.toArray) rfl (by omega);have f:ix l (k:Int)=some l.toArray[k]! :=Un (d:=l.toArray) rfl (by omega);have Q:ix (BR l (k:Int) l.toArray[p]!) (p:Int)=some (l.toArray.setIfInBounds (k:Int).toNat l.toArray[p]!)[p]! :=uA (d:=l.toArray) (a:=k) rfl (by omega);have s:BR (BR l (k:Int) l.toArray[p]!) (p:Int) l.toArray[k]! =(Sort.swp l.toArray k p).toList:=fv (d:=l.toArray) rfl rfl;have F:(Sort.swp l.toArray k p).size=l.length:=by rw[Sort.size_swp,O]
 have G:=kf (i:=k) (by omega);have H:wi ((m:Int)-1)=((m-1:Nat):Int):=by rw[rI (by omega)];omega
 unfold Sort.partition;dsimp only;simp only[P,f,Q,AI,G,H];revert s F;generalize Sort.swp l.toArray k p=d;intro s F;have T:=hY (p:=λx=>lE x d[k]!) (j:=m-1) (d:=d) (λi' h=>ACI (b:=(m:Int)) (pv:=(p:Int)) s g v (by omega) (by omega) (by omega) h) (m-1+1-(k+1)) (k+1) (Ak _) (by omega);have z:=Sort.scanUp_spec (λx=>lE x d[k]!) d (m-1) _ (k+1) rfl;have U:=U3 (p:=λx=>!lE x d[k]!) (i:=Sort.scanUp (λx=>lE x d[k]!) d (m-1) (k+1)) (N:=d.size) (d:=d) (by omega) (λj' h K=>yl (b:=(m:Int)) (pv:=(p:Int)) s g (by omega) K (by omega)) (m-1) (by omega) (by omega);have A:=Sort.scanDown_spec (λx=>!lE x d[k]!) d (Sort.scanUp (λx=>lE x d[k]!) d (m-1) (k+1)) (m-1);rw[T,AI,U,AI];revert z A;generalize Sort.scanUp (λx=>lE x d[k]!) d (m-1) (k+1)=f;generalize Sort.scanDown (λx=>!lE x d[k]!) d f (m-1)=e;intro z A;rw[s,sA];have R:ix d.toList (k:Int)=some d[k]! :=Un rfl (by omega);have o:ix d.toList (e:Int)=some d[e]! :=Un rfl (by omega);by_cases n:f>e;have y:ix (BR d.toList (e:Int) d[k]!) (k:Int)=some (d.setIfInBounds (e:Int).toNat d[k]!)[k]! :=uA (a:=e) rfl (by omega);simp only[n,decide_true,cond_true,if_true,R,o,y,AI,fv (d:=d) (a:=e) (b:=k) rfl rfl];have L:=pL (p:=λt=>lE d[t]! d[k]!) z A n (by omega);have S:ix d.toList (f:Int)=some d[f]! :=Un rfl (by omega);have y:ix (BR d.toList (f:Int) d[e]!) (e:Int)=some (d.setIfInBounds (f:Int).toNat d[e]!)[e]! :=uA (a:=f) rfl (by omega);have I:=kf (i:=f) (by omega);have J:wi ((e:Int)-1)=((e-1:Nat):Int):=by rw[rI (by omega)];omega
 have w:=vD (b:=(m:Int)) (pv:=(p:Int)) g (e-1+1-(f+1)) (f+1) (e-1) (Sort.swp d f e) (Ak _) (by omega) (by omega) (by rw[Sort.size_swp];omega) (by rw[Sort.size_swp];omega);obtain⟨u,B,C⟩:=zK (k:=k) (e-1+1-(f+1)) (f+1) (e-1) (Sort.swp d f e) (Ak _) (by omega) (by omega);simp only[n,decide_false,cond_false,if_false,o,S,y,AI,fv (d:=d) (a:=f) (b:=e) rfl rfl,I,J,w];rw[Sort.size_swp]at u;revert u B C;generalize Sort.partLoop lE k (f+1) (e-1) (Sort.swp d f e)=r;obtain⟨c,t⟩:=r;intro u B C;dsimp only at u B C⊢;have V:ix t.toList (k:Int)=some t[k]! :=Un rfl (by omega);have W:ix t.toList (c:Int)=some t[c]! :=Un rfl (by omega);have X:ix (BR t.toList (c:Int) t[k]!) (k:Int)=some (t.setIfInBounds (c:Int).toNat t[k]!)[k]! :=uA (a:=c) rfl (by omega);simp only[V,W,X,AI,fv (d:=t) (a:=c) (b:=k) rfl rfl]
theorem AAI{a b pv:Int}{k j i:Nat}{s1:Int}{d:Array EN}(f:a=k)(g:k<d.size)(n:j<d.size)(l:d.size≤16777216)(m:i≤j+1):
  E7 (a,(b,pv)) (s1,((j:Int),d.toList)) (i:Int)=some (if(decide (i<=j)&& !lE d[k]! d[i]!)=true then .next ((i+1:Nat):Int)else .done (i:Int)):=by
 subst f;unfold E7;dsimp only;rw[uj];refine Tq (λh=>?_) (λh _=>by rw[kf (by omega)]) rfl;have h:=of_decide_eq_true h;obtain⟨v,c,e⟩:=uE d[k]! d[i]!;rw[Un rfl (show i<d.size by omega),Un rfl g];simp only[AI,c,e];cases lE d[k]! d[i]! <;>rfl
theorem tY{a b pv:Int}{k j i:Nat}{s1 s2:Int}{d:Array EN}(f:a=k)(l:k<d.size)(g:j<d.size)(m:d.size≤16777216):
  E8 (a,(b,pv)) (s1,(s2,d.toList)) (i:Int) (j:Int)=some (if(decide (i<=j)&&lE d[k]! d[j]!)=true then .next ((j:Int)-1)else .done (j:Int)):=by
 subst f;unfold E8;dsimp only;rw[uj];refine Tq (λh=>?_) (λh _=>by rw[rI (by omega)]) rfl;obtain⟨v,c,e⟩:=uE d[k]! d[j]!;rw[Un rfl g,Un rfl l];simp only[AI,c,e];cases lE d[k]! d[j]! <;>rfl
def xd{a j b:Nat}{p:Nat->Bool}{e f g i k:Prop}(n:e/\f/\g/\(a<=j->(!p a)=false))(d:b<=j/\i/\k/\(a<=b->0<b->p b=false))(h: ¬a>b)(l:0<a):a≠b:=by rintro rfl;have c:=n.2.2.2 d.1;have m:=d.2.2.2 (Ak _) l;rw[m]at c;exact absurd c (by decide)
theorem sZ{a b pv:Int}{k:Nat}(s:a=k): ∀(n i j:Nat) (d:Array EN),j+1-i≤n→k<i→i≤j+1→j<d.size→d.size≤16777216→
  Ad (Cv (a,(b,pv))) ((i:Int),((j:Int),d.toList))=some ((((Sort.partEqLoop lE k i j d).1:Nat):Int),(Sort.partEqLoop lE k i j d).2.toList):=by
 intro n;induction n with
 |zero=>
  intro i j d z A v q r;have m:=hY (p:=λx=>!lE d[k]! x) (j:=j) (d:=d) (λC h=>AAI (b:=b) (pv:=pv) (s1:=(i:Int)) s (by omega) q r h) (j+1-i) i (Ak _) v;have g:=Sort.scanUp_spec (λx=>!lE d[k]! x) d j _ i rfl;have o:=U3 (p:=λx=>lE d[k]! x) (i:=Sort.scanUp (λx=>!lE d[k]! x) d j i) (N:=d.size) (d:=d) (by omega) (λH h u=>tY (b:=b) (pv:=pv) (s1:=(i:Int)) (s2:=(j:Int)) s (by omega) u r) j (by omega) q;have l:=Sort.scanDown_spec (λx=>lE d[k]! x) d (Sort.scanUp (λx=>!lE d[k]! x) d j i) j;rw[Ce,Sort.partEqLoop_eq];have c:Sort.scanUp (λx=>!lE d[k]! x) d j i>Sort.scanDown (λx=>lE d[k]! x) d (Sort.scanUp (λx=>!lE d[k]! x) d j i) j:=by omega
  simp only[Cv,m,o,AI,sA,c,decide_true,cond_true,if_true]
 |succ n G=>
  intro i j d z A v q r;have m:=hY (p:=λx=>!lE d[k]! x) (j:=j) (d:=d) (λC h=>AAI (b:=b) (pv:=pv) (s1:=(i:Int)) s (by omega) q r h) (j+1-i) i (Ak _) v;have g:=Sort.scanUp_spec (λx=>!lE d[k]! x) d j _ i rfl;have o:=U3 (p:=λx=>lE d[k]! x) (i:=Sort.scanUp (λx=>!lE d[k]! x) d j i) (N:=d.size) (d:=d) (by omega) (λH h u=>tY (b:=b) (pv:=pv) (s1:=(i:Int)) (s2:=(j:Int)) s (by omega) u r) j (by omega) q;have l:=Sort.scanDown_spec (λx=>lE d[k]! x) d (Sort.scanUp (λx=>!lE d[k]! x) d j i) j;rw[Ce,Sort.partEqLoop_eq];revert m g o l;generalize Sort.scanUp (λx=>!lE d[k]! x) d j i=f;generalize Sort.scanDown (λx=>lE d[k]! x) d f j=e;intro m g o l;by_cases c:f>e;simp only[Cv,m,o,AI,sA,c,decide_true,cond_true,if_true];have B:=xd (p:=λt=>lE d[k]! d[t]!) g l c (by omega);have D:ix d.toList (e:Int)=some d[e]! :=Un rfl (by omega);have E:ix d.toList (f:Int)=some d[f]! :=Un rfl (by omega);have F:ix (BR d.toList (f:Int) d[e]!) (e:Int)=some (d.setIfInBounds (f:Int).toNat d[e]!)[e]! :=uA (a:=f) rfl (by omega);have w:=kf (i:=f) (by omega);have y:wi ((e:Int)-1)=((e-1:Nat):Int):=by rw[rI (by omega)];omega
  simp only[Cv,m,o,AI,sA,c,decide_false,cond_false,if_false,D,E,F,w,y,fv rfl rfl];exact G (f+1) (e-1) _ (by omega) (by omega) (by omega) (by rw[Sort.size_swp];omega) (by rw[Sort.size_swp];omega)
theorem xJ{l:List EN}{a b c:Int}{k m p:Nat}(h:a=k)(j:b=m)(n:c=p)(u:k≤p)(v:p<m)(w:m≤l.length)(e:l.length≤16777216):
  DH l (a,(b,c))=some ((((Sort.partitionEqual lE l.toArray k m p).1:Nat):Int),(Sort.partitionEqual lE l.toArray k m p).2.toList):=by
 subst h j n;unfold DH;have o:l.toArray.size=l.length:=by simp
 have q:ix l (p:Int)=some l.toArray[p]! :=Un (d:=l.toArray) rfl (by omega);have r:ix l (k:Int)=some l.toArray[k]! :=Un (d:=l.toArray) rfl (by omega);have s:ix (BR l (k:Int) l.toArray[p]!) (p:Int)=some (l.toArray.setIfInBounds (k:Int).toNat l.toArray[p]!)[p]! :=uA (d:=l.toArray) (a:=k) rfl (by omega);have t:BR (BR l (k:Int) l.toArray[p]!) (p:Int) l.toArray[k]! =(Sort.swp l.toArray k p).toList:=fv (d:=l.toArray) rfl rfl;have f:=kf (i:=k) (by omega);have g:wi ((m:Int)-1)=((m-1:Nat):Int):=by rw[rI (by omega)];omega
 have x:(Sort.swp l.toArray k p).size=l.length:=by rw[Sort.size_swp,o]
 have e:=sZ (a:=(k:Int)) (b:=(m:Int)) (pv:=(p:Int)) rfl (m-1+1-(k+1)) (k+1) (m-1) (Sort.swp l.toArray k p) (Ak _) (by omega) (by omega) (by omega) (by omega);dsimp only;simp only[q,r,s,AI,f,g,t,e];rfl
def yi(i j:Nat):decide ((i:Int)<(j:Int))=decide (i<j):=by simp
def ACF{d:Array EN}{m:Nat}: ∀(n i:Nat),m-i<=n->i<=m->i<=Sort.scanSorted lE d m i/\Sort.scanSorted lE d m i<=m:=by
 intro n;induction n with
 |zero=>intro i a b;rw[Sort.scanSorted,if_neg (by simp;omega)];omega
 |succ n c=>
  intro i a b;rw[Sort.scanSorted];by_cases h:(decide (i<m)&& !lE d[i]! d[i-1]!)=true;rw[if_pos h];have e:i<m:=by simp at h;exact h.1
  have:=c (i+1) (by omega) (by omega);omega;rw[if_neg h];omega
theorem zi{a b:Int}{m:Nat}{s1 s2:Int}{d:Array EN}(o:b=m)(s:m≤d.size)(r:d.size≤16777216): ∀(n i:Nat),m-i≤n→1≤i→i≤m→
  Ad (C7 (a,b) (s1,(s2,d.toList))) (i:Int)=some ((Sort.scanSorted lE d m i:Nat):Int):=by
 subst o;have body: ∀i:Nat,1<=i->C7 (a,(m:Int)) (s1,(s2,d.toList)) (i:Int)=some (if(decide (i<m)&& !lE d[i]! d[i-1]!)=true then .next ((i+1:Nat):Int)else .done (i:Int)):=by
  intro i q;unfold C7;dsimp only;rw[yi];by_cases h:i<m;rw[kf (i:=i) (by omega)];refine Tq (λ_=>?_) (λ_ _=>rfl) rfl;have e:wi ((i:Int)-1)=((i-1:Nat):Int):=by rw[rI (by omega)];omega
  obtain⟨v,g,j⟩:=uE d[i]! d[i-1]!;rw[e,Un rfl (show i<d.size by omega),Un rfl (show i-1<d.size by omega)];simp only[AI,g,j];cases lE d[i]! d[i-1]! <;>rfl;refine Tq (λc=>absurd (of_decide_eq_true c) h) (λc _=>absurd (of_decide_eq_true c) h) rfl
 intro n;induction n with
 |zero=>
  intro i k f l;rw[Ce,body i f,Sort.scanSorted];have: ¬(decide (i<m)&& !lE d[i]! d[i-1]!)=true:=by simp;omega
  rw[if_neg this,if_neg this]
 |succ n p=>
  intro i k f l;rw[Ce,body i f,Sort.scanSorted];by_cases h:(decide (i<m)&& !lE d[i]! d[i-1]!)=true;rw[if_pos h,if_pos h];have c:i<m:=by simp at h;exact h.1
  exact p (i+1) (by omega) (by omega) (by omega);rw[if_neg h,if_neg h]
def uM: ∀(j:Nat) (d:Array EN),(Sort.shiftDown lE j d).size=d.size
 |0,_=>rfl
 |j+1,d=>by unfold Sort.shiftDown;split;rfl;rw[uM j,Sort.size_swp]
def zk{m:Nat}: ∀(n j:Nat) (d:Array EN),m-j<=n->(Sort.shiftUp lE m j d).size=d.size:=by
 intro n;induction n with
 |zero=>intro j d h;rw[Sort.shiftUp,if_neg (by omega)]
 |succ n a=>intro j d h;rw[Sort.shiftUp];split;split;rfl;rw[a _ _ (by omega),Sort.size_swp];rfl
theorem uL: ∀(j:Nat) (d:Array EN),j<d.size->d.size<=16777216->Ad C8 ((j:Int),d.toList)=some (Sort.shiftDown lE j d).toList
 |0,d,h1,h2=>by rw[Ce];rfl
 |j+1,d,h1,h2=>by
  rw[Ce];have e:wi (((j+1:Nat):Int)-1)=(j:Int):=by rw[rI (by omega)];omega
  have:decide (((j+1:Nat):Int)>=1)=true:=by simp;omega
  obtain⟨v,c,f⟩:=uE d[j+1]! d[j]!;have g:ix d.toList ((j+1:Nat):Int)=some d[j+1]! :=Un rfl h1;have h:ix d.toList (j:Int)=some d[j]! :=Un rfl (by omega);have i:ix (BR d.toList ((j+1:Nat):Int) d[j]!) (j:Int)=some (d.setIfInBounds ((j+1:Nat):Int).toNat d[j]!)[j]! :=uA (a:=j+1) rfl (by omega);simp only[C8,this,cond_true,e,g,h,i,AI,c,f,fv (d:=d) (a:=j+1) (b:=j) rfl rfl];unfold Sort.shiftDown;cases lE d[j+1]! d[j]! with
  |true=>simp only[Ea,cond_false,Iz,if_false];exact uL j _ (by rw[Sort.size_swp];omega) (by rw[Sort.size_swp];omega)
  |false=>simp only[YB,cond_true,if_true]
theorem zj{a b:Int}{m:Nat}(r:b=m): ∀(n j:Nat) (d:Array EN),m-j<=n->1<=j->j<=m->m<=d.size->d.size<=16777216->Ad (B5 (a,b)) ((j:Int),d.toList)=some (Sort.shiftUp lE m j d).toList:=by
 subst r;intro n;induction n with
 |zero=>
  intro j d k l o p q;rw[Ce,Sort.shiftUp];have:decide (j<m)=false:=by simp;omega
  simp only[B5,yi,this,cond_false];rw[if_neg (by omega)]
 |succ n w=>
  intro j d k l o p q;rw[Ce,Sort.shiftUp];by_cases h:j<m;have c:wi ((j:Int)-1)=((j-1:Nat):Int):=by rw[rI (by omega)];omega
  have e:=kf (i:=j) (by omega);obtain⟨v,f,g⟩:=uE d[j]! d[j-1]!;have s:ix d.toList (j:Int)=some d[j]! :=Un rfl (by omega);have t:ix d.toList ((j-1:Nat):Int)=some d[j-1]! :=Un rfl (by omega);have u:ix (BR d.toList (j:Int) d[j-1]!) ((j-1:Nat):Int)=some (d.setIfInBounds (j:Int).toNat d[j-1]!)[j-1]! :=uA (a:=j) rfl (by omega);simp only[B5,yi,h,decide_true,cond_true,if_true,c,e,s,t,u,AI,f,g,fv (d:=d) (a:=j) (b:=j-1) rfl rfl];cases lE d[j]! d[j-1]! with
  |true=>simp only[Ea,cond_false,Iz,if_false];exact w (j+1) _ (by omega) (by omega) (by omega) (by rw[Sort.size_swp];omega) (by rw[Sort.size_swp];omega)
  |false=>simp only[YB,cond_true,if_true]
  have:decide (j<m)=false:=by simp;omega
  simp only[B5,yi,this,cond_false];rw[if_neg h]
theorem uF{a b:Int}{k m:Nat}(o:a=k)(f:b=m): ∀(s i:Nat) (d:Array EN),s≤5→1≤i→k<i→i≤m→m≤d.size→d.size≤16777216→
  ∃r,Ad (EF (a,b)) ((i:Int),(((5-s:Nat):Int),d.toList))=some r/\Sum.elim (λu=>(false,u)) (λu=>u) r=((Sort.partialIns lE k m s i d).2,(Sort.partialIns lE k m s i d).1.toList)/\(Sort.partialIns lE k m s i d).1.size=d.size
 |0,i,d,h0,h1,hk,h2,h3,h4=>by rw[Ce];exact⟨.inl d.toList,rfl,rfl,rfl⟩
 |s+1,i,d,h0,h1,hk,h2,h3,h4=>by
  rw[Ce];have B:=zi (a:=a) (s1:=(i:Int)) (s2:=((5-(s+1):Nat):Int)) f h3 h4 (m-i) i (Ak _) h1 h2;have l:=ACF (d:=d) (m:=m) (m-i) i (Ak _) h2;have q:decide (((5-(s+1):Nat):Int)<5)=true:=by simp;omega
  have A:wi (((5-(s+1):Nat):Int)+1)=((5-s:Nat):Int):=by rw[kf (by omega)];omega
  unfold Sort.partialIns;simp only[EF,q,cond_true,B,AI,A];revert l;generalize Sort.scanSorted lE d m i=c;intro l;by_cases p:c=m;have:((c:Int)==b)=true:=by rw[f,p];exact beq_self_eq_true _
  rw[if_pos p,this,cond_true];exact⟨.inr (true,d.toList),rfl,rfl,rfl⟩;have:((c:Int)==b)=false:=by rw[f];simp;omega
  have t:wi (b-a)=((m-k:Nat):Int):=by rw[o,f,Oy (by omega)];omega
  rw[if_neg p,this,cond_false,t];by_cases j:m-k<50;have:decide (((m-k:Nat):Int)<50)=true:=by simp;omega
  rw[if_pos j,this,cond_true];exact⟨.inr (false,d.toList),rfl,rfl,rfl⟩;have:decide (((m-k:Nat):Int)<50)=false:=by simp;omega
  have w:wi ((c:Int)-1)=((c-1:Nat):Int):=by rw[rI (by omega)];omega
  have x:wi ((c:Int)-a)=((c-k:Nat):Int):=by rw[o,Oy (by omega)];omega
  have y:wi (b-(c:Int))=((m-c:Nat):Int):=by rw[f,Oy (by omega)];omega
  have z:=kf (i:=c) (by omega);have C:ix d.toList (c:Int)=some d[c]! :=Un rfl (by omega);have D:ix d.toList ((c-1:Nat):Int)=some d[c-1]! :=Un rfl (by omega);have E:ix (BR d.toList (c:Int) d[c-1]!) ((c-1:Nat):Int)=some (d.setIfInBounds (c:Int).toNat d[c-1]!)[c-1]! :=uA (a:=c) rfl (by omega);simp only[this,cond_false,j,if_false,w,x,y,z,C,D,E,AI,fv (d:=d) (a:=c) (b:=c-1) rfl rfl];have n:(Sort.swp d c (c-1)).size=d.size:=Sort.size_swp _ _ _;revert n;generalize Sort.swp d c (c-1)=d1;intro n;have q1:((bif decide (((c-k:Nat):Int)>=2)then Option.bind (Ad C8 (((c-1:Nat):Int),d1.toList)) λv=>some v else some d1.toList):Option (List EN))=some (if c-k>=2 then Sort.shiftDown lE (c-1) d1 else d1).toList:=by
   by_cases h:c-k>=2;have:decide (((c-k:Nat):Int)>=2)=true:=by simp;omega
   rw[this,cond_true,uL _ _ (by omega) (by omega),if_pos h];rfl;have:decide (((c-k:Nat):Int)>=2)=false:=by simp;omega
   rw[this,cond_false,if_neg h]
  rw[q1,AI];have e:(if c-k>=2 then Sort.shiftDown lE (c-1) d1 else d1).size=d.size:=by split;rw[uM,n];exact n
  revert e;generalize (if c-k>=2 then Sort.shiftDown lE (c-1) d1 else d1)=d2;intro e;have q2:((bif decide (((m-c:Nat):Int)>=2)then Option.bind (Ad (B5 (a,b)) (((c+1:Nat):Int),d2.toList)) λv=>some v else some d2.toList):Option (List EN))=some (if m-c>=2 then Sort.shiftUp lE m (c+1) d2 else d2).toList:=by
   by_cases h:m-c>=2;have:decide (((m-c:Nat):Int)>=2)=true:=by simp;omega
   rw[this,cond_true,zj f (m-(c+1)) (c+1) d2 (Ak _) (by omega) (by omega) (by omega) (by omega),if_pos h];rfl;have:decide (((m-c:Nat):Int)>=2)=false:=by simp;omega
   rw[this,cond_false,if_neg h]
  rw[q2,AI];have g:(if m-c>=2 then Sort.shiftUp lE m (c+1) d2 else d2).size=d.size:=by split;rw[zk (m-(c+1)) _ _ (Ak _),e];exact e
  revert g;generalize (if m-c>=2 then Sort.shiftUp lE m (c+1) d2 else d2)=d3;intro g;obtain⟨r,F,G,H⟩:=uF o f s c d3 (by omega) (by omega) (by omega) (by omega) (by omega) (by omega);exact⟨r,F,G,by rw[H,g]⟩
theorem AB3{l:List EN}{a b:Int}{k m:Nat}(c:a=k)(g:b=m)(j:k<m)(i:m≤l.length)(h:l.length≤16777216):
  Cn l (a,b)=some ((Sort.partialInsertionSort lE l.toArray k m).2,(Sort.partialInsertionSort lE l.toArray k m).1.toList):=by
 unfold Cn;have e:wi (a+1)=((k+1:Nat):Int):=by rw[c,kf (by omega)]
 obtain⟨r,d,f,n⟩:=uF c g 5 (k+1) l.toArray (Ak _) (by omega) (by omega) (by omega) (by simpa using i) (by simpa using h);dsimp only;rw[e];rw[show l.toArray.toList=l from rfl,show((5-5:Nat):Int)=0 from rfl]at d;rw[d,AI];unfold Sort.partialInsertionSort;cases r with
 |inl u=>exact congrArg some f
 |inr u=>exact congrArg some f
def fk{l:List EN}{a b s:Int}{k m:Nat}(n:m≤l.length)(e:(k:Int)≤a∧a<m)(f:(k:Int)≤b∧b<m):
  Ay (Option.bind (ix l b) λi=>Option.bind (ix l b) λc=>Option.bind (ix l a) λj=>Option.bind (ix l a) λd=>Option.bind (BT (c,d)) λh=>bif (decide (h<0))then some (b,(a,wi (s+1)))else some (a,(b,s))) λr=>((k:Int)<=r.1/\r.1<m)/\(k:Int)<=r.2.1/\r.2.1<m:=by
 refine AB (AE) λi _=>?_;refine AB (AE) λc _=>?_;refine AB (AE) λj _=>?_;refine AB (AE) λd _=>?_;obtain⟨h,g,_⟩:=uE c d;rw[g,AI];exact AC (λ_=>AA ⟨f,e⟩) (λ_=>AA ⟨e,f⟩)
theorem AAh{l:List EN}{a b:Int}{k m:Nat}(O:a=k)(P:b=m)(y:8≤m-k)(c:m≤l.length)(X:l.length≤16777216):
  ∃(p:Nat) (h:Int),Cw l (a,b)=some ((p:Int),(h,l))/\k<=p/\p<m:=by
 subst O P;suffices key:Ay (Cw l ((k:Int),(m:Int))) λr=>((k:Int)<=r.1/\r.1<m)/\r.2.2=l by obtain⟨⟨n,o,A⟩,e,⟨q1,q2⟩,q3⟩:=key;dsimp only at q1 q2 q3;subst q3;exact⟨n.toNat,o,by rw[e,Int.toNat_of_nonneg (by omega)],by omega,by omega⟩
 unfold Cw;have C:wi ((m:Int)-(k:Int))=((m-k:Nat):Int):=by rw[Oy (by omega)];omega
 have D:wi (Int.tdiv ((m-k:Nat):Int) 4)=(((m-k)/4:Nat):Int):=by have:Int.tdiv ((m-k:Nat):Int) 4=(((m-k)/4:Nat):Int):=rfl;rw[this,Oy (by omega)]
 have E:wi ((k:Int)+wi ((((m-k)/4:Nat):Int)*1))=((k+(m-k)/4:Nat):Int):=by rw[Oy (x:=_*_) (by omega),Oy (by omega)];omega
 have F:wi ((k:Int)+wi ((((m-k)/4:Nat):Int)*2))=((k+(m-k)/4*2:Nat):Int):=by rw[Oy (x:=_*_) (by omega),Oy (by omega)];omega
 have G:wi ((k:Int)+wi ((((m-k)/4:Nat):Int)*3))=((k+(m-k)/4*3:Nat):Int):=by rw[Oy (x:=_*_) (by omega),Oy (by omega)];omega
 dsimp only;rw[C,D,E,F,G];have q1:k+(m-k)/4<m/\(50<=m-k->k+(m-k)/4+1<m/\k<k+(m-k)/4):=by omega
 have q2:k+(m-k)/4*2<m/\(50<=m-k->k+(m-k)/4*2+1<m/\k<k+(m-k)/4*2):=by omega
 have q3:k+(m-k)/4*3<m/\(50<=m-k->k+(m-k)/4*3+1<m/\k<k+(m-k)/4*3):=by omega
 have n:k<=k+(m-k)/4:=by omega
 have o:k<=k+(m-k)/4*2:=by omega
 have A:k<=k+(m-k)/4*3:=by omega
 clear C D E F G;revert q1 q2 q3 n o A;generalize k+(m-k)/4=i;generalize k+(m-k)/4*2=j;generalize k+(m-k)/4*3=t;intro q1 q2 q3 n o A;refine AC (λ_=>?_) (λh=>absurd y (by omega));have d: ∀v:Int×Int×Int,((k:Int)<=v.2.1/\v.2.1<m)->Ay (bif (v.2.2==0)then some (v.2.1,(1,l))else bif (v.2.2==12)then some (v.2.1,(2,l))else some (v.2.1,(0,l)):Option (Int×Int×List EN)) λr=>((k:Int)<=r.1/\r.1<m)/\r.2.2=l:=λv z=>AF (λ_=>AA ⟨z,rfl⟩) λ_=>AF (λ_=>AA ⟨z,rfl⟩) λ_=>AA ⟨z,rfl⟩;refine AC (λL=>?_) (λ_=>?_);have U:=q1.2 (by omega);have V:=q2.2 (by omega);have W:=q3.2 (by omega);rw[AW (x:=(i:Int)-1) (by omega),AW (x:=(i:Int)+1) (by omega),AW (x:=(j:Int)-1) (by omega),AW (x:=(j:Int)+1) (by omega),AW (x:=(t:Int)-1) (by omega),AW (x:=(t:Int)+1) (by omega)];refine AB (fk c (k:=k) (by omega) (by omega)) λQ f=>?_;refine AB (fk c (k:=k) f.2 (by omega)) λT u=>?_;refine AB (fk c (k:=k) f.1 u.1) λJ w=>?_;refine AB (fk c (k:=k) (by omega) (by omega)) λY H=>?_;refine AB (fk c (k:=k) H.2 (by omega)) λZ K=>?_;refine AB (fk c (k:=k) H.1 K.1) λv6 M=>?_;refine AB (fk c (k:=k) (by omega) (by omega)) λv7 I=>?_;refine AB (fk c (k:=k) I.2 (by omega)) λv8 y=>?_;refine AB (fk c (k:=k) I.1 y.1) λv9 N=>?_;refine AB (fk c (k:=k) w.2 M.2) λR g=>?_;refine AB (fk c (k:=k) g.2 N.2) λS q=>?_;refine AB (fk c (k:=k) g.1 q.1) λB s=>?_;exact d B s.2;refine AB (fk c (k:=k) (by omega) (by omega)) λQ f=>?_;refine AB (fk c (k:=k) f.2 (by omega)) λT u=>?_;refine AB (fk c (k:=k) f.1 u.1) λJ w=>?_;exact d J w.2
def bl8(n:Nat):Nat:=if n=0 then 0 else if n<2 then 1 else if n<4 then 2 else if n<8 then 3 else if n<16 then 4 else if n<32 then 5 else if n<64 then 6 else if n<128 then 7 else 8
def iU{n:Nat}(h:n<256):bl8 n<=8/\(1<=n->2^bl8 n<=2*n):=by
 unfold bl8;repeat' split
 all_goals first|omega|(constructor<;>omega)
def T8:Bb:=(List.range 256).map λn=>UInt8.ofNat (bl8 n)
def ACh{n:Nat}(h:n<256):six T8 (n:Int)=some ((bl8 n:Nat):Int):=by have a:=(iU h).1;unfold six T8;simp[h];omega
noncomputable def Lz(x:Int):Option Int:=
 Option.bind ((
   bif (decide (x>=4294967296))then
    some ((Int.fdiv x (2^(min (Int.toNat 32) 64))),32)
   else
   some (x,0)):(Option (Int×Int))) λv0=>
 Option.bind ((
   bif (decide (v0.1>=65536))then
    some ((Int.fdiv v0.1 (2^(min (Int.toNat 16) 64))),(wi (v0.2+16)))
   else
   some v0):(Option (Int×Int))) λv1=>
 Option.bind ((
   bif (decide (v1.1>=256))then
    some ((Int.fdiv v1.1 (2^(min (Int.toNat 8) 64))),(wi (v1.2+8)))
   else
   some v1):(Option (Int×Int))) λv2=>
 Option.bind (six T8 (IntKind.wrap .u8 v2.1)) λv3=>
 some (wi (v2.2+(wi v3)))
def ABY:On=Lz:=by kernel_rfl
def ACX(n:Nat):Int.fdiv (n:Int) (2^(min (Int.toNat 16) 64))=((n/65536:Nat):Int):=by
 have:(2:Int)^(min (Int.toNat 16) 64)=((65536:Nat):Int):=by decide
 rw[this,YC _ (by omega)];rfl
def fd8(n:Nat):Int.fdiv (n:Int) (2^(min (Int.toNat 8) 64))=((n/256:Nat):Int):=by
 have:(2:Int)^(min (Int.toNat 8) 64)=((256:Nat):Int):=by decide
 rw[this,YC _ (by omega)];rfl
theorem oK{y s:Nat}(h:y<256)(c:s<=64):(Option.bind (six T8 (IntKind.wrap .u8 (y:Int))) λa=>some (wi ((s:Int)+(wi a))))=some ((s+bl8 y:Nat):Int):=by have b:=(iU h).1;rw[zp,show(y:Int)%256=(y:Int) by omega,ACh h,AI,Oy (x:=((bl8 y:Nat):Int)) (by omega),Oy (by omega)];exact congrArg some (by omega)
def tK{x:Nat}(h:x<=16777216): ∃r:Nat,On (x:Int)=some (r:Int)/\r<=32/\(1<=x->2^r<=2*x):=by
 rw[ABY];unfold Lz;have c:decide ((x:Int)>=4294967296)=false:=by simp;omega
 rw[c,cond_false,AI];by_cases f:x>=65536;have:decide (((x:Int),(0:Int)).1>=65536)=true:=by simp;omega
 have e:wi (((x:Int),(0:Int)).2+16)=((16:Nat):Int):=by show wi (0+16)=_;decide
 rw[this,cond_true,AI,e,ACX];by_cases g:x/65536>=256;have:decide (((((x/65536:Nat):Int),((16:Nat):Int)):Int×Int).1>=256)=true:=by simp;omega
 have e:wi (((((x/65536:Nat):Int),((16:Nat):Int)):Int×Int).2+8)=((24:Nat):Int):=by show wi (((16:Nat):Int)+8)=_;decide
 rw[this,cond_true,AI,e,fd8];have a:x/65536/256<256:=by omega
 have b:=iU a;refine⟨_,oK a (by omega),by omega,λ_=>?_⟩;have:=b.2 (by omega);rw[Zr];omega;have:decide (((((x/65536:Nat):Int),((16:Nat):Int)):Int×Int).1>=256)=false:=by simp;omega
 rw[this,cond_false,AI];have a:x/65536<256:=by omega
 have b:=iU a;refine⟨_,oK a (by omega),by omega,λ_=>?_⟩;have:=b.2 (by omega);rw[Zr];omega;have:decide (((x:Int),(0:Int)).1>=65536)=false:=by simp;omega
 rw[this,cond_false,AI];by_cases g:x>=256;have:decide (((x:Int),(0:Int)).1>=256)=true:=by simp;omega
 have e:wi (((x:Int),(0:Int)).2+8)=((8:Nat):Int):=by show wi (0+8)=_;decide
 rw[this,cond_true,AI,e,fd8];have a:x/256<256:=by omega
 have b:=iU a;refine⟨_,oK a (by omega),by omega,λ_=>?_⟩;have:=b.2 (by omega);rw[Zr];omega;have:decide (((x:Int),(0:Int)).1>=256)=false:=by simp;omega
 rw[this,cond_false,AI];have a:x<256:=by omega
 have b:=iU a;refine⟨_,oK (s:=0) a (by omega),by omega,λd=>?_⟩;have:=b.2 d;rw[D6];omega
def zG{n:Nat}(a:1<=n)(h:n<=16777216): ∃M:Nat,JJ (n:Int)=some (M:Int)/\1<=M/\M<=2*n:=by
 obtain⟨r,g,c,hr⟩:=tK h;refine⟨2^r,?_,Nat.one_le_two_pow,hr a⟩;unfold JJ OP;rw[S2,show(n:Int)%18446744073709551616=(n:Int) by omega,g];simp only[AI];have:decide ((r:Int)<0)=false:=by simp
 rw[this,cond_false,S2];have d:min (Int.toNat (r:Int)) 64=r:=by rw[DD];omega
 rw[d,Int.one_mul];have b:=hr a;have:((2:Int)^r)=((2^r:Nat):Int):=by simp
 rw[this];revert b;generalize 2^r=M;intro b;exact congrArg some (by omega)
theorem oth(M:Nat)(b:1<=M)(c:M<=33554432)(B:BitVec 64): ∃o:Nat,wi (IntKind.wrap .u64 (((BitVec.toNat (B&&&(BitVec.ofInt 64 (IntKind.wrap .u64 ((M:Int)-1)))):Nat):Int)))=(o:Int)/\o<=M-1:=by
 have e:BitVec.toNat (BitVec.ofInt 64 (IntKind.wrap .u64 ((M:Int)-1)))=M-1:=by rw[S2,show((M:Int)-1)%18446744073709551616=((M-1:Nat):Int) by omega,S9,TA];omega
 have a:BitVec.toNat (B&&&(BitVec.ofInt 64 (IntKind.wrap .u64 ((M:Int)-1))))<=M-1:=by rw[BitVec.toNat_and,e];exact Nat.and_le_right
 refine⟨_,?_,a⟩;rw[S2,show((BitVec.toNat (B&&&(BitVec.ofInt 64 (IntKind.wrap .u64 ((M:Int)-1)))):Nat):Int)%18446744073709551616=((BitVec.toNat (B&&&(BitVec.ofInt 64 (IntKind.wrap .u64 ((M:Int)-1)))):Nat):Int) by omega,Oy (by omega)]
theorem AB1{W n:Nat}(a:W<2*n)(hn:n<=16777216):Ay ((bif decide ((W:Int)>=(n:Int))then some (wi ((W:Int)-(n:Int)))else some (W:Int)):Option Int) λv=> ∃o:Nat,v=o/\o<n:=by refine AC (λh=>AA ⟨W-n,?_,by omega⟩) (λh=>AA ⟨W,rfl,by omega⟩);rw[Oy (by omega)];omega
theorem yQ{l:List EN}{a b:Int}{k m:Nat}(J:a=k)(K:b=m)(h:k≤m)(W:m≤l.length)(V:l.length≤16777216):
  ∃d:Array EN,EH l (a,b)=some d.toList/\Sort.PermIn k m l.toArray d:=by
 subst J K;unfold EH;have j:wi ((m:Int)-(k:Int))=((m-k:Nat):Int):=by rw[Oy (by omega)];omega
 dsimp only;rw[j];by_cases U:m-k>=8;have e:decide (((m-k:Nat):Int)>=8)=true:=by simp;omega
 obtain⟨M,H,z,T⟩:=zG (n:=m-k) (by omega) (by omega);rw[e,cond_true,H,AI];have p:wi (Int.tdiv ((m-k:Nat):Int) 4)=(((m-k)/4:Nat):Int):=by have:Int.tdiv ((m-k:Nat):Int) 4=(((m-k)/4:Nat):Int):=rfl;rw[this,Oy (by omega)]
 have q:wi ((k:Int)+wi ((((m-k)/4:Nat):Int)*2))=((k+(m-k)/4*2:Nat):Int):=by rw[Oy (x:=_*_) (by omega),Oy (by omega)];omega
 have D:wi (((k+(m-k)/4*2:Nat):Int)-1)=((k+(m-k)/4*2-1:Nat):Int):=by rw[rI (by omega)];omega
 have E:wi (((k+(m-k)/4*2:Nat):Int)+1)=((k+(m-k)/4*2+1:Nat):Int):=kf (by omega);have N:k+4<=k+(m-k)/4*2:=by omega
 have O:k+(m-k)/4*2+1<m:=by omega
 rw[p,q,D];obtain⟨F,t⟩:=Classical.axiomOfChoice (oth M z (by omega));have I:=λB=>(t B).1;have G:=λB=>(t B).2;have c:Ay (Ad (FT ((k:Int),(m:Int)) (M:Int)) (((k+(m-k)/4*2-1:Nat):Int),(l,IntKind.wrap .u64 ((m-k:Nat):Int)))) λr=> ∃d:Array EN,r.1=d.toList/\Sort.PermIn k m l.toArray d:=by
  refine AM (λ(s:Int×(List EN×Int))=> ∃(i:Nat) (d:Array EN),s.1=i/\s.2.1=d.toList/\Sort.PermIn k m l.toArray d/\k<=i/\i<=k+(m-k)/4*2+2) (λs=>k+(m-k)/4*2+2-s.1.toNat) ⟨_,l.toArray,rfl,rfl,Sort.permIn_refl _ _ _,by omega,by omega⟩ ?_;rintro⟨Z,s2,s3⟩ ⟨i,d,y,w,g,f,P⟩;dsimp only at y w;subst y w;have Y:d.size=l.length:=by rw[g.1];simp
  unfold FT;dsimp only;simp only[j,p,q,E,I];refine AF (λu=>?_) (λu=>AA ⟨d,rfl,g⟩);have L:i<=k+(m-k)/4*2+1:=by have:=of_decide_eq_true u;omega
  refine AB (AB1 (n:=m-k) (Nat.lt_of_le_of_lt (G _) (by omega)) (by omega)) ?_;rintro v ⟨o,rfl,X⟩;have A:wi ((k:Int)+(o:Int))=((k+o:Nat):Int):=by rw[Oy (by omega)];omega
  have Q:ix d.toList ((k+o:Nat):Int)=some d[k+o]! :=Un rfl (by omega);have R:ix d.toList (i:Int)=some d[i]! :=Un rfl (by omega);have S:ix (BR d.toList (i:Int) d[k+o]!) ((k+o:Nat):Int)=some (d.setIfInBounds (i:Int).toNat d[k+o]!)[k+o]! :=uA (a:=i) rfl (by omega);have C:=kf (i:=i) (by omega);simp only[A,Q,R,S,AI,fv (d:=d) (a:=i) (b:=k+o) rfl rfl,C];refine AA ⟨⟨i+1,_,rfl,rfl,Sort.permIn_trans _ _ _ _ _ g (Sort.swp_permIn d k m i (k+o) f (by omega) (by omega) (by omega) (by omega)),by omega,by omega⟩,?_⟩;show _-((i+1:Nat):Int).toNat<_-((i:Nat):Int).toNat
  omega
 obtain⟨r,q1,d,q2,q3⟩:=c;rw[q1,AI,q2];exact⟨d,rfl,q3⟩;have e:decide (((m-k:Nat):Int)>=8)=false:=by simp;omega
 rw[e,cond_false];exact⟨l.toArray,rfl,Sort.permIn_refl _ _ _⟩
def mc:Sort.SWO lE where
 irrefl x:=by simp[lE]
 trans x y z h1 h2:=by simp[lE,decide_eq_true_eq]at*;omega
 ntrans x y z h1 h2:=by simp[lE,decide_eq_false_iff_not]at*;omega
def PT{α:Type}(T:Prop)(o:Option α)(Q:α->Prop):Prop:=(T-> ∃r,o=some r)/\ ∀r,o=some r->Q r
section
variable {α β γ:Type} {T:Prop}
theorem PT.some{r:α}{Q:α->Prop}(h:Q r):PT T (.some r) Q:=⟨λ_=>⟨r,rfl⟩,λs e=>by grind⟩
def dG{o:Option α}{Q:α->Prop}(h:Ay o Q):PT T o Q:=by obtain⟨r,rfl,h⟩:=h;exact PT.some h
def PT.bind{o:Option α}{k:α->Option β}{P:α->Prop}{Q:β->Prop}(h:PT T o P)(a: ∀r,P r->PT T (k r) Q):PT T (Option.bind o k) Q:=by
 cases o with
 |none=>exact⟨λt=>(by have⟨r,h⟩:=h.1 t;cases h),λr e=>(by cases e)⟩
 |some r=>exact a r (h.2 r rfl)
def PT.cond{c:Bool}{a b:Option α}{Q:α->Prop}(d:c=true->PT T a Q)(e:c=false->PT T b Q):PT T (bif c then a else b) Q:=by grind
def PT.dec{p:Prop}{_:Decidable p}{a b:Option α}{Q:α->Prop}(c:p->PT T a Q)(d: ¬p->PT T b Q):PT T (bif decide p then a else b) Q:=by grind
def PT.not{c:Bool}{a b:Option α}{Q:α->Prop}(d:c=false->PT T a Q)(e:c=true->PT T b Q):PT T (bif !c then a else b) Q:=by grind
def FY{n m:Nat}{a b:Option α}{Q:α->Prop}(e:n=m)(h:PT T a Q):PT T (bif Nat.beq n m then a else b) Q:=by simp_all
def PT.loop{S R:Type}{body:S→Option (Step S R)}(I:S→Prop)(c:S→Nat){Q:R→Prop}{s:S}(g:I s)
  (d: ∀s,I s->PT T (body s) λa=>match a with| .next f=>I f/\c f<c s| .done r=>Q r):PT T (Ad body s) Q:=by
 suffices h: ∀n s,I s->c s<=n->PT T (Ad body s) Q from h _ s g (Ak _)
 intro n;induction n with
 |zero=>
  intro s b hn;have h:=d s b;rw[Ce];revert h;cases body s with
  |none=>intro h;exact⟨λt=>(by have⟨r,h⟩:=h.1 t;cases h),λr e=>(by cases e)⟩
  |some a=>intro h;have h:=h.2 a rfl;grind[PT.some]
 |succ n i=>
  intro s b hn;have h:=d s b;rw[Ce];revert h;cases body s with
  |none=>intro h;exact⟨λt=>(by have⟨r,h⟩:=h.1 t;cases h),λr e=>(by cases e)⟩
  |some a=>intro h;have h:=h.2 a rfl;grind[PT.some]
end
def tN(k m:Nat)(d R:Array EN):Prop:=Sort.PermIn k m d R/\Sort.SortedIn lE k m R
def IV(k0 m0:Nat)(d0:Array EN)(s:Int×(Int×(Int×(Bool×(Bool×List EN))))):Prop:=
 ∃(k m:Nat) (d:Array EN),s.1=k/\s.2.1=m/\s.2.2.2.2.2=d.toList/\k0<=k/\k<=m/\m<=m0/\d.size=d0.size/\Sort.Below lE k m d/\ ∀R,tN k m d R->tN k0 m0 d0 R
def CP(B:Nat):Prop:= ∀(d:Array EN) (k m:Nat),12<m-k->m-k<=B->m<=d.size->d.size<=16777216-> ∃(p:Nat) (h:Int),Cw d.toList ((k:Int),(m:Int))=some ((p:Int),(h,d.toList))/\k<=p/\p<m
def CPa(B:Nat):CP B:=λd k m c e a b=>AAh rfl rfl (by omega) (by simpa using a) (by simpa using b)
theorem qm{Y:List EN×(Int×(Int×Int))→Option (List EN)}{N B k0 M:Nat}{O:Array EN}(ar:CP B)
  (E: ∀(d:Array EN) (k m:Nat) (V:Int),k<=m->m<=d.size->d.size<=16777216->m-k<=B->Sort.Below lE k m d->PT (m-k<N) (Y (d.toList,((k:Int),((m:Int),V)))) λr=> ∃R:Array EN,r=R.toList/\tN k m d R)
  (a5:M<=O.size) (a4:O.size<=16777216) (hB:M-k0<=B) {s:Int×(Int×(Int×(Bool×(Bool×List EN))))} (hs:IV k0 M O s):
  PT (M-k0<N+1) (Ep Y s) λst=>match st with
   | .next s'=>IV k0 M O s'/\(s'.2.1-s'.1).toNat<(s.2.1-s.1).toNat
   | .done r=> ∃R:Array EN,r=R.toList/\tN k0 M O R:=by
 obtain⟨s1,s2,V,wb,wp,l⟩:=s;obtain⟨k,m,d,q1,q2,q3,q4,q5,q6,q7,q8,q9⟩:=hs;dsimp only at q1 q2 q3;subst q1 q2 q3;have f:m<=d.size:=by omega
 have hd:d.size<=16777216:=by omega
 have e0:wi ((m:Int)-(k:Int))=((m-k:Nat):Int):=by rw[Oy (by omega)];omega
 unfold Ep;dsimp only;rw[e0];refine PT.dec ?_ ?_<;>intro a3;have A:=Sort.insertionSort_holds mc d k m q5 f;have:DR d.toList ((k:Int),(m:Int))=some (Sort.insertionSort lE d k m).toList:=AAp (l:=d.toList) rfl rfl (by simpa using f) q5 (by simpa using hd);rw[this,AI];refine FY (by simp[A.1.1]) (PT.some ⟨_,rfl,q9 _ A⟩);refine PT.cond ?_ ?_<;>intro h0;have A:=Sort.heapSort_holds mc d k m q5 f;have:D7 d.toList ((k:Int),(m:Int))=some (Sort.heapSort lE d k m).toList:=yx (l:=d.toList) rfl rfl q5 (by simpa using f) (by simpa using hd);rw[this,AI];refine FY (by simp[A.1.1]) (PT.some ⟨_,rfl,q9 _ A⟩);have al:12<m-k:=by omega
 refine PT.bind (P:=λ(v:Int×List EN)=> ∃y:Array EN,v.2=y.toList/\Sort.PermIn k m d y) ?_ ?_;refine PT.not (λ_=>?_) (λ_=>PT.some ⟨d,rfl,Sort.permIn_refl _ _ _⟩);obtain⟨y,Q,Z⟩:=yQ (l:=d.toList) (a:=(k:Int)) (b:=(m:Int)) rfl rfl q5 (by simpa using f) (by simpa using hd);rw[Q,AI];exact FY (by have:=Z.1;simpa using this) (PT.some ⟨y,rfl,Z⟩);rintro⟨F,l1⟩ ⟨y,S,p1⟩;dsimp only at S;subst S;have z1:y.size=d.size:=p1.1;dsimp only;obtain⟨p,a2,Q,a0,a1⟩:=ar y k m al (by omega) (by omega) (by omega);rw[Q,AI];refine FY rfl (PT.bind (P:=λ(v:Int×(Int×List EN))=> ∃(p':Nat) (q:Array EN),v.1=p'/\v.2.2=q.toList/\k<=p'/\p'<m/\Sort.PermIn k m d q) ?_ ?_);refine PT.cond (λ_=>?_) (λ_=>PT.some ⟨p,y,rfl,rfl,a0,a1,p1⟩);have hr:=Sort.reverseRange_holds y k m q5 (by omega);have:Da y.toList ((k:Int),(m:Int))=some (Sort.reverseRange y k m).toList:=ABI (l:=y.toList) rfl rfl (by omega) (by simp;omega) (by simp;omega);dsimp only;rw[this,AI];refine FY (by simp[hr.1]) (PT.some ⟨m-1-(p-k),_,?_,rfl,by omega,by omega,Sort.permIn_trans _ _ _ _ _ p1 hr⟩);show wi (wi ((m:Int)-1)-wi ((p:Int)-(k:Int)))=_;rw[Oy (x:=(m:Int)-1) (by omega),Oy (x:=(p:Int)-(k:Int)) (by omega),Oy (by omega)];omega;rintro⟨p',ax,l2⟩ ⟨z,q,U,T,n,o,H⟩;dsimp only at U T;subst U T;have z2:q.size=d.size:=H.1;have B2:Sort.Below lE k m q:=Sort.Below.perm q8 f H;dsimp only;refine PT.bind (P:=λ(v:List EN ⊕ List EN)=>match v with| .inl u=> ∃e:Array EN,u=e.toList/\Sort.PermIn k m d e| .inr u=> ∃R:Array EN,u=R.toList/\tN k m d R) ?_ ?_;refine PT.cond (λ_=>PT.cond (λ_=>PT.cond (λ_=>?_) (λ_=>PT.some ⟨q,rfl,H⟩)) (λ_=>PT.some ⟨q,rfl,H⟩)) (λ_=>PT.some ⟨q,rfl,H⟩);have A:=Sort.partialInsertionSort_holds mc q k m (by omega) (by omega) B2;have:Cn q.toList ((k:Int),(m:Int))=some ((Sort.partialInsertionSort lE q k m).2,(Sort.partialInsertionSort lE q k m).1.toList):=AB3 (l:=q.toList) rfl rfl (by omega) (by simp;omega) (by simp;omega);rw[this,AI];refine FY (by simp[A.1.1]) (PT.cond (λh=>PT.some ⟨_,rfl,Sort.permIn_trans _ _ _ _ _ H A.1,A.2 h⟩) (λ_=>PT.some ⟨_,rfl,Sort.permIn_trans _ _ _ _ _ H A.1⟩));rintro(u|u) hu;obtain⟨e,rfl,p3⟩:=hu;have z3:e.size=d.size:=p3.1;have B3:Sort.Below lE k m e:=Sort.Below.perm q8 f p3;show PT _ (Option.bind _ _) _;refine PT.bind (P:=λ(v:(Int×List EN)⊕ (Int×List EN))=>match v with
  | .inl w=> ∃(c:Nat) (g:Array EN),w=((c:Int),g.toList)/\k<c/\c<=m/\g.size=e.size/\Sort.Below lE c m g/\ ∀R,tN c m g R->tN k m e R
  | .inr w=>w=((k:Int),e.toList)) ?_ ?_
 refine PT.dec (λhk=>?_) (λ_=>PT.some rfl);have e1:wi ((k:Int)-1)=((k-1:Nat):Int):=by rw[rI (by omega)];omega
 obtain⟨v,Q,Z⟩:=uE e[k-1]! e[z]!;rw[e1,Un (k:=k-1) rfl (by omega),Un (k:=z) rfl (by omega)];simp only[AI,Q,Z];refine PT.not (λhn=>?_) (λ_=>PT.some rfl);have:DH e.toList ((k:Int),((m:Int),(z:Int)))=some ((((Sort.partitionEqual lE e k m z).1:Nat):Int),(Sort.partitionEqual lE e k m z).2.toList):=xJ (l:=e.toList) rfl rfl rfl n o (by simp;omega) (by simp;omega);rw[this,AI];clear this;generalize K:Sort.partitionEqual lE e k m z=w;have⟨c,g⟩:=w;have⟨r1,r2,I,W,X⟩:=Sort.round_eq mc (Sort.partitionEqual_holds lE) (by omega) n o (by omega) B3 hn K;refine FY (by simp[I]) (PT.some ⟨_,_,rfl,r1,r2,I,W,λR j=>X R j.1 j.2⟩);rintro(w|w) K;obtain⟨c,g,rfl,r1,r2,I,W,X⟩:=K;refine PT.some ⟨⟨c,m,g,rfl,rfl,rfl,by omega,by omega,q6,by omega,W,λR j=>q9 R ?_⟩,?_⟩;have:=X R j;exact⟨Sort.permIn_trans _ _ _ _ _ p3 this.1,this.2⟩;show((m:Int)-(c:Int)).toNat<((m:Int)-(k:Int)).toNat
 omega;subst K;show PT _ (Option.bind _ _) _;have:D0 e.toList ((k:Int),((m:Int),(z:Int)))=some ((((Sort.partition lE e k m z).1:Nat):Int),((Sort.partition lE e k m z).2.1,(Sort.partition lE e k m z).2.2.toList)):=zM (l:=e.toList) rfl rfl rfl n o (by simp;omega) (by simp;omega);dsimp only;rw[this,AI];clear this;generalize K:Sort.partition lE e k m z=w;have⟨c,ap,g⟩:=w;have rp:=Sort.round_part mc (Sort.partition_holds lE) n o (by omega) B3 K;dsimp only;have⟨r1,r2,I,W,X,r6,r7⟩:=rp;refine FY (by simp[I]) ?_;have e2:wi ((c:Int)-(k:Int))=((c-k:Nat):Int):=by rw[Oy (by omega)];omega
 have e3:wi ((m:Int)-(c:Int))=((m-c:Nat):Int):=by rw[Oy (by omega)];omega
 have e4:=kf (i:=c) (by omega);rw[e2,e3,e4];refine PT.bind (P:=λ(v:Int×(Int×(Bool×List EN)))=> ∃(C D:Nat) (J:Array EN),v.1=C/\v.2.1=D/\v.2.2.2=J.toList/\k<=C/\C<=D/\D<=m/\D-C<m-k/\J.size=e.size/\Sort.Below lE C D J/\ ∀R,tN C D J R->tN k m e R) ?_ ?_;refine PT.dec ?_ ?_<;>intro hc;have hr:=E g k c F r1 (by omega) (by omega) (by omega) W;refine PT.bind (P:=λr=> ∃R:Array EN,r=R.toList/\tN k c g R) ⟨λt=>hr.1 (by omega),hr.2⟩ ?_;rintro r ⟨L,rfl,G⟩;have⟨b1,b2⟩:=r6 L G.1 G.2;have zL:L.size=g.size:=G.1.1;refine FY (by show L.toList.length=e.toList.length;rw[DM,DM,zL,I]) (PT.some ⟨c+1,m,L,rfl,rfl,rfl,by omega,by omega,by omega,by omega,by omega,b1,λR j=>b2 R j.1 j.2⟩);have hr:=E g (c+1) m F (by omega) (by omega) (by omega) (by omega) X;refine PT.bind (P:=λr=> ∃R:Array EN,r=R.toList/\tN (c+1) m g R) ⟨λt=>hr.1 (by omega),hr.2⟩ ?_;rintro r ⟨L,rfl,G⟩;have⟨b1,b2⟩:=r7 L G.1 G.2;have zL:L.size=g.size:=G.1.1;refine FY (by show L.toList.length=e.toList.length;rw[DM,DM,zL,I]) (PT.some ⟨k,c,L,rfl,rfl,rfl,by omega,by omega,by omega,by omega,by omega,b1,λR j=>b2 R j.1 j.2⟩);rintro⟨v1,v2,v3,v4⟩ ⟨C,D,J,h1,h2,h3,h4,h5,h6,h7,h8,h9,ad⟩;dsimp only at h1 h2 h3;subst h1 h2 h3;refine PT.some ⟨⟨C,D,J,rfl,rfl,rfl,by omega,h5,by omega,by omega,h9,λR j=>q9 R ?_⟩,?_⟩;have:=ad R j;exact⟨Sort.permIn_trans _ _ _ _ _ p3 this.1,this.2⟩;show((D:Int)-(C:Int)).toNat<((m:Int)-(k:Int)).toNat
 omega;obtain⟨R,rfl,j⟩:=hu;exact PT.some ⟨R,rfl,q9 R j⟩
def zN(a:List EN×(Int×(Int×Int))->Option (List EN))(l:List EN)(x:Int×(Int×Int)):D1 a l x=Option.bind (Ad (Ep a) (x.1,(x.2.1,(x.2.2,(true,(true,l)))))) λv=>some v:=rfl
def kZ{B:Nat}(a:CP B): ∀(N:Nat) (d:Array EN) (k m:Nat) (b:Int),k≤m→m≤d.size→d.size≤16777216→m-k≤B→Sort.Below lE k m d→
  PT (m-k<N) (dE (λg p=>D1 g p.1 p.2) N (d.toList,((k:Int),((m:Int),b)))) λr=> ∃R:Array EN,r=R.toList/\tN k m d R
 |0,d,k,m,b,h1,h2,h3,h4,h5=>⟨λt=>absurd t (by omega),λr e=>by cases e⟩
 |N+1,d,k,m,b,h1,h2,h3,h4,h5=>by show PT _ (D1 (dE _ N) d.toList ((k:Int),((m:Int),b))) _;rw[zN];refine PT.bind (P:=λr=> ∃R:Array EN,r=R.toList/\tN k m d R) ?_ λr h=>PT.some h;exact PT.loop (IV k m d) (λs=>(s.2.1-s.1).toNat) ⟨k,m,d,rfl,rfl,rfl,Ak _,h1,Ak _,rfl,h5,λR h=>h⟩ λs c=>⟨(qm a (kZ a N) h2 h3 h4 c).1,λf e=>by have:=(qm a (kZ a N) h2 h3 h4 c).2 f e;cases f<;>exact this⟩
def AA7{B:Nat}(a:CP B){d:Array EN}{k m:Nat}{lim:Int}(b:k≤m)(c:m≤d.size)(e:d.size≤16777216)(f:m-k≤B)(g:Sort.Below lE k m d):
  Ay (HQ d.toList ((k:Int),((m:Int),lim))) λr=> ∃R:Array EN,r=R.toList/\tN k m d R:=by
 have⟨r,hr⟩:=(kZ a (m-k+1) d k m lim b c e f g).1 (by omega);have⟨s,h⟩:=aX hr;have⟨N,i⟩:=Y0 h;exact⟨s,h,(kZ a N d k m lim b c e f g).2 s i⟩
def zg{B:Nat}(c:CP B){l:List EN}(h:l.length<=B)(q:l.length<=16777216):Ay (Cc l ()) λr=>r.Perm l/\r.Pairwise λa b=>a.1<=b.1:=by
 unfold Cc OP;obtain⟨n,g,-,-⟩:=tK (x:=l.length) q;rw[S2,show(len l)%18446744073709551616=(l.length:Int) by show((l.length:Nat):Int)%_=_;omega,g];simp only[AI];apply AB (AA7 c (d:=l.toArray) (k:=0) (m:=l.length) (lim:=(n:Int)) (by omega) (by simp) (by simpa using q) (by omega) (.inl rfl));rintro r ⟨R,rfl,p,t⟩;have s:R.size=l.length:=by rw[p.1];simp
 have u:Nat.beq (List.length R.toList) (List.length l)=true:=by simp[s]
 rw[u,cond_true];refine AA ⟨?_,?_⟩;have:=p.2.2;rw[show R.extract 0 l.length=R by rw[<-s];exact gD,show l.toArray.extract 0 l.length=l.toArray by rw[show l.length=l.toArray.size by simp];exact gD]at this;exact this;rw[JL];intro i j v w f;have e:i<R.size:=by simpa using v
 have o:j<R.size:=by simpa using w
 have:=t i j (B7 _) f (by omega);rw[getElem!_pos R j o,getElem!_pos R i e]at this;simp only[lE,decide_eq_false_iff_not]at this;simp only[Array.getElem_toList];omega
def Wo{x:AK×Int}(h:x.1.1.length<=16)(a:0<=x.2/\x.2<x.1.1.length):Ay (JM x) λr=>True:=by unfold JM;have e:=AW (x:=x.2+1);rw[e];refine AC (λb=>?_) (λ_=>?_);simp only[len]at b;refine AB (AE a.1 a.2) λc _=>?_;exact AB (AE (by omega) b) λd _=>AA trivial;exact AB (AE a.1 a.2) λf _=>AA trivial
theorem eT{x:AK×AU}(h:x.1.1.length<=16):Ay (LN x) λr=>True:=by
 unfold LN;refine AB (P:=λ_=>True) ?_ λv _=>A2 (λ_ _=>AA trivial) (λ_ _=>AA trivial);refine AM (λ(s:Int)=>0<=s/\s<=x.1.1.length) (λ(s:Int)=>((x.1.1.length:Int)-s).toNat) ⟨Ae _,by omega⟩ (λs c=>?_);unfold PE;have e:=AW (x:=s+1) (by omega);rw[e];refine AC (λa=>?_) (λ_=>AA trivial);simp only[len]at a;have b:((0<=s+1/\s+1<=x.1.1.length)/\((x.1.1.length:Int)-(s+1)).toNat<((x.1.1.length:Int)-s).toNat):=⟨⟨by omega,by omega⟩,by omega⟩
 refine AB (Wo h ⟨c.1,a⟩) λd _=>?_;refine AQ (λ_=>?_) (λ_=>AA b);exact AQ (λ_=>AA trivial) (λ_=>AA b)
def eS{x:AK×BL}(h:x.1.1.length<=16)(c:x.2.2.2.length<=2199023255552):Ay (Gi x) λr=>r.2=true->X7 r.1:=by unfold Gi;refine AL (λ_=>AA λa=>absurd a (by decide)) (λ_=>?_);refine AB (kR c) λd b=>?_;refine AQ (λa=>?_) (λ_=>AA λa=>by cases a);exact AB (eT h) λe _=>AA λ_=>b a
def fj{a b:Int}(f:0<=a:=by omega)(g:0<=b:=by omega)(h:a+b<=1099511627776:=by omega):wi (Int.fdiv (IntKind.wrap .u64 (wi (a+b))) (2^(min (Int.toNat 1) 64)))=(a+b)/2:=by
 have c:wi (a+b)=a+b:=AW;have d:IntKind.wrap .u64 (a+b)=a+b:=by rw[S2];omega
 have e:(2:Int)^(min (Int.toNat 1) 64)=2:=by decide
 rw[c,d,e,YC _ (by decide)];exact AW
def Y6{x:Int×Int}:Ay (R5 x) λr=>r=true↔x.1<x.2:=by unfold R5 EK;apply BE;refine AF (λa=>?_) (λ_=>AA (by simp));simp at a
def dR{x:Int}:Ay (EK x) λr=>r=false:=by unfold EK;exact AA (by simp)
def Sc{x:List Int×Int}(h:x.1.length<=16777216):Ay (FF x) λr=>0<=r.1/\r.1<=x.1.length/\(r.2=true->r.1<x.1.length)/\(r.2=false->r.1<x.1.length-> ∀e,x.1[r.1.toNat]? =some e->x.2<e):=by
 unfold FF;refine AB (P:=λ(r:Int)=>0<=r/\r<=x.1.length/\ ∀e,x.1[r.toNat]? =some e->x.2<=e) ?_ λC o=>?_;refine AM (λ(s:Int×Int)=>0<=s.1/\s.1<=s.2/\s.2<=x.1.length/\ ∀e,x.1[s.2.toNat]? =some e->x.2<=e) (λ(s:Int×Int)=>(s.2-s.1).toNat) ⟨Ae _,by simp only[len];omega,by simp only[len];omega,λe a=>?_⟩ (λs u=>?_);have:(len x.1).toNat=x.1.length:=by simp only[len];omega
 rw[this,Cs (Ak _)]at a;cases a;obtain⟨g,z,i,j⟩:=u;unfold Hn;rw[fj g];refine AC (λb=>?_) (λb=>AA ?_);refine AB (AE) λy l=>?_;refine AB Y6 λA f=>?_;have k:=AW (x:=(s.1+s.2)/2+1);rw[k];refine AB (P:=λ(r:Int×Int)=>(0<=r.1/\r.1<=r.2/\r.2<=(x.1.length:Int)/\ ∀e,x.1[r.2.toNat]? =some e->x.2<=e)/\(r.2-r.1).toNat<(s.2-s.1).toNat) ?_ λB n=>AA n;refine AF (λ_=>AA ⟨⟨by dsimp only;omega,by dsimp only;omega,i,j⟩,by dsimp only;omega⟩) (λv=>AA ⟨⟨g,by dsimp only;omega,by dsimp only;omega,λe a=>?_⟩,by dsimp only;omega⟩);dsimp only at a;rw[l.1]at a;injection a with a;subst a;rw[v]at f;have m: ¬y<x.2:=λq=>by have:=f.2 q;cases this
 omega;have:s.1=s.2:=by omega
 rw[this];exact⟨by omega,i,j⟩;obtain⟨a1,a2,a3⟩:=o;refine AC (λb=>?_) (λb=>AA ⟨a1,a2,λc=>(by cases c),λ_ d=>?_⟩);simp only[len]at b;refine AB (AE a1 b) λD p=>?_;refine AQ (λ_=>AA ⟨a1,a2,λ_=>b,λc=>(by cases c)⟩) (λw=>?_);refine AB (AE a1 b) λE _=>?_;refine AB dR λF t=>?_;refine AF (λc=>?_) (λ_=>AA ⟨a1,a2,λc=>(by cases c),λ_ _ e a=>?_⟩);rw[t]at c;cases c;have:=a3 e a;dsimp only at a;rw[p.1]at a;injection a with a;subst a;omega;simp only[len]at b;dsimp only at d;omega
def gg{x:AK×Int}(h:VB x.1):Ay (FV x) λr=>True:=by
 obtain⟨⟨j,k,l,b,c,m,n⟩,_⟩:=id h;unfold FV;refine AB (J1 h) λs _=>?_;refine AO (λ_=>AA trivial) (λ_=>?_);refine AC (λ_=>AA trivial) (λo=>?_);refine AC (λ_=>AA trivial) (λp=>?_);refine AB (Sc (by dsimp only;omega)) λa d=>?_;obtain⟨a1,a2,a3,a4⟩:=d;dsimp only at a1 a2 a3 a4;have e:=AW (x:=a.1-1);rw[e];refine AB (P:=λ(r:Int)=>0<=r/\r<x.1.1.length) ?_ λt f=>?_;refine AO (λg=>AA ?_) (λi=>AA ⟨a1,a3 i⟩);refine⟨?_,by omega⟩;rcases dj 0 a.1 with q|q;omega;exfalso;have q0:a.1=0:=by omega
 have:=a4 g (by omega) 0 (by rw[q0];exact c);omega;exact AB (Wo b f) λu _=>AA trivial
def MT{α:Type}(b:Bool)(o:Option α)(Q:α->Prop):Prop:=(b=true-> ∃r,o=some r)/\ ∀r,o=some r->Q r
section
variable {α β:Type} {b:Bool}
def MT.some{r:α}{Q:α->Prop}(h:Q r):MT b (.some r) Q:=⟨λ_=>⟨r,rfl⟩,λs e=>by injection e with e;rw[<-e];exact h⟩
def LL{o:Option α}{Q:α->Prop}(h:Ay o Q):MT b o Q:=⟨λ_=>by have⟨r,e,_⟩:=h;exact⟨r,e⟩,λr e=>h.get e⟩
def MT.bind{o:Option α}{k:α->Option β}{P:α->Prop}{Q:β->Prop}(h:MT b o P)(d: ∀r,P r->MT b (k r) Q):MT b (Option.bind o k) Q:=by refine⟨λc=>?_,λr e=>?_⟩;have⟨r,e⟩:=h.1 c;have⟨s,a⟩:=(d r (h.2 r e)).1 c;exact⟨s,by rw[e];exact a⟩;have⟨s,f,a⟩:=Dq.1 e;exact(d s (h.2 s f)).2 r a
def MT.cond{c:Bool}{x y:Option α}{Q:α->Prop}(a:c=true->MT b x Q)(d:c=false->MT b y Q):MT b (bif c then x else y) Q:=by cases c<;>grind
def MT.dec{p:Prop}{_:Decidable p}{x y:Option α}{Q:α->Prop}(a:p->MT b x Q)(c: ¬p->MT b y Q):MT b (bif decide p then x else y) Q:=by simp_all[MT.cond]
def MT.beq{a:Type}{_:BEq a} [LawfulBEq a] {x y:a}{u v:Option α}{Q:α->Prop}(c:x=y->MT b u Q)(d:x≠y->MT b v Q):MT b (bif x==y then u else v) Q:=by simp_all[MT.cond]
end
def SP{α:Type}(l r:List α):Prop:=r.length=l.length/\ ∀e∈r,e∈l
def SP.refl{a:Type}(l:List a):SP l l:=⟨rfl,λ_ h=>h⟩
def SP.trans{f:Type}{a b c:List f}(h:SP a b)(g:SP b c):SP a c:=⟨g.1.trans h.1,λe d=>h.2 e (g.2 e d)⟩
def PU{a:Type}{l:List a}{i:Int}{x:a}:(BR l i x).length=l.length:=by simp[BR]
def SP.put{b:Type}{l m:List b}{i:Int}{x:b}(h:SP l m)(c:x∈l):SP l (BR m i x):=⟨by rw[PU];exact h.1,λe a=>by unfold BR at a;rcases Nl a with q|q;exact h.2 e q;rw[q];exact c⟩
theorem o8{e:Type}{a b:List e}{c:Type}{x:Option c}{Q:c->Prop}(h:SP a b)(d:Ay x Q):Ay (bif Nat.beq (List.length b) (List.length a)then x else none) Q:=by rw[h.1,HY];exact d
def w9{f:Type}{a b:List f}{d:Type}{c:Bool}{x:Option d}{Q:d->Prop}(h:SP a b)(e:MT c x Q):MT c (bif Nat.beq (List.length b) (List.length a)then x else none) Q:=by rw[h.1,HY];exact e
abbrev NL:=List Aq
def Mc{x:Aq×Aq}:Ay (Fs x) λr=>True:=by unfold Fs;refine AB Md λ_ _=>?_;refine AB Md λ_ _=>?_;grind[AB,Md,dJ,AA]
def tF{l:NL}{x:Int×Int×Int}(h:l.length<=16777216)(b:0<=x.1/\0<=x.2.1/\x.1+x.2.2<=l.length/\x.2.1+x.2.2<=l.length):Ay (Bw l x) λr=>SP l r:=by have⟨a1,a2,a3,a4⟩:=b;unfold Bw;refine AB (P:=λr=>SP l r) ?_ λv f=>AA f;refine AM (λ(s:Int×NL)=>0<=s.1/\SP l s.2) (λ(s:Int×NL)=>(x.2.2-s.1).toNat) ⟨Ae _,SP.refl l⟩ (λs e=>?_);have⟨i,a⟩:=e;have j:=a.1;unfold E9;refine AC (λg=>?_) (λ_=>AA a);rw[(AW (x:=x.2.1+s.1)),(AW (x:=x.1+s.1)),(AW (x:=s.1+1))];refine AB (AE) λk _=>?_;refine AB (AE) λm c=>?_;refine AB (AE) λn _=>?_;refine AB (AE) λo d=>?_;refine AB (AE) λp _=>?_;refine AB (AE) λq _=>?_;refine AB (AE (by omega) (by rw[PU];omega)) λt _=>?_;refine AB (AE (by omega) (by rw[PU];omega)) λu _=>AA ⟨⟨by dsimp only;omega,?_⟩,by dsimp only;omega⟩;exact(a.put (a.2 _ c.2)).put (a.2 _ d.2)
theorem AB9{l:NL}{x:Int×Int×Int}(h:l.length<=16777216)(g:0<=x.1/\x.1<x.2.1/\x.2.1<x.2.2/\x.2.2<=l.length):Ay (Cy l x) λr=>SP l r:=by have⟨a1,a2,a3,a4⟩:=g;unfold Cy;rw[(AW (x:=x.2.1-x.1) (by omega)),(AW (x:=x.2.2-x.2.1) (by omega))];refine AB (P:=λr=>0<r.1/\r.1<=x.2.1-x.1/\r.1<=x.2.2-x.2.1/\SP l r.2) ?_ λq i=>?_;refine AM (λ(s:Int×Int×NL)=>0<s.1/\0<s.2.1/\s.1<=x.2.1-x.1/\s.2.1<=x.2.2-x.2.1/\SP l s.2.2) (λ(s:Int×Int×NL)=>(s.1+s.2.1).toNat) ⟨by dsimp only;omega,by dsimp only;omega,by dsimp only;omega,by dsimp only;omega,SP.refl l⟩ (λs j=>?_);have⟨e,n,f,o,c⟩:=j;have z:=c.1;unfold Fl;refine AL (λm=>?_) (λk=>AA ⟨e,f,by dsimp only;omega,c⟩);rw[(AW (x:=x.2.1-s.1) (by omega)),(AW (x:=s.1-s.2.1) (by omega)),(AW (x:=x.2.1+s.2.1) (by omega)),(AW (x:=x.2.1+s.2.1-s.1) (by omega)),(AW (x:=s.2.1-s.1) (by omega))];refine AC ?_ ?_<;>intro y;refine AB (tF (by omega) ⟨by dsimp only;omega,by dsimp only;omega,by dsimp only;omega,by dsimp only;omega⟩) λp a=>?_;exact o8 a (AA ⟨⟨by dsimp only;omega,n,by dsimp only;omega,o,c.trans a⟩,by dsimp only;omega⟩);refine AB (tF (by omega) ⟨by dsimp only;omega,by dsimp only;omega,by dsimp only;omega,by dsimp only;omega⟩) λp a=>?_;exact o8 a (AA ⟨⟨e,by dsimp only;omega,f,by dsimp only;omega,c.trans a⟩,by dsimp only;omega⟩);have⟨t,u,v,d⟩:=i;have w:=d.1;rw[(AW (x:=x.2.1-q.1) (by omega))];refine AB (tF (by omega) ⟨by dsimp only;omega,by dsimp only;omega,by dsimp only;omega,by dsimp only;omega⟩) λA b=>?_;exact o8 b (AA (d.trans b))
def z0{l:NL}{x:Int×Int}(h:l.length<=16777216)(e:0<=x.1/\x.1<=l.length/\x.2<=l.length):Ay (B0 l x) λr=>SP l r:=by have⟨a1,q,a2⟩:=e;unfold B0;rw[(AW (x:=x.1+1))];refine AB (P:=λr=>SP l r) ?_ λv c=>AA c;refine AM (λ(s:Int×NL)=>x.1<s.1/\SP l s.2) (λ(s:Int×NL)=>(x.2-s.1).toNat) ⟨by dsimp only;omega,SP.refl l⟩ (λs g=>?_);have⟨u,d⟩:=g;have w:=d.1;unfold CA;refine AC (λj=>?_) (λ_=>AA d);rw[(AW (x:=s.1+1))];refine AB (P:=λr=>SP l r) ?_ λv c=>AA ⟨⟨by dsimp only;omega,c⟩,by dsimp only;omega⟩;refine AM (λ(t:Int×NL)=>x.1<=t.1/\t.1<=s.1/\SP l t.2) (λ(t:Int×NL)=>(t.1-x.1).toNat) ⟨by omega,Ae _,d⟩ (λt i=>?_);have⟨y,z,a⟩:=i;have A:=a.1;unfold Ci;refine AC (λj=>?_) (λ_=>AA a);rw[(AW (x:=t.1-1))];refine AB (AE) λB _=>?_;refine AB (AE) λC _=>?_;refine AB (AE) λD _=>?_;refine AB (AE) λE _=>?_;refine AB Mc λF _=>?_;refine AC (λ_=>?_) (λ_=>AA a);refine AB (AE) λG _=>?_;refine AB (AE) λH f=>?_;refine AB (AE) λI _=>?_;refine AB (AE) λk b=>?_;refine AB (AE) λm _=>?_;refine AB (AE) λn _=>?_;refine AB (AE (by omega) (by rw[PU];omega)) λo _=>?_;refine AB (AE (by omega) (by rw[PU];omega)) λp _=>AA ⟨⟨by dsimp only;omega,by dsimp only;omega,?_⟩,by dsimp only;omega⟩;exact(a.put (a.2 _ f.2)).put (a.2 _ b.2)
theorem ACG{c:Bool}{g:NL×Int×Int×Int→Option NL}{l:NL}{x:Int×Int×Int}(h:l.length≤16777216)(h1:0≤x.1∧x.1<x.2.1∧x.2.1<x.2.2∧x.2.2≤l.length)
  (Y: ∀(m:NL) (a k e:Int),SP l m->0<=a->a<k->k<e->e<=l.length->e-a<x.2.2-x.1->MT c (g (m,(a,(k,e)))) λr=>SP m r):MT c (BG g l x) λr=>SP l r:=by
 obtain⟨a1,a2,a3,a4⟩:=h1;unfold BG;have w1:=AW (x:=x.2.1-x.1) (by omega);have w2:=AW (x:=x.2.2-x.2.1) (by omega);rw[w1,w2];refine MT.beq (λhe=>?_) (λap=>?_);refine MT.bind (P:=λ(r:Int)=>x.2.1<=r/\r<=x.2.2) (LL ?_) λv6 h6=>LL ?_;refine AM (λ(s:Int×Int)=>x.2.1<=s.1/\s.1<=s.2/\s.2<=x.2.2) (λ(s:Int×Int)=>(s.2-s.1).toNat) ⟨Ae _,by omega,Ae _⟩ (λs p=>?_);obtain⟨n,j,z⟩:=p;unfold Cd;rw[fj (by omega) (by omega) (by omega)];refine AC (λf=>?_) (λf=>AA ⟨n,by omega⟩);have o:=AW (x:=(s.1+s.2)/2+1) (by omega);rw[o];refine AB (AE (by omega) (by omega)) λ_ _=>?_;refine AB (AE (by omega) (by omega)) λ_ _=>?_;refine AB (AE (by omega) (by omega)) λ_ _=>?_;refine AB (AE (by omega) (by omega)) λ_ _=>?_;refine AB Mc λ_ _=>?_;exact AC (λ_=>AA ⟨⟨by dsimp only;omega,by dsimp only;omega,z⟩,by dsimp only;omega⟩) (λ_=>AA ⟨⟨n,by dsimp only;omega,by dsimp only;omega⟩,by dsimp only;omega⟩);refine AB (P:=λr=>SP l r) ?_ λv i=>AA i;refine AM (λ(s:Int×NL)=>x.1<=s.1/\SP l s.2) (λ(s:Int×NL)=>(v6-s.1).toNat) ⟨Ae _,SP.refl l⟩ (λs p=>?_);obtain⟨n,j⟩:=p;have z:=j.1;unfold C5;have e0:=AW (x:=v6-1) (by omega);rw[e0];refine AC (λf=>?_) (λ_=>AA j);have o:=AW (x:=s.1+1) (by omega);rw[o];refine AB (AE (by omega) (by omega)) λv8 _=>?_;refine AB (AE (by omega) (by omega)) λv9 K=>?_;refine AB (AE (by omega) (by omega)) λN _=>?_;refine AB (AE (by omega) (by omega)) λO y=>?_;refine AB (AE (by omega) (by omega)) λQ _=>?_;refine AB (AE (by omega) (by omega)) λR _=>?_;refine AB (AE (by omega) (by rw[PU];omega)) λS _=>?_;refine AB (AE (by omega) (by rw[PU];omega)) λT _=>AA ⟨⟨by dsimp only;omega,?_⟩,by dsimp only;omega⟩;exact(j.put (j.2 _ K.2)).put (j.2 _ y.2);refine MT.beq (λhe=>?_) (λZ=>?_);refine MT.bind (P:=λ(r:Int)=>x.1<=r/\r<=x.2.1) (LL ?_) λU ad=>LL ?_;refine AM (λ(s:Int×Int)=>x.1<=s.1/\s.1<=s.2/\s.2<=x.2.1) (λ(s:Int×Int)=>(s.2-s.1).toNat) ⟨Ae _,by dsimp only;omega,Ae _⟩ (λs p=>?_);obtain⟨n,j,z⟩:=p;unfold Bn;rw[fj (by omega) (by omega) (by omega)];refine AC (λf=>?_) (λf=>AA ⟨n,by omega⟩);have o:=AW (x:=(s.1+s.2)/2+1) (by omega);rw[o];refine AB (AE (by omega) (by omega)) λ_ _=>?_;refine AB (AE (by omega) (by omega)) λ_ _=>?_;refine AB (AE (by omega) (by omega)) λ_ _=>?_;refine AB (AE (by omega) (by omega)) λ_ _=>?_;refine AB Mc λ_ _=>?_;exact AO (λ_=>AA ⟨⟨by dsimp only;omega,by dsimp only;omega,z⟩,by dsimp only;omega⟩) (λ_=>AA ⟨⟨n,by dsimp only;omega,by dsimp only;omega⟩,by dsimp only;omega⟩);refine AB (P:=λr=>SP l r) ?_ λv i=>AA i;refine AM (λ(s:Int×NL)=>s.1<=x.2.1/\SP l s.2) (λ(s:Int×NL)=>(s.1-U).toNat) ⟨Ae _,SP.refl l⟩ (λs p=>?_);obtain⟨n,j⟩:=p;have z:=j.1;unfold C6;refine AC (λf=>?_) (λ_=>AA j);have o:=AW (x:=s.1-1) (by omega);rw[o];refine AB (AE (by omega) (by omega)) λv8 _=>?_;refine AB (AE (by omega) (by omega)) λv9 K=>?_;refine AB (AE (by omega) (by omega)) λN _=>?_;refine AB (AE (by omega) (by omega)) λO y=>?_;refine AB (AE (by omega) (by omega)) λQ _=>?_;refine AB (AE (by omega) (by omega)) λR _=>?_;refine AB (AE (by omega) (by rw[PU];omega)) λS _=>?_;refine AB (AE (by omega) (by rw[PU];omega)) λT _=>AA ⟨⟨by dsimp only;omega,?_⟩,by dsimp only;omega⟩;exact(j.put (j.2 _ K.2)).put (j.2 _ y.2);have B:=fj (a:=x.1) (b:=x.2.2) (by omega) (by omega) (by omega);unfold B8;rw[B];generalize hM:(x.1+x.2.2)/2=M;have m1:x.1<M/\M<x.2.2/\2*M<=x.1+x.2.2/\x.1+x.2.2<=2*M+1:=by omega
 obtain⟨m1,m2,m3,m4⟩:=m1;have w3:=AW (x:=M+x.2.1) (by omega);have w4:=AW (x:=M+x.2.1-x.2.2) (by omega);have w5:=AW (x:=M+x.2.1-1) (by omega);rw[w3,w4,w5];refine MT.bind (P:=λ(r:Int×Int)=>x.1<=r.1/\r.1<=r.2/\r.2<=x.2.1/\r.2<=M/\M+x.2.1-r.1<=x.2.2/\ ∀k:Int,r.1<=k->k<r.2->0<=M+x.2.1-1-k/\M+x.2.1-1-k<l.length) ?_ λt G=>?_;refine MT.dec (λf=>MT.some ⟨by dsimp only;omega,by dsimp only;omega,by dsimp only;omega,Ae _,by dsimp only;omega,λk q1 q2=>by dsimp only at q1 q2;omega⟩) (λf=>MT.some ⟨Ae _,by dsimp only;omega,Ae _,by dsimp only;omega,by dsimp only;omega,λk q1 q2=>by dsimp only at q1 q2;omega⟩);obtain⟨p1,p2,p3,p4,p6,p5⟩:=G;refine MT.bind (P:=λ(r:Int)=>t.1<=r/\r<=t.2) (LL ?_) λd H=>?_;refine AM (λ(s:Int×Int)=>t.1<=s.1/\s.1<=s.2/\s.2<=t.2) (λ(s:Int×Int)=>(s.2-s.1).toNat) ⟨Ae _,p2,Ae _⟩ (λs p=>?_);obtain⟨n,j,z⟩:=p;rw[fj (by omega) (by omega) (by omega)];refine AC (λf=>?_) (λf=>AA ⟨n,by omega⟩);have q:=p5 ((s.1+s.2)/2) (by omega) (by omega);have o:=AW (x:=(s.1+s.2)/2+1) (by omega);have e2:=AW (x:=M+x.2.1-1-(s.1+s.2)/2) (by omega);rw[o,e2];refine AB (AE q.1 q.2) λ_ _=>?_;refine AB (AE q.1 q.2) λ_ _=>?_;refine AB (AE (by omega) (by omega)) λ_ _=>?_;refine AB (AE (by omega) (by omega)) λ_ _=>?_;refine AB Mc λ_ _=>?_;exact AO (λ_=>AA ⟨⟨by dsimp only;omega,by dsimp only;omega,z⟩,by dsimp only;omega⟩) (λ_=>AA ⟨⟨n,by dsimp only;omega,by dsimp only;omega⟩,by dsimp only;omega⟩);obtain⟨r1,r2⟩:=H;have w6:=AW (x:=M+x.2.1-d) (by omega);rw[w6]
 have tail: ∀m:NL,SP l m→MT c (bif (decide (M<M+x.2.1-d))then
   Option.bind ((bif (decide (M+x.2.1-d<x.2.2))then
      Option.bind (g (m,(M,(M+x.2.1-d,x.2.2)))) λF=>bif (Nat.beq (List.length F) (List.length m))then some F else none
     else some m):(Option NL)) λW=>some W
  else some m) λr=>SP l r:=λm w=>by
  refine MT.dec (λf=>?_) (λ_=>MT.some w);refine MT.bind (P:=λr=>SP l r) ?_ λv i=>MT.some i;refine MT.dec (λL=>?_) (λ_=>MT.some w);exact MT.bind (Y m M _ _ w (by omega) f L (by omega) (by omega)) λv i=>w9 i (MT.some (w.trans i))
 have u:x.1<d→ ∀m:NL,SP l m→MT c ((bif (decide (d<M))then
      Option.bind (g (m,(x.1,(d,M)))) λE=>bif (Nat.beq (List.length E) (List.length m))then some E else none
     else some m):(Option NL)) λr=>SP l r:=λC m w=>by
  refine MT.dec (λf=>?_) (λ_=>MT.some w);exact MT.bind (Y m x.1 d M w (by omega) C f (by omega) (by omega)) λv i=>w9 i (MT.some (w.trans i))
 refine MT.dec (λal=>?_) (λ_=>?_);refine MT.bind (P:=λr=>SP l r) ?_ λD A=>?_;refine MT.dec (λf=>?_) (λ_=>MT.some (SP.refl l));exact MT.bind (LL (AB9 h ⟨by dsimp only;omega,by dsimp only;omega,by dsimp only;omega,by dsimp only;omega⟩)) λv i=>w9 i (MT.some i);refine MT.dec (λC=>?_) (λ_=>tail D A);exact MT.bind (u C D A) λV I=>tail V I;refine MT.dec (λC=>?_) (λ_=>tail l (SP.refl l));exact MT.bind (u C l (SP.refl l)) λX J=>tail X J
def xn(c:Bool): ∀(n:Nat) {l:NL} {x:Int×Int×Int},l.length≤16777216→0≤x.1∧x.1<x.2.1∧x.2.1<x.2.2∧x.2.2≤l.length→(c=true→x.2.2-x.1≤n)→
  MT c (dE (λg (p:NL×Int×Int×Int)=>BG g p.1 p.2) n (l,x)) λr=>SP l r
 |0,l,x,h,h1,hn=>⟨λb=>by have:=hn b;omega,λr e=>by cases e⟩
 |n+1,l,x,h,h1,hn=>by show MT c (BG _ l x) λr=>SP l r;refine ACG h h1 λm a k e j d i f o q=>?_;have s:=j.1;exact xn c n (by omega) ⟨d,i,f,by dsimp only;omega⟩ λb=>by have:=hn b;dsimp only;omega
def AAG{l:NL}{x:Int×Int×Int}(h:l.length<=16777216)(a:0<=x.1/\x.1<x.2.1/\x.2.1<x.2.2/\x.2.2<=l.length):Ay (Ct l x) λr=>SP l r:=by unfold Ct;have⟨r,hr⟩:=(xn true (x.2.2-x.1).toNat h a λ_=>by omega).1 rfl;have⟨s,b⟩:=aX hr;have⟨n,hn⟩:=Y0 b;exact⟨s,b,(xn false n h a λc=>by cases c).2 s hn⟩
theorem xi{l:NL}{x:Int}(h:l.length<=1048576)(D:x=l.length):Ay (C0 l x) λr=>SP l r:=by unfold C0;refine AB (P:=λr=>0<=r.1/\r.1<=x/\SP l r.2) ?_ λJ q=>?_;refine AM (λ(s:Int×Int×NL)=>0<=s.1/\s.1<=x/\s.2.1=s.1+20/\SP l s.2.2) (λ(s:Int×Int×NL)=>(x-s.1).toNat) ⟨Ae _,by dsimp only;omega,rfl,SP.refl l⟩ (λs d=>?_);have⟨e,n,b,c⟩:=d;have E:=c.1;unfold Fm;refine AC (λm=>?_) (λ_=>AA ⟨e,n,c⟩);rw[(AW (x:=s.2.1+20))];refine AB (z0 (by omega) ⟨e,by dsimp only;omega⟩) λv a=>?_;exact o8 a (AA ⟨⟨by dsimp only;omega,by dsimp only;omega,rfl,c.trans a⟩,by dsimp only;omega⟩);have⟨p,B,i⟩:=q;have C:=i.1;refine AB (z0 (by omega) ⟨p,by dsimp only;omega⟩) λK k=>o8 k ?_;refine AB (P:=λr=>SP l r) ?_ λv a=>AA a;refine AM (λ(s:Int×NL)=>20<=s.1/\s.1<=2097152/\SP l s.2) (λ(s:Int×NL)=>(x-s.1).toNat) ⟨Ae _,by dsimp only;omega,i.trans k⟩ (λs d=>?_);have⟨e,n,b⟩:=d;have c:=b.1;unfold Fo;refine AC (λm=>?_) (λ_=>AA b);have j:=AW (x:=2*s.1);rw[j,(AW (x:=s.1*2))];refine AB (P:=λr=>0<=r.1/\r.1<=x/\SP l r.2) ?_ λA u=>?_;refine AM (λ(t:Int×Int×NL)=>0<=t.1/\t.1<=x/\t.2.1=t.1+2*s.1/\SP l t.2.2) (λ(t:Int×Int×NL)=>(x-t.1).toNat) ⟨Ae _,by dsimp only;omega,by dsimp only;omega,b⟩ (λt w=>?_);have⟨o,z,F,f⟩:=w;have G:=f.1;unfold Fp;refine AC (λm=>?_) (λ_=>AA ⟨o,z,f⟩);rw[(AW (x:=t.1+s.1)),j,(AW (x:=t.2.1+2*s.1))];refine AB (AAG (by omega) ⟨o,by dsimp only;omega⟩) λv a=>?_;exact o8 a (AA ⟨⟨by dsimp only;omega,by dsimp only;omega,rfl,f.trans a⟩,by dsimp only;omega⟩);have⟨k1,H,g⟩:=u;have I:=g.1;rw[(AW (x:=A.1+s.1))];refine AC (λy=>?_) (λ_=>AA ⟨⟨by dsimp only;omega,by dsimp only;omega,g⟩,by dsimp only;omega⟩);refine AB (AAG (by omega) ⟨k1,by dsimp only;omega⟩) λv a=>?_;exact o8 a (AA ⟨⟨by dsimp only;omega,by dsimp only;omega,g.trans a⟩,by dsimp only;omega⟩)
def ABK{l:NL}{x:Unit}(h:l.length<=1048576):Ay (Bq l x) λr=>SP l r:=by grind[Bq,AB,xi,o8,AA]
def DS(a:AK):Prop:= ∀f∈a.2.2.1,f.2.2.length<=2199023255552
def SpL(l:List EL):Prop:=l.length<=16777216/\ ∀s∈l,1<=s.1
def Zc{n:Int}{v:EN}: ∀{m:List (Int×EN)},(m.map (·.1)).Nodup-> ∀q,q∈Se n v m↔q=(n,v)\/(q∈m/\q.1≠n)
 |[],_,q=>by simp[Se]
 |p::r,h,q=>by
  rw[BZ,Ff]at h;unfold Se;by_cases b:p.1=n;have:(p.1==n)=true:=by simp[b]
  rw[this,cond_true];constructor;intro a;rcases An.1 a with a|a;exact .inl a;refine .inr ⟨CC _ a,λe=>h.1 ?_⟩;rw[b,<-e];exact Nk a;rintro(a|⟨a,hn⟩);exact An.2 (.inl a);rcases An.1 a with a|a;exact absurd (by rw[a];exact b) hn;exact CC _ a;have:(p.1==n)=false:=by simp[b]
  rw[this,cond_false];constructor;intro a;rcases An.1 a with a|a;exact .inr ⟨An.2 (.inl a),by rw[a];exact b⟩;rcases(Zc h.2 q).1 a with a|⟨a,hn⟩;exact .inl a;exact .inr ⟨CC _ a,hn⟩;rintro(a|⟨a,hn⟩);exact CC _ ((Zc h.2 q).2 (.inl a));rcases An.1 a with a|a;exact An.2 (.inl a);exact CC _ ((Zc h.2 q).2 (.inr ⟨a,hn⟩))
def nm{n:Int}{v:EN}: ∀{m:List (Int×EN)},(m.map (·.1)).Nodup->((Se n v m).map (·.1)).Nodup
 |[],_=>by simp[Se]
 |p::r,h=>by
  have c:=h;rw[BZ,Ff]at h;unfold Se;by_cases b:p.1=n;have:(p.1==n)=true:=by simp[b]
  rw[this,cond_true,BZ,Ff];exact⟨by rw[<-b];exact h.1,h.2⟩;have:(p.1==n)=false:=by simp[b]
  rw[this,cond_false,BZ,Ff];refine⟨λa=>?_,nm h.2⟩;obtain⟨q,a,e⟩:=Bl.1 a;rcases(Zc h.2 q).1 a with a|⟨a,hn⟩;rw[a]at e;exact b e.symm;exact h.1 (by rw[<-e];exact Nk a)
def nk{n:Int}{e:EN}: ∀{m:List (Int×EN)},PV n m=some e->(n,e)∈m
 |[],h=>by cases h
 |p::r,h=>by
  unfold PV at h;by_cases a:p.1=n;have:(p.1==n)=true:=by simp[a]
  rw[this,cond_true]at h;injection h with h;rw[<-a,<-h];exact An.2 (.inl rfl);have:(p.1==n)=false:=by simp[a]
  rw[this,cond_false]at h;exact CC _ (nk h)
def nj{n:Int}: ∀{m:List (Int×EN)},PV n m=none-> ∀q∈m,q.1≠n
 |[],_,q,a=>by cases a
 |p::r,h,q,a=>by
  unfold PV at h;by_cases b:p.1=n;have:(p.1==n)=true:=by simp[b]
  rw[this,cond_true]at h;cases h;have:(p.1==n)=false:=by simp[b]
  rw[this,cond_false]at h;rcases An.1 a with a|a;rw[a];exact b;exact nj h q a
def Oz(m:List (Int×EN))(P:EN->Prop):Prop:=(m.map (·.1)).Nodup/\(∀q∈m,q.1=q.2.1)/\ ∀e,(e.1,e)∈m↔P e
def Oz.nil:Oz [] λ_=>False:=⟨O5,by simp,by simp⟩
def Oz.put{m:List (Int×EN)}{P:EN->Prop}{v:EN}(h:Oz m P):Oz (Se v.1 v m) λe=>e=v\/(P e/\e.1≠v.1):=by refine⟨nm h.1,λq a=>?_,λe=>?_⟩;rcases(Zc h.1 q).1 a with a|⟨a,_⟩;rw[a];exact h.2.1 q a;rw[Zc h.1];constructor;rintro(a|⟨a,hn⟩);injection a with _ a;exact .inl a;exact .inr ⟨(h.2.2 e).1 a,hn⟩;rintro(rfl|⟨a,hn⟩);exact .inl rfl;exact .inr ⟨(h.2.2 e).2 a,hn⟩
def Oz.congr{m:List (Int×EN)}{P Q:EN->Prop}(h:Oz m P)(a: ∀e,P e↔Q e):Oz m Q:=⟨h.1,h.2.1,λe=>(h.2.2 e).trans (a e)⟩
def Oz.get{m:List (Int×EN)}{P:EN->Prop}(h:Oz m P){e:EN}(k:P e):PV e.1 m=some e:=by
 have j:=(h.2.2 e).2 k;cases i:PV e.1 m with
 |none=>exact absurd rfl (nj i _ j)
 |some f=>
  have o:=nk i;have q: ∀{l:List (Int×EN)},(l.map (·.1)).Nodup-> ∀{n:Int} {a b:EN},(n,a)∈l->(n,b)∈l->a=b:=by
   intro l;induction l with
   |nil=>intro _ n a b d;cases d
   |cons p r s=>intro g n a b d c;rw[BZ,Ff]at g;rcases An.1 d with d|d;rcases An.1 c with c|c;rw[<-d]at c;injection c with _ c;exact c.symm;exact absurd (by rw[<-d];exact Nk (f:=(·.1)) c) g.1;rcases An.1 c with c|c;exact absurd (by rw[<-c];exact Nk (f:=(·.1)) d) g.1;exact s g.2 d c
  rw[q h.1 j o]
def cw(e:EN):Bool:=(e.2.1==1)||(e.2.1==2)
def lL(e:EN):A5 e=some (cw e):=by unfold A5 cw;cases e.2.1==1<;>rfl
def LG(p i j:Int)(e:EN):Bool:=cw e&&((e.2.2.2.2.2.2.1.1==p)&&(decide (e.1>i)&&decide (e.1<=j)))
def Of(s:Int×Int)(n:Int):Bool:=decide (n>=s.1)&&decide (n<=s.2)
def has_eq(s:Int×Int)(n:Int):GA (s,n)=some (Of s n):=by unfold GA Of;dsimp only;cases decide (n>=s.1)<;>rfl
def ABv{e:EN}{l:List (Int×Int)}(p:l.length<=16777216):Ay (Ad (T0 e l) 0) λr=>(∀u,r= .inl u->0<=u/\(l.any λs=>Of s e.1)=true)/\(∀u,r= .inr u->(l.any λs=>Of s e.1)=false):=by refine AM (λ(s:Int)=>0<=s/\s<=l.length/\ ∀x∈l.take s.toNat,Of x e.1=false) (λ(s:Int)=>((l.length:Int)-s).toNat) ⟨Ae _,by omega,by simp⟩ (λs k=>?_);obtain⟨i,q,d⟩:=k;unfold T0;refine AC (λc=>?_) (λc=>AA ⟨λu b=>(by cases b),λu _=>?_⟩);simp only[len]at c;have j:=AW (x:=s+1);rw[j];refine AB (AE i c) λo f=>?_;rw[has_eq,AI];refine AF (λn=>AA ⟨λu b=>?_,λu b=>(by cases b)⟩) (λm=>AA ⟨⟨by omega,by omega,λx a=>?_⟩,by omega⟩);cases b;exact⟨i,YD.2 ⟨o,f.2,n⟩⟩;rw[show(s+1).toNat=s.toNat+1 by omega,D5,f.1]at a;rcases Ar.1 a with a|a;exact d x a;simp only[Jz,A3]at a;rw[a];exact m;simp only[len]at c;rw[Cb (by omega)]at d;rw[Bool.eq_false_iff];intro h;obtain⟨x,a,g⟩:=YD.1 h;rw[d x a]at g;cases g
def ABu{a:AK}{l:Aj}{p i j:Int}{d:List (Int×Int)}(R:D2 l)(hv:1≤d.length)(S:d.length≤16777216):
  Ay (Ad (Tz (a,(l,(p,(i,j)))) d) (0,(0,[]))) λr=>r.1=((l.2.1.filter λe=>LG p i j e&&(d.tail.any λs=>Of s e.1)).length:Int)/\Oz r.2 λe=>e∈l.2.1/\LG p i j e=true:=by
 obtain⟨l1,l2,l3,l4,l5,K⟩:=R;refine AM (λ(s:Int×(Int×List (Int×EN)))=>0<=s.1/\s.1<=l.2.1.length/\s.2.1=(((l.2.1.take s.1.toNat).filter λe=>LG p i j e&&(d.tail.any λs=>Of s e.1)).length:Int)/\Oz s.2.2 λe=>e∈l.2.1.take s.1.toNat/\LG p i j e=true) (λs=>((l.2.1.length:Int)-s.1).toNat)
  ⟨Ae _,by dsimp only;omega,by simp,Oz.nil.congr λe=>by simp⟩ (λs O=>?_)
 obtain⟨T,i2,A,B⟩:=O;unfold Tz;dsimp only;refine AC (λy=>?_) (λy=>AA ?_);simp only[len]at y;have L:=AW (x:=s.1+1);rw[L];refine AB (AE T y) λq I=>?_;rw[lL,AI];have g:l.2.1.take (s.1+1).toNat=l.2.1.take s.1.toNat++[q]:=by rw[show(s.1+1).toNat=s.1.toNat+1 by omega,D5,I.1];rfl
 have f:LG p i j q=false->(0<=s.1+1/\s.1+1<=l.2.1.length/\s.2.1=(((l.2.1.take (s.1+1).toNat).filter λe=>LG p i j e&&(d.tail.any λs=>Of s e.1)).length:Int)/\Oz s.2.2 λe=>e∈l.2.1.take (s.1+1).toNat/\LG p i j e=true)/\((l.2.1.length:Int)-(s.1+1)).toNat<((l.2.1.length:Int)-s.1).toNat:=λw=>by
  refine⟨⟨by omega,by omega,?_,?_⟩,by omega⟩;rw[g,Jp,A];simp[w];rw[g];refine B.congr λe=>⟨λh=>⟨Ar.2 (.inl h.1),h.2⟩,λh=>⟨?_,h.2⟩⟩
  rcases Ar.1 h.1 with m|m;exact m;rw[A3.1 m,w]at h;cases h.2
 refine AF (λC=>?_) (λC=>AA (f (by simp[LG,C])));refine AF (λD=>?_) (λD=>AA (f (by simp[LG,D])));refine AF (λE=>?_) (λE=>AA (f (by unfold LG;rw[E];simp)));refine AF (λF=>?_) (λF=>AA (f (by unfold LG;rw[F];simp)));have w:LG p i j q=true:=by unfold LG;rw[C,D,E,F];rfl
 refine AB (Bu (lo:=1) (hi:=(d.length:Int))) λV N=>?_;have H:V=d.tail:=by
  rw[N.1,Cb (by rw[G9];omega)];cases d with
  |nil=>rfl
  |cons a r=>rfl
 subst H;refine AB (ABv (by rw[List.length_tail];omega)) λU o=>?_;have M:=K s.1.toNat q I.1;have n:Oz (Se q.1 q s.2.2) λe=>e∈l.2.1.take (s.1+1).toNat/\LG p i j e=true:=by
  rw[g];refine B.put.congr λe=>⟨?_,λh=>?_⟩
  rintro(rfl|⟨h,_⟩);exact⟨Ar.2 (.inr (A3.2 rfl)),w⟩;exact⟨Ar.2 (.inl h.1),h.2⟩;rcases Ar.1 h.1 with m|m;refine .inr ⟨⟨m,h.2⟩,λZ=>?_⟩;obtain⟨k,Q,v⟩:=O3.1 m;rw[CH]at Q;rw[List.getElem_take]at v;have:=(K k e (by rw[<-v];exact Az (by omega))).1;omega;exact .inl (A3.1 m)
 have t: ∀b:Bool,(d.tail.any λs=>Of s q.1)=b->((((l.2.1.take (s.1+1).toNat).filter λe=>LG p i j e&&(d.tail.any λs=>Of s e.1)).length:Nat):Int)=s.2.1+(if b=true then 1 else 0):=λb P=>by rw[g,Jp,Ag,A];cases b<;>simp[w,P]
 have J:(((l.2.1.take s.1.toNat).filter λe=>LG p i j e&&(d.tail.any λs=>Of s e.1)).length:Int)<=4096:=by have W:=LC (λe=>LG p i j e&&(d.tail.any λs=>Of s e.1)) (l.2.1.take s.1.toNat);have X:=List.length_take_le s.1.toNat l.2.1;have Y:=List.length_take_le' s.1.toNat l.2.1;omega
 have G:=AW (x:=s.2.1+1);rw[G];refine A2 (λu z=>?_) (λu z=>AA ⟨⟨by dsimp only;omega,by dsimp only;omega,?_,n⟩,by dsimp only;omega⟩);refine AC (λ_=>AA ⟨⟨by dsimp only;omega,by dsimp only;omega,?_,n⟩,by dsimp only;omega⟩) (λc=>absurd (o.1 u z).1 c);rw[t true (o.1 u z).2];rfl;rw[t false (o.2 u z)];simp;simp only[len]at y;rw[Cb (by omega)]at A B;exact⟨A,B⟩
def sO(f e:EN):Prop:=f.2.2.2.2.2.2.1.1<e.2.2.2.2.2.2.1.1\/(f.2.2.2.2.2.2.1.1=e.2.2.2.2.2.2.1.1/\f.1<e.1)
def sP(e:EN): ¬sO e e:=by unfold sO;omega
def u6{a b c:EN}(h:sO a b)(g:sO b c):sO a c:=by unfold sO at*;omega
def zy(f e:EN): ∃c:Int,Df (f,e)=some c/\(c<0↔sO f e)/\(c=0↔f.2.2.2.2.2.2.1.1=e.2.2.2.2.2.2.1.1/\f.1=e.1):=by
 have:Ay (Df (f,e)) λc=>(c<0↔sO f e)/\(c=0↔f.2.2.2.2.2.2.1.1=e.2.2.2.2.2.2.1.1/\f.1=e.1):=by
  unfold Df;unfold sO;dsimp only;repeat' with_reducible first|apply AC<;>intro a|apply AQ<;>intro a|apply AF<;>intro a|apply AA
  all_goals omega
 exact this
def pU(x:AU)(i:Nat):Prop:= ∀e,x.2.2.2.2.2[i]? =some e->
 (OF e/\cw e=true/\x.1<=e.1/\e.1<=x.2.1/\x.2.2.1<=e.2.2.2.2.2.2.1.1/\e.2.2.2.2.2.2.1.1<=x.2.2.2.1)/\(i=0->e.2.2.2.2.1<x.1)/\
 ∀f,0<i->x.2.2.2.2.2[i-1]? =some f->sO f e/\(f.2.2.2.2.2.2.1.1=e.2.2.2.2.2.2.1.1->e.2.2.2.2.1=f.1)/\(f.2.2.2.2.2.2.1.1≠e.2.2.2.2.2.2.1.1->e.2.2.2.2.1<x.1)
def VR(x:AU):Prop:=X7 x/\ ∀i,pU x i
def VR.ent{x:AU}(h:VR x){e:EN}(a:e∈x.2.2.2.2.2):OF e/\cw e=true/\x.1<=e.1/\e.1<=x.2.1/\x.2.2.1<=e.2.2.2.2.2.2.1.1/\e.2.2.2.2.2.2.1.1<=x.2.2.2.1:=by obtain⟨i,b,rfl⟩:=O3.1 a;exact(h.2 i _ (Az b)).1
def rT{x:AU}(Q:x.2.2.2.2.2.length<=4096):Ay (Ad (Gy x) 0) λr=>(r= .inl false/\ ¬ ∀i,pU x i)\/(r= .inr ()/\ ∀i,pU x i):=by
 refine Ia (λ(s:Int)=>0<=s/\s<=x.2.2.2.2.2.length/\ ∀i:Nat,(i:Int)<s->pU x i) (λ(s:Int)=>((x.2.2.2.2.2.length:Int)-s).toNat) ⟨Ae _,by omega,λi z=>by omega⟩ (λs J=>?_);obtain⟨G,R,H⟩:=J;unfold Gy;simp only[len];refine AC (λE=>?_) (λE=>Ay.done (.inr ⟨rfl,λi=>?_⟩))
 case refine_2=>by_cases z:(i:Int)<s;exact H i z;intro e m;rw[Cs (by omega)]at m;cases m
 obtain⟨k,rfl⟩:=Eb G;refine AB (AE G E) λv d=>?_;have d:=d.1;rw[DD]at d;have a:(pU x k->False)->Ay (some (Step.done (.inl false)):Option (Step Int (Bool ⊕ Unit))) (bf (λ(s:Int)=>0<=s/\s<=x.2.2.2.2.2.length/\ ∀i:Nat,(i:Int)<s->pU x i) (λ(s:Int)=>((x.2.2.2.2.2.length:Int)-s).toNat) ((x.2.2.2.2.2.length:Int)-(k:Int)).toNat λr=>(r= .inl false/\ ¬ ∀i,pU x i)\/(r= .inr ()/\ ∀i,pU x i)):=λh=>Ay.done (.inl ⟨rfl,λu=>h (u k)⟩);have j:pU x k->Ay (some (Step.next (wi ((k:Int)+1))):Option (Step Int (Bool ⊕ Unit))) (bf (λ(s:Int)=>0<=s/\s<=x.2.2.2.2.2.length/\ ∀i:Nat,(i:Int)<s->pU x i) (λ(s:Int)=>((x.2.2.2.2.2.length:Int)-s).toNat) ((x.2.2.2.2.2.length:Int)-(k:Int)).toNat λr=>(r= .inl false/\ ¬ ∀i,pU x i)\/(r= .inr ()/\ ∀i,pU x i)):=λh=>by
  rw[AW];refine Ay.next ⟨by omega,by omega,λi z=>?_⟩ (by omega)
  by_cases A:i=k;rw[A];exact h;exact H i (by omega)
 refine AB B9 λN C=>?_;refine AO (λl=>a λok=>?_) (λl=>?_);have:=C.2 (ok v d).1.1;rw[l]at this;cases this;have q1:=C.1 l;refine AB Bv λO D=>?_;have q:cw v=true↔v.2.1=1\/v.2.1=2:=by unfold cw;simp
 refine AO (λl=>a λok=>?_) (λl=>?_);have:=D.2 (q.1 (ok v d).1.2.1);rw[l]at this;cases this;have q2:=q.2 (D.1 l);refine AC (λt=>a λok=>?_) (λq3=>?_);have:=(ok v d).1.2.2;omega;refine AC (λt=>a λok=>?_) (λq4=>?_);have:=(ok v d).1.2.2;omega;refine AC (λt=>a λok=>?_) (λq5=>?_);have:=(ok v d).1.2.2;omega;refine AC (λt=>a λok=>?_) (λq6=>?_);have:=(ok v d).1.2.2;omega;have q0:OF v/\cw v=true/\x.1<=v.1/\v.1<=x.2.1/\x.2.2.1<=v.2.2.2.2.2.2.1.1/\v.2.2.2.2.2.2.1.1<=x.2.2.2.1:=⟨q1,q2,by omega⟩
 apply AC<;>intro L;have M:wi ((k:Int)-1)=((k-1:Nat):Int):=by rw[AW];omega
 have F:k-1<x.2.2.2.2.2.length:=by omega
 have w:ix x.2.2.2.2.2 (wi ((k:Int)-1))=some (x.2.2.2.2.2[k-1]):=by rw[M];unfold ix;rw[if_pos (by omega),DD,Az F]
 have n:x.2.2.2.2.2[k-1]? =some (x.2.2.2.2.2[k-1]):=Az F;generalize x.2.2.2.2.2[k-1]=f at w n;obtain⟨c,y,p,K⟩:=zy f v;rw[w,AI,y,AI];refine AC (λt=>a λok=>?_) (λt=>?_);have:=p.2 ((ok v d).2.2 f (by omega) n).1;omega;have q7:=p.1 (by omega);rw[decide_eq_true (by omega),cond_true,AI];refine AB (P:=λr:Bool ⊕ Unit=>(r= .inl false/\ ¬pU x k)\/(r= .inr ()/\pU x k)) ?_ λr hr=>?_;apply AQ<;>intro m;rw[AI];refine AL (λhn=>AA (.inl ⟨rfl,λok=>hn (((ok v d).2.2 f (by omega) n).2.1 m)⟩)) (λhn=>AA (.inr ⟨rfl,λe g=>?_⟩));rw[d]at g;injection g with g;subst g;refine⟨q0,λo=>absurd o (by omega),λI _ b=>?_⟩;rw[n]at b;injection b with b;subst b;exact⟨q7,λ_=>hn,λu=>absurd m u⟩;refine AC (λhn=>AA (.inl ⟨rfl,λok=>?_⟩)) (λhn=>AA (.inr ⟨rfl,λe g=>?_⟩));have:=((ok v d).2.2 f (by omega) n).2.2 m;omega;rw[d]at g;injection g with g;subst g;refine⟨q0,λo=>absurd o (by omega),λI _ b=>?_⟩;rw[n]at b;injection b with b;subst b;exact⟨q7,λu=>absurd u m,λ_=>by omega⟩;rcases hr with⟨rfl,hr⟩|⟨rfl,hr⟩;exact BF (a hr);exact BC (j hr);rw[decide_eq_false L,cond_false];have B:k=0:=by omega
 apply BP;apply AC<;>intro hn;rw[AI];refine BF (a λok=>?_);have:=(ok v d).2.1 B;omega;rw[AI];refine BC (j λe g=>?_);rw[d]at g;injection g with g;subst g;exact⟨q0,λ_=>by omega,λf o=>absurd o (by omega)⟩
def X8{x:AU}:Ay (Ei x) λr=>r=true↔VR x:=by unfold Ei;refine AB ID λf c=>?_;refine AO (λb=>AA ⟨λa=>(by cases a),λa=>?_⟩) (λb=>?_);obtain⟨⟨a1,a2,a3,a4,a5,a6,a7,a8,a9⟩,_⟩:=a;have:=c.2 ⟨a1,a2,a3,a4,a5,a6,a7,a8⟩;rw[b]at this;cases this;have hn:=c.1 b;dsimp only at hn;refine AC (λd=>AA ⟨λa=>(by cases a),λa=>?_⟩) (λe=>?_);have:=a.1.2.2.2.2.2.2.2.2;simp only[len]at d;omega;simp only[len]at e;refine AB (rT (by omega)) λr hr=>?_;rcases hr with⟨rfl,hr⟩|⟨rfl,hr⟩;exact BF (AA ⟨λa=>(by cases a),λa=>absurd a.2 hr⟩);exact BC (AA ⟨λ_=>⟨⟨hn.1,hn.2.1,hn.2.2.1,hn.2.2.2.1,hn.2.2.2.2.1,hn.2.2.2.2.2.1,hn.2.2.2.2.2.2.1,hn.2.2.2.2.2.2.2,by omega⟩,hr⟩,λ_=>rfl⟩)
abbrev NE:=Aq
def lN(x y:NE):Bool:=decide (x.1.2.2.1<y.1.2.2.1\/(x.1.2.2.1=y.1.2.2.1/\(x.1.1<y.1.1\/(x.1.1=y.1.1/\x.2<y.2))))
def md:Sort.SWO lN where
 irrefl x:=by simp[lN]
 trans x y z h1 h2:=by simp only[lN,decide_eq_true_eq]at*;omega
 ntrans x y z h1 h2:=by simp only[lN,decide_eq_false_iff_not]at*;omega
theorem gz{l:List Int}{k:Nat}{v:Int}(h:l[k]? =some v)(f:k<1000)(g:l.length<1000):Ad (JN l) (k:Int)=if v=0 then Ad (JN l) ((k+1:Nat):Int)else some (.inl v):=by
 rw[Ce];have b:=(TB.1 h).1;have d:decide ((k:Int)<len l)=true:=by simp;omega
 have c:ix l (k:Int)=some v:=by unfold ix;rw[if_pos (by omega)];simpa using h
 have e:wi ((k:Int)+1)=((k+1:Nat):Int):=kf (by omega);simp only[JN,d,cond_true,c,AI,e];by_cases a:v=0;have:(v !=0)=false:=by simp[a]
 rw[this,cond_false,if_pos a];have:(v !=0)=true:=by simp[a]
 rw[this,cond_true,if_neg a]
def AB0(a b c:Int):Ja [a,b,c]=some (if a≠0 then a else if b≠0 then b else c):=by
 unfold Ja;rw[show(0:Int)=((0:Nat):Int)from rfl,gz (k:=0) (v:=a) rfl (by omega) (by simp)];by_cases e:a=0;rw[if_pos e,gz (k:=1) (v:=b) rfl (by omega) (by simp)];by_cases f:b=0;rw[if_pos f,gz (k:=2) (v:=c) rfl (by omega) (by simp)];by_cases g:c=0;rw[if_pos g,Ce];have d:decide (((2+1:Nat):Int)<len [a,b,c])=false:=by show decide ((3:Int)<3)=false;decide
 simp only[JN,d,cond_false,AI,VF];simp[e,f,g];rw[if_neg g];simp[e,f];rw[if_neg f];simp[e,f];rw[if_neg e];simp[e]
def zY(x y:NE): ∃v,Fs (x,y)=some v/\decide (v<0)=lN x y:=by
 unfold Fs;dsimp only;simp only[oV,AI,AB0];refine⟨_,rfl,?_⟩;unfold lN;apply decide_eq_decide.2;repeat' split
 all_goals omega
section
variable {α:Type} [Inhabited α]
def sI{d:Array α}{i:Int}{k:Nat}(a:i=k)(b:k<d.size:=by omega):ix d.toList i=some d[k]! :=by subst a;unfold ix;rw[if_pos (by omega)];simp[b]
omit [Inhabited α] in
def ABA{d:Array α}{i:Int}{k:Nat}(a:i=k)(x:α):BR d.toList i x=(d.setIfInBounds k x).toList:=by subst a;unfold BR;simp
def zl{d:Array α}{i j:Int}{a b:Nat}(c:i=a)(e:j=b):BR (BR d.toList i d[b]!) j d[a]! =(Sort.swp d a b).toList:=by rw[ABA c,ABA e];rfl
def y8{d:Array α}{i j:Int}{a b:Nat}{x:α}(e:i=a)(f:j=b)(c:b<d.size:=by omega):ix (BR d.toList i x) j=some (d.setIfInBounds a x)[b]! :=by rw[ABA e];exact sI f (by simpa using c)
def dW(lt:α->α->Bool)(k:Nat): ∀(j:Nat) (d:Array α),(Sort.insInner lt k j d).size=d.size
 |0,_=>rfl
 |j+1,d=>by unfold Sort.insInner;split;rw[dW lt k j,Sort.size_swp];rfl
end
theorem tq{a b:Int}{k:Nat}(h:a=k): ∀(j:Nat) (d:Array NE),j<d.size->d.size<=16777216->Ad (Ci (a,b)) ((j:Int),d.toList)=some (Sort.insInner lN k j d).toList
 |0,d,hj,hd=>by
  rw[Ce];have:decide (((0:Nat):Int)>a)=false:=by simp;omega
  simp only[Ci,this,cond_false];rfl
 |j+1,d,hj,hd=>by
  rw[Ce];have e:wi (((j+1:Nat):Int)-1)=(j:Int):=by rw[Oy (by omega)];omega
  obtain⟨v,f,g⟩:=zY d[j+1]! d[j]!;have i:ix d.toList ((j+1:Nat):Int)=some d[j+1]! :=sI rfl hj;have l:ix d.toList (j:Int)=some d[j]! :=sI rfl (by omega);have m:ix (BR d.toList ((j+1:Nat):Int) d[j]!) (j:Int)=some (d.setIfInBounds (j+1) d[j]!)[j]! :=y8 rfl rfl (by omega);simp only[Ci,e,i,l,m,AI,f,g,zl (d:=d) (a:=j+1) (b:=j) rfl rfl];unfold Sort.insInner;by_cases c:j+1>k;have:decide (((j+1:Nat):Int)>a)=true:=by simp;omega
  rw[this];cases n:lN d[j+1]! d[j]! with
  |true=>simp only[cond_true,c,decide_true,PY,if_true];exact tq h j _ (by rw[Sort.size_swp];omega) (by rw[Sort.size_swp];omega)
  |false=>simp[c]
  have:decide (((j+1:Nat):Int)>a)=false:=by simp;omega
  rw[this];simp[c]
theorem wc{a b:Int}{k m:Nat}(j:a=k)(p:b=m): ∀(n i:Nat) (d:Array NE),m-i<=n->m<=d.size->d.size<=16777216->Ad (CA (a,b)) ((i:Int),d.toList)=some (Sort.insOuter lN k m i d).toList:=by
 intro n;induction n with
 |zero=>
  intro i d g h c;rw[Ce,Sort.insOuter];have:decide ((i:Int)<b)=false:=by simp;omega
  simp only[CA,this,cond_false];rw[if_neg (by omega)]
 |succ n o=>
  intro i d g h c;rw[Ce,Sort.insOuter];by_cases e:i<m;have:decide ((i:Int)<b)=true:=by simp;omega
  have f:wi ((i:Int)+1)=((i+1:Nat):Int):=by rw[Oy (by omega)];omega
  have l:=dW lN k i d;simp only[CA,this,cond_true,tq j i d (by omega) c,AI,f];rw[if_pos e];exact o (i+1) _ (by omega) (by omega) (by omega);have:decide ((i:Int)<b)=false:=by simp;omega
  simp only[CA,this,cond_false];rw[if_neg e]
theorem tn{d:Array NE}{a b:Int}{k m:Nat}(e:a=k)(f:b=m)(h:m<=d.size)(i:k<=m)(g:d.size<=16777216):B0 d.toList (a,b)=some (Sort.insertionSort lN d k m).toList:=by
 unfold B0;have c:wi (a+1)=((k+1:Nat):Int):=by rw[Oy (by omega)];omega
 dsimp only;rw[c,wc e f (m-(k+1)) (k+1) d (by omega) h g];rfl
def vZ(a b n:Nat)(d:Array NE)(k:Nat):NE:=if a<=k/\k<a+n then d[b+(k-a)]! else if b<=k/\k<b+n then d[a+(k-b)]! else d[k]!
theorem pQ{d:Array NE}{a b n:Nat}(q:a+n≤b)(A:b+n≤d.size)(B:d.size≤16777216):
  Ay (Bw d.toList ((a:Int),((b:Int),(n:Int)))) λr=> ∃e:Array NE,r=e.toList/\e.size=d.size/\ ∀k,k<d.size->e[k]! =vZ a b n d k:=by
 unfold Bw;refine AB (P:=λr=> ∃e:Array NE,r=e.toList/\e.size=d.size/\ ∀k,k<d.size->e[k]! =vZ a b n d k) ?_ λr h=>AA h;refine AM (λ(s:Int×List NE)=> ∃(t:Nat) (e:Array NE),s.1=t/\s.2=e.toList/\t<=n/\e.size=d.size/\ ∀k,k<d.size->e[k]! =vZ a b t d k) (λs=>n-s.1.toNat) ⟨0,d,rfl,rfl,B7 _,rfl,λk _=>by unfold vZ;rw[if_neg (by omega),if_neg (by omega)]⟩ ?_;rintro⟨D,E⟩ ⟨t,e,q1,q2,q3,q4,q5⟩;dsimp only at q1 q2;subst q1 q2;unfold E9;dsimp only;refine AC (λu=>?_) (λu=>AA ⟨e,rfl,q4,?_⟩);have C:t<n:=by omega
 have o:wi ((b:Int)+(t:Int))=((b+t:Nat):Int):=by rw[Oy (by omega)];omega
 have p:wi ((a:Int)+(t:Int))=((a+t:Nat):Int):=by rw[Oy (by omega)];omega
 have w:ix e.toList ((b+t:Nat):Int)=some e[b+t]! :=sI rfl (by omega);have x:ix e.toList ((a+t:Nat):Int)=some e[a+t]! :=sI rfl (by omega);have y:ix (BR e.toList ((a+t:Nat):Int) e[b+t]!) ((b+t:Nat):Int)=some (e.setIfInBounds (a+t) e[b+t]!)[b+t]! :=y8 rfl rfl (by omega);simp only[o,p,w,x,y,AI,kf (i:=t) (by omega),zl (d:=e) (a:=a+t) (b:=b+t) rfl rfl];refine AA ⟨⟨t+1,_,rfl,rfl,by omega,by rw[Sort.size_swp,q4],λk v=>?_⟩,?_⟩;rw[Sort.swp_get e (by omega) (by omega)];have j:=q5 (a+t) (by omega);have l:=q5 (b+t) (by omega);have m:=q5 k v;rw[j,l,m];unfold vZ;by_cases k1:k=a+t;subst k1;rw[if_neg (by omega),if_pos rfl,if_neg (by omega),if_neg (by omega),if_pos (by omega)];exact congrArg (λz=>d[z]!) (by omega);by_cases c:k=b+t;subst c;rw[if_pos rfl,if_neg (by omega),if_neg (by omega),if_neg (by omega),if_pos (by omega)];exact congrArg (λz=>d[z]!) (by omega);rw[if_neg c,if_neg k1];by_cases f:a<=k/\k<a+t;rw[if_pos f,if_pos (show a<=k/\k<a+(t+1) by omega)];rw[if_neg f,if_neg (show¬(a<=k/\k<a+(t+1)) by omega)];by_cases g:b<=k/\k<b+t;rw[if_pos g,if_pos (show b<=k/\k<b+(t+1) by omega)];rw[if_neg g,if_neg (show¬(b<=k/\k<b+(t+1)) by omega)];show n-((t+1:Nat):Int).toNat<n-((t:Nat):Int).toNat
 omega;have:t=n:=by omega
 rw[<-this];exact q5
def Zj(x:AU):Bb:=[80,77,82,78]++(EZ x.1 8++(EZ x.2.1 8++(EZ x.2.2.1 4++(EZ x.2.2.2.1 4++(EZ x.2.2.2.2.1 1++EZ (x.2.2.2.2.2.length:Int) 4)))))
def L3(x:AU):Bb:=Hy (Zj x)++Jq x.2.2.2.2.2
def Ul(x:AU):(Zj x).length=33:=rfl
def X7.inr{x:AU}(h:X7 x):Wz 8 x.1/\Wz 8 x.2.1/\Wz 4 x.2.2.1/\Wz 4 x.2.2.2.1/\Wz 1 x.2.2.2.2.1/\Wz 4 (x.2.2.2.2.2.length:Int):=by
 obtain⟨a1,a2,a3,a4,a5,a6,a7,a8,a9⟩:=h;have e: ∀n:Int,0<=n->n<=1099511627776->Wz 8 n:=λn a b=>⟨λh=>absurd h (by decide),by omega⟩
 have d: ∀n:Int,0<=n->n<=1073741824->Wz 4 n:=λn a b=>⟨λ_=>by grind,by omega⟩
 have c: ∀n:Int,0<=n->n<=255->Wz 1 n:=λn a b=>⟨λ_=>by grind,by omega⟩
 grind
def VR.len{x:AU}(h:VR x):(L3 x).length<=34406441:=by have b:=kV (l:=x.2.2.2.2.2) λe a=>(h.ent a).1;have c:=h.1.2.2.2.2.2.2.2.2;unfold L3;rw[Ag,F4,Ul];omega
def yD{x:AU}(h:X7 x):HI x=some (Zj x):=by unfold HI;rw[HU (by simp) (by decide) (by decide),AI];rw[HU (by simp only[Ag,BN];simp) (by decide) (by decide),AI];rw[HU (by simp only[Ag,BN];simp) (by decide) (by decide),AI];rw[HU (by simp only[Ag,BN];simp) (by decide) (by decide),AI];rw[HU (by simp only[Ag,BN];simp) (by decide) (by decide),AI];rw[HU (by simp only[Ag,BN];simp) (by decide) (by decide),AI];rfl
def ja{x:AU}(h:VR x):Ga x=some (L3 x,0):=by
 have t:=h.1.2.2.2.2.2.2.2.2;obtain⟨b,g,c⟩:=X8 (x:=x);have d:=c.2 h;subst d;unfold Ga;rw[g,AI,Ea,cond_false,yD h.1,AI,gB (by rw[Ul];decide),AI];have key:Ay (Ad (K8 x) (Hy (Zj x),0)) λr=>r=L3 x:=by
  refine Ia (λ(s:Bb×Int)=> ∃k:Nat,s.2=k/\k<=x.2.2.2.2.2.length/\s.1=Hy (Zj x)++Jq (x.2.2.2.2.2.take k)) (λs=>x.2.2.2.2.2.length-s.2.toNat) ⟨0,rfl,B7 _,by simp[Jq]⟩ ?_;rintro⟨y,z⟩ ⟨k,p,u,q⟩;subst p q;unfold K8;simp only[len];refine AC (λf=>?_) (λf=>Ay.done (by rw[Cb (by omega)];rfl));refine AB (AE (by omega) f) λv c=>?_;have a:=(h.ent c.2).1;have m:=R1 a;have j:=kV (l:=x.2.2.2.2.2.take k) λe i=>(h.ent (Jy i)).1;have n:(x.2.2.2.2.2.take k).length<=4096:=by grind
  rw[jZ a,AI,gB m,AI];refine AB (CY (by rw[Ag,F4,F4,Ul];omega)) λw o=>?_;rw[AW];refine Ay.next ⟨k+1,by grind,by omega,?_⟩ (by grind)
  have:=c.1;rw[DD]at this;rw[o.1,D5,this,Jz,R3,Ax]
 obtain⟨r,hr,rfl⟩:=key;rw[hr];rfl
def WR(x:AU):Prop:=X7 x/\ ∀e∈x.2.2.2.2.2,HS e.2.2.2.2.2.2.1.2.2.1/\HS e.2.2.2.2.2.2.1.2.2.2/\e.2.2.2.2.2.2.2=[]
def wC{e:EN}(h:OF e)(a:cw e=true):e.2.2.2.2.2.2.2=[]:=by
 have b:e.2.1=1\/e.2.1=2:=by unfold cw at a;simpa using a
 obtain⟨_,_,_,_,_,_,_,_,c⟩:=h;unfold U8 at c;grind
def VR.wr{x:AU}(h:VR x):WR x:=⟨h.1,λe b=>by have a:=h.ent b;exact⟨a.1.cells.1,a.1.cells.2.1,wC a.1 a.2.1⟩⟩
def vA{e:EN}(h:Gw e=some true)(g:cw e=true):e.2.2.2.2.2.2.2=[]:=by
 have f:e.2.1=1\/e.2.1=2:=by unfold cw at g;simpa using g
 have key: ∀r,Gw e=some r->r=true->e.2.2.2.2.2.2.2=[]:=by
  have c:MT false (Gw e) λr=>r=true->e.2.2.2.2.2.2.2=[]:=by
   have p: ∀{Q:Bool->Prop},(∀r,r=false->Q r)->MT false (some false) Q:=λn=>MT.some (n _ rfl);have a:MT false (some false) λr=>r=true->e.2.2.2.2.2.2.2=[]:=MT.some λb=>by cases b
   unfold Gw;refine MT.dec (λ_=>a) λ_=>?_;refine MT.dec (λ_=>a) λ_=>?_;refine MT.dec (λ_=>a) λ_=>?_;refine MT.dec (λ_=>a) λ_=>?_;refine MT.bind (LL Js) λq _=>?_;refine MT.cond (λ_=>a) λ_=>?_;refine MT.bind (LL Js) λs _=>?_;refine MT.cond (λ_=>a) λ_=>?_;refine MT.bind (LL Js) λt _=>?_;refine MT.cond (λ_=>a) λ_=>?_;refine MT.dec (λi=>absurd i (by omega)) λ_=>?_;refine MT.dec (λj=>?_) λj=>?_;refine MT.dec (λ_=>a) λ_=>?_;refine MT.bind (P:=λ_=>True) (MT.dec (λ_=>MT.some trivial) λ_=>MT.some trivial) λo _=>?_;refine MT.cond (λ_=>a) λ_=>?_;refine MT.bind (P:=λr=>r=false->e.2.2.2.2.2.2.2=[]) ?_ λu l=>?_;refine MT.cond (λm=>MT.some λb=>?_) λ_=>MT.some λb=>?_;rw[m]at b;cases b;simpa using b;refine MT.cond (λ_=>a) λb=>?_;exact⟨λd=>(by cases d),λr _ _=>l b⟩;refine MT.dec (λk=>?_) λk=>absurd f (by omega);refine MT.dec (λ_=>a) λ_=>?_;refine MT.bind (P:=λ_=>True) (MT.dec (λ_=>MT.some trivial) λ_=>MT.some trivial) λo _=>?_;refine MT.cond (λ_=>a) λ_=>?_;refine MT.cond (λ_=>a) λb=>?_;exact⟨λd=>(by cases d),λr _ _=>by simpa using b⟩
  exact c.2
 exact key true h rfl
def sW{e:EN}:A5 e=some (cw e):=by unfold A5 cw;grind
def qh{x:AU}:Ay (LF x) λr=>r=true↔1<=x.1/\x.1<=x.2.1/\x.2.1<=1099511627776/\0<=x.2.2.1/\x.2.2.1<=x.2.2.2.1/\x.2.2.2.1<64/\0<=x.2.2.2.2.1/\x.2.2.2.2.1<=8:=by
 unfold LF;repeat' with_reducible first|apply AC<;>intro a|apply AA
 all_goals grind
def vC{x:AU}{e:EN}:Ay (OW (x,e)) λr=>r=true↔cw e=true/\x.2.2.1<=e.2.2.2.2.2.2.1.1/\e.2.2.2.2.2.2.1.1<=x.2.2.2.1/\x.1<=e.1/\e.1<=x.2.1:=by
 unfold OW;rw[sW,AI];refine AF (λa=>?_) (λa=>AA ⟨λb=>(by cases b),λb=>by grind⟩);repeat' with_reducible first|apply AC<;>intro a|apply AA
 all_goals grind
def AA0(a b:Int):Ja [a,b]=some (if a≠0 then a else b):=by
 unfold Ja;rw[show(0:Int)=((0:Nat):Int)from rfl,gz (k:=0) (v:=a) rfl (by omega) (by simp)];by_cases c:a=0;rw[if_pos c,gz (k:=1) (v:=b) rfl (by omega) (by simp)];by_cases e:b=0;rw[if_pos e,Ce];have d:decide (((1+1:Nat):Int)<len [a,b])=false:=by grind
 simp only[JN,d];grind;grind;grind
def sX(f e:EN): ∃c:Int,NS (f,e)=some c/\(c<0↔sO f e):=by unfold NS;rw[oV,oV,AI,AI,AA0,AI];unfold sO;grind
def vB{x:AU}(J:x.2.2.2.2.2.length<=4096):Ay (Ad (Qr x) 0) λr=>(r= .inl false/\ ¬ ∀i,pU x i)\/(r= .inr ()/\ ∀e∈x.2.2.2.2.2,cw e=true/\e.2.2.2.2.2.2.2=[]):=by
 refine Ia (λ(s:Int)=>0<=s/\s<=x.2.2.2.2.2.length/\ ∀e∈x.2.2.2.2.2.take s.toNat,cw e=true/\e.2.2.2.2.2.2.2=[]) (λ(s:Int)=>((x.2.2.2.2.2.length:Int)-s).toNat) ⟨Ae _,by omega,λe g=>by simp at g⟩ (λs C=>?_);obtain⟨w,K,y⟩:=C;unfold Qr;simp only[len];refine AC (λu=>?_) (λu=>Ay.done (.inr ⟨rfl,by rw[Cb (by omega)]at y;exact y⟩));obtain⟨k,rfl⟩:=Eb w;refine AB (AE w u) λv d=>?_;have d:=d.1;rw[DD]at d;have a:(pU x k->False)->Ay (some (Step.done (.inl false)):Option (Step Int (Bool ⊕ Unit))) (bf (λ(s:Int)=>0<=s/\s<=x.2.2.2.2.2.length/\ ∀e∈x.2.2.2.2.2.take s.toNat,cw e=true/\e.2.2.2.2.2.2.2=[]) (λ(s:Int)=>((x.2.2.2.2.2.length:Int)-s).toNat) ((x.2.2.2.2.2.length:Int)-(k:Int)).toNat λr=>(r= .inl false/\ ¬ ∀i,pU x i)\/(r= .inr ()/\ ∀e∈x.2.2.2.2.2,cw e=true/\e.2.2.2.2.2.2.2=[])):=λh=>Ay.done (.inl ⟨rfl,λD=>h (D k)⟩);refine EM LD λH z B=>?_;refine AO (λl=>a λok=>?_) (λl=>?_);have:=B (ok v d).1.1;rw[l]at this;cases this;refine AB vC λI t=>?_;refine AO (λl=>a λok=>?_) (λn=>?_);have q:=(ok v d).1;have:=t.2 ⟨q.2.1,q.2.2.2.2.1,q.2.2.2.2.2,q.2.2.1,q.2.2.2.1⟩;rw[l]at this;cases this;have q2:=(t.1 n).1;have q3:=vA (by rw[z,l]) q2;have b:Ay (some (Step.next (wi ((k:Int)+1))):Option (Step Int (Bool ⊕ Unit))) (bf (λ(s:Int)=>0<=s/\s<=x.2.2.2.2.2.length/\ ∀e∈x.2.2.2.2.2.take s.toNat,cw e=true/\e.2.2.2.2.2.2.2=[]) (λ(s:Int)=>((x.2.2.2.2.2.length:Int)-s).toNat) ((x.2.2.2.2.2.length:Int)-(k:Int)).toNat λr=>(r= .inl false/\ ¬ ∀i,pU x i)\/(r= .inr ()/\ ∀e∈x.2.2.2.2.2,cw e=true/\e.2.2.2.2.2.2.2=[])):=by
  rw[AW];refine Ay.next ⟨by omega,by omega,λe g=>?_⟩ (by omega)
  rw[show((k:Int)+1).toNat=k+1 by omega,D5,d]at g;rcases Ar.1 g with g|g;grind;rw[Jz,A3]at g;subst g;exact⟨q2,q3⟩
 have G: ∀f,0<k->x.2.2.2.2.2[k-1]? =some f->ix x.2.2.2.2.2 (wi ((k:Int)-1))=some f:=λf A j=>by rw[show wi ((k:Int)-1)=((k-1:Nat):Int) by rw[AW];omega];unfold ix;rw[if_pos (by omega),DD,j]
 apply AQ<;>intro A;refine AC (λp=>a λok=>?_) (λ_=>b);have:=(ok v d).2.1 (by omega);omega;have F:k-1<x.2.2.2.2.2.length:=by omega
 have j:x.2.2.2.2.2[k-1]? =some (x.2.2.2.2.2[k-1]):=Az F;generalize x.2.2.2.2.2[k-1]=f at j;rw[G f (by omega) j,AI];apply AC<;>intro E;refine AC (λp=>a λok=>?_) (λ_=>b);have:=((ok v d).2.2 f (by omega) j).2.2 (by omega);omega;obtain⟨c,o,m⟩:=sX f v;rw[AI,o,AI];refine AC (λp=>a λok=>?_) (λp=>?_);have:=m.2 ((ok v d).2.2 f (by omega) j).1;omega;refine AL (λhn=>a λok=>hn ?_) (λ_=>b);have:=m.1 (by omega);unfold sO at this;exact((ok v d).2.2 f (by omega) j).2.1 (by omega)
def qi{x:AU}:Ay (SM x) λr=>(VR x->r=true)/\(r=true->X7 x/\ ∀e∈x.2.2.2.2.2,cw e=true/\e.2.2.2.2.2.2.2=[]):=by refine AB qh λg c=>?_;refine AO (λb=>AA ⟨λa=>?_,λa=>(by cases a)⟩) (λb=>?_);obtain⟨⟨a1,a2,a3,a4,a5,a6,a7,a8,a9⟩,_⟩:=a;grind;have hn:=c.1 b;refine AC (λf=>AA ⟨λa=>?_,λa=>(by cases a)⟩) (λd=>?_);have:=a.1.2.2.2.2.2.2.2.2;grind;simp only[len]at d;refine AB (vB (by omega)) λr hr=>?_;rcases hr with⟨rfl,hr⟩|⟨rfl,hr⟩;exact BF (AA ⟨λa=>absurd a.2 hr,λa=>(by cases a)⟩);exact BC (AA ⟨λ_=>rfl,λ_=>⟨⟨hn.1,hn.2.1,hn.2.2.1,hn.2.2.2.1,hn.2.2.2.2.1,hn.2.2.2.2.2.1,hn.2.2.2.2.2.2.1,hn.2.2.2.2.2.2.2,by omega⟩,hr⟩⟩)
end Go.Pm
