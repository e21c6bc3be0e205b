/- Texts of wip, joined and shortened by wip/tools/pack.py; nothing is assumed. -/
import Derived.Test.YtdjfjcnheopcdaaGreatK9
import Derived.Sort.AssemblyPlain
import Derived.KernelRfl
noncomputable section
set_option linter.all false
namespace Go.Pm
open Go Go.Ab
set_option maxHeartbeats 1000000
def mV{x:Int}:As (Gy x) λr=>r=true↔0<=x/\x<64:=by
 unfold Gy;exact x!
theorem Qe{x:Dd}:As (Nl x) λr=>r=true↔OQ x:=by
 unfold Nl OQ
 exact x!
def Kc{x:Int×AE}:As (Nn x) λr=>r=true↔0<=x.1/\x.1<x.2.1:=by
 unfold Nn;exact x!
def pS{x:Dd}:As (MD x) λr=>r=true↔x=Pd:=by grind[MD,Pd,AB,Prod.ext_iff]
def kz{x:AE}:As (GL x) λr=>r=true:=by grind[GL,AB]
def k9{x:AE}:As (R0 x) λr=>r=true↔1<=x.2.2.2.2.2.1/\x.2.2.2.2.2.1<=x.2.2.2.1:=by
 unfold R0;exact x!
def lC{x:Dd}:As (R1 x) λr=>r=true↔0<=x.1/\x.1<64/\x.2=Pd.2:=by
 unfold R1 Pd;have⟨a,b,⟨c,d⟩,e,f⟩:=x;refine AL (λg=>?_) (λg=>AB ?_);refine AC (λh=>AB ?_) (λh=>AB ?_);simp at g;simp[g,h];try omega
 simp;try omega
 grind[Prod.ext_iff]
theorem G7{x:AE}:As (GK x) λr=>Io x->r=true:=by
 unfold GK;refine AC (λi=>AB λh=>?_) (λs=>?_);have:=h.1;omega;refine AC (λi=>AB λh=>?_) (λt=>?_);have:=h.2.1;omega;refine AC (λi=>AB λh=>?_) (λu=>?_);have:=h.2.2.2.2.2.2.2.2;unfold UA at this;omega;refine AC (λi=>AB λh=>?_) (λv=>?_);have:=h.2.2.2.2.2.2.2.2;unfold UA at this;omega;refine AA Kc λw j=>AP (λi=>AB λh=>?_) (λn=>?_);rw[j.2 ⟨h.2.2.1,h.2.2.2.1⟩]at i;cases i;refine AA Kc λy k=>AP (λi=>AB λh=>?_) (λo=>?_);rw[k.2 ⟨h.2.2.2.2.1,h.2.2.2.2.2.1⟩]at i;cases i;refine AA Kc λz l=>AP (λi=>AB λh=>?_) (λp=>?_);rw[l.2 ⟨h.2.2.2.2.2.2.1,h.2.2.2.2.2.2.2.1⟩]at i;cases i;refine As.mono (P:=λr=>UA x->r=true) ?_ λr h q=>h q.2.2.2.2.2.2.2.2;clear j k l n o p;have⟨a,b,c,d,e,f,g,m⟩:=x;unfold UA;dsimp only at*;refine AC (λi=>absurd i o!) (λk0=>?_);exact x!
def eG{x:Af}:As (Cg x) λr=>r=wi (wi (x.1+len x.2.1)-1):=by grind[Cg,AB]
def Ph{x:Af}(h:Dg x):As (L6 x) λr=>r=true:=by have⟨a1,a2,a3,a4,a5,a6⟩:=id h;unfold L6;refine AC (λa=>absurd a o!) (λ_=>AC (λa=>absurd a o!) (λ_=>AC (λa=>absurd a (by simp[len];omega)) (λ_=>?_)));rw[(Aa (x:=x.1-1))];refine AC (λa=>absurd a o!) (λ_=>AA eG λf b=>?_);rw[h.last]at b;refine AC (λa=>absurd a o!) (λ_=>AA (P:=λr=> ∃u,r= .inr u) ?_ λr hr=>?_);refine AV (λ(s:Int)=>0<=s/\s<=x.2.1.length) (λ(s:Int)=>((x.2.1.length:Int)-s).toNat) ⟨Ae _,o!⟩ (λs c=>?_);have⟨d,e⟩:=c;unfold Wt;refine AC (λa=>?_) (λ_=>AB ⟨_,rfl⟩);grind[AA,AI,Aa,AM,G7,AP,AB];grind[A4,AB]
def mY{x:Af}(h:Dg x):As (Tj x) λr=>r=x.1+x.2.1.length-1:=by unfold Tj;refine AA (Ph h) λv c=>AP (λb=>?_) (λ_=>?_);rw[c]at b;cases b;refine AA eG λd a=>AB ?_;rw[h.last]at a;exact a
def Kp{x:AJ}(h:VB x):As (It x) λr=>r=true:=by
 obtain⟨⟨L,M,N,O,p,t,v⟩,a1,a2,a3,a4,a5,a6⟩:=id h;unfold It;refine AC (λa=>absurd a (by omega)) (λ_=>?_);refine AC (λa=>absurd a (by omega)) (λ_=>?_);refine AC (λa=>absurd a (by simp only[len];omega)) (λ_=>?_);refine AC (λa=>absurd a (by simp only[len];omega)) (λ_=>?_);refine AA (AI (Ae _)) λQ B=>?_;have b:=B.1;rw[show((0:Int).toNat)=0 from rfl,p]at b;injection b with b;refine AM (λa=>absurd b.symm a) (λ_=>?_);have w:=Aa (x:=len x.1-1) (by simp only[len];omega);rw[w];refine AA (AI (by simp only[len];omega) (by simp only[len];omega)) λI C=>?_;have c:=C.1;have y:(len x.1-1).toNat=x.1.length-1:=by simp only[len];omega
 rw[y]at c;refine AC (λa=>absurd a (by have:=v I c;omega)) (λ_=>?_);refine AA (P:=λr=> ∃u,r= .inr u) ?_ λr hr=>?_;refine AV (λ(s:Int)=>1<=s/\s<=x.1.length) (λ(s:Int)=>((x.1.length:Int)-s).toNat) ⟨Ae _,by omega⟩ (λs i=>?_);obtain⟨o,F⟩:=i;unfold Vx;refine AC (λa=>?_) (λ_=>AB ⟨_,rfl⟩);simp only[len]at a;have z:=Aa (x:=s-1);have e:=Aa (x:=s+1);rw[z,e];refine AA (AI) λJ D=>?_;refine AA (AI (by omega) a) λK E=>?_
 have q:=t (s-1).toNat J K (by omega) D.1 (by have:(s-1).toNat+1=s.toNat:=by omega
                                              rw[this];exact E.1)
 refine AC (λa=>absurd a (by omega)) (λ_=>AB ⟨by omega,by omega⟩);obtain⟨u,rfl⟩:=hr;apply A4;refine AC (λa=>absurd a (by omega)) (λ_=>?_);refine AC (λa=>absurd a (by omega)) (λ_=>?_);refine AC (λa=>absurd a (by omega)) (λ_=>?_);refine AC (λa=>absurd a (by omega)) (λ_=>?_);refine AC (λa=>absurd a (by simp only[len];omega)) (λ_=>?_);refine AA (P:=λr=> ∃u,r= .inr u) ?_ λr hr=>?_;refine AV (λ(s:Int×Int)=>0<=s.2/\s.2<=x.2.2.1.length/\(s.2=0->s.1=0)/\ ∀f:BG,0<s.2->x.2.2.1[(s.2-1).toNat]? =some f->s.1=f.2.1) (λ(s:Int×Int)=>((x.2.2.1.length:Int)-s.2).toNat) ⟨Ae _,by dsimp only;omega,λ_=>rfl,λf m=>by dsimp only at m;omega⟩ (λs i=>?_);obtain⟨o,F,G,H⟩:=i;unfold Vy;refine AC (λa=>?_) (λ_=>AB ⟨_,rfl⟩);simp only[len]at a;have e:=Aa (x:=s.2+1);rw[e];refine AA (AI o a) λl g=>?_;have q1:=a6.1 s.2.toNat l (by omega) g.1;have q2:s.1<l.2.1:=by
  by_cases k:s.2=0;rw[G k];exact q1.1;have j:(s.2-1).toNat<x.2.2.1.length:=by omega
  have n:x.2.2.1[(s.2-1).toNat]? =some x.2.2.1[(s.2-1).toNat]:=Au j
  have:=a6.2 (s.2-1).toNat _ l (by omega) n (by have:(s.2-1).toNat+1=s.2.toNat:=by omega
                                                rw[this];exact g.1)
  rw[H _ (by omega) n];exact this
 refine AC (λa=>absurd a (by omega)) (λ_=>?_);refine AC (λa=>absurd a (by have:=q1.2;omega)) (λ_=>AB ⟨⟨by dsimp only;omega,by dsimp only;omega,λk=>?_,λf m d=>?_⟩,by dsimp only;omega⟩);dsimp only at k;omega;dsimp only at d⊢;have A:(s.2+1-1).toNat=s.2.toNat:=by omega
 rw[A,g.1]at d;injection d with d;rw[d];obtain⟨u,rfl⟩:=hr;exact A4 (AB rfl)
def Th{x:AJ×Af×Int×Int}(h:VB x.1)(c:Dg x.2.1)(e:0<=x.2.2.1/\x.2.2.1<x.1.2.1/\0<=x.2.2.2):As (L5 x) λr=>r=0:=by unfold L5;refine AA (Kp h) λv d=>AP (λa=>?_) (λ_=>?_);rw[d]at a;cases a;refine AA (Ph c) λf b=>AP (λa=>?_) (λ_=>?_);rw[b]at a;cases a;refine AC (λa=>absurd a o!) (λ_=>AC (λa=>absurd a o!) (λ_=>AC (λa=>absurd a o!) (λ_=>AB rfl)))
def Zd{x p:BY}{c:BY×Int×Int}{k:Nat}(h:CS x p c)(o:x.length<=1099511627776)(q:1<=k)(m:k<=8):As (B5 c (k:Int)) λr=>CS x (p++C8 r.1 k) r.2/\(r.2.2.2=0->Zk k r.1)/\(c.2.2≠0->r=(0,c)):=by obtain⟨s,i,e⟩:=c;obtain⟨j,l⟩:=h;subst j;refine AM (λd=>AB ⟨⟨rfl,λb=>absurd b d⟩,λb=>absurd b d,λ_=>rfl⟩) (λd=>?_);subst d;obtain⟨a,hr,n⟩:=l rfl;subst hr n;rw[Ag]at o;rw[YQ o! o! o!];by_cases g:(k:Int)<=a.length;rw[if_pos g,AD,Dl];obtain⟨q1,q2⟩:=oU (t:=a) (k:=k) o! m;refine AB ⟨⟨rfl,λ_=>⟨a.drop k,?_,?_⟩⟩,λ_=>q1,λf=>absurd rfl f⟩;simp_all;dsimp only;rw[Aa,Ag,A0];omega;rw[if_neg g,AD];exact AB ⟨⟨rfl,λb=>absurd (show(5:Int)=0 from b) g!⟩,λb=>absurd (show(5:Int)=0 from b) g!,λf=>absurd rfl f⟩
def ABZ{x p:BY}{c:BY×Int×Int}{n:Int}(h:CS x p c)(l:x.length<=1099511627776)(hn:c.2.2=0->0<=n/\n<4294967296):As (Eo c n) λr=>CS x (p++r.1) r.2/\(r.2.2.2=0->(r.1.length:Int)=n/\c.2.2=0):=by
 obtain⟨s,f,e⟩:=c;obtain⟨g,i⟩:=h;subst g;unfold Eo;by_cases d:e=0;subst d;obtain⟨a,hr,j⟩:=i rfl;obtain⟨o,t⟩:=hn rfl;subst hr j;obtain⟨m,rfl⟩:=EM o;rw[Ag]at l;rw[show wi (((p++a).length:Int)-(p.length:Int))=a.length by rw[Ag,Aa];omega];by_cases q:(m:Int)<=a.length;rw[decide_eq_false o!,cond_false,AD,show((0:Int) !=0)=false by decide,cond_false];have k:RF (p++a) (wi (wi ((p.length:Int)+(m:Int))-(m:Int))) (wi ((p.length:Int)+(m:Int)))=some (a.take m):=by rw[Aa (x:=(p.length:Int)+(m:Int)),Aa];unfold RF;rw[if_pos q!,show((p.length:Int)+(m:Int)-(m:Int)).toNat=p.length by omega,QW,show((p.length:Int)+(m:Int)).toNat-p.length=m by omega]
 rw[k,AD];refine AB ⟨⟨rfl,λ_=>⟨a.drop m,?_,?_⟩⟩,λ_=>⟨?_,q!⟩⟩;simp_all;dsimp only;rw[Aa,Ag,BR];omega;grind;rw[decide_eq_true o!,cond_true,AD,show((5:Int) !=0)=true by decide,cond_true];exact AB ⟨⟨rfl,λb=>absurd (show(5:Int)=0 from b) g!⟩,λb=>absurd (show(5:Int)=0 from b) g!⟩;rw[beq_false_of_ne d,cond_false,bne_iff_ne.2 d,cond_true];exact AB ⟨⟨rfl,λb=>absurd b d⟩,λb=>absurd b d⟩
def ABX{x p:BY}{c:BY×Int×Int}(h:CS x p c)(j:x.length<=1099511627776):As (En c ()) λr=>CS x (p++Ta r.1) r.2/\(r.2.2.2=0->FA r.1):=by
 refine AA (Zd (k:=1) h j g! g!) λv o=>?_;obtain⟨⟨g,l⟩,s,z⟩:=o;refine AM (λd=>AB ⟨⟨g,λa=>absurd a d⟩,λa=>absurd a d⟩) (λd=>?_);obtain⟨f,hr,i⟩:=l d;have y:=(s d).1 g!;refine AQ (λb=>AB ⟨⟨g,λ_=>⟨f,?_,?_⟩⟩,λ_=>⟨Bi _,.inr rfl⟩⟩) (λb=>?_);dsimp only;rw[b]at hr;exact hr;dsimp only;rw[b]at i;exact i;refine AC (λ_=>AB ⟨⟨g,λa=>absurd (show(4:Int)=0 from a) g!⟩,λa=>absurd (show(4:Int)=0 from a) g!⟩) (λn=>AA (ABZ (x:=x) (p:=p++C8 v.1 1) ⟨g,l⟩ j (λ_=>o!)) λw q=>AB ?_);obtain⟨⟨t,A⟩,u⟩:=q;refine⟨⟨t,λa=>?_⟩,λa=>?_⟩;dsimp only at a⊢;obtain⟨m,_⟩:=u a;have e:Ta (true,w.1)=C8 v.1 1++w.1:=by unfold Ta;rw[cond_true,m]
 grind;dsimp only at a⊢;exact⟨q!,.inl rfl⟩
def XQ{x p a:BY}{n:Int}{k:Nat}(c:x=p++(C8 n k++a))(f:x.length<=1099511627776)(e:1<=k)(d:k<=8)(hn:Zk k n):B5 (x,((p.length:Int),0)) (k:Int)=some (n,(x,(((p++C8 n k).length:Int),0))):=by
 have b:=congrArg List.length c;simp only[Ag,A0]at b;unfold B5;dsimp only;rw[show((0:Int) !=0)=false by decide,cond_false];conv=>lhs;arg 1;rw[c]
 rw[YQ q! o! o!,if_pos q!,AD,Dl,Gd (A0 _ _),mv d hn];rw[Ag,A0];rw[Aa];rfl
def ABY{x p w a:BY}(c:x=p++(w++a))(e:x.length<=1099511627776):Eo (x,((p.length:Int),0)) (w.length:Int)=some (w,(x,(((p++w).length:Int),0))):=by
 have b:=congrArg List.length c;simp at b;unfold Eo;rw[show decide (wi ((x.length:Int)-(p.length:Int))<(w.length:Int))=false from decide_eq_false (by rw[Aa];omega),cond_false];rw[AD,show((0:Int) !=0)=false by decide,cond_false];dsimp only;have d:RF x (wi (wi ((p.length:Int)+(w.length:Int))-(w.length:Int))) (wi ((p.length:Int)+(w.length:Int)))=some w:=by rw[Aa (x:=(p.length:Int)+(w.length:Int)),Aa];unfold RF;rw[if_pos o!,c,show((p.length:Int)+(w.length:Int)-(w.length:Int)).toNat=p.length by omega,QW,show((p.length:Int)+(w.length:Int)).toNat-p.length=w.length by omega,Wi]
 rw[d,AD,Aa,Ag];rfl
def ABW{x p a:BY}{c:Cc}(e:x=p++(Ta c++a))(f:x.length<=1099511627776)(j:FA c):En (x,((p.length:Int),0)) ()=some (c,(x,(((p++Ta c).length:Int),0))):=by
 obtain⟨b,d⟩:=c;obtain⟨h,i⟩:=j;dsimp only at h i;unfold En;cases b with
 |false=>
  have k:d=[]:=q!
  subst k;rw[show(1:Int)=((1:Nat):Int)from rfl,XQ e f g! g! ⟨λ_=>g!,g!,g!⟩];rfl
 |true=>have g:Ta (true,d)=C8 (d.length:Int) 1++d:=rfl;rw[g,A2]at e;rw[g];rw[show(1:Int)=((1:Nat):Int)from rfl,XQ e f g! g! ⟨λ_=>q!,o!⟩,AD];rw[show((0:Int) !=0)=false by decide,cond_false,show((d.length:Int)==255)=false by grind,cond_false,decide_eq_false o!,cond_false];rw[ABY (by rw[e,A2]) f,AD,A2]
def AE9{x:BY}(a:x.length<=1099511627776):As (JD x) λr=>r.2=0->x=B4 r.1/\FA r.1.2.2.2.2.2.2.1.2.2.1/\FA r.1.2.2.2.2.2.2.1.2.2.2/\Zk 4 (r.1.2.2.2.2.2.2.2.length:Int)/\GK r.1=some true:=by
 unfold JD;have I:CS x [] (x,(0,0)):=⟨rfl,λ_=>⟨x,rfl,rfl⟩⟩
 refine AA (Zd (k:=8) I a g! g!) λO y=>AA (Zd (k:=1) y.1 a g! g!) λP z=>AA (Zd (k:=4) z.1 a g! g!) λQ A=>AA (Zd (k:=8) A.1 a g! g!) λR B=>AA (Zd (k:=8) B.1 a g! g!) λS C=>AA (Zd (k:=8) C.1 a g! g!) λT D=>AA (Zd (k:=4) D.1 a g! g!) λU E=>AA (Zd (k:=1) E.1 a g! g!) λV F=>Dx (ABX F.1 a) λq M o=>Dx (ABX o.1 a) λs w p=>AA (Zd (k:=4) p.1 a g! g!) λj b=>AA (ABZ (n:=j.1) b.1 a (λc=>?_)) λJ f=>?_;have:=(b.2.1 c).1 g!;rw[show(256:Int)^4=4294967296 by decide]at this;exact this;refine AM (λh=>AB λc=>absurd c h) (λh=>AM (λ_=>AB n!) (λG=>Dx (G7) λK i _=>AP (λ_=>AB n!) (λH=>AB λ_=>?_)));subst H;obtain⟨q11,d⟩:=f.2 h;have l:s.2.2.2=0:=QU λe=>by have:=b.2.2 e;rw[this]at d;exact e d
 have u:=p.2 l;have L:q.2.2.2=0:=QU λe=>by
  have:s=((false,[]),q.2):=by have:=w;unfold En B5 at this;rw[bne_iff_ne.2 e,cond_true,AD,bne_iff_ne.2 e,cond_true]at this;injection this with this;exact this.symm
  rw[this]at l;exact e l
 have t:=o.2 L;obtain⟨g,m,N⟩:=f.1.2 h;have hr:g=[]:=by simp only[len]at G;have v:=congrArg List.length m;rw[Ag]at v;exact EP o!
 subst hr;refine⟨?_,t,u,?_,i⟩;rw[m];unfold B4;dsimp only;rw[q11];simp only[A2,By,Db];dsimp only;rw[q11];exact b.2.1 d
def AE8{e:AE}(h:Io e):JD (B4 e)=some (e,0):=by
 obtain⟨s,t,H,w,y,z,A,B,C,D,E⟩:=h.cells;have I:=RU h;have g:Zk 4 (e.2.2.2.2.2.2.2.length:Int):=⟨λ_=>by rw[show(256:Int)^4=4294967296 by decide];omega,o!⟩
 have a:B4 e=[]++(C8 e.1 8++(C8 e.2.1 1++(C8 e.2.2.1 4++(C8 e.2.2.2.1 8++(C8 e.2.2.2.2.1 8++(C8 e.2.2.2.2.2.1 8++(C8 e.2.2.2.2.2.2.1.1 4++(C8 e.2.2.2.2.2.2.1.2.1 1++
 (Ta e.2.2.2.2.2.2.1.2.2.1++(Ta e.2.2.2.2.2.2.1.2.2.2++(C8 (e.2.2.2.2.2.2.2.length:Int) 4++(e.2.2.2.2.2.2.2++[])))))))))))):=by rw[Db];rfl
 generalize B4 e=x at*;have i:B5 (x,(((0:Int)),0)) 8=_:=XQ (p:=[]) (k:=8) a o! g! g! w;rw[By]at i;rw[By]at a;have j:=XQ (k:=1) a o! g! g! y;rw[<-A2]at a;have l:=XQ (k:=4) a o! g! g! z;rw[<-A2]at a;have m:=XQ (k:=8) a o! g! g! A;rw[<-A2]at a;have n:=XQ (k:=8) a o! g! g! B;rw[<-A2]at a;have o:=XQ (k:=8) a o! g! g! C;rw[<-A2]at a;have q:=XQ (k:=4) a o! g! g! D;rw[<-A2]at a;have r:=XQ (k:=1) a o! g! g! E;rw[<-A2]at a;have F:=ABW a o! s;rw[<-A2]at a;have G:=ABW a o! t;rw[<-A2]at a;have c:=XQ (k:=4) a o! g! g! g;rw[<-A2]at a;have d:=ABY a o!;rw[Db]at a;rw[<-a]at d;unfold JD;rw[i,AD];rw[show((1:Nat):Int)=1 from rfl]at j r;rw[show((4:Nat):Int)=4 from rfl]at l q c;rw[show((8:Nat):Int)=8 from rfl]at m n o;rw[j,AD,l,AD,m,AD,n,AD,o,AD,q,AD,r,AD,F,AD,G,AD,c,AD,d,AD];obtain⟨b,u,v⟩:=G7 (x:=e);have f:b=true:=v h;subst f;dsimp only[len];rw[show((0:Int) !=0)=false by decide,cond_false,bne_self_eq_false,cond_false];rw[show(e.1,(e.2.1,(e.2.2.1,(e.2.2.2.1,(e.2.2.2.2.1,(e.2.2.2.2.2.1,((e.2.2.2.2.2.2.1.1,(e.2.2.2.2.2.2.1.2.1,(e.2.2.2.2.2.2.1.2.2.1,e.2.2.2.2.2.2.1.2.2.2))),e.2.2.2.2.2.2.2)))))))=e from rfl,u,AD,Cm,cond_false]
def xD{a v i:Int}(f:0≤i)(c:i<8)(e:0≤a)(b:a<2^(8*i.toNat))(g:0≤v)(d:v<256):
  0<=IntKind.wrap .u64 (((BitVec.toNat ((BitVec.ofInt 64 a)|||(BitVec.ofInt 64 (IntKind.wrap .u64 ((IntKind.wrap .u64 v)*(2^(min (Int.toNat (wi (8*i))) 64))))))):Nat):Int)/\
  IntKind.wrap .u64 (((BitVec.toNat ((BitVec.ofInt 64 a)|||(BitVec.ofInt 64 (IntKind.wrap .u64 ((IntKind.wrap .u64 v)*(2^(min (Int.toNat (wi (8*i))) 64))))))):Nat):Int)<2^(8*(wi (i+1)).toNat):=by
 have h:=vB f c e b g d;rw[(by rw[(Aa),XY];omega:IntKind.wrap .u64 (wi (8*i))=wi (8*i))]at h;exact h
def ADM{n:Int}(h:n<=1):(2:Int)^(8*n.toNat)<=256:=by
 have:n.toNat=0\/n.toNat=1:=o!
 rcases this with h|h<;>rw[h]<;>decide
def I1{x:BY×Int×Int}(h:x.1.length<=2199023255552):As (CU x) λr=>(r.2=0->0<=x.2.1/\x.2.1+x.2.2<=x.1.length/\(x.2.2<=4->0<=r.1/\r.1<4294967296)/\(x.2.2<=1->r.1<256))/\(r.2≠0->r.1=0):=by
 unfold CU;refine AC (λ_=>AB ⟨n!,λ_=>rfl⟩) (λo=>AC (λ_=>AB ⟨n!,λ_=>rfl⟩) (λp=>AC (λ_=>AB ⟨n!,λ_=>rfl⟩) (λq=>AC (λ_=>AB ⟨n!,λ_=>rfl⟩) (λf=>?_))));simp[len]at f⊢;rw[(Aa (x:=(x.1.length:Int)-x.2.1))];refine AC (λ_=>AB ⟨n!,λ_=>rfl⟩) (λt=>AA (P:=λr=>0<=r/\r<2^(8*x.2.2.toNat)) ?_ λA y=>AB ⟨λ_=>⟨o!,o!,λg=>?_,λc=>?_⟩,λb=>absurd rfl b⟩);refine AV (λ(s:Int×Int)=>0<=s.2/\s.2<=x.2.2/\0<=s.1/\s.1<2^(8*s.2.toNat)) (λ(s:Int×Int)=>(x.2.2-s.2).toNat) ⟨Ae _,d!,Ae _,u!⟩ (λs j=>?_);have⟨m,z,d,e⟩:=j;unfold Tf;refine AC (λk=>?_) (λk=>AB ⟨d,?_⟩);rw[(Aa (x:=x.2.1+s.2))];refine AA (Qd o! o!) λn c=>AC (λl=>?_) (λ_=>AB ?_);grind[Aa];have⟨u,w⟩:=xD (a:=s.1) (v:=n) (i:=s.2) m o! d e c.1 c.2;grind[Aa];have:s.2=x.2.2:=o!
 rw[<-this];exact e;have:=yP g;grind[Aa];have:=ADM c;grind[Aa]
def nF(a:BitVec 32):0<=IntKind.wrap .u32 (((BitVec.toNat (a&&&BitVec.ofInt 32 15):Nat)):Int)/\IntKind.wrap .u32 (((BitVec.toNat (a&&&BitVec.ofInt 32 15):Nat)):Int)<16:=by grind[sY,BitVec.toNat_and,BitVec.ofInt,Nat.and_le_right]
def gF{x:Unit}:As (Kr x) λr=>True:=by unfold Kr;refine AA (P:=λ_=>True) ?_ λv _=>AB trivial;refine AV (λ(s:Int×(Fin (15+1)->(Ty.int IntKind.u32).D))=>0<=s.1/\s.1<=16) (λ(s:Int×(Fin (15+1)->(Ty.int IntKind.u32).D))=>(16-s.1).toNat) ⟨Ae _,g!⟩ (λs a=>?_);have⟨c,d⟩:=a;unfold UM;refine AC (λb=>?_) (λ_=>AB trivial);refine AA (P:=λ_=>True) ?_ λg _=>?_;refine AV (λ(s:Int×Int)=>0<=s.2/\s.2<=4) (λ(s:Int×Int)=>(4-s.2).toNat) ⟨Ae _,d!⟩ (λs a=>?_);have⟨e,f⟩:=a;unfold LB;rw[(Aa (x:=s.2+1))];refine AC (λb=>?_) (λ_=>AB trivial);refine AA (P:=λ_=>True) (AL (λ_=>AB trivial) (λ_=>AB trivial)) λv _=>AB ⟨d!,d!⟩;rw[(Aa (x:=s.1+1))];refine AA (CM c b) λh _=>AA (CM c b) λi _=>AB ⟨d!,d!⟩
theorem qu{x:BY}(h:x.length<=2199023255552):As (OJ x) λr=>True:=by unfold OJ;refine AA gF λe _=>AA (P:=λ_=>True) ?_ λv _=>AB trivial;refine AV (λ(s:Int×Int)=>0<=s.2/\s.2<=x.length) (λ(s:Int×Int)=>((x.length:Int)-s.2).toNat) ⟨Ae _,d!⟩ (λs b=>?_);have⟨c,d⟩:=b;unfold Tg;rw[(Aa (x:=s.2+1))];refine AC (λa=>?_) (λ_=>AB trivial);simp[len]at a;refine AA (Qd c a) λf _=>AA (CM (nF _).1 (nF _).2) λg _=>AA (CM (nF _).1 (nF _).2) λi _=>AA (CM (nF _).1 (nF _).2) λj _=>AA (CM (nF _).1 (nF _).2) λk _=>AB ⟨d!,d!⟩
theorem YJ{x:BY×Int}(h:x.1.length<=2199023255552):As (Fc x) λr=>r.2.2=0->r.1.length<=8392/\x.2+8+r.1.length=r.2.1/\0<=x.2/\r.2.1<=x.1.length:=by unfold Fc;refine AC (λ_=>AB n!) (λg=>AC (λ_=>AB n!) (λe=>?_));simp[len]at e;refine AA (I1 h) λd f=>AM (λb=>AB λa=>absurd a b) (λc=>?_);have⟨a1,a2,a3,_⟩:=f.1 c;have a5:=a3 d!;dsimp only at a2;refine AC (λ_=>AB n!) (λi=>?_);rw[(Aa (x:=x.2+4)),(Aa (x:=x.2+4+d.1)),(Aa (x:=x.2+4+d.1+4))];refine AA (I1 h) λk j=>?_;grind[AM,AB,AA,CQ,qu]
def fM{x:BY×BY}:As (ID x) λr=>True:=by unfold ID Fw;refine AA (P:=λ_=>True) ?_ λv _=>AB trivial;refine AC (λa=>?_) (λ_=>AB trivial);simp[len]at a;exact AA (CQ (Ae _) i! (by simp[len];omega)) λv _=>AB trivial
def RB(b:Fa):Prop:=b.1.length<=2199023255552/\0<=b.2.1/\b.2.1<=b.1.length
def DO{b:Fa}{x:Int}(h:RB b)(j:1<=x/\x<=8):As (B5 b x) λr=>RB r.2/\(x<=4->0<=r.1/\r.1<4294967296):=by have⟨a1,a2,a3⟩:=id h;unfold B5;refine AM (λ_=>AB ⟨h,λ_=>d!⟩) (λ_=>AA (I1 (by exact a1)) λf a=>?_);dsimp only at a;refine AA (P:=λr=>RB r) ?_ λk d=>AB ⟨d,λe=>?_⟩;refine AQ (λc=>AB ?_) (λ_=>AB ⟨a1,a2,a3⟩);have⟨g,i,_⟩:=a.1 c;rw[Aa];exact⟨a1,d!⟩;by_cases c:f.2=0<;>grind
theorem UO{b:Fa}{x:Int}(h:RB b)(n:0<=x/\x<4294967296):As (Eo b x) λr=>RB r.2:=by have⟨a1,a2,a3⟩:=id h;unfold Eo;refine AQ (λd=>?_) (λl=>?_);rw[(Aa (x:=len b.1-b.2.1) (by simp[len];omega))];refine AA (P:=λr=>RB r/\(r.2.2=0->r.2.1+x<=r.1.length)) ?_ λe j=>?_;refine AC (λ_=>AB ⟨⟨a1,a2,a3⟩,λd=>absurd d u!⟩) (λk=>AB ⟨h,λ_=>?_⟩);simp[len]at k;omega;have⟨⟨c,f,g⟩,i⟩:=j;refine AM (λ_=>AB ⟨c,f,g⟩) (λa=>?_);have m:=i a;rw[(Aa (x:=e.2.1+x)),(Aa (x:=e.2.1+x-x))];exact AA (CQ) λo _=>AB ⟨c,d!⟩;grind[AM,AB]
def UN{b:Fa}{x:Unit}(h:RB b):As (En b x) λr=>RB r.2:=by unfold En;refine AA (DO h g!) λc a=>AM (λ_=>AB a.1) (λ_=>AQ (λ_=>AB a.1) (λ_=>?_));have q:=a.2 g!;refine AC (λ_=>AB a.1) (λ_=>?_);grind[AA,UO,AB]
theorem mX{x:BY}(h:x.length<=2199023255552):As (JD x) λr=>True:=by unfold JD;refine AA (DO (b:=(x,(0,0))) ⟨h,Ae _,d!⟩ g!) λs c=>AA (DO c.1 g!) λt d=>AA (DO d.1 g!) λu f=>AA (DO f.1 g!) λv g=>AA (DO g.1 g!) λw i=>AA (DO i.1 g!) λy j=>AA (DO j.1 g!) λz k=>AA (DO k.1 g!) λA l=>AA (UN l.1) λB m=>AA (UN m) λC n=>AA (DO n g!) λo a=>AA (UO a.1 (a.2 g!)) λp e=>AM (λ_=>AB trivial) (λ_=>AM (λ_=>AB trivial) (λ_=>AA G7 λq _=>AP (λ_=>AB trivial) (λ_=>AB trivial)))
theorem iv{x:Int×Int}:As (FB x) λr=>True:=by unfold FB Fb;refine A9 (A9 ?_);refine AL (λ_=>AL (λ_=>AB trivial) (λ_=>AB trivial)) (λ_=>AL (λ_=>AB trivial) (λ_=>AC (λ_=>AB trivial) (λ_=>AC (λ_=>AB trivial) (λ_=>AB trivial))))
theorem pR{x:List Int}(h:x.length<=16777216):As (KC x) λr=>True:=by unfold KC;refine AA (P:=λ_=>True) ?_ λv _=>A6 (λ_ _=>AB trivial) (λ_ _=>AB trivial);refine AV (λ(s:Int)=>0<=s/\s<=x.length) (λ(s:Int)=>((x.length:Int)-s).toNat) ⟨Ae _,o!⟩ (λs a=>?_);have⟨c,d⟩:=a;unfold Jv;rw[(Aa (x:=s+1))];refine AC (λb=>?_) (λ_=>AB trivial);grind[AA,AI,AM,AB]
def lD{x:AS}:As (L7 x) λr=>r=true->1<=x.1/\x.1<=x.2.1/\x.2.1<=1099511627776/\0<=x.2.2.1/\x.2.2.1<=x.2.2.2.1/\x.2.2.2.1<64/\0<=x.2.2.2.2.1/\x.2.2.2.2.1<=8:=by
 unfold L7;exact x!
def YK{x:AE}:As (BF x) λr=>True:=by grind[BF,AQ,AB]
def oD{x:AS×AE}:As (PN x) λr=>True:=by unfold PN;refine AA YK λv _=>AL (λ_=>?_) (λ_=>AB trivial);refine AC (λ_=>?_) (λ_=>AB trivial);refine AC (λ_=>?_) (λ_=>AB trivial);exact AC (λ_=>AB trivial) (λ_=>AB trivial)
def mZ{x:AE×AE}:As (OB x) λr=>True:=by unfold OB;grind[AA,iv,pR,AB]
def pT{x:AS}:As (Tu x) λr=>r=true->Zn x:=by
 unfold Tu;refine AA lD λj d=>AP (λ_=>AB λb=>by cases b) (λa=>?_);have hn:=d a;refine AC (λ_=>AB λb=>by cases b) (λf=>?_);simp[len]at f;have q:Zn x:=⟨hn.1,hn.2.1,hn.2.2.1,hn.2.2.2.1,hn.2.2.2.2.1,hn.2.2.2.2.2.1,hn.2.2.2.2.2.2.1,hn.2.2.2.2.2.2.2,o!⟩
 refine AA (P:=λ_=>True) ?_ λv _=>A6 (λ_ _=>AB λ_=>q) (λ_ _=>AB λ_=>q);refine AV (λ(s:Int)=>0<=s/\s<=x.2.2.2.2.2.length) (λ(s:Int)=>((x.2.2.2.2.2.length:Int)-s).toNat) ⟨Ae _,o!⟩ (λs e=>?_);have⟨h,i⟩:=e;unfold R2;rw[(Aa (x:=s+1)),(Aa (x:=s-1))];refine AC (λa=>?_) (λ_=>AB trivial);simp[len]at a;have c:((0<=s+1/\s+1<=x.2.2.2.2.2.length)/\((x.2.2.2.2.2.length:Int)-(s+1)).toNat<((x.2.2.2.2.2.length:Int)-s).toNat):=⟨o!,o!⟩
 refine AA (AI h a) λk _=>AA G7 λl _=>AP (λ_=>AB trivial) (λ_=>AA oD λm _=>AP (λ_=>AB trivial) (λ_=>AQ (λ_=>AC (λ_=>AB trivial) (λ_=>AB c)) (λg=>AA (AI) λn _=>AC (λ_=>AC (λ_=>AB trivial) (λ_=>AB c)) (λ_=>AA (AI) λo _=>AA mZ λp _=>AC (λ_=>AB trivial) (λ_=>AM (λ_=>AB trivial) (λ_=>AB c))))))
def oC{x:BY}(h:x.length<=2199023255552):As (Ka x) λr=>r.2=0->Zn r.1:=by
 unfold Ka;refine AA (YJ (by exact h)) λp k=>AM (λf=>AB λa=>absurd a f) (λg=>?_);have⟨a1,a2,a3,a4⟩:=k g;dsimp only at a1 a2 a3 a4;refine AM (λ_=>AB n!) (λl=>AA fM λy _=>AP (λ_=>AB n!) (λ_=>?_));have b:p.1.length<=2199023255552:=o!
 refine AA (I1 b) λz _=>AA (I1 b) λA _=>AA (I1 b) λB _=>AA (I1 b) λC _=>AA (I1 b) λD _=>AA (I1 b) λi _=>AP (λ_=>AB n!) (λm=>?_);have n:i.1<=4096:=by simpa using m
 refine AA (P:=λr=> ∀u,r= .inl u->u.1≠0) ?_ λr hr=>A6 (λu c=>AB λa=>absurd a (hr u c)) (λu c=>?_);refine AV (λ(s:Int×(Int×((List AE)×(Int×(Int×(Int×(Int×(Int×AS))))))))=>0<=s.2.1/\(s.2.1<=i.1\/s.2.1=0)/\s.2.2.1.length<=s.2.1) (λ(s:Int×(Int×((List AE)×(Int×(Int×(Int×(Int×(Int×AS))))))))=>(i.1-s.2.1).toNat) ⟨Ae _,.inr rfl,k!⟩ (λs o=>?_);have⟨t,v,w⟩:=o;unfold Ke;refine AC (λj=>?_) (λ_=>AB λu c=>by cases c);have e:=Aa (x:=s.2.1+1);grind[AA,YJ,AM,AB,mX,Ac,List.length_cons,List.length_nil];refine AC (λ_=>AB n!) (λ_=>AA pT λq d=>AP (λ_=>AB n!) (λj=>AB λ_=>d j))
abbrev EN:=AE
def wW(x y:Int):FB (x,y)=some (if x<y then-1 else if x>y then 1 else 0):=by unfold FB Fb;simp only[bne_self_eq_false,AD,cond_false];by_cases a:x<y;simp[a];by_cases b:x>y;simp[a,b];simp[a,b]
theorem lW{x:Int}(h:0<=x/\x<=1099511627776:=by omega):wi x=x:=Aa
theorem wip{i:Nat}(h:i<=16777216:=by omega):wi ((i:Int)+1)=((i+1:Nat):Int):=by grind[lW]
def wim{i:Nat}(h:i<=16777216:=by omega):wi ((i:Int)-1)=(i:Int)-1:=by grind[Aa]
def CP(B:Nat):Prop:=True
def CPa(B:Nat):CP B:=trivial
def PT{α:Type}(T:Prop)(o:Option α)(Q:α->Prop):Prop:=(T-> ∃r,o=some r)/\ ∀r,o=some r->Q r
section
variable {α β γ:Type} {T:Prop}
def PT.some{r:α}{Q:α->Prop}(h:Q r):PT T (.some r) Q:=⟨λ_=>⟨r,rfl⟩,λs e=>q!⟩
def gA{o:Option α}{Q:α->Prop}(h:As o Q):PT T o Q:=by obtain⟨r,rfl,h⟩:=h;exact PT.some h
def PT.bind{o:Option α}{k:α->Option β}{P:α->Prop}{Q:β->Prop}(h:PT T o P)(a: ∀r,P r->PT T (k r) Q):PT T (Option.bind o k) Q:=by
 cases o with
 |none=>exact⟨λt=>(by have⟨r,h⟩:=h.1 t;cases h),λr e=>(by cases e)⟩
 |some r=>exact a r (h.2 r rfl)
def PT.cond{c:Bool}{a b:Option α}{Q:α->Prop}(d:c=true->PT T a Q)(e:c=false->PT T b Q):PT T (bif c then a else b) Q:=q!
def PT.dec{p:Prop}{_:Decidable p}{a b:Option α}{Q:α->Prop}(c:p->PT T a Q)(d: ¬p->PT T b Q):PT T (bif decide p then a else b) Q:=q!
def Y6{n m:Nat}{a b:Option α}{Q:α->Prop}(e:n=m)(h:PT T a Q):PT T (bif Nat.beq n m then a else b) Q:=t!
end
def kw{x:AJ×Int}(h:x.1.1.length<=16)(a:0<=x.2/\x.2<x.1.1.length):As (Ju x) λr=>True:=by unfold Ju;have e:=Aa (x:=x.2+1);rw[e];refine AC (λb=>?_) (λ_=>?_);simp only[len]at b;refine AA (AI a.1 a.2) λc _=>AA (AI o! b) λd _=>AB trivial;exact AA (AI a.1 a.2) λf _=>AB trivial
def iu{x:AJ×AS}(h:x.1.1.length<=16):As (MC x) λr=>True:=by
 unfold MC;refine AA (P:=λ_=>True) ?_ λv _=>A6 (λ_ _=>AB trivial) (λ_ _=>AB trivial);refine AV (λ(s:Int)=>0<=s/\s<=x.1.1.length) (λ(s:Int)=>((x.1.1.length:Int)-s).toNat) ⟨Ae _,o!⟩ (λs c=>?_);unfold P9;have e:=Aa (x:=s+1);rw[e];refine AC (λa=>?_) (λ_=>AB trivial);simp only[len]at a;have b:((0<=s+1/\s+1<=x.1.1.length)/\((x.1.1.length:Int)-(s+1)).toNat<((x.1.1.length:Int)-s).toNat):=⟨o!,o!⟩
 refine AA (kw h ⟨c.1,a⟩) λd _=>AQ (λ_=>?_) (λ_=>AB b);exact AQ (λ_=>AB trivial) (λ_=>AB b)
def iq{x:AJ×BG}(h:x.1.1.length<=16)(c:x.2.2.2.length<=2199023255552):As (Gj x) λr=>r.2=true->Zn r.1:=by unfold Gj;refine AM (λ_=>AB n!) (λ_=>AA (oC c) λd b=>AQ (λa=>?_) (λ_=>AB λa=>by cases a));exact AA (iu h) λe _=>AB λ_=>b a
def ABM{a b:Int}(f:0<=a:=by omega)(g:0<=b:=by omega)(h:a+b<=1099511627776:=by omega):wi (Int.fdiv (IntKind.wrap .u64 (wi (a+b))) (2^(min (Int.toNat 1) 64)))=(a+b)/2:=by
 have c:wi (a+b)=a+b:=Aa;have d:IntKind.wrap .u64 (a+b)=a+b:=by rw[XY];omega
 have e:(2:Int)^(min (Int.toNat 1) 64)=2:=by decide
 rw[c,d,e,gl _ (by decide)];exact Aa
def mW{x:Int×Int}:As (Te x) λr=>r=true↔x.1<x.2:=by unfold Te Fb;apply A9;refine AL (λa=>?_) (λ_=>AB k!);simp at a
def MT{α:Type}(b:Bool)(o:Option α)(Q:α->Prop):Prop:=(b=true-> ∃r,o=some r)/\ ∀r,o=some r->Q r
section
variable {α β:Type} {b:Bool}
def MT.some{r:α}{Q:α->Prop}(h:Q r):MT b (.some r) Q:=⟨λ_=>⟨r,rfl⟩,λs e=>by injection e with e;rw[<-e];exact h⟩
def gD{o:Option α}{Q:α->Prop}(h:As o Q):MT b o Q:=⟨λ_=>by have⟨r,e,_⟩:=h;exact⟨r,e⟩,λr e=>h.get e⟩
def MT.bind{o:Option α}{k:α->Option β}{P:α->Prop}{Q:β->Prop}(h:MT b o P)(d: ∀r,P r->MT b (k r) Q):MT b (Option.bind o k) Q:=by refine⟨λc=>?_,λr e=>?_⟩;have⟨r,e⟩:=h.1 c;have⟨s,a⟩:=(d r (h.2 r e)).1 c;exact⟨s,by rw[e];exact a⟩;have⟨s,f,a⟩:=Dt.1 e;exact(d s (h.2 s f)).2 r a
def MT.cond{c:Bool}{x y:Option α}{Q:α->Prop}(a:c=true->MT b x Q)(d:c=false->MT b y Q):MT b (bif c then x else y) Q:=by cases c<;>grind
def MT.dec{p:Prop}{_:Decidable p}{x y:Option α}{Q:α->Prop}(a:p->MT b x Q)(c: ¬p->MT b y Q):MT b (bif decide p then x else y) Q:=by simp_all[MT.cond]
end
abbrev NL:=List Az
def DS(a:AJ):Prop:= ∀f∈a.2.2.1,f.2.2.length<=2199023255552
def SpL(l:List Eu):Prop:=l.length<=16777216/\ ∀s∈l,1<=s.1
theorem bV{n:Int}{v:EN}: ∀{m:List (Int×EN)},(m.map (·.1)).Nodup-> ∀q,q∈T9 n v m↔q=(n,v)\/(q∈m/\q.1≠n)
 |[],_,q=>by simp[T9]
 |p::r,h,q=>by
  rw[Bv,GB]at h;unfold T9;by_cases b:p.1=n;grind[List.mem_cons_of_mem,List.mem_map_of_mem];have:(p.1==n)=false:=by simp[b]
  rw[this,cond_false];constructor;intro a;rcases Av.1 a with a|a;grind;rcases(bV h.2 q).1 a with a|⟨a,hn⟩;exact .inl a;grind[List.mem_cons_of_mem];rintro(a|⟨a,hn⟩);exact Cd _ ((bV h.2 q).2 (.inl a));rcases Av.1 a with a|a;grind;exact Cd _ ((bV h.2 q).2 (.inr ⟨a,hn⟩))
def sF{n:Int}{v:EN}: ∀{m:List (Int×EN)},(m.map (·.1)).Nodup->((T9 n v m).map (·.1)).Nodup
 |[],_=>by simp[T9]
 |p::r,h=>by
  have b:=h;rw[Bv,GB]at h;unfold T9;by_cases a:p.1=n;grind[List.nodup_cons];have:(p.1==n)=false:=by simp[a]
  rw[this,cond_false,Bv,GB];refine⟨λc=>?_,sF h.2⟩;grind[bV,List.mem_map_of_mem]
def sD{n:Int}{e:EN}: ∀{m:List (Int×EN)},OG n m=some e->(n,e)∈m
 |[],h=>by cases h
 |p::r,h=>by
  unfold OG at h;by_cases a:p.1=n;grind;have:(p.1==n)=false:=by simp[a]
  rw[this,cond_false]at h;exact Cd _ (sD h)
def sC{n:Int}: ∀{m:List (Int×EN)},OG n m=none-> ∀q∈m,q.1≠n
 |[],_,q,a=>by cases a
 |p::r,h,q,a=>by
  unfold OG at h;by_cases b:p.1=n;have:(p.1==n)=true:=by simp[b]
  rw[this,cond_true]at h;cases h;have:(p.1==n)=false:=by simp[b]
  rw[this,cond_false]at h;rcases Av.1 a with a|a;rw[a];exact b;exact sC h q a
def Pu(m:List (Int×EN))(P:EN->Prop):Prop:=(m.map (·.1)).Nodup/\(∀q∈m,q.1=q.2.1)/\ ∀e,(e.1,e)∈m↔P e
def Pu.nil:Pu [] λ_=>False:=⟨OU,k!,k!⟩
def Pu.put{m:List (Int×EN)}{P:EN->Prop}{v:EN}(h:Pu m P):Pu (T9 v.1 v m) λe=>e=v\/(P e/\e.1≠v.1):=by refine⟨sF h.1,λq a=>?_,λe=>?_⟩;rcases(bV h.1 q).1 a with a|⟨a,_⟩;rw[a];exact h.2.1 q a;rw[bV h.1];constructor;rintro(a|⟨a,hn⟩);injection a with _ a;exact .inl a;exact .inr ⟨(h.2.2 e).1 a,hn⟩;rintro(rfl|⟨a,hn⟩);exact .inl rfl;exact .inr ⟨(h.2.2 e).2 a,hn⟩
def Pu.congr{m:List (Int×EN)}{P Q:EN->Prop}(h:Pu m P)(a: ∀e,P e↔Q e):Pu m Q:=⟨h.1,h.2.1,λe=>(h.2.2 e).trans (a e)⟩
def Pu.get{m:List (Int×EN)}{P:EN->Prop}(h:Pu m P){e:EN}(g:P e):OG e.1 m=some e:=by
 have d:=(h.2.2 e).2 g;cases c:OG e.1 m with
 |none=>exact absurd rfl (sC c _ d)
 |some f=>
  have i: ∀{l:List (Int×EN)},(l.map (·.1)).Nodup-> ∀{n:Int} {a b:EN},(n,a)∈l->(n,b)∈l->a=b:=by intro l;induction l<;>grind
  rw[i h.1 d (sD c)]
def be(e:EN):Bool:=(e.2.1==1)||(e.2.1==2)
theorem dC(e:EN):BF e=some (be e):=by grind[BF,be]
def JM(p i j:Int)(e:EN):Bool:=be e&&((e.2.2.2.2.2.2.1.1==p)&&(decide (e.1>i)&&decide (e.1<=j)))
def PY(s:Int×Int)(n:Int):Bool:=decide (n>=s.1)&&decide (n<=s.2)
def has_eq(s:Int×Int)(n:Int):Iu (s,n)=some (PY s n):=by grind[Iu,PY]
def AF4{e:EN}{l:List (Int×Int)}(j:l.length<=16777216):As (Aj (Vb e l) 0) λr=>(∀u,r= .inl u->0<=u/\(l.any λs=>PY s e.1)=true)/\(∀u,r= .inr u->(l.any λs=>PY s e.1)=false):=by refine AV (λ(s:Int)=>0<=s/\s<=l.length/\ ∀x∈l.take s.toNat,PY x e.1=false) (λ(s:Int)=>((l.length:Int)-s).toNat) ⟨Ae _,o!,k!⟩ (λs d=>?_);have⟨g,m,h⟩:=d;unfold Vb;refine AC (λa=>?_) (λa=>AB ⟨λu b=>(by cases b),λu _=>?_⟩);simp[len]at a;rw[(Aa (x:=s+1))];refine AA (AI g a) λn c=>?_;rw[has_eq,AD];refine AL (λk=>AB ⟨λu b=>?_,λu b=>(by cases b)⟩) (λi=>AB ⟨⟨o!,o!,λx f=>?_⟩,o!⟩);grind[List.any_eq_true];rw[show(s+1).toNat=s.toNat+1 by omega,Ct,c.1]at f;grind[Option.toList_some,List.mem_singleton];simp[len]at a;rw[BQ o!]at h;rw[gj];grind[List.any_eq_true]
def AF3{a:AJ}{l:Af}{p i j:Int}{d:List (Int×Int)}(R:Dg l)(hv:1≤d.length)(S:d.length≤16777216):
  As (Aj (Va (a,(l,(p,(i,j)))) d) (0,(0,[]))) λr=>r.1=((l.2.1.filter λe=>JM p i j e&&(d.tail.any λs=>PY s e.1)).length:Int)/\Pu r.2 λe=>e∈l.2.1/\JM p i j e=true:=by
 obtain⟨l1,l2,l3,l4,l5,K⟩:=R;refine AV (λ(s:Int×(Int×List (Int×EN)))=>0<=s.1/\s.1<=l.2.1.length/\s.2.1=(((l.2.1.take s.1.toNat).filter λe=>JM p i j e&&(d.tail.any λs=>PY s e.1)).length:Int)/\Pu s.2.2 λe=>e∈l.2.1.take s.1.toNat/\JM p i j e=true) (λs=>((l.2.1.length:Int)-s.1).toNat)
  ⟨Ae _,d!,k!,Pu.nil.congr λe=>k!⟩ (λs O=>?_)
 obtain⟨T,i2,A,B⟩:=O;unfold Va;dsimp only;refine AC (λy=>?_) (λy=>AB ?_);simp only[len]at y;have L:=Aa (x:=s.1+1);rw[L];refine AA (AI T y) λq I=>?_;rw[dC,AD];have g:l.2.1.take (s.1+1).toNat=l.2.1.take s.1.toNat++[q]:=by rw[show(s.1+1).toNat=s.1.toNat+1 by omega,Ct,I.1];rfl
 have f:JM p i j q=false->(0<=s.1+1/\s.1+1<=l.2.1.length/\s.2.1=(((l.2.1.take (s.1+1).toNat).filter λe=>JM p i j e&&(d.tail.any λs=>PY s e.1)).length:Int)/\Pu s.2.2 λe=>e∈l.2.1.take (s.1+1).toNat/\JM p i j e=true)/\((l.2.1.length:Int)-(s.1+1)).toNat<((l.2.1.length:Int)-s.1).toNat:=λw=>by
  refine⟨⟨o!,o!,?_,?_⟩,o!⟩;rw[g,Ip,A];simp[w];rw[g];refine B.congr λe=>⟨λh=>⟨Ao.2 (.inl h.1),h.2⟩,λh=>⟨?_,h.2⟩⟩
  rcases Ao.1 h.1 with m|m;exact m;rw[BC.1 m,w]at h;cases h.2
 refine AL (λC=>?_) (λC=>AB (f (by simp[JM,C])));refine AL (λD=>?_) (λD=>AB (f (by simp[JM,D])));refine AL (λE=>?_) (λE=>AB (f (by unfold JM;rw[E];simp)));refine AL (λF=>?_) (λF=>AB (f (by unfold JM;rw[F];simp)));have w:JM p i j q=true:=by unfold JM;rw[C,D,E,F];rfl
 refine AA (Bb (lo:=1) (hi:=(d.length:Int))) λV N=>?_;have H:V=d.tail:=by
  rw[N.1,BQ (by rw[FJ];omega)];cases d with
  |nil=>rfl
  |cons a r=>rfl
 subst H;refine AA (AF4 (by rw[List.length_tail];omega)) λU o=>?_;have M:=K s.1.toNat q I.1;have n:Pu (T9 q.1 q s.2.2) λe=>e∈l.2.1.take (s.1+1).toNat/\JM p i j e=true:=by
  rw[g];refine B.put.congr λe=>⟨?_,λh=>?_⟩
  rintro(rfl|⟨h,_⟩);exact⟨Ao.2 (.inr (BC.2 rfl)),w⟩;exact⟨Ao.2 (.inl h.1),h.2⟩;rcases Ao.1 h.1 with m|m;refine .inr ⟨⟨m,h.2⟩,λZ=>?_⟩;obtain⟨k,Q,v⟩:=Ub.1 m;rw[BR]at Q;rw[List.getElem_take]at v;have:=(K k e (by rw[<-v];exact Au o!)).1;omega;exact .inl (BC.1 m)
 have t: ∀b:Bool,(d.tail.any λs=>PY s q.1)=b->((((l.2.1.take (s.1+1).toNat).filter λe=>JM p i j e&&(d.tail.any λs=>PY s e.1)).length:Nat):Int)=s.2.1+(if b=true then 1 else 0):=λb P=>by rw[g,Ip,Ag,A];cases b<;>simp[w,P]
 have J:(((l.2.1.take s.1.toNat).filter λe=>JM p i j e&&(d.tail.any λs=>PY s e.1)).length:Int)<=4096:=by have W:=Fe (λe=>JM p i j e&&(d.tail.any λs=>PY s e.1)) (l.2.1.take s.1.toNat);have X:=jP s.1.toNat l.2.1;have Y:=List.length_take_le' s.1.toNat l.2.1;omega
 have G:=Aa (x:=s.2.1+1);rw[G];refine A6 (λu z=>?_) (λu z=>AB ⟨⟨d!,d!,?_,n⟩,d!⟩);refine AC (λ_=>AB ⟨⟨d!,d!,?_,n⟩,d!⟩) (λc=>absurd (o.1 u z).1 c);rw[t true (o.1 u z).2];rfl;rw[t false (o.2 u z)];simp;simp only[len]at y;rw[BQ o!]at A B;exact⟨A,B⟩
def wu(f e:EN):Prop:=f.2.2.2.2.2.2.1.1<e.2.2.2.2.2.2.1.1\/(f.2.2.2.2.2.2.1.1=e.2.2.2.2.2.2.1.1/\f.1<e.1)
theorem ww(e:EN): ¬wu e e:=by unfold wu;omega
def zV{a b c:EN}(h:wu a b)(g:wu b c):wu a c:=by unfold wu at*;omega
def ADv(f e:EN): ∃c:Int,C3 (f,e)=some c/\(c<0↔wu f e)/\(c=0↔f.2.2.2.2.2.2.1.1=e.2.2.2.2.2.2.1.1/\f.1=e.1):=by
 have:As (C3 (f,e)) λc=>(c<0↔wu f e)/\(c=0↔f.2.2.2.2.2.2.1.1=e.2.2.2.2.2.2.1.1/\f.1=e.1):=by
  unfold C3;unfold wu;dsimp only;repeat' with_reducible first|intro a|apply AC|apply AQ|apply AL|apply AB
  all_goals omega
 exact this
def uS(x:AS)(i:Nat):Prop:= ∀e,x.2.2.2.2.2[i]? =some e->
 (Io e/\be e=true/\x.1<=e.1/\e.1<=x.2.1/\x.2.2.1<=e.2.2.2.2.2.2.1.1/\e.2.2.2.2.2.2.1.1<=x.2.2.2.1)/\(i=0->e.2.2.2.2.1<x.1)/\
 ∀f,0<i->x.2.2.2.2.2[i-1]? =some f->wu f e/\(f.2.2.2.2.2.2.1.1=e.2.2.2.2.2.2.1.1->e.2.2.2.2.1=f.1)/\(f.2.2.2.2.2.2.1.1≠e.2.2.2.2.2.2.1.1->e.2.2.2.2.1<x.1)
def VR(x:AS):Prop:=Zn x/\ ∀i,uS x i
def VR.ent{x:AS}(h:VR x){e:EN}(a:e∈x.2.2.2.2.2):Io e/\be e=true/\x.1<=e.1/\e.1<=x.2.1/\x.2.2.1<=e.2.2.2.2.2.2.1.1/\e.2.2.2.2.2.2.1.1<=x.2.2.2.1:=by obtain⟨i,b,rfl⟩:=Ub.1 a;exact(h.2 i _ (Au b)).1
def wJ{x:AS}(Q:x.2.2.2.2.2.length<=4096):As (Aj (G1 x) 0) λr=>(r= .inl false/\ ¬ ∀i,uS x i)\/(r= .inr ()/\ ∀i,uS x i):=by
 refine Cv (λ(s:Int)=>0<=s/\s<=x.2.2.2.2.2.length/\ ∀i:Nat,(i:Int)<s->uS x i) (λ(s:Int)=>((x.2.2.2.2.2.length:Int)-s).toNat) ⟨Ae _,o!,λi z=>o!⟩ (λs J=>?_);obtain⟨G,R,H⟩:=J;unfold G1;simp only[len];refine AC (λE=>?_) (λE=>As.done (.inr ⟨rfl,λi=>?_⟩))
 case refine_2=>by_cases z:(i:Int)<s;exact H i z;intro e m;rw[Cn o!]at m;cases m
 obtain⟨k,rfl⟩:=EM G;refine AA (AI G E) λv d=>?_;have d:=d.1;rw[Dl]at d;have a:(uS x k->False)->As (some (Step.done (.inl false)):Option (Step Int (Bool ⊕ Unit))) (Nb (λ(s:Int)=>0<=s/\s<=x.2.2.2.2.2.length/\ ∀i:Nat,(i:Int)<s->uS x i) (λ(s:Int)=>((x.2.2.2.2.2.length:Int)-s).toNat) ((x.2.2.2.2.2.length:Int)-(k:Int)).toNat λr=>(r= .inl false/\ ¬ ∀i,uS x i)\/(r= .inr ()/\ ∀i,uS x i)):=λh=>As.done (.inl ⟨rfl,λu=>h (u k)⟩);have j:uS x k->As (some (Step.next (wi ((k:Int)+1))):Option (Step Int (Bool ⊕ Unit))) (Nb (λ(s:Int)=>0<=s/\s<=x.2.2.2.2.2.length/\ ∀i:Nat,(i:Int)<s->uS x i) (λ(s:Int)=>((x.2.2.2.2.2.length:Int)-s).toNat) ((x.2.2.2.2.2.length:Int)-(k:Int)).toNat λr=>(r= .inl false/\ ¬ ∀i,uS x i)\/(r= .inr ()/\ ∀i,uS x i)):=λh=>by
  rw[Aa];refine As.next ⟨o!,o!,λi z=>?_⟩ o!
  by_cases A:i=k;rw[A];exact h;exact H i o!
 refine AA CL λN C=>AP (λl=>a λok=>?_) (λl=>?_);have:=C.2 (ok v d).1.1;rw[l]at this;cases this;have q1:=C.1 l;refine AA Bz λO D=>?_;have q:be v=true↔v.2.1=1\/v.2.1=2:=by unfold be;simp
 refine AP (λl=>a λok=>?_) (λl=>?_);have:=D.2 (q.1 (ok v d).1.2.1);rw[l]at this;cases this;have q2:=q.2 (D.1 l);refine AC (λt=>a λok=>?_) (λq3=>?_);have:=(ok v d).1.2.2;omega;refine AC (λt=>a λok=>?_) (λq4=>?_);have:=(ok v d).1.2.2;omega;refine AC (λt=>a λok=>?_) (λq5=>?_);have:=(ok v d).1.2.2;omega;refine AC (λt=>a λok=>?_) (λq6=>?_);have:=(ok v d).1.2.2;omega;have q0:Io v/\be v=true/\x.1<=v.1/\v.1<=x.2.1/\x.2.2.1<=v.2.2.2.2.2.2.1.1/\v.2.2.2.2.2.2.1.1<=x.2.2.2.1:=⟨q1,q2,o!⟩
 apply AC<;>intro L;have M:wi ((k:Int)-1)=((k-1:Nat):Int):=by rw[Aa];omega
 have F:k-1<x.2.2.2.2.2.length:=o!
 have w:ix x.2.2.2.2.2 (wi ((k:Int)-1))=some (x.2.2.2.2.2[k-1]):=by rw[M];unfold ix;rw[if_pos o!,Dl,Au F]
 have n:x.2.2.2.2.2[k-1]? =some (x.2.2.2.2.2[k-1]):=Au F;generalize x.2.2.2.2.2[k-1]=f at w n;obtain⟨c,y,p,K⟩:=ADv f v;rw[w,AD,y,AD];refine AC (λt=>a λok=>?_) (λt=>?_);have:=p.2 ((ok v d).2.2 f o! n).1;omega;have q7:=p.1 o!;rw[decide_eq_true o!,cond_true,AD];refine AA (P:=λr:Bool ⊕ Unit=>(r= .inl false/\ ¬uS x k)\/(r= .inr ()/\uS x k)) ?_ λr hr=>?_;apply AQ<;>intro m;rw[AD];refine AM (λhn=>AB (.inl ⟨rfl,λok=>hn (((ok v d).2.2 f o! n).2.1 m)⟩)) (λhn=>AB (.inr ⟨rfl,λe g=>?_⟩));rw[d]at g;injection g with g;subst g;refine⟨q0,λo=>absurd o o!,λI _ b=>?_⟩;rw[n]at b;injection b with b;subst b;exact⟨q7,λ_=>hn,λu=>absurd m u⟩;refine AC (λhn=>AB (.inl ⟨rfl,λok=>?_⟩)) (λhn=>AB (.inr ⟨rfl,λe g=>?_⟩));have:=((ok v d).2.2 f o! n).2.2 m;omega;rw[d]at g;injection g with g;subst g;refine⟨q0,λo=>absurd o o!,λI _ b=>?_⟩;rw[n]at b;injection b with b;subst b;exact⟨q7,λu=>absurd u m,λ_=>o!⟩;rcases hr with⟨rfl,hr⟩|⟨rfl,hr⟩;exact BK (a hr);exact A4 (j hr);rw[decide_eq_false L,cond_false];have B:k=0:=o!
 apply Bf;apply AC<;>intro hn;rw[AD];refine BK (a λok=>?_);have:=(ok v d).2.1 B;omega;rw[AD];refine A4 (j λe g=>?_);rw[d]at g;injection g with g;subst g;exact⟨q0,λ_=>o!,λf o=>absurd o o!⟩
def WP{x:AS}:As (EA x) λr=>r=true↔VR x:=by unfold EA;refine AA IQ λf c=>AP (λb=>AB ⟨λa=>(by cases a),λa=>?_⟩) (λb=>?_);obtain⟨⟨a1,a2,a3,a4,a5,a6,a7,a8,a9⟩,_⟩:=a;have:=c.2 ⟨a1,a2,a3,a4,a5,a6,a7,a8⟩;rw[b]at this;cases this;have hn:=c.1 b;dsimp only at hn;refine AC (λd=>AB ⟨λa=>(by cases a),λa=>?_⟩) (λe=>?_);have:=a.1.2.2.2.2.2.2.2.2;simp only[len]at d;omega;simp only[len]at e;refine AA (wJ o!) λr hr=>?_;rcases hr with⟨rfl,hr⟩|⟨rfl,hr⟩;exact BK (AB ⟨λa=>(by cases a),λa=>absurd a.2 hr⟩);exact A4 (AB ⟨λ_=>⟨⟨hn.1,hn.2.1,hn.2.2.1,hn.2.2.2.1,hn.2.2.2.2.1,hn.2.2.2.2.2.1,hn.2.2.2.2.2.2.1,hn.2.2.2.2.2.2.2,o!⟩,hr⟩,λ_=>rfl⟩)
abbrev NE:=Az
def lN(x y:NE):Bool:=decide (x.1.2.2.1<y.1.2.2.1\/(x.1.2.2.1=y.1.2.2.1/\(x.1.1<y.1.1\/(x.1.1=y.1.1/\x.2<y.2))))
def qV:Sort.SWO lN where
 irrefl x:=by simp[lN]
 trans x y z h1 h2:=by simp[lN,decide_eq_true_eq]at*;omega
 ntrans x y z h1 h2:=by simp[lN,decide_eq_false_iff_not]at*;omega
def lO{l:List Int}{k:Nat}{v:Int}(h:l[k]? =some v)(b:k<1000)(c:l.length<1000):Aj (Jv l) (k:Int)=if v=0 then Aj (Jv l) ((k+1:Nat):Int)else some (.inl v):=by
 rw[G5];have a:=(Kb.1 h).1;have d:decide ((k:Int)<len l)=true:=w!
 have e:ix l (k:Int)=some v:=by unfold ix;rw[if_pos o!];simpa using h
 grind[wip,Jv]
def AF9(a b c:Int):KC [a,b,c]=some (if a≠0 then a else if b≠0 then b else c):=by unfold KC;rw[show(0:Int)=((0:Nat):Int)from rfl,lO (k:=0) (v:=a) rfl o! k!];by_cases d:a=0;rw[if_pos d,lO (k:=1) (v:=b) rfl o! k!];by_cases e:b=0;rw[if_pos e,lO (k:=2) (v:=c) rfl o! k!];grind[G5,Jv];rw[if_neg e];simp[d,e];rw[if_neg d];simp[d]
def ADb(x y:NE): ∃v,Hm (x,y)=some v/\decide (v<0)=lN x y:=by
 unfold Hm;dsimp only;simp only[wW,AD,AF9];refine⟨_,rfl,?_⟩;unfold lN;apply decide_eq_decide.2;repeat' split
 all_goals omega
section
variable {α:Type} [Inhabited α]
theorem wh{d:Array α}{i:Int}{k:Nat}(a:i=k)(b:k<d.size:=by omega):ix d.toList i=some d[k]! :=by subst a;unfold ix;rw[if_pos (by omega)];simp[b]
omit [Inhabited α] in
theorem AFE{d:Array α}{i:Int}{k:Nat}(a:i=k)(x:α):F6 d.toList i x=(d.setIfInBounds k x).toList:=by subst a;unfold F6;simp
def ADk{d:Array α}{i j:Int}{a b:Nat}(c:i=a)(e:j=b):F6 (F6 d.toList i d[b]!) j d[a]! =(Sort.swp d a b).toList:=by rw[AFE c,AFE e];rfl
def AC7{d:Array α}{i j:Int}{a b:Nat}{x:α}(e:i=a)(f:j=b)(c:b<d.size:=by omega):ix (F6 d.toList i x) j=some (d.setIfInBounds a x)[b]! :=by grind[AFE,wh]
theorem gR(lt:α->α->Bool)(k:Nat): ∀(j:Nat) (d:Array α),(Sort.insInner lt k j d).size=d.size
 |0,_=>rfl
 |j+1,d=>by unfold Sort.insInner;split;rw[gR lt k j,Sort.size_swp];rfl
end
theorem yI{a b:Int}{k:Nat}(g:a=k): ∀(j:Nat) (d:Array NE),j<d.size->d.size<=16777216->Aj (DZ (a,b)) ((j:Int),d.toList)=some (Sort.insInner lN k j d).toList
 |0,d,hj,hd=>by
  rw[G5];have:decide (((0:Nat):Int)>a)=false:=by simp;omega
  simp only[DZ,this,cond_false];rfl
 |j+1,d,hj,hd=>by
  rw[G5];have⟨v,e,f⟩:=ADb d[j+1]! d[j]!;simp only[DZ,(by grind[lW]:wi (((j+1:Nat):Int)-1)=(j:Int)),(wh rfl hj),(wh rfl:ix d.toList (j:Int)=some d[j]!),(AC7 rfl rfl:ix (F6 d.toList ((j+1:Nat):Int) d[j]!) (j:Int)=some (d.setIfInBounds (j+1) d[j]!)[j]!),AD,e,f,ADk (d:=d) (a:=j+1) (b:=j) rfl rfl];unfold Sort.insInner;by_cases c:j+1>k;have:decide (((j+1:Nat):Int)>a)=true:=by simp;omega
  rw[this];cases h:lN d[j+1]! d[j]! with
  |true=>simp[cond_true,c,decide_true,WQ,if_true];exact yI g j _ (by rw[Sort.size_swp];omega) (by rw[Sort.size_swp];omega)
  |false=>simp[c]
  have:decide (((j+1:Nat):Int)>a)=false:=by simp;omega
  rw[this];simp[c]
def AA8{a b:Int}{k m:Nat}(g:a=k)(h:b=m): ∀(n i:Nat) (d:Array NE),m-i<=n->m<=d.size->d.size<=16777216->Aj (DY (a,b)) ((i:Int),d.toList)=some (Sort.insOuter lN k m i d).toList:=by
 intro n;induction n with
 |zero=>grind[G5,Sort.insOuter,DY]
 |succ n j=>intro i d c e f;rw[G5,Sort.insOuter];grind[lW,gR,DY,yI]
def yH{d:Array NE}{a b:Int}{k m:Nat}(c:a=k)(e:b=m)(g:m<=d.size)(h:k<=m)(f:d.size<=16777216):C4 d.toList (a,b)=some (Sort.insertionSort lN d k m).toList:=by unfold C4;dsimp only;rw[(by grind[lW]:wi (a+1)=((k+1:Nat):Int)),AA8 c e (m-(k+1)) (k+1) d o! g f];rfl
def z6(a b n:Nat)(d:Array NE)(k:Nat):NE:=if a<=k/\k<a+n then d[b+(k-a)]! else if b<=k/\k<b+n then d[a+(k-b)]! else d[k]!
def uN{d:Array NE}{a b n:Nat}(f:a+n≤b)(l:b+n≤d.size)(m:d.size≤16777216):
  As (Cq d.toList ((a:Int),((b:Int),(n:Int)))) λr=> ∃e:Array NE,r=e.toList/\e.size=d.size/\ ∀k,k<d.size->e[k]! =z6 a b n d k:=by
 unfold Cq;refine AA (P:=λr=> ∃e:Array NE,r=e.toList/\e.size=d.size/\ ∀k,k<d.size->e[k]! =z6 a b n d k) ?_ λr h=>AB h;refine AV (λ(s:Int×List NE)=> ∃(t:Nat) (e:Array NE),s.1=t/\s.2=e.toList/\t<=n/\e.size=d.size/\ ∀k,k<d.size->e[k]! =z6 a b t d k) (λs=>n-s.1.toNat) ⟨0,d,rfl,rfl,Bi _,rfl,λk _=>by unfold z6;rw[if_neg (by omega),if_neg (by omega)]⟩ ?_;rintro⟨q,u⟩ ⟨t,e,q1,q2,q3,q4,q5⟩;dsimp only at q1 q2;subst q1 q2;unfold Hd;dsimp only;refine AC (λg=>?_) (λg=>AB ⟨e,rfl,q4,?_⟩);have o:t<n:=by omega
 simp only[(by grind[lW]:wi ((b:Int)+(t:Int))=((b+t:Nat):Int)),(by grind[lW]:wi ((a:Int)+(t:Int))=((a+t:Nat):Int)),(wh rfl:ix e.toList ((b+t:Nat):Int)=some e[b+t]!),(wh rfl:ix e.toList ((a+t:Nat):Int)=some e[a+t]!),(AC7 rfl rfl:ix (F6 e.toList ((a+t:Nat):Int) e[b+t]!) ((b+t:Nat):Int)=some (e.setIfInBounds (a+t) e[b+t]!)[b+t]!),AD,wip (i:=t),ADk (d:=e) (a:=a+t) (b:=b+t) rfl rfl];refine AB ⟨⟨t+1,_,rfl,rfl,by omega,by rw[Sort.size_swp,q4],λk j=>?_⟩,?_⟩;rw[Sort.swp_get e (by omega) (by omega)];rw[(q5 (a+t) (by omega)),(q5 (b+t) (by omega)),(q5 k j)];unfold z6;by_cases k1:k=a+t;subst k1;rw[if_neg (by omega),if_pos rfl,if_neg (by omega),if_neg (by omega),if_pos (by omega)];exact congrArg (λz=>d[z]!) (by omega);by_cases c:k=b+t;subst c;rw[if_pos rfl,if_neg (by omega),if_neg (by omega),if_neg (by omega),if_pos (by omega)];exact congrArg (λz=>d[z]!) (by omega);rw[if_neg c,if_neg k1];by_cases p:a<=k/\k<a+t<;>grind;show n-((t+1:Nat):Int).toNat<n-((t:Nat):Int).toNat
 omega;have:t=n:=by omega
 rw[<-this];exact q5
def bf(x:AS):BY:=[80,77,82,78]++(C8 x.1 8++(C8 x.2.1 8++(C8 x.2.2.1 4++(C8 x.2.2.2.1 4++(C8 x.2.2.2.2.1 1++C8 (x.2.2.2.2.2.length:Int) 4)))))
def Mk(x:AS):BY:=HM (bf x)++KB x.2.2.2.2.2
theorem YL(x:AS):(bf x).length=33:=rfl
def Zn.inr{x:AS}(h:Zn x):Zk 8 x.1/\Zk 8 x.2.1/\Zk 4 x.2.2.1/\Zk 4 x.2.2.2.1/\Zk 1 x.2.2.2.2.1/\Zk 4 (x.2.2.2.2.2.length:Int):=by have⟨a1,a2,a3,a4,a5,a6,a7,a8,a9⟩:=h;grind[Zk]
def VR.len{x:AS}(h:VR x):(Mk x).length<=34406441:=by have b:=oH (l:=x.2.2.2.2.2) λe a=>(h.ent a).1;have c:=h.1.2.2.2.2.2.2.2.2;grind[Mk,List.length_append,Ef,YL]
def ACJ{x:AS}(h:Zn x):HU x=some (bf x):=by unfold HU;rw[Ha k! g! g!,AD];rw[Ha (by simp only[Ag,A0];simp) g! g!,AD];rw[Ha (by simp only[Ag,A0];simp) g! g!,AD];rw[Ha (by simp only[Ag,A0];simp) g! g!,AD];rw[Ha (by simp only[Ag,A0];simp) g! g!,AD];rw[Ha (by simp only[Ag,A0];simp) g! g!,AD];rfl
def nD{x:AS}(h:VR x):GY x=some (Mk x,0):=by
 have q:=h.1.2.2.2.2.2.2.2.2;have⟨b,g,d⟩:=WP (x:=x);have c:=d.2 h;subst c;unfold GY;rw[g,AD,Cm,cond_false,ACJ h.1,AD,Zj (by rw[YL];decide),AD];have key:As (Aj (Lz x) (HM (bf x),0)) λr=>r=Mk x:=by
  refine Cv (λ(s:BY×Int)=> ∃k:Nat,s.2=k/\k<=x.2.2.2.2.2.length/\s.1=HM (bf x)++KB (x.2.2.2.2.2.take k)) (λs=>x.2.2.2.2.2.length-s.2.toNat) ⟨0,rfl,Bi _,by simp[KB]⟩ ?_;rintro⟨y,z⟩ ⟨k,o,u,p⟩;subst o p;unfold Lz;simp only[len];refine AC (λf=>?_) (λf=>As.done (by rw[BQ o!];rfl));refine AA (AI o! f) λv d=>?_;have a:=(h.ent d.2).1;have m:=RU a;have j:=oH (l:=x.2.2.2.2.2.take k) λe i=>(h.ent (Fl i)).1;have n:(x.2.2.2.2.2.take k).length<=4096:=q!
  rw[nC a,AD,Zj m,AD];refine AA (CA (by rw[Ag,Ef,Ef,YL];omega)) λw t=>?_;rw[Aa];refine As.next ⟨k+1,q!,o!,?_⟩ q!
  grind[Int.toNat_natCast,List.take_add_one,Option.toList_some,RW,List.append_assoc]
 obtain⟨r,hr,rfl⟩:=key;rw[hr];rfl
def WR(x:AS):Prop:=Zn x/\ ∀e∈x.2.2.2.2.2,FA e.2.2.2.2.2.2.1.2.2.1/\FA e.2.2.2.2.2.2.1.2.2.2/\e.2.2.2.2.2.2.2=[]
def AAf{e:EN}(h:Io e)(b:be e=true):e.2.2.2.2.2.2.2=[]:=by
 have a:e.2.1=1\/e.2.1=2:=by grind[be]
 have⟨_,_,_,_,_,_,_,_,c⟩:=h;grind[UA]
def VR.wr{x:AS}(h:VR x):WR x:=⟨h.1,λe b=>by have a:=h.ent b;exact⟨a.1.cells.1,a.1.cells.2.1,AAf a.1 a.2.1⟩⟩
def zY{e:EN}(h:GK e=some true)(g:be e=true):e.2.2.2.2.2.2.2=[]:=by
 have f:e.2.1=1\/e.2.1=2:=by unfold be at g;simpa using g
 have key: ∀r,GK e=some r->r=true->e.2.2.2.2.2.2.2=[]:=by
  have c:MT false (GK e) λr=>r=true->e.2.2.2.2.2.2.2=[]:=by
   have p: ∀{Q:Bool->Prop},(∀r,r=false->Q r)->MT false (some false) Q:=λn=>MT.some (n _ rfl);have a:MT false (some false) λr=>r=true->e.2.2.2.2.2.2.2=[]:=MT.some λb=>by cases b
   unfold GK;refine MT.dec (λ_=>a) λ_=>MT.dec (λ_=>a) λ_=>MT.dec (λ_=>a) λ_=>MT.dec (λ_=>a) λ_=>MT.bind (gD Kc) λq _=>MT.cond (λ_=>a) λ_=>MT.bind (gD Kc) λs _=>MT.cond (λ_=>a) λ_=>MT.bind (gD Kc) λt _=>MT.cond (λ_=>a) λ_=>MT.dec (λi=>absurd i o!) λ_=>MT.dec (λj=>?_) λj=>?_;refine MT.dec (λ_=>a) λ_=>MT.bind (P:=λ_=>True) (MT.dec (λ_=>MT.some trivial) λ_=>MT.some trivial) λo _=>MT.cond (λ_=>a) λ_=>MT.bind (P:=λr=>r=false->e.2.2.2.2.2.2.2=[]) ?_ λu l=>?_;refine MT.cond (λm=>MT.some λb=>?_) λ_=>MT.some λb=>?_;rw[m]at b;cases b;simpa using b;refine MT.cond (λ_=>a) λb=>?_;exact⟨λd=>(by cases d),λr _ _=>l b⟩;refine MT.dec (λk=>?_) λk=>absurd f o!;refine MT.dec (λ_=>a) λ_=>MT.bind (P:=λ_=>True) (MT.dec (λ_=>MT.some trivial) λ_=>MT.some trivial) λo _=>MT.cond (λ_=>a) λ_=>MT.cond (λ_=>a) λb=>?_;exact⟨λd=>(by cases d),λr _ _=>by simpa using b⟩
  exact c.2
 exact key true h rfl
def xA{e:EN}:BF e=some (be e):=by unfold BF be;grind
def vW{x:AS}:As (L7 x) λr=>r=true↔1<=x.1/\x.1<=x.2.1/\x.2.1<=1099511627776/\0<=x.2.2.1/\x.2.2.1<=x.2.2.2.1/\x.2.2.2.1<64/\0<=x.2.2.2.2.1/\x.2.2.2.2.1<=8:=by
 unfold L7;exact x!
def za{x:AS}{e:EN}:As (PN (x,e)) λr=>r=true↔be e=true/\x.2.2.1<=e.2.2.2.2.2.2.1.1/\e.2.2.2.2.2.2.1.1<=x.2.2.2.1/\x.1<=e.1/\e.1<=x.2.1:=by
 unfold PN;rw[xA,AD];refine AL (λa=>?_) (λa=>AB ⟨λb=>(by cases b),λb=>q!⟩);exact x!
def AE5(a b:Int):KC [a,b]=some (if a≠0 then a else b):=by unfold KC;rw[show(0:Int)=((0:Nat):Int)from rfl,lO (k:=0) (v:=a) rfl o! k!];by_cases c:a=0;rw[if_pos c,lO (k:=1) (v:=b) rfl o! k!];grind[G5,Jv];grind
def xB(f e:EN): ∃c:Int,OB (f,e)=some c/\(c<0↔wu f e):=by unfold OB;rw[wW,wW,AD,AD,AE5,AD];unfold wu;grind
def zZ{x:AS}(I:x.2.2.2.2.2.length<=4096):As (Aj (R2 x) 0) λr=>(r= .inl false/\ ¬ ∀i,uS x i)\/(r= .inr ()/\ ∀e∈x.2.2.2.2.2,be e=true/\e.2.2.2.2.2.2.2=[]):=by
 refine Cv (λ(s:Int)=>0<=s/\s<=x.2.2.2.2.2.length/\ ∀e∈x.2.2.2.2.2.take s.toNat,be e=true/\e.2.2.2.2.2.2.2=[]) (λ(s:Int)=>((x.2.2.2.2.2.length:Int)-s).toNat) ⟨Ae _,o!,λe p=>by simp at p⟩ (λs C=>?_);have⟨w,J,y⟩:=C;unfold R2;simp only[len];refine AC (λu=>?_) (λu=>As.done (.inr ⟨rfl,by rw[BQ o!]at y;exact y⟩));obtain⟨k,rfl⟩:=EM w;refine AA (AI w u) λv d=>?_;have d:=d.1;rw[Dl]at d;have a:(uS x k->False)->As (some (Step.done (.inl false)):Option (Step Int (Bool ⊕ Unit))) (Nb (λ(s:Int)=>0<=s/\s<=x.2.2.2.2.2.length/\ ∀e∈x.2.2.2.2.2.take s.toNat,be e=true/\e.2.2.2.2.2.2.2=[]) (λ(s:Int)=>((x.2.2.2.2.2.length:Int)-s).toNat) ((x.2.2.2.2.2.length:Int)-(k:Int)).toNat λr=>(r= .inl false/\ ¬ ∀i,uS x i)\/(r= .inr ()/\ ∀e∈x.2.2.2.2.2,be e=true/\e.2.2.2.2.2.2.2=[])):=λh=>As.done (.inl ⟨rfl,λD=>h (D k)⟩);refine Dx G7 λG z B=>AP (λj=>a λok=>?_) (λj=>?_);have:=B (ok v d).1.1;rw[j]at this;cases this;refine AA za λH t=>AP (λj=>a λok=>?_) (λm=>?_);have q:=(ok v d).1;have:=t.2 ⟨q.2.1,q.2.2.2.2.1,q.2.2.2.2.2,q.2.2.1,q.2.2.2.1⟩;rw[j]at this;cases this;have q3:=zY (by rw[z,j]) ((t.1 m).1);have b:As (some (Step.next (wi ((k:Int)+1))):Option (Step Int (Bool ⊕ Unit))) (Nb (λ(s:Int)=>0<=s/\s<=x.2.2.2.2.2.length/\ ∀e∈x.2.2.2.2.2.take s.toNat,be e=true/\e.2.2.2.2.2.2.2=[]) (λ(s:Int)=>((x.2.2.2.2.2.length:Int)-s).toNat) ((x.2.2.2.2.2.length:Int)-(k:Int)).toNat λr=>(r= .inl false/\ ¬ ∀i,uS x i)\/(r= .inr ()/\ ∀e∈x.2.2.2.2.2,be e=true/\e.2.2.2.2.2.2.2=[])):=by
  rw[Aa];refine As.next ⟨o!,o!,λe p=>?_⟩ o!
  rw[show((k:Int)+1).toNat=k+1 by omega,Ct,d]at p;grind[Option.toList_some,List.mem_singleton]
 have F: ∀f,0<k->x.2.2.2.2.2[k-1]? =some f->ix x.2.2.2.2.2 (wi ((k:Int)-1))=some f:=λf A g=>by rw[show wi ((k:Int)-1)=((k-1:Nat):Int) by rw[Aa];omega];unfold ix;grind[Int.toNat_natCast]
 apply AQ<;>intro A;refine AC (λo=>a λok=>?_) (λ_=>b);have:=(ok v d).2.1 o!;omega;have g:x.2.2.2.2.2[k-1]? =some (x.2.2.2.2.2[k-1]):=Au o!;generalize x.2.2.2.2.2[k-1]=f at g;rw[F f o! g,AD];apply AC<;>intro E;refine AC (λo=>a λok=>?_) (λ_=>b);have:=((ok v d).2.2 f o! g).2.2 o!;omega;have⟨c,n,l⟩:=xB f v;rw[AD,n,AD];refine AC (λo=>a λok=>?_) (λo=>?_);have:=l.2 ((ok v d).2.2 f o! g).1;omega;refine AM (λhn=>a λok=>hn ?_) (λ_=>b);have:=l.1 o!;unfold wu at this;exact((ok v d).2.2 f o! g).2.1 o!
def vX{x:AS}:As (Tu x) λr=>(VR x->r=true)/\(r=true->Zn x/\ ∀e∈x.2.2.2.2.2,be e=true/\e.2.2.2.2.2.2.2=[]):=by refine AA vW λg c=>AP (λb=>AB ⟨λa=>?_,λa=>(by cases a)⟩) (λb=>?_);have⟨⟨a1,a2,a3,a4,a5,a6,a7,a8,a9⟩,_⟩:=a;grind;have hn:=c.1 b;refine AC (λf=>AB ⟨λa=>?_,λa=>(by cases a)⟩) (λd=>?_);have:=a.1.2.2.2.2.2.2.2.2;grind;simp[len]at d;refine AA (zZ o!) λr hr=>?_;rcases hr with⟨rfl,hr⟩|⟨rfl,hr⟩;exact BK (AB ⟨λa=>absurd a.2 hr,λa=>(by cases a)⟩);exact A4 (AB ⟨λ_=>rfl,λ_=>⟨⟨hn.1,hn.2.1,hn.2.2.1,hn.2.2.2.1,hn.2.2.2.2.1,hn.2.2.2.2.2.1,hn.2.2.2.2.2.2.1,hn.2.2.2.2.2.2.2,o!⟩,hr⟩⟩)
def vd{p:BY}(h:p.length=33):ID (p,([80,77,82,78]:List UInt8))=some (p.take 4==[80,77,82,78]):=by grind[ID,Fw,RF,Option.bind]
abbrev ZR:=Int×(Int×(Int×(Int×(Int×AS))))
def re{p:BY}(x:p.length=33)(t:p.take 4=[80,77,82,78]): ∃b c d e f a:Int,(Ay (p,(4,8))=some (b,0)∧Ay (p,(12,8))=some (c,0)∧Ay (p,(20,4))=some (d,0)∧Ay (p,(24,4))=some (e,0)∧Ay (p,(28,1))=some (f,0)∧Ay (p,(29,4))=some (a,0))∧
  (CU (p,(4,8))=some (b,0)/\CU (p,(12,8))=some (c,0)/\CU (p,(20,4))=some (d,0)/\CU (p,(24,4))=some (e,0)/\CU (p,(28,1))=some (f,0)/\CU (p,(29,4))=some (a,0))/\
  p=[80,77,82,78]++(C8 b 8++(C8 c 8++(C8 d 4++(C8 e 4++(C8 f 1++C8 a 4)))))/\0<=a:=by
 have D:(p.drop 4).length=29:=by rw[FJ];omega
 have⟨b,J,a2,g,n,y,l2⟩:=zM (k:=8) (at_:=4) (by rw[<-t,Di]:p=[80,77,82,78]++p.drop 4) g! o! g! g! o!;have⟨c,K,a3,h,o,z,E⟩:=zM (k:=8) (at_:=12) n (by simp only[Ag,A0];decide) o! g! g! o!;have⟨d,L,a4,i,q,A,F⟩:=zM (k:=4) (at_:=20) o (by simp only[Ag,A0];decide) o! g! g! o!;have⟨e,M,a5,j,r,B,G⟩:=zM (k:=4) (at_:=24) q (by simp only[Ag,A0];decide) o! g! g! o!;have⟨f,N,a6,l,s,C,H⟩:=zM (k:=1) (at_:=28) r (by simp only[Ag,A0];decide) o! g! g! o!;have⟨a,v,a7,m,w,u,I⟩:=zM (k:=4) (at_:=29) s (by simp only[Ag,A0];decide) o! g! g! o!;have:v=[]:=EP o!;subst this;refine⟨b,c,d,e,f,a,⟨a2,a3,a4,a5,a6,a7⟩,⟨g,h,i,j,l,m⟩,?_,(u.1 g!).1⟩;grind[List.append_assoc]
def vE{x:AS}(h:Zn x):(Ay (bf x,(4,8))=some (x.1,0)∧Ay (bf x,(12,8))=some (x.2.1,0)∧Ay (bf x,(20,4))=some (x.2.2.1,0)∧Ay (bf x,(24,4))=some (x.2.2.2.1,0)∧Ay (bf x,(28,1))=some (x.2.2.2.2.1,0)∧Ay (bf x,(29,4))=some ((x.2.2.2.2.2.length:Int),0))∧
  (CU (bf x,(4,8))=some (x.1,0)/\CU (bf x,(12,8))=some (x.2.1,0)/\CU (bf x,(20,4))=some (x.2.2.1,0)/\CU (bf x,(24,4))=some (x.2.2.2.1,0)/\CU (bf x,(28,1))=some (x.2.2.2.2.1,0)/\CU (bf x,(29,4))=some ((x.2.2.2.2.2.length:Int),0)):=by
 have⟨i,j,l,m,n,o⟩:=h.inr;have q:=YL x;have a:bf x=[80,77,82,78]++(C8 x.1 8++(C8 x.2.1 8++(C8 x.2.2.1 4++(C8 x.2.2.2.1 4++(C8 x.2.2.2.2.1 1++(C8 (x.2.2.2.2.2.length:Int) 4++[])))))):=by rw[Db];rfl
 generalize bf x=p at*;have b:=gN (k:=8) (at_:=4) a g! o! g! g! i;rw[<-A2]at a;have c:=gN (k:=8) (at_:=12) a (by simp only[Ag,A0];decide) o! g! g! j;rw[<-A2]at a;have d:=gN (k:=4) (at_:=20) a (by simp only[Ag,A0];decide) o! g! g! l;rw[<-A2]at a;have e:=gN (k:=4) (at_:=24) a (by simp only[Ag,A0];decide) o! g! g! m;rw[<-A2]at a;have f:=gN (k:=1) (at_:=28) a (by simp only[Ag,A0];decide) o! g! g! n;rw[<-A2]at a;have g:=gN (k:=4) (at_:=29) a (by simp only[Ag,A0];decide) o! g! g! o;exact⟨⟨b.1,c.1,d.1,e.1,f.1,g.1⟩,⟨b.2,c.2,d.2,e.2,f.2,g.2⟩⟩
def AGE{x p:BY}{n:Int}{z:ZR}{j:BY}(D:x.length≤1099511627776)(l:x=HM p++j)(hn:0≤n)(o:n≤4096):As (Aj (Gb x n) (((HM p).length:Int),(0,([],z)))) λr=>(∃u,r= .inl u∧u.1≠0)∨
  ∃a b,r= .inr (((HM p++KB a).length:Int),(a,z))/\(a.length:Int)=n/\x=(HM p++KB a)++b/\ ∀e∈a,FA e.2.2.2.2.2.2.1.2.2.1/\FA e.2.2.2.2.2.2.1.2.2.2:=by
 refine Cv (λ(s:Int×(Int×(List EN×ZR)))=> ∃a b,s=(((HM p++KB a).length:Int),((a.length:Int),(a,z)))/\(a.length:Int)<=n/\x=(HM p++KB a)++b/\ ∀e∈a,FA e.2.2.2.2.2.2.1.2.2.1/\FA e.2.2.2.2.2.2.1.2.2.2) (λs=>(n-s.2.1).toNat)
  ⟨[],j,by simp[KB],by simpa using hn,by simpa[KB]using l,λe c=>by cases c⟩ ?_
 rintro s ⟨a,b,rfl,E,h,i⟩;unfold Gb;dsimp only;refine AC (λm=>?_) (λm=>As.done (.inr ⟨a,b,rfl,o!,h,i⟩));have g:=congrArg List.length h;rw[Ag]at g;rw[(by grind[R6]:BZ (x,((HM p++KB a).length:Int))=some (UF (HM p++KB a).length b)),AD];refine AM (λc=>As.done (.inl ⟨_,rfl,c⟩)) (λc=>?_);have⟨H,⟨d,t⟩,I⟩:=uX c;refine AA (AFI o!) λv q=>AM (λc=>As.done (.inl ⟨_,rfl,c⟩)) (λf=>?_);have⟨y,A,B,J,K⟩:=q f;refine AA (Ac w!) λw C=>?_;have k:HM p++KB (a++[v.1])=(HM p++KB a)++HM (B4 v.1):=by rw[RW,A2]
 rw[Aa];refine As.next ⟨a++[v.1],d,?_,by rw[Ag,Bo,Ba];omega,?_,λe c=>?_⟩ d!
 have F:((HM p++KB (a++[v.1])).length:Int)=((HM p++KB a).length:Int)+8+((UF (HM p++KB a).length b).1.length:Int):=by grind[List.length_append,HM,KB,Ef]
 have G:((a++[v.1]).length:Int)=(a.length:Int)+1:=by grind[List.length_append,List.length_cons,List.length_nil]
 grind[Prod.ext];rw[k,<-y,A2,<-t];exact h;rcases Ao.1 c with c|c;exact i e c;rw[BC.1 c];exact⟨A,B⟩
def AFJ{x:BY}(w:x.length<=1099511627776):As (FX x) λr=>r.2=0->x=Mk r.1/\VR r.1:=by unfold FX;have q:BZ (x,0)=some (UF 0 x):=R6 (a:=[]) (t:=x) w!;rw[q,AD];refine AM (λh=>AB λb=>absurd b h) (λh=>?_);have⟨Q,⟨P,z⟩,A⟩:=uX h;generalize UF 0 x=v0 at*;refine AM (λ_=>AB λb=>absurd (show(4:Int)=0 from b) g!) (λg=>?_);simp[len]at g;rw[(by grind[RF]:RF v0.1 0 4=some (v0.1.take 4)),AD];refine AM (λ_=>AB λb=>absurd (show(4:Int)=0 from b) g!) (λm=>?_);have⟨K,L,M,N,O,y,⟨a2,a3,a4,a5,a6,a7⟩,⟨C,D,E,F,G,H⟩,J,j⟩:=re (by omega:v0.1.length=33) (by simpa using m);unfold BX;rw[a2,a3,a4,a5,a6,a7];simp only[AD];refine AC (λ_=>AB λb=>absurd (show(4:Int)=0 from b) g!) (λo=>?_);rw[(by rw[A,Ef];omega:v0.2.1=((HM v0.1).length:Int))];refine AA (AGE (n:=y) w z j (by first|omega|(dsimp only;omega))) λr hr=>?_;rcases hr with⟨u,rfl,s⟩|⟨I,e,rfl,i,k,p⟩;grind[BK,AB];apply A4;dsimp only at i⊢;have l:=congrArg List.length k;rw[Ag]at l;refine AM (λ_=>AB λb=>absurd (show(4:Int)=0 from b) g!) (λd=>?_);have c:e=[]:=EP (by simp only[len]at d;omega);subst c;refine AA (WP) λB f=>AP (λ_=>AB λb=>absurd (show(40:Int)=0 from b) g!) (λv=>AB λ_=>⟨?_,f.1 v⟩);grind[Mk,bf]
def uF{x:AS}(h:VR x):FX (Mk x)=some (x,0):=by
 have D:=h.1.2.2.2.2.2.2.2.2;have j:=h.len;have o:=YL x;have⟨⟨a2,a3,a4,a5,a6,a7⟩,⟨v,y,z,A,B,C⟩⟩:=vE h.1;unfold FX;have p:BZ (Mk x,0)=some (bf x,(((HM (bf x)).length:Int),0)):=by refine(R6 (a:=[]) (t:=Mk x) w!).trans (congrArg some ?_);grind[Mk,jN,Ef,Prod.ext,List.length_nil]
 have l:(bf x).take 4=[80,77,82,78]:=rfl;rw[p,AD];dsimp only[len];rw[show((0:Int) !=0)=false by decide,cond_false,o,show(((33:Nat):Int) !=33)=false by decide,cond_false];rw[(by grind[RF]:RF (bf x) 0 4=some ((bf x).take 4)),AD,l,bne_self_eq_false,cond_false];unfold BX;rw[a2,a3,a4,a5,a6,a7];simp only[AD];rw[decide_eq_false o!,cond_false];have key:As (Aj (Gb (Mk x) (x.2.2.2.2.2.length:Int)) (((HM (bf x)).length:Int),(0,([],(x.1,(x.2.1,(x.2.2.1,(x.2.2.2.1,(x.2.2.2.2.1,(0,(0,(0,(0,(0,[])))))))))))))) λr=>r= .inr (((Mk x).length:Int),(x.2.2.2.2.2,(x.1,(x.2.1,(x.2.2.1,(x.2.2.2.1,(x.2.2.2.2.1,(0,(0,(0,(0,(0,[])))))))))))):=by
  refine Cv (λ(s:Int×(Int×(List EN×ZR)))=> ∃k:Nat,k<=x.2.2.2.2.2.length/\s=(((HM (bf x)++KB (x.2.2.2.2.2.take k)).length:Int),((k:Int),(x.2.2.2.2.2.take k,(x.1,(x.2.1,(x.2.2.1,(x.2.2.2.1,(x.2.2.2.2.1,(0,(0,(0,(0,(0,[])))))))))))))) (λs=>x.2.2.2.2.2.length-s.2.1.toNat)
   ⟨0,Bi _,by simp[KB]⟩ ?_
  rintro s ⟨k,F,rfl⟩;unfold Gb;dsimp only;refine AC (λn=>?_) (λn=>As.done ?_)
  ·have i:k<x.2.2.2.2.2.length:=o!
   have c:=(h.ent (PH i)).1;have e:KB x.2.2.2.2.2=KB (x.2.2.2.2.2.take k)++(HM (B4 x.2.2.2.2.2[k])++KB (x.2.2.2.2.2.drop (k+1))):=by grind[kp,List.drop_eq_getElem_cons,KB,List.flatten_append,List.take_append_drop]
   have d:Mk x=(HM (bf x)++KB (x.2.2.2.2.2.take k))++(HM (B4 x.2.2.2.2.2[k])++KB (x.2.2.2.2.2.drop (k+1))):=by grind[Mk,List.append_assoc]
   have g:=congrArg List.length d;rw[Ag]at g;have f:BZ (Mk x,((HM (bf x)++KB (x.2.2.2.2.2.take k)).length:Int))=some (B4 x.2.2.2.2.2[k],(((HM (bf x)++KB (x.2.2.2.2.2.take k)).length:Int)+8+((B4 x.2.2.2.2.2[k]).length:Int),0)):=by
    conv=>lhs;arg 1;rw[d]
    rw[R6 o!,jN (RU c)]
   rw[f,AD];dsimp only;rw[show((0:Int) !=0)=false by decide,cond_false,ABk c,AD];dsimp only;rw[show((0:Int) !=0)=false by decide,cond_false];refine AA (Ac (by rw[BR];simp;omega)) λw u=>?_;rw[Aa];refine As.next ⟨k+1,o!,?_⟩ d!
   rw[u.1,Ct,Au i,jY,RW,<-A2,Ag (bs:=HM (B4 x.2.2.2.2.2[k])),Ef];grind[Prod.ext]
  rw[BQ o!];rfl
 obtain⟨r,hr,rfl⟩:=key;rw[hr,AD,jZ];dsimp only;rw[show(((Mk x).length:Int) !=len (Mk x))=false from bne_self_eq_false _,cond_false];obtain⟨b,E,q⟩:=(WP)
 have m:b=true:=q.2 h;grind[Bool.not_true]
def AGB{x p:BY}{n:(Int×Int)}{z:ZR}{j:BY}(D:x.length≤1099511627776)(l:x=HM p++j)(hn:0≤n.1)(o:n.1≤4096):As (Aj (Ke x n) (((HM p).length:Int),(0,([],z)))) λr=>(∃u,r= .inl u∧u.1≠0)∨
  ∃a b,r= .inr (((HM p++KB a).length:Int),(a,z))/\(a.length:Int)=n.1/\x=(HM p++KB a)++b/\ ∀e∈a,FA e.2.2.2.2.2.2.1.2.2.1/\FA e.2.2.2.2.2.2.1.2.2.2:=by
 refine Cv (λ(s:Int×(Int×(List EN×ZR)))=> ∃a b,s=(((HM p++KB a).length:Int),((a.length:Int),(a,z)))/\(a.length:Int)<=n.1/\x=(HM p++KB a)++b/\ ∀e∈a,FA e.2.2.2.2.2.2.1.2.2.1/\FA e.2.2.2.2.2.2.1.2.2.2) (λs=>(n.1-s.2.1).toNat)
  ⟨[],j,by simp[KB],by simpa using hn,by simpa[KB]using l,λe c=>by cases c⟩ ?_
 rintro s ⟨a,b,rfl,E,h,i⟩;unfold Ke;dsimp only;refine AC (λm=>?_) (λm=>As.done (.inr ⟨a,b,rfl,o!,h,i⟩));have g:=congrArg List.length h;rw[Ag]at g;rw[(by grind[YR]:Fc (x,((HM p++KB a).length:Int))=some (UF (HM p++KB a).length b)),AD];refine AM (λc=>As.done (.inl ⟨_,rfl,c⟩)) (λc=>?_);have⟨H,⟨d,t⟩,I⟩:=uX c;refine AA (AE9 o!) λv q=>AM (λc=>As.done (.inl ⟨_,rfl,c⟩)) (λf=>?_);have⟨y,A,B,J,K⟩:=q f;refine AA (Ac w!) λw C=>?_;have k:HM p++KB (a++[v.1])=(HM p++KB a)++HM (B4 v.1):=by rw[RW,A2]
 rw[Aa];refine As.next ⟨a++[v.1],d,?_,by rw[Ag,Bo,Ba];omega,?_,λe c=>?_⟩ d!
 have F:((HM p++KB (a++[v.1])).length:Int)=((HM p++KB a).length:Int)+8+((UF (HM p++KB a).length b).1.length:Int):=by grind[List.length_append,HM,KB,Ef]
 have G:((a++[v.1]).length:Int)=(a.length:Int)+1:=by grind[List.length_append,List.length_cons,List.length_nil]
 grind[Prod.ext];rw[k,<-y,A2,<-t];exact h;rcases Ao.1 c with c|c;exact i e c;rw[BC.1 c];exact⟨A,B⟩
def AFB{x:BY}(H:x.length<=1099511627776):As (Ka x) λr=>r.2=0->x=Mk r.1/\WR r.1:=by
 unfold Ka;have E:Fc (x,0)=some (UF 0 x):=YR (a:=[]) (t:=x) w!;rw[E,AD];refine AM (λc=>AB λb=>absurd b c) (λc=>?_);have⟨U,⟨T,J⟩,K⟩:=uX c;generalize UF 0 x=v0 at*;refine AM (λ_=>AB λb=>absurd (show(4:Int)=0 from b) g!) (λk=>?_);simp[len]at k;have q:v0.1.length=33:=o!
 rw[vd q,AD];refine AP (λ_=>AB λb=>absurd (show(4:Int)=0 from b) g!) (λD=>?_);have⟨O,P,Q,R,S,I,⟨a2,a3,a4,a5,a6,a7⟩,⟨s,v,w,y,z,A⟩,N,m⟩:=re q (by simpa using D);rw[show wi (4+8)=12 from rfl,show wi (12+8)=20 from rfl,show wi (20+4)=24 from rfl,show wi (24+4)=28 from rfl,show wi (28+1)=29 from rfl];rw[s,v,w,y,z,A];simp only[AD];refine AP (λ_=>AB λb=>absurd (show(4:Int)=0 from b) g!) (λf=>?_);have f:=of_decide_eq_true f;rw[(by rw[K,Ef];omega:v0.2.1=((HM v0.1).length:Int))];refine AA (AGB (n:=(I,0)) H J m (by first|omega|(dsimp only;omega))) λr hr=>?_;rcases hr with⟨u,rfl,F⟩|⟨M,i,rfl,l,o,g⟩;grind[BK,AB];apply A4;dsimp only at l⊢;have p:=congrArg List.length o;rw[Ag]at p;refine AC (λ_=>AB λb=>absurd (show(4:Int)=0 from b) g!) (λh=>?_);have d:i=[]:=EP (by simp only[len]at h;omega);subst d;refine AA (vX) λL j=>AP (λ_=>AB λb=>absurd (show(40:Int)=0 from b) g!) (λG=>AB λ_=>⟨?_,?_⟩);grind[Mk,bf];have⟨B,C⟩:=j.2 G;exact⟨B,λe c=>⟨(g e c).1,(g e c).2,(C e c).2⟩⟩
def AFA{x:AS}(h:VR x):Ka (Mk x)=some (x,0):=by
 have E:=h.1.2.2.2.2.2.2.2.2;have j:=h.len;have l:=YL x;have⟨⟨a2,a3,a4,a5,a6,a7⟩,⟨m,n,o,p,q,u⟩⟩:=vE h.1;unfold Ka;have B:Fc (Mk x,0)=some (bf x,(((HM (bf x)).length:Int),0)):=by refine(YR (a:=[]) (t:=Mk x) w!).trans (congrArg some ?_);grind[Mk,jN,Ef,Prod.ext,List.length_nil]
 have v:(bf x).take 4=[80,77,82,78]:=rfl;rw[B,AD];dsimp only[len];rw[show((0:Int) !=0)=false by decide,cond_false,l,show(((33:Nat):Int) !=33)=false by decide,cond_false];rw[vd l,AD,v,beq_self_eq_true,Cm,cond_false];rw[show wi (4+8)=12 from rfl,show wi (12+8)=20 from rfl,show wi (20+4)=24 from rfl,show wi (24+4)=28 from rfl,show wi (28+1)=29 from rfl];rw[m,n,o,p,q,u];simp only[AD];rw[decide_eq_true o!,Cm,cond_false];have key:As (Aj (Ke (Mk x) ((x.2.2.2.2.2.length:Int),0)) (((HM (bf x)).length:Int),(0,([],(x.1,(x.2.1,(x.2.2.1,(x.2.2.2.1,(x.2.2.2.2.1,(0,(0,(0,(0,(0,[])))))))))))))) λr=>r= .inr (((Mk x).length:Int),(x.2.2.2.2.2,(x.1,(x.2.1,(x.2.2.1,(x.2.2.2.1,(x.2.2.2.2.1,(0,(0,(0,(0,(0,[])))))))))))):=by
  refine Cv (λ(s:Int×(Int×(List EN×ZR)))=> ∃k:Nat,k<=x.2.2.2.2.2.length/\s=(((HM (bf x)++KB (x.2.2.2.2.2.take k)).length:Int),((k:Int),(x.2.2.2.2.2.take k,(x.1,(x.2.1,(x.2.2.1,(x.2.2.2.1,(x.2.2.2.2.1,(0,(0,(0,(0,(0,[])))))))))))))) (λs=>x.2.2.2.2.2.length-s.2.1.toNat)
   ⟨0,Bi _,by simp[KB]⟩ ?_
  rintro s ⟨k,F,rfl⟩;unfold Ke;dsimp only;refine AC (λz=>?_) (λz=>As.done ?_)
  ·have i:k<x.2.2.2.2.2.length:=o!
   have c:=(h.ent (PH i)).1;have A:=RU c;have d:KB x.2.2.2.2.2=KB (x.2.2.2.2.2.take k)++(HM (B4 x.2.2.2.2.2[k])++KB (x.2.2.2.2.2.drop (k+1))):=by grind[kp,List.drop_eq_getElem_cons,KB,List.flatten_append,List.take_append_drop]
   have g:Mk x=(HM (bf x)++KB (x.2.2.2.2.2.take k))++(HM (B4 x.2.2.2.2.2[k])++KB (x.2.2.2.2.2.drop (k+1))):=by grind[Mk,List.append_assoc]
   have f:=congrArg List.length g;rw[Ag]at f;rw[(by grind[YR,jN]:Fc (Mk x,((HM (bf x)++KB (x.2.2.2.2.2.take k)).length:Int))=some (B4 x.2.2.2.2.2[k],(((HM (bf x)++KB (x.2.2.2.2.2.take k)).length:Int)+8+((B4 x.2.2.2.2.2[k]).length:Int),0))),AD];dsimp only;rw[show((0:Int) !=0)=false by decide,cond_false,AE8 c,AD];dsimp only;rw[show((0:Int) !=0)=false by decide,cond_false];refine AA (Ac (by rw[BR];simp;omega)) λw D=>?_;rw[Aa];refine As.next ⟨k+1,o!,?_⟩ d!
   rw[D.1,Ct,Au i,jY,RW,<-A2,Ag (bs:=HM (B4 x.2.2.2.2.2[k])),Ef];grind[Prod.ext]
  rw[BQ o!];rfl
 obtain⟨r,hr,rfl⟩:=key;rw[hr,AD,jZ];dsimp only;rw[decide_eq_false (by first|omega|(simp[len];omega)),cond_false];obtain⟨b,y,C⟩:=(vX)
 have e:b=true:=C.1 h;subst e;rw[y,AD,Cm,cond_false]
def frames(P:List BY):BY:=(P.map HM).flatten
def Sml(P:List BY):Prop:= ∀p∈P,33<=p.length/\p.length<=255
def Sn(p:BY)(P:List BY):frames (p::P)=HM p++frames P:=rfl
def RV{p:BY}(h:p.length<=255):HM p=UInt8.ofNat p.length::0::0::0::(p++C8 (O8 (C8 (p.length:Int) 4++p)) 4):=by
 have e:C8 (p.length:Int) 4=[UInt8.ofNat p.length,0,0,0]:=by simp only[C8];rw[show((p.length:Int)%256).toNat=p.length by omega,show((p.length:Int)/256%256).toNat=0 by omega,show((p.length:Int)/256/256%256).toNat=0 by omega,show((p.length:Int)/256/256/256%256).toNat=0 by omega];rfl
 unfold HM;grind
theorem mr{m n:Nat}(a:m<=255)(hn:n<=255)(h:UInt8.ofNat m=UInt8.ofNat n):m=n:=by grind[UInt8.toNat,UInt8.toNat_ofNat']
def vU{n:Nat}(h:33<=n)(hn:n<=255)(e:UInt8.ofNat n=0):False:=by have:=congrArg UInt8.toNat e;rw[bp]at this;grind
def tc: ∀(P Q:List BY),Sml P->Sml Q-> ∀(u v:BY) (b:UInt8),frames P=u++v->frames Q=u++b::v->False
 |P,[],hP,hQ,u,v,b,h1,d=>by have:=congrArg List.length d;simp[frames]at this
 |[],q::Q,hP,hQ,u,v,b,h1,d=>by have B:=congrArg List.length h1;have y:=congrArg List.length d;rw[Sn,Ag,Ef]at y;simp only[frames,HE,List.flatten_nil,Ba,Ag,Bo]at B y;have:=hQ q (Av.2 (.inl rfl));omega
 |p::P,q::Q,hP,hQ,u,v,b,h1,d=>by
  obtain⟨I,n⟩:=hP p (Av.2 (.inl rfl));obtain⟨q1,q2⟩:=hQ q (Av.2 (.inl rfl));have f:Sml P:=λx w=>hP x (Av.2 (.inr w));have g:Sml Q:=λx w=>hQ x (Av.2 (.inr w));rw[Sn]at h1 d;cases u with
  |nil=>rw[By]at h1 d;rw[<-h1,RV n,RV q2,ED,ED]at d;injection d with _ d;injection d with d _;exact vU I n d.symm
  |cons a u=>
   have i:=h1;have j:=d;rw[RV n,ED,ED]at i;rw[RV q2,ED,ED]at j;injection i with C _;injection j with D _;have o:p.length=q.length:=mr n q2 (C.trans D.symm);have h:(HM p).length=(HM q).length:=by rw[Ef,Ef,o]
   rcases lq.1 h1 with⟨t,l,m⟩|⟨t,l,m⟩;rw[l,A2]at d;obtain⟨G,e⟩:=EO d h.symm;exact tc P Q f g t v b m e
   
   cases z:t.reverse with
   |nil=>
    have s:t=[]:=by simpa using z
    subst s;rw[Db]at l;rw[By]at m;rw[<-l,m]at d;obtain⟨G,e⟩:=EO d h.symm;exact tc P Q f g [] (frames P) b (by rw[By]) (by rw[By];exact e)
   |cons c r=>
    have k:t=r.reverse++[c]:=by have:=congrArg List.reverse z;rwa [List.reverse_reverse,List.reverse_cons]at this
    have E:HM q++frames Q=((a::u)++b::r.reverse)++(c::frames P):=by rw[d,m,k];simp only[A2,ED,By]
    have F:(HM q).length=((a::u)++b::r.reverse).length:=by have:=congrArg List.length l;rw[k]at this;simp only[Ag,Bo,Ba]at this⊢;omega
    obtain⟨_,e⟩:=EO E F;cases Q with
    |nil=>exact absurd (congrArg List.length e) (by simp[frames])
    |cons J Q=>
     obtain⟨M,K⟩:=g J (Av.2 (.inl rfl));rw[Sn,RV K,ED,ED]at e;injection e with _ e;cases P with
     |nil=>exact absurd (congrArg List.length e) (by simp[frames])
     |cons H P=>obtain⟨L,A⟩:=f H (Av.2 (.inl rfl));rw[Sn,RV A,ED]at e;injection e with e _;exact vU L A e.symm
def AC1{p q u w:BY}{a b:UInt8}(m:p.length=q.length)(g:HM p=u++a::w)(d:HM q=u++b::w):a=b:=by
 have r:HM p=(C8 (p.length:Int) 4++p)++C8 (O8 (C8 (p.length:Int) 4++p)) 4:=by unfold HM;rw[List.append_assoc]
 have v:HM q=(C8 (p.length:Int) 4++q)++C8 (O8 (C8 (p.length:Int) 4++q)) 4:=by unfold HM;rw[List.append_assoc,m]
 rw[r]at g;rw[v]at d;have h:(C8 (p.length:Int) 4++p).length=(C8 (p.length:Int) 4++q).length:=by rw[Ag,Ag,m]
 generalize C8 (p.length:Int) 4++p=A at*;generalize C8 (p.length:Int) 4++q=B at*;have l: ∀s,Zk 4 (O8 s):=λs=>by have:=YG s;exact⟨λ_=>by rw[show(256:Int)^4=4294967296 by decide];omega,o!⟩
 have C:=A0 4 (O8 A);have D:=A0 4 (O8 B);rcases lq.1 g with⟨t,f,j⟩|⟨t,f,j⟩
 
 have:B=A:=by rw[f,A2]at d;exact(EO d h.symm).1
 subst this;have:=g.symm.trans d;have:=(EO this rfl).2;injection this;cases t with
 |nil=>
  rw[Db]at f;rw[f]at h;have i:=(EO d o!)
  have:B=A:=by rw[i.1,f]
  rw[this]at d;rw[d]at g;have:=(EO g rfl).2;injection this with e _;exact e.symm
 |cons c t=>
  rw[ED]at j;injection j with n o;subst n o;have z:B++C8 (O8 B) 4=(u++b::t)++C8 (O8 A) 4:=by rw[d,A2,ED]
  obtain⟨x,y⟩:=EO z (by rw[<-h,f,Ag,Ag,Bo,Bo]);have k:=WL g! (l B) (l A) y;rw[x,f]at k;exact(ACk k).symm
def w7: ∀(P Q:List BY),Sml P→Sml Q→(∀(i:Nat) (p q s t:BY),P[i]? =some p→Q[i]? =some q→p++s=q++t→p.length=q.length)→
  ∀(u v:BY) (a b:UInt8),frames P=u++a::v->frames Q=u++b::v->a=b
 |[],Q,hP,hQ,hf,u,v,a,b,f,e=>by have:=congrArg List.length f;simp[frames]at this
 |P,[],hP,hQ,hf,u,v,a,b,f,e=>by have:=congrArg List.length e;simp[frames]at this
 |p::P,q::Q,hP,hQ,hf,u,v,a,b,f,e=>by
  obtain⟨G,E⟩:=hP p (Av.2 (.inl rfl));obtain⟨q1,q2⟩:=hQ q (Av.2 (.inl rfl));have k:Sml P:=λx C=>hP x (Av.2 (.inr C));have l:Sml Q:=λx C=>hQ x (Av.2 (.inr C));have m: ∀(i:Nat) (p q s t:BY),P[i]? =some p->Q[i]? =some q->p++s=q++t->p.length=q.length:=λi p q s t A B=>hf (i+1) p q s t (by simpa using A) (by simpa using B);rw[Sn]at f e;cases u with
  |nil=>rw[By]at f e;rw[RV E,ED]at f;rw[RV q2,ED]at e;injection f with y f;injection e with z e;rw[<-f]at e;simp only[ED,A2]at e;injection e with _ e;injection e with _ e;injection e with _ e;have:=hf 0 p q _ _ rfl rfl e.symm;rw[<-y,<-z,this]
  |cons c u=>
   have n:=f;have o:=e;rw[RV E,ED,ED]at n;rw[RV q2,ED,ED]at o;injection n with A _;injection o with B _;have r:p.length=q.length:=mr E q2 (A.trans B.symm);have g:(HM p).length=(HM q).length:=by rw[Ef,Ef,r]
   rcases lq.1 f with⟨t,h,j⟩|⟨t,h,j⟩;rw[h,A2]at e;obtain⟨D,w⟩:=EO e g.symm;exact w7 P Q k l m t v a b j w;cases t with
   |nil=>rw[Db]at h;rw[By]at j;rw[<-h]at e;obtain⟨D,w⟩:=EO e g.symm;exact w7 P Q k l m [] v a b (by rw[By];exact j.symm) (by rw[By];exact w)
   |cons d t=>
    rw[ED]at j;injection j with y z;subst y z;have F:HM q++frames Q=((c::u)++b::t)++frames P:=by rw[e];simp only[A2,ED]
    obtain⟨D,w⟩:=EO F (by rw[<-g,h];simp only[Ag,Bo]);exact AC1 r h D
def rR{c d:Cc}(e:FA c)(f:FA d){s t:BY}(h:Ta c++s=Ta d++t):(Ta c).length=(Ta d).length:=by
 have g: ∀{c:Cc},FA c-> ∃(n:Nat) (r:BY),Ta c=UInt8.ofNat n::r/\n<=255/\(Ta c).length=if n=255 then 1 else n+1:=λ{c} e=>by
  have⟨b,w⟩:=c;have a:=e.1;dsimp only at a;unfold Ta;cases b with
  |false=>exact⟨255,[],rfl,Aq _,rfl⟩
  |true=>refine⟨w.length,w,?_,o!,?_⟩;grind[C8];grind[List.length_append,A0]
 grind[mr]
def zH{e f:EN}(d:FA e.2.2.2.2.2.2.1.2.2.1/\FA e.2.2.2.2.2.2.1.2.2.2/\e.2.2.2.2.2.2.2=[])(g:FA f.2.2.2.2.2.2.1.2.2.1/\FA f.2.2.2.2.2.2.1.2.2.2/\f.2.2.2.2.2.2.2=[]){s t:BY}(h:B4 e++s=B4 f++t):(B4 e).length=(B4 f).length:=by have⟨a1,a2,a3⟩:=d;have⟨a,b,c⟩:=g;unfold B4 at*;rw[a3,c]at*;simp at h;have st: ∀{n m:Int} {k:Nat} {x y:BY},C8 n k++x=C8 m k++y->x=y:=λi=>(EO i (by rw[A0,A0])).2;have h:=st (st (st (st (st (st (st (st h)))))));have l1:=rR a1 a h;simp[Ag,A0,l1,(rR a2 b ((EO h l1).2))]
def ABa(x:AS):List BY:=bf x::x.2.2.2.2.2.map B4
def nQ(x:AS):Mk x=frames (ABa x):=by unfold Mk ABa;rw[Sn];unfold KB frames;rw[Mf];rfl
def WR.sml{x:AS}(h:WR x):Sml (ABa x):=λp a=>by rcases Av.1 a with rfl|a;rw[YL];decide;obtain⟨e,f,rfl⟩:=Bh.1 a;have⟨b,c,d⟩:=h.2 e f;have l1:=fu b;have l2:=fu c;unfold B4;rw[d];simp[Ag,A0,Ba];omega
inductive ADs(s t:BY):Prop where
 |more (u v:BY) (b:UInt8) (h1:s=u++v) (h2:t=u++b::v)
 |less (u v:BY) (b:UInt8) (h1:s=u++b::v) (h2:t=u++v)
 |other (u v:BY) (a b:UInt8) (h:a≠b) (h1:s=u++a::v) (h2:t=u++b::v)
def ABQ{x y:AS}(g:WR x)(j:WR y)(h:ADs (Mk x) (Mk y)):False:=by
 rw[nQ,nQ]at h;rcases h with⟨u,v,b,c,d⟩|⟨u,v,b,c,d⟩|⟨u,v,a,b,h,c,d⟩;exact tc _ _ g.sml j.sml u v b c d;exact tc _ _ j.sml g.sml u v b d c;refine h (w7 _ _ g.sml j.sml (λi p q s t k l o=>?_) u v a b c d);cases i with
 |zero=>grind[ABa,List.getElem?_cons_zero,Option.some.injEq,YL]
 |succ i=>simp only[ABa,gv,CD,SC]at k l;obtain⟨e,m,rfl⟩:=k;obtain⟨f,n,rfl⟩:=l;exact zH (g.2 e (BP m)) (j.2 f (BP n)) o
def AB3{a b n k:Nat}{d:Array NE}(h:a<=k:=by omega)(c:k<a+n:=by omega):z6 a b n d k=d[b+(k-a)]! :=if_pos ⟨h,c⟩
def AB4{a b n k:Nat}{d:Array NE}(e:a+n<=b)(h:b<=k:=by omega)(c:k<b+n:=by omega):z6 a b n d k=d[a+(k-b)]! :=by unfold z6;rw[if_neg (by omega),if_pos ⟨h,c⟩]
def nt{a b n k:Nat}{d:Array NE}(h:k<a\/a+n<=k:=by omega)(c:k<b\/b+n<=k:=by omega):z6 a b n d k=d[k]! :=by unfold z6;rw[if_neg (by omega),if_neg (by omega)]
def uH(s m e:Nat)(d:Array NE)(k:Nat):NE:=if s<=k/\k<s+(e-m)then d[m+(k-s)]! else if s+(e-m)<=k/\k<e then d[s+(k-(s+(e-m)))]! else d[k]!
def gV{s m e k:Nat}{d:Array NE}(h:s<=k:=by omega)(a:k<s+(e-m):=by omega):uH s m e d k=d[m+(k-s)]! :=if_pos ⟨h,a⟩
def lR{s m e k:Nat}{d:Array NE}(h:s+(e-m)<=k:=by omega)(a:k<e:=by omega):uH s m e d k=d[s+(k-(s+(e-m)))]! :=by unfold uH;rw[if_neg (by omega),if_pos ⟨h,a⟩]
theorem T0{s m e k:Nat}{d:Array NE}(a:s<=m:=by omega)(b:m<=e:=by omega)(h:k<s\/e<=k:=by omega):uH s m e d k=d[k]! :=by unfold uH;rw[if_neg (by omega),if_neg (by omega)]
def nH{d:Array NE}{x y:Nat}(h:x=y):d[x]! =d[y]! :=by rw[h]
def ABr{m i j k:Nat}{d e:Array NE}(o:i<=m)(p:1<=j)(l:j<i)(n:m+j<=d.size)(a: ∀k,k<d.size->e[k]! =z6 (m-i) m j d k)(b:k<d.size):uH (m-(i-j)) m (m+j) e k=uH (m-i) m (m+j) d k:=by rcases Aw k (m-i)with c|c;rw[T0,T0,a k b,nt];rcases Aw k (m-i+j)with f|f;rw[T0,gV,a k b,AB3];rcases Aw k (m-(i-j)+j)with g|g;rw[gV,lR,a _ (by omega),AB4 (by omega)];exact nH (by omega);rcases Aw k (m+j)with h|h;rw[lR,lR,a _ (by omega),nt];exact nH (by omega);rw[T0,T0,a k b,nt]
def ABs{m i j k:Nat}{d e:Array NE}(p:i<=m)(n:1<=i)(l:i<j)(o:m+j<=d.size)(a: ∀k,k<d.size->e[k]! =z6 (m-i) (m+j-i) i d k)(b:k<d.size):uH (m-i) m (m+(j-i)) e k=uH (m-i) m (m+j) d k:=by rcases Aw k (m-i)with c|c;rw[T0,T0,a k b,nt];rcases Aw k (m-i+(j-i))with f|f;rw[gV,gV,a _ (by omega),nt];rcases Aw k (m+(j-i))with g|g;rw[lR,gV,a _ (by omega),AB3];exact nH (by omega);rcases Aw k (m+j)with h|h;rw[T0,lR,a _ (by omega),AB4 (by omega)];exact nH (by omega);rw[T0,T0,a k b,nt]
def zl{d:Array NE}{a m b:Nat}(C:a<m)(D:m<b)(E:b≤d.size)(G:d.size≤16777216):
  As (Eg d.toList ((a:Int),((m:Int),(b:Int)))) λr=> ∃e:Array NE,r=e.toList/\e.size=d.size/\ ∀k,k<d.size->e[k]! =uH a m b d k:=by
 unfold Eg;have q:wi ((m:Int)-(a:Int))=((m-a:Nat):Int):=by rw[lW];omega
 have t:wi ((b:Int)-(m:Int))=((b-m:Nat):Int):=by rw[lW];omega
 dsimp only;rw[q,t];refine AA (P:=λ(r:Int×List NE)=> ∃(i:Nat) (e:Array NE),r.1=i/\r.2=e.toList/\1<=i/\i<=m-a/\m+i<=b/\e.size=d.size/\ ∀k,k<d.size->uH (m-i) m (m+i) e k=uH a m b d k) ?_ ?_;refine AV (λ(s:Int×(Int×List NE))=> ∃(i j:Nat) (e:Array NE),s.1=i/\s.2.1=j/\s.2.2=e.toList/\1<=i/\1<=j/\i<=m-a/\m+j<=b/\e.size=d.size/\ ∀k,k<d.size->uH (m-i) m (m+j) e k=uH a m b d k) (λs=>(s.1+s.2.1).toNat)
  ⟨m-a,b-m,d,rfl,rfl,rfl,by omega,by omega,Aq _,by omega,rfl,λk _=>by rw[show m-(m-a)=a by omega,show m+(b-m)=b by omega]⟩ ?_
 rintro⟨H,I,J⟩ ⟨i,j,e,q1,q2,q3,q4,q5,q6,q7,q8,q9⟩;dsimp only at q1 q2 q3;subst q1 q2 q3;unfold If;dsimp only;have o:wi ((m:Int)-(i:Int))=((m-i:Nat):Int):=by rw[lW];omega
 rw[o];refine AM (λB=>?_) (λA=>AB ⟨i,e,rfl,rfl,q4,q6,by omega,q8,λk g=>?_⟩);apply AC<;>intro F;apply AA (uN (d:=e) (a:=m-i) (b:=m) (n:=j) (by omega) (by omega) (by omega));rintro v ⟨f,rfl,h,l⟩;have c:Nat.beq (List.length f.toList) (List.length e.toList)=true:=by rw[Dk,Dk,h];exact Jr _
 have p:wi ((i:Int)-(j:Int))=((i-j:Nat):Int):=by rw[lW];omega
 rw[c,cond_true,p];refine AB ⟨⟨i-j,j,f,rfl,rfl,rfl,by omega,q5,by omega,q7,by omega,λk g=>?_⟩,?_⟩;rw[ABr (by omega) q5 (by omega) (by omega) l (by omega),q9 k g];show(((i-j:Nat):Int)+(j:Int)).toNat<((i:Int)+(j:Int)).toNat
 omega;have u:wi (wi ((m:Int)+(j:Int))-(i:Int))=((m+j-i:Nat):Int):=by rw[lW (x:=(m:Int)+(j:Int)),lW];omega
 rw[u];apply AA (uN (d:=e) (a:=m-i) (b:=m+j-i) (n:=i) (by omega) (by omega) (by omega));rintro v ⟨f,rfl,h,l⟩;have c:Nat.beq (List.length f.toList) (List.length e.toList)=true:=by rw[Dk,Dk,h];exact Jr _
 have p:wi ((j:Int)-(i:Int))=((j-i:Nat):Int):=by rw[lW];omega
 rw[c,cond_true,p];refine AB ⟨⟨i,j-i,f,rfl,rfl,rfl,q4,by omega,q6,by omega,by omega,λk g=>?_⟩,?_⟩;rw[ABs (by omega) q4 (by omega) (by omega) l (by omega),q9 k g];show((i:Int)+((j-i:Nat):Int)).toNat<((i:Int)+(j:Int)).toNat
 omega;have:j=i:=by omega
 subst this;exact q9 k g;rintro⟨K,L⟩ ⟨i,e,q1,q2,q3,q4,q5,q6,q7⟩;dsimp only at q1 q2;subst q1 q2;dsimp only;have o:wi ((m:Int)-(i:Int))=((m-i:Nat):Int):=by rw[lW];omega
 rw[o];apply AA (uN (d:=e) (a:=m-i) (b:=m) (n:=i) (by omega) (by omega) (by omega));rintro v ⟨f,rfl,h,l⟩;have c:Nat.beq (List.length f.toList) (List.length e.toList)=true:=by rw[Dk,Dk,h];exact Jr _
 rw[c,cond_true];refine AB ⟨f,rfl,by omega,λk g=>?_⟩;rw[<-q7 k g,l k (by omega)];rcases Aw k (m-i)with w|w;rw[nt,T0];rcases Aw k m with y|y;rw[AB3,gV];rcases Aw k (m+i)with z|z;rw[AB4 (by omega),lR];exact nH (by omega);rw[nt,T0]
theorem vS{i j:Nat}(h:i+j<=1099511627776):wi (Int.fdiv (IntKind.wrap .u64 (wi ((i:Int)+(j:Int)))) (2^(min (Int.toNat 1) 64)))=(((i+j)/2:Nat):Int):=by rw[ABM (by omega) (by omega) (by omega)];omega
def bs{body:Int×Int→Option (Step (Int×Int) Int)}{P:Nat→Bool}{b a:Nat}(m: ∀i:Nat,body ((i:Int),(i:Int))=some (.done (i:Int)))
  (s: ∀i j:Nat,b<=i->i<j->j<=a->body ((i:Int),(j:Int))=some (.next (if P ((i+j)/2)=true then((((i+j)/2+1:Nat):Int),(j:Int))else((i:Int),(((i+j)/2:Nat):Int))))) (l:b<=a):
  ∃r:Nat,Aj body ((b:Int),(a:Int))=some (r:Int)/\b<=r/\r<=a/\(b<r->P (r-1)=true)/\(r<a->P r=false):=by
 suffices h: ∀n i j:Nat,j-i<=n->b<=i->i<=j->j<=a->(b<i->P (i-1)=true)->(j<a->P j=false)-> ∃r:Nat,Aj body ((i:Int),(j:Int))=some (r:Int)/\b<=r/\r<=a/\(b<r->P (r-1)=true)/\(r<a->P r=false)from
  h _ b a (Aq _) (Aq _) l (Aq _) (λh=>absurd h o!) (λh=>absurd h o!)
 intro n;induction n with
 |zero=>
  intro i j p c q d e f;have:i=j:=o!
  subst this;rw[G5,m];exact⟨i,rfl,c,d,e,f⟩
 |succ n o=>intro i j p c q d e f;rw[G5];by_cases k:i=j;subst k;rw[m];exact⟨i,rfl,c,d,e,f⟩;rw[s i j c o! d];by_cases g:P ((i+j)/2)=true;rw[if_pos g];exact o _ j o! o! o! d (λ_=>by rw[jV];exact g) f;rw[if_neg g];exact o i _ o! c o! o! e (λ_=>by simpa using g)
def AGH{d:Array NE}{a m b:Nat}(o:a<d.size)(g:m≤b)(p:b≤d.size)(q:d.size≤16777216)(c:Int×Int):
  ∃r:Nat,Aj (DE d.toList ((a:Int),c)) ((m:Int),(b:Int))=some (r:Int)/\m<=r/\r<=b/\(m<r->lN d[r-1]! d[a]! =true)/\(r<b->lN d[r]! d[a]! =false):=by
 refine bs (P:=λk=>lN d[k]! d[a]!) (λi=>?_) (λi j h l n=>?_) g;unfold DE;have:decide ((i:Int)<(i:Int))=false:=by simp
 dsimp only;rw[this,cond_false];unfold DE;have:decide ((i:Int)<(j:Int))=true:=by simp;omega
 dsimp only;rw[this,cond_true,vS (by omega)];obtain⟨v,e,f⟩:=ADb d[(i+j)/2]! d[a]!;rw[wh (k:=(i+j)/2) rfl,wh (k:=a) rfl];simp only[AD,e,f,wip (i:=(i+j)/2)];cases lN d[(i+j)/2]! d[a]! <;>rfl
def AGI{d:Array NE}{a r b:Nat}(h:a<r)(hr:r≤b)(w:b≤d.size)(x:d.size≤16777216):
  As (Aj (D1 (r:Int)) ((a:Int),d.toList)) λq=> ∃e:Array NE,q=e.toList/\Sort.PermIn a b d e/\(∀t,a<=t->t<r-1->e[t]! =d[t+1]!)/\e[r-1]! =d[a]! /\ ∀t,r<=t->e[t]! =d[t]! :=by
 refine AV (λ(s:Int×List NE)=> ∃(k:Nat) (e:Array NE),s.1=k/\s.2=e.toList/\a<=k/\k<r/\Sort.PermIn a b d e/\(∀t,a<=t->t<k->e[t]! =d[t+1]!)/\e[k]! =d[a]! /\ ∀t,k<t->e[t]! =d[t]!) (λs=>r-s.1.toNat) ⟨a,d,rfl,rfl,Aq _,h,Sort.permIn_refl _ _ _,λt _ _=>by omega,rfl,λt _=>rfl⟩ ?_;rintro⟨z,A⟩ ⟨k,e,q1,q2,q3,q4,q5,q6,q7,q8⟩;dsimp only at q1 q2;subst q1 q2;have y:=q5.1;unfold D1;dsimp only;have l:wi ((r:Int)-1)=((r-1:Nat):Int):=by rw[wim];omega
 rw[l];refine AC (λn=>?_) (λn=>AB ⟨e,rfl,q5,λt g m=>q6 t g (by omega),?_,λt o=>q8 t (by omega)⟩);have p:ix e.toList ((k+1:Nat):Int)=some e[k+1]! :=wh rfl;have u:ix e.toList (k:Int)=some e[k]! :=wh rfl;have v:ix (F6 e.toList (k:Int) e[k+1]!) ((k+1:Nat):Int)=some (e.setIfInBounds k e[k+1]!)[k+1]! :=AC7 rfl rfl;simp only[wip (i:=k),p,u,v,AD,ADk (d:=e) (a:=k) (b:=k+1) rfl rfl];have c:=Sort.swp_get e (i:=k) (j:=k+1) (by omega) (by omega);refine AB ⟨⟨k+1,_,rfl,rfl,by omega,by omega,Sort.permIn_trans _ _ _ _ _ q5 (Sort.swp_permIn e a b k (k+1) q3 (by omega) (by omega) (by omega) (by omega)),λt g m=>?_,?_,λt o=>?_⟩,?_⟩;rw[c,if_neg (by omega)];by_cases f:t=k;subst f;rw[if_pos rfl];exact q8 _ (by omega);rw[if_neg f];exact q6 t g (by omega);rw[c,if_pos rfl];exact q7;rw[c,if_neg (by omega),if_neg (by omega)];exact q8 t (by omega);show r-((k+1:Nat):Int).toNat<r-((k:Nat):Int).toNat
 omega;have:k=r-1:=by omega
 rw[<-this];exact q7
def ABy{d:Array NE}{a b:Nat}(o:a+1≤b)(z:b≤d.size)(A:d.size≤16777216)(k:Sort.SortedIn lN (a+1) b d)(c:Int×Int):
  As (Option.bind (Aj (DE d.toList ((a:Int),c)) (((a+1:Nat):Int),(b:Int))) λv=>Option.bind (Aj (D1 v) ((a:Int),d.toList)) λw=>some w) λq=> ∃e:Array NE,q=e.toList/\Sort.PermIn a b d e/\Sort.SortedIn lN a b e:=by
 obtain⟨r,g,H,I,J,K⟩:=AGH (d:=d) (a:=a) (m:=a+1) (b:=b) o! o z A c;rw[g,AD];apply AA (AGI (d:=d) (a:=a) (r:=r) (b:=b) o! I z A);rintro q ⟨e,rfl,G,n,B,C⟩;refine AB ⟨e,rfl,G,λx y p s u=>?_⟩;have W:=qV;have F: ∀t,a+1<=t->t<r->lN d[a]! d[t]! =false:=λt h l=>by
  have f:=J o!;cases D:lN d[a]! d[t]! with
  |false=>rfl
  |true=>have i:=W.trans _ _ _ f D;rcases Aw t (r-1)with j|j;exact absurd i (by rw[k t (r-1) h j o!];decide);rw[show t=r-1 by omega,W.irrefl]at i;cases i
 have E: ∀t,r<=t->t<b->lN d[t]! d[a]! =false:=λt h l=>by have f:=K o!;rcases Aw r t with j|j;exact W.ntrans _ _ _ (k r t H j l) f;rw[show t=r by omega];exact f
 rcases Aw y (r-1)with h|h;rw[n x p o!,n y o! h];exact k (x+1) (y+1) o! o! o!;rcases Aw (r-1) y with l|l;rw[C y o!];rcases Aw x (r-1)with f|f;rw[n x p f];exact k (x+1) y o! o! u;rcases Aw (r-1) x with i|i;rw[C x o!];exact k x y o! s u;rw[show x=r-1 by omega,B];exact E y o! u;rw[show y=r-1 by omega,B,n x p o!];exact F (x+1) o! o!
def AGJ{d:Array NE}{a m:Nat}(l:a≤m)(w:m<d.size)(u:d.size≤16777216)(b:Int):
  ∃r:Nat,Aj (CR d.toList ((a:Int),((m:Int),b))) ((a:Int),(m:Int))=some (r:Int)/\a<=r/\r<=m/\(a<r->lN d[m]! d[r-1]! =false)/\(r<m->lN d[m]! d[r]! =true):=by
 have c: ∀i:Nat,CR d.toList ((a:Int),((m:Int),b)) ((i:Int),(i:Int))=some (.done (i:Int)):=λi=>by
  unfold CR;have:decide ((i:Int)<(i:Int))=false:=by simp
  dsimp only;rw[this,cond_false]
 have e: ∀i j:Nat,a<=i->i<j->j<=m->CR d.toList ((a:Int),((m:Int),b)) ((i:Int),(j:Int))=some (.next (if(!lN d[m]! d[(i+j)/2]!)=true then((((i+j)/2+1:Nat):Int),(j:Int))else((i:Int),(((i+j)/2:Nat):Int)))):=λi j q s t=>by
  unfold CR;have:decide ((i:Int)<(j:Int))=true:=by simp;omega
  dsimp only;rw[this,cond_true,vS (by omega)];obtain⟨v,f,g⟩:=ADb d[m]! d[(i+j)/2]!;rw[wh (k:=(i+j)/2) rfl,wh (k:=m) rfl];simp only[AD,f,g,wip (i:=(i+j)/2)];cases lN d[m]! d[(i+j)/2]! <;>rfl
 obtain⟨r,f,g,n,o,p⟩:=bs (P:=λk=>!lN d[m]! d[k]!) c e l;exact⟨r,f,g,n,λh=>by simpa using o h,λh=>by simpa using p h⟩
def AGK{d:Array NE}{a r m:Nat}(n:a≤r)(hr:r≤m)(y:m<d.size)(x:d.size≤16777216):
  As (Aj (D2 (r:Int)) ((m:Int),d.toList)) λq=> ∃e:Array NE,q=e.toList/\Sort.PermIn a (m+1) d e/\(∀t,r<t->t<=m->e[t]! =d[t-1]!)/\e[r]! =d[m]! /\ ∀t,t<r->e[t]! =d[t]! :=by
 refine AV (λ(s:Int×List NE)=> ∃(k:Nat) (e:Array NE),s.1=k/\s.2=e.toList/\r<=k/\k<=m/\Sort.PermIn a (m+1) d e/\(∀t,k<t->t<=m->e[t]! =d[t-1]!)/\e[k]! =d[m]! /\ ∀t,t<k->e[t]! =d[t]!) (λs=>s.1.toNat) ⟨m,d,rfl,rfl,hr,Aq _,Sort.permIn_refl _ _ _,λt _ _=>o!,rfl,λt _=>rfl⟩ ?_;rintro⟨A,B⟩ ⟨k,e,q1,q2,q3,q4,q5,q6,q7,q8⟩;dsimp only at q1 q2;subst q1 q2;have z:=q5.1;unfold D2;dsimp only;refine AC (λo=>?_) (λo=>AB ⟨e,rfl,q5,λt l g=>q6 t o! g,?_,λt p=>q8 t o!⟩);have h:wi ((k:Int)-1)=((k-1:Nat):Int):=by rw[wim];omega
 have u:ix e.toList ((k-1:Nat):Int)=some e[k-1]! :=wh rfl;have v:ix e.toList (k:Int)=some e[k]! :=wh rfl;have w:ix (F6 e.toList (k:Int) e[k-1]!) ((k-1:Nat):Int)=some (e.setIfInBounds k e[k-1]!)[k-1]! :=AC7 rfl rfl;simp only[h,u,v,w,AD,ADk (d:=e) (a:=k) (b:=k-1) rfl rfl];have c:=Sort.swp_get e (i:=k) (j:=k-1) o! o!;refine AB ⟨⟨k-1,_,rfl,rfl,o!,o!,Sort.permIn_trans _ _ _ _ _ q5 (Sort.swp_permIn e a (m+1) k (k-1) o! o! o! o! o!),λt l g=>?_,?_,λt p=>?_⟩,?_⟩;rw[c,if_neg o!];by_cases f:t=k;subst f;rw[if_pos rfl];exact q8 _ o!;rw[if_neg f];exact q6 t o! g;rw[c,if_pos rfl];exact q7;rw[c,if_neg o!,if_neg o!];exact q8 t o!;show((k-1:Nat):Int).toNat<((k:Nat):Int).toNat
 omega;have:k=r:=o!
 rw[<-this];exact q7
def ADi{d:Array NE}{a m:Nat}(n:a≤m)(u:m<d.size)(s:d.size≤16777216)(k:Sort.SortedIn lN a m d)(b:Int):
  As (Option.bind (Aj (CR d.toList ((a:Int),((m:Int),b))) ((a:Int),(m:Int))) λv=>Option.bind (Aj (D2 v) ((m:Int),d.toList)) λw=>some w) λq=> ∃e:Array NE,q=e.toList/\Sort.PermIn a (m+1) d e/\Sort.SortedIn lN a (m+1) e:=by
 obtain⟨r,g,B,G,H,I⟩:=AGJ (d:=d) (a:=a) (m:=m) n u s b;rw[g,AD];apply AA (AGK (d:=d) (a:=a) (r:=r) (m:=m) B G u s);rintro q ⟨e,rfl,F,z,A,l⟩;refine AB ⟨e,rfl,F,λx y o p J=>?_⟩;have W:=qV;have E: ∀t,a<=t->t<r->lN d[m]! d[t]! =false:=λt h i=>by have c:=H o!;rcases Aw t (r-1)with j|j;exact W.ntrans _ _ _ c (k t (r-1) h j o!);rw[show t=r-1 by omega];exact c
 have D: ∀t,r<=t->t<m->lN d[t]! d[m]! =false:=λt h i=>by
  have c:=I o!;cases C:lN d[t]! d[m]! with
  |false=>rfl
  |true=>have f:=W.trans _ _ _ C c;rcases Aw r t with j|j;exact absurd f (by rw[k r t B j i];decide);rw[show t=r by omega,W.irrefl]at f;cases f
 rcases Aw y r with h|h;rw[l x o!,l y h];exact k x y o p o!;rcases Aw r y with i|i;rw[z y i o!];rcases Aw x r with c|c;rw[l x c];exact k x (y-1) o o! o!;rcases Aw r x with f|f;rw[z x f o!];exact k (x-1) (y-1) o! o! o!;rw[show x=r by omega,A];exact D (y-1) o! o!;rw[show y=r by omega,A,l x o!];exact E x o o!
def AGL{d:Array NE}{a m b lo hi:Nat}(l:lo≤hi)(s:a≤lo)(t:hi≤m)(u:(a+b)/2+m-lo≤b)(y:hi≤(a+b)/2+m)(w:m≤b)(z:b≤d.size)(A:d.size≤16777216):
  ∃r:Nat,Aj (Ck d.toList ((a:Int),((m:Int),(b:Int)))) ((lo:Int),(hi:Int))=some (r:Int)/\lo<=r/\r<=hi/\(lo<r->lN d[(a+b)/2+m-1-(r-1)]! d[r-1]! =false)/\(r<hi->lN d[(a+b)/2+m-1-r]! d[r]! =true):=by
 have c: ∀i:Nat,Ck d.toList ((a:Int),((m:Int),(b:Int))) ((i:Int),(i:Int))=some (.done (i:Int)):=λi=>by
  unfold Ck;have:decide ((i:Int)<(i:Int))=false:=by simp
  dsimp only;rw[this,cond_false]
 have e: ∀i j:Nat,lo<=i->i<j->j<=hi->Ck d.toList ((a:Int),((m:Int),(b:Int))) ((i:Int),(j:Int))=some (.next (if(!lN d[(a+b)/2+m-1-(i+j)/2]! d[(i+j)/2]!)=true then((((i+j)/2+1:Nat):Int),(j:Int))else((i:Int),(((i+j)/2:Nat):Int)))):=λi j s t u=>by
  unfold Ck;have:decide ((i:Int)<(j:Int))=true:=by simp;omega
  dsimp only;rw[this,cond_true,vS (i:=i) (j:=j) (by omega),vS (i:=a) (j:=b) (by omega)];have n:wi (wi (wi ((((a+b)/2:Nat):Int)+(m:Int))-1)-(((i+j)/2:Nat):Int))=(((a+b)/2+m-1-(i+j)/2:Nat):Int):=by rw[lW (x:=(((a+b)/2:Nat):Int)+(m:Int)),lW (x:=(((a+b)/2:Nat):Int)+(m:Int)-1),lW];omega
  obtain⟨v,f,g⟩:=ADb d[(a+b)/2+m-1-(i+j)/2]! d[(i+j)/2]!;rw[n,wh (k:=(i+j)/2) rfl,wh (k:=(a+b)/2+m-1-(i+j)/2) rfl];simp only[AD,f,g,wip (i:=(i+j)/2)];cases lN d[(a+b)/2+m-1-(i+j)/2]! d[(i+j)/2]! <;>rfl
 obtain⟨r,f,g,o,p,q⟩:=bs (P:=λk=>!lN d[(a+b)/2+m-1-k]! d[k]!) c e l;exact⟨r,f,g,o,λh=>by simpa using p h,λh=>by simpa using q h⟩
def ADa{s m e:Nat}{d f:Array NE}(o:s<=m)(p:m<=e)(b:e<=d.size)(c:f.size=d.size)(h: ∀k,k<d.size->f[k]! =uH s m e d k):Sort.PermIn s e d f:=by
 refine⟨c,λi a=>?_,?_⟩;grind[Nat.lt_or_ge,T0];have key: ∀(g:Nat->NE) (s n:Nat),(List.range' s n).map g=(List.range n).map λi=>g (s+i):=λg s n=>by rw[List.range'_eq_map_range,Mf];rfl
 rw[Sort.extract_toList f s e o!,Sort.extract_toList d s e b];have j:List.range' s (e-s)=List.range' s (e-m)++List.range' (s+(e-m)) (m-s):=q!
 have l:List.range' s (e-s)=List.range' s (m-s)++List.range' (s+(m-s)) (e-m):=q!
 have l1:(List.range' s (e-m)).map (λi=>f[i]!)=(List.range' (s+(m-s)) (e-m)).map λi=>d[i]! :=by rw[key,key];refine Me λi a=>?_;have:=Hi.1 a;rw[h _ o!,gV];simp_all
 have l2:(List.range' (s+(e-m)) (m-s)).map (λi=>f[i]!)=(List.range' s (m-s)).map λi=>d[i]! :=by rw[key,key];refine Me λi a=>?_;have:=Hi.1 a;rw[h _ o!,lR];simp_all
 grind
def uW(a b:Nat)(d e:Array NE):Prop:=Sort.PermIn a b d e/\Sort.SortedIn lN a b e
def lS{a m b:Nat}{d:Array NE}(h:m<=a\/b<=m)(c:Sort.SortedIn lN a m d)(e:Sort.SortedIn lN m b d)(f:a<=m)(g:m<=b):Sort.SortedIn lN a b d:=by
 rcases h with h|h;have:m=a:=o!
 rw[<-this];exact e;have:m=b:=o!
 rw[<-this];exact c
def AGq{C:List NE×(Int×(Int×Int))→Option (List NE)}{N a m b:Nat}{d:Array NE}(a5:a<m)(a6:m<b)(hb:b≤d.size)(hd:d.size≤16777216)(s:Sort.SortedIn lN a m d)(A:Sort.SortedIn lN m b d)
  (O: ∀(S:Array NE) (V m' R:Nat),V<m'->m'<R->R<=S.size->S.size<=16777216->Sort.SortedIn lN V m' S->Sort.SortedIn lN m' R S->PT (R-V<=N) (C (S.toList,((V:Int),((m':Int),(R:Int))))) λr=> ∃e:Array NE,r=e.toList/\uW V R S e):
  PT (b-a<=N+1) (CC C d.toList ((a:Int),((m:Int),(b:Int)))) λr=> ∃e:Array NE,r=e.toList/\uW a b d e:=by
 have W:=qV;unfold CC;have e0:wi ((m:Int)-(a:Int))=((m-a:Nat):Int):=by grind[lW]
 have e1:wi ((b:Int)-(m:Int))=((b-m:Nat):Int):=by grind[lW]
 dsimp only;rw[e0,e1,vS (i:=a) (j:=b) (by omega)];apply PT.cond<;>intro Q;have Q:m=a+1:=by have:=eq_of_beq Q;omega
 subst Q;exact gA (ABy (by omega) hb hd A _);apply PT.cond<;>intro n;have n:b=m+1:=by have:=eq_of_beq n;omega
 subst n;exact gA (ADi (by omega) hb hd s _);have n1:m-a≠1:=λh=>by rw[h]at Q;exact absurd Q (by decide)
 have n2:b-m≠1:=λh=>by rw[h]at n;exact absurd n (by decide)
 have Y:a<(a+b)/2/\(a+b)/2<b:=by omega
 generalize hM:(a+b)/2=M at Y⊢;have e2:wi ((M:Int)+(m:Int))=((M+m:Nat):Int):=by rw[lW];omega
 rw[e2];refine PT.bind (P:=λv=> ∃L J:Nat,v=((L:Int),(J:Int))/\L<=J/\a<=L/\J<=m/\J<=M/\M+m-L<=b/\(L=a\/M+m-L=b)/\(J=m\/J=M)) ?_ ?_;refine PT.dec (λhc=>PT.some ⟨M+m-b,M,?_,by omega⟩) (λhc=>PT.some ⟨a,m,rfl,by omega⟩);rw[lW];exact congrArg (λz=>(z,(M:Int))) (by omega);rintro v ⟨L,J,rfl,f1,f2,f3,f4,f5,f6,f7⟩;have⟨r,g,r1,r2,r3,r4⟩:=AGL (d:=d) (a:=a) (m:=m) (b:=b) (lo:=L) (hi:=J) f1 f2 f3 (by omega) (by omega) (by omega) hb hd;rw[hM]at r3 r4;rw[g,AD];have e3:wi (((M+m:Nat):Int)-(r:Int))=((M+m-r:Nat):Int):=by rw[lW];omega
 simp only[e3];obtain⟨E,hE⟩: ∃E,E=M+m-r:=⟨_,rfl⟩
 rw[<-hE];have c1:a<r->E<b->lN d[E]! d[r-1]! =false:=λQ n=>by have:=r3 (by omega);rw[show M+m-1-(r-1)=E by omega]at this;exact this
 have c2:r<m->m<E->lN d[E-1]! d[r]! =true:=λQ n=>by have:=r4 (by omega);rw[show M+m-1-r=E-1 by omega]at this;exact this
 have s3: ∀c l:Array NE,Sort.PermIn a b d c->(∀k,k<d.size->c[k]! =uH r m E d k)->uW a M c l->PT (b-a<=N+1) (bif decide ((M:Int)<(E:Int))then Option.bind (bif decide ((E:Int)<(b:Int))then Option.bind (C (l.toList,((M:Int),((E:Int),(b:Int))))) λv=>bif Nat.beq (List.length v) (List.length l.toList)then some v else none else some l.toList) λv=>some v else some l.toList) λq=> ∃e:Array NE,q=e.toList/\uW a b d e:=by
  intro c l U f n;have z1:c.size=d.size:=U.1;have z2:l.size=c.size:=n.1.1;have ax: ∀k,k<r->c[k]! =d[k]! :=λk hk=>by rw[f k (by omega),T0]
  have a0: ∀k,r<=k->k<M->c[k]! =d[m+(k-r)]! :=λk h h'=>by rw[f k (by omega),gV]
  have H: ∀k,M<=k->k<E->c[k]! =d[r+(k-M)]! :=λk h h'=>by rw[f k (by omega),lR];exact nH (by omega)
  have I: ∀k,E<=k->k<b->c[k]! =d[k]! :=λk h h'=>by rw[f k (by omega),T0]
  have a1: ∀x y,a<=x->x<M->M<=y->y<b->lN c[y]! c[x]! =false:=by
   intro x y F a4 G K;rcases Aw x r with q1|q1;rw[ax x q1];rcases Aw y E with q2|q2;rw[H y G q2];exact s x _ F (by omega) (by omega);rw[I y q2 K];have k1:lN d[y]! d[E]! =false:=by rcases Aw E y with q3|q3;exact A E y (by omega) q3 K;rw[show y=E by omega];exact W.irrefl _
   have k2:lN d[r-1]! d[x]! =false:=by rcases Aw x (r-1)with q3|q3;exact s x (r-1) F q3 (by omega);rw[show r-1=x by omega];exact W.irrefl _
   exact W.ntrans _ _ _ (W.ntrans _ _ _ k1 (c1 (by omega) (by omega))) k2;rw[a0 x q1 a4];rcases Aw y E with q2|q2;rw[H y G q2];have hc:=c2 (by omega) (by omega);have k1:lN d[E-1]! d[m+(x-r)]! =false:=by rcases Aw (m+(x-r)) (E-1)with q3|q3;exact A _ (E-1) (by omega) q3 (by omega);rw[show m+(x-r)=E-1 by omega];exact W.irrefl _
   refine W.ntrans _ d[E-1]! _ ?_ k1;cases hk:lN d[r+(y-M)]! d[E-1]! with
   |false=>rfl
   |true=>have k2:=W.trans _ _ _ hk hc;rcases Aw r (r+(y-M))with q3|q3;exact absurd k2 (by rw[s r _ (by omega) q3 (by omega)];decide);rw[show r+(y-M)=r by omega,W.irrefl]at k2;cases k2
   rw[I y q2 K];exact A _ y (by omega) (by omega) K
  have X: ∀d3:Array NE,uW M b l d3->uW a b d d3:=λd3 T=>by refine⟨Sort.permIn_trans _ _ _ _ _ U (Sort.permIn_trans _ _ _ _ _ (Sort.permIn_mono _ _ a M a b (by omega) (by omega) (by omega) n.1) (Sort.permIn_mono _ _ M b a b (by omega) (by omega) (by omega) T.1)),λx y F B G=>?_⟩;rcases Aw y M with q1|q1;rw[T.1.2.1 x (by omega),T.1.2.1 y (by omega)];exact n.2 x y F B q1;rcases Aw x M with q2|q2;rw[T.1.2.1 x (by omega)];refine Sort.permIn_all l d3 M b (λz=>lN z l[x]! =false) (by omega) T.1 (λw hw a3=>?_) y q1 G;rw[n.1.2.1 w (by omega)];exact Sort.permIn_all c l a M (λz=>lN c[w]! z=false) (by omega) n.1 (λu hu a2=>a1 u w hu a2 hw a3) x F q2;exact T.2 x y q2 B G
  have ao:Sort.SortedIn lN M E l:=λx y F B G=>by rw[n.1.2.1 x (by omega),n.1.2.1 y (by omega),H x F (by omega),H y (by omega) G];exact s _ _ (by omega) (by omega) (by omega)
  have ar:Sort.SortedIn lN E b l:=λx y F B G=>by rw[n.1.2.1 x (by omega),n.1.2.1 y (by omega),I x F (by omega),I y (by omega) G];exact A _ _ (by omega) (by omega) (by omega)
  have o:E<=M\/b<=E->uW a b d l:=λh=>X l ⟨Sort.permIn_refl _ _ _,lS h ao ar (by omega) (by omega)⟩;refine PT.dec (λq1=>PT.bind (P:=λq=> ∃e:Array NE,q=e.toList/\uW a b d e) (PT.dec (λq2=>?_) (λq2=>PT.some ⟨l,rfl,o (by omega)⟩)) λr h=>PT.some h) (λq1=>PT.some ⟨l,rfl,o (by omega)⟩);have hr:=O l M E b (by omega) (by omega) (by omega) (by omega) ao ar;refine PT.bind (P:=λq=> ∃e:Array NE,q=e.toList/\uW M b l e) ⟨λt=>hr.1 (by omega),hr.2⟩ ?_;rintro q ⟨e,rfl,D⟩;exact Y6 (by rw[Dk,Dk,D.1.1]) (PT.some ⟨e,rfl,X e D⟩)
 have s2: ∀c:Array NE,Sort.PermIn a b d c->(∀k,k<d.size->c[k]! =uH r m E d k)->PT (b-a<=N+1) (bif decide ((a:Int)<(r:Int))then Option.bind (bif decide ((r:Int)<(M:Int))then Option.bind (C (c.toList,((a:Int),((r:Int),(M:Int))))) λv=>bif Nat.beq (List.length v) (List.length c.toList)then some v else none else some c.toList) λv=>(bif decide ((M:Int)<(E:Int))then Option.bind (bif decide ((E:Int)<(b:Int))then Option.bind (C (v,((M:Int),((E:Int),(b:Int))))) λw=>bif Nat.beq (List.length w) (List.length v)then some w else none else some v) λw=>some w else some v)else(bif decide ((M:Int)<(E:Int))then Option.bind (bif decide ((E:Int)<(b:Int))then Option.bind (C (c.toList,((M:Int),((E:Int),(b:Int))))) λw=>bif Nat.beq (List.length w) (List.length c.toList)then some w else none else some c.toList) λw=>some w else some c.toList)) λq=> ∃e:Array NE,q=e.toList/\uW a b d e:=by
  intro c U f;have z1:c.size=d.size:=U.1;have ad:Sort.SortedIn lN a r c:=λx y F B G=>by rw[f x (by omega),f y (by omega),T0,T0];exact s _ _ (by omega) (by omega) (by omega)
  have al:Sort.SortedIn lN r M c:=λx y F B G=>by rw[f x (by omega),f y (by omega),gV,gV];exact A _ _ (by omega) (by omega) (by omega)
  have o:r<=a\/M<=r->uW a M c c:=λh=>⟨Sort.permIn_refl _ _ _,lS h ad al (by omega) (by omega)⟩
  refine PT.dec (λq1=>PT.bind (P:=λq=> ∃e:Array NE,q=e.toList/\uW a M c e) ?_ ?_) (λq1=>s3 c c U f (o (by omega)));refine PT.dec (λq2=>?_) (λq2=>PT.some ⟨c,rfl,o (by omega)⟩);have hr:=O c a r M (by omega) (by omega) (by omega) (by omega) ad al;refine PT.bind (P:=λq=> ∃e:Array NE,q=e.toList/\uW a M c e) ⟨λt=>hr.1 (by omega),hr.2⟩ ?_;rintro q ⟨e,rfl,D⟩;exact Y6 (by rw[Dk,Dk,D.1.1]) (PT.some ⟨e,rfl,D⟩);rintro q ⟨e,rfl,D⟩;exact s3 c e U f D
 have Z:r=m\/E=m-> ∀k,k<d.size->d[k]! =uH r m E d k:=λh k hk=>by rcases Aw k r with q1|q1;rw[T0];rcases Aw k (r+(E-m))with q2|q2;rw[gV q1 q2];exact nH (by omega);rcases Aw k E with q3|q3;rw[lR q2 q3];exact nH (by omega);rw[T0]
 refine PT.dec (λq1=>PT.bind (P:=λq=> ∃e:Array NE,q=e.toList/\Sort.PermIn a b d e/\ ∀k,k<d.size->e[k]! =uH r m E d k) ?_ ?_) (λq1=>s2 d (Sort.permIn_refl _ _ _) (Z (by omega)));refine PT.dec (λq2=>PT.bind (gA (zl (d:=d) (a:=r) (m:=m) (b:=E) (by omega) (by omega) (by omega) hd)) ?_) (λq2=>PT.some ⟨d,rfl,Sort.permIn_refl _ _ _,Z (by omega)⟩);rintro q ⟨e,rfl,z,D⟩;exact Y6 (by rw[Dk,Dk,z]) (PT.some ⟨e,rfl,Sort.permIn_mono _ _ r E a b (by omega) (by omega) hb (ADa (by omega) (by omega) (by omega) z D),D⟩);rintro q ⟨e,rfl,p,D⟩;exact s2 e p D
def AFO(n:Nat)(p:List NE×(Int×(Int×Int))):kg (λg (p:List NE×(Int×(Int×Int)))=>CC g p.1 p.2) (n+1) p=CC (kg (λg (p:List NE×(Int×(Int×Int)))=>CC g p.1 p.2) n) p.1 p.2:=rfl
def xU: ∀(N:Nat) (d:Array NE) (a m b:Nat),a<m→m<b→b≤d.size→d.size≤16777216→Sort.SortedIn lN a m d→Sort.SortedIn lN m b d→
  PT (b-a<=N) (kg (λg (p:List NE×(Int×(Int×Int)))=>CC g p.1 p.2) N (d.toList,((a:Int),((m:Int),(b:Int))))) λr=> ∃e:Array NE,r=e.toList/\uW a b d e
 |0,d,a,m,b,h1,h2,h3,h4,h5,h6=>⟨λt=>absurd t o!,λr e=>by cases e⟩
 |N+1,d,a,m,b,h1,h2,h3,h4,h5,h6=>by rw[AFO];exact AGq h1 h2 h3 h4 h5 h6 (xU N)
def AD8{d:Array NE}{a m b:Nat}(c:a<m)(f:m<b)(g:b≤d.size)(h:d.size≤16777216)(i:Sort.SortedIn lN a m d)(j:Sort.SortedIn lN m b d):
  As (EI d.toList ((a:Int),((m:Int),(b:Int)))) λr=> ∃e:Array NE,r=e.toList/\uW a b d e:=by
 have⟨r,hr⟩:=(xU (b-a) d a m b c f g h i j).1 (Aq _);have⟨s,k⟩:=pL hr;have⟨N,l⟩:=mP k;exact⟨s,k,(xU N d a m b c f g h i j).2 s l⟩
def Mul(s a:Nat):Prop:= ∃k,a=k*s
def Mul.zero{s:Nat}:Mul s 0:=⟨0,k!⟩
def Mul.add{s a:Nat}(h:Mul s a):Mul s (a+s):=by obtain⟨k,rfl⟩:=h;exact⟨k+1,q!⟩
def Mul.half{s a:Nat}(h:Mul (2*s) a):Mul s a:=by obtain⟨k,rfl⟩:=h;exact⟨k*2,q!⟩
def Mul.lt{s a b:Nat}(c:Mul s a)(d:Mul s b)(h:a<b):a+s<=b:=by obtain⟨k,rfl⟩:=c;obtain⟨j,rfl⟩:=d;have:k<j:=Nat.lt_of_mul_lt_mul_right h;have:=OV s (Nat.succ_le_of_lt this);grind
theorem YT{a b c:Nat}{d:Array NE}(h:Sort.SortedIn lN a b d)(i:c<=b):Sort.SortedIn lN a c d:=λx y e f g=>h x y e f o!
def VU{a b x y:Nat}{d e:Array NE}(h:Sort.SortedIn lN a b d)(c:Sort.PermIn x y d e)(l:b<=x\/y<=a):Sort.SortedIn lN a b e:=λi j f g k=>by rw[c.2.1 i o!,c.2.1 j o!];exact h i j f g k
def Blk(s n:Nat)(d:Array NE):Prop:= ∀a b,Mul s a->b<=a+s->b<=n->Sort.SortedIn lN a b d
def zq{d0:Array NE}{n:Nat}(hn:n=d0.size)(hd:n<=1048576):As (Eh d0.toList (n:Int)) λr=> ∃e:Array NE,r=e.toList/\uW 0 n d0 e:=by
 unfold Eh;refine AA (P:=λ(r:Int×List NE)=> ∃(a:Nat) (d:Array NE),r.1=a/\r.2=d.toList/\a<=n/\n<a+20/\Mul 20 a/\Sort.PermIn 0 n d0 d/\ ∀c,Mul 20 c->c<a->Sort.SortedIn lN c (c+20) d) ?_ ?_;refine AV (λ(s:Int×(Int×List NE))=> ∃(a:Nat) (d:Array NE),s.1=a/\s.2.1=((a+20:Nat):Int)/\s.2.2=d.toList/\a<=n/\Mul 20 a/\Sort.PermIn 0 n d0 d/\ ∀c,Mul 20 c->c<a->Sort.SortedIn lN c (c+20) d) (λs=>n-s.1.toNat) ⟨0,d0,rfl,rfl,rfl,Bi _,Mul.zero,Sort.permIn_refl _ _ _,λc _ h=>absurd h o!⟩ ?_;rintro⟨Y,Z,s3⟩ ⟨a,d,q1,q2,q3,q4,q5,q6,q7⟩;dsimp only at q1 q2 q3;subst q1 q2 q3;have hz:d.size=n:=by rw[q6.1,hn]
 unfold Ig;dsimp only;refine AC (λO=>?_) (λO=>AB ⟨a,d,rfl,rfl,q4,o!,q5,q6,q7⟩);have A:=Sort.insertionSort_holds qV d a (a+20) o! o!;rw[yH (d:=d) (k:=a) (m:=a+20) rfl rfl o! o! o!,AD];have j:Nat.beq (List.length (Sort.insertionSort lN d a (a+20)).toList) (List.length d.toList)=true:=by rw[Dk,Dk,A.1.1];exact Jr _
 have e1:wi (((a+20:Nat):Int)+20)=((a+20+20:Nat):Int):=by grind[lW]
 rw[j,cond_true,e1];refine AB ⟨⟨a+20,_,rfl,rfl,rfl,o!,q5.add,Sort.permIn_trans _ _ _ _ _ q6 (Sort.permIn_mono _ _ a (a+20) 0 n o! o! o! A.1),λc g w=>?_⟩,?_⟩;rcases Aw c a with l|l;exact VU (q7 c g l) A.1 (.inl (g.lt q5 l));have:c=a:=by rcases Aw a c with i|i;have:=q5.lt g i;omega;omega
 rw[this];exact A.2;show n-((a+20:Nat):Int).toNat<n-((a:Nat):Int).toNat
 omega;rintro⟨r1,r2⟩ ⟨a,d,q1,q2,q3,q4,q5,q6,q7⟩;dsimp only at q1 q2;subst q1 q2;have hz:d.size=n:=by rw[q6.1,hn]
 dsimp only;have A:=Sort.insertionSort_holds qV d a n q3 o!;rw[yH (d:=d) (k:=a) (m:=n) rfl rfl o! o! o!,AD];have j:Nat.beq (List.length (Sort.insertionSort lN d a n).toList) (List.length d.toList)=true:=by rw[Dk,Dk,A.1.1];exact Jr _
 rw[j,cond_true];have C:Sort.PermIn 0 n d0 (Sort.insertionSort lN d a n):=Sort.permIn_trans _ _ _ _ _ q6 (Sort.permIn_mono _ _ a n 0 n o! o! o! A.1);have u:Blk 20 n (Sort.insertionSort lN d a n):=λc o g w l=>by rcases Aw c a with i|i;exact YT (VU (q7 c g i) A.1 (.inl (g.lt q5 i))) w;rcases Aw a c with E|E;have:=q5.lt g E;exact λx y H I J=>absurd J o!;grind[YT]
 revert C u;generalize Sort.insertionSort lN d a n=d1;intro C u;refine AA (P:=λr=> ∃e:Array NE,r=e.toList/\uW 0 n d0 e) (AV (λ(s:Int×List NE)=> ∃(t:Nat) (e:Array NE),s.1=t/\s.2=e.toList/\1<=t/\t<=2097172/\Sort.PermIn 0 n d0 e/\Blk t n e) (λs=>n-s.1.toNat) ⟨20,d1,rfl,rfl,o!,o!,C,u⟩ ?_) λr h=>AB h;rintro⟨Y,Z⟩ ⟨t,e,H,I,J,g4,V,W⟩;dsimp only at H I;subst H I;unfold Ih;dsimp only;refine AC (λO=>?_) (λO=>AB ⟨e,rfl,V,W 0 n Mul.zero o! (Aq _)⟩);have U:wi (2*(t:Int))=((2*t:Nat):Int):=by rw[lW];omega
 have e3:wi ((t:Int)*2)=((2*t:Nat):Int):=by rw[lW];omega
 rw[U,e3];refine AA (P:=λ(r:Int×List NE)=> ∃(a:Nat) (f:Array NE),r.1=a/\r.2=f.toList/\a<=n/\n<a+2*t/\Mul (2*t) a/\Sort.PermIn 0 n d0 f/\(∀c,Mul (2*t) c->c<a->Sort.SortedIn lN c (c+2*t) f)/\ ∀c o,Mul t c->a<=c->o<=c+t->o<=n->Sort.SortedIn lN c o f) ?_ ?_;refine AV (λ(s:Int×(Int×List NE))=> ∃(a:Nat) (f:Array NE),s.1=a/\s.2.1=((a+2*t:Nat):Int)/\s.2.2=f.toList/\a<=n/\Mul (2*t) a/\Sort.PermIn 0 n d0 f/\(∀c,Mul (2*t) c->c<a->Sort.SortedIn lN c (c+2*t) f)/\ ∀c o,Mul t c->a<=c->o<=c+t->o<=n->Sort.SortedIn lN c o f) (λs=>n-s.1.toNat)
  ⟨0,e,rfl,k!,rfl,Bi _,Mul.zero,V,λc _ h=>absurd h o!,λc o g _ w l=>W c o g w l⟩ ?_
 rintro⟨Y,Z,s3⟩ ⟨a,f,k1,G,T,X,p,D,K,B⟩;dsimp only at k1 G T;subst k1 G T;have S:f.size=n:=by rw[D.1,hn]
 unfold Ii;dsimp only;refine AC (λQ=>?_) (λQ=>AB ⟨a,f,rfl,rfl,X,o!,p,D,K,B⟩);have N:wi ((a:Int)+(t:Int))=((a+t:Nat):Int):=by rw[lW];omega
 have e5:wi (((a+2*t:Nat):Int)+((2*t:Nat):Int))=((a+2*t+2*t:Nat):Int):=by rw[lW];omega
 rw[N,U,e5];apply AA (AD8 (d:=f) (a:=a) (m:=a+t) (b:=a+2*t) o! o! o! o! (B a (a+t) p.half (Aq _) (Aq _) o!) (B (a+t) (a+2*t) p.half.add o! o! o!));rintro r ⟨q,rfl,v,F⟩;have j:Nat.beq (List.length q.toList) (List.length f.toList)=true:=by rw[Dk,Dk,v.1];exact Jr _
 rw[j,cond_true];refine AB ⟨⟨a+2*t,q,rfl,rfl,rfl,o!,p.add,Sort.permIn_trans _ _ _ _ _ D (Sort.permIn_mono _ _ a (a+2*t) 0 n o! o! o! v),λc g w=>?_,λc o g w l i=>VU (B c o g o! l i) v (.inr w)⟩,?_⟩;rcases Aw c a with l|l;exact VU (K c g l) v (.inl (g.lt p l));have:c=a:=by rcases Aw a c with i|i;have:=p.lt g i;omega;omega
 rw[this];exact F;show n-((a+2*t:Nat):Int).toNat<n-((a:Nat):Int).toNat
 omega;rintro⟨v1,v2⟩ ⟨a,f,k1,G,T,X,p,D,K,B⟩;dsimp only at k1 G;subst k1 G;have S:f.size=n:=by rw[D.1,hn]
 dsimp only;have N:wi ((a:Int)+(t:Int))=((a+t:Nat):Int):=by rw[lW];omega
 rw[N];have z: ∀q:Array NE,Sort.PermIn a n f q->Sort.SortedIn lN a n q->(∃(L:Nat) (M:Array NE),((2*t:Nat):Int)=L/\q.toList=M.toList/\1<=L/\L<=2097172/\Sort.PermIn 0 n d0 M/\Blk L n M)/\n-((2*t:Nat):Int).toNat<n-((t:Nat):Int).toNat:=λq v F=>by refine⟨⟨2*t,q,rfl,rfl,o!,o!,Sort.permIn_trans _ _ _ _ _ D (Sort.permIn_mono _ _ a n 0 n o! o! o! v),λc o g w l=>?_⟩,o!⟩;rcases Aw c a with i|i;exact YT (VU (K c g i) v (.inl (g.lt p i))) w;rcases Aw a c with E|E;have:=p.lt g E;exact λx y H I J=>absurd J o!;rw[show c=a by omega];exact YT F l
 refine AC (λR=>AA (AD8 (d:=f) (a:=a) (m:=a+t) (b:=n) o! o! o! o! (B a (a+t) p.half (Aq _) (Aq _) o!) (B (a+t) n p.half.add o! o! (Aq _))) ?_) (λR=>AB (z f (Sort.permIn_refl _ _ _) (B a n p.half (Aq _) o! (Aq _))));rintro r ⟨q,rfl,v,F⟩;have j:Nat.beq (List.length q.toList) (List.length f.toList)=true:=by rw[Dk,Dk,v.1];exact Jr _
 rw[j,cond_true];exact AB (z q v F)
def ADj{l:List NE}(h:l.length<=1048576):As (Cz l ()) λr=>r.Perm l/\r.Pairwise λx y=>lN y x=false:=by
 unfold Cz;apply AA (zq (d0:=l.toArray) (n:=l.length) k! h);rintro r ⟨R,rfl,d,f⟩;have e:R.size=l.length:=by rw[d.1];simp
 have g:Nat.beq (List.length R.toList) (List.length l)=true:=by simp[e]
 rw[g,cond_true];refine AB ⟨?_,?_⟩;have:=d.2.2;rw[show R.extract 0 l.length=R by rw[<-e];exact kF,show l.toArray.extract 0 l.length=l.toArray by rw[show l.length=l.toArray.size by simp];exact kF]at this;exact this;rw[HF];intro i j k m b;have a:i<R.size:=by simpa using k
 have c:j<R.size:=by simpa using m
 have:=f i j (Bi _) b o!;rw[getElem!_pos R j c,getElem!_pos R i a]at this;simpa using this
def ACI(l:List NE):Prop:= ∀x∈l,∀y∈l,x≠y->x.1.2.2.1=y.1.2.2.1->x.1.2.1<y.1.1\/y.1.2.1<x.1.1
def ADd{N a:List NE}(W:N.length=a.length)(G:a.length≤256)(I: ∀e∈a,1≤e.1.1∧e.1.1≤e.1.2.1∧e.1.2.1≤1099511627776∧0≤e.1.2.2.1)(P:a.Pairwise λx y=>lN y x=false)(hn:a.Nodup)(O:ACI a):
  As (Aj (SL N a) (0,((-1),(0,([],[]))))) λr=>r=(a.map (·.1),a.map (·.2)):=by
 refine AV (λ(s:Int×(Int×(Int×(List AS×List Int))))=> ∃k:Nat,s.1=k/\k<=a.length/\s.2.2.2=((a.take k).map (·.1),(a.take k).map (·.2))/\((k=0/\s.2.1= -1)\/ ∃e,0<k/\a[k-1]? =some e/\s.2.1=e.1.2.2.1/\s.2.2.1=e.1.2.1)) (λs=>a.length-s.1.toNat) ⟨0,rfl,Bi _,rfl,.inl ⟨rfl,rfl⟩⟩ ?_;rintro⟨Y,R,Z,s4⟩ ⟨k,q1,q2,q3,q4⟩;dsimp only at q1 q3 q4;subst q1 q3;unfold SL;dsimp only;refine AC (λw=>?_) (λw=>AB ?_)
 ·simp only[len]at w;refine AA (AI) λv8 _=>?_;refine AA (AI) λv h=>?_;have z:a[k]? =some v:=by simpa using h.1
  obtain⟨S,T,U,V⟩:=I v h.2;have C:a.take (k+1)=a.take k++[v]:=by rw[Ct,z];rfl
  have X:(a.take k).length<=256:=by rw[BR];omega
  have j: ∀D:Int,D=v.1.2.2.1→As (Option.bind (app ((a.take k).map (·.1)) [v.1]) λf=>Option.bind (app ((a.take k).map (·.2)) [v.2]) λg=>some (Step.next (wi ((k:Int)+1),(D,(v.1.2.1,(f,g)))))) λ(st:Step (Int×(Int×(Int×(List AS×List Int)))) (List AS×List Int))=>match st with
    | .next i=>(∃d:Nat,i.1=d/\d<=a.length/\i.2.2.2=((a.take d).map (·.1),(a.take d).map (·.2))/\((d=0/\i.2.1= -1)\/ ∃e,0<d/\a[d-1]? =some e/\i.2.1=e.1.2.2.1/\i.2.2.1=e.1.2.1))/\a.length-i.1.toNat<a.length-((k:Nat):Int).toNat
    | .done r=>r=(a.map (·.1),a.map (·.2)):=λD A=>by
   refine AA (Ac w!) λf t=>?_;refine AA (Ac w!) λg u=>AB ⟨⟨k+1,?_,o!,?_,.inr ⟨v,o!,by rw[jV];exact z,A,rfl⟩⟩,?_⟩;show wi ((k:Int)+1)=_;rw[wip];show(f,g)=_;rw[t.1,u.1,C,Md,Md];rfl;show a.length-(wi ((k:Int)+1)).toNat<a.length-((k:Nat):Int).toNat
   rw[wip];omega
  have b: ∀n:Int,n<v.1.1->Nk (v.1,n)=some v.1:=λn hn=>by unfold Nk;have:decide (v.1.1>n)=true:=decide_eq_true hn;dsimp only;rw[this,cond_true]
  refine AM (λm=>?_) (λc=>?_);refine AC (λq=>absurd q o!) (λ_=>?_);rw[b 0 o!,AD];obtain⟨st,E,F⟩:=j v.1.2.2.1 rfl;exact⟨st,E,by cases st<;>exact F⟩;rcases q4 with⟨_,q4⟩|⟨e,q5,q6,q7,q8⟩;exact absurd (c.trans q4) o!;have B:e.1.2.1<v.1.1:=by
   have H:=BP q6;obtain⟨J,K⟩:=Kb.1 q6;obtain⟨L,M⟩:=Kb.1 z;have m:e≠v:=λp=>by have:=(HF.1 (Jq.1 hn)) (k-1) k J L o!;rw[K,M]at this;exact this p
   have o:=(HF.1 P) (k-1) k J L o!;rw[K,M]at o;have Q:=I e H;have l:e.1.2.2.1=v.1.2.2.1:=by rw[<-q7];exact c.symm
   rcases O e H v h.2 m l with p|p;exact p;simp only[lN,decide_eq_false_iff_not]at o;omega
  rw[q8];refine AC (λq=>absurd q o!) (λ_=>?_);rw[b _ B,AD];obtain⟨st,E,F⟩:=j R c.symm;exact⟨st,E,by cases st<;>exact F⟩
 simp only[len]at w;rw[BQ o!]
noncomputable def intR(a:AJ)(f:BG):Option NE:=
 match Gj (a,f)with
 |some (r,true)=>some (r,f.2.1)
 |_=>none
noncomputable def Dw(a:AJ):List NE:=a.2.2.1.filterMap (intR a)
def ADc{x:AJ}(h:VB x)(t:DS x):As (Aj (SJ x) (0,[])) λr=>r=Dw x/\r.length<=256/\ ∀e∈r,Zn e.1:=by
 obtain⟨⟨v,w,y,n,z,A,B⟩,a1,a2,a3,a4,a5,a6⟩:=id h;refine AV (λ(s:Int×NL)=>0<=s.1/\s.1<=x.2.2.1.length/\s.2.length<=s.1/\(∀e∈s.2,Zn e.1)/\s.2=(x.2.2.1.take s.1.toNat).filterMap (intR x)) (λ(s:Int×NL)=>((x.2.2.1.length:Int)-s.1).toNat) ⟨Ae _,d!,k!,λe a=>by simp at a,k!⟩ (λs q=>?_);obtain⟨u,C,D,j,k⟩:=q;unfold SJ;refine AC (λf=>?_) (λf=>AB ⟨?_,o!,j⟩);simp only[len]at f;have e:=Aa (x:=s.1+1);rw[e];refine AA (AI u f) λg m=>?_;have c:x.2.2.1.take (s.1+1).toNat=x.2.2.1.take s.1.toNat++[g]:=by rw[show(s.1+1).toNat=s.1.toNat+1 by omega,Ct,m.1];rfl
 refine Dx (iq n (t _ m.2)) λl d p=>AL (λb=>?_) (λb=>AB ⟨⟨d!,d!,d!,j,?_⟩,d!⟩);have hr:intR x g=some (l.1,g.2.1):=by unfold intR;rw[d];obtain⟨r,o⟩:=l;dsimp only at b;subst b;rfl
 refine AA (Ac w!) λE i=>AB ⟨⟨d!,d!,?_,λe a=>?_,?_⟩,d!⟩;have:=i.2.1;simp only[Bo,Ba]at this;dsimp only;omega;dsimp only at a;rw[i.1]at a;rcases Ao.1 a with a|a;exact j e a;rw[BC.1 a];exact p b;dsimp only;rw[c,rG,i.1,k];simp[hr];have hr:intR x g=none:=by unfold intR;rw[d];obtain⟨r,o⟩:=l;dsimp only at b;subst b;rfl
 dsimp only;rw[c,rG,k];simp[hr];simp only[len]at f;rw[k,BQ o!];rfl
def AAN{x:AJ}(h:VB x)(m:DS x)(hn:(Dw x).Nodup)(b:ACI (Dw x)):As (Jt x) λr=> ∃v:List NE,v.Perm (Dw x)/\(v.Pairwise λp q=>lN q p=false)/\r=(v.map (·.1),v.map (·.2))/\v.length<=256/\ ∀e∈v,Zn e.1:=by
 unfold Jt;refine AA (Kp h) λt j=>?_;rw[j,Cm,cond_false];refine AA (ADc h m) λu k=>?_;obtain⟨rfl,g,s⟩:=k;refine AA (ADj o!) λf a=>?_;have i:=a.1.length_eq;have l:Nat.beq (List.length f) (List.length (Dw x))=true:=by rw[i];exact Jr _
 rw[l,cond_true];have c: ∀e∈f,Zn e.1:=λe d=>s e (a.1.mem_iff.1 d);refine AA (ADd i.symm o! (λe d=>?_) a.2 (a.1.nodup_iff.2 hn) (λp n q o=>b p (a.1.mem_iff.1 n) q (a.1.mem_iff.1 o))) λr hr=>AB ⟨f,a.1,a.2,hr,o!,c⟩;have:=c e d;exact⟨this.1,this.2.1,this.2.2.1,this.2.2.2.1⟩
def qi(l:List (Int×Int))(n:Int):Prop:= ∃s∈l,s.1<=n/\n<=s.2
def u6{l:List (Int×Int)}{u b:Int}(p:l.length<=16777216):As (Aj (SN (l,u)) (0,b)) λr=>(∀q,r= .inl q->0<=q.1/\q.1<l.length/\q.2=b/\ ∀e,l[q.1.toNat]? =some e->e.1<=b/\b<=e.2)/\(∀q,r= .inr q->q=b/\ ¬qi l b):=by refine AV (λ(s:Int×Int)=>0<=s.1/\s.1<=l.length/\s.2=b/\ ∀e∈l.take s.1.toNat,¬(e.1<=b/\b<=e.2)) (λ(s:Int×Int)=>((l.length:Int)-s.1).toNat) ⟨Ae _,d!,rfl,k!⟩ (λt n=>?_);obtain⟨k,v,m,g⟩:=n;unfold SN;refine AC (λd=>?_) (λd=>AB ⟨λu c=>(by cases c),λu c=>?_⟩);simp only[len]at d;have e:=Aa (x:=t.1+1);rw[e];refine AA (AI k d) λw h=>?_;unfold Ti;rw[has_eq,AD,AD,m];refine AL (λf=>AB ⟨λu c=>?_,λu c=>(by cases c)⟩) (λi=>AB ⟨⟨d!,d!,rfl,λe a=>?_⟩,d!⟩);cases c;refine⟨k,d,rfl,λe a=>?_⟩;dsimp only at a;rw[h.1]at a;injection a with a;subst a;unfold PY at f;simp only[BU,decide_eq_true_eq]at f;exact f;dsimp only at a;rw[show(t.1+1).toNat=t.1.toNat+1 by omega,Ct,h.1]at a;rcases Ao.1 a with a|a;exact g e a;rw[jY,BC]at a;subst a;intro j;unfold PY at i;simp only[Bool.and_eq_false_iff,decide_eq_false_iff_not]at i;omega;cases c;simp only[len]at d;rw[BQ o!]at g;exact⟨m,by rw[show qi l b↔ ∃s∈l,s.1<=b/\b<=s.2 from Iff.rfl];rintro⟨s,o,j⟩;exact g s o j⟩
def wb{l:List (Int×Int)}{u:Int}(h:SpL l)(w:0<=u)(A:u<=1099511627776):As (G8 (l,u)) λr=>0<=r/\r<=u/\(∀n,r<n->n<=u->qi l n)/\(r=0\/ ¬qi l r):=by obtain⟨a1,a2⟩:=h;unfold G8;refine AA (P:=λr=>0<=r/\r<=u/\(∀n,r<n->n<=u->qi l n)/\(r=0\/ ¬qi l r)) ?_ λr hr=>AB hr;refine AV (λ(s:Int)=>0<=s/\s<=u/\ ∀n,s<n->n<=u->qi l n) (λ(s:Int)=>s.toNat) ⟨w,Ae _,λn k m=>by dsimp only at k;omega⟩ (λs v=>?_);obtain⟨p,t,g⟩:=v;unfold SM;refine AA (u6 (b:=s) a1) λr hr=>A6 (λq f=>?_) (λq f=>?_);obtain⟨i,j,y,z⟩:=hr.1 q f;refine AC (λd=>absurd d o!) (λ_=>AC (λd=>AB ?_) (λB=>?_));rw[y]at d⊢;exact⟨p,t,g,.inl o!⟩;refine AA (AI i j) λa c=>?_;have q1:=z a c.1;have q2:=a2 a c.2;have e:=Aa (x:=a.1-1);rw[e];refine AB ⟨⟨o!,o!,λn k m=>?_⟩,o!⟩;rcases gp s n with o|o;exact g n o m;exact⟨a,c.2,o!⟩;obtain⟨i,j⟩:=hr.2 q f;rw[i];exact AB ⟨p,t,g,.inr j⟩
def rU{x:AJ}(h:VB x):x.2.2.1.Pairwise λf g=>f.2.1<g.2.1:=by
 have c:=h.2.2.2.2.2.2.2;rw[HF];have step: ∀n i:Nat,∀(a:i<x.2.2.1.length) (b:i+1+n<x.2.2.1.length),(x.2.2.1[i]).2.1<(x.2.2.1[i+1+n]).2.1:=by
  intro n;induction n with
  |zero=>intro i a b;exact c i _ _ o! (Au a) (Au b)
  |succ n m=>intro i a b;have d:=m i a o!;have k:=c (i+1+n) _ _ o! (Au o!) (Au b);exact Int.lt_trans d k
 intro i j a b l;have:=step (j-(i+1)) i a o!;have e:i+1+(j-(i+1))=j:=o!
 simp only[e]at this;exact this
theorem sS{x:AJ}(h:VB x):((Dw x).map (·.2)).Pairwise (· < ·):=by
 unfold Dw;rw[Pz,List.pairwise_filterMap];refine(rU h).imp λ{f g} b y a z c=>?_;have one: ∀(f:BG) (y:NE),intR x f=some y->y.2=f.2.1:=λf y a=>by unfold intR at a;split at a;injection a with a;rw[<-a];cases a
 rw[one f y a,one g z c];exact b
def TD{x:AJ}(h:VB x):(Dw x).Nodup:=by have:=sS h;rw[Pz]at this;exact Jq.2 (this.imp λh e=>by rw[e]at h;omega)
def AF7{a:AJ}{l:Af}{p i j:Int}{Q:List (Int×Int)}{d:Int×Int}{r:AS}{W:List (Int×EN)}{u:Int}{P:EN→Prop}(hr:r.2.2.2.2.2.length≤4096)(Y:Q[0]? =some d)(hm:Pu W P)(hn:0≤u∧u≤1099511627776)
  (S: ∀v∈r.2.2.2.2.2,JM p i j v=true->(PY d v.1=true->P v)/\ ∀e,(P e\/(e∈r.2.2.2.2.2/\JM p i j e=true))->e.1=v.1->e=v):
  As (Aj (Vd (a,(l,(p,(i,j)))) Q r) (0,(W,(u,([],0))))) λq=> ∃m n,q= .inl (m,(n,([],0)))/\Pu m (λe=>P e\/(e∈r.2.2.2.2.2/\JM p i j e=true))/\n=u+((r.2.2.2.2.2.filter λe=>JM p i j e&&PY d e.1).length:Int):=by
 generalize hL:r.2.2.2.2.2=L at hr S⊢;refine AV (λ(s:Int×(List (Int×EN)×(Int×(List EN×Int))))=>0<=s.1/\s.1<=L.length/\s.2.2.2=([],0)/\s.2.2.1=u+(((L.take s.1.toNat).filter λe=>JM p i j e&&PY d e.1).length:Int)/\Pu s.2.1 λe=>P e\/(e∈L.take s.1.toNat/\JM p i j e=true)) (λs=>((L.length:Int)-s.1).toNat)
  ⟨Ae _,d!,rfl,k!,hm.congr λe=>k!⟩ (λs Z=>?_)
 obtain⟨c,E,F,s4⟩:=s;obtain⟨U,i2,V,C,z⟩:=Z;dsimp only at U i2 V C z;subst V;unfold Vd;dsimp only;rw[hL];refine AC (λf=>?_) (λf=>AB ?_);simp only[len]at f;have X:=Aa (x:=c+1);rw[X];refine AA (AI U f) λv R=>?_;rw[dC,AD];have o:L.take (c+1).toNat=L.take c.toNat++[v]:=by rw[show(c+1).toNat=c.toNat+1 by omega,Ct,R.1];rfl
 have k:JM p i j v=false->(0<=c+1/\c+1<=L.length/\(([],0):List EN×Int)=([],0)/\F=u+(((L.take (c+1).toNat).filter λe=>JM p i j e&&PY d e.1).length:Int)/\Pu E λe=>P e\/(e∈L.take (c+1).toNat/\JM p i j e=true))/\((L.length:Int)-(c+1)).toNat<((L.length:Int)-c).toNat:=λy=>by
  refine⟨⟨o!,o!,rfl,?_,?_⟩,o!⟩;rw[o,Ip,C];simp[y];rw[o];refine z.congr λe=>⟨?_,?_⟩
  rintro(h|h);exact .inl h;exact .inr ⟨Ao.2 (.inl h.1),h.2⟩;rintro(h|⟨h,w⟩);exact .inl h;rcases Ao.1 h with h|h;exact .inr ⟨h,w⟩;rw[BC.1 h,y]at w;cases w
 refine AL (λG=>?_) (λG=>AB (k (by simp[JM,G])));refine AL (λH=>?_) (λH=>AB (k (by simp[JM,H])));refine AL (λI=>?_) (λI=>AB (k (by unfold JM;rw[I];simp)));refine AP (λJ=>AB (k (by unfold JM;rw[J];simp))) (λJ=>?_);have y:JM p i j v=true:=by unfold JM;rw[G,H,I,J];rfl
 have O:ix Q 0=some d:=by unfold ix;rw[if_pos (Ae _)];exact Y
 rw[O,AD,has_eq,AD];obtain⟨M,A⟩:=S v R.2 y;have t:Pu (T9 v.1 v E) λe=>P e\/(e∈L.take (c+1).toNat/\JM p i j e=true):=by
  rw[o];refine z.put.congr λe=>⟨?_,λh=>?_⟩
  rintro(rfl|⟨h|h,_⟩);exact .inr ⟨Ao.2 (.inr (BC.2 rfl)),y⟩;exact .inl h;exact .inr ⟨Ao.2 (.inl h.1),h.2⟩;by_cases g:e=v;exact .inl g;rcases h with h|⟨h,w⟩;exact .inr ⟨.inl h,λN=>g (A e (.inl h) N)⟩;rcases Ao.1 h with h|h;exact .inr ⟨.inr ⟨h,w⟩,λN=>g (A e (.inr ⟨Fl h,w⟩) N)⟩;exact absurd (BC.1 h) g
 have T:(((L.take c.toNat).filter λe=>JM p i j e&&PY d e.1).length:Int)<=4096:=by have h1:=Fe (λe=>JM p i j e&&PY d e.1) (L.take c.toNat);have h3:=List.length_take_le' c.toNat L;omega
 have K:=Aa (x:=F+1);rw[K];have B: ∀b:Bool,PY d v.1=b->u+((((L.take (c+1).toNat).filter λe=>JM p i j e&&PY d e.1).length:Nat):Int)=F+(if b=true then 1 else 0):=λb hb=>by rw[o,Ip,Ag,C];cases b<;>simp[y,hb]<;>omega
 refine AL (λD=>?_) (λD=>AB ⟨⟨d!,d!,rfl,?_,t⟩,d!⟩);have hg:OG v.1 E=some v:=z.get (.inl (M D));rw[hg];simp only[Option.isSome_some,Cm,cond_false,jX,beq_self_eq_true,WQ];refine AB ⟨⟨d!,d!,rfl,?_,t⟩,d!⟩;rw[B true D];rfl;rw[B false D];simp;simp only[len]at f;rw[BQ o!]at C z;exact⟨E,F,rfl,z,C⟩
def Jz(low:Int)(rs:List AS):List EN:=(rs.filter λr=>r.2.2.1==low).flatMap λr=>r.2.2.2.2.2
def AF6{a:AJ}{l:Af}{p i j:Int}{X:List (Int×Int)}{sp:Int×Int}{b:Int×(Int×Bool)}{c:List AS}{E:List Int}{W:List (Int×EN)}{P:EN→Prop}(Z:X[0]? =some sp)(hm:Pu W P)
  (U:c.length=E.length) (T:c.length<=256) (hr: ∀r∈c,r.2.2.2.2.2.length<=4096)
  (hc: ∀v∈Jz b.1 c,JM p i j v=true->(PY sp v.1=true->P v)/\ ∀e,(P e\/(e∈Jz b.1 c/\JM p i j e=true))->e.1=v.1->e=v):
  As (Aj (Vc (a,(l,(p,(i,j)))) X b (c,E)) (0,(W,(0,([],0))))) λq=> ∃m n,q= .inl (m,(n,([],0)))/\Pu m (λe=>P e\/(e∈Jz b.1 c/\JM p i j e=true))/\n=(((Jz b.1 c).filter λe=>JM p i j e&&PY sp e.1).length:Int):=by
 have B: ∀k:Nat,(Jz b.1 (c.take k)).length<=k*4096:=by
  intro k;induction k with
  |zero=>simp[Jz]
  |succ k ih=>rw[Ct];grind[Jz,List.length_append,Nat.succ_mul,Nat.add_le_add]
 refine AV (λ(s:Int×(List (Int×EN)×(Int×(List EN×Int))))=>0<=s.1/\s.1<=c.length/\s.2.2.2=([],0)/\s.2.2.1=(((Jz b.1 (c.take s.1.toNat)).filter λe=>JM p i j e&&PY sp e.1).length:Int)/\Pu s.2.1 λe=>P e\/(e∈Jz b.1 (c.take s.1.toNat)/\JM p i j e=true)) (λs=>((c.length:Int)-s.1).toNat)
  ⟨Ae _,d!,rfl,by simp[Jz],hm.congr λe=>by simp[Jz]⟩ (λs hI=>?_)
 have⟨d,s2,S,s4⟩:=s;have⟨R,i2,V,C,D⟩:=hI;dsimp only at R i2 V C D;subst V;unfold Vc;dsimp only;refine AC (λo=>?_) (λo=>AB ?_);simp[len]at o;have Y:=Aa (x:=d+1);rw[Y];refine AA (AI R o) λv G=>?_;have t:c.take (d+1).toNat=c.take d.toNat++[v]:=by rw[show(d+1).toNat=d.toNat+1 by omega,Ct,G.1];rfl
 refine AL (λF=>?_) (λF=>AB ⟨⟨d!,d!,rfl,?_,?_⟩,d!⟩);refine AA (AI R) λad _=>?_;have u: ∀e∈v.2.2.2.2.2,e∈Jz b.1 c:=λe g=>Hh.2 ⟨v,BM.2 ⟨G.2,F⟩,g⟩;have z: ∀e∈Jz b.1 (c.take d.toNat),e∈Jz b.1 c:=λe g=>by have⟨r,L,M⟩:=Hh.1 g;have⟨N,O⟩:=BM.1 L;exact Hh.2 ⟨r,BM.2 ⟨Fl N,O⟩,M⟩
 have K:0<=S/\S<=1099511627776:=by
  have h1:=Fe (λe=>JM p i j e&&PY sp e.1) (Jz b.1 (c.take d.toNat));have h2:=B d.toNat
  omega
 have f:Jz b.1 (c.take d.toNat++[v])=Jz b.1 (c.take d.toNat)++v.2.2.2.2.2:=by grind[Jz]
 refine AA (AF7 (hr v G.2) Z D K λw hw Q=>?_) ?_;have⟨q1,q2⟩:=hc w (u w hw) Q;refine⟨λh=>.inl (q1 h),λe g H=>q2 e ?_ H⟩;rcases g with(g|⟨g,y⟩)|⟨g,y⟩;exact .inl g;exact .inr ⟨z e g,y⟩;exact .inr ⟨u e g,y⟩;rintro q ⟨m,n,rfl,I,J⟩;refine BK (AB ⟨⟨d!,d!,rfl,?_,?_⟩,d!⟩);dsimp only;rw[t,f,J,C,Ip,Ag];omega;dsimp only;rw[t,f];refine I.congr λe=>?_;rw[Ao];constructor;rintro((h|⟨h,A⟩)|⟨h,A⟩);exact .inl h;exact .inr ⟨.inl h,A⟩;exact .inr ⟨.inr h,A⟩;rintro(h|⟨h|h,A⟩);exact .inl (.inl h);exact .inl (.inr ⟨h,A⟩);exact .inr ⟨h,A⟩;have f:Jz b.1 (c.take d.toNat++[v])=Jz b.1 (c.take d.toNat):=by unfold Jz;rw[Ip,Zt];simp[F]
 dsimp only;rw[t,f];exact C;have f:Jz b.1 (c.take d.toNat++[v])=Jz b.1 (c.take d.toNat):=by unfold Jz;rw[Ip,Zt];simp[F]
 dsimp only;rw[t,f];exact D;simp[len]at o;rw[BQ o!]at C D;exact⟨s2,S,rfl,D,C⟩
def Tw{l:List EN}:(l.map (·.1)).Nodup-> ∀{a b:EN},a∈l->b∈l->a.1=b.1->a=b:=by
 induction l with
 |nil=>intro _ a b d;cases d
 |cons p r f=>intro e a b d c h;rw[Bv,GB]at e;rcases Av.1 d with d|d;rcases Av.1 c with c|c;rw[d,c];exact absurd (by rw[<-d,h];exact R7 c) e.1;rcases Av.1 c with c|c;exact absurd (by rw[<-c,<-h];exact R7 d) e.1;exact f e.2 d c h
def ADJ{B:Nat}(j:CP B){l:List EN}(h:l.length<=B)(k:l.length<=16777216)(hn:(l.map (·.1)).Nodup):As (qH C7 l) λr=>r.Perm l/\r.Pairwise λa b=>a.1<b.1:=by
 have n:=List.pairwise_mergeSort (le:=λa b:EN=>decide (a.1<=b.1)) (λa b c o p=>by simp only[decide_eq_true_eq]at*;omega) (λa b=>by simp only[WT,decide_eq_true_eq];omega) l;have i:(l.mergeSort λa b:EN=>decide (a.1<=b.1)).Perm l:=List.mergeSort_perm _ _;have g:(l.mergeSort λa b:EN=>decide (a.1<=b.1)).Pairwise λa b=>a.1<=b.1:=n.imp λh=>of_decide_eq_true h;have key: ∀m,l.Perm m->C7 m ()=some (l.mergeSort λa b:EN=>decide (a.1<=b.1)):=λm f=>by have d:(m.map (·.1)).Nodup:=(f.map (·.1)).nodup_iff.1 hn;unfold C7 vq;rw[if_pos ⟨d,by rw[<-f.length_eq];exact k⟩,<-qR (key:=λe:EN=>e.1) d (i.trans f) g]
 refine⟨_,?_,i,?_⟩;unfold qH;rw[if_pos];exact key l (List.Perm.refl l);intro m f;rw[key m f,key l (List.Perm.refl l)];have d:=(i.map (·.1)).nodup_iff.2 hn;rw[Jq,Pz]at d;exact(g.and d).imp λh=>o!
def sH: ∀(n:Nat) (i:Int) (l:List Int),l.Nodup->(∀x∈l,i<x/\x<=i+n)->l.length<=n
 |0,i,l,_,h=>by
  cases l with
  |nil=>exact Aq _
  |cons a r=>have:=h a (Av.2 (.inl rfl));omega
 |n+1,i,l,hl,h=>by
  have d:=sH n i (l.erase (i+(n+1:Nat))) (hl.erase _) λx c=>by have b:=(hl.mem_erase_iff).1 c;have:=h x b.2;have:=b.1;omega
  have e:l.length<=(l.erase (i+(n+1:Nat))).length+1:=by rw[List.length_erase];split<;>omega
  omega
def Wb(i:Int)(s:List EN):Prop:= ∀(k:Nat) (e:EN),s[k]? =some e->(k=0->e.2.2.2.2.1<=i)/\ ∀f,0<k->s[k-1]? =some f->e.2.2.2.2.1=f.1
def AF5{a:AJ}{l:Af}{p i j:Int}{s:List EN}(O:s.length≤16777216):
  As (Aj (O9 (a,(l,(p,(i,j)))) s) (0,([],0))) λr=>(r= .inl ([],0)/\Wb i s)\/(r= .inr ([],13)/\ ¬Wb i s):=by
 refine AV (λ(t:Int×(List EN×Int))=>0<=t.1/\t.1<=s.length/\t.2=([],0)/\ ∀(k:Nat) (e:EN),k<t.1->s[k]? =some e->(k=0->e.2.2.2.2.1<=i)/\ ∀f,0<k->s[k-1]? =some f->e.2.2.2.2.1=f.1) (λt=>((s.length:Int)-t.1).toNat)
  ⟨Ae _,d!,rfl,λk e F=>(by dsimp only at F;omega)⟩ (λt K=>?_)
 obtain⟨b,P⟩:=t;obtain⟨C,L,G,D⟩:=K;dsimp only at C L G D;subst G;unfold O9;dsimp only;refine AC (λn=>?_) (λn=>AB (.inl ⟨rfl,λk e d=>D k e ?_ d⟩));simp only[len]at n;have I:=Aa (x:=b+1);rw[I];refine AA (AI C n) λM _=>AA (AI C n) λv h=>?_;have o:((b=0->v.2.2.2.2.1<=i)/\ ∀f,0<b->s[b.toNat-1]? =some f->v.2.2.2.2.1=f.1)->(0<=b+1/\b+1<=s.length/\(([],0):List EN×Int)=([],0)/\ ∀(k:Nat) (e:EN),k<b+1->s[k]? =some e->(k=0->e.2.2.2.2.1<=i)/\ ∀f,0<k->s[k-1]? =some f->e.2.2.2.2.1=f.1)/\((s.length:Int)-(b+1)).toNat<((s.length:Int)-b).toNat:=λE=>by
  refine⟨⟨o!,o!,rfl,λk e F d=>?_⟩,o!⟩;by_cases B:(k:Int)<b;exact D k e B d;have H:k=b.toNat:=o!
  subst H;rw[h.1]at d;injection d with d;subst d;exact⟨λy=>E.1 o!,λf y g=>E.2 f o! g⟩
 apply AQ<;>intro y;refine AC (λu=>AB (.inr ⟨rfl,λA=>?_⟩)) (λu=>?_);have:=(A b.toNat v h.1).1 o!;omega;refine AC (λm=>absurd m o!) (λ_=>AB (o ⟨λ_=>o!,λf g=>absurd g o!⟩));refine AC (λu=>?_) (λu=>absurd u o!);have w:=Aa (x:=b-1);rw[w];refine AA (AI) λN _=>AA (AI) λq z=>?_;have c:s[b.toNat-1]? =some q:=by rw[show b.toNat-1=(b-1).toNat by omega];exact z.1
 refine AM (λm=>AB (.inr ⟨rfl,λA=>m ((A b.toNat v h.1).2 q o! c)⟩)) (λm=>AB (o ⟨λJ=>absurd J y,λf _ g=>?_⟩));rw[c]at g;injection g with g;rw[<-g];exact m;simp only[len]at n;have:=(Kb.1 d).1;omega
def AF8{a:AJ}{l:Af}{p i j:Int}{s:List EN}(b:s.length≤16777216):
  As (Aj (O9 (a,(l,(p,(i,j)))) s) (0,([],0))) λr=>(r= .inl ([],0)/\Wb i s)\/(r= .inr ([],13)/\ ¬Wb i s):=AF5 b
def Pa(l:Af)(low:Int)(rs:List AS):List (Int×Int):=(l.1,l.1+l.2.1.length-1)::(rs.filter λr=>r.2.2.1==low).map λr=>(r.1,r.2.1)
def qS{a:AJ}{l:Af}{p:Int}{e:Int×(Int×Bool)}{b:List AS}{d:List Int}(B:Dg l)(m:G6 (a,p)=some e)(C:e.2.2=true)(n:Jt a=some (b,d))(u:b.length=d.length)(q:b.length≤256):
  PA (a,(l,p))=some (Pa l e.1 b):=by
 obtain⟨G,y,z⟩:=mY B;unfold PA;dsimp only;rw[y,AD,m,AD,C,Cm,cond_false,n,AD,z];have g:As (Aj (SO e (b,d)) (0,([(l.1,l.1+l.2.1.length-1)]:List (Int×Int)))) λr=>r=Pa l e.1 b:=by
  refine AV (λ(t:Int×List (Int×Int))=>0<=t.1/\t.1<=b.length/\t.2.length<=t.1.toNat+1/\t.2=Pa l e.1 (b.take t.1.toNat)) (λt=>((b.length:Int)-t.1).toNat) ⟨Ae _,d!,k!,rfl⟩ (λt A=>?_);obtain⟨i,F⟩:=t;obtain⟨o,D,E,k⟩:=A;dsimp only at o D E k;unfold SO;dsimp only;refine AC (λj=>?_) (λj=>AB ?_);simp only[len]at j;have w:=Aa (x:=i+1);rw[w];refine AA (AI o j) λv h=>?_;have f:b.take (i+1).toNat=b.take i.toNat++[v]:=by rw[show(i+1).toNat=i.toNat+1 by omega,Ct,h.1];rfl
  refine AL (λc=>?_) (λc=>AB ⟨⟨d!,d!,d!,?_⟩,d!⟩);refine AA (AI o) λH _=>AA (Ac (by simp only[Bo,Ba];omega)) λI s=>AB ⟨⟨d!,d!,?_,?_⟩,d!⟩;have:=s.2.1;simp only[Bo,Ba]at this;dsimp only;omega;dsimp only;rw[s.1,k,f];unfold Pa;rw[Ip,Md,rI (by exact c)];rfl;dsimp only;rw[k,f];unfold Pa;rw[Ip,rH (by rw[c];decide)];simp;simp only[len]at j;rw[k,BQ o!]
 obtain⟨r,q1,q2⟩:=g;rw[q1,AD,q2]
def lL{l:List EN}:(l.map (·.1)).Nodup->l.Nodup:=by
 induction l with
 |nil=>intro _;exact OU
 |cons p r b=>intro a;rw[Bv,GB]at a;exact GB.2 ⟨λh=>a.1 (R7 h),b a.2⟩
def Dg.nodup{l:Af}(h:Dg l):(l.2.1.map (·.1)).Nodup:=by obtain⟨l1,l2,i,j,k,a⟩:=h;rw[Jq,Pz,HF];intro x y b d c g;have e:=(a x _ (Au b)).1;have f:=(a y _ (Au d)).1;omega
def Dg.has{l:Af}(h:Dg l){e:EN}(a:e∈l.2.1):PY (l.1,l.1+l.2.1.length-1) e.1=true:=by obtain⟨k,b,a⟩:=Ub.1 a;have c:=(h.2.2.2.2.2 k e (by rw[<-a];exact Au b)).1;unfold PY;simp only[BU,decide_eq_true_eq];omega
structure ADp(l:Af)(low p i j:Int)(rs:List AS):Prop where
 fromLog: ∀f∈Jz low rs,JM p i j f=true->PY (l.1,l.1+l.2.1.length-1) f.1=true->f∈l.2.1
 inRuns: ∀e∈l.2.1,JM p i j e=true->((rs.filter λr=>r.2.2.1==low).any λr=>PY (r.1,r.2.1) e.1)=true->e∈Jz low rs
 own: ∀r∈rs,∀f∈r.2.2.2.2.2,PY (r.1,r.2.1) f.1=true
 once:((Jz low rs).map (·.1)).Nodup
def AGa{B:Nat}{a:AJ}{l:Af}{p i j R:Int}{c:Int×(Int×Bool)}{b:List AS}{P:List Int}(V:CP B)(hB:B≤16777216)(ao:j-i≤B)(hi:0≤i)(hj:i≤j)
  (h:VB a) (D:Dg l) (hp:0<=p/\p<a.2.1) (L:G6 (a,p)=some c) (ht:c.2.2=true) (N:Jt a=some (b,P)) (w:b.length=P.length) (t:b.length<=256)
  (hr: ∀r∈b,r.2.2.2.2.2.length<=4096) (W:G8 (Pa l c.1 b,j)=some R) (z:ADp l c.1 p i j b):
  As (Ep (a,(l,(p,(i,j))))) λr=>(R>i/\r=([],42))\/(R<=i/\ ∃s:List EN,(s.Pairwise λx y=>x.1<y.1)/\(∀e,e∈s↔(e∈l.2.1\/e∈Jz c.1 b)/\JM p i j e=true)/\((Wb i s/\r=(s,0))\/(¬Wb i s/\r=([],13)))):=by
 have K:=D.nodup;unfold Ep;dsimp only;refine AA (Th (x:=(a,(l,(p,i)))) h D ⟨hp.1,hp.2,hi⟩) λv0 h0=>AM (λk=>absurd h0 k) (λ_=>AC (λk=>absurd k o!) (λ_=>?_));rw[qS D L ht N w t,AD,W,AD];refine AC (λhf=>AB (.inl ⟨hf,rfl⟩)) (λhf=>AA (AF3 D (by simp[Pa]) (by have:=Fe (λr:AS=>r.2.2.1==c.1) b;simp only[Pa,Bo,Bs];omega)) λal H=>?_);rw[L,AD,ht,Cm,cond_false,N,AD];have hP: ∀v∈Jz c.1 b,JM p i j v=true->(PY (l.1,l.1+l.2.1.length-1) v.1=true->(v∈l.2.1/\JM p i j v=true))/\ ∀e,((e∈l.2.1/\JM p i j e=true)\/(e∈Jz c.1 b/\JM p i j e=true))->e.1=v.1->e=v:=λv hv E=>by refine⟨λk=>⟨z.fromLog v hv E k,E⟩,λe u A=>?_⟩;rcases u with⟨u,_⟩|⟨u,_⟩;have ad:=z.fromLog v hv E (by rw[<-A];exact D.has u);exact Tw K u ad A;exact Tw z.once u hv A
 apply AA (AF6 (sp:=(l.1,l.1+l.2.1.length-1)) rfl H.2 w t hr hP);rintro q ⟨m,n,rfl,o,hn⟩;apply BK;dsimp only;have f:al.1=n:=by
  rw[H.1,hn];refine congrArg Int.ofNat (List.Perm.length_eq ?_)
  refine(jR ((lL K).filter _) ((lL z.once).filter _)).2 λe=>?_;rw[BM,BM];simp only[BU];have I:((Pa l c.1 b).tail.any λs=>PY s e.1)=((b.filter λr=>r.2.2.1==c.1).any λr=>PY (r.1,r.2.1) e.1):=by unfold Pa;rw[List.tail_cons,List.any_map];rfl
  rw[I];constructor;rintro⟨F,G,S⟩;exact⟨z.inRuns e F G S,G,D.has F⟩;rintro⟨F,G,S⟩;obtain⟨r,M,Y⟩:=Hh.1 F;exact⟨z.fromLog e F G S,G,ln.2 ⟨r,M,z.own r (BM.1 M).1 e Y⟩⟩
 refine AM (λk=>absurd f k) (λ_=>?_);have J: ∀q∈m,JM p i j q.2=true:=λq d=>by
  have:(q.2.1,q.2)∈m:=by rw[<-o.2.1 q d];exact d
  rcases(o.2.2 q.2).1 this with g|g;exact g.2;exact g.2
 have X:m.length<=B:=by
  have:=sH (j-i).toNat i (m.map (·.1)) o.1 λx hx=>by obtain⟨q,d,rfl⟩:=Bh.1 hx;have E:=J q d;have hk:=o.2.1 q d;unfold JM at E;simp only[BU,decide_eq_true_eq]at E;omega
  rw[Bs]at this;omega
 refine AC (λ_=>?_) (λk=>absurd k (by show¬ ¬((m.length:Int)<=16777216);omega));have C:((m.map (·.2)).map (·.1))=m.map (·.1):=by rw[Mf];exact Me λq d=>(o.2.1 q d).symm
 refine AA (ADJ V (l:=m.map (·.2)) (by rw[Bs];exact X) (by rw[Bs];omega) (by rw[C];exact o.1)) λs Q=>?_;have Z:s.length=m.length:=by rw[Q.1.length_eq,Bs]
 have U:Nat.beq (List.length s) (List.length m)=true:=by rw[Z];exact Jr _
 rw[U,cond_true];have O: ∀e,e∈s↔(e∈l.2.1\/e∈Jz c.1 b)/\JM p i j e=true:=λe=>by
  rw[Q.1.mem_iff];constructor;intro u;obtain⟨q,d,rfl⟩:=Bh.1 u;have:(q.2.1,q.2)∈m:=by rw[<-o.2.1 q d];exact d
  rcases(o.2.2 q.2).1 this with g|g;exact⟨.inl g.1,g.2⟩;exact⟨.inr g.1,g.2⟩;rintro⟨g,g'⟩;exact Bh.2 ⟨(e.1,e),(o.2.2 e).2 (g.imp (λg=>⟨g,g'⟩) (λg=>⟨g,g'⟩)),rfl⟩
 refine AA (AF8 o!) λr hr=>?_;rcases hr with⟨rfl,T⟩|⟨rfl,T⟩;exact BK (AB (.inr ⟨o!,s,Q.2,O,.inl ⟨T,rfl⟩⟩));exact A4 (AB (.inr ⟨o!,s,Q.2,O,.inr ⟨T,rfl⟩⟩))
def gZ{s t:List EN}(c:s.Pairwise λx y=>x.1<y.1)(d:t.Pairwise λx y=>x.1<y.1)(h: ∀e,e∈s↔e∈t):s=t:=by have nd: ∀{u:List EN},(u.Pairwise λx y=>x.1<y.1)->u.Nodup:=λg=>Jq.2 (g.imp λh e=>by rw[e]at h;omega);have f:=(jR (nd c) (nd d)).2 h;exact rE (le:=λa b=>a.1<b.1) (λa b _ _ i j=>o!) c d f
structure Zl(L:List EN)(r:AS):Prop where
 mem: ∀e,e∈r.2.2.2.2.2↔e∈L/\be e=true/\r.2.2.1<=e.2.2.2.2.2.2.1.1/\e.2.2.2.2.2.2.1.1<=r.2.2.2.1/\r.1<=e.1/\e.1<=r.2.1
 nd:(r.2.2.2.2.2.map (·.1)).Nodup
def AAU{L:List EN}{l:Af}{k:List AS}{b p i j:Int}(a: ∀e,e∈l.2.1↔e∈L∧l.1≤e.1∧e.1≤l.1+l.2.1.length-1)(hr: ∀r∈k,Zl L r)
  (t: ∀r∈k,r.2.2.1=b->b<=p/\p<=r.2.2.2.1) (h:(k.filter λr=>r.2.2.1==b).Pairwise λr s=>r.2.1<s.1\/s.2.1<r.1):ADp l b p i j k where
 fromLog f hf hw hh:=by obtain⟨r,c,g⟩:=Hh.1 hf;have d:=((hr r (BM.1 c).1).mem f).1 g;unfold PY at hh;simp only[BU,decide_eq_true_eq]at hh;exact(a f).2 ⟨d.1,o!⟩
 inRuns e o hw ha:=by obtain⟨r,c,g⟩:=ln.1 ha;have d:=BM.1 c;have q:r.2.2.1=b:=eq_of_beq d.2;have A:=t r d.1 q;unfold JM at hw;unfold PY at g;simp only[BU,decide_eq_true_eq,beq_iff_eq]at hw g;exact Hh.2 ⟨r,c,((hr r d.1).mem e).2 ⟨((a e).1 o).1,hw.1,o!⟩⟩
 own r hrr f hf:=by have d:=((hr r hrr).mem f).1 hf;unfold PY;simp only[BU,decide_eq_true_eq];omega
 once:=by unfold Jz;rw[List.map_flatMap,Jq,List.pairwise_flatMap];refine⟨λr c=>Jq.1 (hr r (BM.1 c).1).nd,?_⟩;refine lk ?_ h;intro r s c g d x u y v o;obtain⟨e,m,rfl⟩:=Bh.1 u;obtain⟨f,n,rfl⟩:=Bh.1 v;have w:=((hr r (BM.1 c).1).mem e).1 m;have z:=((hr s (BM.1 g).1).mem f).1 n;omega
def uv{L:List EN}{d:List AS}{a p i j:Int}(hr: ∀r∈d,Zl L r)(n: ∀r∈d,r.2.2.1=a→a≤p∧p≤r.2.2.2.1){e:EN}(l:JM p i j e=true):
  e∈Jz a d↔e∈L/\ ∃r∈d,r.2.2.1=a/\r.1<=e.1/\e.1<=r.2.1:=by
 unfold JM at l;simp only[BU,decide_eq_true_eq,beq_iff_eq]at l;constructor;intro h;obtain⟨r,f,b⟩:=Hh.1 h;obtain⟨c,k⟩:=BM.1 f;have g:=((hr r c).mem e).1 b;exact⟨g.1,r,c,eq_of_beq k,g.2.2.2.2.1,g.2.2.2.2.2⟩;rintro⟨f,r,b,c,k,m⟩;have g:=n r b c;exact Hh.2 ⟨r,BM.2 ⟨b,by simp[c]⟩,((hr r b).mem e).2 ⟨f,l.1,o!,o!,k,m⟩⟩
def fm(a:AJ)(l:Af)(low n:Int):Prop:=(l.1<=n/\n<=l.1+l.2.1.length-1)\/ ∃e∈Dw a,e.1.2.2.1=low/\e.1.1<=n/\n<=e.1.2.1
def AEI{B:Nat}{a:AJ}{l:Af}{L:List EN}{p i j:Int}{c:Int×(Int×Bool)}(O:CP B)(hB:B≤16777216)(P:j-i≤B)(Y:0≤i)(Z:i≤j)(hJ:j≤1099511627776)
  (h:VB a) (hd:DS a) (J:Dg l) (S:0<=p/\p<a.2.1) (G:G6 (a,p)=some c) (ht:c.2.2=true) (K:L.Pairwise λx y=>x.1<y.1) (b: ∀e,e∈l.2.1↔e∈L/\l.1<=e.1/\e.1<=l.1+l.2.1.length-1)
  (hR: ∀e∈Dw a,Zl L e.1) (z:ACI (Dw a)) (T: ∀e∈Dw a,e.1.2.2.1=c.1->c.1<=p/\p<=e.1.2.2.2.1):
  ∃k,(0<=k/\k<=j/\(∀n,k<n->n<=j->fm a l c.1 n)/\(k=0\/ ¬fm a l c.1 k))/\Pg (a,(l,(p,(i,j))))=some (decide (k<=i))/\As (Ep (a,(l,(p,(i,j))))) λr=>(k>i/\r=([],42))\/(k<=i/\((Wb i (L.filter (JM p i j))/\r=(L.filter (JM p i j),0))\/(¬Wb i (L.filter (JM p i j))/\r=([],13)))):=by
 obtain⟨q,H,v,E,w2,rfl,w4,w5⟩:=AAN h hd (TD h) z;have o: ∀r∈v.map (·.1),∃e∈Dw a,e.1=r:=λr hr=>by obtain⟨e,d,rfl⟩:=Bh.1 hr;exact⟨e,E.mem_iff.1 d,rfl⟩
 have D: ∀r∈v.map (·.1),Zl L r:=λr hr=>by obtain⟨e,d,rfl⟩:=o r hr;exact hR e d
 have C: ∀r∈v.map (·.1),r.2.2.1=c.1->c.1<=p/\p<=r.2.2.2.1:=λr hr=>by obtain⟨e,d,rfl⟩:=o r hr;exact T e d
 have U:((v.map (·.1)).filter λr=>r.2.2.1==c.1).Pairwise λr s=>r.2.1<s.1\/s.2.1<r.1:=by rw[List.filter_map,Pz];have R:v.Pairwise λx y=>x≠y:=Jq.1 (E.nodup_iff.2 (TD h));refine lk ?_ (R.filter _);intro x y hx hy Q;obtain⟨x1,x2⟩:=BM.1 hx;obtain⟨V,W⟩:=BM.1 hy;exact z x (E.mem_iff.1 x1) y (E.mem_iff.1 V) Q ((eq_of_beq x2).trans (eq_of_beq W).symm)
 have ad:(Pa l c.1 (v.map (·.1))).length<=257:=by have:=Fe (λr:AS=>r.2.2.1==c.1) (v.map (·.1));rw[Bs]at this;simp only[Pa,Bo,Bs];omega
 have M:SpL (Pa l c.1 (v.map (·.1))):=by refine⟨o!,λs f=>?_⟩;rcases Av.1 f with f|f;rw[f];exact J.1;obtain⟨r,hr,rfl⟩:=Bh.1 f;obtain⟨e,d,rfl⟩:=Bh.1 (BM.1 hr).1;exact(w5 e d).1
 have m: ∀n,qi (Pa l c.1 (v.map (·.1))) n↔fm a l c.1 n:=λn=>by constructor;rintro⟨s,f,t,w⟩;rcases Av.1 f with f|f;rw[f]at t w;exact .inl ⟨t,w⟩;obtain⟨r,hr,rfl⟩:=Bh.1 f;obtain⟨g1,I⟩:=BM.1 hr;obtain⟨e,d,rfl⟩:=o r g1;exact .inr ⟨e,d,eq_of_beq I,t,w⟩;rintro(⟨t,w⟩|⟨e,d,h0,t,w⟩);exact⟨_,Av.2 (.inl rfl),t,w⟩;exact⟨(e.1.1,e.1.2.1),Av.2 (.inr (Bh.2 ⟨e.1,BM.2 ⟨R7 (E.mem_iff.2 d),by simp[h0]⟩,rfl⟩)),t,w⟩
 obtain⟨k,F,f1,f2,X,f4⟩:=wb M (u:=j) o! hJ;refine⟨k,⟨f1,f2,λn t w=>(m n).1 (X n t w),f4.imp id λhh N=>hh ((m k).2 N)⟩,?_,?_⟩;obtain⟨v0,ev,hv⟩:=Th (x:=(a,(l,(p,i)))) h J ⟨S.1,S.2,Y⟩;unfold Pg;dsimp only;rw[ev,AD,beq_iff_eq.2 hv,cond_true,decide_eq_true Z,cond_true,qS J G ht H (by rw[Bs,Bs]) (by rw[Bs];exact w4),AD,F,AD];refine(AGa O hB P Y Z h J S G ht H (by rw[Bs,Bs]) (by rw[Bs];exact w4) (λr hr=>?_) F (AAU b D C U)).mono λr hr=>?_;obtain⟨e,d,rfl⟩:=Bh.1 hr;exact(w5 e d).2.2.2.2.2.2.2.2;rcases hr with hr|⟨hr,s,s1,s2,s3⟩;exact .inl hr;refine .inr ⟨hr,?_⟩;have f:s=L.filter (JM p i j):=gZ s1 (K.filter _) λe=>by rw[s2,BM];constructor;rintro⟨g|g,A⟩;exact⟨((b e).1 g).1,A⟩;exact⟨((uv D C A).1 g).1,A⟩;rintro⟨g,A⟩;refine⟨?_,A⟩;have I:=A;unfold JM at I;simp only[BU,decide_eq_true_eq]at I;rcases(m e.1).1 (X e.1 o! o!)with N|⟨y,V,W,y3,y4⟩;exact .inl ((b e).2 ⟨g,N⟩);exact .inr ((uv D C A).2 ⟨g,y.1,R7 (E.mem_iff.2 V),W,y3,y4⟩)
 rw[<-f];exact s3
end Go.Pm
