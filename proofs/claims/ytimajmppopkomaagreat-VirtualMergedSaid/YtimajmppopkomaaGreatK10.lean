/- What these functions answer, part 10. Texts of the folder wip, laid in few files with shorter names by a program (wip/tools/pack.py); nothing is assumed. -/
import Derived.Test.YtimajmppopkomaaGreatK9
import Derived.Sort.AssemblyPlain
import Derived.KernelRfl
noncomputable section
set_option linter.unusedVariables false
set_option linter.unusedSimpArgs false
set_option linter.unusedSectionVars false
set_option linter.defProp false
set_option linter.unnecessarySimpa false
set_option linter.deprecated false
namespace Go.Pm
open Go Go.Ab
def Yj{x p:Bb}{c:Bb×Int×Int}{k:Nat}(h:CS x p c)(o:x.length<=1099511627776)(q:1<=k)(m:k<=8):A3 (Bj c (k:Int)) λr=>CS x (p++D9 r.1 k) r.2/\(r.2.2.2=0->aE k r.1)/\(c.2.2≠0->r=(0,c)):=by obtain⟨s,i,e⟩:=c;obtain⟨j,l⟩:=h;subst j;refine AL (λd=>AA ⟨⟨rfl,λb=>absurd b d⟩,λb=>absurd b d,λ_=>rfl⟩) (λd=>?_);subst d;obtain⟨a,hr,n⟩:=l rfl;subst hr n;rw[Af]at o;rw[Xd (by omega) (by omega) (by omega)];by_cases g:(k:Int)<=a.length;rw[if_pos g,AE,Df];obtain⟨q1,q2⟩:=mf (t:=a) (k:=k) (by omega) m;refine AA ⟨⟨rfl,λ_=>⟨a.drop k,?_,?_⟩⟩,λ_=>q1,λf=>absurd rfl f⟩;simp_all;dsimp only;rw[AY,Af,BB];omega;rw[if_neg g,AE];exact AA ⟨⟨rfl,λb=>absurd (show(5:Int)=0 from b) (by decide)⟩,λb=>absurd (show(5:Int)=0 from b) (by decide),λf=>absurd rfl f⟩
def zR{x p:Bb}{c:Bb×Int×Int}{n:Int}(h:CS x p c)(l:x.length<=1099511627776)(hn:c.2.2=0->0<=n/\n<4294967296):A3 (Ev c n) λr=>CS x (p++r.1) r.2/\(r.2.2.2=0->(r.1.length:Int)=n/\c.2.2=0):=by
 obtain⟨s,f,e⟩:=c;obtain⟨g,i⟩:=h;subst g;unfold Ev;by_cases d:e=0;subst d;obtain⟨a,hr,j⟩:=i rfl;obtain⟨o,t⟩:=hn rfl;subst hr j;obtain⟨m,rfl⟩:=Ei o;rw[Af]at l;rw[show wi (((p++a).length:Int)-(p.length:Int))=a.length by rw[Af,AY];omega];by_cases q:(m:Int)<=a.length;rw[decide_eq_false (by omega),cond_false,AE,show((0:Int) !=0)=false by decide,cond_false];have k:TH (p++a) (wi (wi ((p.length:Int)+(m:Int))-(m:Int))) (wi ((p.length:Int)+(m:Int)))=some (a.take m):=by rw[AY (x:=(p.length:Int)+(m:Int)),AY];unfold TH;rw[if_pos (by grind),show((p.length:Int)+(m:Int)-(m:Int)).toNat=p.length by omega,Po,show((p.length:Int)+(m:Int)).toNat-p.length=m by omega]
 rw[k,AE];refine AA ⟨⟨rfl,λ_=>⟨a.drop m,?_,?_⟩⟩,λ_=>⟨?_,by grind⟩⟩;simp_all;dsimp only;rw[AY,Af,Bh];omega;grind;rw[decide_eq_true (by omega),cond_true,AE,show((5:Int) !=0)=true by decide,cond_true];exact AA ⟨⟨rfl,λb=>absurd (show(5:Int)=0 from b) (by decide)⟩,λb=>absurd (show(5:Int)=0 from b) (by decide)⟩;rw[beq_false_of_ne d,cond_false,bne_iff_ne.2 d,cond_true];exact AA ⟨⟨rfl,λb=>absurd b d⟩,λb=>absurd b d⟩
theorem zP{x p:Bb}{c:Bb×Int×Int}(h:CS x p c)(j:x.length<=1099511627776):A3 (Eu c ()) λr=>CS x (p++Ws r.1) r.2/\(r.2.2.2=0->IA r.1):=by
 refine AB (Yj (k:=1) h j (by decide) (by decide)) λv o=>?_;obtain⟨⟨g,l⟩,s,z⟩:=o;refine AL (λd=>AA ⟨⟨g,λa=>absurd a d⟩,λa=>absurd a d⟩) (λd=>?_);obtain⟨f,hr,i⟩:=l d;have y:=(s d).1 (by decide);refine AU (λb=>AA ⟨⟨g,λ_=>⟨f,?_,?_⟩⟩,λ_=>⟨Bt _,.inr rfl⟩⟩) (λb=>?_);dsimp only;rw[b]at hr;exact hr;dsimp only;rw[b]at i;exact i;refine AC (λ_=>AA ⟨⟨g,λa=>absurd (show(4:Int)=0 from a) (by decide)⟩,λa=>absurd (show(4:Int)=0 from a) (by decide)⟩) (λn=>AB (zR (x:=x) (p:=p++D9 v.1 1) ⟨g,l⟩ j (λ_=>⟨by omega,by omega⟩)) λw q=>AA ?_);obtain⟨⟨t,A⟩,u⟩:=q;refine⟨⟨t,λa=>?_⟩,λa=>?_⟩;dsimp only at a⊢;obtain⟨m,_⟩:=u a;have e:Ws (true,w.1)=D9 v.1 1++w.1:=by unfold Ws;rw[cond_true,m]
 grind;dsimp only at a⊢;exact⟨by grind,.inl rfl⟩
def WW{x p a:Bb}{n:Int}{k:Nat}(c:x=p++(D9 n k++a))(f:x.length<=1099511627776)(e:1<=k)(d:k<=8)(hn:aE k n):Bj (x,((p.length:Int),0)) (k:Int)=some (n,(x,(((p++D9 n k).length:Int),0))):=by
 have b:=congrArg List.length c;simp only[Af,BB]at b;unfold Bj;dsimp only;rw[show((0:Int) !=0)=false by decide,cond_false];conv=>lhs;arg 1;rw[c]
 rw[Xd (by grind) (by omega) (by omega),if_pos (by grind),AE,Df,MD (BB _ _),kw d hn];rw[Af,BB];rw[AY];rfl
def zQ{x p w a:Bb}(c:x=p++(w++a))(e:x.length<=1099511627776):Ev (x,((p.length:Int),0)) (w.length:Int)=some (w,(x,(((p++w).length:Int),0))):=by
 have b:=congrArg List.length c;simp at b;unfold Ev;rw[show decide (wi ((x.length:Int)-(p.length:Int))<(w.length:Int))=false from decide_eq_false (by rw[AY];omega),cond_false];rw[AE,show((0:Int) !=0)=false by decide,cond_false];dsimp only;have d:TH x (wi (wi ((p.length:Int)+(w.length:Int))-(w.length:Int))) (wi ((p.length:Int)+(w.length:Int)))=some w:=by rw[AY (x:=(p.length:Int)+(w.length:Int)),AY];unfold TH;rw[if_pos (by omega),c,show((p.length:Int)+(w.length:Int)-(w.length:Int)).toNat=p.length by omega,Po,show((p.length:Int)+(w.length:Int)).toNat-p.length=w.length by omega,Vm]
 rw[d,AE,AY,Af];rfl
def zO{x p a:Bb}{c:Cv}(e:x=p++(Ws c++a))(f:x.length<=1099511627776)(j:IA c):Eu (x,((p.length:Int),0)) ()=some (c,(x,(((p++Ws c).length:Int),0))):=by
 obtain⟨b,d⟩:=c;obtain⟨h,i⟩:=j;dsimp only at h i;unfold Eu;cases b with
 |false=>
  have k:d=[]:=by grind
  subst k;rw[show(1:Int)=((1:Nat):Int)from rfl,WW e f (by decide) (by decide) ⟨λ_=>by decide,by decide,by decide⟩];rfl
 |true=>have g:Ws (true,d)=D9 (d.length:Int) 1++d:=rfl;rw[g,A0]at e;rw[g];rw[show(1:Int)=((1:Nat):Int)from rfl,WW e f (by decide) (by decide) ⟨λ_=>by grind,by omega⟩,AE];rw[show((0:Int) !=0)=false by decide,cond_false,show((d.length:Int)==255)=false by grind,cond_false,decide_eq_false (by omega),cond_false];rw[zQ (by rw[e,A0]) f,AE,A0]
def AC0{x:Bb}(a:x.length<=1099511627776):A3 (Iw x) λr=>r.2=0->x=Bw r.1/\IA r.1.2.2.2.2.2.2.1.2.2.1/\IA r.1.2.2.2.2.2.2.1.2.2.2/\aE 4 (r.1.2.2.2.2.2.2.2.length:Int)/\GD r.1=some true:=by
 unfold Iw;have I:CS x [] (x,(0,0)):=⟨rfl,λ_=>⟨x,rfl,rfl⟩⟩
 refine AB (Yj (k:=8) I a (by decide) (by decide)) λO y=>?_;refine AB (Yj (k:=1) y.1 a (by decide) (by decide)) λP z=>?_;refine AB (Yj (k:=4) z.1 a (by decide) (by decide)) λQ A=>?_;refine AB (Yj (k:=8) A.1 a (by decide) (by decide)) λR B=>?_;refine AB (Yj (k:=8) B.1 a (by decide) (by decide)) λS C=>?_;refine AB (Yj (k:=8) C.1 a (by decide) (by decide)) λT D=>?_;refine AB (Yj (k:=4) D.1 a (by decide) (by decide)) λU E=>?_;refine AB (Yj (k:=1) E.1 a (by decide) (by decide)) λV F=>?_;refine Dr (zP F.1 a) λq M o=>?_;refine Dr (zP o.1 a) λs w p=>?_;refine AB (Yj (k:=4) p.1 a (by decide) (by decide)) λj b=>?_;refine AB (zR (n:=j.1) b.1 a (λc=>?_)) λJ f=>?_;have:=(b.2.1 c).1 (by decide);rw[show(256:Int)^4=4294967296 by decide]at this;exact this;refine AL (λh=>AA λc=>absurd c h) (λh=>?_);refine AL (λ_=>AA λc=>absurd c (by decide)) (λG=>?_);refine Dr (JZ) λK i _=>?_;refine AO (λ_=>AA λc=>absurd c (by decide)) (λH=>AA λ_=>?_);subst H;obtain⟨q11,d⟩:=f.2 h;have l:s.2.2.2=0:=Rk λe=>by have:=b.2.2 e;rw[this]at d;exact e d
 have u:=p.2 l;have L:q.2.2.2=0:=Rk λe=>by
  have:s=((false,[]),q.2):=by have:=w;unfold Eu Bj at this;rw[bne_iff_ne.2 e,cond_true,AE,bne_iff_ne.2 e,cond_true]at this;injection this with this;exact this.symm
  rw[this]at l;exact e l
 have t:=o.2 L;obtain⟨g,m,N⟩:=f.1.2 h;have hr:g=[]:=by simp only[len]at G;have v:=congrArg List.length m;rw[Af]at v;exact EU (by omega)
 subst hr;refine⟨?_,t,u,?_,i⟩;rw[m];unfold Bw;dsimp only;rw[q11];simp only[A0,Cy,D8];dsimp only;rw[q11];exact b.2.1 d
def ACz{e:AD}(h:K8 e):Iw (Bw e)=some (e,0):=by
 obtain⟨s,t,H,w,y,z,A,B,C,D,E⟩:=h.cells;have I:=Qm h;have g:aE 4 (e.2.2.2.2.2.2.2.length:Int):=⟨λ_=>by rw[show(256:Int)^4=4294967296 by decide];omega,by omega⟩
 have a:Bw e=[]++(D9 e.1 8++(D9 e.2.1 1++(D9 e.2.2.1 4++(D9 e.2.2.2.1 8++(D9 e.2.2.2.2.1 8++(D9 e.2.2.2.2.2.1 8++(D9 e.2.2.2.2.2.2.1.1 4++(D9 e.2.2.2.2.2.2.1.2.1 1++
 (Ws e.2.2.2.2.2.2.1.2.2.1++(Ws e.2.2.2.2.2.2.1.2.2.2++(D9 (e.2.2.2.2.2.2.2.length:Int) 4++(e.2.2.2.2.2.2.2++[])))))))))))):=by rw[D8];rfl
 generalize Bw e=x at*;have i:Bj (x,(((0:Int)),0)) 8=_:=WW (p:=[]) (k:=8) a (by omega) (by decide) (by decide) w;rw[Cy]at i;rw[Cy]at a;have j:=WW (k:=1) a (by omega) (by decide) (by decide) y;rw[<-A0]at a;have l:=WW (k:=4) a (by omega) (by decide) (by decide) z;rw[<-A0]at a;have m:=WW (k:=8) a (by omega) (by decide) (by decide) A;rw[<-A0]at a;have n:=WW (k:=8) a (by omega) (by decide) (by decide) B;rw[<-A0]at a;have o:=WW (k:=8) a (by omega) (by decide) (by decide) C;rw[<-A0]at a;have q:=WW (k:=4) a (by omega) (by decide) (by decide) D;rw[<-A0]at a;have r:=WW (k:=1) a (by omega) (by decide) (by decide) E;rw[<-A0]at a;have F:=zO a (by omega) s;rw[<-A0]at a;have G:=zO a (by omega) t;rw[<-A0]at a;have c:=WW (k:=4) a (by omega) (by decide) (by decide) g;rw[<-A0]at a;have d:=zQ a (by omega);rw[D8]at a;rw[<-a]at d;unfold Iw;rw[i,AE];rw[show((1:Nat):Int)=1 from rfl]at j r;rw[show((4:Nat):Int)=4 from rfl]at l q c;rw[show((8:Nat):Int)=8 from rfl]at m n o;rw[j,AE,l,AE,m,AE,n,AE,o,AE,q,AE,r,AE,F,AE,G,AE,c,AE,d,AE];obtain⟨b,u,v⟩:=JZ (x:=e);have f:b=true:=v h;subst f;dsimp only[len];rw[show((0:Int) !=0)=false by decide,cond_false,bne_self_eq_false,cond_false];rw[show(e.1,(e.2.1,(e.2.2.1,(e.2.2.2.1,(e.2.2.2.2.1,(e.2.2.2.2.2.1,((e.2.2.2.2.2.2.1.1,(e.2.2.2.2.2.2.1.2.1,(e.2.2.2.2.2.2.1.2.2.1,e.2.2.2.2.2.2.1.2.2.2))),e.2.2.2.2.2.2.2)))))))=e from rfl,u,AE,Ds,cond_false]
set_option maxHeartbeats 1000000
def uw{a v i:Int}(f:0≤i)(c:i<8)(e:0≤a)(b:a<2^(8*i.toNat))(g:0≤v)(d:v<256):
  0<=IntKind.wrap .u64 (((BitVec.toNat ((BitVec.ofInt 64 a)|||(BitVec.ofInt 64 (IntKind.wrap .u64 ((IntKind.wrap .u64 v)*(2^(min (Int.toNat (wi (8*i))) 64))))))):Nat):Int)/\
  IntKind.wrap .u64 (((BitVec.toNat ((BitVec.ofInt 64 a)|||(BitVec.ofInt 64 (IntKind.wrap .u64 ((IntKind.wrap .u64 v)*(2^(min (Int.toNat (wi (8*i))) 64))))))):Nat):Int)<2^(8*(wi (i+1)).toNat):=by
 have h:=sg f c e b g d;rw[(by rw[(AY),SN];omega:IntKind.wrap .u64 (wi (8*i))=wi (8*i))]at h;exact h
def ABK{n:Int}(h:n<=1):(2:Int)^(8*n.toNat)<=256:=by
 have:n.toNat=0\/n.toNat=1:=by omega
 rcases this with h|h<;>rw[h]<;>decide
def Ik{x:Bb×Int×Int}(h:x.1.length<=2199023255552):A3 (CE x) λr=>(r.2=0->0<=x.2.1/\x.2.1+x.2.2<=x.1.length/\(x.2.2<=4->0<=r.1/\r.1<4294967296)/\(x.2.2<=1->r.1<256))/\(r.2≠0->r.1=0):=by
 unfold CE;refine AC (λ_=>AA ⟨λb=>absurd b (by decide),λ_=>rfl⟩) (λo=>?_);refine AC (λ_=>AA ⟨λb=>absurd b (by decide),λ_=>rfl⟩) (λp=>?_);refine AC (λ_=>AA ⟨λb=>absurd b (by decide),λ_=>rfl⟩) (λq=>?_);refine AC (λ_=>AA ⟨λb=>absurd b (by decide),λ_=>rfl⟩) (λf=>?_);simp[len]at f⊢;rw[(AY (x:=(x.1.length:Int)-x.2.1))];refine AC (λ_=>AA ⟨λb=>absurd b (by decide),λ_=>rfl⟩) (λt=>?_);refine AB (P:=λr=>0<=r/\r<2^(8*x.2.2.toNat)) ?_ λA y=>AA ⟨λ_=>⟨by omega,by omega,λg=>?_,λc=>?_⟩,λb=>absurd rfl b⟩;refine AQ (λ(s:Int×Int)=>0<=s.2/\s.2<=x.2.2/\0<=s.1/\s.1<2^(8*s.2.toNat)) (λ(s:Int×Int)=>(x.2.2-s.2).toNat) ⟨Ak _,by dsimp only;omega,Ak _,by dsimp only;decide⟩ (λs j=>?_);have⟨m,z,d,e⟩:=j;unfold Sk;refine AC (λk=>?_) (λk=>AA ⟨d,?_⟩);rw[(AY (x:=x.2.1+s.2))];refine AB (Si (by omega) (by omega)) λn c=>?_;refine AC (λl=>?_) (λ_=>AA ?_);grind[AY];have⟨u,w⟩:=uw (a:=s.1) (v:=n) (i:=s.2) m (by omega) d e c.1 c.2;grind[AY];have:s.2=x.2.2:=by omega
 rw[<-this];exact e;have:=wH g;grind[AY];have:=ABK c;grind[AY]
def lH(a:BitVec 32):0<=IntKind.wrap .u32 (((BitVec.toNat (a&&&BitVec.ofInt 32 15):Nat)):Int)/\IntKind.wrap .u32 (((BitVec.toNat (a&&&BitVec.ofInt 32 15):Nat)):Int)<16:=by grind[tu,BitVec.toNat_and,BitVec.ofInt,Nat.and_le_right]
theorem du{x:Unit}:A3 (KQ x) λr=>True:=by unfold KQ;refine AB (P:=λ_=>True) ?_ λv _=>AA trivial;refine AQ (λ(s:Int×(Fin (15+1)->(Ty.int IntKind.u32).D))=>0<=s.1/\s.1<=16) (λ(s:Int×(Fin (15+1)->(Ty.int IntKind.u32).D))=>(16-s.1).toNat) ⟨Ak _,by decide⟩ (λs a=>?_);have⟨c,d⟩:=a;unfold TS;refine AC (λb=>?_) (λ_=>AA trivial);refine AB (P:=λ_=>True) ?_ λg _=>?_;refine AQ (λ(s:Int×Int)=>0<=s.2/\s.2<=4) (λ(s:Int×Int)=>(4-s.2).toNat) ⟨Ak _,by dsimp only;omega⟩ (λs a=>?_);have⟨e,f⟩:=a;unfold Kg;rw[(AY (x:=s.2+1) (by omega))];refine AC (λb=>?_) (λ_=>AA trivial);refine AB (P:=λ_=>True) (AI (λ_=>AA trivial) (λ_=>AA trivial)) λv _=>AA ⟨⟨by dsimp only;omega,by dsimp only;omega⟩,by dsimp only;omega⟩;rw[(AY (x:=s.1+1) (by omega))];refine AB (DY c b) λh _=>?_;exact AB (DY c b) λi _=>AA ⟨⟨by dsimp only;omega,by dsimp only;omega⟩,by dsimp only;omega⟩
theorem ox{x:Bb}(h:x.length<=2199023255552):A3 (Nm x) λr=>True:=by unfold Nm;refine AB du λe _=>?_;refine AB (P:=λ_=>True) ?_ λv _=>AA trivial;refine AQ (λ(s:Int×Int)=>0<=s.2/\s.2<=x.length) (λ(s:Int×Int)=>((x.length:Int)-s.2).toNat) ⟨Ak _,by dsimp only;omega⟩ (λs b=>?_);have⟨c,d⟩:=b;unfold Sl;rw[(AY (x:=s.2+1) (by omega))];refine AC (λa=>?_) (λ_=>AA trivial);simp[len]at a;refine AB (Si c a) λf _=>?_;refine AB (DY (lH _).1 (lH _).2) λg _=>?_;refine AB (DY (lH _).1 (lH _).2) λi _=>?_;refine AB (DY (lH _).1 (lH _).2) λj _=>?_;refine AB (DY (lH _).1 (lH _).2) λk _=>AA ⟨⟨by dsimp only;omega,by dsimp only;omega⟩,by dsimp only;omega⟩
theorem XU{x:Bb×Int}(h:x.1.length<=2199023255552):A3 (FZ x) λr=>r.2.2=0->r.1.length<=8392/\x.2+8+r.1.length=r.2.1/\0<=x.2/\r.2.1<=x.1.length:=by unfold FZ;refine AC (λ_=>AA λa=>absurd a (by decide)) (λg=>?_);refine AC (λ_=>AA λa=>absurd a (by decide)) (λe=>?_);simp[len]at e;refine AB (Ik h) λd f=>?_;refine AL (λb=>AA λa=>absurd a b) (λc=>?_);have⟨a1,a2,a3,_⟩:=f.1 c;have a5:=a3 (by dsimp only;omega);dsimp only at a2;refine AC (λ_=>AA λa=>absurd a (by decide)) (λi=>?_);rw[(AY (x:=x.2+4)),(AY (x:=x.2+4+d.1)),(AY (x:=x.2+4+d.1+4))];refine AB (Ik h) λk j=>?_;grind[AL,AA,AB,Dh,ox]
def dK{x:Bb×Bb}:A3 (Ho x) λr=>True:=by unfold Ho Fp;refine AB (P:=λ_=>True) ?_ λv _=>AA trivial;refine AC (λa=>?_) (λ_=>AA trivial);simp[len]at a;exact AB (Dh (Ak _) (by simp only[len];omega) (by simp[len];omega)) λv _=>AA trivial
def RB(b:FX):Prop:=b.1.length<=2199023255552/\0<=b.2.1/\b.2.1<=b.1.length
def DA{b:FX}{x:Int}(h:RB b)(j:1<=x/\x<=8):A3 (Bj b x) λr=>RB r.2/\(x<=4->0<=r.1/\r.1<4294967296):=by have⟨a1,a2,a3⟩:=id h;unfold Bj;refine AL (λ_=>AA ⟨h,λ_=>by dsimp only;omega⟩) (λ_=>?_);refine AB (Ik (by exact a1)) λf a=>?_;dsimp only at a;refine AB (P:=λr=>RB r) ?_ λk d=>AA ⟨d,λe=>?_⟩;refine AU (λc=>AA ?_) (λ_=>AA ⟨a1,a2,a3⟩);have⟨g,i,_⟩:=a.1 c;rw[AY];exact⟨a1,by dsimp only;omega⟩;by_cases c:f.2=0<;>grind
theorem TU{b:FX}{x:Int}(h:RB b)(n:0<=x/\x<4294967296):A3 (Ev b x) λr=>RB r.2:=by have⟨a1,a2,a3⟩:=id h;unfold Ev;refine AU (λd=>?_) (λl=>?_);rw[(AY (x:=len b.1-b.2.1) (by simp[len];omega))];refine AB (P:=λr=>RB r/\(r.2.2=0->r.2.1+x<=r.1.length)) ?_ λe j=>?_;refine AC (λ_=>AA ⟨⟨a1,a2,a3⟩,λd=>absurd d (by dsimp only;decide)⟩) (λk=>AA ⟨h,λ_=>?_⟩);simp[len]at k;omega;have⟨⟨c,f,g⟩,i⟩:=j;refine AL (λ_=>AA ⟨c,f,g⟩) (λa=>?_);have m:=i a;rw[(AY (x:=e.2.1+x)),(AY (x:=e.2.1+x-x))];exact AB (Dh) λo _=>AA ⟨c,by dsimp only;omega⟩;grind[AL,AA]
def TT{b:FX}{x:Unit}(h:RB b):A3 (Eu b x) λr=>RB r.2:=by unfold Eu;refine AB (DA h (by decide)) λc a=>?_;refine AL (λ_=>AA a.1) (λ_=>?_);refine AU (λ_=>AA a.1) (λ_=>?_);have q:=a.2 (by decide);refine AC (λ_=>AA a.1) (λ_=>?_);grind[AB,TU,AA]
theorem kX{x:Bb}(h:x.length<=2199023255552):A3 (Iw x) λr=>True:=by unfold Iw;refine AB (DA (b:=(x,(0,0))) ⟨h,Ak _,by dsimp only;omega⟩ (by decide)) λs c=>?_;refine AB (DA c.1 (by decide)) λt d=>?_;refine AB (DA d.1 (by decide)) λu f=>?_;refine AB (DA f.1 (by decide)) λv g=>?_;refine AB (DA g.1 (by decide)) λw i=>?_;refine AB (DA i.1 (by decide)) λy j=>?_;refine AB (DA j.1 (by decide)) λz k=>?_;refine AB (DA k.1 (by decide)) λA l=>?_;refine AB (TT l.1) λB m=>?_;refine AB (TT m) λC n=>?_;refine AB (DA n (by decide)) λo a=>?_;refine AB (TU a.1 (a.2 (by decide))) λp e=>?_;refine AL (λ_=>AA trivial) (λ_=>?_);refine AL (λ_=>AA trivial) (λ_=>?_);refine AB JZ λq _=>?_;exact AO (λ_=>AA trivial) (λ_=>AA trivial)
theorem gG{x:Int×Int}:A3 (EW x) λr=>True:=by unfold EW FY;refine Az (Az ?_);refine AI (λ_=>AI (λ_=>AA trivial) (λ_=>AA trivial)) (λ_=>AI (λ_=>AA trivial) (λ_=>?_));exact AC (λ_=>AA trivial) (λ_=>AC (λ_=>AA trivial) (λ_=>AA trivial))
theorem nT{x:List Int}(h:x.length<=16777216):A3 (Jn x) λr=>True:=by unfold Jn;refine AB (P:=λ_=>True) ?_ λv _=>BA (λ_ _=>AA trivial) (λ_ _=>AA trivial);refine AQ (λ(s:Int)=>0<=s/\s<=x.length) (λ(s:Int)=>((x.length:Int)-s).toNat) ⟨Ak _,by omega⟩ (λs a=>?_);have⟨c,d⟩:=a;unfold JY;rw[(AY (x:=s+1))];refine AC (λb=>?_) (λ_=>AA trivial);grind[AB,AK,AL,AA]
def jM{x:AT}:A3 (Lc x) λr=>r=true->1<=x.1/\x.1<=x.2.1/\x.2.1<=1099511627776/\0<=x.2.2.1/\x.2.2.1<=x.2.2.2.1/\x.2.2.2.1<64/\0<=x.2.2.2.2.1/\x.2.2.2.2.1<=8:=by
 unfold Lc;repeat' with_reducible first|apply AC<;>intro a|apply AI<;>intro a|apply AA
 all_goals grind
def jI{x:AD}:A3 (A6 x) λr=>True:=by grind[A6,AU,AA]
def mI{x:AT×AD}:A3 (Oj x) λr=>True:=by unfold Oj;refine AB jI λv _=>?_;refine AI (λ_=>?_) (λ_=>AA trivial);refine AC (λ_=>?_) (λ_=>AA trivial);refine AC (λ_=>?_) (λ_=>AA trivial);exact AC (λ_=>AA trivial) (λ_=>AA trivial)
def kZ{x:AD×AD}:A3 (Ng x) λr=>True:=by unfold Ng;grind[AB,gG,nT,AA]
theorem nV{x:AT}:A3 (S1 x) λr=>r=true->Yp x:=by
 unfold S1;refine AB jM λj d=>?_;refine AO (λ_=>AA λb=>by cases b) (λa=>?_);have hn:=d a;refine AC (λ_=>AA λb=>by cases b) (λf=>?_);simp[len]at f;have q:Yp x:=⟨hn.1,hn.2.1,hn.2.2.1,hn.2.2.2.1,hn.2.2.2.2.1,hn.2.2.2.2.2.1,hn.2.2.2.2.2.2.1,hn.2.2.2.2.2.2.2,by omega⟩
 refine AB (P:=λ_=>True) ?_ λv _=>BA (λ_ _=>AA λ_=>q) (λ_ _=>AA λ_=>q);refine AQ (λ(s:Int)=>0<=s/\s<=x.2.2.2.2.2.length) (λ(s:Int)=>((x.2.2.2.2.2.length:Int)-s).toNat) ⟨Ak _,by omega⟩ (λs e=>?_);have⟨h,i⟩:=e;unfold RM;rw[(AY (x:=s+1) (by omega)),(AY (x:=s-1) (by omega))];refine AC (λa=>?_) (λ_=>AA trivial);simp[len]at a;have c:((0<=s+1/\s+1<=x.2.2.2.2.2.length)/\((x.2.2.2.2.2.length:Int)-(s+1)).toNat<((x.2.2.2.2.2.length:Int)-s).toNat):=⟨⟨by omega,by omega⟩,by omega⟩
 refine AB (AK h a) λk _=>?_;refine AB JZ λl _=>?_;refine AO (λ_=>AA trivial) (λ_=>?_);refine AB mI λm _=>?_;refine AO (λ_=>AA trivial) (λ_=>?_);refine AU (λ_=>AC (λ_=>AA trivial) (λ_=>AA c)) (λg=>?_);refine AB (AK (by omega) (by omega)) λn _=>?_;refine AC (λ_=>AC (λ_=>AA trivial) (λ_=>AA c)) (λ_=>?_);refine AB (AK (by omega) (by omega)) λo _=>?_;refine AB kZ λp _=>?_;refine AC (λ_=>AA trivial) (λ_=>?_);exact AL (λ_=>AA trivial) (λ_=>AA c)
def mH{x:Bb}(h:x.length<=2199023255552):A3 (J4 x) λr=>r.2=0->Yp r.1:=by
 unfold J4;refine AB (XU (by exact h)) λp k=>?_;refine AL (λf=>AA λa=>absurd a f) (λg=>?_);have⟨a1,a2,a3,a4⟩:=k g;dsimp only at a1 a2 a3 a4;refine AL (λ_=>AA λa=>absurd a (by decide)) (λl=>?_);refine AB dK λy _=>?_;refine AO (λ_=>AA λa=>absurd a (by decide)) (λ_=>?_);have b:p.1.length<=2199023255552:=by omega
 refine AB (Ik b) λz _=>?_;refine AB (Ik b) λA _=>?_;refine AB (Ik b) λB _=>?_;refine AB (Ik b) λC _=>?_;refine AB (Ik b) λD _=>?_;refine AB (Ik b) λi _=>?_;refine AO (λ_=>AA λa=>absurd a (by decide)) (λm=>?_);have n:i.1<=4096:=by simpa using m
 refine AB (P:=λr=> ∀u,r= .inl u->u.1≠0) ?_ λr hr=>BA (λu c=>AA λa=>absurd a (hr u c)) (λu c=>?_);refine AQ (λ(s:Int×(Int×((List AD)×(Int×(Int×(Int×(Int×(Int×AT))))))))=>0<=s.2.1/\(s.2.1<=i.1\/s.2.1=0)/\s.2.2.1.length<=s.2.1) (λ(s:Int×(Int×((List AD)×(Int×(Int×(Int×(Int×(Int×AT))))))))=>(i.1-s.2.1).toNat) ⟨Ak _,.inr rfl,by simp⟩ (λs o=>?_);have⟨t,v,w⟩:=o;unfold J8;refine AC (λj=>?_) (λ_=>AA λu c=>by cases c);have e:=AY (x:=s.2.1+1);grind[AB,XU,AL,AA,kX,Ae,List.length_cons,List.length_nil];refine AC (λ_=>AA λa=>absurd a (by decide)) (λ_=>?_);refine AB nV λq d=>?_;exact AO (λ_=>AA λa=>absurd a (by decide)) (λj=>AA λ_=>d j)
abbrev EN:=AD
def lE(a b:EN):Bool:=decide (a.1<b.1)
def qa(x y:Int):EW (x,y)=some (if x<y then-1 else if x>y then 1 else 0):=by unfold EW FY;simp only[bne_self_eq_false,AE,cond_false];by_cases a:x<y;simp[a];by_cases b:x>y;simp[a,b];simp[a,b]
def wF(a b:EN): ∃v,BV (a,b)=some v/\decide (v<0)=lE a b:=by refine⟨_,by unfold BV;rw[qa];rfl,?_⟩;unfold lE;by_cases c:a.1<b.1;simp[c];by_cases d:a.1>b.1;simp[c,d];simp[c,d]
theorem XY{d:Array EN}{i:Int}{k:Nat}(a:i=k)(b:k<d.size:=by omega):ix d.toList i=some d[k]! :=by subst a;unfold ix;rw[if_pos (by omega)];simp[b]
def AC6{d:Array EN}{i:Int}{k:Nat}(a:i=k)(x:EN):BU d.toList i x=(d.setIfInBounds k x).toList:=by subst a;unfold BU;simp
def iL{d:Array EN}{i j:Int}{a b:Nat}(c:i=a)(e:j=b):BU (BU d.toList i d[b]!) j d[a]! =(Sort.swp d a b).toList:=by rw[AC6 c,AC6 e];rfl
theorem Pn{x:Int}(h:0<=x/\x<=1099511627776):wi x=x:=AY ⟨by omega,by omega⟩
def gP(k:Nat): ∀(j:Nat) (d:Array EN),(Sort.insInner lE k j d).size=d.size
 |0,_=>rfl
 |j+1,d=>by unfold Sort.insInner;split;rw[gP k j,Sort.size_swp];rfl
theorem yw{a b:Int}{k:Nat}(h:a=k): ∀(j:Nat) (d:Array EN),j<d.size->d.size<=16777216->Ad (D0 (a,b)) ((j:Int),d.toList)=some (Sort.insInner lE k j d).toList
 |0,d,hj,hd=>by
  rw[CZ];have:decide (((0:Nat):Int)>a)=false:=by simp;omega
  simp only[D0,this,cond_false,AE,gi];rfl
 |j+1,d,hj,hd=>by
  rw[CZ];have e:wi (((j+1:Nat):Int)-1)=(j:Int):=by rw[Pn (by omega)];omega
  obtain⟨v,f,g⟩:=wF d[j+1]! d[j]!;have i:ix d.toList ((j+1:Nat):Int)=some d[j+1]! :=XY rfl hj;have l:ix d.toList (j:Int)=some d[j]! :=XY rfl (by omega);have m:ix (BU d.toList ((j+1:Nat):Int) d[j]!) (j:Int)=some (d.setIfInBounds (j+1) d[j]!)[j]! :=by rw[AC6 rfl];exact XY rfl (by simp;omega)
  simp only[D0,e,i,l,m,AE,f,g,iL rfl rfl];unfold Sort.insInner;by_cases c:j+1>k;have:decide (((j+1:Nat):Int)>a)=true:=by simp;omega
  rw[this];cases n:lE d[j+1]! d[j]! with
  |true=>simp only[cond_true,c,decide_true,Rj,if_true,AE,aN];exact yw h j _ (by rw[Sort.size_swp];omega) (by rw[Sort.size_swp];omega)
  |false=>simp[c]
  have:decide (((j+1:Nat):Int)>a)=false:=by simp;omega
  rw[this];simp[c]
theorem AA2{a b:Int}{k m:Nat}(j:a=k)(p:b=m): ∀(n i:Nat) (d:Array EN),m-i<=n->m<=d.size->d.size<=16777216->Ad (C2 (a,b)) ((i:Int),d.toList)=some (Sort.insOuter lE k m i d).toList:=by
 intro n;induction n with
 |zero=>
  intro i d g h c;rw[CZ,Sort.insOuter];have:decide ((i:Int)<b)=false:=by simp;omega
  simp only[C2,this,cond_false];rw[if_neg (by omega)]
 |succ n o=>
  intro i d g h c;rw[CZ,Sort.insOuter];by_cases e:i<m;have:decide ((i:Int)<b)=true:=by simp;omega
  have f:wi ((i:Int)+1)=((i+1:Nat):Int):=by rw[Pn (by omega)];omega
  have l:=gP k i d;simp only[C2,this,cond_true,yw j i d (by omega) c,AE,f];rw[if_pos e];exact o (i+1) _ (by omega) (by omega) (by omega);have:decide ((i:Int)<b)=false:=by simp;omega
  simp only[C2,this,cond_false];rw[if_neg e]
theorem ACl{l:List EN}{a b:Int}{k m:Nat}(d:a=k)(e:b=m)(g:m<=l.length)(h:k<=m)(f:l.length<=16777216):DU l (a,b)=some (Sort.insertionSort lE l.toArray k m).toList:=by
 unfold DU;have c:wi (a+1)=((k+1:Nat):Int):=by rw[Pn (by omega)];omega
 dsimp only;rw[c];have:=AA2 d e (m-(k+1)) (k+1) l.toArray (by omega) (by simpa using g) (by simpa using f);rw[show l.toArray.toList=l from rfl]at this;rw[this];rfl
def wB{d:Array EN}{i j:Int}{a b:Nat}{x:EN}(e:j=b)(c:b<d.size:=by omega):ix (BU d.toList i x) j=some (d.setIfInBounds i.toNat x)[b]! :=by grind[BU,Array.toList_setIfInBounds,XY]
def zg: ∀(n i j:Nat) (d:Array EN),j-i<=n->(i<j->j<d.size)->i<=16777216->j<=16777216->Ad C7 ((i:Int),((j:Int),d.toList))=some (Sort.reverseLoop i j d).toList:=by
 intro n;induction n with
 |zero=>grind[CZ,Sort.reverseLoop,C7]
 |succ n h=>
  intro i j d e b f g;rw[CZ,Sort.reverseLoop];by_cases c:i<j;have:decide ((i:Int)<(j:Int))=true:=by simp;omega
  simp only[C7,this,cond_true,(XY rfl:ix d.toList (i:Int)=some d[i]!),(XY rfl (b c)),(wB (a:=i) rfl (b c)),AE,(by grind[Pn]:wi ((i:Int)+1)=((i+1:Nat):Int)),(by grind[Pn]:wi ((j:Int)-1)=((j-1:Nat):Int)),iL rfl rfl];grind[Sort.size_swp];grind[C7]
def ADG{l:List EN}{a b:Int}{k m:Nat}(c:a=k)(d:b=m)(e:k<m)(g:m<=l.length)(f:l.length<=16777216):Dd l (a,b)=some (Sort.reverseRange l.toArray k m).toList:=by unfold Dd;dsimp only;rw[(by grind[Pn]:wi (b-1)=((m-1:Nat):Int)),c];have:=zg (m-1-k) k (m-1) l.toArray (by omega) (λ_=>by simp;omega) (by omega) (by omega);rw[show l.toArray.toList=l from rfl]at this;rw[this];rfl
def lA(b first:Nat): ∀(n a:Nat) (d:Array EN),b-a<=n->(Sort.siftDown lE b first a d).size=d.size:=by intro n;induction n<;>grind[Sort.siftDown,Sort.size_swp]
theorem xc{hi first:Nat}(x:Int): ∀(n b:Nat) (d:Array EN),hi-b≤n→first+hi≤d.size→d.size≤16777216→b≤16777216→
  ∃r,Ad (Ct (x,((hi:Int),(first:Int)))) ((b:Int),d.toList)=some r/\Sum.elim (λu=>u) (λu=>u) r=(Sort.siftDown lE hi first b d).toList:=by
 intro n;induction n with
 |zero=>
  intro b d D E F G;rw[CZ,Sort.siftDown,dif_pos (by omega)];have k:wi (2*(b:Int))=2*(b:Int):=Pn (by omega);have l:wi (2*(b:Int)+1)=2*(b:Int)+1:=Pn (by omega);have:decide (2*(b:Int)+1>=(hi:Int))=true:=by simp;omega
  refine⟨.inl d.toList,by simp[Ct,k,l,this,cond_true],rfl⟩
 |succ n K=>
  intro b d D E F G;rw[CZ,Sort.siftDown];have k:wi (2*(b:Int))=2*(b:Int):=Pn (by omega);have l:wi (2*(b:Int)+1)=2*(b:Int)+1:=Pn (by omega);by_cases w:2*b+1>=hi;have:decide (2*(b:Int)+1>=(hi:Int))=true:=by simp;omega
  rw[dif_pos w];exact⟨.inl d.toList,by simp[Ct,k,l,this,cond_true],rfl⟩
  ·rw[dif_neg w];have I:decide (2*(b:Int)+1>=(hi:Int))=false:=by simp;omega
   have y:wi (2*(b:Int)+1+1)=2*(b:Int)+1+1:=Pn (by omega);have z:wi ((first:Int)+(2*(b:Int)+1))=((first+(2*b+1):Nat):Int):=by rw[Pn (by omega)];omega
   have A:wi (((first+(2*b+1):Nat):Int)+1)=((first+(2*b+1)+1:Nat):Int):=by rw[Pn (by omega)];omega
   have B:wi ((first:Int)+(b:Int))=((first+b:Nat):Int):=by rw[Pn (by omega)];omega
   obtain⟨c,H,t,e,i⟩: ∃c:Nat,(c=2*b+1∨c=2*b+2)∧c<hi∧(if(decide (2*b+1+1<hi)&&lE d[first+(2*b+1)]! d[first+(2*b+1)+1]!)=true then c=2*b+2 else c=2*b+1)∧
     ((bif (decide (2*(b:Int)+1+1<(hi:Int)))then
      Option.bind (ix d.toList ((first+(2*b+1):Nat):Int)) λO=>
      Option.bind (ix d.toList ((first+(2*b+1):Nat):Int)) λL=>
      Option.bind (ix d.toList ((first+(2*b+1)+1:Nat):Int)) λP=>
      Option.bind (ix d.toList ((first+(2*b+1)+1:Nat):Int)) λM=>
      Option.bind (BV (L,M)) λN=>
      bif (decide (N<0))then some (2*(b:Int)+1+1)else some (2*(b:Int)+1)
     else some (2*(b:Int)+1)):Option Int)=some (c:Int):=by
    by_cases h:2*b+1+1<hi;have f:decide (2*(b:Int)+1+1<(hi:Int))=true:=by simp;omega
    have⟨v,m,o⟩:=wF d[first+(2*b+1)]! d[first+(2*b+1)+1]!;have q:ix d.toList ((first+(2*b+1):Nat):Int)=some d[first+(2*b+1)]! :=XY rfl (by omega);have s:ix d.toList ((first+(2*b+1)+1:Nat):Int)=some d[first+(2*b+1)+1]! :=XY rfl (by omega);cases g:lE d[first+(2*b+1)]! d[first+(2*b+1)+1]! with
    |true=>refine⟨2*b+2,.inr rfl,by omega,by simp[h,g],?_⟩;simp only[f,cond_true,q,s,AE,m,o,g];exact congrArg some (by omega)
    |false=>refine⟨2*b+1,.inl rfl,by omega,by simp[g],?_⟩;simp only[f,cond_true,q,s,AE,m,o,g,cond_false];exact congrArg some (by omega)
    have f:decide (2*(b:Int)+1+1<(hi:Int))=false:=by simp;omega
    refine⟨2*b+1,.inl rfl,by omega,by simp[h],?_⟩;simp only[f,cond_false];exact congrArg some (by omega)
   have C:wi ((first:Int)+(c:Int))=((first+c:Nat):Int):=by rw[Pn (by omega)];omega
   have q:ix d.toList ((first+b:Nat):Int)=some d[first+b]! :=XY rfl (by omega);have s:ix d.toList ((first+c:Nat):Int)=some d[first+c]! :=XY rfl (by omega);have J:ix (BU d.toList ((first+b:Nat):Int) d[first+c]!) ((first+c:Nat):Int)=some (d.setIfInBounds ((first+b:Nat):Int).toNat d[first+c]!)[first+c]! :=wB (a:=first+b) rfl (by omega);have⟨v,m,o⟩:=wF d[first+b]! d[first+c]!;have body:Ct (x,((hi:Int),(first:Int))) ((b:Int),d.toList)=bif !lE d[first+b]! d[first+c]! then some (.done (.inr d.toList))else some (.next ((c:Int),(Sort.swp d (first+b) (first+c)).toList)):=by simp only[Ct,k,l,y,z,A,B,I,cond_false,i,AE,C,q,s,J,m,o,iL rfl rfl]
   rw[body];have j:=K c (Sort.swp d (first+b) (first+c)) (by omega) (by rw[Sort.size_swp];omega) (by rw[Sort.size_swp];omega) (by omega);by_cases p:(decide (2*b+1+1<hi)&&lE d[first+(2*b+1)]! d[first+(2*b+1)+1]!)=true;rw[if_pos p]at e;subst e;rw[if_pos p];cases g:lE d[first+b]! d[first+(2*b+2)]! with
   |true=>simp only[Ds,cond_false,J5,if_false];rw[dif_pos t];exact j
   |false=>simp only[jr,cond_true,if_true];exact⟨_,rfl,rfl⟩
   rw[if_neg p]at e;subst e;rw[if_neg p];cases g:lE d[first+b]! d[first+(2*b+1)]! with
   |true=>simp[Ds,cond_false,J5,if_false];exact j
   |false=>simp only[jr,cond_true,if_true];exact⟨_,rfl,rfl⟩
def wP{d:Array EN}{root a first:Nat}(b:first+a<=d.size)(c:d.size<=16777216)(e:root<=16777216):DR d.toList ((root:Int),((a:Int),(first:Int)))=some (Sort.siftDown lE a first root d).toList:=by unfold DR;have⟨r,q1,q2⟩:=xc (hi:=a) (first:=first) (root:Int) (a-root) root d (Ag _) b c e;dsimp only;rw[q1];cases r<;>grind
theorem nX{hi first:Nat}: ∀(k:Nat) (d:Array EN),first+hi≤d.size→d.size≤16777216→k≤16777216→
  Ad (Ej ((first:Int),((first+hi:Nat):Int))) ((k:Int)-1,d.toList)=some (Sort.heapBuild lE hi first k d).toList
 |0,d,h1,h2,h3=>by
  rw[CZ];have:decide ((((0:Nat):Int)-1)>=0)=false:=by simp
  simp only[Ej,this,cond_false];rfl
 |k+1,d,h1,h2,h3=>by
  rw[CZ];have a:((k+1:Nat):Int)-1=(k:Int):=by omega
  have b:wi (((first+hi:Nat):Int)-(first:Int))=(hi:Int):=by rw[Pn (by omega)];omega
  have c:wi ((k:Int)-1)=(k:Int)-1:=AY ⟨by omega,by omega⟩;have:decide ((k:Int)>=0)=true:=by simp
  have f:=lA hi first (hi-k) k d (Ag _)
  have e:Nat.beq (List.length (Sort.siftDown lE hi first k d).toList) (List.length d.toList)=true:=by simp[f]
  simp only[Ej,a,this,cond_true,b,wP h1 h2 (by omega:k<=16777216),AE,e,c];exact nX k _ (by omega) (by omega) (by omega)
theorem sm{first:Nat}(b:Int): ∀(k:Nat) (d:Array EN),first+k≤d.size→d.size≤16777216→
  Ad (Ek ((first:Int),b)) ((k:Int)-1,d.toList)=some (Sort.heapPop lE first k d).toList
 |0,d,h1,h2=>by
  rw[CZ];have:decide ((((0:Nat):Int)-1)>=0)=false:=by simp
  simp only[Ek,this,cond_false];rfl
 |k+1,d,h1,h2=>by
  rw[CZ];have c:((k+1:Nat):Int)-1=(k:Int):=by omega
  have e:wi ((first:Int)+(k:Int))=((first+k:Nat):Int):=by rw[Pn (by omega)];omega
  have f:wi ((k:Int)-1)=(k:Int)-1:=AY ⟨by omega,by omega⟩;have:decide ((k:Int)>=0)=true:=by simp
  have l:ix d.toList ((first+k:Nat):Int)=some d[first+k]! :=XY rfl (by omega);have m:ix d.toList (first:Int)=some d[first]! :=XY rfl (by omega);have n:ix (BU d.toList (first:Int) d[first+k]!) ((first+k:Nat):Int)=some (d.setIfInBounds (first:Int).toNat d[first+k]!)[first+k]! :=wB (a:=first) rfl (by omega);have j:(Sort.swp d first (first+k)).size=d.size:=Sort.size_swp _ _ _;have i:=lA k first (k-0) 0 (Sort.swp d first (first+k)) (Ag _)
  have g:Nat.beq (List.length (Sort.siftDown lE k first 0 (Sort.swp d first (first+k))).toList) (List.length d.toList)=true:=by simp[i,j]
  have h:DR (Sort.swp d first (first+k)).toList (0,((k:Int),(first:Int)))=some (Sort.siftDown lE k first 0 (Sort.swp d first (first+k))).toList:=wP (root:=0) (by omega) (by omega) (by omega);simp only[Ek,c,this,cond_true,e,l,m,n,AE,iL rfl rfl,h,g,f];exact sm b k _ (by omega) (by omega)
def WV(a first:Nat): ∀(k:Nat) (d:Array EN),(Sort.heapBuild lE a first k d).size=d.size
 |0,_=>rfl
 |k+1,d=>by unfold Sort.heapBuild;rw[WV a first k,lA a first _ k d (Ag _)]
theorem AAz{l:List EN}{a b:Int}{k m:Nat}(h:a=k)(i:b=m)(o:k<=m)(d:m<=l.length)(c:l.length<=16777216):EE l (a,b)=some (Sort.heapSort lE l.toArray k m).toList:=by
 subst h i;obtain⟨n,rfl⟩: ∃n,m=k+n:=⟨m-k,by omega⟩
 unfold EE;have e:wi (((k+n:Nat):Int)-(k:Int))=(n:Int):=by rw[Pn (by omega)];omega
 have f:wi ((n:Int)-1)=(n:Int)-1:=AY ⟨by omega,by omega⟩;have g:wi (Int.tdiv ((n:Int)-1) 2)=(((n-1)/2+1:Nat):Int)-1:=by
  rcases RS n with rfl|j;rfl;have:((n:Int)-1).tdiv 2=(((n-1)/2:Nat):Int):=by rw[show(n:Int)-1=((n-1:Nat):Int) by omega];rfl
  rw[this,Pn (by omega)];omega
 dsimp only;rw[e,f,g];have q1:=nX (hi:=n) (first:=k) ((n-1)/2+1) l.toArray (by simpa using d) (by simpa using c) (by omega);rw[show l.toArray.toList=l from rfl]at q1;rw[q1];have q2:=sm (first:=k) ((k+n:Nat):Int) n (Sort.heapBuild lE n k ((n-1)/2+1) l.toArray) (by rw[WV];simpa using d) (by rw[WV];simpa using c);rw[AE,q2];unfold Sort.heapSort;rw[show k+n-k=n by omega];rfl
def jZ{body:Int→Option (Step Int Int)}{p:EN→Bool}{d:Array EN}{j:Nat}(b: ∀i:Nat,i≤j+1→body i=some (if(decide (i≤j)&&p d[i]!)=true then .next ((i+1:Nat):Int)else .done (i:Int))):
  ∀n i:Nat,j+1-i<=n->i<=j+1->Ad body i=some ((Sort.scanUp p d j i:Nat):Int):=by
 intro n;induction n with
 |zero=>grind[CZ,Sort.scanUp]
 |succ n e=>intro i c a;rw[CZ,b i a,Sort.scanUp];by_cases h:(decide (i<=j)&&p d[i]!)=true;grind;rw[if_neg h,if_neg h]
def Vd{body:Int→Option (Step Int Int)}{p:EN→Bool}{d:Array EN}{i N:Nat}(b:1≤i)(a: ∀j:Nat,i≤j+1→j<N→body j=some (if(decide (i≤j)&&p d[j]!)=true then .next ((j:Int)-1)else .done (j:Int))):
  ∀j:Nat,i<=j+1->j<N->Ad body j=some ((Sort.scanDown p d i j:Nat):Int)
 |0,h1,h2=>by
  rw[CZ,a 0 h1 h2,Sort.scanDown];have: ¬(decide (i<=0)&&p d[0]!)=true:=by grind
  rw[if_neg this]
 |j+1,h1,h2=>by
  rw[CZ,a (j+1) h1 h2,Sort.scanDown];by_cases h:(decide (i<=j+1)&&p d[j+1]!)=true;rw[if_pos h,if_pos h];have:i<=j+1:=by grind
  rw[(by omega:((j+1:Nat):Int)-1=(j:Int))];exact Vd b a j (by omega) (by omega);rw[if_neg h,if_neg h]
def wy(i j:Nat):decide ((i:Int)<=(j:Int))=decide (i<=j):=by simp
theorem uS(i j:Nat):decide ((i:Int)>(j:Int))=decide (i>j):=by simp
theorem mV{i:Nat}(h:i<=16777216:=by omega):wi ((i:Int)+1)=((i+1:Nat):Int):=by grind[Pn]
theorem tq{i:Nat}(h:i<=16777216:=by omega):wi ((i:Int)-1)=(i:Int)-1:=by grind[AY]
def UX{c:Bool}{o:Option (Unit ⊕ Unit)}{q:Bool}{s u v:Step Int Int}(a:c=true→o=some (if q=true then .inr ()else .inl ()))(b:c=true→q=true→s=u)(d:v=v):
  Option.bind ((bif c then o else some (.inl ())):Option (Unit ⊕ Unit)) (λw=>Sum.elim (λ_=>some v) (λ_=>some s) w)=some (if(c&&q)=true then u else v):=by
 cases c with
 |false=>rfl
 |true=>
  rw[cond_true,a rfl];cases q with
  |false=>rfl
  |true=>simp only[if_true,AE,aN,Rj];exact congrArg some (b rfl rfl)
def AB9{a b pv:Int}{k j i:Nat}{s1:Int}{d:Array EN}(c:a=k)(n:k<d.size)(m:j<d.size)(g:d.size≤16777216)(l:i≤j+1):
  GB (a,(b,pv)) (s1,((j:Int),d.toList)) (i:Int)=some (if(decide (i<=j)&&lE d[i]! d[k]!)=true then .next ((i+1:Nat):Int)else .done (i:Int)):=by
 subst c;unfold GB;rw[wy];refine UX (λh=>?_) (λh _=>by rw[mV]) rfl;have h:=of_decide_eq_true h;have⟨v,e,f⟩:=wF d[i]! d[k]!;grind[XY]
def vn{a b pv:Int}{k j i:Nat}{s1 s2:Int}{d:Array EN}(c:a=k)(m:k<d.size)(l:j<d.size)(g:d.size≤16777216):
  GC (a,(b,pv)) (s1,(s2,d.toList)) (i:Int) (j:Int)=some (if(decide (i<=j)&& !lE d[j]! d[k]!)=true then .next ((j:Int)-1)else .done (j:Int)):=by
 subst c;unfold GC;rw[wy];refine UX (λh=>?_) (λh _=>by rw[tq]) rfl;have⟨v,e,f⟩:=wF d[j]! d[k]!;grind[XY]
def rQ{a j b:Nat}{p:Nat->Bool}{c d e f g:Prop}(k:c/\d/\e/\(a<=j->p a=false))(l:b<=j/\f/\g/\(a<=b->0<b->(!p b)=false))(h: ¬a>b)(i:0<a):a≠b:=by grind
def ABF{k:Nat}: ∀(n i j:Nat) (d:Array EN),j+1-i<=n->k<i->i<=j+1->(Sort.partLoop lE k i j d).2.size=d.size/\k<=(Sort.partLoop lE k i j d).1/\(Sort.partLoop lE k i j d).1<=j:=by
 intro n;induction n with
 |zero=>intro i j d e f g;have b:=Sort.scanUp_spec (λx=>lE x d[k]!) d j _ i rfl;grind[Sort.scanDown_spec,Sort.scanUp,Sort.partLoop_eq]
 |succ n l=>intro i j d e f g;have b:=Sort.scanUp_spec (λx=>lE x d[k]!) d j _ i rfl;have c:=Sort.scanDown_spec (λx=>!lE x d[k]!) d (Sort.scanUp (λx=>lE x d[k]!) d j i) j;rw[Sort.partLoop_eq];revert b c;generalize Sort.scanUp (λx=>lE x d[k]!) d j i=i2;generalize Sort.scanDown (λx=>!lE x d[k]!) d i2 j=j2;intro b c;by_cases a:i2>j2;grind;rw[if_neg a];have h:=rQ (p:=λt=>lE d[t]! d[k]!) b c a (by omega);grind[Sort.swp,Sort.size_swp]
def xP{a b pv:Int}{k:Nat}(s:a=k): ∀(n i j:Nat) (d:Array EN),j+1-i≤n→k<i→i≤j+1→j<d.size→d.size≤16777216→
  Ad (Dc (a,(b,pv))) ((i:Int),((j:Int),d.toList))=some ((((Sort.partLoop lE k i j d).1:Nat):Int),(Sort.partLoop lE k i j d).2.toList):=by
 intro n;induction n with
 |zero=>intro i j d w y v l m;have q:=jZ (p:=λx=>lE x d[k]!) (j:=j) (d:=d) (λA h=>AB9 (b:=b) (pv:=pv) (s1:=(i:Int)) s (by omega) l m h) (j+1-i) i (Ag _) v;have f:=Sort.scanUp_spec (λx=>lE x d[k]!) d j _ i rfl;have r:=Vd (p:=λx=>!lE x d[k]!) (i:=Sort.scanUp (λx=>lE x d[k]!) d j i) (N:=d.size) (d:=d) (by omega) (λC h u=>vn (b:=b) (pv:=pv) (s1:=(i:Int)) (s2:=(j:Int)) s (by omega) u m) j (by omega) l;grind[Sort.scanDown_spec,Sort.scanUp,CZ,Sort.partLoop_eq,Sort.scanDown,Dc,uS]
 |succ n B=>intro i j d w y v l m;have q:=jZ (p:=λx=>lE x d[k]!) (j:=j) (d:=d) (λA h=>AB9 (b:=b) (pv:=pv) (s1:=(i:Int)) s (by omega) l m h) (j+1-i) i (Ag _) v;have f:=Sort.scanUp_spec (λx=>lE x d[k]!) d j _ i rfl;have r:=Vd (p:=λx=>!lE x d[k]!) (i:=Sort.scanUp (λx=>lE x d[k]!) d j i) (N:=d.size) (d:=d) (by omega) (λC h u=>vn (b:=b) (pv:=pv) (s1:=(i:Int)) (s2:=(j:Int)) s (by omega) u m) j (by omega) l;have o:=Sort.scanDown_spec (λx=>!lE x d[k]!) d (Sort.scanUp (λx=>lE x d[k]!) d j i) j;rw[CZ,Sort.partLoop_eq];revert q f r o;generalize Sort.scanUp (λx=>lE x d[k]!) d j i=e;generalize Sort.scanDown (λx=>!lE x d[k]!) d e j=c;intro q f r o;by_cases g:e>c;simp[Dc,q,r,AE,uS,g,decide_true,cond_true,if_true];have z:=rQ (p:=λt=>lE d[t]! d[k]!) f o g (by omega);simp[Dc,q,r,AE,uS,g,decide_false,cond_false,if_false,(XY rfl:ix d.toList (c:Int)=some d[c]!),(XY rfl:ix d.toList (e:Int)=some d[e]!),(wB (a:=e) rfl:ix (BU d.toList (e:Int) d[c]!) (c:Int)=some (d.setIfInBounds (e:Int).toNat d[c]!)[c]!),(mV (i:=e)),(by rw[tq];omega:wi ((c:Int)-1)=((c-1:Nat):Int)),iL rfl rfl];exact B (e+1) (c-1) _ (by omega) (by omega) (by omega) (by rw[Sort.size_swp];omega) (by rw[Sort.size_swp];omega)
def AEH{a b pv:Int}{k m i:Nat}{l:List EN}{c e:EN}{d:Array EN}(j:BU (BU l a c) pv e=d.toList)(f:a=k)(g:b=m)(r:k<m)(s:m≤d.size)(p:d.size≤16777216)(q:i≤m-1+1):
  F9 l (a,(b,pv)) c e (i:Int)=some (if(decide (i<=m-1)&&lE d[i]! d[k]!)=true then .next ((i+1:Nat):Int)else .done (i:Int)):=by
 subst f g;unfold F9;rw[j,(by grind[tq]:wi ((m:Int)-1)=((m-1:Nat):Int)),wy];refine UX (λh=>?_) (λh _=>by rw[mV]) rfl;have h:=of_decide_eq_true h;have⟨v,n,o⟩:=wF d[i]! d[k]!;grind[XY]
def AAn{a b pv:Int}{k j i:Nat}{l:List EN}{c e:EN}{d:Array EN}(g:BU (BU l a c) pv e=d.toList)(f:a=k)(q:k<d.size)(p:j<d.size)(o:d.size≤16777216):
  GA l (a,(b,pv)) c e (i:Int) (j:Int)=some (if(decide (i<=j)&& !lE d[j]! d[k]!)=true then .next ((j:Int)-1)else .done (j:Int)):=by
 subst f;unfold GA;rw[g,wy];refine UX (λh=>?_) (λh _=>by rw[tq]) rfl;have⟨v,m,n⟩:=wF d[j]! d[k]!;grind[XY]
def ABG{l:List EN}{a b q:Int}{k m p:Nat}(C:a=k)(D:b=m)(L:q=p)(U:k≤p)(V:p<m)(X:m≤l.length)(W:l.length≤16777216):
  D6 l (a,(b,q))=some ((((Sort.partition lE l.toArray k m p).1:Nat):Int),((Sort.partition lE l.toArray k m p).2.1,(Sort.partition lE l.toArray k m p).2.2.toList)):=by
 have g:=C;have v:=D;subst C D L;unfold D6;have M:l.toArray.size=l.length:=by simp
 have O:ix l (p:Int)=some l.toArray[p]! :=XY (d:=l.toArray) rfl;have f:ix l (k:Int)=some l.toArray[k]! :=XY (d:=l.toArray) rfl;have P:ix (BU l (k:Int) l.toArray[p]!) (p:Int)=some (l.toArray.setIfInBounds (k:Int).toNat l.toArray[p]!)[p]! :=wB (d:=l.toArray) (a:=k) rfl;have s:BU (BU l (k:Int) l.toArray[p]!) (p:Int) l.toArray[k]! =(Sort.swp l.toArray k p).toList:=iL (d:=l.toArray) rfl rfl;have E:(Sort.swp l.toArray k p).size=l.length:=by rw[Sort.size_swp,M]
 have F:=mV (i:=k);have G:wi ((m:Int)-1)=((m-1:Nat):Int):=by grind[tq]
 unfold Sort.partition;dsimp only;simp only[O,f,P,AE,F,G];revert s E;generalize Sort.swp l.toArray k p=d;intro s E;have S:=jZ (p:=λx=>lE x d[k]!) (j:=m-1) (d:=d) (λY h=>AEH (b:=(m:Int)) (pv:=(p:Int)) s g v (by omega) (by omega) (by omega) h) (m-1+1-(k+1)) (k+1) (Ag _) (by omega);have y:=Sort.scanUp_spec (λx=>lE x d[k]!) d (m-1) _ (k+1) rfl;have T:=Vd (p:=λx=>!lE x d[k]!) (i:=Sort.scanUp (λx=>lE x d[k]!) d (m-1) (k+1)) (N:=d.size) (d:=d) (by omega) (λZ h J=>AAn (b:=(m:Int)) (pv:=(p:Int)) s g (by omega) J (by omega)) (m-1) (by omega) (by omega);have z:=Sort.scanDown_spec (λx=>!lE x d[k]!) d (Sort.scanUp (λx=>lE x d[k]!) d (m-1) (k+1)) (m-1);rw[S,AE,T,AE];revert y z;generalize Sort.scanUp (λx=>lE x d[k]!) d (m-1) (k+1)=f;generalize Sort.scanDown (λx=>!lE x d[k]!) d f (m-1)=e;intro y z;rw[s,uS];have Q:ix d.toList (k:Int)=some d[k]! :=XY rfl;have o:ix d.toList (e:Int)=some d[e]! :=XY rfl;by_cases n:f>e;have w:ix (BU d.toList (e:Int) d[k]!) (k:Int)=some (d.setIfInBounds (e:Int).toNat d[k]!)[k]! :=wB (a:=e) rfl;simp[n,decide_true,cond_true,if_true,Q,o,w,AE,iL (d:=d) (a:=e) (b:=k) rfl rfl];have K:=rQ (p:=λt=>lE d[t]! d[k]!) y z n (by omega);have R:ix d.toList (f:Int)=some d[f]! :=XY rfl;have w:ix (BU d.toList (f:Int) d[e]!) (e:Int)=some (d.setIfInBounds (f:Int).toNat d[e]!)[e]! :=wB (a:=f) rfl;have H:=mV (i:=f);have I:wi ((e:Int)-1)=((e-1:Nat):Int):=by rw[tq];omega
 have⟨u,A,B⟩:=ABF (k:=k) (e-1+1-(f+1)) (f+1) (e-1) (Sort.swp d f e) (Ag _) (by omega) (by omega);simp only[n,decide_false,cond_false,if_false,o,R,w,AE,iL (d:=d) (a:=f) (b:=e) rfl rfl,H,I,(xP (b:=(m:Int)) (pv:=(p:Int)) g (e-1+1-(f+1)) (f+1) (e-1) (Sort.swp d f e) (Ag _) (by omega) (by omega) (by rw[Sort.size_swp];omega) (by rw[Sort.size_swp];omega))];rw[Sort.size_swp]at u;revert u A B;generalize Sort.partLoop lE k (f+1) (e-1) (Sort.swp d f e)=r;have⟨c,t⟩:=r;intro u A B;dsimp only at u A B⊢;simp[(XY rfl:ix t.toList (k:Int)=some t[k]!),(XY rfl:ix t.toList (c:Int)=some t[c]!),(wB (a:=c) rfl:ix (BU t.toList (c:Int) t[k]!) (k:Int)=some (t.setIfInBounds (c:Int).toNat t[k]!)[k]!),AE,iL (d:=t) (a:=c) (b:=k) rfl rfl]
def AB8{a b pv:Int}{k j i:Nat}{s1:Int}{d:Array EN}(f:a=k)(g:k<d.size)(n:j<d.size)(l:d.size≤16777216)(m:i≤j+1):
  FC (a,(b,pv)) (s1,((j:Int),d.toList)) (i:Int)=some (if(decide (i<=j)&& !lE d[k]! d[i]!)=true then .next ((i+1:Nat):Int)else .done (i:Int)):=by
 subst f;unfold FC;dsimp only;rw[wy];refine UX (λh=>?_) (λh _=>by rw[mV]) rfl;have h:=of_decide_eq_true h;obtain⟨v,c,e⟩:=wF d[k]! d[i]!;rw[XY rfl (show i<d.size by omega),XY rfl g];simp only[AE,c,e];cases lE d[k]! d[i]! <;>rfl
def vk{a b pv:Int}{k j i:Nat}{s1 s2:Int}{d:Array EN}(f:a=k)(l:k<d.size)(g:j<d.size)(m:d.size≤16777216):
  FE (a,(b,pv)) (s1,(s2,d.toList)) (i:Int) (j:Int)=some (if(decide (i<=j)&&lE d[k]! d[j]!)=true then .next ((j:Int)-1)else .done (j:Int)):=by
 subst f;unfold FE;dsimp only;rw[wy];refine UX (λh=>?_) (λh _=>by rw[tq]) rfl;obtain⟨v,c,e⟩:=wF d[k]! d[j]!;rw[XY rfl g,XY rfl l];simp only[AE,c,e];cases lE d[k]! d[j]! <;>rfl
def zm{a j b:Nat}{p:Nat->Bool}{e f g i k:Prop}(n:e/\f/\g/\(a<=j->(!p a)=false))(d:b<=j/\i/\k/\(a<=b->0<b->p b=false))(h: ¬a>b)(l:0<a):a≠b:=by rintro rfl;have c:=n.2.2.2 d.1;have m:=d.2.2.2 (Ag _) l;rw[m]at c;exact absurd c (by decide)
def ux{a b pv:Int}{k:Nat}(s:a=k): ∀(n i j:Nat) (d:Array EN),j+1-i≤n→k<i→i≤j+1→j<d.size→d.size≤16777216→
  Ad (Cq (a,(b,pv))) ((i:Int),((j:Int),d.toList))=some ((((Sort.partEqLoop lE k i j d).1:Nat):Int),(Sort.partEqLoop lE k i j d).2.toList):=by
 intro n;induction n with
 |zero=>
  intro i j d z A v q r;have m:=jZ (p:=λx=>!lE d[k]! x) (j:=j) (d:=d) (λC h=>AB8 (b:=b) (pv:=pv) (s1:=(i:Int)) s (by omega) q r h) (j+1-i) i (Ag _) v;have g:=Sort.scanUp_spec (λx=>!lE d[k]! x) d j _ i rfl;have o:=Vd (p:=λx=>lE d[k]! x) (i:=Sort.scanUp (λx=>!lE d[k]! x) d j i) (N:=d.size) (d:=d) (by omega) (λH h u=>vk (b:=b) (pv:=pv) (s1:=(i:Int)) (s2:=(j:Int)) s (by omega) u r) j (by omega) q;have l:=Sort.scanDown_spec (λx=>lE d[k]! x) d (Sort.scanUp (λx=>!lE d[k]! x) d j i) j;rw[CZ,Sort.partEqLoop_eq];have c:Sort.scanUp (λx=>!lE d[k]! x) d j i>Sort.scanDown (λx=>lE d[k]! x) d (Sort.scanUp (λx=>!lE d[k]! x) d j i) j:=by omega
  simp only[Cq,m,o,AE,uS,c,decide_true,cond_true,if_true]
 |succ n G=>
  intro i j d z A v q r;have m:=jZ (p:=λx=>!lE d[k]! x) (j:=j) (d:=d) (λC h=>AB8 (b:=b) (pv:=pv) (s1:=(i:Int)) s (by omega) q r h) (j+1-i) i (Ag _) v;have g:=Sort.scanUp_spec (λx=>!lE d[k]! x) d j _ i rfl;have o:=Vd (p:=λx=>lE d[k]! x) (i:=Sort.scanUp (λx=>!lE d[k]! x) d j i) (N:=d.size) (d:=d) (by omega) (λH h u=>vk (b:=b) (pv:=pv) (s1:=(i:Int)) (s2:=(j:Int)) s (by omega) u r) j (by omega) q;have l:=Sort.scanDown_spec (λx=>lE d[k]! x) d (Sort.scanUp (λx=>!lE d[k]! x) d j i) j;rw[CZ,Sort.partEqLoop_eq];revert m g o l;generalize Sort.scanUp (λx=>!lE d[k]! x) d j i=f;generalize Sort.scanDown (λx=>lE d[k]! x) d f j=e;intro m g o l;by_cases c:f>e;simp only[Cq,m,o,AE,uS,c,decide_true,cond_true,if_true];have B:=zm (p:=λt=>lE d[k]! d[t]!) g l c (by omega);have D:ix d.toList (e:Int)=some d[e]! :=XY rfl;have E:ix d.toList (f:Int)=some d[f]! :=XY rfl;have F:ix (BU d.toList (f:Int) d[e]!) (e:Int)=some (d.setIfInBounds (f:Int).toNat d[e]!)[e]! :=wB (a:=f) rfl;have w:=mV (i:=f);have y:wi ((e:Int)-1)=((e-1:Nat):Int):=by rw[tq];omega
  simp only[Cq,m,o,AE,uS,c,decide_false,cond_false,if_false,D,E,F,w,y,iL rfl rfl];exact G (f+1) (e-1) _ (by omega) (by omega) (by omega) (by rw[Sort.size_swp];omega) (by rw[Sort.size_swp];omega)
def zS{l:List EN}{a b c:Int}{k m p:Nat}(h:a=k)(j:b=m)(n:c=p)(u:k≤p)(v:p<m)(w:m≤l.length)(e:l.length≤16777216):
  DF l (a,(b,c))=some ((((Sort.partitionEqual lE l.toArray k m p).1:Nat):Int),(Sort.partitionEqual lE l.toArray k m p).2.toList):=by
 subst h j n;unfold DF;have o:l.toArray.size=l.length:=by simp
 have q:ix l (p:Int)=some l.toArray[p]! :=XY (d:=l.toArray) rfl;have r:ix l (k:Int)=some l.toArray[k]! :=XY (d:=l.toArray) rfl;have s:ix (BU l (k:Int) l.toArray[p]!) (p:Int)=some (l.toArray.setIfInBounds (k:Int).toNat l.toArray[p]!)[p]! :=wB (d:=l.toArray) (a:=k) rfl;have t:BU (BU l (k:Int) l.toArray[p]!) (p:Int) l.toArray[k]! =(Sort.swp l.toArray k p).toList:=iL (d:=l.toArray) rfl rfl;have f:=mV (i:=k);have g:wi ((m:Int)-1)=((m-1:Nat):Int):=by rw[tq];omega
 have x:(Sort.swp l.toArray k p).size=l.length:=by rw[Sort.size_swp,o]
 have e:=ux (a:=(k:Int)) (b:=(m:Int)) (pv:=(p:Int)) rfl (m-1+1-(k+1)) (k+1) (m-1) (Sort.swp l.toArray k p) (Ag _) (by omega) (by omega) (by omega) (by omega);dsimp only;simp only[q,r,s,AE,f,g,t,e];rfl
theorem AAk(i j:Nat):decide ((i:Int)<(j:Int))=decide (i<j):=by simp
def AEF{d:Array EN}{m:Nat}: ∀(n i:Nat),m-i<=n->i<=m->i<=Sort.scanSorted lE d m i/\Sort.scanSorted lE d m i<=m:=by
 intro n;induction n with
 |zero=>grind[Sort.scanSorted]
 |succ n c=>intro i a b;rw[Sort.scanSorted];by_cases h:(decide (i<m)&& !lE d[i]! d[i-1]!)=true<;>grind
def ABf{a b:Int}{m:Nat}{s1 s2:Int}{d:Array EN}(g:b=m)(s:m≤d.size)(r:d.size≤16777216): ∀(n i:Nat),m-i≤n→1≤i→i≤m→
  Ad (C4 (a,b) (s1,(s2,d.toList))) (i:Int)=some ((Sort.scanSorted lE d m i:Nat):Int):=by
 subst g;have body: ∀i:Nat,1<=i->C4 (a,(m:Int)) (s1,(s2,d.toList)) (i:Int)=some (if(decide (i<m)&& !lE d[i]! d[i-1]!)=true then .next ((i+1:Nat):Int)else .done (i:Int)):=by
  intro i o;unfold C4;dsimp only;rw[AAk];by_cases h:i<m;rw[mV (i:=i)];refine UX (λ_=>?_) (λ_ _=>rfl) rfl;have e:wi ((i:Int)-1)=((i-1:Nat):Int):=by grind[tq]
  have⟨v,k,l⟩:=wF d[i]! d[i-1]!;grind[XY];refine UX (λc=>absurd (of_decide_eq_true c) h) (λc _=>absurd (of_decide_eq_true c) h) rfl
 intro n;induction n with
 |zero=>grind[CZ,Sort.scanSorted]
 |succ n j=>
  intro i p f q;rw[CZ,body i f,Sort.scanSorted];by_cases h:(decide (i<m)&& !lE d[i]! d[i-1]!)=true;rw[if_pos h,if_pos h];have c:i<m:=by simp at h;exact h.1
  exact j (i+1) (by omega) (by omega) (by omega);rw[if_neg h,if_neg h]
theorem wN: ∀(j:Nat) (d:Array EN),(Sort.shiftDown lE j d).size=d.size
 |0,_=>rfl
 |j+1,d=>by unfold Sort.shiftDown;split;rfl;rw[wN j,Sort.size_swp]
def ABi{m:Nat}: ∀(n j:Nat) (d:Array EN),m-j<=n->(Sort.shiftUp lE m j d).size=d.size:=by intro n;induction n<;>grind[Sort.shiftUp,Sort.size_swp]
theorem wM: ∀(j:Nat) (d:Array EN),j<d.size->d.size<=16777216->Ad C5 ((j:Int),d.toList)=some (Sort.shiftDown lE j d).toList
 |0,d,h1,h2=>by rw[CZ];rfl
 |j+1,d,h1,h2=>by
  rw[CZ];have:decide (((j+1:Nat):Int)>=1)=true:=by simp;omega
  have⟨v,c,e⟩:=wF d[j+1]! d[j]!;simp only[C5,this,cond_true,(by rw[tq];omega:wi (((j+1:Nat):Int)-1)=(j:Int)),(XY rfl h1),(XY rfl:ix d.toList (j:Int)=some d[j]!),(wB (a:=j+1) rfl:ix (BU d.toList ((j+1:Nat):Int) d[j]!) (j:Int)=some (d.setIfInBounds ((j+1:Nat):Int).toNat d[j]!)[j]!),AE,c,e,iL (d:=d) (a:=j+1) (b:=j) rfl rfl];unfold Sort.shiftDown;cases lE d[j+1]! d[j]! with
  |true=>simp[Ds,cond_false,J5,if_false];exact wM j _ (by rw[Sort.size_swp];omega) (by rw[Sort.size_swp];omega)
  |false=>grind[Bool.not_false]
def ABh{a b:Int}{m:Nat}(f:b=m): ∀(n j:Nat) (d:Array EN),m-j<=n->1<=j->j<=m->m<=d.size->d.size<=16777216->Ad (B0 (a,b)) ((j:Int),d.toList)=some (Sort.shiftUp lE m j d).toList:=by
 subst f;intro n;induction n with
 |zero=>grind[CZ,Sort.shiftUp,B0,AAk]
 |succ n q=>intro j d g k l o p;rw[CZ,Sort.shiftUp];by_cases h:j<m;have⟨v,c,e⟩:=wF d[j]! d[j-1]!;simp[B0,AAk,h,decide_true,cond_true,if_true,(by rw[tq];omega:wi ((j:Int)-1)=((j-1:Nat):Int)),(mV (i:=j)),(XY rfl:ix d.toList (j:Int)=some d[j]!),(XY rfl:ix d.toList ((j-1:Nat):Int)=some d[j-1]!),(wB (a:=j) rfl:ix (BU d.toList (j:Int) d[j-1]!) ((j-1:Nat):Int)=some (d.setIfInBounds (j:Int).toNat d[j-1]!)[j-1]!),AE,c,e,iL (d:=d) (a:=j) (b:=j-1) rfl rfl];grind[Bool.not_true,Bool.false_eq_true,Sort.size_swp,Bool.not_false];grind[B0,AAk]
def wG{a b:Int}{k m:Nat}(z:a=k)(j:b=m): ∀(s i:Nat) (d:Array EN),s≤5→1≤i→k<i→i≤m→m≤d.size→d.size≤16777216→
  ∃r,Ad (EL (a,b)) ((i:Int),(((5-s:Nat):Int),d.toList))=some r/\Sum.elim (λu=>(false,u)) (λu=>u) r=((Sort.partialIns lE k m s i d).2,(Sort.partialIns lE k m s i d).1.toList)/\(Sort.partialIns lE k m s i d).1.size=d.size
 |0,i,d,h0,h1,hk,h2,h3,h4=>by rw[CZ];exact⟨.inl d.toList,rfl,rfl,rfl⟩
 |s+1,i,d,h0,h1,hk,h2,h3,h4=>by
  rw[CZ];have B:=ABf (a:=a) (s1:=(i:Int)) (s2:=((5-(s+1):Nat):Int)) j h3 h4 (m-i) i (Ag _) h1 h2;have l:=AEF (d:=d) (m:=m) (m-i) i (Ag _) h2;have o:decide (((5-(s+1):Nat):Int)<5)=true:=by simp;omega
  have A:wi (((5-(s+1):Nat):Int)+1)=((5-s:Nat):Int):=by grind[mV]
  unfold Sort.partialIns;simp only[EL,o,cond_true,B,AE,A];revert l;generalize Sort.scanSorted lE d m i=c;intro l;by_cases n:c=m;have:((c:Int)==b)=true:=by rw[j,n];exact beq_self_eq_true _
  rw[if_pos n,this,cond_true];exact⟨.inr (true,d.toList),rfl,rfl,rfl⟩;have:((c:Int)==b)=false:=by rw[j];simp;omega
  have q:wi (b-a)=((m-k:Nat):Int):=by grind[Pn]
  rw[if_neg n,this,cond_false,q];by_cases g:m-k<50;have:decide (((m-k:Nat):Int)<50)=true:=by simp;omega
  rw[if_pos g,this,cond_true];exact⟨.inr (false,d.toList),rfl,rfl,rfl⟩;have:decide (((m-k:Nat):Int)<50)=false:=by simp;omega
  have t:wi ((c:Int)-1)=((c-1:Nat):Int):=by grind[tq]
  have w:wi ((c:Int)-a)=((c-k:Nat):Int):=by grind[Pn]
  have x:wi (b-(c:Int))=((m-c:Nat):Int):=by grind[Pn]
  have y:=mV (i:=c);have C:ix d.toList (c:Int)=some d[c]! :=XY rfl;have D:ix d.toList ((c-1:Nat):Int)=some d[c-1]! :=XY rfl;have E:ix (BU d.toList (c:Int) d[c-1]!) ((c-1:Nat):Int)=some (d.setIfInBounds (c:Int).toNat d[c-1]!)[c-1]! :=wB (a:=c) rfl;simp only[this,cond_false,g,if_false,t,w,x,y,C,D,E,AE,iL (d:=d) (a:=c) (b:=c-1) rfl rfl];have p:(Sort.swp d c (c-1)).size=d.size:=Sort.size_swp _ _ _;revert p;generalize Sort.swp d c (c-1)=d1;intro p;have q1:((bif decide (((c-k:Nat):Int)>=2)then Option.bind (Ad C5 (((c-1:Nat):Int),d1.toList)) λv=>some v else some d1.toList):Option (List EN))=some (if c-k>=2 then Sort.shiftDown lE (c-1) d1 else d1).toList:=by grind[wM]
  rw[q1,AE];have e:(if c-k>=2 then Sort.shiftDown lE (c-1) d1 else d1).size=d.size:=by grind[wN]
  revert e;generalize (if c-k>=2 then Sort.shiftDown lE (c-1) d1 else d1)=d2;intro e;have q2:((bif decide (((m-c:Nat):Int)>=2)then Option.bind (Ad (B0 (a,b)) (((c+1:Nat):Int),d2.toList)) λv=>some v else some d2.toList):Option (List EN))=some (if m-c>=2 then Sort.shiftUp lE m (c+1) d2 else d2).toList:=by
   by_cases h:m-c>=2;have:decide (((m-c:Nat):Int)>=2)=true:=by simp;omega
   rw[this,cond_true,ABh j (m-(c+1)) (c+1) d2 (Ag _) (by omega) (by omega) (by omega) (by omega),if_pos h];rfl;have:decide (((m-c:Nat):Int)>=2)=false:=by simp;omega
   rw[this,cond_false,if_neg h]
  rw[q2,AE];have f:(if m-c>=2 then Sort.shiftUp lE m (c+1) d2 else d2).size=d.size:=by split;rw[ABi (m-(c+1)) _ _ (Ag _),e];exact e
  revert f;generalize (if m-c>=2 then Sort.shiftUp lE m (c+1) d2 else d2)=d3;intro f;have⟨r,F,G,H⟩:=wG z j s c d3 (by omega) (by omega) (by omega) (by omega) (by omega) (by omega);exact⟨r,F,G,by rw[H,f]⟩
def AD4{l:List EN}{a b:Int}{k m:Nat}(c:a=k)(d:b=m)(h:k<m)(g:m≤l.length)(f:l.length≤16777216):
  Ch l (a,b)=some ((Sort.partialInsertionSort lE l.toArray k m).2,(Sort.partialInsertionSort lE l.toArray k m).1.toList):=by
 unfold Ch;have e:wi (a+1)=((k+1:Nat):Int):=by grind[mV]
 have⟨r,i,j,n⟩:=wG c d 5 (k+1) l.toArray (Ag _) (by omega) (by omega) (by omega) (by simpa using g) (by simpa using f);grind[Sort.partialInsertionSort]
def iD{l:List EN}{a b s:Int}{k m:Nat}(n:m≤l.length)(e:(k:Int)≤a∧a<m)(f:(k:Int)≤b∧b<m):
  A3 (Option.bind (ix l b) λi=>Option.bind (ix l b) λc=>Option.bind (ix l a) λj=>Option.bind (ix l a) λd=>Option.bind (BV (c,d)) λh=>bif (decide (h<0))then some (b,(a,wi (s+1)))else some (a,(b,s))) λr=>((k:Int)<=r.1/\r.1<m)/\(k:Int)<=r.2.1/\r.2.1<m:=by
 refine AB (AK) λi _=>?_;refine AB (AK) λc _=>?_;refine AB (AK) λj _=>?_;refine AB (AK) λd _=>?_;have⟨h,g,_⟩:=wF c d;rw[g,AE];exact AC (λ_=>AA ⟨f,e⟩) (λ_=>AA ⟨e,f⟩)
def ACd{l:List EN}{a b:Int}{k m:Nat}(O:a=k)(P:b=m)(y:8≤m-k)(c:m≤l.length)(X:l.length≤16777216):
  ∃(p:Nat) (h:Int),Cs l (a,b)=some ((p:Int),(h,l))/\k<=p/\p<m:=by
 subst O P;suffices key:A3 (Cs l ((k:Int),(m:Int))) λr=>((k:Int)<=r.1/\r.1<m)/\r.2.2=l by have⟨⟨n,o,A⟩,e,⟨q1,q2⟩,q3⟩:=key;dsimp only at q1 q2 q3;subst q3;exact⟨n.toNat,o,by rw[e,LV (by omega)],by omega⟩
 unfold Cs;have C:wi ((m:Int)-(k:Int))=((m-k:Nat):Int):=by grind[Pn]
 have D:wi (Int.tdiv ((m-k:Nat):Int) 4)=(((m-k)/4:Nat):Int):=by grind[Int.tdiv,Pn]
 have E:wi ((k:Int)+wi ((((m-k)/4:Nat):Int)*1))=((k+(m-k)/4:Nat):Int):=by grind[Pn]
 have F:wi ((k:Int)+wi ((((m-k)/4:Nat):Int)*2))=((k+(m-k)/4*2:Nat):Int):=by grind[Pn]
 have G:wi ((k:Int)+wi ((((m-k)/4:Nat):Int)*3))=((k+(m-k)/4*3:Nat):Int):=by grind[Pn]
 dsimp only;rw[C,D,E,F,G];have q1:k+(m-k)/4<m/\(50<=m-k->k+(m-k)/4+1<m/\k<k+(m-k)/4):=by omega
 have q2:k+(m-k)/4*2<m/\(50<=m-k->k+(m-k)/4*2+1<m/\k<k+(m-k)/4*2):=by omega
 have q3:k+(m-k)/4*3<m/\(50<=m-k->k+(m-k)/4*3+1<m/\k<k+(m-k)/4*3):=by omega
 have n:k<=k+(m-k)/4:=by omega
 have o:k<=k+(m-k)/4*2:=by omega
 have A:k<=k+(m-k)/4*3:=by omega
 clear C D E F G;revert q1 q2 q3 n o A;generalize k+(m-k)/4=i;generalize k+(m-k)/4*2=j;generalize k+(m-k)/4*3=t;intro q1 q2 q3 n o A;refine AC (λ_=>?_) (λh=>absurd y (by omega));have d: ∀v:Int×Int×Int,((k:Int)<=v.2.1/\v.2.1<m)->A3 (bif (v.2.2==0)then some (v.2.1,(1,l))else bif (v.2.2==12)then some (v.2.1,(2,l))else some (v.2.1,(0,l)):Option (Int×Int×List EN)) λr=>((k:Int)<=r.1/\r.1<m)/\r.2.2=l:=λv z=>AI (λ_=>AA ⟨z,rfl⟩) λ_=>AI (λ_=>AA ⟨z,rfl⟩) λ_=>AA ⟨z,rfl⟩;refine AC (λL=>?_) (λ_=>?_);have U:=q1.2 (by omega);have V:=q2.2 (by omega);have W:=q3.2 (by omega);rw[AY (x:=(i:Int)-1),AY (x:=(i:Int)+1),AY (x:=(j:Int)-1),AY (x:=(j:Int)+1),AY (x:=(t:Int)-1),AY (x:=(t:Int)+1)];refine AB (iD c (k:=k) (by omega) (by omega)) λQ f=>?_;refine AB (iD c (k:=k) f.2 (by omega)) λT u=>?_;refine AB (iD c (k:=k) f.1 u.1) λJ w=>?_;refine AB (iD c (k:=k) (by omega) (by omega)) λY H=>?_;refine AB (iD c (k:=k) H.2 (by omega)) λZ K=>?_;refine AB (iD c (k:=k) H.1 K.1) λv6 M=>?_;refine AB (iD c (k:=k) (by omega) (by omega)) λv7 I=>?_;refine AB (iD c (k:=k) I.2 (by omega)) λv8 y=>?_;refine AB (iD c (k:=k) I.1 y.1) λv9 N=>?_;refine AB (iD c (k:=k) w.2 M.2) λR g=>?_;refine AB (iD c (k:=k) g.2 N.2) λS q=>?_;refine AB (iD c (k:=k) g.1 q.1) λB s=>?_;exact d B s.2;refine AB (iD c (k:=k) (by omega) (by omega)) λQ f=>?_;refine AB (iD c (k:=k) f.2 (by omega)) λT u=>?_;refine AB (iD c (k:=k) f.1 u.1) λJ w=>?_;exact d J w.2
def bl8(n:Nat):Nat:=if n=0 then 0 else if n<2 then 1 else if n<4 then 2 else if n<8 then 3 else if n<16 then 4 else if n<32 then 5 else if n<64 then 6 else if n<128 then 7 else 8
def j9{n:Nat}(h:n<256):bl8 n<=8/\(1<=n->2^bl8 n<=2*n):=by grind[bl8]
def T8:Bb:=(List.range 256).map λn=>UInt8.ofNat (bl8 n)
def AEh{n:Nat}(h:n<256):six T8 (n:Int)=some ((bl8 n:Nat):Int):=by have a:=(j9 h).1;unfold six T8;simp[h];omega
noncomputable def Lz(x:Int):Option Int:=
 Option.bind ((
   bif (decide (x>=4294967296))then
    some ((Int.fdiv x (2^(min (Int.toNat 32) 64))),32)
   else
   some (x,0)):(Option (Int×Int))) λv0=>
 Option.bind ((
   bif (decide (v0.1>=65536))then
    some ((Int.fdiv v0.1 (2^(min (Int.toNat 16) 64))),(wi (v0.2+16)))
   else
   some v0):(Option (Int×Int))) λv1=>
 Option.bind ((
   bif (decide (v1.1>=256))then
    some ((Int.fdiv v1.1 (2^(min (Int.toNat 8) 64))),(wi (v1.2+8)))
   else
   some v1):(Option (Int×Int))) λv2=>
 Option.bind (six T8 (IntKind.wrap .u8 v2.1)) λv3=>
 some (wi (v2.2+(wi v3)))
def ADa:O4=Lz:=by kernel_rfl
def AEZ(n:Nat):Int.fdiv (n:Int) (2^(min (Int.toNat 16) 64))=((n/65536:Nat):Int):=by grind[Int.toNat,Int.fdiv_eq_ediv_of_nonneg]
def fd8(n:Nat):Int.fdiv (n:Int) (2^(min (Int.toNat 8) 64))=((n/256:Nat):Int):=by grind[Int.toNat,Int.fdiv_eq_ediv_of_nonneg]
theorem qN{y s:Nat}(h:y<256)(c:s<=64):(Option.bind (six T8 (IntKind.wrap .u8 (y:Int))) λa=>some (wi ((s:Int)+(wi a))))=some ((s+bl8 y:Nat):Int):=by have b:=(j9 h).1;rw[AEI,show(y:Int)%256=(y:Int) by omega,AEh h,AE,Pn (x:=((bl8 y:Nat):Int)) (by omega),Pn (by omega)];exact congrArg some (by omega)
def vR{x:Nat}(h:x<=16777216): ∃r:Nat,O4 (x:Int)=some (r:Int)/\r<=32/\(1<=x->2^r<=2*x):=by
 rw[ADa];unfold Lz;have c:decide ((x:Int)>=4294967296)=false:=by simp;omega
 rw[c,cond_false,AE];by_cases f:x>=65536;have:decide (((x:Int),(0:Int)).1>=65536)=true:=by simp;omega
 have e:wi (((x:Int),(0:Int)).2+16)=((16:Nat):Int):=by show wi (0+16)=_;decide
 rw[this,cond_true,AE,e,AEZ];by_cases g:x/65536>=256;have:decide (((((x/65536:Nat):Int),((16:Nat):Int)):Int×Int).1>=256)=true:=by simp;omega
 have e:wi (((((x/65536:Nat):Int),((16:Nat):Int)):Int×Int).2+8)=((24:Nat):Int):=by show wi (((16:Nat):Int)+8)=_;decide
 rw[this,cond_true,AE,e,fd8];have a:x/65536/256<256:=by omega
 have b:=j9 a;refine⟨_,qN a (by omega),by omega,λ_=>?_⟩;grind[Nat.pow_add];have:decide (((((x/65536:Nat):Int),((16:Nat):Int)):Int×Int).1>=256)=false:=by simp;omega
 rw[this,cond_false,AE];have a:x/65536<256:=by omega
 have b:=j9 a;refine⟨_,qN a (by omega),by omega,λ_=>?_⟩;grind[Nat.pow_add];have:decide (((x:Int),(0:Int)).1>=65536)=false:=by simp;omega
 rw[this,cond_false,AE];by_cases g:x>=256;have:decide (((x:Int),(0:Int)).1>=256)=true:=by simp;omega
 have e:wi (((x:Int),(0:Int)).2+8)=((8:Nat):Int):=by show wi (0+8)=_;decide
 rw[this,cond_true,AE,e,fd8];have a:x/256<256:=by omega
 have b:=j9 a;refine⟨_,qN a (by omega),by omega,λ_=>?_⟩;grind[Nat.pow_add];have:decide (((x:Int),(0:Int)).1>=256)=false:=by simp;omega
 rw[this,cond_false,AE];have a:x<256:=by omega
 have b:=j9 a;refine⟨_,qN (s:=0) a (by omega),by omega,λd=>?_⟩;have:=b.2 d;rw[ED];omega
def ABB{n:Nat}(a:1<=n)(h:n<=16777216): ∃M:Nat,JQ (n:Int)=some (M:Int)/\1<=M/\M<=2*n:=by
 have⟨r,g,c,hr⟩:=vR h;refine⟨2^r,?_,Nat.one_le_two_pow,hr a⟩;unfold JQ OY;rw[SN,show(n:Int)%18446744073709551616=(n:Int) by omega,g];simp only[AE];have:decide ((r:Int)<0)=false:=by simp
 rw[this,cond_false,SN];rw[(by rw[Df];omega:min (Int.toNat (r:Int)) 64=r),Int.one_mul];have b:=hr a;have:((2:Int)^r)=((2^r:Nat):Int):=by simp
 rw[this];revert b;generalize 2^r=M;intro b;exact congrArg some (by omega)
theorem oth(M:Nat)(b:1<=M)(c:M<=33554432)(B:BitVec 64): ∃o:Nat,wi (IntKind.wrap .u64 (((BitVec.toNat (B&&&(BitVec.ofInt 64 (IntKind.wrap .u64 ((M:Int)-1)))):Nat):Int)))=(o:Int)/\o<=M-1:=by
 have e:BitVec.toNat (BitVec.ofInt 64 (IntKind.wrap .u64 ((M:Int)-1)))=M-1:=by rw[SN,show((M:Int)-1)%18446744073709551616=((M-1:Nat):Int) by omega,eW,eX];omega
 have a:BitVec.toNat (B&&&(BitVec.ofInt 64 (IntKind.wrap .u64 ((M:Int)-1))))<=M-1:=by rw[BitVec.toNat_and,e];exact Nat.and_le_right
 refine⟨_,?_,a⟩;rw[SN,show((BitVec.toNat (B&&&(BitVec.ofInt 64 (IntKind.wrap .u64 ((M:Int)-1)))):Nat):Int)%18446744073709551616=((BitVec.toNat (B&&&(BitVec.ofInt 64 (IntKind.wrap .u64 ((M:Int)-1)))):Nat):Int) by omega,Pn (by omega)]
theorem AD2{W n:Nat}(a:W<2*n)(hn:n<=16777216):A3 ((bif decide ((W:Int)>=(n:Int))then some (wi ((W:Int)-(n:Int)))else some (W:Int)):Option Int) λv=> ∃o:Nat,v=o/\o<n:=by refine AC (λh=>AA ⟨W-n,?_,by omega⟩) (λh=>AA ⟨W,rfl,by omega⟩);rw[Pn (by omega)];omega
theorem AAU{l:List EN}{a b:Int}{k m:Nat}(J:a=k)(K:b=m)(h:k≤m)(W:m≤l.length)(V:l.length≤16777216):
  ∃d:Array EN,EO l (a,b)=some d.toList/\Sort.PermIn k m l.toArray d:=by
 subst J K;unfold EO;have j:wi ((m:Int)-(k:Int))=((m-k:Nat):Int):=by rw[Pn (by omega)];omega
 dsimp only;rw[j];by_cases U:m-k>=8;have e:decide (((m-k:Nat):Int)>=8)=true:=by simp;omega
 obtain⟨M,H,z,T⟩:=ABB (n:=m-k) (by omega) (by omega);rw[e,cond_true,H,AE];have p:wi (Int.tdiv ((m-k:Nat):Int) 4)=(((m-k)/4:Nat):Int):=by have:Int.tdiv ((m-k:Nat):Int) 4=(((m-k)/4:Nat):Int):=rfl;rw[this,Pn (by omega)]
 have q:wi ((k:Int)+wi ((((m-k)/4:Nat):Int)*2))=((k+(m-k)/4*2:Nat):Int):=by rw[Pn (x:=_*_) (by omega),Pn (by omega)];omega
 have D:wi (((k+(m-k)/4*2:Nat):Int)-1)=((k+(m-k)/4*2-1:Nat):Int):=by rw[tq (by omega)];omega
 have E:wi (((k+(m-k)/4*2:Nat):Int)+1)=((k+(m-k)/4*2+1:Nat):Int):=mV (by omega);have N:k+4<=k+(m-k)/4*2:=by omega
 have O:k+(m-k)/4*2+1<m:=by omega
 rw[p,q,D];obtain⟨F,t⟩:=Classical.axiomOfChoice (oth M z (by omega));have I:=λB=>(t B).1;have G:=λB=>(t B).2;have c:A3 (Ad (FW ((k:Int),(m:Int)) (M:Int)) (((k+(m-k)/4*2-1:Nat):Int),(l,IntKind.wrap .u64 ((m-k:Nat):Int)))) λr=> ∃d:Array EN,r.1=d.toList/\Sort.PermIn k m l.toArray d:=by
  refine AQ (λ(s:Int×(List EN×Int))=> ∃(i:Nat) (d:Array EN),s.1=i/\s.2.1=d.toList/\Sort.PermIn k m l.toArray d/\k<=i/\i<=k+(m-k)/4*2+2) (λs=>k+(m-k)/4*2+2-s.1.toNat) ⟨_,l.toArray,rfl,rfl,Sort.permIn_refl _ _ _,by omega,by omega⟩ ?_;rintro⟨Z,s2,s3⟩ ⟨i,d,y,w,g,f,P⟩;dsimp only at y w;subst y w;have Y:d.size=l.length:=by rw[g.1];simp
  unfold FW;dsimp only;simp only[j,p,q,E,I];refine AI (λu=>?_) (λu=>AA ⟨d,rfl,g⟩);have L:i<=k+(m-k)/4*2+1:=by have:=of_decide_eq_true u;omega
  refine AB (AD2 (n:=m-k) (Nat.lt_of_le_of_lt (G _) (by omega)) (by omega)) ?_;rintro v ⟨o,rfl,X⟩;have A:wi ((k:Int)+(o:Int))=((k+o:Nat):Int):=by rw[Pn (by omega)];omega
  have Q:ix d.toList ((k+o:Nat):Int)=some d[k+o]! :=XY rfl (by omega);have R:ix d.toList (i:Int)=some d[i]! :=XY rfl (by omega);have S:ix (BU d.toList (i:Int) d[k+o]!) ((k+o:Nat):Int)=some (d.setIfInBounds (i:Int).toNat d[k+o]!)[k+o]! :=wB (a:=i) rfl (by omega);have C:=mV (i:=i) (by omega);simp only[A,Q,R,S,AE,iL (d:=d) (a:=i) (b:=k+o) rfl rfl,C];refine AA ⟨⟨i+1,_,rfl,rfl,Sort.permIn_trans _ _ _ _ _ g (Sort.swp_permIn d k m i (k+o) f (by omega) (by omega) (by omega) (by omega)),by omega,by omega⟩,?_⟩;show _-((i+1:Nat):Int).toNat<_-((i:Nat):Int).toNat
  omega
 obtain⟨r,q1,d,q2,q3⟩:=c;rw[q1,AE,q2];exact⟨d,rfl,q3⟩;have e:decide (((m-k:Nat):Int)>=8)=false:=by simp;omega
 rw[e,cond_false];exact⟨l.toArray,rfl,Sort.permIn_refl _ _ _⟩
def oS:Sort.SWO lE where
 irrefl x:=by simp[lE]
 trans x y z h1 h2:=by simp[lE,decide_eq_true_eq]at*;omega
 ntrans x y z h1 h2:=by simp[lE,decide_eq_false_iff_not]at*;omega
def PT{α:Type}(T:Prop)(o:Option α)(Q:α->Prop):Prop:=(T-> ∃r,o=some r)/\ ∀r,o=some r->Q r
section
variable {α β γ:Type} {T:Prop}
theorem PT.some{r:α}{Q:α->Prop}(h:Q r):PT T (.some r) Q:=⟨λ_=>⟨r,rfl⟩,λs e=>by grind⟩
def dm{o:Option α}{Q:α->Prop}(h:A3 o Q):PT T o Q:=by obtain⟨r,rfl,h⟩:=h;exact PT.some h
def PT.bind{o:Option α}{k:α->Option β}{P:α->Prop}{Q:β->Prop}(h:PT T o P)(a: ∀r,P r->PT T (k r) Q):PT T (Option.bind o k) Q:=by
 cases o with
 |none=>exact⟨λt=>(by have⟨r,h⟩:=h.1 t;cases h),λr e=>(by cases e)⟩
 |some r=>exact a r (h.2 r rfl)
def PT.cond{c:Bool}{a b:Option α}{Q:α->Prop}(d:c=true->PT T a Q)(e:c=false->PT T b Q):PT T (bif c then a else b) Q:=by grind
def PT.dec{p:Prop}{_:Decidable p}{a b:Option α}{Q:α->Prop}(c:p->PT T a Q)(d: ¬p->PT T b Q):PT T (bif decide p then a else b) Q:=by grind
def PT.not{c:Bool}{a b:Option α}{Q:α->Prop}(d:c=false->PT T a Q)(e:c=true->PT T b Q):PT T (bif !c then a else b) Q:=by grind
def Fc{n m:Nat}{a b:Option α}{Q:α->Prop}(e:n=m)(h:PT T a Q):PT T (bif Nat.beq n m then a else b) Q:=by simp_all
def PT.loop{S R:Type}{body:S→Option (Step S R)}(I:S→Prop)(b:S→Nat){Q:R→Prop}{s:S}(f:I s)
  (c: ∀s,I s->PT T (body s) λst=>match st with| .next d=>I d/\b d<b s| .done r=>Q r):PT T (Ad body s) Q:=by
 suffices h: ∀n s,I s->b s<=n->PT T (Ad body s) Q from h _ s f (Ag _)
 intro n;induction n with
 |zero=>
  intro s a hn;have h:=c s a;rw[CZ];revert h;cases body s with
  |none=>intro h;exact⟨λt=>(by have⟨r,h⟩:=h.1 t;cases h),λr e=>(by cases e)⟩
  |some st=>intro h;have h:=h.2 st rfl;grind[PT.some]
 |succ n g=>
  intro s a hn;have h:=c s a;rw[CZ];revert h;cases body s with
  |none=>intro h;exact⟨λt=>(by have⟨r,h⟩:=h.1 t;cases h),λr e=>(by cases e)⟩
  |some st=>intro h;have h:=h.2 st rfl;grind[PT.some]
end
def vU(k m:Nat)(d R:Array EN):Prop:=Sort.PermIn k m d R/\Sort.SortedIn lE k m R
def IV(k0 m0:Nat)(d0:Array EN)(s:Int×(Int×(Int×(Bool×(Bool×List EN))))):Prop:=
 ∃(k m:Nat) (d:Array EN),s.1=k/\s.2.1=m/\s.2.2.2.2.2=d.toList/\k0<=k/\k<=m/\m<=m0/\d.size=d0.size/\Sort.Below lE k m d/\ ∀R,vU k m d R->vU k0 m0 d0 R
def CP(B:Nat):Prop:= ∀(d:Array EN) (k m:Nat),12<m-k->m-k<=B->m<=d.size->d.size<=16777216-> ∃(p:Nat) (h:Int),Cs d.toList ((k:Int),(m:Int))=some ((p:Int),(h,d.toList))/\k<=p/\p<m
def CPa(B:Nat):CP B:=λd k m c e a b=>ACd rfl rfl (by omega) (by simpa using a) (by simpa using b)
theorem tQ{Y:List EN×(Int×(Int×Int))→Option (List EN)}{N B k0 M:Nat}{O:Array EN}(ao:CP B)
  (E: ∀(d:Array EN) (k m:Nat) (V:Int),k<=m->m<=d.size->d.size<=16777216->m-k<=B->Sort.Below lE k m d->PT (m-k<N) (Y (d.toList,((k:Int),((m:Int),V)))) λr=> ∃R:Array EN,r=R.toList/\vU k m d R)
  (a4:M<=O.size) (a3:O.size<=16777216) (hB:M-k0<=B) {s:Int×(Int×(Int×(Bool×(Bool×List EN))))} (hs:IV k0 M O s):
  PT (M-k0<N+1) (Ey Y s) λst=>match st with
   | .next s'=>IV k0 M O s'/\(s'.2.1-s'.1).toNat<(s.2.1-s.1).toNat
   | .done r=> ∃R:Array EN,r=R.toList/\vU k0 M O R:=by
 obtain⟨s1,s2,V,wb,wp,l⟩:=s;obtain⟨k,m,d,q1,q2,q3,q4,q5,q6,q7,q8,q9⟩:=hs;dsimp only at q1 q2 q3;subst q1 q2 q3;have f:m<=d.size:=by omega
 have hd:d.size<=16777216:=by omega
 have e0:wi ((m:Int)-(k:Int))=((m-k:Nat):Int):=by rw[Pn (by omega)];omega
 unfold Ey;dsimp only;rw[e0];refine PT.dec ?_ ?_<;>intro a2;have A:=Sort.insertionSort_holds oS d k m q5 f;have:DU d.toList ((k:Int),(m:Int))=some (Sort.insertionSort lE d k m).toList:=ACl (l:=d.toList) rfl rfl (by simpa using f) q5 (by simpa using hd);rw[this,AE];refine Fc (by simp[A.1.1]) (PT.some ⟨_,rfl,q9 _ A⟩);refine PT.cond ?_ ?_<;>intro h0;have A:=Sort.heapSort_holds oS d k m q5 f;have:EE d.toList ((k:Int),(m:Int))=some (Sort.heapSort lE d k m).toList:=AAz (l:=d.toList) rfl rfl q5 (by simpa using f) (by simpa using hd);rw[this,AE];refine Fc (by simp[A.1.1]) (PT.some ⟨_,rfl,q9 _ A⟩);have al:12<m-k:=by omega
 refine PT.bind (P:=λ(v:Int×List EN)=> ∃y:Array EN,v.2=y.toList/\Sort.PermIn k m d y) ?_ ?_;refine PT.not (λ_=>?_) (λ_=>PT.some ⟨d,rfl,Sort.permIn_refl _ _ _⟩);obtain⟨y,Q,Z⟩:=AAU (l:=d.toList) (a:=(k:Int)) (b:=(m:Int)) rfl rfl q5 (by simpa using f) (by simpa using hd);rw[Q,AE];exact Fc (by have:=Z.1;simpa using this) (PT.some ⟨y,rfl,Z⟩);rintro⟨F,l1⟩ ⟨y,S,p1⟩;dsimp only at S;subst S;have z1:y.size=d.size:=p1.1;dsimp only;obtain⟨p,a1,Q,ax,a0⟩:=ao y k m al (by omega) (by omega) (by omega);rw[Q,AE];refine Fc rfl (PT.bind (P:=λ(v:Int×(Int×List EN))=> ∃(p':Nat) (q:Array EN),v.1=p'/\v.2.2=q.toList/\k<=p'/\p'<m/\Sort.PermIn k m d q) ?_ ?_);refine PT.cond (λ_=>?_) (λ_=>PT.some ⟨p,y,rfl,rfl,ax,a0,p1⟩);have hr:=Sort.reverseRange_holds y k m q5 (by omega);have:Dd y.toList ((k:Int),(m:Int))=some (Sort.reverseRange y k m).toList:=ADG (l:=y.toList) rfl rfl (by omega) (by simp;omega) (by simp;omega);dsimp only;rw[this,AE];refine Fc (by simp[hr.1]) (PT.some ⟨m-1-(p-k),_,?_,rfl,by omega,by omega,Sort.permIn_trans _ _ _ _ _ p1 hr⟩);show wi (wi ((m:Int)-1)-wi ((p:Int)-(k:Int)))=_;rw[Pn (x:=(m:Int)-1) (by omega),Pn (x:=(p:Int)-(k:Int)) (by omega),Pn (by omega)];omega;rintro⟨p',ar,l2⟩ ⟨z,q,U,T,n,o,H⟩;dsimp only at U T;subst U T;have z2:q.size=d.size:=H.1;have B2:Sort.Below lE k m q:=Sort.Below.perm q8 f H;dsimp only;refine PT.bind (P:=λ(v:List EN ⊕ List EN)=>match v with| .inl u=> ∃e:Array EN,u=e.toList/\Sort.PermIn k m d e| .inr u=> ∃R:Array EN,u=R.toList/\vU k m d R) ?_ ?_;refine PT.cond (λ_=>PT.cond (λ_=>PT.cond (λ_=>?_) (λ_=>PT.some ⟨q,rfl,H⟩)) (λ_=>PT.some ⟨q,rfl,H⟩)) (λ_=>PT.some ⟨q,rfl,H⟩);have A:=Sort.partialInsertionSort_holds oS q k m (by omega) (by omega) B2;have:Ch q.toList ((k:Int),(m:Int))=some ((Sort.partialInsertionSort lE q k m).2,(Sort.partialInsertionSort lE q k m).1.toList):=AD4 (l:=q.toList) rfl rfl (by omega) (by simp;omega) (by simp;omega);rw[this,AE];refine Fc (by simp[A.1.1]) (PT.cond (λh=>PT.some ⟨_,rfl,Sort.permIn_trans _ _ _ _ _ H A.1,A.2 h⟩) (λ_=>PT.some ⟨_,rfl,Sort.permIn_trans _ _ _ _ _ H A.1⟩));rintro(u|u) hu;obtain⟨e,rfl,p3⟩:=hu;have z3:e.size=d.size:=p3.1;have B3:Sort.Below lE k m e:=Sort.Below.perm q8 f p3;show PT _ (Option.bind _ _) _;refine PT.bind (P:=λ(v:(Int×List EN)⊕ (Int×List EN))=>match v with
  | .inl w=> ∃(c:Nat) (g:Array EN),w=((c:Int),g.toList)/\k<c/\c<=m/\g.size=e.size/\Sort.Below lE c m g/\ ∀R,vU c m g R->vU k m e R
  | .inr w=>w=((k:Int),e.toList)) ?_ ?_
 refine PT.dec (λhk=>?_) (λ_=>PT.some rfl);have e1:wi ((k:Int)-1)=((k-1:Nat):Int):=by rw[tq (by omega)];omega
 obtain⟨v,Q,Z⟩:=wF e[k-1]! e[z]!;rw[e1,XY (k:=k-1) rfl (by omega),XY (k:=z) rfl (by omega)];simp only[AE,Q,Z];refine PT.not (λhn=>?_) (λ_=>PT.some rfl);have:DF e.toList ((k:Int),((m:Int),(z:Int)))=some ((((Sort.partitionEqual lE e k m z).1:Nat):Int),(Sort.partitionEqual lE e k m z).2.toList):=zS (l:=e.toList) rfl rfl rfl n o (by simp;omega) (by simp;omega);rw[this,AE];clear this;generalize K:Sort.partitionEqual lE e k m z=w;have⟨c,g⟩:=w;have⟨r1,r2,I,W,X⟩:=Sort.round_eq oS (Sort.partitionEqual_holds lE) (by omega) n o (by omega) B3 hn K;refine Fc (by simp[I]) (PT.some ⟨_,_,rfl,r1,r2,I,W,λR j=>X R j.1 j.2⟩);rintro(w|w) K;obtain⟨c,g,rfl,r1,r2,I,W,X⟩:=K;refine PT.some ⟨⟨c,m,g,rfl,rfl,rfl,by omega,by omega,q6,by omega,W,λR j=>q9 R ?_⟩,?_⟩;have:=X R j;exact⟨Sort.permIn_trans _ _ _ _ _ p3 this.1,this.2⟩;show((m:Int)-(c:Int)).toNat<((m:Int)-(k:Int)).toNat
 omega;subst K;show PT _ (Option.bind _ _) _;have:D6 e.toList ((k:Int),((m:Int),(z:Int)))=some ((((Sort.partition lE e k m z).1:Nat):Int),((Sort.partition lE e k m z).2.1,(Sort.partition lE e k m z).2.2.toList)):=ABG (l:=e.toList) rfl rfl rfl n o (by simp;omega) (by simp;omega);dsimp only;rw[this,AE];clear this;generalize K:Sort.partition lE e k m z=w;have⟨c,ap,g⟩:=w;have rp:=Sort.round_part oS (Sort.partition_holds lE) n o (by omega) B3 K;dsimp only;have⟨r1,r2,I,W,X,r6,r7⟩:=rp;refine Fc (by simp[I]) ?_;have e2:wi ((c:Int)-(k:Int))=((c-k:Nat):Int):=by rw[Pn (by omega)];omega
 have e3:wi ((m:Int)-(c:Int))=((m-c:Nat):Int):=by rw[Pn (by omega)];omega
 have e4:=mV (i:=c) (by omega);rw[e2,e3,e4];refine PT.bind (P:=λ(v:Int×(Int×(Bool×List EN)))=> ∃(C D:Nat) (J:Array EN),v.1=C/\v.2.1=D/\v.2.2.2=J.toList/\k<=C/\C<=D/\D<=m/\D-C<m-k/\J.size=e.size/\Sort.Below lE C D J/\ ∀R,vU C D J R->vU k m e R) ?_ ?_;refine PT.dec ?_ ?_<;>intro hc;have hr:=E g k c F r1 (by omega) (by omega) (by omega) W;refine PT.bind (P:=λr=> ∃R:Array EN,r=R.toList/\vU k c g R) ⟨λt=>hr.1 (by omega),hr.2⟩ ?_;rintro r ⟨L,rfl,G⟩;have⟨b1,b2⟩:=r6 L G.1 G.2;have zL:L.size=g.size:=G.1.1;refine Fc (by show L.toList.length=e.toList.length;rw[DQ,DQ,zL,I]) (PT.some ⟨c+1,m,L,rfl,rfl,rfl,by omega,by omega,by omega,by omega,by omega,b1,λR j=>b2 R j.1 j.2⟩);have hr:=E g (c+1) m F (by omega) (by omega) (by omega) (by omega) X;refine PT.bind (P:=λr=> ∃R:Array EN,r=R.toList/\vU (c+1) m g R) ⟨λt=>hr.1 (by omega),hr.2⟩ ?_;rintro r ⟨L,rfl,G⟩;have⟨b1,b2⟩:=r7 L G.1 G.2;have zL:L.size=g.size:=G.1.1;refine Fc (by show L.toList.length=e.toList.length;rw[DQ,DQ,zL,I]) (PT.some ⟨k,c,L,rfl,rfl,rfl,by omega,by omega,by omega,by omega,by omega,b1,λR j=>b2 R j.1 j.2⟩);rintro⟨v1,v2,v3,v4⟩ ⟨C,D,J,h1,h2,h3,h4,h5,h6,h7,h8,h9,ad⟩;dsimp only at h1 h2 h3;subst h1 h2 h3;refine PT.some ⟨⟨C,D,J,rfl,rfl,rfl,by omega,h5,by omega,by omega,h9,λR j=>q9 R ?_⟩,?_⟩;have:=ad R j;exact⟨Sort.permIn_trans _ _ _ _ _ p3 this.1,this.2⟩;show((D:Int)-(C:Int)).toNat<((m:Int)-(k:Int)).toNat
 omega;obtain⟨R,rfl,j⟩:=hu;exact PT.some ⟨R,rfl,q9 R j⟩
def ABI(a:List EN×(Int×(Int×Int))->Option (List EN))(l:List EN)(x:Int×(Int×Int)):D7 a l x=Option.bind (Ad (Ey a) (x.1,(x.2.1,(x.2.2,(true,(true,l)))))) λv=>some v:=rfl
def mS{B:Nat}(a:CP B): ∀(N:Nat) (d:Array EN) (k m:Nat) (b:Int),k≤m→m≤d.size→d.size≤16777216→m-k≤B→Sort.Below lE k m d→
  PT (m-k<N) (fw (λg p=>D7 g p.1 p.2) N (d.toList,((k:Int),((m:Int),b)))) λr=> ∃R:Array EN,r=R.toList/\vU k m d R
 |0,d,k,m,b,h1,h2,h3,h4,h5=>⟨λt=>absurd t (by omega),λr e=>by cases e⟩
 |N+1,d,k,m,b,h1,h2,h3,h4,h5=>by show PT _ (D7 (fw _ N) d.toList ((k:Int),((m:Int),b))) _;rw[ABI];refine PT.bind (P:=λr=> ∃R:Array EN,r=R.toList/\vU k m d R) ?_ λr h=>PT.some h;exact PT.loop (IV k m d) (λs=>(s.2.1-s.1).toNat) ⟨k,m,d,rfl,rfl,rfl,Ag _,h1,Ag _,rfl,h5,λR h=>h⟩ λs c=>⟨(tQ a (mS a N) h2 h3 h4 c).1,λst e=>by have:=(tQ a (mS a N) h2 h3 h4 c).2 st e;cases st<;>exact this⟩
def AC4{B:Nat}(a:CP B){d:Array EN}{k m:Nat}{lim:Int}(b:k≤m)(c:m≤d.size)(e:d.size≤16777216)(f:m-k≤B)(g:Sort.Below lE k m d):
  A3 (HO d.toList ((k:Int),((m:Int),lim))) λr=> ∃R:Array EN,r=R.toList/\vU k m d R:=by
 have⟨r,hr⟩:=(mS a (m-k+1) d k m lim b c e f g).1 (by omega);have⟨s,h⟩:=g9 hr;have⟨N,i⟩:=fT h;exact⟨s,h,(mS a N d k m lim b c e f g).2 s i⟩
def ABd{B:Nat}(c:CP B){l:List EN}(h:l.length<=B)(q:l.length<=16777216):A3 (CW l ()) λr=>r.Perm l/\r.Pairwise λa b=>a.1<=b.1:=by
 unfold CW OY;obtain⟨n,g,-,-⟩:=vR (x:=l.length) q;rw[SN,show(len l)%18446744073709551616=(l.length:Int) by show((l.length:Nat):Int)%_=_;omega,g];simp only[AE];apply AB (AC4 c (d:=l.toArray) (k:=0) (m:=l.length) (lim:=(n:Int)) (by omega) (by simp) (by simpa using q) (by omega) (.inl rfl));rintro r ⟨R,rfl,p,t⟩;have s:R.size=l.length:=by rw[p.1];simp
 have u:Nat.beq (List.length R.toList) (List.length l)=true:=by simp[s]
 rw[u,cond_true];refine AA ⟨?_,?_⟩;have:=p.2.2;rw[show R.extract 0 l.length=R by rw[<-s];exact iQ,show l.toArray.extract 0 l.length=l.toArray by rw[show l.length=l.toArray.size by simp];exact iQ]at this;exact this;rw[KH];intro i j v w f;have e:i<R.size:=by simpa using v
 have o:j<R.size:=by simpa using w
 have:=t i j (Bt _) f (by omega);rw[getElem!_pos R j o,getElem!_pos R i e]at this;simp only[lE,decide_eq_false_iff_not]at this;simp only[Array.getElem_toList];omega
def jH{x:AM×Int}(h:x.1.1.length<=16)(a:0<=x.2/\x.2<x.1.1.length):A3 (JX x) λr=>True:=by unfold JX;have e:=AY (x:=x.2+1);rw[e];refine AC (λb=>?_) (λ_=>?_);simp only[len]at b;refine AB (AK a.1 a.2) λc _=>?_;exact AB (AK (by omega) b) λd _=>AA trivial;exact AB (AK a.1 a.2) λf _=>AA trivial
theorem gF{x:AM×AT}(h:x.1.1.length<=16):A3 (Lg x) λr=>True:=by
 unfold Lg;refine AB (P:=λ_=>True) ?_ λv _=>BA (λ_ _=>AA trivial) (λ_ _=>AA trivial);refine AQ (λ(s:Int)=>0<=s/\s<=x.1.1.length) (λ(s:Int)=>((x.1.1.length:Int)-s).toNat) ⟨Ak _,by omega⟩ (λs c=>?_);unfold PQ;have e:=AY (x:=s+1) (by omega);rw[e];refine AC (λa=>?_) (λ_=>AA trivial);simp only[len]at a;have b:((0<=s+1/\s+1<=x.1.1.length)/\((x.1.1.length:Int)-(s+1)).toNat<((x.1.1.length:Int)-s).toNat):=⟨⟨by omega,by omega⟩,by omega⟩
 refine AB (jH h ⟨c.1,a⟩) λd _=>?_;refine AU (λ_=>?_) (λ_=>AA b);exact AU (λ_=>AA trivial) (λ_=>AA b)
def gE{x:AM×BP}(h:x.1.1.length<=16)(c:x.2.2.2.length<=2199023255552):A3 (Gc x) λr=>r.2=true->Yp r.1:=by unfold Gc;refine AL (λ_=>AA λa=>absurd a (by decide)) (λ_=>?_);refine AB (mH c) λd b=>?_;refine AU (λa=>?_) (λ_=>AA λa=>by cases a);exact AB (gF h) λe _=>AA λ_=>b a
def zF{a b:Int}(f:0<=a:=by omega)(g:0<=b:=by omega)(h:a+b<=1099511627776:=by omega):wi (Int.fdiv (IntKind.wrap .u64 (wi (a+b))) (2^(min (Int.toNat 1) 64)))=(a+b)/2:=by
 have c:wi (a+b)=a+b:=AY;have d:IntKind.wrap .u64 (a+b)=a+b:=by rw[SN];omega
 have e:(2:Int)^(min (Int.toNat 1) 64)=2:=by decide
 rw[c,d,e,eZ _ (by decide)];exact AY
def kW{x:Int×Int}:A3 (Sj x) λr=>r=true↔x.1<x.2:=by unfold Sj FY;apply Az;refine AI (λa=>?_) (λ_=>AA (by simp));simp at a
def MT{α:Type}(b:Bool)(o:Option α)(Q:α->Prop):Prop:=(b=true-> ∃r,o=some r)/\ ∀r,o=some r->Q r
section
variable {α β:Type} {b:Bool}
def MT.some{r:α}{Q:α->Prop}(h:Q r):MT b (.some r) Q:=⟨λ_=>⟨r,rfl⟩,λs e=>by injection e with e;rw[<-e];exact h⟩
def dr{o:Option α}{Q:α->Prop}(h:A3 o Q):MT b o Q:=⟨λ_=>by have⟨r,e,_⟩:=h;exact⟨r,e⟩,λr e=>h.get e⟩
def MT.bind{o:Option α}{k:α->Option β}{P:α->Prop}{Q:β->Prop}(h:MT b o P)(d: ∀r,P r->MT b (k r) Q):MT b (Option.bind o k) Q:=by refine⟨λc=>?_,λr e=>?_⟩;have⟨r,e⟩:=h.1 c;have⟨s,a⟩:=(d r (h.2 r e)).1 c;exact⟨s,by rw[e];exact a⟩;have⟨s,f,a⟩:=Dv.1 e;exact(d s (h.2 s f)).2 r a
def MT.cond{c:Bool}{x y:Option α}{Q:α->Prop}(a:c=true->MT b x Q)(d:c=false->MT b y Q):MT b (bif c then x else y) Q:=by cases c<;>grind
def MT.dec{p:Prop}{_:Decidable p}{x y:Option α}{Q:α->Prop}(a:p->MT b x Q)(c: ¬p->MT b y Q):MT b (bif decide p then x else y) Q:=by simp_all[MT.cond]
end
abbrev NL:=List Ar
def DS(a:AM):Prop:= ∀f∈a.2.2.1,f.2.2.length<=2199023255552
def SpL(l:List E0):Prop:=l.length<=16777216/\ ∀s∈l,1<=s.1
theorem Z5{n:Int}{v:EN}: ∀{m:List (Int×EN)},(m.map (·.1)).Nodup-> ∀q,q∈TG n v m↔q=(n,v)\/(q∈m/\q.1≠n)
 |[],_,q=>by simp[TG]
 |p::r,h,q=>by
  rw[Be,Fz]at h;unfold TG;by_cases b:p.1=n;grind[List.mem_cons_of_mem,List.mem_map_of_mem];have:(p.1==n)=false:=by simp[b]
  rw[this,cond_false];constructor;intro a;rcases A1.1 a with a|a;grind;rcases(Z5 h.2 q).1 a with a|⟨a,hn⟩;exact .inl a;grind[List.mem_cons_of_mem];rintro(a|⟨a,hn⟩);exact CN _ ((Z5 h.2 q).2 (.inl a));rcases A1.1 a with a|a;grind;exact CN _ ((Z5 h.2 q).2 (.inr ⟨a,hn⟩))
def pp{n:Int}{v:EN}: ∀{m:List (Int×EN)},(m.map (·.1)).Nodup->((TG n v m).map (·.1)).Nodup
 |[],_=>by simp[TG]
 |p::r,h=>by
  have b:=h;rw[Be,Fz]at h;unfold TG;by_cases a:p.1=n;grind[List.nodup_cons];have:(p.1==n)=false:=by simp[a]
  rw[this,cond_false,Be,Fz];refine⟨λc=>?_,pp h.2⟩;grind[Z5,List.mem_map_of_mem]
def pm{n:Int}{e:EN}: ∀{m:List (Int×EN)},Pk n m=some e->(n,e)∈m
 |[],h=>by cases h
 |p::r,h=>by
  unfold Pk at h;by_cases a:p.1=n;grind;have:(p.1==n)=false:=by simp[a]
  rw[this,cond_false]at h;exact CN _ (pm h)
def pk{n:Int}: ∀{m:List (Int×EN)},Pk n m=none-> ∀q∈m,q.1≠n
 |[],_,q,a=>by cases a
 |p::r,h,q,a=>by
  unfold Pk at h;by_cases b:p.1=n;have:(p.1==n)=true:=by simp[b]
  rw[this,cond_true]at h;cases h;have:(p.1==n)=false:=by simp[b]
  rw[this,cond_false]at h;rcases A1.1 a with a|a;rw[a];exact b;exact pk h q a
def PC(m:List (Int×EN))(P:EN->Prop):Prop:=(m.map (·.1)).Nodup/\(∀q∈m,q.1=q.2.1)/\ ∀e,(e.1,e)∈m↔P e
def PC.nil:PC [] λ_=>False:=⟨Ny,by simp,by simp⟩
def PC.put{m:List (Int×EN)}{P:EN->Prop}{v:EN}(h:PC m P):PC (TG v.1 v m) λe=>e=v\/(P e/\e.1≠v.1):=by refine⟨pp h.1,λq a=>?_,λe=>?_⟩;rcases(Z5 h.1 q).1 a with a|⟨a,_⟩;rw[a];exact h.2.1 q a;rw[Z5 h.1];constructor;rintro(a|⟨a,hn⟩);injection a with _ a;exact .inl a;exact .inr ⟨(h.2.2 e).1 a,hn⟩;rintro(rfl|⟨a,hn⟩);exact .inl rfl;exact .inr ⟨(h.2.2 e).2 a,hn⟩
def PC.congr{m:List (Int×EN)}{P Q:EN->Prop}(h:PC m P)(a: ∀e,P e↔Q e):PC m Q:=⟨h.1,h.2.1,λe=>(h.2.2 e).trans (a e)⟩
def PC.get{m:List (Int×EN)}{P:EN->Prop}(h:PC m P){e:EN}(g:P e):Pk e.1 m=some e:=by
 have d:=(h.2.2 e).2 g;cases c:Pk e.1 m with
 |none=>exact absurd rfl (pk c _ d)
 |some f=>
  have i: ∀{l:List (Int×EN)},(l.map (·.1)).Nodup-> ∀{n:Int} {a b:EN},(n,a)∈l->(n,b)∈l->a=b:=by intro l;induction l<;>grind
  rw[i h.1 d (pm c)]
def dd(e:EN):Bool:=(e.2.1==1)||(e.2.1==2)
def gr(e:EN):A6 e=some (dd e):=by grind[A6,dd]
def Ol(p i j:Int)(e:EN):Bool:=dd e&&((e.2.2.2.2.2.2.1.1==p)&&(decide (e.1>i)&&decide (e.1<=j)))
def Ox(s:Int×Int)(n:Int):Bool:=decide (n>=s.1)&&decide (n<=s.2)
def has_eq(s:Int×Int)(n:Int):Ie (s,n)=some (Ox s n):=by grind[Ie,Ox]
def ADw{e:EN}{l:List (Int×Int)}(j:l.length<=16777216):A3 (Ad (Uf e l) 0) λr=>(∀u,r= .inl u->0<=u/\(l.any λs=>Ox s e.1)=true)/\(∀u,r= .inr u->(l.any λs=>Ox s e.1)=false):=by refine AQ (λ(s:Int)=>0<=s/\s<=l.length/\ ∀x∈l.take s.toNat,Ox x e.1=false) (λ(s:Int)=>((l.length:Int)-s).toNat) ⟨Ak _,by omega,by simp⟩ (λs d=>?_);have⟨g,m,h⟩:=d;unfold Uf;refine AC (λa=>?_) (λa=>AA ⟨λu b=>(by cases b),λu _=>?_⟩);simp[len]at a;rw[(AY (x:=s+1))];refine AB (AK g a) λn c=>?_;rw[has_eq,AE];refine AI (λk=>AA ⟨λu b=>?_,λu b=>(by cases b)⟩) (λi=>AA ⟨⟨by omega,by omega,λx f=>?_⟩,by omega⟩);grind[List.any_eq_true];rw[show(s+1).toNat=s.toNat+1 by omega,Ed,c.1]at f;grind[Option.toList_some,List.mem_singleton];simp[len]at a;rw[Bs (by omega)]at h;rw[Bool.eq_false_iff];grind[List.any_eq_true]
def ADv{a:AM}{l:Aj}{p i j:Int}{d:List (Int×Int)}(R:Du l)(hv:1≤d.length)(S:d.length≤16777216):
  A3 (Ad (Ue (a,(l,(p,(i,j)))) d) (0,(0,[]))) λr=>r.1=((l.2.1.filter λe=>Ol p i j e&&(d.tail.any λs=>Ox s e.1)).length:Int)/\PC r.2 λe=>e∈l.2.1/\Ol p i j e=true:=by
 obtain⟨l1,l2,l3,l4,l5,K⟩:=R;refine AQ (λ(s:Int×(Int×List (Int×EN)))=>0<=s.1/\s.1<=l.2.1.length/\s.2.1=(((l.2.1.take s.1.toNat).filter λe=>Ol p i j e&&(d.tail.any λs=>Ox s e.1)).length:Int)/\PC s.2.2 λe=>e∈l.2.1.take s.1.toNat/\Ol p i j e=true) (λs=>((l.2.1.length:Int)-s.1).toNat)
  ⟨Ak _,by dsimp only;omega,by simp,PC.nil.congr λe=>by simp⟩ (λs O=>?_)
 obtain⟨T,i2,A,B⟩:=O;unfold Ue;dsimp only;refine AC (λy=>?_) (λy=>AA ?_);simp only[len]at y;have L:=AY (x:=s.1+1);rw[L];refine AB (AK T y) λq I=>?_;rw[gr,AE];have g:l.2.1.take (s.1+1).toNat=l.2.1.take s.1.toNat++[q]:=by rw[show(s.1+1).toNat=s.1.toNat+1 by omega,Ed,I.1];rfl
 have f:Ol p i j q=false->(0<=s.1+1/\s.1+1<=l.2.1.length/\s.2.1=(((l.2.1.take (s.1+1).toNat).filter λe=>Ol p i j e&&(d.tail.any λs=>Ox s e.1)).length:Int)/\PC s.2.2 λe=>e∈l.2.1.take (s.1+1).toNat/\Ol p i j e=true)/\((l.2.1.length:Int)-(s.1+1)).toNat<((l.2.1.length:Int)-s.1).toNat:=λw=>by
  refine⟨⟨by omega,by omega,?_,?_⟩,by omega⟩;rw[g,IZ,A];simp[w];rw[g];refine B.congr λe=>⟨λh=>⟨At.2 (.inl h.1),h.2⟩,λh=>⟨?_,h.2⟩⟩
  rcases At.1 h.1 with m|m;exact m;rw[BE.1 m,w]at h;cases h.2
 refine AI (λC=>?_) (λC=>AA (f (by simp[Ol,C])));refine AI (λD=>?_) (λD=>AA (f (by simp[Ol,D])));refine AI (λE=>?_) (λE=>AA (f (by unfold Ol;rw[E];simp)));refine AI (λF=>?_) (λF=>AA (f (by unfold Ol;rw[F];simp)));have w:Ol p i j q=true:=by unfold Ol;rw[C,D,E,F];rfl
 refine AB (B9 (lo:=1) (hi:=(d.length:Int))) λV N=>?_;have H:V=d.tail:=by
  rw[N.1,Bs (by rw[G6];omega)];cases d with
  |nil=>rfl
  |cons a r=>rfl
 subst H;refine AB (ADw (by rw[List.length_tail];omega)) λU o=>?_;have M:=K s.1.toNat q I.1;have n:PC (TG q.1 q s.2.2) λe=>e∈l.2.1.take (s.1+1).toNat/\Ol p i j e=true:=by
  rw[g];refine B.put.congr λe=>⟨?_,λh=>?_⟩
  rintro(rfl|⟨h,_⟩);exact⟨At.2 (.inr (BE.2 rfl)),w⟩;exact⟨At.2 (.inl h.1),h.2⟩;rcases At.1 h.1 with m|m;refine .inr ⟨⟨m,h.2⟩,λZ=>?_⟩;obtain⟨k,Q,v⟩:=Tj.1 m;rw[Bh]at Q;rw[List.getElem_take]at v;have:=(K k e (by rw[<-v];exact Aw (by omega))).1;omega;exact .inl (BE.1 m)
 have t: ∀b:Bool,(d.tail.any λs=>Ox s q.1)=b->((((l.2.1.take (s.1+1).toNat).filter λe=>Ol p i j e&&(d.tail.any λs=>Ox s e.1)).length:Nat):Int)=s.2.1+(if b=true then 1 else 0):=λb P=>by rw[g,IZ,Af,A];cases b<;>simp[w,P]
 have J:(((l.2.1.take s.1.toNat).filter λe=>Ol p i j e&&(d.tail.any λs=>Ox s e.1)).length:Int)<=4096:=by have W:=LZ (λe=>Ol p i j e&&(d.tail.any λs=>Ox s e.1)) (l.2.1.take s.1.toNat);have X:=List.length_take_le s.1.toNat l.2.1;have Y:=List.length_take_le' s.1.toNat l.2.1;omega
 have G:=AY (x:=s.2.1+1);rw[G];refine BA (λu z=>?_) (λu z=>AA ⟨⟨by dsimp only;omega,by dsimp only;omega,?_,n⟩,by dsimp only;omega⟩);refine AC (λ_=>AA ⟨⟨by dsimp only;omega,by dsimp only;omega,?_,n⟩,by dsimp only;omega⟩) (λc=>absurd (o.1 u z).1 c);rw[t true (o.1 u z).2];rfl;rw[t false (o.2 u z)];simp;simp only[len]at y;rw[Bs (by omega)]at A B;exact⟨A,B⟩
def ui(f e:EN):Prop:=f.2.2.2.2.2.2.1.1<e.2.2.2.2.2.2.1.1\/(f.2.2.2.2.2.2.1.1=e.2.2.2.2.2.2.1.1/\f.1<e.1)
theorem uj(e:EN): ¬ui e e:=by unfold ui;omega
def xJ{a b c:EN}(h:ui a b)(g:ui b c):ui a c:=by unfold ui at*;omega
def ABv(f e:EN): ∃c:Int,Dj (f,e)=some c/\(c<0↔ui f e)/\(c=0↔f.2.2.2.2.2.2.1.1=e.2.2.2.2.2.2.1.1/\f.1=e.1):=by
 have:A3 (Dj (f,e)) λc=>(c<0↔ui f e)/\(c=0↔f.2.2.2.2.2.2.1.1=e.2.2.2.2.2.2.1.1/\f.1=e.1):=by
  unfold Dj;unfold ui;dsimp only;repeat' with_reducible first|apply AC<;>intro a|apply AU<;>intro a|apply AI<;>intro a|apply AA
  all_goals omega
 exact this
def rZ(x:AT)(i:Nat):Prop:= ∀e,x.2.2.2.2.2[i]? =some e->
 (K8 e/\dd e=true/\x.1<=e.1/\e.1<=x.2.1/\x.2.2.1<=e.2.2.2.2.2.2.1.1/\e.2.2.2.2.2.2.1.1<=x.2.2.2.1)/\(i=0->e.2.2.2.2.1<x.1)/\
 ∀f,0<i->x.2.2.2.2.2[i-1]? =some f->ui f e/\(f.2.2.2.2.2.2.1.1=e.2.2.2.2.2.2.1.1->e.2.2.2.2.1=f.1)/\(f.2.2.2.2.2.2.1.1≠e.2.2.2.2.2.2.1.1->e.2.2.2.2.1<x.1)
def VR(x:AT):Prop:=Yp x/\ ∀i,rZ x i
def VR.ent{x:AT}(h:VR x){e:EN}(a:e∈x.2.2.2.2.2):K8 e/\dd e=true/\x.1<=e.1/\e.1<=x.2.1/\x.2.2.1<=e.2.2.2.2.2.2.1.1/\e.2.2.2.2.2.2.1.1<=x.2.2.2.1:=by obtain⟨i,b,rfl⟩:=Tj.1 a;exact(h.2 i _ (Aw b)).1
def uG{x:AT}(Q:x.2.2.2.2.2.length<=4096):A3 (Ad (Gs x) 0) λr=>(r= .inl false/\ ¬ ∀i,rZ x i)\/(r= .inr ()/\ ∀i,rZ x i):=by
 refine Gf (λ(s:Int)=>0<=s/\s<=x.2.2.2.2.2.length/\ ∀i:Nat,(i:Int)<s->rZ x i) (λ(s:Int)=>((x.2.2.2.2.2.length:Int)-s).toNat) ⟨Ak _,by omega,λi z=>by omega⟩ (λs J=>?_);obtain⟨G,R,H⟩:=J;unfold Gs;simp only[len];refine AC (λE=>?_) (λE=>A3.done (.inr ⟨rfl,λi=>?_⟩))
 case refine_2=>by_cases z:(i:Int)<s;exact H i z;intro e m;rw[Ck (by omega)]at m;cases m
 obtain⟨k,rfl⟩:=Ei G;refine AB (AK G E) λv d=>?_;have d:=d.1;rw[Df]at d;have a:(rZ x k->False)->A3 (some (Step.done (.inl false)):Option (Step Int (Bool ⊕ Unit))) (XJ (λ(s:Int)=>0<=s/\s<=x.2.2.2.2.2.length/\ ∀i:Nat,(i:Int)<s->rZ x i) (λ(s:Int)=>((x.2.2.2.2.2.length:Int)-s).toNat) ((x.2.2.2.2.2.length:Int)-(k:Int)).toNat λr=>(r= .inl false/\ ¬ ∀i,rZ x i)\/(r= .inr ()/\ ∀i,rZ x i)):=λh=>A3.done (.inl ⟨rfl,λu=>h (u k)⟩);have j:rZ x k->A3 (some (Step.next (wi ((k:Int)+1))):Option (Step Int (Bool ⊕ Unit))) (XJ (λ(s:Int)=>0<=s/\s<=x.2.2.2.2.2.length/\ ∀i:Nat,(i:Int)<s->rZ x i) (λ(s:Int)=>((x.2.2.2.2.2.length:Int)-s).toNat) ((x.2.2.2.2.2.length:Int)-(k:Int)).toNat λr=>(r= .inl false/\ ¬ ∀i,rZ x i)\/(r= .inr ()/\ ∀i,rZ x i)):=λh=>by
  rw[AY];refine A3.next ⟨by omega,by omega,λi z=>?_⟩ (by omega)
  by_cases A:i=k;rw[A];exact h;exact H i (by omega)
 refine AB B7 λN C=>?_;refine AO (λl=>a λok=>?_) (λl=>?_);have:=C.2 (ok v d).1.1;rw[l]at this;cases this;have q1:=C.1 l;refine AB B4 λO D=>?_;have q:dd v=true↔v.2.1=1\/v.2.1=2:=by unfold dd;simp
 refine AO (λl=>a λok=>?_) (λl=>?_);have:=D.2 (q.1 (ok v d).1.2.1);rw[l]at this;cases this;have q2:=q.2 (D.1 l);refine AC (λt=>a λok=>?_) (λq3=>?_);have:=(ok v d).1.2.2;omega;refine AC (λt=>a λok=>?_) (λq4=>?_);have:=(ok v d).1.2.2;omega;refine AC (λt=>a λok=>?_) (λq5=>?_);have:=(ok v d).1.2.2;omega;refine AC (λt=>a λok=>?_) (λq6=>?_);have:=(ok v d).1.2.2;omega;have q0:K8 v/\dd v=true/\x.1<=v.1/\v.1<=x.2.1/\x.2.2.1<=v.2.2.2.2.2.2.1.1/\v.2.2.2.2.2.2.1.1<=x.2.2.2.1:=⟨q1,q2,by omega⟩
 apply AC<;>intro L;have M:wi ((k:Int)-1)=((k-1:Nat):Int):=by rw[AY];omega
 have F:k-1<x.2.2.2.2.2.length:=by omega
 have w:ix x.2.2.2.2.2 (wi ((k:Int)-1))=some (x.2.2.2.2.2[k-1]):=by rw[M];unfold ix;rw[if_pos (by omega),Df,Aw F]
 have n:x.2.2.2.2.2[k-1]? =some (x.2.2.2.2.2[k-1]):=Aw F;generalize x.2.2.2.2.2[k-1]=f at w n;obtain⟨c,y,p,K⟩:=ABv f v;rw[w,AE,y,AE];refine AC (λt=>a λok=>?_) (λt=>?_);have:=p.2 ((ok v d).2.2 f (by omega) n).1;omega;have q7:=p.1 (by omega);rw[decide_eq_true (by omega),cond_true,AE];refine AB (P:=λr:Bool ⊕ Unit=>(r= .inl false/\ ¬rZ x k)\/(r= .inr ()/\rZ x k)) ?_ λr hr=>?_;apply AU<;>intro m;rw[AE];refine AL (λhn=>AA (.inl ⟨rfl,λok=>hn (((ok v d).2.2 f (by omega) n).2.1 m)⟩)) (λhn=>AA (.inr ⟨rfl,λe g=>?_⟩));rw[d]at g;injection g with g;subst g;refine⟨q0,λo=>absurd o (by omega),λI _ b=>?_⟩;rw[n]at b;injection b with b;subst b;exact⟨q7,λ_=>hn,λu=>absurd m u⟩;refine AC (λhn=>AA (.inl ⟨rfl,λok=>?_⟩)) (λhn=>AA (.inr ⟨rfl,λe g=>?_⟩));have:=((ok v d).2.2 f (by omega) n).2.2 m;omega;rw[d]at g;injection g with g;subst g;refine⟨q0,λo=>absurd o (by omega),λI _ b=>?_⟩;rw[n]at b;injection b with b;subst b;exact⟨q7,λu=>absurd u m,λ_=>by omega⟩;rcases hr with⟨rfl,hr⟩|⟨rfl,hr⟩;exact BH (a hr);exact A9 (j hr);rw[decide_eq_false L,cond_false];have B:k=0:=by omega
 apply BS;apply AC<;>intro hn;rw[AE];refine BH (a λok=>?_);have:=(ok v d).2.1 B;omega;rw[AE];refine A9 (j λe g=>?_);rw[d]at g;injection g with g;subst g;exact⟨q0,λ_=>by omega,λf o=>absurd o (by omega)⟩
def Yq{x:AT}:A3 (Er x) λr=>r=true↔VR x:=by unfold Er;refine AB H9 λf c=>?_;refine AO (λb=>AA ⟨λa=>(by cases a),λa=>?_⟩) (λb=>?_);obtain⟨⟨a1,a2,a3,a4,a5,a6,a7,a8,a9⟩,_⟩:=a;have:=c.2 ⟨a1,a2,a3,a4,a5,a6,a7,a8⟩;rw[b]at this;cases this;have hn:=c.1 b;dsimp only at hn;refine AC (λd=>AA ⟨λa=>(by cases a),λa=>?_⟩) (λe=>?_);have:=a.1.2.2.2.2.2.2.2.2;simp only[len]at d;omega;simp only[len]at e;refine AB (uG (by omega)) λr hr=>?_;rcases hr with⟨rfl,hr⟩|⟨rfl,hr⟩;exact BH (AA ⟨λa=>(by cases a),λa=>absurd a.2 hr⟩);exact A9 (AA ⟨λ_=>⟨⟨hn.1,hn.2.1,hn.2.2.1,hn.2.2.2.1,hn.2.2.2.2.1,hn.2.2.2.2.2.1,hn.2.2.2.2.2.2.1,hn.2.2.2.2.2.2.2,by omega⟩,hr⟩,λ_=>rfl⟩)
abbrev NE:=Ar
def lN(x y:NE):Bool:=decide (x.1.2.2.1<y.1.2.2.1\/(x.1.2.2.1=y.1.2.2.1/\(x.1.1<y.1.1\/(x.1.1=y.1.1/\x.2<y.2))))
def oT:Sort.SWO lN where
 irrefl x:=by simp[lN]
 trans x y z h1 h2:=by simp[lN,decide_eq_true_eq]at*;omega
 ntrans x y z h1 h2:=by simp[lN,decide_eq_false_iff_not]at*;omega
def jV{l:List Int}{k:Nat}{v:Int}(h:l[k]? =some v)(b:k<1000)(c:l.length<1000):Ad (JY l) (k:Int)=if v=0 then Ad (JY l) ((k+1:Nat):Int)else some (.inl v):=by
 rw[CZ];have a:=(To.1 h).1;have d:decide ((k:Int)<len l)=true:=by simp;omega
 have e:ix l (k:Int)=some v:=by unfold ix;rw[if_pos (by omega)];simpa using h
 grind[mV,JY]
def AD1(a b c:Int):Jn [a,b,c]=some (if a≠0 then a else if b≠0 then b else c):=by unfold Jn;rw[show(0:Int)=((0:Nat):Int)from rfl,jV (k:=0) (v:=a) rfl (by omega) (by simp)];by_cases d:a=0;rw[if_pos d,jV (k:=1) (v:=b) rfl (by omega) (by simp)];by_cases e:b=0;rw[if_pos e,jV (k:=2) (v:=c) rfl (by omega) (by simp)];grind[CZ,JY];rw[if_neg e];simp[d,e];rw[if_neg d];simp[d]
def ABW(x y:NE): ∃v,HU (x,y)=some v/\decide (v<0)=lN x y:=by
 unfold HU;dsimp only;simp only[qa,AE,AD1];refine⟨_,rfl,?_⟩;unfold lN;apply decide_eq_decide.2;repeat' split
 all_goals omega
section
variable {α:Type} [Inhabited α]
theorem ub{d:Array α}{i:Int}{k:Nat}(a:i=k)(b:k<d.size:=by omega):ix d.toList i=some d[k]! :=by subst a;unfold ix;rw[if_pos (by omega)];simp[b]
omit [Inhabited α] in
theorem AC7{d:Array α}{i:Int}{k:Nat}(a:i=k)(x:α):BU d.toList i x=(d.setIfInBounds k x).toList:=by subst a;unfold BU;simp
def ABj{d:Array α}{i j:Int}{a b:Nat}(c:i=a)(e:j=b):BU (BU d.toList i d[b]!) j d[a]! =(Sort.swp d a b).toList:=by rw[AC7 c,AC7 e];rfl
def AA3{d:Array α}{i j:Int}{a b:Nat}{x:α}(e:i=a)(f:j=b)(c:b<d.size:=by omega):ix (BU d.toList i x) j=some (d.setIfInBounds a x)[b]! :=by grind[AC7,ub]
theorem eH(lt:α->α->Bool)(k:Nat): ∀(j:Nat) (d:Array α),(Sort.insInner lt k j d).size=d.size
 |0,_=>rfl
 |j+1,d=>by unfold Sort.insInner;split;rw[eH lt k j,Sort.size_swp];rfl
end
theorem vy{a b:Int}{k:Nat}(g:a=k): ∀(j:Nat) (d:Array NE),j<d.size->d.size<=16777216->Ad (DN (a,b)) ((j:Int),d.toList)=some (Sort.insInner lN k j d).toList
 |0,d,hj,hd=>by
  rw[CZ];have:decide (((0:Nat):Int)>a)=false:=by simp;omega
  simp only[DN,this,cond_false];rfl
 |j+1,d,hj,hd=>by
  rw[CZ];have⟨v,e,f⟩:=ABW d[j+1]! d[j]!;simp only[DN,(by grind[Pn]:wi (((j+1:Nat):Int)-1)=(j:Int)),(ub rfl hj),(ub rfl:ix d.toList (j:Int)=some d[j]!),(AA3 rfl rfl:ix (BU d.toList ((j+1:Nat):Int) d[j]!) (j:Int)=some (d.setIfInBounds (j+1) d[j]!)[j]!),AE,e,f,ABj (d:=d) (a:=j+1) (b:=j) rfl rfl];unfold Sort.insInner;by_cases c:j+1>k;have:decide (((j+1:Nat):Int)>a)=true:=by simp;omega
  rw[this];cases h:lN d[j+1]! d[j]! with
  |true=>simp[cond_true,c,decide_true,Rj,if_true];exact vy g j _ (by rw[Sort.size_swp];omega) (by rw[Sort.size_swp];omega)
  |false=>simp[c]
  have:decide (((j+1:Nat):Int)>a)=false:=by simp;omega
  rw[this];simp[c]
def yv{a b:Int}{k m:Nat}(g:a=k)(h:b=m): ∀(n i:Nat) (d:Array NE),m-i<=n->m<=d.size->d.size<=16777216->Ad (DM (a,b)) ((i:Int),d.toList)=some (Sort.insOuter lN k m i d).toList:=by
 intro n;induction n with
 |zero=>grind[CZ,Sort.insOuter,DM]
 |succ n j=>intro i d c e f;rw[CZ,Sort.insOuter];grind[Pn,eH,DM,vy]
def vw{d:Array NE}{a b:Int}{k m:Nat}(c:a=k)(e:b=m)(g:m<=d.size)(h:k<=m)(f:d.size<=16777216):Cp d.toList (a,b)=some (Sort.insertionSort lN d k m).toList:=by unfold Cp;dsimp only;rw[(by grind[Pn]:wi (a+1)=((k+1:Nat):Int)),yv c e (m-(k+1)) (k+1) d (by omega) g f];rfl
def xn(a b n:Nat)(d:Array NE)(k:Nat):NE:=if a<=k/\k<a+n then d[b+(k-a)]! else if b<=k/\k<b+n then d[a+(k-b)]! else d[k]!
def rV{d:Array NE}{a b n:Nat}(f:a+n≤b)(l:b+n≤d.size)(m:d.size≤16777216):
  A3 (Ce d.toList ((a:Int),((b:Int),(n:Int)))) λr=> ∃e:Array NE,r=e.toList/\e.size=d.size/\ ∀k,k<d.size->e[k]! =xn a b n d k:=by
 unfold Ce;refine AB (P:=λr=> ∃e:Array NE,r=e.toList/\e.size=d.size/\ ∀k,k<d.size->e[k]! =xn a b n d k) ?_ λr h=>AA h;refine AQ (λ(s:Int×List NE)=> ∃(t:Nat) (e:Array NE),s.1=t/\s.2=e.toList/\t<=n/\e.size=d.size/\ ∀k,k<d.size->e[k]! =xn a b t d k) (λs=>n-s.1.toNat) ⟨0,d,rfl,rfl,Bt _,rfl,λk _=>by unfold xn;rw[if_neg (by omega),if_neg (by omega)]⟩ ?_;rintro⟨q,u⟩ ⟨t,e,q1,q2,q3,q4,q5⟩;dsimp only at q1 q2;subst q1 q2;unfold HP;dsimp only;refine AC (λg=>?_) (λg=>AA ⟨e,rfl,q4,?_⟩);have o:t<n:=by omega
 simp only[(by grind[Pn]:wi ((b:Int)+(t:Int))=((b+t:Nat):Int)),(by grind[Pn]:wi ((a:Int)+(t:Int))=((a+t:Nat):Int)),(ub rfl:ix e.toList ((b+t:Nat):Int)=some e[b+t]!),(ub rfl:ix e.toList ((a+t:Nat):Int)=some e[a+t]!),(AA3 rfl rfl:ix (BU e.toList ((a+t:Nat):Int) e[b+t]!) ((b+t:Nat):Int)=some (e.setIfInBounds (a+t) e[b+t]!)[b+t]!),AE,mV (i:=t),ABj (d:=e) (a:=a+t) (b:=b+t) rfl rfl];refine AA ⟨⟨t+1,_,rfl,rfl,by omega,by rw[Sort.size_swp,q4],λk j=>?_⟩,?_⟩;rw[Sort.swp_get e (by omega) (by omega)];rw[(q5 (a+t) (by omega)),(q5 (b+t) (by omega)),(q5 k j)];unfold xn;by_cases k1:k=a+t;subst k1;rw[if_neg (by omega),if_pos rfl,if_neg (by omega),if_neg (by omega),if_pos (by omega)];exact congrArg (λz=>d[z]!) (by omega);by_cases c:k=b+t;subst c;rw[if_pos rfl,if_neg (by omega),if_neg (by omega),if_neg (by omega),if_pos (by omega)];exact congrArg (λz=>d[z]!) (by omega);rw[if_neg c,if_neg k1];by_cases p:a<=k/\k<a+t<;>grind;show n-((t+1:Nat):Int).toNat<n-((t:Nat):Int).toNat
 omega;have:t=n:=by omega
 rw[<-this];exact q5
def bn(x:AT):Bb:=[80,77,82,78]++(D9 x.1 8++(D9 x.2.1 8++(D9 x.2.2.1 4++(D9 x.2.2.2.1 4++(D9 x.2.2.2.2.1 1++D9 (x.2.2.2.2.2.length:Int) 4)))))
def OU(x:AT):Bb:=Jm (bn x)++J2 x.2.2.2.2.2
theorem fU(x:AT):(bn x).length=33:=rfl
def Yp.inr{x:AT}(h:Yp x):aE 8 x.1/\aE 8 x.2.1/\aE 4 x.2.2.1/\aE 4 x.2.2.2.1/\aE 1 x.2.2.2.2.1/\aE 4 (x.2.2.2.2.2.length:Int):=by have⟨a1,a2,a3,a4,a5,a6,a7,a8,a9⟩:=h;grind[aE]
def VR.len{x:AT}(h:VR x):(OU x).length<=34406441:=by have b:=mM (l:=x.2.2.2.2.2) λe a=>(h.ent a).1;have c:=h.1.2.2.2.2.2.2.2.2;grind[OU,List.length_append,Hu,fU]
def AAJ{x:AT}(h:Yp x):HE x=some (bn x):=by unfold HE;rw[HN (by simp) (by decide) (by decide),AE];rw[HN (by simp only[Af,BB];simp) (by decide) (by decide),AE];rw[HN (by simp only[Af,BB];simp) (by decide) (by decide),AE];rw[HN (by simp only[Af,BB];simp) (by decide) (by decide),AE];rw[HN (by simp only[Af,BB];simp) (by decide) (by decide),AE];rw[HN (by simp only[Af,BB];simp) (by decide) (by decide),AE];rfl
def lD{x:AT}(h:VR x):GR x=some (OU x,0):=by
 have q:=h.1.2.2.2.2.2.2.2.2;have⟨b,g,d⟩:=Yq (x:=x);have c:=d.2 h;subst c;unfold GR;rw[g,AE,Ds,cond_false,AAJ h.1,AE,iO (by rw[fU];decide),AE];have key:A3 (Ad (LP x) (Jm (bn x),0)) λr=>r=OU x:=by
  refine Gf (λ(s:Bb×Int)=> ∃k:Nat,s.2=k/\k<=x.2.2.2.2.2.length/\s.1=Jm (bn x)++J2 (x.2.2.2.2.2.take k)) (λs=>x.2.2.2.2.2.length-s.2.toNat) ⟨0,rfl,Bt _,by simp[J2]⟩ ?_;rintro⟨y,z⟩ ⟨k,o,u,p⟩;subst o p;unfold LP;simp only[len];refine AC (λf=>?_) (λf=>A3.done (by rw[Bs (by omega)];rfl));refine AB (AK (by omega) f) λv d=>?_;have a:=(h.ent d.2).1;have m:=Qm a;have j:=mM (l:=x.2.2.2.2.2.take k) λe i=>(h.ent (KG i)).1;have n:(x.2.2.2.2.2.take k).length<=4096:=by grind
  rw[lC a,AE,iO m,AE];refine AB (Cu (by rw[Af,Hu,Hu,fU];omega)) λw t=>?_;rw[AY];refine A3.next ⟨k+1,by grind,by omega,?_⟩ (by grind)
  grind[Int.toNat_natCast,List.take_add_one,Option.toList_some,Qn,List.append_assoc]
 obtain⟨r,hr,rfl⟩:=key;rw[hr];rfl
def WR(x:AT):Prop:=Yp x/\ ∀e∈x.2.2.2.2.2,IA e.2.2.2.2.2.2.1.2.2.1/\IA e.2.2.2.2.2.2.1.2.2.2/\e.2.2.2.2.2.2.2=[]
def yP{e:EN}(h:K8 e)(b:dd e=true):e.2.2.2.2.2.2.2=[]:=by
 have a:e.2.1=1\/e.2.1=2:=by grind[dd]
 have⟨_,_,_,_,_,_,_,_,c⟩:=h;grind[TI]
def VR.wr{x:AT}(h:VR x):WR x:=⟨h.1,λe b=>by have a:=h.ent b;exact⟨a.1.cells.1,a.1.cells.2.1,yP a.1 a.2.1⟩⟩
def xM{e:EN}(h:GD e=some true)(g:dd e=true):e.2.2.2.2.2.2.2=[]:=by
 have f:e.2.1=1\/e.2.1=2:=by unfold dd at g;simpa using g
 have key: ∀r,GD e=some r->r=true->e.2.2.2.2.2.2.2=[]:=by
  have c:MT false (GD e) λr=>r=true->e.2.2.2.2.2.2.2=[]:=by
   have p: ∀{Q:Bool->Prop},(∀r,r=false->Q r)->MT false (some false) Q:=λn=>MT.some (n _ rfl);have a:MT false (some false) λr=>r=true->e.2.2.2.2.2.2.2=[]:=MT.some λb=>by cases b
   unfold GD;refine MT.dec (λ_=>a) λ_=>?_;refine MT.dec (λ_=>a) λ_=>?_;refine MT.dec (λ_=>a) λ_=>?_;refine MT.dec (λ_=>a) λ_=>?_;refine MT.bind (dr J7) λq _=>?_;refine MT.cond (λ_=>a) λ_=>?_;refine MT.bind (dr J7) λs _=>?_;refine MT.cond (λ_=>a) λ_=>?_;refine MT.bind (dr J7) λt _=>?_;refine MT.cond (λ_=>a) λ_=>?_;refine MT.dec (λi=>absurd i (by omega)) λ_=>?_;refine MT.dec (λj=>?_) λj=>?_;refine MT.dec (λ_=>a) λ_=>?_;refine MT.bind (P:=λ_=>True) (MT.dec (λ_=>MT.some trivial) λ_=>MT.some trivial) λo _=>?_;refine MT.cond (λ_=>a) λ_=>?_;refine MT.bind (P:=λr=>r=false->e.2.2.2.2.2.2.2=[]) ?_ λu l=>?_;refine MT.cond (λm=>MT.some λb=>?_) λ_=>MT.some λb=>?_;rw[m]at b;cases b;simpa using b;refine MT.cond (λ_=>a) λb=>?_;exact⟨λd=>(by cases d),λr _ _=>l b⟩;refine MT.dec (λk=>?_) λk=>absurd f (by omega);refine MT.dec (λ_=>a) λ_=>?_;refine MT.bind (P:=λ_=>True) (MT.dec (λ_=>MT.some trivial) λ_=>MT.some trivial) λo _=>?_;refine MT.cond (λ_=>a) λ_=>?_;refine MT.cond (λ_=>a) λb=>?_;exact⟨λd=>(by cases d),λr _ _=>by simpa using b⟩
  exact c.2
 exact key true h rfl
def ut{e:EN}:A6 e=some (dd e):=by unfold A6 dd;grind
def tM{x:AT}:A3 (Lc x) λr=>r=true↔1<=x.1/\x.1<=x.2.1/\x.2.1<=1099511627776/\0<=x.2.2.1/\x.2.2.1<=x.2.2.2.1/\x.2.2.2.1<64/\0<=x.2.2.2.2.1/\x.2.2.2.2.1<=8:=by
 unfold Lc;repeat' with_reducible first|apply AC<;>intro a|apply AA
 all_goals grind
def xO{x:AT}{e:EN}:A3 (Oj (x,e)) λr=>r=true↔dd e=true/\x.2.2.1<=e.2.2.2.2.2.2.1.1/\e.2.2.2.2.2.2.1.1<=x.2.2.2.1/\x.1<=e.1/\e.1<=x.2.1:=by
 unfold Oj;rw[ut,AE];refine AI (λa=>?_) (λa=>AA ⟨λb=>(by cases b),λb=>by grind⟩);repeat' with_reducible first|apply AC<;>intro a|apply AA
 all_goals grind
def ACw(a b:Int):Jn [a,b]=some (if a≠0 then a else b):=by unfold Jn;rw[show(0:Int)=((0:Nat):Int)from rfl,jV (k:=0) (v:=a) rfl (by omega) (by simp)];by_cases c:a=0;rw[if_pos c,jV (k:=1) (v:=b) rfl (by omega) (by simp)];grind[CZ,JY];grind
def uu(f e:EN): ∃c:Int,Ng (f,e)=some c/\(c<0↔ui f e):=by unfold Ng;rw[qa,qa,AE,AE,ACw,AE];unfold ui;grind
def xN{x:AT}(I:x.2.2.2.2.2.length<=4096):A3 (Ad (RM x) 0) λr=>(r= .inl false/\ ¬ ∀i,rZ x i)\/(r= .inr ()/\ ∀e∈x.2.2.2.2.2,dd e=true/\e.2.2.2.2.2.2.2=[]):=by
 refine Gf (λ(s:Int)=>0<=s/\s<=x.2.2.2.2.2.length/\ ∀e∈x.2.2.2.2.2.take s.toNat,dd e=true/\e.2.2.2.2.2.2.2=[]) (λ(s:Int)=>((x.2.2.2.2.2.length:Int)-s).toNat) ⟨Ak _,by omega,λe p=>by simp at p⟩ (λs C=>?_);have⟨w,J,y⟩:=C;unfold RM;simp only[len];refine AC (λu=>?_) (λu=>A3.done (.inr ⟨rfl,by rw[Bs (by omega)]at y;exact y⟩));obtain⟨k,rfl⟩:=Ei w;refine AB (AK w u) λv d=>?_;have d:=d.1;rw[Df]at d;have a:(rZ x k->False)->A3 (some (Step.done (.inl false)):Option (Step Int (Bool ⊕ Unit))) (XJ (λ(s:Int)=>0<=s/\s<=x.2.2.2.2.2.length/\ ∀e∈x.2.2.2.2.2.take s.toNat,dd e=true/\e.2.2.2.2.2.2.2=[]) (λ(s:Int)=>((x.2.2.2.2.2.length:Int)-s).toNat) ((x.2.2.2.2.2.length:Int)-(k:Int)).toNat λr=>(r= .inl false/\ ¬ ∀i,rZ x i)\/(r= .inr ()/\ ∀e∈x.2.2.2.2.2,dd e=true/\e.2.2.2.2.2.2.2=[])):=λh=>A3.done (.inl ⟨rfl,λD=>h (D k)⟩);refine Dr JZ λG z B=>?_;refine AO (λj=>a λok=>?_) (λj=>?_);have:=B (ok v d).1.1;rw[j]at this;cases this;refine AB xO λH t=>?_;refine AO (λj=>a λok=>?_) (λm=>?_);have q:=(ok v d).1;have:=t.2 ⟨q.2.1,q.2.2.2.2.1,q.2.2.2.2.2,q.2.2.1,q.2.2.2.1⟩;rw[j]at this;cases this;have q3:=xM (by rw[z,j]) ((t.1 m).1);have b:A3 (some (Step.next (wi ((k:Int)+1))):Option (Step Int (Bool ⊕ Unit))) (XJ (λ(s:Int)=>0<=s/\s<=x.2.2.2.2.2.length/\ ∀e∈x.2.2.2.2.2.take s.toNat,dd e=true/\e.2.2.2.2.2.2.2=[]) (λ(s:Int)=>((x.2.2.2.2.2.length:Int)-s).toNat) ((x.2.2.2.2.2.length:Int)-(k:Int)).toNat λr=>(r= .inl false/\ ¬ ∀i,rZ x i)\/(r= .inr ()/\ ∀e∈x.2.2.2.2.2,dd e=true/\e.2.2.2.2.2.2.2=[])):=by
  rw[AY];refine A3.next ⟨by omega,by omega,λe p=>?_⟩ (by omega)
  rw[show((k:Int)+1).toNat=k+1 by omega,Ed,d]at p;grind[Option.toList_some,List.mem_singleton]
 have F: ∀f,0<k->x.2.2.2.2.2[k-1]? =some f->ix x.2.2.2.2.2 (wi ((k:Int)-1))=some f:=λf A g=>by rw[show wi ((k:Int)-1)=((k-1:Nat):Int) by rw[AY];omega];unfold ix;grind[Int.toNat_natCast]
 apply AU<;>intro A;refine AC (λo=>a λok=>?_) (λ_=>b);have:=(ok v d).2.1 (by omega);omega;have g:x.2.2.2.2.2[k-1]? =some (x.2.2.2.2.2[k-1]):=Aw (by omega);generalize x.2.2.2.2.2[k-1]=f at g;rw[F f (by omega) g,AE];apply AC<;>intro E;refine AC (λo=>a λok=>?_) (λ_=>b);have:=((ok v d).2.2 f (by omega) g).2.2 (by omega);omega;have⟨c,n,l⟩:=uu f v;rw[AE,n,AE];refine AC (λo=>a λok=>?_) (λo=>?_);have:=l.2 ((ok v d).2.2 f (by omega) g).1;omega;refine AL (λhn=>a λok=>hn ?_) (λ_=>b);have:=l.1 (by omega);unfold ui at this;exact((ok v d).2.2 f (by omega) g).2.1 (by omega)
def tN{x:AT}:A3 (S1 x) λr=>(VR x->r=true)/\(r=true->Yp x/\ ∀e∈x.2.2.2.2.2,dd e=true/\e.2.2.2.2.2.2.2=[]):=by refine AB tM λg c=>?_;refine AO (λb=>AA ⟨λa=>?_,λa=>(by cases a)⟩) (λb=>?_);have⟨⟨a1,a2,a3,a4,a5,a6,a7,a8,a9⟩,_⟩:=a;grind;have hn:=c.1 b;refine AC (λf=>AA ⟨λa=>?_,λa=>(by cases a)⟩) (λd=>?_);have:=a.1.2.2.2.2.2.2.2.2;grind;simp[len]at d;refine AB (xN (by omega)) λr hr=>?_;rcases hr with⟨rfl,hr⟩|⟨rfl,hr⟩;exact BH (AA ⟨λa=>absurd a.2 hr,λa=>(by cases a)⟩);exact A9 (AA ⟨λ_=>rfl,λ_=>⟨⟨hn.1,hn.2.1,hn.2.2.1,hn.2.2.2.1,hn.2.2.2.2.1,hn.2.2.2.2.2.1,hn.2.2.2.2.2.2.1,hn.2.2.2.2.2.2.2,by omega⟩,hr⟩⟩)
def tT{p:Bb}(h:p.length=33):Ho (p,([80,77,82,78]:List UInt8))=some (p.take 4==[80,77,82,78]):=by grind[Ho,Fp,TH,Option.bind]
abbrev ZR:=Int×(Int×(Int×(Int×(Int×AT))))
def pY{p:Bb}(x:p.length=33)(t:p.take 4=[80,77,82,78]): ∃b c d e f a:Int,(Av (p,(4,8))=some (b,0)∧Av (p,(12,8))=some (c,0)∧Av (p,(20,4))=some (d,0)∧Av (p,(24,4))=some (e,0)∧Av (p,(28,1))=some (f,0)∧Av (p,(29,4))=some (a,0))∧
  (CE (p,(4,8))=some (b,0)/\CE (p,(12,8))=some (c,0)/\CE (p,(20,4))=some (d,0)/\CE (p,(24,4))=some (e,0)/\CE (p,(28,1))=some (f,0)/\CE (p,(29,4))=some (a,0))/\
  p=[80,77,82,78]++(D9 b 8++(D9 c 8++(D9 d 4++(D9 e 4++(D9 f 1++D9 a 4)))))/\0<=a:=by
 have D:(p.drop 4).length=29:=by rw[G6];omega
 have⟨b,J,a2,g,n,y,l2⟩:=xA (k:=8) (at_:=4) (by rw[<-t,Ee]:p=[80,77,82,78]++p.drop 4) (by decide) (by omega) (by decide) (by decide) (by omega);have⟨c,K,a3,h,o,z,E⟩:=xA (k:=8) (at_:=12) n (by simp only[Af,BB];decide) (by omega) (by decide) (by decide) (by omega);have⟨d,L,a4,i,q,A,F⟩:=xA (k:=4) (at_:=20) o (by simp only[Af,BB];decide) (by omega) (by decide) (by decide) (by omega);have⟨e,M,a5,j,r,B,G⟩:=xA (k:=4) (at_:=24) q (by simp only[Af,BB];decide) (by omega) (by decide) (by decide) (by omega);have⟨f,N,a6,l,s,C,H⟩:=xA (k:=1) (at_:=28) r (by simp only[Af,BB];decide) (by omega) (by decide) (by decide) (by omega);have⟨a,v,a7,m,w,u,I⟩:=xA (k:=4) (at_:=29) s (by simp only[Af,BB];decide) (by omega) (by decide) (by decide) (by omega);have:v=[]:=EU (by omega);subst this;refine⟨b,c,d,e,f,a,⟨a2,a3,a4,a5,a6,a7⟩,⟨g,h,i,j,l,m⟩,?_,(u.1 (by decide)).1⟩;grind[List.append_assoc]
def sj{x:AT}(h:Yp x):(Av (bn x,(4,8))=some (x.1,0)∧Av (bn x,(12,8))=some (x.2.1,0)∧Av (bn x,(20,4))=some (x.2.2.1,0)∧Av (bn x,(24,4))=some (x.2.2.2.1,0)∧Av (bn x,(28,1))=some (x.2.2.2.2.1,0)∧Av (bn x,(29,4))=some ((x.2.2.2.2.2.length:Int),0))∧
  (CE (bn x,(4,8))=some (x.1,0)/\CE (bn x,(12,8))=some (x.2.1,0)/\CE (bn x,(20,4))=some (x.2.2.1,0)/\CE (bn x,(24,4))=some (x.2.2.2.1,0)/\CE (bn x,(28,1))=some (x.2.2.2.2.1,0)/\CE (bn x,(29,4))=some ((x.2.2.2.2.2.length:Int),0)):=by
 have⟨i,j,l,m,n,o⟩:=h.inr;have q:=fU x;have a:bn x=[80,77,82,78]++(D9 x.1 8++(D9 x.2.1 8++(D9 x.2.2.1 4++(D9 x.2.2.2.1 4++(D9 x.2.2.2.2.1 1++(D9 (x.2.2.2.2.2.length:Int) 4++[])))))):=by rw[D8];rfl
 generalize bn x=p at*;have b:=eD (k:=8) (at_:=4) a (by decide) (by omega) (by decide) (by decide) i;rw[<-A0]at a;have c:=eD (k:=8) (at_:=12) a (by simp only[Af,BB];decide) (by omega) (by decide) (by decide) j;rw[<-A0]at a;have d:=eD (k:=4) (at_:=20) a (by simp only[Af,BB];decide) (by omega) (by decide) (by decide) l;rw[<-A0]at a;have e:=eD (k:=4) (at_:=24) a (by simp only[Af,BB];decide) (by omega) (by decide) (by decide) m;rw[<-A0]at a;have f:=eD (k:=1) (at_:=28) a (by simp only[Af,BB];decide) (by omega) (by decide) (by decide) n;rw[<-A0]at a;have g:=eD (k:=4) (at_:=29) a (by simp only[Af,BB];decide) (by omega) (by decide) (by decide) o;exact⟨⟨b.1,c.1,d.1,e.1,f.1,g.1⟩,⟨b.2,c.2,d.2,e.2,f.2,g.2⟩⟩
def AD7{x p:Bb}{n:Int}{z:ZR}{j:Bb}(D:x.length≤1099511627776)(l:x=Jm p++j)(hn:0≤n)(o:n≤4096):A3 (Ad (GV x n) (((Jm p).length:Int),(0,([],z)))) λr=>(∃u,r= .inl u∧u.1≠0)∨
  ∃a b,r= .inr (((Jm p++J2 a).length:Int),(a,z))/\(a.length:Int)=n/\x=(Jm p++J2 a)++b/\ ∀e∈a,IA e.2.2.2.2.2.2.1.2.2.1/\IA e.2.2.2.2.2.2.1.2.2.2:=by
 refine Gf (λ(s:Int×(Int×(List EN×ZR)))=> ∃a b,s=(((Jm p++J2 a).length:Int),((a.length:Int),(a,z)))/\(a.length:Int)<=n/\x=(Jm p++J2 a)++b/\ ∀e∈a,IA e.2.2.2.2.2.2.1.2.2.1/\IA e.2.2.2.2.2.2.1.2.2.2) (λs=>(n-s.2.1).toNat)
  ⟨[],j,by simp[J2],by simpa using hn,by simpa[J2]using l,λe c=>by cases c⟩ ?_
 rintro s ⟨a,b,rfl,E,h,i⟩;unfold GV;dsimp only;refine AC (λm=>?_) (λm=>A3.done (.inr ⟨a,b,rfl,by omega,h,i⟩));have g:=congrArg List.length h;rw[Af]at g;rw[(by grind[Ti]:Bz (x,((Jm p++J2 a).length:Int))=some (UF (Jm p++J2 a).length b)),AE];refine AL (λc=>A3.done (.inl ⟨_,rfl,c⟩)) (λc=>?_);have⟨H,⟨d,t⟩,I⟩:=rq c;refine AB (ADB (by omega)) λv q=>?_;refine AL (λc=>A3.done (.inl ⟨_,rfl,c⟩)) (λf=>?_);have⟨y,A,B,J,K⟩:=q f;refine AB (Ae (by simp;omega)) λw C=>?_;have k:Jm p++J2 (a++[v.1])=(Jm p++J2 a)++Jm (Bw v.1):=by rw[Qn,A0]
 rw[AY];refine A3.next ⟨a++[v.1],d,?_,by rw[Af,CD,CT];omega,?_,λe c=>?_⟩ (by dsimp only;omega)
 have F:((Jm p++J2 (a++[v.1])).length:Int)=((Jm p++J2 a).length:Int)+8+((UF (Jm p++J2 a).length b).1.length:Int):=by grind[List.length_append,Jm,J2,Hu]
 have G:((a++[v.1]).length:Int)=(a.length:Int)+1:=by grind[List.length_append,List.length_cons,List.length_nil]
 grind[Prod.ext];rw[k,<-y,A0,<-t];exact h;rcases At.1 c with c|c;exact i e c;rw[BE.1 c];exact⟨A,B⟩
def ADC{x:Bb}(w:x.length<=1099511627776):A3 (FT x) λr=>r.2=0->x=OU r.1/\VR r.1:=by unfold FT;have q:Bz (x,0)=some (UF 0 x):=Ti (a:=[]) (t:=x) (by simp;omega);rw[q,AE];refine AL (λh=>AA λb=>absurd b h) (λh=>?_);have⟨Q,⟨P,z⟩,A⟩:=rq h;generalize UF 0 x=v0 at*;refine AL (λ_=>AA λb=>absurd (show(4:Int)=0 from b) (by decide)) (λg=>?_);simp[len]at g;rw[(by grind[TH]:TH v0.1 0 4=some (v0.1.take 4)),AE];refine AL (λ_=>AA λb=>absurd (show(4:Int)=0 from b) (by decide)) (λm=>?_);have⟨K,L,M,N,O,y,⟨a2,a3,a4,a5,a6,a7⟩,⟨C,D,E,F,G,H⟩,J,j⟩:=pY (by omega:v0.1.length=33) (by simpa using m);unfold C1;rw[a2,a3,a4,a5,a6,a7];simp only[AE];refine AC (λ_=>AA λb=>absurd (show(4:Int)=0 from b) (by decide)) (λo=>?_);rw[(by rw[A,Hu];omega:v0.2.1=((Jm v0.1).length:Int))];refine AB (AD7 (n:=y) w z j (by first|omega|(dsimp only;omega))) λr hr=>?_;rcases hr with⟨u,rfl,s⟩|⟨I,e,rfl,i,k,p⟩;grind[BH,AA];apply A9;dsimp only at i⊢;have l:=congrArg List.length k;rw[Af]at l;refine AL (λ_=>AA λb=>absurd (show(4:Int)=0 from b) (by decide)) (λd=>?_);have c:e=[]:=EU (by simp only[len]at d;omega);subst c;refine AB (Yq) λB f=>?_;refine AO (λ_=>AA λb=>absurd (show(40:Int)=0 from b) (by decide)) (λv=>AA λ_=>⟨?_,f.1 v⟩);grind[OU,bn]
def u7{x:AT}(h:VR x):FT (OU x)=some (x,0):=by
 have D:=h.1.2.2.2.2.2.2.2.2;have j:=h.len;have o:=fU x;have⟨⟨a2,a3,a4,a5,a6,a7⟩,⟨v,y,z,A,B,C⟩⟩:=sj h.1;unfold FT;have p:Bz (OU x,0)=some (bn x,(((Jm (bn x)).length:Int),0)):=by refine(Ti (a:=[]) (t:=OU x) (by simp;omega)).trans (congrArg some ?_);grind[OU,jm,Hu,Prod.ext,List.length_nil]
 have l:(bn x).take 4=[80,77,82,78]:=rfl;rw[p,AE];dsimp only[len];rw[show((0:Int) !=0)=false by decide,cond_false,o,show(((33:Nat):Int) !=33)=false by decide,cond_false];rw[(by grind[TH]:TH (bn x) 0 4=some ((bn x).take 4)),AE,l,bne_self_eq_false,cond_false];unfold C1;rw[a2,a3,a4,a5,a6,a7];simp only[AE];rw[decide_eq_false (by omega),cond_false];have key:A3 (Ad (GV (OU x) (x.2.2.2.2.2.length:Int)) (((Jm (bn x)).length:Int),(0,([],(x.1,(x.2.1,(x.2.2.1,(x.2.2.2.1,(x.2.2.2.2.1,(0,(0,(0,(0,(0,[])))))))))))))) λr=>r= .inr (((OU x).length:Int),(x.2.2.2.2.2,(x.1,(x.2.1,(x.2.2.1,(x.2.2.2.1,(x.2.2.2.2.1,(0,(0,(0,(0,(0,[])))))))))))):=by
  refine Gf (λ(s:Int×(Int×(List EN×ZR)))=> ∃k:Nat,k<=x.2.2.2.2.2.length/\s=(((Jm (bn x)++J2 (x.2.2.2.2.2.take k)).length:Int),((k:Int),(x.2.2.2.2.2.take k,(x.1,(x.2.1,(x.2.2.1,(x.2.2.2.1,(x.2.2.2.2.1,(0,(0,(0,(0,(0,[])))))))))))))) (λs=>x.2.2.2.2.2.length-s.2.1.toNat)
   ⟨0,Bt _,by simp[J2]⟩ ?_
  rintro s ⟨k,F,rfl⟩;unfold GV;dsimp only;refine AC (λn=>?_) (λn=>A3.done ?_)
  ·have i:k<x.2.2.2.2.2.length:=by omega
   have c:=(h.ent (Tp i)).1;have e:J2 x.2.2.2.2.2=J2 (x.2.2.2.2.2.take k)++(Jm (Bw x.2.2.2.2.2[k])++J2 (x.2.2.2.2.2.drop (k+1))):=by grind[jD,List.drop_eq_getElem_cons,J2,List.flatten_append,List.take_append_drop]
   have d:OU x=(Jm (bn x)++J2 (x.2.2.2.2.2.take k))++(Jm (Bw x.2.2.2.2.2[k])++J2 (x.2.2.2.2.2.drop (k+1))):=by grind[OU,List.append_assoc]
   have g:=congrArg List.length d;rw[Af]at g;have f:Bz (OU x,((Jm (bn x)++J2 (x.2.2.2.2.2.take k)).length:Int))=some (Bw x.2.2.2.2.2[k],(((Jm (bn x)++J2 (x.2.2.2.2.2.take k)).length:Int)+8+((Bw x.2.2.2.2.2[k]).length:Int),0)):=by
    conv=>lhs;arg 1;rw[d]
    rw[Ti (by omega),jm (Qm c)]
   rw[f,AE];dsimp only;rw[show((0:Int) !=0)=false by decide,cond_false,zZ c,AE];dsimp only;rw[show((0:Int) !=0)=false by decide,cond_false];refine AB (Ae (by rw[Bh];simp;omega)) λw u=>?_;rw[AY];refine A3.next ⟨k+1,by omega,?_⟩ (by dsimp only;omega)
   rw[u.1,Ed,Aw i,gh,Qn,<-A0,Af (bs:=Jm (Bw x.2.2.2.2.2[k])),Hu];grind[Prod.ext]
  rw[Bs (by omega)];rfl
 obtain⟨r,hr,rfl⟩:=key;rw[hr,AE,aN];dsimp only;rw[show(((OU x).length:Int) !=len (OU x))=false from bne_self_eq_false _,cond_false];obtain⟨b,E,q⟩:=(Yq)
 have m:b=true:=q.2 h;grind[Bool.not_true]
def AD3{x p:Bb}{n:(Int×Int)}{z:ZR}{j:Bb}(D:x.length≤1099511627776)(l:x=Jm p++j)(hn:0≤n.1)(o:n.1≤4096):A3 (Ad (J8 x n) (((Jm p).length:Int),(0,([],z)))) λr=>(∃u,r= .inl u∧u.1≠0)∨
  ∃a b,r= .inr (((Jm p++J2 a).length:Int),(a,z))/\(a.length:Int)=n.1/\x=(Jm p++J2 a)++b/\ ∀e∈a,IA e.2.2.2.2.2.2.1.2.2.1/\IA e.2.2.2.2.2.2.1.2.2.2:=by
 refine Gf (λ(s:Int×(Int×(List EN×ZR)))=> ∃a b,s=(((Jm p++J2 a).length:Int),((a.length:Int),(a,z)))/\(a.length:Int)<=n.1/\x=(Jm p++J2 a)++b/\ ∀e∈a,IA e.2.2.2.2.2.2.1.2.2.1/\IA e.2.2.2.2.2.2.1.2.2.2) (λs=>(n.1-s.2.1).toNat)
  ⟨[],j,by simp[J2],by simpa using hn,by simpa[J2]using l,λe c=>by cases c⟩ ?_
 rintro s ⟨a,b,rfl,E,h,i⟩;unfold J8;dsimp only;refine AC (λm=>?_) (λm=>A3.done (.inr ⟨a,b,rfl,by omega,h,i⟩));have g:=congrArg List.length h;rw[Af]at g;rw[(by grind[Xe]:FZ (x,((Jm p++J2 a).length:Int))=some (UF (Jm p++J2 a).length b)),AE];refine AL (λc=>A3.done (.inl ⟨_,rfl,c⟩)) (λc=>?_);have⟨H,⟨d,t⟩,I⟩:=rq c;refine AB (AC0 (by omega)) λv q=>?_;refine AL (λc=>A3.done (.inl ⟨_,rfl,c⟩)) (λf=>?_);have⟨y,A,B,J,K⟩:=q f;refine AB (Ae (by simp;omega)) λw C=>?_;have k:Jm p++J2 (a++[v.1])=(Jm p++J2 a)++Jm (Bw v.1):=by rw[Qn,A0]
 rw[AY];refine A3.next ⟨a++[v.1],d,?_,by rw[Af,CD,CT];omega,?_,λe c=>?_⟩ (by dsimp only;omega)
 have F:((Jm p++J2 (a++[v.1])).length:Int)=((Jm p++J2 a).length:Int)+8+((UF (Jm p++J2 a).length b).1.length:Int):=by grind[List.length_append,Jm,J2,Hu]
 have G:((a++[v.1]).length:Int)=(a.length:Int)+1:=by grind[List.length_append,List.length_cons,List.length_nil]
 grind[Prod.ext];rw[k,<-y,A0,<-t];exact h;rcases At.1 c with c|c;exact i e c;rw[BE.1 c];exact⟨A,B⟩
def AC2{x:Bb}(H:x.length<=1099511627776):A3 (J4 x) λr=>r.2=0->x=OU r.1/\WR r.1:=by
 unfold J4;have E:FZ (x,0)=some (UF 0 x):=Xe (a:=[]) (t:=x) (by simp;omega);rw[E,AE];refine AL (λc=>AA λb=>absurd b c) (λc=>?_);have⟨U,⟨T,J⟩,K⟩:=rq c;generalize UF 0 x=v0 at*;refine AL (λ_=>AA λb=>absurd (show(4:Int)=0 from b) (by decide)) (λk=>?_);simp[len]at k;have q:v0.1.length=33:=by omega
 rw[tT q,AE];refine AO (λ_=>AA λb=>absurd (show(4:Int)=0 from b) (by decide)) (λD=>?_);have⟨O,P,Q,R,S,I,⟨a2,a3,a4,a5,a6,a7⟩,⟨s,v,w,y,z,A⟩,N,m⟩:=pY q (by simpa using D);rw[show wi (4+8)=12 from rfl,show wi (12+8)=20 from rfl,show wi (20+4)=24 from rfl,show wi (24+4)=28 from rfl,show wi (28+1)=29 from rfl];rw[s,v,w,y,z,A];simp only[AE];refine AO (λ_=>AA λb=>absurd (show(4:Int)=0 from b) (by decide)) (λf=>?_);have f:=of_decide_eq_true f;rw[(by rw[K,Hu];omega:v0.2.1=((Jm v0.1).length:Int))];refine AB (AD3 (n:=(I,0)) H J m (by first|omega|(dsimp only;omega))) λr hr=>?_;rcases hr with⟨u,rfl,F⟩|⟨M,i,rfl,l,o,g⟩;grind[BH,AA];apply A9;dsimp only at l⊢;have p:=congrArg List.length o;rw[Af]at p;refine AC (λ_=>AA λb=>absurd (show(4:Int)=0 from b) (by decide)) (λh=>?_);have d:i=[]:=EU (by simp only[len]at h;omega);subst d;refine AB (tN) λL j=>?_;refine AO (λ_=>AA λb=>absurd (show(40:Int)=0 from b) (by decide)) (λG=>AA λ_=>⟨?_,?_⟩);grind[OU,bn];have⟨B,C⟩:=j.2 G;exact⟨B,λe c=>⟨(g e c).1,(g e c).2,(C e c).2⟩⟩
def AC1{x:AT}(h:VR x):J4 (OU x)=some (x,0):=by
 have E:=h.1.2.2.2.2.2.2.2.2;have j:=h.len;have l:=fU x;have⟨⟨a2,a3,a4,a5,a6,a7⟩,⟨m,n,o,p,q,u⟩⟩:=sj h.1;unfold J4;have B:FZ (OU x,0)=some (bn x,(((Jm (bn x)).length:Int),0)):=by refine(Xe (a:=[]) (t:=OU x) (by simp;omega)).trans (congrArg some ?_);grind[OU,jm,Hu,Prod.ext,List.length_nil]
 have v:(bn x).take 4=[80,77,82,78]:=rfl;rw[B,AE];dsimp only[len];rw[show((0:Int) !=0)=false by decide,cond_false,l,show(((33:Nat):Int) !=33)=false by decide,cond_false];rw[tT l,AE,v,beq_self_eq_true,Ds,cond_false];rw[show wi (4+8)=12 from rfl,show wi (12+8)=20 from rfl,show wi (20+4)=24 from rfl,show wi (24+4)=28 from rfl,show wi (28+1)=29 from rfl];rw[m,n,o,p,q,u];simp only[AE];rw[decide_eq_true (by omega),Ds,cond_false];have key:A3 (Ad (J8 (OU x) ((x.2.2.2.2.2.length:Int),0)) (((Jm (bn x)).length:Int),(0,([],(x.1,(x.2.1,(x.2.2.1,(x.2.2.2.1,(x.2.2.2.2.1,(0,(0,(0,(0,(0,[])))))))))))))) λr=>r= .inr (((OU x).length:Int),(x.2.2.2.2.2,(x.1,(x.2.1,(x.2.2.1,(x.2.2.2.1,(x.2.2.2.2.1,(0,(0,(0,(0,(0,[])))))))))))):=by
  refine Gf (λ(s:Int×(Int×(List EN×ZR)))=> ∃k:Nat,k<=x.2.2.2.2.2.length/\s=(((Jm (bn x)++J2 (x.2.2.2.2.2.take k)).length:Int),((k:Int),(x.2.2.2.2.2.take k,(x.1,(x.2.1,(x.2.2.1,(x.2.2.2.1,(x.2.2.2.2.1,(0,(0,(0,(0,(0,[])))))))))))))) (λs=>x.2.2.2.2.2.length-s.2.1.toNat)
   ⟨0,Bt _,by simp[J2]⟩ ?_
  rintro s ⟨k,F,rfl⟩;unfold J8;dsimp only;refine AC (λz=>?_) (λz=>A3.done ?_)
  ·have i:k<x.2.2.2.2.2.length:=by omega
   have c:=(h.ent (Tp i)).1;have A:=Qm c;have d:J2 x.2.2.2.2.2=J2 (x.2.2.2.2.2.take k)++(Jm (Bw x.2.2.2.2.2[k])++J2 (x.2.2.2.2.2.drop (k+1))):=by grind[jD,List.drop_eq_getElem_cons,J2,List.flatten_append,List.take_append_drop]
   have g:OU x=(Jm (bn x)++J2 (x.2.2.2.2.2.take k))++(Jm (Bw x.2.2.2.2.2[k])++J2 (x.2.2.2.2.2.drop (k+1))):=by grind[OU,List.append_assoc]
   have f:=congrArg List.length g;rw[Af]at f;rw[(by grind[Xe,jm]:FZ (OU x,((Jm (bn x)++J2 (x.2.2.2.2.2.take k)).length:Int))=some (Bw x.2.2.2.2.2[k],(((Jm (bn x)++J2 (x.2.2.2.2.2.take k)).length:Int)+8+((Bw x.2.2.2.2.2[k]).length:Int),0))),AE];dsimp only;rw[show((0:Int) !=0)=false by decide,cond_false,ACz c,AE];dsimp only;rw[show((0:Int) !=0)=false by decide,cond_false];refine AB (Ae (by rw[Bh];simp;omega)) λw D=>?_;rw[AY];refine A3.next ⟨k+1,by omega,?_⟩ (by dsimp only;omega)
   rw[D.1,Ed,Aw i,gh,Qn,<-A0,Af (bs:=Jm (Bw x.2.2.2.2.2[k])),Hu];grind[Prod.ext]
  rw[Bs (by omega)];rfl
 obtain⟨r,hr,rfl⟩:=key;rw[hr,AE,aN];dsimp only;rw[decide_eq_false (by first|omega|(simp[len];omega)),cond_false];obtain⟨b,y,C⟩:=(tN)
 have e:b=true:=C.1 h;subst e;rw[y,AE,Ds,cond_false]
def zu{a b n k:Nat}{d:Array NE}(h:a<=k:=by omega)(c:k<a+n:=by omega):xn a b n d k=d[b+(k-a)]! :=if_pos ⟨h,c⟩
def zw{a b n k:Nat}{d:Array NE}(e:a+n<=b)(h:b<=k:=by omega)(c:k<b+n:=by omega):xn a b n d k=d[a+(k-b)]! :=by unfold xn;rw[if_neg (by omega),if_pos ⟨h,c⟩]
def ly{a b n k:Nat}{d:Array NE}(h:k<a\/a+n<=k:=by omega)(c:k<b\/b+n<=k:=by omega):xn a b n d k=d[k]! :=by unfold xn;rw[if_neg (by omega),if_neg (by omega)]
def rO(s m e:Nat)(d:Array NE)(k:Nat):NE:=if s<=k/\k<s+(e-m)then d[m+(k-s)]! else if s+(e-m)<=k/\k<e then d[s+(k-(s+(e-m)))]! else d[k]!
def eM{s m e k:Nat}{d:Array NE}(h:s<=k:=by omega)(a:k<s+(e-m):=by omega):rO s m e d k=d[m+(k-s)]! :=if_pos ⟨h,a⟩
def jY{s m e k:Nat}{d:Array NE}(h:s+(e-m)<=k:=by omega)(a:k<e:=by omega):rO s m e d k=d[s+(k-(s+(e-m)))]! :=by unfold rO;rw[if_neg (by omega),if_pos ⟨h,a⟩]
theorem S6{s m e k:Nat}{d:Array NE}(a:s<=m:=by omega)(b:m<=e:=by omega)(h:k<s\/e<=k:=by omega):rO s m e d k=d[k]! :=by unfold rO;rw[if_neg (by omega),if_neg (by omega)]
def lJ{d:Array NE}{x y:Nat}(h:x=y):d[x]! =d[y]! :=by rw[h]
def zh{m i j k:Nat}{d e:Array NE}(o:i<=m)(p:1<=j)(l:j<i)(n:m+j<=d.size)(a: ∀k,k<d.size->e[k]! =xn (m-i) m j d k)(b:k<d.size):rO (m-(i-j)) m (m+j) e k=rO (m-i) m (m+j) d k:=by rcases Ao k (m-i)with c|c;rw[S6,S6,a k b,ly];rcases Ao k (m-i+j)with f|f;rw[S6,eM,a k b,zu];rcases Ao k (m-(i-j)+j)with g|g;rw[eM,jY,a _ (by omega),zw (by omega)];exact lJ (by omega);rcases Ao k (m+j)with h|h;rw[jY,jY,a _ (by omega),ly];exact lJ (by omega);rw[S6,S6,a k b,ly]
def zi{m i j k:Nat}{d e:Array NE}(p:i<=m)(n:1<=i)(l:i<j)(o:m+j<=d.size)(a: ∀k,k<d.size->e[k]! =xn (m-i) (m+j-i) i d k)(b:k<d.size):rO (m-i) m (m+(j-i)) e k=rO (m-i) m (m+j) d k:=by rcases Ao k (m-i)with c|c;rw[S6,S6,a k b,ly];rcases Ao k (m-i+(j-i))with f|f;rw[eM,eM,a _ (by omega),ly];rcases Ao k (m+(j-i))with g|g;rw[jY,eM,a _ (by omega),zu];exact lJ (by omega);rcases Ao k (m+j)with h|h;rw[S6,jY,a _ (by omega),zw (by omega)];exact lJ (by omega);rw[S6,S6,a k b,ly]
theorem xY{d:Array NE}{a m b:Nat}(C:a<m)(D:m<b)(E:b≤d.size)(G:d.size≤16777216):
  A3 (El d.toList ((a:Int),((m:Int),(b:Int)))) λr=> ∃e:Array NE,r=e.toList/\e.size=d.size/\ ∀k,k<d.size->e[k]! =rO a m b d k:=by
 unfold El;have q:wi ((m:Int)-(a:Int))=((m-a:Nat):Int):=by rw[Pn (by omega)];omega
 have t:wi ((b:Int)-(m:Int))=((b-m:Nat):Int):=by rw[Pn (by omega)];omega
 dsimp only;rw[q,t];refine AB (P:=λ(r:Int×List NE)=> ∃(i:Nat) (e:Array NE),r.1=i/\r.2=e.toList/\1<=i/\i<=m-a/\m+i<=b/\e.size=d.size/\ ∀k,k<d.size->rO (m-i) m (m+i) e k=rO a m b d k) ?_ ?_;refine AQ (λ(s:Int×(Int×List NE))=> ∃(i j:Nat) (e:Array NE),s.1=i/\s.2.1=j/\s.2.2=e.toList/\1<=i/\1<=j/\i<=m-a/\m+j<=b/\e.size=d.size/\ ∀k,k<d.size->rO (m-i) m (m+j) e k=rO a m b d k) (λs=>(s.1+s.2.1).toNat)
  ⟨m-a,b-m,d,rfl,rfl,rfl,by omega,by omega,Ag _,by omega,rfl,λk _=>by rw[show m-(m-a)=a by omega,show m+(b-m)=b by omega]⟩ ?_
 rintro⟨H,I,J⟩ ⟨i,j,e,q1,q2,q3,q4,q5,q6,q7,q8,q9⟩;dsimp only at q1 q2 q3;subst q1 q2 q3;unfold IM;dsimp only;have o:wi ((m:Int)-(i:Int))=((m-i:Nat):Int):=by rw[Pn (by omega)];omega
 rw[o];refine AL (λB=>?_) (λA=>AA ⟨i,e,rfl,rfl,q4,q6,by omega,q8,λk g=>?_⟩);refine AC ?_ ?_<;>intro F;refine AB (rV (d:=e) (a:=m-i) (b:=m) (n:=j) (by omega) (by omega) (by omega)) ?_;rintro v ⟨f,rfl,h,l⟩;have c:Nat.beq (List.length f.toList) (List.length e.toList)=true:=by rw[DQ,DQ,h];exact JT _
 have p:wi ((i:Int)-(j:Int))=((i-j:Nat):Int):=by rw[Pn (by omega)];omega
 rw[c,cond_true,p];refine AA ⟨⟨i-j,j,f,rfl,rfl,rfl,by omega,q5,by omega,q7,by omega,λk g=>?_⟩,?_⟩;rw[zh (by omega) q5 (by omega) (by omega) l (by omega),q9 k g];show(((i-j:Nat):Int)+(j:Int)).toNat<((i:Int)+(j:Int)).toNat
 omega;have u:wi (wi ((m:Int)+(j:Int))-(i:Int))=((m+j-i:Nat):Int):=by rw[Pn (x:=(m:Int)+(j:Int)) (by omega),Pn (by omega)];omega
 rw[u];refine AB (rV (d:=e) (a:=m-i) (b:=m+j-i) (n:=i) (by omega) (by omega) (by omega)) ?_;rintro v ⟨f,rfl,h,l⟩;have c:Nat.beq (List.length f.toList) (List.length e.toList)=true:=by rw[DQ,DQ,h];exact JT _
 have p:wi ((j:Int)-(i:Int))=((j-i:Nat):Int):=by rw[Pn (by omega)];omega
 rw[c,cond_true,p];refine AA ⟨⟨i,j-i,f,rfl,rfl,rfl,q4,by omega,q6,by omega,by omega,λk g=>?_⟩,?_⟩;rw[zi (by omega) q4 (by omega) (by omega) l (by omega),q9 k g];show((i:Int)+((j-i:Nat):Int)).toNat<((i:Int)+(j:Int)).toNat
 omega;have:j=i:=by omega
 subst this;exact q9 k g;rintro⟨K,L⟩ ⟨i,e,q1,q2,q3,q4,q5,q6,q7⟩;dsimp only at q1 q2;subst q1 q2;dsimp only;have o:wi ((m:Int)-(i:Int))=((m-i:Nat):Int):=by rw[Pn (by omega)];omega
 rw[o];refine AB (rV (d:=e) (a:=m-i) (b:=m) (n:=i) (by omega) (by omega) (by omega)) ?_;rintro v ⟨f,rfl,h,l⟩;have c:Nat.beq (List.length f.toList) (List.length e.toList)=true:=by rw[DQ,DQ,h];exact JT _
 rw[c,cond_true];refine AA ⟨f,rfl,by omega,λk g=>?_⟩;rw[<-q7 k g,l k (by omega)];rcases Ao k (m-i)with w|w;rw[ly (by omega) (by omega),S6 (by omega) (by omega) (by omega)];rcases Ao k m with y|y;rw[zu (by omega) (by omega),eM (by omega) (by omega)];rcases Ao k (m+i)with z|z;rw[zw (by omega) (by omega) (by omega),jY (by omega) (by omega)];exact lJ (by omega);rw[ly (by omega) (by omega),S6 (by omega) (by omega) (by omega)]
def tJ{i j:Nat}(h:i+j<=1099511627776):wi (Int.fdiv (IntKind.wrap .u64 (wi ((i:Int)+(j:Int)))) (2^(min (Int.toNat 1) 64)))=(((i+j)/2:Nat):Int):=by rw[zF];omega
def bs{body:Int×Int→Option (Step (Int×Int) Int)}{P:Nat→Bool}{b a:Nat}(m: ∀i:Nat,body ((i:Int),(i:Int))=some (.done (i:Int)))
  (s: ∀i j:Nat,b<=i->i<j->j<=a->body ((i:Int),(j:Int))=some (.next (if P ((i+j)/2)=true then((((i+j)/2+1:Nat):Int),(j:Int))else((i:Int),(((i+j)/2:Nat):Int))))) (l:b<=a):
  ∃r:Nat,Ad body ((b:Int),(a:Int))=some (r:Int)/\b<=r/\r<=a/\(b<r->P (r-1)=true)/\(r<a->P r=false):=by
 suffices h: ∀n i j:Nat,j-i<=n->b<=i->i<=j->j<=a->(b<i->P (i-1)=true)->(j<a->P j=false)-> ∃r:Nat,Ad body ((i:Int),(j:Int))=some (r:Int)/\b<=r/\r<=a/\(b<r->P (r-1)=true)/\(r<a->P r=false)from
  h _ b a (Ag _) (Ag _) l (Ag _) (λh=>absurd h (by omega)) (λh=>absurd h (by omega))
 intro n;induction n with
 |zero=>
  intro i j p c q d e f;have:i=j:=by omega
  subst this;rw[CZ,m];exact⟨i,rfl,c,d,e,f⟩
 |succ n o=>intro i j p c q d e f;rw[CZ];by_cases k:i=j;subst k;rw[m];exact⟨i,rfl,c,d,e,f⟩;rw[s i j c (by omega) d];by_cases g:P ((i+j)/2)=true;rw[if_pos g];exact o _ j (by omega) (by omega) (by omega) d (λ_=>by rw[gd];exact g) f;rw[if_neg g];exact o i _ (by omega) c (by omega) (by omega) e (λ_=>by simpa using g)
def AEA{d:Array NE}{a m b:Nat}(o:a<d.size)(g:m≤b)(p:b≤d.size)(q:d.size≤16777216)(c:Int×Int):
  ∃r:Nat,Ad (C3 d.toList ((a:Int),c)) ((m:Int),(b:Int))=some (r:Int)/\m<=r/\r<=b/\(m<r->lN d[r-1]! d[a]! =true)/\(r<b->lN d[r]! d[a]! =false):=by
 refine bs (P:=λk=>lN d[k]! d[a]!) (λi=>?_) (λi j h l n=>?_) g;unfold C3;have:decide ((i:Int)<(i:Int))=false:=by simp
 dsimp only;rw[this,cond_false];unfold C3;have:decide ((i:Int)<(j:Int))=true:=by simp;omega
 dsimp only;rw[this,cond_true,tJ (by omega)];obtain⟨v,e,f⟩:=ABW d[(i+j)/2]! d[a]!;rw[ub (k:=(i+j)/2) rfl,ub (k:=a) rfl];simp only[AE,e,f,mV (i:=(i+j)/2)];cases lN d[(i+j)/2]! d[a]! <;>rfl
def AEB{d:Array NE}{a r b:Nat}(h:a<r)(hr:r≤b)(w:b≤d.size)(x:d.size≤16777216):
  A3 (Ad (D1 (r:Int)) ((a:Int),d.toList)) λq=> ∃e:Array NE,q=e.toList/\Sort.PermIn a b d e/\(∀t,a<=t->t<r-1->e[t]! =d[t+1]!)/\e[r-1]! =d[a]! /\ ∀t,r<=t->e[t]! =d[t]! :=by
 refine AQ (λ(s:Int×List NE)=> ∃(k:Nat) (e:Array NE),s.1=k/\s.2=e.toList/\a<=k/\k<r/\Sort.PermIn a b d e/\(∀t,a<=t->t<k->e[t]! =d[t+1]!)/\e[k]! =d[a]! /\ ∀t,k<t->e[t]! =d[t]!) (λs=>r-s.1.toNat) ⟨a,d,rfl,rfl,Ag _,h,Sort.permIn_refl _ _ _,λt _ _=>by omega,rfl,λt _=>rfl⟩ ?_;rintro⟨z,A⟩ ⟨k,e,q1,q2,q3,q4,q5,q6,q7,q8⟩;dsimp only at q1 q2;subst q1 q2;have y:=q5.1;unfold D1;dsimp only;have l:wi ((r:Int)-1)=((r-1:Nat):Int):=by rw[tq];omega
 rw[l];refine AC (λn=>?_) (λn=>AA ⟨e,rfl,q5,λt g m=>q6 t g (by omega),?_,λt o=>q8 t (by omega)⟩);have p:ix e.toList ((k+1:Nat):Int)=some e[k+1]! :=ub rfl;have u:ix e.toList (k:Int)=some e[k]! :=ub rfl;have v:ix (BU e.toList (k:Int) e[k+1]!) ((k+1:Nat):Int)=some (e.setIfInBounds k e[k+1]!)[k+1]! :=AA3 rfl rfl;simp only[mV (i:=k),p,u,v,AE,ABj (d:=e) (a:=k) (b:=k+1) rfl rfl];have c:=Sort.swp_get e (i:=k) (j:=k+1) (by omega) (by omega);refine AA ⟨⟨k+1,_,rfl,rfl,by omega,by omega,Sort.permIn_trans _ _ _ _ _ q5 (Sort.swp_permIn e a b k (k+1) q3 (by omega) (by omega) (by omega) (by omega)),λt g m=>?_,?_,λt o=>?_⟩,?_⟩;rw[c,if_neg (by omega)];by_cases f:t=k;subst f;rw[if_pos rfl];exact q8 _ (by omega);rw[if_neg f];exact q6 t g (by omega);rw[c,if_pos rfl];exact q7;rw[c,if_neg (by omega),if_neg (by omega)];exact q8 t (by omega);show r-((k+1:Nat):Int).toNat<r-((k:Nat):Int).toNat
 omega;have:k=r-1:=by omega
 rw[<-this];exact q7
def zp{d:Array NE}{a b:Nat}(o:a+1≤b)(z:b≤d.size)(A:d.size≤16777216)(k:Sort.SortedIn lN (a+1) b d)(c:Int×Int):
  A3 (Option.bind (Ad (C3 d.toList ((a:Int),c)) (((a+1:Nat):Int),(b:Int))) λv=>Option.bind (Ad (D1 v) ((a:Int),d.toList)) λw=>some w) λq=> ∃e:Array NE,q=e.toList/\Sort.PermIn a b d e/\Sort.SortedIn lN a b e:=by
 obtain⟨r,g,H,I,J,K⟩:=AEA (d:=d) (a:=a) (m:=a+1) (b:=b) (by omega) o z A c;rw[g,AE];apply AB (AEB (d:=d) (a:=a) (r:=r) (b:=b) (by omega) I z A);rintro q ⟨e,rfl,G,n,B,C⟩;refine AA ⟨e,rfl,G,λx y p s u=>?_⟩;have W:=oT;have F: ∀t,a+1<=t->t<r->lN d[a]! d[t]! =false:=λt h l=>by
  have f:=J (by omega);cases D:lN d[a]! d[t]! with
  |false=>rfl
  |true=>have i:=W.trans _ _ _ f D;rcases Ao t (r-1)with j|j;exact absurd i (by rw[k t (r-1) h j (by omega)];decide);rw[show t=r-1 by omega,W.irrefl]at i;cases i
 have E: ∀t,r<=t->t<b->lN d[t]! d[a]! =false:=λt h l=>by have f:=K (by omega);rcases Ao r t with j|j;exact W.ntrans _ _ _ (k r t H j l) f;rw[show t=r by omega];exact f
 rcases Ao y (r-1)with h|h;rw[n x p (by omega),n y (by omega) h];exact k (x+1) (y+1) (by omega) (by omega) (by omega);rcases Ao (r-1) y with l|l;rw[C y (by omega)];rcases Ao x (r-1)with f|f;rw[n x p f];exact k (x+1) y (by omega) (by omega) u;rcases Ao (r-1) x with i|i;rw[C x (by omega)];exact k x y (by omega) s u;rw[show x=r-1 by omega,B];exact E y (by omega) u;rw[show y=r-1 by omega,B,n x p (by omega)];exact F (x+1) (by omega) (by omega)
def AEC{d:Array NE}{a m:Nat}(l:a≤m)(w:m<d.size)(u:d.size≤16777216)(b:Int):
  ∃r:Nat,Ad (B5 d.toList ((a:Int),((m:Int),b))) ((a:Int),(m:Int))=some (r:Int)/\a<=r/\r<=m/\(a<r->lN d[m]! d[r-1]! =false)/\(r<m->lN d[m]! d[r]! =true):=by
 have c: ∀i:Nat,B5 d.toList ((a:Int),((m:Int),b)) ((i:Int),(i:Int))=some (.done (i:Int)):=λi=>by
  unfold B5;have:decide ((i:Int)<(i:Int))=false:=by simp
  dsimp only;rw[this,cond_false]
 have e: ∀i j:Nat,a<=i->i<j->j<=m->B5 d.toList ((a:Int),((m:Int),b)) ((i:Int),(j:Int))=some (.next (if(!lN d[m]! d[(i+j)/2]!)=true then((((i+j)/2+1:Nat):Int),(j:Int))else((i:Int),(((i+j)/2:Nat):Int)))):=λi j q s t=>by
  unfold B5;have:decide ((i:Int)<(j:Int))=true:=by simp;omega
  dsimp only;rw[this,cond_true,tJ (by omega)];obtain⟨v,f,g⟩:=ABW d[m]! d[(i+j)/2]!;rw[ub (k:=(i+j)/2) rfl,ub (k:=m) rfl];simp only[AE,f,g,mV (i:=(i+j)/2)];cases lN d[m]! d[(i+j)/2]! <;>rfl
 obtain⟨r,f,g,n,o,p⟩:=bs (P:=λk=>!lN d[m]! d[k]!) c e l;exact⟨r,f,g,n,λh=>by simpa using o h,λh=>by simpa using p h⟩
def AED{d:Array NE}{a r m:Nat}(n:a≤r)(hr:r≤m)(y:m<d.size)(x:d.size≤16777216):
  A3 (Ad (D2 (r:Int)) ((m:Int),d.toList)) λq=> ∃e:Array NE,q=e.toList/\Sort.PermIn a (m+1) d e/\(∀t,r<t->t<=m->e[t]! =d[t-1]!)/\e[r]! =d[m]! /\ ∀t,t<r->e[t]! =d[t]! :=by
 refine AQ (λ(s:Int×List NE)=> ∃(k:Nat) (e:Array NE),s.1=k/\s.2=e.toList/\r<=k/\k<=m/\Sort.PermIn a (m+1) d e/\(∀t,k<t->t<=m->e[t]! =d[t-1]!)/\e[k]! =d[m]! /\ ∀t,t<k->e[t]! =d[t]!) (λs=>s.1.toNat) ⟨m,d,rfl,rfl,hr,Ag _,Sort.permIn_refl _ _ _,λt _ _=>by omega,rfl,λt _=>rfl⟩ ?_;rintro⟨A,B⟩ ⟨k,e,q1,q2,q3,q4,q5,q6,q7,q8⟩;dsimp only at q1 q2;subst q1 q2;have z:=q5.1;unfold D2;dsimp only;refine AC (λo=>?_) (λo=>AA ⟨e,rfl,q5,λt l g=>q6 t (by omega) g,?_,λt p=>q8 t (by omega)⟩);have h:wi ((k:Int)-1)=((k-1:Nat):Int):=by rw[tq];omega
 have u:ix e.toList ((k-1:Nat):Int)=some e[k-1]! :=ub rfl;have v:ix e.toList (k:Int)=some e[k]! :=ub rfl;have w:ix (BU e.toList (k:Int) e[k-1]!) ((k-1:Nat):Int)=some (e.setIfInBounds k e[k-1]!)[k-1]! :=AA3 rfl rfl;simp only[h,u,v,w,AE,ABj (d:=e) (a:=k) (b:=k-1) rfl rfl];have c:=Sort.swp_get e (i:=k) (j:=k-1) (by omega) (by omega);refine AA ⟨⟨k-1,_,rfl,rfl,by omega,by omega,Sort.permIn_trans _ _ _ _ _ q5 (Sort.swp_permIn e a (m+1) k (k-1) (by omega) (by omega) (by omega) (by omega) (by omega)),λt l g=>?_,?_,λt p=>?_⟩,?_⟩;rw[c,if_neg (by omega)];by_cases f:t=k;subst f;rw[if_pos rfl];exact q8 _ (by omega);rw[if_neg f];exact q6 t (by omega) g;rw[c,if_pos rfl];exact q7;rw[c,if_neg (by omega),if_neg (by omega)];exact q8 t (by omega);show((k-1:Nat):Int).toNat<((k:Nat):Int).toNat
 omega;have:k=r:=by omega
 rw[<-this];exact q7
def ABc{d:Array NE}{a m:Nat}(n:a≤m)(u:m<d.size)(s:d.size≤16777216)(k:Sort.SortedIn lN a m d)(b:Int):
  A3 (Option.bind (Ad (B5 d.toList ((a:Int),((m:Int),b))) ((a:Int),(m:Int))) λv=>Option.bind (Ad (D2 v) ((m:Int),d.toList)) λw=>some w) λq=> ∃e:Array NE,q=e.toList/\Sort.PermIn a (m+1) d e/\Sort.SortedIn lN a (m+1) e:=by
 obtain⟨r,g,B,G,H,I⟩:=AEC (d:=d) (a:=a) (m:=m) n u s b;rw[g,AE];apply AB (AED (d:=d) (a:=a) (r:=r) (m:=m) B G u s);rintro q ⟨e,rfl,F,z,A,l⟩;refine AA ⟨e,rfl,F,λx y o p J=>?_⟩;have W:=oT;have E: ∀t,a<=t->t<r->lN d[m]! d[t]! =false:=λt h i=>by have c:=H (by omega);rcases Ao t (r-1)with j|j;exact W.ntrans _ _ _ c (k t (r-1) h j (by omega));rw[show t=r-1 by omega];exact c
 have D: ∀t,r<=t->t<m->lN d[t]! d[m]! =false:=λt h i=>by
  have c:=I (by omega);cases C:lN d[t]! d[m]! with
  |false=>rfl
  |true=>have f:=W.trans _ _ _ C c;rcases Ao r t with j|j;exact absurd f (by rw[k r t B j i];decide);rw[show t=r by omega,W.irrefl]at f;cases f
 rcases Ao y r with h|h;rw[l x (by omega),l y h];exact k x y o p (by omega);rcases Ao r y with i|i;rw[z y i (by omega)];rcases Ao x r with c|c;rw[l x c];exact k x (y-1) o (by omega) (by omega);rcases Ao r x with f|f;rw[z x f (by omega)];exact k (x-1) (y-1) (by omega) (by omega) (by omega);rw[show x=r by omega,A];exact D (y-1) (by omega) (by omega);rw[show y=r by omega,A,l x (by omega)];exact E x o (by omega)
theorem AEE{d:Array NE}{a m b lo hi:Nat}(l:lo≤hi)(s:a≤lo)(t:hi≤m)(u:(a+b)/2+m-lo≤b)(y:hi≤(a+b)/2+m)(w:m≤b)(z:b≤d.size)(A:d.size≤16777216):
  ∃r:Nat,Ad (CY d.toList ((a:Int),((m:Int),(b:Int)))) ((lo:Int),(hi:Int))=some (r:Int)/\lo<=r/\r<=hi/\(lo<r->lN d[(a+b)/2+m-1-(r-1)]! d[r-1]! =false)/\(r<hi->lN d[(a+b)/2+m-1-r]! d[r]! =true):=by
 have c: ∀i:Nat,CY d.toList ((a:Int),((m:Int),(b:Int))) ((i:Int),(i:Int))=some (.done (i:Int)):=λi=>by
  unfold CY;have:decide ((i:Int)<(i:Int))=false:=by simp
  dsimp only;rw[this,cond_false]
 have e: ∀i j:Nat,lo<=i->i<j->j<=hi->CY d.toList ((a:Int),((m:Int),(b:Int))) ((i:Int),(j:Int))=some (.next (if(!lN d[(a+b)/2+m-1-(i+j)/2]! d[(i+j)/2]!)=true then((((i+j)/2+1:Nat):Int),(j:Int))else((i:Int),(((i+j)/2:Nat):Int)))):=λi j s t u=>by
  unfold CY;have:decide ((i:Int)<(j:Int))=true:=by simp;omega
  dsimp only;rw[this,cond_true,tJ (i:=i) (j:=j) (by omega),tJ (i:=a) (j:=b) (by omega)];have n:wi (wi (wi ((((a+b)/2:Nat):Int)+(m:Int))-1)-(((i+j)/2:Nat):Int))=(((a+b)/2+m-1-(i+j)/2:Nat):Int):=by rw[Pn (x:=(((a+b)/2:Nat):Int)+(m:Int)) (by omega),Pn (x:=(((a+b)/2:Nat):Int)+(m:Int)-1) (by omega),Pn (by omega)];omega
  obtain⟨v,f,g⟩:=ABW d[(a+b)/2+m-1-(i+j)/2]! d[(i+j)/2]!;rw[n,ub (k:=(i+j)/2) rfl (by omega),ub (k:=(a+b)/2+m-1-(i+j)/2) rfl (by omega)];simp only[AE,f,g,mV (i:=(i+j)/2) (by omega)];cases lN d[(a+b)/2+m-1-(i+j)/2]! d[(i+j)/2]! <;>rfl
 obtain⟨r,f,g,o,p,q⟩:=bs (P:=λk=>!lN d[(a+b)/2+m-1-k]! d[k]!) c e l;exact⟨r,f,g,o,λh=>by simpa using p h,λh=>by simpa using q h⟩
def ABV{s m e:Nat}{d f:Array NE}(o:s<=m)(p:m<=e)(b:e<=d.size)(c:f.size=d.size)(h: ∀k,k<d.size->f[k]! =rO s m e d k):Sort.PermIn s e d f:=by
 refine⟨c,λi a=>?_,?_⟩;grind[Nat.lt_or_ge,S6];have key: ∀(g:Nat->NE) (s n:Nat),(List.range' s n).map g=(List.range n).map λi=>g (s+i):=λg s n=>by rw[List.range'_eq_map_range,Nw];rfl
 rw[Sort.extract_toList f s e (by omega),Sort.extract_toList d s e b];have j:List.range' s (e-s)=List.range' s (e-m)++List.range' (s+(e-m)) (m-s):=by grind
 have l:List.range' s (e-s)=List.range' s (m-s)++List.range' (s+(m-s)) (e-m):=by grind
 have l1:(List.range' s (e-m)).map (λi=>f[i]!)=(List.range' (s+(m-s)) (e-m)).map λi=>d[i]! :=by rw[key,key];refine MC λi a=>?_;have:=IX.1 a;rw[h _ (by omega),eM];simp_all
 have l2:(List.range' (s+(e-m)) (m-s)).map (λi=>f[i]!)=(List.range' s (m-s)).map λi=>d[i]! :=by rw[key,key];refine MC λi a=>?_;have:=IX.1 a;rw[h _ (by omega),jY];simp_all
 grind
def rl(a b:Nat)(d e:Array NE):Prop:=Sort.PermIn a b d e/\Sort.SortedIn lN a b e
def ja{a m b:Nat}{d:Array NE}(h:m<=a\/b<=m)(c:Sort.SortedIn lN a m d)(e:Sort.SortedIn lN m b d)(f:a<=m)(g:m<=b):Sort.SortedIn lN a b d:=by
 rcases h with h|h;have:m=a:=by omega
 rw[<-this];exact e;have:m=b:=by omega
 rw[<-this];exact c
theorem AEi{C:List NE×(Int×(Int×Int))→Option (List NE)}{N a m b:Nat}{d:Array NE}(a4:a<m)(a5:m<b)(hb:b≤d.size)(hd:d.size≤16777216)(s:Sort.SortedIn lN a m d)(A:Sort.SortedIn lN m b d)
  (O: ∀(S:Array NE) (V m' R:Nat),V<m'->m'<R->R<=S.size->S.size<=16777216->Sort.SortedIn lN V m' S->Sort.SortedIn lN m' R S->PT (R-V<=N) (C (S.toList,((V:Int),((m':Int),(R:Int))))) λr=> ∃e:Array NE,r=e.toList/\rl V R S e):
  PT (b-a<=N+1) (Bv C d.toList ((a:Int),((m:Int),(b:Int)))) λr=> ∃e:Array NE,r=e.toList/\rl a b d e:=by
 have W:=oT;unfold Bv;have e0:wi ((m:Int)-(a:Int))=((m-a:Nat):Int):=by grind[Pn]
 have e1:wi ((b:Int)-(m:Int))=((b-m:Nat):Int):=by grind[Pn]
 dsimp only;rw[e0,e1,tJ (i:=a) (j:=b) (by omega)];refine PT.cond ?_ ?_<;>intro Q;have Q:m=a+1:=by have:=eq_of_beq Q;omega
 subst Q;exact dm (zp (by omega) hb hd A _);refine PT.cond ?_ ?_<;>intro n;have n:b=m+1:=by have:=eq_of_beq n;omega
 subst n;exact dm (ABc (by omega) hb hd s _);have n1:m-a≠1:=λh=>by rw[h]at Q;exact absurd Q (by decide)
 have n2:b-m≠1:=λh=>by rw[h]at n;exact absurd n (by decide)
 have Y:a<(a+b)/2/\(a+b)/2<b:=by omega
 generalize hM:(a+b)/2=M at Y⊢;have e2:wi ((M:Int)+(m:Int))=((M+m:Nat):Int):=by rw[Pn (by omega)];omega
 rw[e2];refine PT.bind (P:=λv=> ∃L J:Nat,v=((L:Int),(J:Int))/\L<=J/\a<=L/\J<=m/\J<=M/\M+m-L<=b/\(L=a\/M+m-L=b)/\(J=m\/J=M)) ?_ ?_;refine PT.dec (λhc=>PT.some ⟨M+m-b,M,?_,by omega,by omega,by omega,by omega,by omega,by omega,by omega⟩) (λhc=>PT.some ⟨a,m,rfl,by omega,by omega,by omega,by omega,by omega,by omega,by omega⟩);rw[Pn (by omega)];exact congrArg (λz=>(z,(M:Int))) (by omega);rintro v ⟨L,J,rfl,f1,f2,f3,f4,f5,f6,f7⟩;have⟨r,g,r1,r2,r3,r4⟩:=AEE (d:=d) (a:=a) (m:=m) (b:=b) (lo:=L) (hi:=J) f1 f2 f3 (by omega) (by omega) (by omega) hb hd;rw[hM]at r3 r4;rw[g,AE];have e3:wi (((M+m:Nat):Int)-(r:Int))=((M+m-r:Nat):Int):=by rw[Pn (by omega)];omega
 simp only[e3];obtain⟨E,hE⟩: ∃E,E=M+m-r:=⟨_,rfl⟩
 rw[<-hE];have c1:a<r->E<b->lN d[E]! d[r-1]! =false:=λQ n=>by have:=r3 (by omega);rw[show M+m-1-(r-1)=E by omega]at this;exact this
 have c2:r<m->m<E->lN d[E-1]! d[r]! =true:=λQ n=>by have:=r4 (by omega);rw[show M+m-1-r=E-1 by omega]at this;exact this
 have s3: ∀c l:Array NE,Sort.PermIn a b d c->(∀k,k<d.size->c[k]! =rO r m E d k)->rl a M c l->PT (b-a<=N+1) (bif decide ((M:Int)<(E:Int))then Option.bind (bif decide ((E:Int)<(b:Int))then Option.bind (C (l.toList,((M:Int),((E:Int),(b:Int))))) λv=>bif Nat.beq (List.length v) (List.length l.toList)then some v else none else some l.toList) λv=>some v else some l.toList) λq=> ∃e:Array NE,q=e.toList/\rl a b d e:=by
  intro c l U f n;have z1:c.size=d.size:=U.1;have z2:l.size=c.size:=n.1.1;have ar: ∀k,k<r->c[k]! =d[k]! :=λk hk=>by rw[f k (by omega),S6 (by omega) (by omega) (by omega)]
  have ax: ∀k,r<=k->k<M->c[k]! =d[m+(k-r)]! :=λk h h'=>by rw[f k (by omega),eM (by omega) (by omega)]
  have H: ∀k,M<=k->k<E->c[k]! =d[r+(k-M)]! :=λk h h'=>by rw[f k (by omega),jY (by omega) (by omega)];exact lJ (by omega)
  have I: ∀k,E<=k->k<b->c[k]! =d[k]! :=λk h h'=>by rw[f k (by omega),S6 (by omega) (by omega) (by omega)]
  have a0: ∀x y,a<=x->x<M->M<=y->y<b->lN c[y]! c[x]! =false:=by
   intro x y F a3 G K;rcases Ao x r with q1|q1;rw[ar x q1];rcases Ao y E with q2|q2;rw[H y G q2];exact s x _ F (by omega) (by omega);rw[I y q2 K];have k1:lN d[y]! d[E]! =false:=by rcases Ao E y with q3|q3;exact A E y (by omega) q3 K;rw[show y=E by omega];exact W.irrefl _
   have k2:lN d[r-1]! d[x]! =false:=by rcases Ao x (r-1)with q3|q3;exact s x (r-1) F q3 (by omega);rw[show r-1=x by omega];exact W.irrefl _
   exact W.ntrans _ _ _ (W.ntrans _ _ _ k1 (c1 (by omega) (by omega))) k2;rw[ax x q1 a3];rcases Ao y E with q2|q2;rw[H y G q2];have hc:=c2 (by omega) (by omega);have k1:lN d[E-1]! d[m+(x-r)]! =false:=by rcases Ao (m+(x-r)) (E-1)with q3|q3;exact A _ (E-1) (by omega) q3 (by omega);rw[show m+(x-r)=E-1 by omega];exact W.irrefl _
   refine W.ntrans _ d[E-1]! _ ?_ k1;cases hk:lN d[r+(y-M)]! d[E-1]! with
   |false=>rfl
   |true=>have k2:=W.trans _ _ _ hk hc;rcases Ao r (r+(y-M))with q3|q3;exact absurd k2 (by rw[s r _ (by omega) q3 (by omega)];decide);rw[show r+(y-M)=r by omega,W.irrefl]at k2;cases k2
   rw[I y q2 K];exact A _ y (by omega) (by omega) K
  have X: ∀d3:Array NE,rl M b l d3->rl a b d d3:=λd3 T=>by refine⟨Sort.permIn_trans _ _ _ _ _ U (Sort.permIn_trans _ _ _ _ _ (Sort.permIn_mono _ _ a M a b (by omega) (by omega) (by omega) n.1) (Sort.permIn_mono _ _ M b a b (by omega) (by omega) (by omega) T.1)),λx y F B G=>?_⟩;rcases Ao y M with q1|q1;rw[T.1.2.1 x (by omega),T.1.2.1 y (by omega)];exact n.2 x y F B q1;rcases Ao x M with q2|q2;rw[T.1.2.1 x (by omega)];refine Sort.permIn_all l d3 M b (λz=>lN z l[x]! =false) (by omega) T.1 (λw hw a2=>?_) y q1 G;rw[n.1.2.1 w (by omega)];exact Sort.permIn_all c l a M (λz=>lN c[w]! z=false) (by omega) n.1 (λu hu a1=>a0 u w hu a1 hw a2) x F q2;exact T.2 x y q2 B G
  have ao:Sort.SortedIn lN M E l:=λx y F B G=>by rw[n.1.2.1 x (by omega),n.1.2.1 y (by omega),H x F (by omega),H y (by omega) G];exact s _ _ (by omega) (by omega) (by omega)
  have ap:Sort.SortedIn lN E b l:=λx y F B G=>by rw[n.1.2.1 x (by omega),n.1.2.1 y (by omega),I x F (by omega),I y (by omega) G];exact A _ _ (by omega) (by omega) (by omega)
  have o:E<=M\/b<=E->rl a b d l:=λh=>X l ⟨Sort.permIn_refl _ _ _,ja h ao ap (by omega) (by omega)⟩;refine PT.dec (λq1=>PT.bind (P:=λq=> ∃e:Array NE,q=e.toList/\rl a b d e) (PT.dec (λq2=>?_) (λq2=>PT.some ⟨l,rfl,o (by omega)⟩)) λr h=>PT.some h) (λq1=>PT.some ⟨l,rfl,o (by omega)⟩);have hr:=O l M E b (by omega) (by omega) (by omega) (by omega) ao ap;refine PT.bind (P:=λq=> ∃e:Array NE,q=e.toList/\rl M b l e) ⟨λt=>hr.1 (by omega),hr.2⟩ ?_;rintro q ⟨e,rfl,D⟩;exact Fc (by rw[DQ,DQ,D.1.1]) (PT.some ⟨e,rfl,X e D⟩)
 have s2: ∀c:Array NE,Sort.PermIn a b d c->(∀k,k<d.size->c[k]! =rO r m E d k)->PT (b-a<=N+1) (bif decide ((a:Int)<(r:Int))then Option.bind (bif decide ((r:Int)<(M:Int))then Option.bind (C (c.toList,((a:Int),((r:Int),(M:Int))))) λv=>bif Nat.beq (List.length v) (List.length c.toList)then some v else none else some c.toList) λv=>(bif decide ((M:Int)<(E:Int))then Option.bind (bif decide ((E:Int)<(b:Int))then Option.bind (C (v,((M:Int),((E:Int),(b:Int))))) λw=>bif Nat.beq (List.length w) (List.length v)then some w else none else some v) λw=>some w else some v)else(bif decide ((M:Int)<(E:Int))then Option.bind (bif decide ((E:Int)<(b:Int))then Option.bind (C (c.toList,((M:Int),((E:Int),(b:Int))))) λw=>bif Nat.beq (List.length w) (List.length c.toList)then some w else none else some c.toList) λw=>some w else some c.toList)) λq=> ∃e:Array NE,q=e.toList/\rl a b d e:=by
  intro c U f;have z1:c.size=d.size:=U.1;have ad:Sort.SortedIn lN a r c:=λx y F B G=>by rw[f x (by omega),f y (by omega),S6 (by omega) (by omega) (by omega),S6 (by omega) (by omega) (by omega)];exact s _ _ (by omega) (by omega) (by omega)
  have al:Sort.SortedIn lN r M c:=λx y F B G=>by rw[f x (by omega),f y (by omega),eM (by omega) (by omega),eM (by omega) (by omega)];exact A _ _ (by omega) (by omega) (by omega)
  have o:r<=a\/M<=r->rl a M c c:=λh=>⟨Sort.permIn_refl _ _ _,ja h ad al (by omega) (by omega)⟩
  refine PT.dec (λq1=>PT.bind (P:=λq=> ∃e:Array NE,q=e.toList/\rl a M c e) ?_ ?_) (λq1=>s3 c c U f (o (by omega)));refine PT.dec (λq2=>?_) (λq2=>PT.some ⟨c,rfl,o (by omega)⟩);have hr:=O c a r M (by omega) (by omega) (by omega) (by omega) ad al;refine PT.bind (P:=λq=> ∃e:Array NE,q=e.toList/\rl a M c e) ⟨λt=>hr.1 (by omega),hr.2⟩ ?_;rintro q ⟨e,rfl,D⟩;exact Fc (by rw[DQ,DQ,D.1.1]) (PT.some ⟨e,rfl,D⟩);rintro q ⟨e,rfl,D⟩;exact s3 c e U f D
 have Z:r=m\/E=m-> ∀k,k<d.size->d[k]! =rO r m E d k:=λh k hk=>by rcases Ao k r with q1|q1;rw[S6 (by omega) (by omega) (by omega)];rcases Ao k (r+(E-m))with q2|q2;rw[eM q1 q2];exact lJ (by omega);rcases Ao k E with q3|q3;rw[jY q2 q3];exact lJ (by omega);rw[S6 (by omega) (by omega) (by omega)]
 refine PT.dec (λq1=>PT.bind (P:=λq=> ∃e:Array NE,q=e.toList/\Sort.PermIn a b d e/\ ∀k,k<d.size->e[k]! =rO r m E d k) ?_ ?_) (λq1=>s2 d (Sort.permIn_refl _ _ _) (Z (by omega)));refine PT.dec (λq2=>PT.bind (dm (xY (d:=d) (a:=r) (m:=m) (b:=E) (by omega) (by omega) (by omega) hd)) ?_) (λq2=>PT.some ⟨d,rfl,Sort.permIn_refl _ _ _,Z (by omega)⟩);rintro q ⟨e,rfl,z,D⟩;exact Fc (by rw[DQ,DQ,z]) (PT.some ⟨e,rfl,Sort.permIn_mono _ _ r E a b (by omega) (by omega) hb (ABV (by omega) (by omega) (by omega) z D),D⟩);rintro q ⟨e,rfl,p,D⟩;exact s2 e p D
end Go.Pm
