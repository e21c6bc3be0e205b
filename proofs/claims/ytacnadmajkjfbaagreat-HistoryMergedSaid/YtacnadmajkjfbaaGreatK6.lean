/- What these functions answer, part 6. Texts of the folder wip, laid in few files with shorter names by a program (wip/tools/pack.py); nothing is assumed. -/
import Derived.Test.YtacnadmajkjfbaaGreatK5
import Derived.Sort.AssemblyPlain
import Derived.KernelRfl
noncomputable section
set_option linter.unusedVariables false
set_option linter.unusedSimpArgs false
set_option linter.unusedSectionVars false
set_option linter.defProp false
namespace Go.Pm
open Go Go.Ab
def Rx(c:FD):Bf:=bif c.1 then Gf (c.2.length:Int) 1++c.2 else Gf 255 1
def Bw(e:AI):Bf:=
 Gf e.1 8++(Gf e.2.1 1++(Gf e.2.2.1 4++(Gf e.2.2.2.1 8++(Gf e.2.2.2.2.1 8++(Gf e.2.2.2.2.2.1 8++(Gf e.2.2.2.2.2.2.1.1 4++(Gf e.2.2.2.2.2.2.1.2.1 1++
 (Rx e.2.2.2.2.2.2.1.2.2.1++(Rx e.2.2.2.2.2.2.1.2.2.2++(Gf (e.2.2.2.2.2.2.2.length:Int) 4++e.2.2.2.2.2.2.2))))))))))
def Y7{c:FD}(h:HT c):(Rx c).length<=13:=by
 unfold Rx;cases c.1 with
 |true=>rw[cond_true,Ad,B7];have:=h.1;omega
 |false=>rw[cond_false,B7];omega
def tN{s:Bf}{c:FD}(h:s.length<=1099511627776)(a:c.2.length<=8192):GC (s,c)=some (s++Rx c):=by
 unfold GC Rx;dsimp only;cases c.1 with
 |false=>rw[TM,cond_true,cond_false,Ns h (by decide) (by decide)];rfl
 |true=>
  rw[D9,cond_false,cond_true,Ns h (by decide) (by decide),AJ];have:sapp (s++Gf (len c.2) (Int.toNat 1)) c.2=some (s++(Gf (c.2.length:Int) 1++c.2)):=by unfold sapp;rw[if_pos (by rw[Ad,B7,show Int.toNat 1=1 from rfl];omega),Ax];rfl
  rw[this];rfl
def Pd.cells{e:AI}(h:Pd e):HT e.2.2.2.2.2.2.1.2.2.1/\HT e.2.2.2.2.2.2.1.2.2.2/\e.2.2.2.2.2.2.2.length<=8192/\bo 8 e.1/\bo 1 e.2.1/\bo 4 e.2.2.1/\bo 8 e.2.2.2.1/\bo 8 e.2.2.2.2.1/\bo 8 e.2.2.2.2.2.1/\bo 4 e.2.2.2.2.2.2.1.1/\bo 1 e.2.2.2.2.2.2.1.2.1:=by
 obtain⟨a1,a2,a3,a4,a5,a6,a7,a8,j⟩:=h;have k: ∀n:Int,0<=n->n<=1099511627776->bo 8 n:=λn l m=>⟨λh=>absurd h (by decide),by omega⟩
 have p: ∀n:Int,0<=n->n<=1073741824->bo 4 n:=λn l m=>⟨λ_=>by rw[show(256:Int)^4=4294967296 by decide];omega,by omega⟩
 have o: ∀n:Int,0<=n->n<=255->bo 1 n:=λn l m=>⟨λ_=>by rw[show(256:Int)^1=256 by decide];omega,by omega⟩
 have z:HT (false,[]):=⟨by decide,.inr rfl⟩
 refine and_assoc.1 (and_assoc.1 ⟨?_,k _ (by omega) (by omega),?_⟩)
 ·rcases j with⟨k1,g,d,i,b,a⟩|⟨k1,g,d,i,b,a,f,c⟩|⟨k1,g,d,i,b,a,f,c⟩|⟨k1,g,d,i,b,a,f⟩|j
  ·exact⟨⟨a.2.2.2.2.1,a.2.2.2.2.2⟩,by rw[d];decide⟩
  ·exact⟨⟨c.2.2.2.2.1,c.2.2.2.2.2⟩,by rw[b];decide⟩
  ·rw[b,a];exact⟨⟨z,z⟩,by decide⟩
  ·rw[a];exact⟨⟨z,z⟩,f⟩
  ·obtain⟨k1,g,d,i,b,a,f,c⟩:=j;rw[f,c];exact⟨⟨z,z⟩,by decide⟩
 ·have q:1<=e.2.1/\e.2.1<=8/\0<=e.2.2.1/\e.2.2.1<=1073741824/\0<=e.2.2.2.2.2.2.1.1/\e.2.2.2.2.2.2.1.1<64/\0<=e.2.2.2.2.2.2.1.2.1/\e.2.2.2.2.2.2.1.2.1<16:=by
   rcases j with⟨k1,g,d,i,b,a⟩|⟨k1,g,d,i,b,a,f,c⟩|⟨k1,g,d,i,b,a,f,c⟩|⟨k1,g,d,i,b,a,f⟩|j
   ·have:=a.1;have:=a.2.1;have:=a.2.2.1;have:=a.2.2.2.1;omega
   ·have:=c.1;have:=c.2.1;have:=c.2.2.1;have:=c.2.2.2.1;omega
   ·rw[b];unfold Ow;dsimp only;omega
   ·rw[a];unfold Ow;dsimp only;omega
   ·obtain⟨k1,g,d,i,b,a,f,c⟩:=j;rw[f];unfold Ow;dsimp only;omega
  exact⟨o _ (by omega) (by omega),p _ (by omega) (by omega),k _ (by omega) (by omega),k _ (by omega) (by omega),k _ (by omega) (by omega),p _ (by omega) (by omega),o _ (by omega) (by omega)⟩
def Y8{e:AI}(h:Pd e):(Bw e).length<=8392:=by obtain⟨a,b,c,_⟩:=h.cells;have:=Y7 a;have:=Y7 b;unfold Bw;simp only[Ad,B7];omega
def pS{e:AI}(h:Pd e):FJ e=some (Bw e,0):=by obtain⟨c,d,i,_⟩:=h.cells;have l1:=Y7 c;have l2:=Y7 d;obtain⟨b,f,g⟩:=CH (x:=e);have a:b=true:=g.2 h;subst a;unfold FJ;rw[f,AJ,D9,cond_false];rw[Ns (by simp) (by decide) (by decide),AJ,CA];rw[Ns (by simp only[Ad,B7];simp only[Int.reduceToNat];omega) (by decide) (by decide),AJ];rw[Ns (by simp only[Ad,B7];simp only[Int.reduceToNat];omega) (by decide) (by decide),AJ];rw[Ns (by simp only[Ad,B7];simp only[Int.reduceToNat];omega) (by decide) (by decide),AJ];rw[Ns (by simp only[Ad,B7];simp only[Int.reduceToNat];omega) (by decide) (by decide),AJ];rw[Ns (by simp only[Ad,B7];simp only[Int.reduceToNat];omega) (by decide) (by decide),AJ];rw[Ns (by simp only[Ad,B7];simp only[Int.reduceToNat];omega) (by decide) (by decide),AJ];rw[Ns (by simp only[Ad,B7];simp only[Int.reduceToNat];omega) (by decide) (by decide),AJ];rw[tN (by simp only[Ad,B7];simp only[Int.reduceToNat];omega) (by have:=c.1;omega),AJ];rw[tN (by simp only[Ad,B7];simp only[Int.reduceToNat];omega) (by have:=d.1;omega),AJ];rw[Ns (by simp only[Ad,B7];simp only[Int.reduceToNat];omega) (by decide) (by decide),AJ];unfold sapp;rw[if_pos (by simp only[Ad,B7];simp only[Int.reduceToNat];omega),AJ];simp only[Ax];rfl
def CS(x p:Bf)(c:Bf×Int×Int):Prop:=c.1=x/\(c.2.2=0-> ∃rest,x=p++rest/\c.2.1=p.length)
def lD{t:Bf}{k:Nat}(h:k<=t.length)(d:k<=8):bo k (rd (t.take k))/\Gf (rd (t.take k)) k=t.take k:=by
 have c:(t.take k).length=k:=by rw[Cn];omega
 have a:=sY (l:=t.take k) (by omega);have b:=oy (l:=t.take k) (by omega);rw[c]at a b;exact⟨a,b⟩
def YF{x p:Bf}{c:Bf×Int×Int}{k:Nat}(h:CS x p c)(o:x.length<=1099511627776)(q:1<=k)(m:k<=8):A2 (BF c (k:Int)) λr=>CS x (p++Gf r.1 k) r.2/\(r.2.2.2=0->bo k r.1)/\(c.2.2≠0->r=(0,c)):=by
 obtain⟨s,l,e⟩:=c;obtain⟨g,i⟩:=h;dsimp only at g i;subst g;unfold BF;refine AK (λd=>AA ⟨⟨rfl,λb=>absurd b d⟩,λb=>absurd b d,λ_=>rfl⟩) (λd=>?_);dsimp only at d;subst d;obtain⟨a,hr,n⟩:=i rfl;subst hr n;rw[Ad]at o;rw[iN (by omega) (by omega) (by omega)];by_cases j:(k:Int)<=a.length
 ·rw[if_pos j,AJ,DP];obtain⟨q1,q2⟩:=lD (t:=a) (k:=k) (by omega) m;rw[show((0:Int) !=0)=false by decide,cond_false];refine AA ⟨⟨rfl,λ_=>⟨a.drop k,?_,?_⟩⟩,λ_=>q1,λf=>absurd rfl f⟩
  ·dsimp only;rw[q2,Ax,FG]
  ·dsimp only;rw[AY (by omega),Ad,B7];omega
 ·rw[if_neg j,AJ];rw[show((5:Int) !=0)=true by decide,cond_true];exact AA ⟨⟨rfl,λb=>absurd (show(5:Int)=0 from b) (by decide)⟩,λb=>absurd (show(5:Int)=0 from b) (by decide),λf=>absurd rfl f⟩
def xK{x p:Bf}{c:Bf×Int×Int}{n:Int}(h:CS x p c)(l:x.length<=1099511627776)(hn:c.2.2=0->0<=n/\n<4294967296):A2 (Cs c n) λr=>CS x (p++r.1) r.2/\(r.2.2.2=0->(r.1.length:Int)=n/\c.2.2=0):=by
 obtain⟨s,i,e⟩:=c;obtain⟨f,g⟩:=h;dsimp only at f g hn;subst f;unfold Cs;by_cases d:e=0
 ·subst d;obtain⟨a,hr,j⟩:=g rfl;obtain⟨o,t⟩:=hn rfl;subst hr j;obtain⟨m,rfl⟩:=Er o;rw[Ad]at l;rw[show((0:Int) !=0)=false by decide,cond_false];simp only[len];rw[show wi (((p++a).length:Int)-(p.length:Int))=a.length by rw[Ad,AY (by omega)];omega];by_cases q:(m:Int)<=a.length
  ·rw[decide_eq_false (by omega),cond_false];have k:Ry (p++a) (wi (wi ((p.length:Int)+(m:Int))-(m:Int))) (wi ((p.length:Int)+(m:Int)))=some (a.take m):=by rw[AY (x:=(p.length:Int)+(m:Int)) (by omega),AY (by omega)];unfold Ry;rw[if_pos (by rw[Ad];omega),show((p.length:Int)+(m:Int)-(m:Int)).toNat=p.length by omega,Jv,show((p.length:Int)+(m:Int)).toNat-p.length=m by omega]
   rw[k,AJ];refine AA ⟨⟨rfl,λ_=>⟨a.drop m,?_,?_⟩⟩,λ_=>⟨?_,by first|rfl|trivial⟩⟩
   ·dsimp only;rw[Ax,FG]
   ·dsimp only;rw[AY (by omega),Ad,Cn];omega
   ·dsimp only;rw[Cn];omega
  ·rw[decide_eq_true (by omega),cond_true];exact AA ⟨⟨rfl,λb=>absurd (show(5:Int)=0 from b) (by decide)⟩,λb=>absurd (show(5:Int)=0 from b) (by decide)⟩
 ·rw[bne_iff_ne.2 d,cond_true];exact AA ⟨⟨rfl,λb=>absurd b d⟩,λb=>absurd b d⟩
theorem xI{x p:Bf}{c:Bf×Int×Int}(h:CS x p c)(m:x.length<=1099511627776):A2 (Ch c ()) λr=>CS x (p++Rx r.1) r.2/\(r.2.2.2=0->HT r.1):=by
 unfold Ch;refine AB (YF (k:=1) h m (by decide) (by decide)) λv y=>?_;obtain⟨⟨i,n⟩,A,D⟩:=y;refine AK (λf=>AA ⟨⟨i,λa=>absurd a f⟩,λa=>absurd a f⟩) (λf=>?_);obtain⟨g,hr,l⟩:=n f;have u:=(A f).1 (by decide);rw[show(256:Int)^1=256 by decide]at u;refine AS (λb=>AA ⟨⟨i,λ_=>⟨g,?_,?_⟩⟩,λ_=>⟨Cc _,.inr rfl⟩⟩) (λb=>?_)
 ·dsimp only;rw[b]at hr;exact hr
 ·dsimp only;rw[b]at l;exact l
 refine AC (λ_=>AA ⟨⟨i,λa=>absurd (show(4:Int)=0 from a) (by decide)⟩,λa=>absurd (show(4:Int)=0 from a) (by decide)⟩) (λt=>?_);refine AB (xK (x:=x) (p:=p++Gf v.1 1) ⟨i,n⟩ m (λ_=>⟨by omega,by omega⟩)) λw z=>AA ?_;obtain⟨⟨B,C⟩,o⟩:=z;refine⟨⟨B,λa=>?_⟩,λa=>?_⟩
 ·dsimp only at a⊢;obtain⟨d,q,s⟩:=C a;obtain⟨j,_⟩:=o a;have e:Rx (true,w.1)=Gf v.1 1++w.1:=by unfold Rx;rw[cond_true,j]
  rw[e,<-Ax];exact⟨d,q,s⟩
 ·dsimp only at a⊢;obtain⟨j,_⟩:=o a;exact⟨by dsimp only;omega,.inl rfl⟩
def V5{x p a:Bf}{n:Int}{k:Nat}(c:x=p++(Gf n k++a))(f:x.length<=1099511627776)(e:1<=k)(d:k<=8)(hn:bo k n):BF (x,((p.length:Int),0)) (k:Int)=some (n,(x,(((p++Gf n k).length:Int),0))):=by
 have b:=congrArg List.length c;simp only[Ad,B7]at b;unfold BF;dsimp only;rw[show((0:Int) !=0)=false by decide,cond_false];conv=>lhs;arg 1;rw[c]
 rw[iN (by rw[Ad,B7];omega) (by omega) (by omega),if_pos (by rw[Ad,B7];omega),AJ,DP,J5 (B7 _ _),jj d hn];rw[Ad,B7];dsimp only;rw[show((0:Int) !=0)=false by decide,cond_false];rw[AY (by omega)];rfl
def xJ{x p w a:Bf}(c:x=p++(w++a))(e:x.length<=1099511627776):Cs (x,((p.length:Int),0)) (w.length:Int)=some (w,(x,(((p++w).length:Int),0))):=by
 have b:=congrArg List.length c;simp only[Ad]at b;unfold Cs;dsimp only;rw[show((0:Int) !=0)=false by decide,cond_false];simp only[len];rw[show decide ((w.length:Int)>wi ((x.length:Int)-(p.length:Int)))=false from decide_eq_false (by rw[AY (by omega)];omega),cond_false];have d:Ry x (wi (wi ((p.length:Int)+(w.length:Int))-(w.length:Int))) (wi ((p.length:Int)+(w.length:Int)))=some w:=by rw[AY (x:=(p.length:Int)+(w.length:Int)) (by omega),AY (by omega)];unfold Ry;rw[if_pos (by omega),c,show((p.length:Int)+(w.length:Int)-(w.length:Int)).toNat=p.length by omega,Jv,show((p.length:Int)+(w.length:Int)).toNat-p.length=w.length by omega,TK]
 rw[d,AJ,AY (by omega),Ad];rfl
def xH{x p e:Bf}{c:FD}(a:x=p++(Rx c++e))(g:x.length<=1099511627776)(k:HT c):Ch (x,((p.length:Int),0)) ()=some (c,(x,(((p++Rx c).length:Int),0))):=by
 obtain⟨b,d⟩:=c;obtain⟨j,i⟩:=k;dsimp only at j i;unfold Ch;cases b with
 |false=>
  have l:d=[]:=by rcases i with h|h;cases h;exact h
  subst l;have f:Rx (false,[])=Gf 255 1:=rfl;rw[f]at a⊢;rw[show(1:Int)=((1:Nat):Int)from rfl,V5 a g (by decide) (by decide) ⟨λ_=>by decide,by decide,by decide⟩];rfl
 |true=>have f:Rx (true,d)=Gf (d.length:Int) 1++d:=rfl;rw[f,Ax]at a;rw[f];rw[show(1:Int)=((1:Nat):Int)from rfl,V5 a g (by decide) (by decide) ⟨λ_=>by rw[show(256:Int)^1=256 by decide];omega,by omega⟩,AJ];dsimp only;rw[show((0:Int) !=0)=false by decide,cond_false,show((d.length:Int)==255)=false by rw[beq_eq_false_iff_ne];omega,cond_false,decide_eq_false (by omega),cond_false];rw[xJ (by rw[a,Ax]) g,AJ,Ax]
def AAx{x:Bf}(a:x.length<=1099511627776):A2 (Du x) λr=>r.2=0->x=Bw r.1/\HT r.1.2.2.2.2.2.2.1.2.2.1/\HT r.1.2.2.2.2.2.2.1.2.2.2/\bo 4 (r.1.2.2.2.2.2.2.2.length:Int)/\Ck r.1=some true:=by
 unfold Du;have I:CS x [] (x,(0,0)):=⟨rfl,λ_=>⟨x,rfl,rfl⟩⟩
 refine AB (YF (k:=8) I a (by decide) (by decide)) λO y=>?_;refine AB (YF (k:=1) y.1 a (by decide) (by decide)) λP z=>?_;refine AB (YF (k:=4) z.1 a (by decide) (by decide)) λQ A=>?_;refine AB (YF (k:=8) A.1 a (by decide) (by decide)) λR B=>?_;refine AB (YF (k:=8) B.1 a (by decide) (by decide)) λS C=>?_;refine AB (YF (k:=8) C.1 a (by decide) (by decide)) λT D=>?_;refine AB (YF (k:=4) D.1 a (by decide) (by decide)) λU E=>?_;refine AB (YF (k:=1) E.1 a (by decide) (by decide)) λV F=>?_;refine Gr (xI F.1 a) λq M o=>?_;refine Gr (xI o.1 a) λs w p=>?_;refine AB (YF (k:=4) p.1 a (by decide) (by decide)) λj b=>?_;refine AB (xK (n:=j.1) b.1 a (λc=>?_)) λJ f=>?_
 ·have:=(b.2.1 c).1 (by decide);rw[show(256:Int)^4=4294967296 by decide]at this;exact this
 refine AK (λh=>AA λc=>absurd c h) (λh=>?_);refine AK (λ_=>AA λc=>absurd c (by decide)) (λG=>?_);refine Gr (CH) λK i _=>?_;refine AO (λ_=>AA λc=>absurd c (by decide)) (λH=>AA λ_=>?_);subst H;obtain⟨q11,d⟩:=f.2 h;have l:s.2.2.2=0:=U2 λe=>by have:=b.2.2 e;rw[this]at d;exact e d
 have u:=p.2 l;have L:q.2.2.2=0:=U2 λe=>by
  have:s=((false,[]),q.2):=by have:=w;unfold Ch BF at this;rw[bne_iff_ne.2 e,cond_true,AJ,bne_iff_ne.2 e,cond_true]at this;injection this with this;exact this.symm
  rw[this]at l;exact e l
 have t:=o.2 L;obtain⟨g,m,N⟩:=f.1.2 h;have hr:g=[]:=by simp only[len]at G;have v:=congrArg List.length m;rw[Ad]at v;exact EA (by omega)
 subst hr;refine⟨?_,t,u,?_,i⟩
 ·rw[m];unfold Bw;dsimp only;rw[q11];simp only[Ax,CA,DQ]
 ·dsimp only;rw[q11];exact b.2.1 d
def AAw{e:AI}(h:Pd e):Du (Bw e)=some (e,0):=by
 obtain⟨s,t,H,w,y,z,A,B,C,D,E⟩:=h.cells;have I:=Y8 h;have g:bo 4 (e.2.2.2.2.2.2.2.length:Int):=⟨λ_=>by rw[show(256:Int)^4=4294967296 by decide];omega,by omega⟩
 have a:Bw e=[]++(Gf e.1 8++(Gf e.2.1 1++(Gf e.2.2.1 4++(Gf e.2.2.2.1 8++(Gf e.2.2.2.2.1 8++(Gf e.2.2.2.2.2.1 8++(Gf e.2.2.2.2.2.2.1.1 4++(Gf e.2.2.2.2.2.2.1.2.1 1++
 (Rx e.2.2.2.2.2.2.1.2.2.1++(Rx e.2.2.2.2.2.2.1.2.2.2++(Gf (e.2.2.2.2.2.2.2.length:Int) 4++(e.2.2.2.2.2.2.2++[])))))))))))):=by rw[DQ];rfl
 generalize Bw e=x at*;have i:BF (x,(((0:Int)),0)) 8=_:=V5 (p:=[]) (k:=8) a (by omega) (by decide) (by decide) w;rw[CA]at i;rw[CA]at a;have j:=V5 (k:=1) a (by omega) (by decide) (by decide) y;rw[<-Ax]at a;have l:=V5 (k:=4) a (by omega) (by decide) (by decide) z;rw[<-Ax]at a;have m:=V5 (k:=8) a (by omega) (by decide) (by decide) A;rw[<-Ax]at a;have n:=V5 (k:=8) a (by omega) (by decide) (by decide) B;rw[<-Ax]at a;have o:=V5 (k:=8) a (by omega) (by decide) (by decide) C;rw[<-Ax]at a;have q:=V5 (k:=4) a (by omega) (by decide) (by decide) D;rw[<-Ax]at a;have r:=V5 (k:=1) a (by omega) (by decide) (by decide) E;rw[<-Ax]at a;have F:=xH a (by omega) s;rw[<-Ax]at a;have G:=xH a (by omega) t;rw[<-Ax]at a;have c:=V5 (k:=4) a (by omega) (by decide) (by decide) g;rw[<-Ax]at a;have d:=xJ a (by omega);rw[DQ]at a;rw[<-a]at d;unfold Du;rw[i,AJ];rw[show((1:Nat):Int)=1 from rfl]at j r;rw[show((4:Nat):Int)=4 from rfl]at l q c;rw[show((8:Nat):Int)=8 from rfl]at m n o;rw[j,AJ,l,AJ,m,AJ,n,AJ,o,AJ,q,AJ,r,AJ,F,AJ,G,AJ,c,AJ,d,AJ];obtain⟨b,u,v⟩:=CH (x:=e);have f:b=true:=v.2 h;subst f;dsimp only[len];rw[show((0:Int) !=0)=false by decide,cond_false,bne_self_eq_false,cond_false];rw[show(e.1,(e.2.1,(e.2.2.1,(e.2.2.2.1,(e.2.2.2.2.1,(e.2.2.2.2.2.1,((e.2.2.2.2.2.2.1.1,(e.2.2.2.2.2.2.1.2.1,(e.2.2.2.2.2.2.1.2.2.1,e.2.2.2.2.2.2.1.2.2.2))),e.2.2.2.2.2.2.2)))))))=e from rfl,u,AJ,D9,cond_false]
def YE{x p:Bf}{c:Bf×Int×Int}{k:Nat}(h:CS x p c)(o:x.length<=1099511627776)(q:1<=k)(m:k<=8):A2 (Bl c (k:Int)) λr=>CS x (p++Gf r.1 k) r.2/\(r.2.2.2=0->bo k r.1)/\(c.2.2≠0->r=(0,c)):=by
 obtain⟨s,i,e⟩:=c;obtain⟨j,l⟩:=h;subst j;refine AK (λd=>AA ⟨⟨rfl,λb=>absurd b d⟩,λb=>absurd b d,λ_=>rfl⟩) (λd=>?_);subst d;obtain⟨a,hr,n⟩:=l rfl;subst hr n;rw[Ad]at o;rw[bZ (by omega) (by omega) (by omega)];by_cases g:(k:Int)<=a.length
 ·rw[if_pos g,AJ,DP];obtain⟨q1,q2⟩:=lD (t:=a) (k:=k) (by omega) m;refine AA ⟨⟨rfl,λ_=>⟨a.drop k,?_,?_⟩⟩,λ_=>q1,λf=>absurd rfl f⟩
  ·simp_all
  ·dsimp only;rw[AY (by omega),Ad,B7];omega
 ·rw[if_neg g,AJ];exact AA ⟨⟨rfl,λb=>absurd (show(5:Int)=0 from b) (by decide)⟩,λb=>absurd (show(5:Int)=0 from b) (by decide),λf=>absurd rfl f⟩
def xB{x p:Bf}{c:Bf×Int×Int}{n:Int}(h:CS x p c)(l:x.length<=1099511627776)(hn:c.2.2=0->0<=n/\n<4294967296):A2 (Ei c n) λr=>CS x (p++r.1) r.2/\(r.2.2.2=0->(r.1.length:Int)=n/\c.2.2=0):=by
 obtain⟨s,f,e⟩:=c;obtain⟨g,i⟩:=h;subst g;unfold Ei;by_cases d:e=0
 ·subst d;obtain⟨a,hr,j⟩:=i rfl;obtain⟨o,t⟩:=hn rfl;subst hr j;obtain⟨m,rfl⟩:=Er o;rw[Ad]at l;rw[show wi (((p++a).length:Int)-(p.length:Int))=a.length by rw[Ad,AY (by omega)];omega];by_cases q:(m:Int)<=a.length
  ·rw[decide_eq_false (by omega),cond_false,AJ,show((0:Int) !=0)=false by decide,cond_false];have k:Ry (p++a) (wi (wi ((p.length:Int)+(m:Int))-(m:Int))) (wi ((p.length:Int)+(m:Int)))=some (a.take m):=by rw[AY (x:=(p.length:Int)+(m:Int)) (by omega),AY (by omega)];unfold Ry;rw[if_pos (by grind),show((p.length:Int)+(m:Int)-(m:Int)).toNat=p.length by omega,Jv,show((p.length:Int)+(m:Int)).toNat-p.length=m by omega]
   rw[k,AJ];refine AA ⟨⟨rfl,λ_=>⟨a.drop m,?_,?_⟩⟩,λ_=>⟨?_,by grind⟩⟩
   ·simp_all
   ·dsimp only;rw[AY (by omega),Ad,Cn];omega
   ·grind
  ·rw[decide_eq_true (by omega),cond_true,AJ,show((5:Int) !=0)=true by decide,cond_true];exact AA ⟨⟨rfl,λb=>absurd (show(5:Int)=0 from b) (by decide)⟩,λb=>absurd (show(5:Int)=0 from b) (by decide)⟩
 ·rw[beq_false_of_ne d,cond_false,bne_iff_ne.2 d,cond_true];exact AA ⟨⟨rfl,λb=>absurd b d⟩,λb=>absurd b d⟩
theorem w9{x p:Bf}{c:Bf×Int×Int}(h:CS x p c)(j:x.length<=1099511627776):A2 (Eh c ()) λr=>CS x (p++Rx r.1) r.2/\(r.2.2.2=0->HT r.1):=by
 refine AB (YE (k:=1) h j (by decide) (by decide)) λv o=>?_;obtain⟨⟨g,l⟩,s,z⟩:=o;refine AK (λd=>AA ⟨⟨g,λa=>absurd a d⟩,λa=>absurd a d⟩) (λd=>?_);obtain⟨f,hr,i⟩:=l d;have y:=(s d).1 (by decide);refine AS (λb=>AA ⟨⟨g,λ_=>⟨f,?_,?_⟩⟩,λ_=>⟨Cc _,.inr rfl⟩⟩) (λb=>?_)
 ·dsimp only;rw[b]at hr;exact hr
 ·dsimp only;rw[b]at i;exact i
 refine AC (λ_=>AA ⟨⟨g,λa=>absurd (show(4:Int)=0 from a) (by decide)⟩,λa=>absurd (show(4:Int)=0 from a) (by decide)⟩) (λn=>AB (xB (x:=x) (p:=p++Gf v.1 1) ⟨g,l⟩ j (λ_=>⟨by omega,by omega⟩)) λw q=>AA ?_);obtain⟨⟨t,A⟩,u⟩:=q;refine⟨⟨t,λa=>?_⟩,λa=>?_⟩
 ·dsimp only at a⊢;obtain⟨m,_⟩:=u a;have e:Rx (true,w.1)=Gf v.1 1++w.1:=by unfold Rx;rw[cond_true,m]
  grind
 ·dsimp only at a⊢;exact⟨by grind,.inl rfl⟩
def V4{x p a:Bf}{n:Int}{k:Nat}(c:x=p++(Gf n k++a))(f:x.length<=1099511627776)(e:1<=k)(d:k<=8)(hn:bo k n):Bl (x,((p.length:Int),0)) (k:Int)=some (n,(x,(((p++Gf n k).length:Int),0))):=by
 have b:=congrArg List.length c;simp only[Ad,B7]at b;unfold Bl;dsimp only;rw[show((0:Int) !=0)=false by decide,cond_false];conv=>lhs;arg 1;rw[c]
 rw[bZ (by grind) (by omega) (by omega),if_pos (by grind),AJ,DP,J5 (B7 _ _),jj d hn];rw[Ad,B7];rw[AY (by omega)];rfl
def xA{x p w a:Bf}(c:x=p++(w++a))(e:x.length<=1099511627776):Ei (x,((p.length:Int),0)) (w.length:Int)=some (w,(x,(((p++w).length:Int),0))):=by
 have b:=congrArg List.length c;simp at b;unfold Ei;rw[show decide (wi ((x.length:Int)-(p.length:Int))<(w.length:Int))=false from decide_eq_false (by rw[AY (by omega)];omega),cond_false];rw[AJ,show((0:Int) !=0)=false by decide,cond_false];dsimp only;have d:Ry x (wi (wi ((p.length:Int)+(w.length:Int))-(w.length:Int))) (wi ((p.length:Int)+(w.length:Int)))=some w:=by rw[AY (x:=(p.length:Int)+(w.length:Int)) (by omega),AY (by omega)];unfold Ry;rw[if_pos (by omega),c,show((p.length:Int)+(w.length:Int)-(w.length:Int)).toNat=p.length by omega,Jv,show((p.length:Int)+(w.length:Int)).toNat-p.length=w.length by omega,TK]
 rw[d,AJ,AY (by omega),Ad];rfl
def w8{x p a:Bf}{c:FD}(e:x=p++(Rx c++a))(f:x.length<=1099511627776)(j:HT c):Eh (x,((p.length:Int),0)) ()=some (c,(x,(((p++Rx c).length:Int),0))):=by
 obtain⟨b,d⟩:=c;obtain⟨h,i⟩:=j;dsimp only at h i;unfold Eh;cases b with
 |false=>
  have k:d=[]:=by grind
  subst k;rw[show(1:Int)=((1:Nat):Int)from rfl,V4 e f (by decide) (by decide) ⟨λ_=>by decide,by decide,by decide⟩];rfl
 |true=>have g:Rx (true,d)=Gf (d.length:Int) 1++d:=rfl;rw[g,Ax]at e;rw[g];rw[show(1:Int)=((1:Nat):Int)from rfl,V4 e f (by decide) (by decide) ⟨λ_=>by grind,by omega⟩,AJ];rw[show((0:Int) !=0)=false by decide,cond_false,show((d.length:Int)==255)=false by grind,cond_false,decide_eq_false (by omega),cond_false];rw[xA (by rw[e,Ax]) f,AJ,Ax]
def AAn{x:Bf}(a:x.length<=1099511627776):A2 (Il x) λr=>r.2=0->x=Bw r.1/\HT r.1.2.2.2.2.2.2.1.2.2.1/\HT r.1.2.2.2.2.2.2.1.2.2.2/\bo 4 (r.1.2.2.2.2.2.2.2.length:Int)/\Gs r.1=some true:=by
 unfold Il;have I:CS x [] (x,(0,0)):=⟨rfl,λ_=>⟨x,rfl,rfl⟩⟩
 refine AB (YE (k:=8) I a (by decide) (by decide)) λO y=>?_;refine AB (YE (k:=1) y.1 a (by decide) (by decide)) λP z=>?_;refine AB (YE (k:=4) z.1 a (by decide) (by decide)) λQ A=>?_;refine AB (YE (k:=8) A.1 a (by decide) (by decide)) λR B=>?_;refine AB (YE (k:=8) B.1 a (by decide) (by decide)) λS C=>?_;refine AB (YE (k:=8) C.1 a (by decide) (by decide)) λT D=>?_;refine AB (YE (k:=4) D.1 a (by decide) (by decide)) λU E=>?_;refine AB (YE (k:=1) E.1 a (by decide) (by decide)) λV F=>?_;refine Gr (w9 F.1 a) λq M o=>?_;refine Gr (w9 o.1 a) λs w p=>?_;refine AB (YE (k:=4) p.1 a (by decide) (by decide)) λj b=>?_;refine AB (xB (n:=j.1) b.1 a (λc=>?_)) λJ f=>?_
 ·have:=(b.2.1 c).1 (by decide);rw[show(256:Int)^4=4294967296 by decide]at this;exact this
 refine AK (λh=>AA λc=>absurd c h) (λh=>?_);refine AK (λ_=>AA λc=>absurd c (by decide)) (λG=>?_);refine Gr (LO) λK i _=>?_;refine AO (λ_=>AA λc=>absurd c (by decide)) (λH=>AA λ_=>?_);subst H;obtain⟨q11,d⟩:=f.2 h;have l:s.2.2.2=0:=U2 λe=>by have:=b.2.2 e;rw[this]at d;exact e d
 have u:=p.2 l;have L:q.2.2.2=0:=U2 λe=>by
  have:s=((false,[]),q.2):=by have:=w;unfold Eh Bl at this;rw[bne_iff_ne.2 e,cond_true,AJ,bne_iff_ne.2 e,cond_true]at this;injection this with this;exact this.symm
  rw[this]at l;exact e l
 have t:=o.2 L;obtain⟨g,m,N⟩:=f.1.2 h;have hr:g=[]:=by simp only[len]at G;have v:=congrArg List.length m;rw[Ad]at v;exact EA (by omega)
 subst hr;refine⟨?_,t,u,?_,i⟩
 ·rw[m];unfold Bw;dsimp only;rw[q11];simp only[Ax,CA,DQ]
 ·dsimp only;rw[q11];exact b.2.1 d
def AAm{e:AI}(h:Pd e):Il (Bw e)=some (e,0):=by
 obtain⟨s,t,H,w,y,z,A,B,C,D,E⟩:=h.cells;have I:=Y8 h;have g:bo 4 (e.2.2.2.2.2.2.2.length:Int):=⟨λ_=>by rw[show(256:Int)^4=4294967296 by decide];omega,by omega⟩
 have a:Bw e=[]++(Gf e.1 8++(Gf e.2.1 1++(Gf e.2.2.1 4++(Gf e.2.2.2.1 8++(Gf e.2.2.2.2.1 8++(Gf e.2.2.2.2.2.1 8++(Gf e.2.2.2.2.2.2.1.1 4++(Gf e.2.2.2.2.2.2.1.2.1 1++
 (Rx e.2.2.2.2.2.2.1.2.2.1++(Rx e.2.2.2.2.2.2.1.2.2.2++(Gf (e.2.2.2.2.2.2.2.length:Int) 4++(e.2.2.2.2.2.2.2++[])))))))))))):=by rw[DQ];rfl
 generalize Bw e=x at*;have i:Bl (x,(((0:Int)),0)) 8=_:=V4 (p:=[]) (k:=8) a (by omega) (by decide) (by decide) w;rw[CA]at i;rw[CA]at a;have j:=V4 (k:=1) a (by omega) (by decide) (by decide) y;rw[<-Ax]at a;have l:=V4 (k:=4) a (by omega) (by decide) (by decide) z;rw[<-Ax]at a;have m:=V4 (k:=8) a (by omega) (by decide) (by decide) A;rw[<-Ax]at a;have n:=V4 (k:=8) a (by omega) (by decide) (by decide) B;rw[<-Ax]at a;have o:=V4 (k:=8) a (by omega) (by decide) (by decide) C;rw[<-Ax]at a;have q:=V4 (k:=4) a (by omega) (by decide) (by decide) D;rw[<-Ax]at a;have r:=V4 (k:=1) a (by omega) (by decide) (by decide) E;rw[<-Ax]at a;have F:=w8 a (by omega) s;rw[<-Ax]at a;have G:=w8 a (by omega) t;rw[<-Ax]at a;have c:=V4 (k:=4) a (by omega) (by decide) (by decide) g;rw[<-Ax]at a;have d:=xA a (by omega);rw[DQ]at a;rw[<-a]at d;unfold Il;rw[i,AJ];rw[show((1:Nat):Int)=1 from rfl]at j r;rw[show((4:Nat):Int)=4 from rfl]at l q c;rw[show((8:Nat):Int)=8 from rfl]at m n o;rw[j,AJ,l,AJ,m,AJ,n,AJ,o,AJ,q,AJ,r,AJ,F,AJ,G,AJ,c,AJ,d,AJ];obtain⟨b,u,v⟩:=LO (x:=e);have f:b=true:=v h;subst f;dsimp only[len];rw[show((0:Int) !=0)=false by decide,cond_false,bne_self_eq_false,cond_false];rw[show(e.1,(e.2.1,(e.2.2.1,(e.2.2.2.1,(e.2.2.2.2.1,(e.2.2.2.2.2.1,((e.2.2.2.2.2.2.1.1,(e.2.2.2.2.2.2.1.2.1,(e.2.2.2.2.2.2.1.2.2.1,e.2.2.2.2.2.2.1.2.2.2))),e.2.2.2.2.2.2.2)))))))=e from rfl,u,AJ,D9,cond_false]
set_option maxHeartbeats 1000000
def sR{a v i:Int}(j:0≤i)(c:i<8)(g:0≤a)(b:a<2^(8*i.toNat))(k:0≤v)(d:v<256):
  0<=IntKind.wrap .u64 (((BitVec.toNat ((BitVec.ofInt 64 a)|||(BitVec.ofInt 64 (IntKind.wrap .u64 ((IntKind.wrap .u64 v)*(2^(min (Int.toNat (wi (8*i))) 64))))))):Nat):Int)/\
  IntKind.wrap .u64 (((BitVec.toNat ((BitVec.ofInt 64 a)|||(BitVec.ofInt 64 (IntKind.wrap .u64 ((IntKind.wrap .u64 v)*(2^(min (Int.toNat (wi (8*i))) 64))))))):Nat):Int)<2^(8*(wi (i+1)).toNat):=by
 have h:=qG j c g b k d;have e:wi (8*i)=8*i:=AY (by omega);have f:IntKind.wrap .u64 (wi (8*i))=wi (8*i):=by rw[e,TD];omega
 rw[f]at h;exact h
def y9{n:Int}(h:n<=1):(2:Int)^(8*n.toNat)<=256:=by
 have:n.toNat=0\/n.toNat=1:=by omega
 rcases this with h|h<;>rw[h]<;>decide
def IW{x:Bf×Int×Int}(h:x.1.length<=2199023255552):A2 (CT x) λr=>(r.2=0->0<=x.2.1/\x.2.1+x.2.2<=x.1.length/\(x.2.2<=4->0<=r.1/\r.1<4294967296)/\(x.2.2<=1->r.1<256))/\(r.2≠0->r.1=0):=by
 unfold CT;refine AC (λ_=>AA ⟨λb=>absurd b (by decide),λ_=>rfl⟩) (λw=>?_);refine AC (λ_=>AA ⟨λb=>absurd b (by decide),λ_=>rfl⟩) (λy=>?_);refine AC (λ_=>AA ⟨λb=>absurd b (by decide),λ_=>rfl⟩) (λz=>?_);refine AC (λ_=>AA ⟨λb=>absurd b (by decide),λ_=>rfl⟩) (λj=>?_);simp only[len]at j⊢;have k:=AY (x:=(x.1.length:Int)-x.2.1) (by omega);rw[k];refine AC (λ_=>AA ⟨λb=>absurd b (by decide),λ_=>rfl⟩) (λA=>?_);refine AB (P:=λr=>0<=r/\r<2^(8*x.2.2.toNat)) ?_ λD B=>AA ⟨λ_=>⟨by omega,by omega,λo=>?_,λc=>?_⟩,λb=>absurd rfl b⟩
 ·refine AM (λ(s:Int×Int)=>0<=s.2/\s.2<=x.2.2/\0<=s.1/\s.1<2^(8*s.2.toNat)) (λ(s:Int×Int)=>(x.2.2-s.2).toNat) ⟨Ah _,by dsimp only;omega,Ah _,by dsimp only;decide⟩ (λs p=>?_);obtain⟨t,C,f,g⟩:=p;unfold SG;refine AC (λq=>?_) (λq=>AA ⟨f,?_⟩)
  ·have l:=AY (x:=x.2.1+s.2) (by omega);rw[l];refine AB (Pk (by omega) (by omega)) λu c=>?_;refine AC (λd=>?_) (λ_=>AA ?_)
   ·exfalso;rw[AY (by omega)]at d;omega
   ·obtain⟨m,n⟩:=sR (a:=s.1) (v:=u) (i:=s.2) t (by omega) f g c.1 c.2;have e:=AY (x:=s.2+1) (by omega);exact⟨⟨by dsimp only;omega,by dsimp only;omega,m,n⟩,by dsimp only;omega⟩
  ·have:s.2=x.2.2:=by omega
   rw[<-this];exact g
 ·have:=uC o;dsimp only;rw[AY (by omega)];omega
 ·have:=y9 c;dsimp only;rw[AY (by omega)];omega
def jq(a:BitVec 32):0<=IntKind.wrap .u32 (((BitVec.toNat (a&&&BitVec.ofInt 32 15):Nat)):Int)/\IntKind.wrap .u32 (((BitVec.toNat (a&&&BitVec.ofInt 32 15):Nat)):Int)<16:=by
 rw[rF,iV];have h:a.toNat&&&(BitVec.ofInt 32 15).toNat<=(BitVec.ofInt 32 15).toNat:=fZ;have e:(BitVec.ofInt 32 15).toNat=15:=by decide
 rw[e]at h⊢;omega
theorem dR{x:Unit}:A2 (J9 x) λr=>True:=by
 unfold J9;refine AB (P:=λ_=>True) ?_ λv _=>AA trivial;refine AM (λ(s:Int×(Fin (15+1)->(Ty.int IntKind.u32).D))=>0<=s.1/\s.1<=16) (λ(s:Int×(Fin (15+1)->(Ty.int IntKind.u32).D))=>(16-s.1).toNat) ⟨Ah _,by decide⟩ (λs a=>?_);obtain⟨c,d⟩:=a;unfold S0;refine AC (λb=>?_) (λ_=>AA trivial);refine AB (P:=λ_=>True) ?_ λh _=>?_
 ·refine AM (λ(s:Int×Int)=>0<=s.2/\s.2<=4) (λ(s:Int×Int)=>(4-s.2).toNat) ⟨Ah _,by dsimp only;omega⟩ (λs a=>?_);obtain⟨f,g⟩:=a;unfold KP;have e:=AY (x:=s.2+1) (by omega);rw[e];refine AC (λb=>?_) (λ_=>AA trivial);refine AB (P:=λ_=>True) (AE (λ_=>AA trivial) (λ_=>AA trivial)) λv _=>AA ⟨⟨by dsimp only;omega,by dsimp only;omega⟩,by dsimp only;omega⟩
 have e:=AY (x:=s.1+1) (by omega);rw[e];refine AB (Dl c b) λi _=>?_;exact AB (Dl c b) λj _=>AA ⟨⟨by dsimp only;omega,by dsimp only;omega⟩,by dsimp only;omega⟩
theorem m6{x:Bf}(h:x.length<=2199023255552):A2 (Rd x) λr=>True:=by unfold Rd;refine AB dR λf _=>?_;refine AB (P:=λ_=>True) ?_ λv _=>AA trivial;refine AM (λ(s:Int×Int)=>0<=s.2/\s.2<=x.length) (λ(s:Int×Int)=>((x.length:Int)-s.2).toNat) ⟨Ah _,by dsimp only;omega⟩ (λs b=>?_);obtain⟨c,d⟩:=b;unfold SH;have e:=AY (x:=s.2+1) (by omega);rw[e];refine AC (λa=>?_) (λ_=>AA trivial);simp only[len]at a;refine AB (Pk c a) λg _=>?_;refine AB (Dl (jq _).1 (jq _).2) λi _=>?_;refine AB (Dl (jq _).1 (jq _).2) λj _=>?_;refine AB (Dl (jq _).1 (jq _).2) λk _=>?_;refine AB (Dl (jq _).1 (jq _).2) λl _=>AA ⟨⟨by dsimp only;omega,by dsimp only;omega⟩,by dsimp only;omega⟩
def W2{x:Bf×Int}(h:x.1.length<=2199023255552):A2 (FV x) λr=>r.2.2=0->r.1.length<=8392/\x.2+8+r.1.length=r.2.1/\0<=x.2/\r.2.1<=x.1.length:=by unfold FV;refine AC (λ_=>AA λa=>absurd a (by decide)) (λq=>?_);refine AC (λ_=>AA λa=>absurd a (by decide)) (λi=>?_);simp only[len]at i;refine AB (IW h) λe m=>?_;refine AK (λb=>AA λa=>absurd a b) (λc=>?_);obtain⟨a1,a2,a3,_⟩:=m.1 c;have a5:=a3 (by dsimp only;omega);dsimp only at a2;refine AC (λ_=>AA λa=>absurd a (by decide)) (λs=>?_);have j:=AY (x:=x.2+4) (by omega);have k:=AY (x:=x.2+4+e.1) (by omega);have l:=AY (x:=x.2+4+e.1+4) (by omega);rw[j,k,l];refine AB (IW h) λu n=>?_;refine AK (λb=>AA λa=>absurd a b) (λd=>?_);obtain⟨f,g,_⟩:=n.1 d;dsimp only at f g;refine AB (C3 (by omega) (by omega) (by omega)) λv o=>?_;refine AB (m6 (by have:=o.2;omega)) λw _=>?_;refine AK (λ_=>AA λa=>absurd a (by decide)) (λ_=>?_);refine AB (C3 (by omega) (by omega) (by omega)) λy p=>AA λ_=>?_;have t:=p.2;exact⟨by dsimp only;omega,by dsimp only;omega,by omega,by dsimp only;omega⟩
def cZ{x:Bf×Bf}:A2 (Ht x) λr=>True:=by unfold Ht Fx;refine AB (P:=λ_=>True) ?_ λv _=>AA trivial;refine AC (λa=>?_) (λ_=>AA trivial);simp only[len]at a;exact AB (C3 (Ah _) (by simp only[len];omega) (by simp only[len];omega)) λv _=>AA trivial
def RB(b:FT):Prop:=b.1.length<=2199023255552/\0<=b.2.1/\b.2.1<=b.1.length
def DH{b:FT}{x:Int}(h:RB b)(j:1<=x/\x<=8):A2 (Bl b x) λr=>RB r.2/\(x<=4->0<=r.1/\r.1<4294967296):=by
 obtain⟨a1,a2,a3⟩:=id h;unfold Bl;refine AK (λ_=>AA ⟨h,λ_=>by dsimp only;omega⟩) (λ_=>?_);refine AB (IW (by exact a1)) λf a=>?_;dsimp only at a;refine AB (P:=λr=>RB r) ?_ λk e=>AA ⟨e,λd=>?_⟩
 ·refine AS (λc=>AA ?_) (λ_=>AA ⟨a1,a2,a3⟩);obtain⟨g,i,_⟩:=a.1 c;rw[AY (by omega)];exact⟨a1,by dsimp only;omega⟩
 ·by_cases c:f.2=0
  ·exact(a.1 c).2.2.1 d
  ·have:=a.2 c;dsimp only;omega
def S2{b:FT}{x:Int}(h:RB b)(q:0<=x/\x<4294967296):A2 (Ei b x) λr=>RB r.2:=by
 obtain⟨a1,a2,a3⟩:=id h;unfold Ei;refine AS (λa=>?_) (λc=>?_)
 ·have k:=AY (x:=len b.1-b.2.1) (by simp only[len];omega);rw[k];refine AB (P:=λr=>RB r/\(r.2.2=0->r.2.1+x<=r.1.length)) ?_ λf n=>?_
  ·refine AC (λ_=>AA ⟨⟨a1,a2,a3⟩,λa=>absurd a (by dsimp only;decide)⟩) (λo=>AA ⟨h,λ_=>?_⟩);simp only[len]at o;omega
  ·obtain⟨⟨e,g,i⟩,j⟩:=n;refine AK (λ_=>AA ⟨e,g,i⟩) (λd=>?_);have p:=j d;have l:=AY (x:=f.2.1+x) (by omega);have m:=AY (x:=f.2.1+x-x) (by omega);rw[l,m];exact AB (C3 (by omega) (by omega) (by omega)) λs _=>AA ⟨e,by dsimp only;omega⟩
 ·exact AK (λ_=>AA h) (λa=>absurd a c)
def S1{b:FT}{x:Unit}(h:RB b):A2 (Eh b x) λr=>RB r.2:=by unfold Eh;refine AB (DH h (by decide)) λd a=>?_;refine AK (λ_=>AA a.1) (λ_=>?_);refine AS (λ_=>AA a.1) (λ_=>?_);have q:=a.2 (by decide);refine AC (λ_=>AA a.1) (λ_=>?_);exact AB (S2 a.1 q) λe c=>AA c
def jS{x:Bf}(h:x.length<=2199023255552):A2 (Il x) λr=>True:=by unfold Il;refine AB (DH (b:=(x,(0,0))) ⟨h,Ah _,by dsimp only;omega⟩ (by decide)) λs c=>?_;refine AB (DH c.1 (by decide)) λt d=>?_;refine AB (DH d.1 (by decide)) λu f=>?_;refine AB (DH f.1 (by decide)) λv g=>?_;refine AB (DH g.1 (by decide)) λw i=>?_;refine AB (DH i.1 (by decide)) λy j=>?_;refine AB (DH j.1 (by decide)) λz k=>?_;refine AB (DH k.1 (by decide)) λA l=>?_;refine AB (S1 l.1) λB m=>?_;refine AB (S1 m) λC n=>?_;refine AB (DH n (by decide)) λo a=>?_;refine AB (S2 a.1 (a.2 (by decide))) λp e=>?_;refine AK (λ_=>AA trivial) (λ_=>?_);refine AK (λ_=>AA trivial) (λ_=>?_);refine AB LO λq _=>?_;exact AO (λ_=>AA trivial) (λ_=>AA trivial)
def JO{x:Int×Int}:A2 (EP x) λr=>True:=by unfold EP EL;refine A4 (A4 ?_);refine AE (λ_=>AE (λ_=>AA trivial) (λ_=>AA trivial)) (λ_=>AE (λ_=>AA trivial) (λ_=>?_));exact AC (λ_=>AA trivial) (λ_=>AC (λ_=>AA trivial) (λ_=>AA trivial))
theorem dQ{x:List Int}(h:x.length<=16777216):A2 (JY x) λr=>True:=by unfold JY;refine AB (P:=λ_=>True) ?_ λv _=>Az (λ_ _=>AA trivial) (λ_ _=>AA trivial);refine AM (λ(s:Int)=>0<=s/\s<=x.length) (λ(s:Int)=>((x.length:Int)-s).toNat) ⟨Ah _,by omega⟩ (λs b=>?_);obtain⟨c,d⟩:=b;unfold JH;have e:=AY (x:=s+1) (by omega);rw[e];refine AC (λa=>?_) (λ_=>AA trivial);simp only[len]at a;refine AB (AD c a) λf _=>?_;exact AK (λ_=>AA trivial) (λ_=>AA ⟨⟨by omega,by omega⟩,by omega⟩)
def gy{x:AU}:A2 (LP x) λr=>r=true->1<=x.1/\x.1<=x.2.1/\x.2.1<=1099511627776/\0<=x.2.2.1/\x.2.2.1<=x.2.2.2.1/\x.2.2.2.1<64/\0<=x.2.2.2.2.1/\x.2.2.2.2.1<=8:=by
 unfold LP;repeat' with_reducible first|apply AC<;>intro a|apply AE<;>intro a|apply AA
 all_goals grind
def gu{x:AI}:A2 (A7 x) λr=>True:=by unfold A7;exact AS (λ_=>AA trivial) (λ_=>AA trivial)
def kg{x:AU×AI}:A2 (Oh x) λr=>True:=by unfold Oh;refine AB gu λv _=>?_;refine AE (λ_=>?_) (λ_=>AA trivial);refine AC (λ_=>?_) (λ_=>AA trivial);refine AC (λ_=>?_) (λ_=>AA trivial);exact AC (λ_=>AA trivial) (λ_=>AA trivial)
def jT{x:AI×AI}:A2 (Nk x) λr=>True:=by unfold Nk;refine AB JO λ_ _=>?_;refine AB JO λ_ _=>?_;exact AB (dQ (by simp)) λ_ _=>AA trivial
theorem lw{x:AU}:A2 (SX x) λr=>r=true->YK x:=by
 unfold SX;refine AB gy λl f=>?_;refine AO (λ_=>AA λb=>by cases b) (λa=>?_);have hn:=f a;refine AC (λ_=>AA λb=>by cases b) (λh=>?_);simp only[len]at h;have q:YK x:=⟨hn.1,hn.2.1,hn.2.2.1,hn.2.2.2.1,hn.2.2.2.2.1,hn.2.2.2.2.2.1,hn.2.2.2.2.2.2.1,hn.2.2.2.2.2.2.2,by omega⟩
 refine AB (P:=λ_=>True) ?_ λv _=>Az (λ_ _=>AA λ_=>q) (λ_ _=>AA λ_=>q);refine AM (λ(s:Int)=>0<=s/\s<=x.2.2.2.2.2.length) (λ(s:Int)=>((x.2.2.2.2.2.length:Int)-s).toNat) ⟨Ah _,by omega⟩ (λs g=>?_);obtain⟨j,k⟩:=g;unfold Qv;have e:=AY (x:=s+1) (by omega);have d:=AY (x:=s-1) (by omega);rw[e,d];refine AC (λa=>?_) (λ_=>AA trivial);simp only[len]at a;have c:((0<=s+1/\s+1<=x.2.2.2.2.2.length)/\((x.2.2.2.2.2.length:Int)-(s+1)).toNat<((x.2.2.2.2.2.length:Int)-s).toNat):=⟨⟨by omega,by omega⟩,by omega⟩
 refine AB (AD j a) λm _=>?_;refine AB LO λn _=>?_;refine AO (λ_=>AA trivial) (λ_=>?_);refine AB kg λo _=>?_;refine AO (λ_=>AA trivial) (λ_=>?_);refine AS (λ_=>AC (λ_=>AA trivial) (λ_=>AA c)) (λi=>?_);refine AB (AD (by omega) (by omega)) λp _=>?_;refine AC (λ_=>AC (λ_=>AA trivial) (λ_=>AA c)) (λ_=>?_);refine AB (AD (by omega) (by omega)) λt _=>?_;refine AB jT λu _=>?_;refine AC (λ_=>AA trivial) (λ_=>?_);exact AK (λ_=>AA trivial) (λ_=>AA c)
def kf{x:Bf}(h:x.length<=2199023255552):A2 (Jt x) λr=>r.2=0->YK r.1:=by
 unfold Jt;refine AB (W2 (by exact h)) λy o=>?_;refine AK (λb=>AA λa=>absurd a b) (λi=>?_);obtain⟨a1,a2,a3,a4⟩:=o i;dsimp only at a1 a2 a3 a4;refine AK (λ_=>AA λa=>absurd a (by decide)) (λp=>?_);refine AB cZ λG _=>?_;refine AO (λ_=>AA λa=>absurd a (by decide)) (λ_=>?_);have d:y.1.length<=2199023255552:=by omega
 refine AB (IW d) λH _=>?_;refine AB (IW d) λI _=>?_;refine AB (IW d) λJ _=>?_;refine AB (IW d) λK _=>?_;refine AB (IW d) λL _=>?_;refine AB (IW d) λl _=>?_;refine AO (λ_=>AA λa=>absurd a (by decide)) (λq=>?_);have t:l.1<=4096:=by simpa using q
 refine AB (P:=λr=> ∀u,r= .inl u->u.1≠0) ?_ λr hr=>Az (λu c=>AA λa=>absurd a (hr u c)) (λu c=>?_)
 ·refine AM (λ(s:Int×(Int×((List AI)×(Int×(Int×(Int×(Int×(Int×AU))))))))=>0<=s.2.1/\(s.2.1<=l.1\/s.2.1=0)/\s.2.2.1.length<=s.2.1) (λ(s:Int×(Int×((List AI)×(Int×(Int×(Int×(Int×(Int×AU))))))))=>(l.1-s.2.1).toNat) ⟨Ah _,.inr rfl,by simp⟩ (λs w=>?_);obtain⟨D,E,F⟩:=w;unfold Jz;refine AC (λm=>?_) (λ_=>AA λu c=>by cases c);have e:=AY (x:=s.2.1+1) (by omega);rw[e];refine AB (W2 (by exact h)) λM v=>?_;refine AK (λb=>AA λu c=>by cases c;exact b) (λj=>?_);have C:=(v j).1;refine AB (jS (by omega)) λz _=>?_;refine AK (λb=>AA λu c=>by cases c;exact b) (λn=>?_);refine AB (Ac (by simp;omega)) λA f=>AA ?_;have k:=f.2.1;simp only[BC,BH]at k;exact⟨⟨by dsimp only;omega,.inl (by dsimp only;omega),by dsimp only;omega⟩,by dsimp only;omega⟩
 ·refine AC (λ_=>AA λa=>absurd a (by decide)) (λ_=>?_);refine AB lw λB g=>?_;exact AO (λ_=>AA λa=>absurd a (by decide)) (λm=>AA λ_=>g m)
abbrev EN:=AI
def lE(a b:EN):Bool:=decide (a.1<b.1)
def oX(x y:Int):EP (x,y)=some (if x<y then-1 else if x>y then 1 else 0):=by
 unfold EP EL;simp only[bne_self_eq_false,AJ,cond_false];by_cases a:x<y
 ·simp[a]
 ·by_cases b:x>y
  ·simp[a,b]
  ·simp[a,b]
def pA(a b:EN): ∃v,CQ (a,b)=some v/\decide (v<0)=lE a b:=by
 refine⟨_,by unfold CQ;rw[oX];rfl,?_⟩;unfold lE;by_cases c:a.1<b.1
 ·simp[c]
 ·by_cases d:a.1>b.1
  ·simp[c,d]
  ·simp[c,d]
def T9{d:Array EN}{i:Int}{k:Nat}(a:i=k)(b:k<d.size):ix d.toList i=some d[k]! :=by subst a;unfold ix;rw[if_pos (by omega)];simp[b]
def AAs{d:Array EN}{i:Int}{k:Nat}(a:i=k)(x:EN):BZ d.toList i x=(d.setIfInBounds k x).toList:=by subst a;unfold BZ;simp
def gJ{d:Array EN}{i j:Int}{a b:Nat}(c:i=a)(e:j=b):BZ (BZ d.toList i d[b]!) j d[a]! =(Sort.swp d a b).toList:=by rw[AAs c,AAs e];rfl
theorem O8{x:Int}(h:0<=x/\x<=1099511627776):wi x=x:=AY ⟨by omega,by omega⟩
def fK(k:Nat): ∀(j:Nat) (d:Array EN),(Sort.insInner lE k j d).size=d.size
 |0,_=>rfl
 |j+1,d=>by
  unfold Sort.insInner;split
  ·rw[fK k j,Sort.size_swp]
  ·rfl
def wY{a b:Int}{k:Nat}(h:a=k): ∀(j:Nat) (d:Array EN),j<d.size->d.size<=16777216->Ae (Dw (a,b)) ((j:Int),d.toList)=some (Sort.insInner lE k j d).toList
 |0,d,hj,hd=>by
  rw[Cg];have:decide (((0:Nat):Int)>a)=false:=by simp;omega
  simp only[Dw,this,cond_false,AJ,Sum.elim_inl];rfl
 |j+1,d,hj,hd=>by
  rw[Cg];have e:wi (((j+1:Nat):Int)-1)=(j:Int):=by rw[O8 (by omega)];omega
  obtain⟨v,f,g⟩:=pA d[j+1]! d[j]!;have i:ix d.toList ((j+1:Nat):Int)=some d[j+1]! :=T9 rfl hj;have l:ix d.toList (j:Int)=some d[j]! :=T9 rfl (by omega);have m:ix (BZ d.toList ((j+1:Nat):Int) d[j]!) (j:Int)=some (d.setIfInBounds (j+1) d[j]!)[j]! :=by rw[AAs rfl];exact T9 rfl (by simp;omega)
  simp only[Dw,e,i,l,m,AJ,f,g,gJ rfl rfl];unfold Sort.insInner;by_cases c:j+1>k
  ·have:decide (((j+1:Nat):Int)>a)=true:=by simp;omega
   rw[this];cases n:lE d[j+1]! d[j]! with
   |true=>simp only[cond_true,c,decide_true,Pe,if_true,AJ,VQ];exact wY h j _ (by rw[Sort.size_swp];omega) (by rw[Sort.size_swp];omega)
   |false=>simp[c]
  ·have:decide (((j+1:Nat):Int)>a)=false:=by simp;omega
   rw[this];simp[c]
def yj{a b:Int}{k m:Nat}(j:a=k)(p:b=m): ∀(n i:Nat) (d:Array EN),m-i<=n->m<=d.size->d.size<=16777216->Ae (C5 (a,b)) ((i:Int),d.toList)=some (Sort.insOuter lE k m i d).toList:=by
 intro n;induction n with
 |zero=>
  intro i d g h c;rw[Cg,Sort.insOuter];have:decide ((i:Int)<b)=false:=by simp;omega
  simp only[C5,this,cond_false];rw[if_neg (by omega)]
 |succ n o=>
  intro i d g h c;rw[Cg,Sort.insOuter];by_cases e:i<m
  ·have:decide ((i:Int)<b)=true:=by simp;omega
   have f:wi ((i:Int)+1)=((i+1:Nat):Int):=by rw[O8 (by omega)];omega
   have l:=fK k i d;simp only[C5,this,cond_true,wY j i d (by omega) c,AJ,f];rw[if_pos e];exact o (i+1) _ (by omega) (by omega) (by omega)
  ·have:decide ((i:Int)<b)=false:=by simp;omega
   simp only[C5,this,cond_false];rw[if_neg e]
def AAZ{l:List EN}{a b:Int}{k m:Nat}(d:a=k)(e:b=m)(g:m<=l.length)(h:k<=m)(f:l.length<=16777216):DW l (a,b)=some (Sort.insertionSort lE l.toArray k m).toList:=by
 unfold DW;have c:wi (a+1)=((k+1:Nat):Int):=by rw[O8 (by omega)];omega
 dsimp only;rw[c];have:=yj d e (m-(k+1)) (k+1) l.toArray (by omega) (by simpa using g) (by simpa using f);rw[show l.toArray.toList=l from rfl]at this;rw[this];rfl
def tn{d:Array EN}{i j:Int}{a b:Nat}{x:EN}(e:j=b)(c:b<d.size):ix (BZ d.toList i x) j=some (d.setIfInBounds i.toNat x)[b]! :=by unfold BZ;rw[<-Array.toList_setIfInBounds];exact T9 e (by simpa using c)
def xO: ∀(n i j:Nat) (d:Array EN),j-i<=n->(i<j->j<d.size)->i<=16777216->j<=16777216->Ae DB ((i:Int),((j:Int),d.toList))=some (Sort.reverseLoop i j d).toList:=by
 intro n;induction n with
 |zero=>
  intro i j d h e k l;rw[Cg,Sort.reverseLoop];have:decide ((i:Int)<(j:Int))=false:=by simp;omega
  simp only[DB,this,cond_false];rw[if_neg (by omega)]
 |succ n q=>
  intro i j d h e k l;rw[Cg,Sort.reverseLoop];by_cases c:i<j
  ·have:decide ((i:Int)<(j:Int))=true:=by simp;omega
   have b:=e c;have f:wi ((i:Int)+1)=((i+1:Nat):Int):=by rw[O8 (by omega)];omega
   have g:wi ((j:Int)-1)=((j-1:Nat):Int):=by rw[O8 (by omega)];omega
   have m:ix d.toList (i:Int)=some d[i]! :=T9 rfl (by omega);have o:ix d.toList (j:Int)=some d[j]! :=T9 rfl b;have p:ix (BZ d.toList (i:Int) d[j]!) (j:Int)=some (d.setIfInBounds (i:Int).toNat d[j]!)[j]! :=tn (a:=i) rfl b;simp only[DB,this,cond_true,m,o,p,AJ,f,g,gJ rfl rfl];rw[if_pos c];exact q (i+1) (j-1) _ (by omega) (by rw[Sort.size_swp];omega) (by omega) (by omega)
  ·have:decide ((i:Int)<(j:Int))=false:=by simp;omega
   simp only[DB,this,cond_false];rw[if_neg c]
def AA1{l:List EN}{a b:Int}{k m:Nat}(d:a=k)(e:b=m)(f:k<m)(h:m<=l.length)(g:l.length<=16777216):Dd l (a,b)=some (Sort.reverseRange l.toArray k m).toList:=by
 unfold Dd;have c:wi (b-1)=((m-1:Nat):Int):=by rw[O8 (by omega)];omega
 dsimp only;rw[c,d];have:=xO (m-1-k) k (m-1) l.toArray (by omega) (λ_=>by simp;omega) (by omega) (by omega);rw[show l.toArray.toList=l from rfl]at this;rw[this];rfl
def jm(b first:Nat): ∀(n a:Nat) (d:Array EN),b-a<=n->(Sort.siftDown lE b first a d).size=d.size:=by
 intro n;induction n with
 |zero=>intro a d h;rw[Sort.siftDown,dif_pos (by omega)]
 |succ n c=>
  intro a d h;rw[Sort.siftDown];split
  ·rfl
  ·split
   ·split
    ·rfl
    ·split
     ·rw[c _ _ (by omega),Sort.size_swp]
     ·rfl
   ·split
    ·rfl
    ·rw[c _ _ (by omega),Sort.size_swp]
def vJ{hi first:Nat}(x:Int): ∀(n b:Nat) (d:Array EN),hi-b≤n→first+hi≤d.size→d.size≤16777216→b≤16777216→
  ∃r,Ae (Cy (x,((hi:Int),(first:Int)))) ((b:Int),d.toList)=some r/\Sum.elim (λu=>u) (λu=>u) r=(Sort.siftDown lE hi first b d).toList:=by
 intro n;induction n with
 |zero=>
  intro b d D E F G;rw[Cg,Sort.siftDown,dif_pos (by omega)];have k:wi (2*(b:Int))=2*(b:Int):=O8 (by omega);have l:wi (2*(b:Int)+1)=2*(b:Int)+1:=O8 (by omega);have:decide (2*(b:Int)+1>=(hi:Int))=true:=by simp;omega
  refine⟨.inl d.toList,by simp only[Cy,k,l,this,cond_true],rfl⟩
 |succ n K=>
  intro b d D E F G;rw[Cg,Sort.siftDown];have k:wi (2*(b:Int))=2*(b:Int):=O8 (by omega);have l:wi (2*(b:Int)+1)=2*(b:Int)+1:=O8 (by omega);by_cases w:2*b+1>=hi
  ·have:decide (2*(b:Int)+1>=(hi:Int))=true:=by simp;omega
   rw[dif_pos w];exact⟨.inl d.toList,by simp only[Cy,k,l,this,cond_true],rfl⟩
  ·rw[dif_neg w];have I:decide (2*(b:Int)+1>=(hi:Int))=false:=by simp;omega
   have y:wi (2*(b:Int)+1+1)=2*(b:Int)+1+1:=O8 (by omega);have z:wi ((first:Int)+(2*(b:Int)+1))=((first+(2*b+1):Nat):Int):=by rw[O8 (by omega)];omega
   have A:wi (((first+(2*b+1):Nat):Int)+1)=((first+(2*b+1)+1:Nat):Int):=by rw[O8 (by omega)];omega
   have B:wi ((first:Int)+(b:Int))=((first+b:Nat):Int):=by rw[O8 (by omega)];omega
   obtain⟨c,H,t,e,i⟩: ∃c:Nat,(c=2*b+1∨c=2*b+2)∧c<hi∧(if(decide (2*b+1+1<hi)&&lE d[first+(2*b+1)]! d[first+(2*b+1)+1]!)=true then c=2*b+2 else c=2*b+1)∧
     ((bif (decide (2*(b:Int)+1+1<(hi:Int)))then
      Option.bind (ix d.toList ((first+(2*b+1):Nat):Int)) λO=>
      Option.bind (ix d.toList ((first+(2*b+1):Nat):Int)) λL=>
      Option.bind (ix d.toList ((first+(2*b+1)+1:Nat):Int)) λP=>
      Option.bind (ix d.toList ((first+(2*b+1)+1:Nat):Int)) λM=>
      Option.bind (CQ (L,M)) λN=>
      bif (decide (N<0))then some (2*(b:Int)+1+1)else some (2*(b:Int)+1)
     else some (2*(b:Int)+1)):Option Int)=some (c:Int):=by
    by_cases h:2*b+1+1<hi
    ·have f:decide (2*(b:Int)+1+1<(hi:Int))=true:=by simp;omega
     obtain⟨v,m,o⟩:=pA d[first+(2*b+1)]! d[first+(2*b+1)+1]!;have q:ix d.toList ((first+(2*b+1):Nat):Int)=some d[first+(2*b+1)]! :=T9 rfl (by omega);have s:ix d.toList ((first+(2*b+1)+1:Nat):Int)=some d[first+(2*b+1)+1]! :=T9 rfl (by omega);cases g:lE d[first+(2*b+1)]! d[first+(2*b+1)+1]! with
     |true=>refine⟨2*b+2,.inr rfl,by omega,by simp[h,g],?_⟩;simp only[f,cond_true,q,s,AJ,m,o,g];exact congrArg some (by omega)
     |false=>refine⟨2*b+1,.inl rfl,by omega,by simp[g],?_⟩;simp only[f,cond_true,q,s,AJ,m,o,g,cond_false];exact congrArg some (by omega)
    ·have f:decide (2*(b:Int)+1+1<(hi:Int))=false:=by simp;omega
     refine⟨2*b+1,.inl rfl,by omega,by simp[h],?_⟩;simp only[f,cond_false];exact congrArg some (by omega)
   have C:wi ((first:Int)+(c:Int))=((first+c:Nat):Int):=by rw[O8 (by omega)];omega
   have q:ix d.toList ((first+b:Nat):Int)=some d[first+b]! :=T9 rfl (by omega);have s:ix d.toList ((first+c:Nat):Int)=some d[first+c]! :=T9 rfl (by omega);have J:ix (BZ d.toList ((first+b:Nat):Int) d[first+c]!) ((first+c:Nat):Int)=some (d.setIfInBounds ((first+b:Nat):Int).toNat d[first+c]!)[first+c]! :=tn (a:=first+b) rfl (by omega);obtain⟨v,m,o⟩:=pA d[first+b]! d[first+c]!;have body:Cy (x,((hi:Int),(first:Int))) ((b:Int),d.toList)=bif !lE d[first+b]! d[first+c]! then some (.done (.inr d.toList))else some (.next ((c:Int),(Sort.swp d (first+b) (first+c)).toList)):=by simp only[Cy,k,l,y,z,A,B,I,cond_false,i,AJ,C,q,s,J,m,o,gJ rfl rfl]
   rw[body];have j:=K c (Sort.swp d (first+b) (first+c)) (by omega) (by rw[Sort.size_swp];omega) (by rw[Sort.size_swp];omega) (by omega);by_cases p:(decide (2*b+1+1<hi)&&lE d[first+(2*b+1)]! d[first+(2*b+1)+1]!)=true
   ·rw[if_pos p]at e;subst e;rw[if_pos p];cases g:lE d[first+b]! d[first+(2*b+2)]! with
    |true=>simp only[D9,cond_false,F3,if_false];rw[dif_pos t];exact j
    |false=>simp only[TM,cond_true,if_true];exact⟨_,rfl,rfl⟩
   ·rw[if_neg p]at e;subst e;rw[if_neg p];cases g:lE d[first+b]! d[first+(2*b+1)]! with
    |true=>simp only[D9,cond_false,F3,if_false];exact j
    |false=>simp only[TM,cond_true,if_true];exact⟨_,rfl,rfl⟩
def uJ{d:Array EN}{root a first:Nat}(b:first+a<=d.size)(c:d.size<=16777216)(e:root<=16777216):DT d.toList ((root:Int),((a:Int),(first:Int)))=some (Sort.siftDown lE a first root d).toList:=by
 unfold DT;obtain⟨r,q1,q2⟩:=vJ (hi:=a) (first:=first) (root:Int) (a-root) root d (Aj _) b c e;dsimp only;rw[q1];cases r with
 |inl u=>exact congrArg some q2
 |inr u=>exact congrArg some q2
theorem lz{hi first:Nat}: ∀(k:Nat) (d:Array EN),first+hi≤d.size→d.size≤16777216→k≤16777216→
  Ae (EY ((first:Int),((first+hi:Nat):Int))) ((k:Int)-1,d.toList)=some (Sort.heapBuild lE hi first k d).toList
 |0,d,h1,h2,h3=>by
  rw[Cg];have:decide ((((0:Nat):Int)-1)>=0)=false:=by simp
  simp only[EY,this,cond_false];rfl
 |k+1,d,h1,h2,h3=>by
  rw[Cg];have a:((k+1:Nat):Int)-1=(k:Int):=by omega
  have b:wi (((first+hi:Nat):Int)-(first:Int))=(hi:Int):=by rw[O8 (by omega)];omega
  have c:wi ((k:Int)-1)=(k:Int)-1:=AY ⟨by omega,by omega⟩;have:decide ((k:Int)>=0)=true:=by simp
  have f:=jm hi first (hi-k) k d (Aj _)
  have e:Nat.beq (List.length (Sort.siftDown lE hi first k d).toList) (List.length d.toList)=true:=by simp[f]
  simp only[EY,a,this,cond_true,b,uJ h1 h2 (by omega:k<=16777216),AJ,e,c];exact lz k _ (by omega) (by omega) (by omega)
theorem qK{first:Nat}(b:Int): ∀(k:Nat) (d:Array EN),first+k≤d.size→d.size≤16777216→
  Ae (EZ ((first:Int),b)) ((k:Int)-1,d.toList)=some (Sort.heapPop lE first k d).toList
 |0,d,h1,h2=>by
  rw[Cg];have:decide ((((0:Nat):Int)-1)>=0)=false:=by simp
  simp only[EZ,this,cond_false];rfl
 |k+1,d,h1,h2=>by
  rw[Cg];have c:((k+1:Nat):Int)-1=(k:Int):=by omega
  have e:wi ((first:Int)+(k:Int))=((first+k:Nat):Int):=by rw[O8 (by omega)];omega
  have f:wi ((k:Int)-1)=(k:Int)-1:=AY ⟨by omega,by omega⟩;have:decide ((k:Int)>=0)=true:=by simp
  have l:ix d.toList ((first+k:Nat):Int)=some d[first+k]! :=T9 rfl (by omega);have m:ix d.toList (first:Int)=some d[first]! :=T9 rfl (by omega);have n:ix (BZ d.toList (first:Int) d[first+k]!) ((first+k:Nat):Int)=some (d.setIfInBounds (first:Int).toNat d[first+k]!)[first+k]! :=tn (a:=first) rfl (by omega);have j:(Sort.swp d first (first+k)).size=d.size:=Sort.size_swp _ _ _;have i:=jm k first (k-0) 0 (Sort.swp d first (first+k)) (Aj _)
  have g:Nat.beq (List.length (Sort.siftDown lE k first 0 (Sort.swp d first (first+k))).toList) (List.length d.toList)=true:=by simp[i,j]
  have h:DT (Sort.swp d first (first+k)).toList (0,((k:Int),(first:Int)))=some (Sort.siftDown lE k first 0 (Sort.swp d first (first+k))).toList:=uJ (root:=0) (by omega) (by omega) (by omega);simp only[EZ,c,this,cond_true,e,l,m,n,AJ,gJ rfl rfl,h,g,f];exact qK b k _ (by omega) (by omega)
def V2(a first:Nat): ∀(k:Nat) (d:Array EN),(Sort.heapBuild lE a first k d).size=d.size
 |0,_=>rfl
 |k+1,d=>by unfold Sort.heapBuild;rw[V2 a first k,jm a first _ k d (Aj _)]
theorem yg{l:List EN}{a b:Int}{k m:Nat}(h:a=k)(i:b=m)(o:k<=m)(d:m<=l.length)(c:l.length<=16777216):D5 l (a,b)=some (Sort.heapSort lE l.toArray k m).toList:=by
 subst h i;obtain⟨n,rfl⟩: ∃n,m=k+n:=⟨m-k,by omega⟩
 unfold D5;have e:wi (((k+n:Nat):Int)-(k:Int))=(n:Int):=by rw[O8 (by omega)];omega
 have f:wi ((n:Int)-1)=(n:Int)-1:=AY ⟨by omega,by omega⟩;have g:wi (Int.tdiv ((n:Int)-1) 2)=(((n-1)/2+1:Nat):Int)-1:=by
  rcases Q6 n with rfl|j
  ·rfl
  ·have:((n:Int)-1).tdiv 2=(((n-1)/2:Nat):Int):=by rw[show(n:Int)-1=((n-1:Nat):Int) by omega];rfl
   rw[this,O8 (by omega)];omega
 dsimp only;rw[e,f,g];have q1:=lz (hi:=n) (first:=k) ((n-1)/2+1) l.toArray (by simpa using d) (by simpa using c) (by omega);rw[show l.toArray.toList=l from rfl]at q1;rw[q1];have q2:=qK (first:=k) ((k+n:Nat):Int) n (Sort.heapBuild lE n k ((n-1)/2+1) l.toArray) (by rw[V2];simpa using d) (by rw[V2];simpa using c);rw[AJ,q2];unfold Sort.heapSort;rw[show k+n-k=n by omega];rfl
def iH{body:Int→Option (Step Int Int)}{p:EN→Bool}{d:Array EN}{j:Nat}(b: ∀i:Nat,i≤j+1→body i=some (if(decide (i≤j)&&p d[i]!)=true then .next ((i+1:Nat):Int)else .done (i:Int))):
  ∀n i:Nat,j+1-i<=n->i<=j+1->Ae body i=some ((Sort.scanUp p d j i:Nat):Int):=by
 intro n;induction n with
 |zero=>
  intro i c a;rw[Cg,b i a,Sort.scanUp];have: ¬(decide (i<=j)&&p d[i]!)=true:=by grind
  rw[if_neg this,if_neg this]
 |succ n e=>
  intro i c a;rw[Cg,b i a,Sort.scanUp];by_cases h:(decide (i<=j)&&p d[i]!)=true
  ·grind
  ·rw[if_neg h,if_neg h]
def VE{body:Int→Option (Step Int Int)}{p:EN→Bool}{d:Array EN}{i N:Nat}(b:1≤i)(a: ∀j:Nat,i≤j+1→j<N→body j=some (if(decide (i≤j)&&p d[j]!)=true then .next ((j:Int)-1)else .done (j:Int))):
  ∀j:Nat,i<=j+1->j<N->Ae body j=some ((Sort.scanDown p d i j:Nat):Int)
 |0,h1,h2=>by
  rw[Cg,a 0 h1 h2,Sort.scanDown];have: ¬(decide (i<=0)&&p d[0]!)=true:=by grind
  rw[if_neg this]
 |j+1,h1,h2=>by
  rw[Cg,a (j+1) h1 h2,Sort.scanDown];by_cases h:(decide (i<=j+1)&&p d[j+1]!)=true
  ·rw[if_pos h,if_pos h];have:i<=j+1:=by grind
   have e:((j+1:Nat):Int)-1=(j:Int):=by omega
   rw[e];exact VE b a j (by omega) (by omega)
  ·rw[if_neg h,if_neg h]
def ud(i j:Nat):decide ((i:Int)<=(j:Int))=decide (i<=j):=by simp
def re(i j:Nat):decide ((i:Int)>(j:Int))=decide (i>j):=by simp
def k9{i:Nat}(h:i<=16777216):wi ((i:Int)+1)=((i+1:Nat):Int):=by rw[O8 (by omega)];omega
theorem rE{i:Nat}(h:i<=16777216):wi ((i:Int)-1)=(i:Int)-1:=AY ⟨by omega,by omega⟩
def T2{c:Bool}{o:Option (Unit ⊕ Unit)}{q:Bool}{s u v:Step Int Int}(a:c=true→o=some (if q=true then .inr ()else .inl ()))(b:c=true→q=true→s=u)(d:v=v):
  Option.bind ((bif c then o else some (.inl ())):Option (Unit ⊕ Unit)) (λw=>Sum.elim (λ_=>some v) (λ_=>some s) w)=some (if(c&&q)=true then u else v):=by
 cases c with
 |false=>rfl
 |true=>
  rw[cond_true,a rfl];cases q with
  |false=>rfl
  |true=>simp only[if_true,AJ,VQ,Pe];exact congrArg some (b rfl rfl)
def zy{a b pv:Int}{k j i:Nat}{s1:Int}{d:Array EN}(c:a=k)(e:k<d.size)(n:j<d.size)(l:d.size≤16777216)(m:i≤j+1):
  GL (a,(b,pv)) (s1,((j:Int),d.toList)) (i:Int)=some (if(decide (i<=j)&&lE d[i]! d[k]!)=true then .next ((i+1:Nat):Int)else .done (i:Int)):=by
 subst c;unfold GL;rw[ud];refine T2 (λh=>?_) (λh _=>by rw[k9 (by omega)]) rfl;have h:=of_decide_eq_true h;obtain⟨v,f,g⟩:=pA d[i]! d[k]!;rw[T9 rfl (show i<d.size by omega),T9 rfl e];grind
def tU{a b pv:Int}{k j i:Nat}{s1 s2:Int}{d:Array EN}(c:a=k)(f:k<d.size)(e:j<d.size)(m:d.size≤16777216):
  GM (a,(b,pv)) (s1,(s2,d.toList)) (i:Int) (j:Int)=some (if(decide (i<=j)&& !lE d[j]! d[k]!)=true then .next ((j:Int)-1)else .done (j:Int)):=by
 subst c;unfold GM;rw[ud];refine T2 (λh=>?_) (λh _=>by rw[rE (by omega)]) rfl;obtain⟨v,g,l⟩:=pA d[j]! d[k]!;rw[T9 rfl e,T9 rfl f];grind
def pK{a j b:Nat}{p:Nat->Bool}{c d e f g:Prop}(k:c/\d/\e/\(a<=j->p a=false))(l:b<=j/\f/\g/\(a<=b->0<b->(!p b)=false))(h: ¬a>b)(i:0<a):a≠b:=by grind
def yy{k:Nat}: ∀(n i j:Nat) (d:Array EN),j+1-i<=n->k<i->i<=j+1->(Sort.partLoop lE k i j d).2.size=d.size/\k<=(Sort.partLoop lE k i j d).1/\(Sort.partLoop lE k i j d).1<=j:=by
 intro n;induction n with
 |zero=>intro i j d e f g;have b:=Sort.scanUp_spec (λx=>lE x d[k]!) d j _ i rfl;have c:=Sort.scanDown_spec (λx=>!lE x d[k]!) d (Sort.scanUp (λx=>lE x d[k]!) d j i) j;rw[Sort.partLoop_eq];grind
 |succ n l=>
  intro i j d e f g;have b:=Sort.scanUp_spec (λx=>lE x d[k]!) d j _ i rfl;have c:=Sort.scanDown_spec (λx=>!lE x d[k]!) d (Sort.scanUp (λx=>lE x d[k]!) d j i) j;rw[Sort.partLoop_eq];revert b c;generalize Sort.scanUp (λx=>lE x d[k]!) d j i=i2;generalize Sort.scanDown (λx=>!lE x d[k]!) d i2 j=j2;intro b c;by_cases a:i2>j2
  ·grind
  ·rw[if_neg a];have h:=pK (p:=λt=>lE d[t]! d[k]!) b c a (by omega);obtain⟨q1,q2,q3⟩:=l (i2+1) (j2-1) (Sort.swp d i2 j2) (by omega) (by omega) (by omega);exact⟨by rw[q1,Sort.size_swp],q2,by omega⟩
def u6{a b pv:Int}{k:Nat}(s:a=k): ∀(n i j:Nat) (d:Array EN),j+1-i≤n→k<i→i≤j+1→j<d.size→d.size≤16777216→
  Ae (Dc (a,(b,pv))) ((i:Int),((j:Int),d.toList))=some ((((Sort.partLoop lE k i j d).1:Nat):Int),(Sort.partLoop lE k i j d).2.toList):=by
 intro n;induction n with
 |zero=>
  intro i j d z A v q r;have m:=iH (p:=λx=>lE x d[k]!) (j:=j) (d:=d) (λC h=>zy (b:=b) (pv:=pv) (s1:=(i:Int)) s (by omega) q r h) (j+1-i) i (Aj _) v;have g:=Sort.scanUp_spec (λx=>lE x d[k]!) d j _ i rfl;have o:=VE (p:=λx=>!lE x d[k]!) (i:=Sort.scanUp (λx=>lE x d[k]!) d j i) (N:=d.size) (d:=d) (by omega) (λH h u=>tU (b:=b) (pv:=pv) (s1:=(i:Int)) (s2:=(j:Int)) s (by omega) u r) j (by omega) q;have l:=Sort.scanDown_spec (λx=>!lE x d[k]!) d (Sort.scanUp (λx=>lE x d[k]!) d j i) j;rw[Cg,Sort.partLoop_eq];have c:Sort.scanUp (λx=>lE x d[k]!) d j i>Sort.scanDown (λx=>!lE x d[k]!) d (Sort.scanUp (λx=>lE x d[k]!) d j i) j:=by omega
  simp only[Dc,m,o,AJ,re,c,decide_true,cond_true,if_true]
 |succ n G=>
  intro i j d z A v q r;have m:=iH (p:=λx=>lE x d[k]!) (j:=j) (d:=d) (λC h=>zy (b:=b) (pv:=pv) (s1:=(i:Int)) s (by omega) q r h) (j+1-i) i (Aj _) v;have g:=Sort.scanUp_spec (λx=>lE x d[k]!) d j _ i rfl;have o:=VE (p:=λx=>!lE x d[k]!) (i:=Sort.scanUp (λx=>lE x d[k]!) d j i) (N:=d.size) (d:=d) (by omega) (λH h u=>tU (b:=b) (pv:=pv) (s1:=(i:Int)) (s2:=(j:Int)) s (by omega) u r) j (by omega) q;have l:=Sort.scanDown_spec (λx=>!lE x d[k]!) d (Sort.scanUp (λx=>lE x d[k]!) d j i) j;rw[Cg,Sort.partLoop_eq];revert m g o l;generalize Sort.scanUp (λx=>lE x d[k]!) d j i=f;generalize Sort.scanDown (λx=>!lE x d[k]!) d f j=e;intro m g o l;by_cases c:f>e
  ·simp only[Dc,m,o,AJ,re,c,decide_true,cond_true,if_true]
  ·have B:=pK (p:=λt=>lE d[t]! d[k]!) g l c (by omega);have D:ix d.toList (e:Int)=some d[e]! :=T9 rfl (by omega);have E:ix d.toList (f:Int)=some d[f]! :=T9 rfl (by omega);have F:ix (BZ d.toList (f:Int) d[e]!) (e:Int)=some (d.setIfInBounds (f:Int).toNat d[e]!)[e]! :=tn (a:=f) rfl (by omega);have w:=k9 (i:=f) (by omega);have y:wi ((e:Int)-1)=((e-1:Nat):Int):=by rw[rE (by omega)];omega
   simp only[Dc,m,o,AJ,re,c,decide_false,cond_false,if_false,D,E,F,w,y,gJ rfl rfl];exact G (f+1) (e-1) _ (by omega) (by omega) (by omega) (by rw[Sort.size_swp];omega) (by rw[Sort.size_swp];omega)
def ABt{a b pv:Int}{k m i:Nat}{l:List EN}{c f:EN}{d:Array EN}(n:BZ (BZ l a c) pv f=d.toList)(g:a=k)(j:b=m)(s:k<m)(t:m≤d.size)(q:d.size≤16777216)(r:i≤m-1+1):
  GJ l (a,(b,pv)) c f (i:Int)=some (if(decide (i<=m-1)&&lE d[i]! d[k]!)=true then .next ((i+1:Nat):Int)else .done (i:Int)):=by
 subst g j;unfold GJ;have e:wi ((m:Int)-1)=((m-1:Nat):Int):=by rw[rE (by omega)];omega
 rw[n,e,ud];refine T2 (λh=>?_) (λh _=>by rw[k9 (by omega)]) rfl;have h:=of_decide_eq_true h;obtain⟨v,o,p⟩:=pA d[i]! d[k]!;rw[T9 rfl (show i<d.size by omega),T9 rfl (show k<d.size by omega)];grind
def yX{a b pv:Int}{k j i:Nat}{l:List EN}{c e:EN}{d:Array EN}(g:BZ (BZ l a c) pv e=d.toList)(f:a=k)(n:k<d.size)(m:j<d.size)(q:d.size≤16777216):
  GK l (a,(b,pv)) c e (i:Int) (j:Int)=some (if(decide (i<=j)&& !lE d[j]! d[k]!)=true then .next ((j:Int)-1)else .done (j:Int)):=by
 subst f;unfold GK;rw[g,ud];refine T2 (λh=>?_) (λh _=>by rw[rE (by omega)]) rfl;obtain⟨v,o,p⟩:=pA d[j]! d[k]!;rw[T9 rfl m,T9 rfl n];grind
def yz{l:List EN}{a b q:Int}{k m p:Nat}(D:a=k)(E:b=m)(M:q=p)(Y:k≤p)(Z:p<m)(hm:m≤l.length)(hl:l.length≤16777216):
  D0 l (a,(b,q))=some ((((Sort.partition lE l.toArray k m p).1:Nat):Int),((Sort.partition lE l.toArray k m p).2.1,(Sort.partition lE l.toArray k m p).2.2.toList)):=by
 have g:=D;have v:=E;subst D E M;unfold D0;have O:l.toArray.size=l.length:=by simp
 have P:ix l (p:Int)=some l.toArray[p]! :=T9 (d:=l.toArray) rfl (by omega);have f:ix l (k:Int)=some l.toArray[k]! :=T9 (d:=l.toArray) rfl (by omega);have Q:ix (BZ l (k:Int) l.toArray[p]!) (p:Int)=some (l.toArray.setIfInBounds (k:Int).toNat l.toArray[p]!)[p]! :=tn (d:=l.toArray) (a:=k) rfl (by omega);have s:BZ (BZ l (k:Int) l.toArray[p]!) (p:Int) l.toArray[k]! =(Sort.swp l.toArray k p).toList:=gJ (d:=l.toArray) rfl rfl;have F:(Sort.swp l.toArray k p).size=l.length:=by rw[Sort.size_swp,O]
 have G:=k9 (i:=k) (by omega);have H:wi ((m:Int)-1)=((m-1:Nat):Int):=by rw[rE (by omega)];omega
 unfold Sort.partition;dsimp only;simp only[P,f,Q,AJ,G,H];revert s F;generalize Sort.swp l.toArray k p=d;intro s F;have T:=iH (p:=λx=>lE x d[k]!) (j:=m-1) (d:=d) (λi' h=>ABt (b:=(m:Int)) (pv:=(p:Int)) s g v (by omega) (by omega) (by omega) h) (m-1+1-(k+1)) (k+1) (Aj _) (by omega);have z:=Sort.scanUp_spec (λx=>lE x d[k]!) d (m-1) _ (k+1) rfl;have U:=VE (p:=λx=>!lE x d[k]!) (i:=Sort.scanUp (λx=>lE x d[k]!) d (m-1) (k+1)) (N:=d.size) (d:=d) (by omega) (λj' h K=>yX (b:=(m:Int)) (pv:=(p:Int)) s g (by omega) K (by omega)) (m-1) (by omega) (by omega);have A:=Sort.scanDown_spec (λx=>!lE x d[k]!) d (Sort.scanUp (λx=>lE x d[k]!) d (m-1) (k+1)) (m-1);rw[T,AJ,U,AJ];revert z A;generalize Sort.scanUp (λx=>lE x d[k]!) d (m-1) (k+1)=f;generalize Sort.scanDown (λx=>!lE x d[k]!) d f (m-1)=e;intro z A;rw[s,re];have R:ix d.toList (k:Int)=some d[k]! :=T9 rfl (by omega);have o:ix d.toList (e:Int)=some d[e]! :=T9 rfl (by omega);by_cases n:f>e
 ·have y:ix (BZ d.toList (e:Int) d[k]!) (k:Int)=some (d.setIfInBounds (e:Int).toNat d[k]!)[k]! :=tn (a:=e) rfl (by omega);simp only[n,decide_true,cond_true,if_true,R,o,y,AJ,gJ (d:=d) (a:=e) (b:=k) rfl rfl]
 ·have L:=pK (p:=λt=>lE d[t]! d[k]!) z A n (by omega);have S:ix d.toList (f:Int)=some d[f]! :=T9 rfl (by omega);have y:ix (BZ d.toList (f:Int) d[e]!) (e:Int)=some (d.setIfInBounds (f:Int).toNat d[e]!)[e]! :=tn (a:=f) rfl (by omega);have I:=k9 (i:=f) (by omega);have J:wi ((e:Int)-1)=((e-1:Nat):Int):=by rw[rE (by omega)];omega
  have w:=u6 (b:=(m:Int)) (pv:=(p:Int)) g (e-1+1-(f+1)) (f+1) (e-1) (Sort.swp d f e) (Aj _) (by omega) (by omega) (by rw[Sort.size_swp];omega) (by rw[Sort.size_swp];omega);obtain⟨u,B,C⟩:=yy (k:=k) (e-1+1-(f+1)) (f+1) (e-1) (Sort.swp d f e) (Aj _) (by omega) (by omega);simp only[n,decide_false,cond_false,if_false,o,S,y,AJ,gJ (d:=d) (a:=f) (b:=e) rfl rfl,I,J,w];rw[Sort.size_swp]at u;revert u B C;generalize Sort.partLoop lE k (f+1) (e-1) (Sort.swp d f e)=r;obtain⟨c,t⟩:=r;intro u B C;dsimp only at u B C⊢;have V:ix t.toList (k:Int)=some t[k]! :=T9 rfl (by omega);have W:ix t.toList (c:Int)=some t[c]! :=T9 rfl (by omega);have X:ix (BZ t.toList (c:Int) t[k]!) (k:Int)=some (t.setIfInBounds (c:Int).toNat t[k]!)[k]! :=tn (a:=c) rfl (by omega);simp only[V,W,X,AJ,gJ (d:=t) (a:=c) (b:=k) rfl rfl]
def zx{a b pv:Int}{k j i:Nat}{s1:Int}{d:Array EN}(f:a=k)(g:k<d.size)(n:j<d.size)(l:d.size≤16777216)(m:i≤j+1):
  E4 (a,(b,pv)) (s1,((j:Int),d.toList)) (i:Int)=some (if(decide (i<=j)&& !lE d[k]! d[i]!)=true then .next ((i+1:Nat):Int)else .done (i:Int)):=by
 subst f;unfold E4;dsimp only;rw[ud];refine T2 (λh=>?_) (λh _=>by rw[k9 (by omega)]) rfl;have h:=of_decide_eq_true h;obtain⟨v,c,e⟩:=pA d[k]! d[i]!;rw[T9 rfl (show i<d.size by omega),T9 rfl g];simp only[AJ,c,e];cases lE d[k]! d[i]! <;>rfl
def tT{a b pv:Int}{k j i:Nat}{s1 s2:Int}{d:Array EN}(f:a=k)(l:k<d.size)(g:j<d.size)(m:d.size≤16777216):
  E5 (a,(b,pv)) (s1,(s2,d.toList)) (i:Int) (j:Int)=some (if(decide (i<=j)&&lE d[k]! d[j]!)=true then .next ((j:Int)-1)else .done (j:Int)):=by
 subst f;unfold E5;dsimp only;rw[ud];refine T2 (λh=>?_) (λh _=>by rw[rE (by omega)]) rfl;obtain⟨v,c,e⟩:=pA d[k]! d[j]!;rw[T9 rfl g,T9 rfl l];simp only[AJ,c,e];cases lE d[k]! d[j]! <;>rfl
def xT{a j b:Nat}{p:Nat->Bool}{e f g i k:Prop}(n:e/\f/\g/\(a<=j->(!p a)=false))(d:b<=j/\i/\k/\(a<=b->0<b->p b=false))(h: ¬a>b)(l:0<a):a≠b:=by rintro rfl;have c:=n.2.2.2 d.1;have m:=d.2.2.2 (Aj _) l;rw[m]at c;exact absurd c (by decide)
def sS{a b pv:Int}{k:Nat}(s:a=k): ∀(n i j:Nat) (d:Array EN),j+1-i≤n→k<i→i≤j+1→j<d.size→d.size≤16777216→
  Ae (Cv (a,(b,pv))) ((i:Int),((j:Int),d.toList))=some ((((Sort.partEqLoop lE k i j d).1:Nat):Int),(Sort.partEqLoop lE k i j d).2.toList):=by
 intro n;induction n with
 |zero=>
  intro i j d z A v q r;have m:=iH (p:=λx=>!lE d[k]! x) (j:=j) (d:=d) (λC h=>zx (b:=b) (pv:=pv) (s1:=(i:Int)) s (by omega) q r h) (j+1-i) i (Aj _) v;have g:=Sort.scanUp_spec (λx=>!lE d[k]! x) d j _ i rfl;have o:=VE (p:=λx=>lE d[k]! x) (i:=Sort.scanUp (λx=>!lE d[k]! x) d j i) (N:=d.size) (d:=d) (by omega) (λH h u=>tT (b:=b) (pv:=pv) (s1:=(i:Int)) (s2:=(j:Int)) s (by omega) u r) j (by omega) q;have l:=Sort.scanDown_spec (λx=>lE d[k]! x) d (Sort.scanUp (λx=>!lE d[k]! x) d j i) j;rw[Cg,Sort.partEqLoop_eq];have c:Sort.scanUp (λx=>!lE d[k]! x) d j i>Sort.scanDown (λx=>lE d[k]! x) d (Sort.scanUp (λx=>!lE d[k]! x) d j i) j:=by omega
  simp only[Cv,m,o,AJ,re,c,decide_true,cond_true,if_true]
 |succ n G=>
  intro i j d z A v q r;have m:=iH (p:=λx=>!lE d[k]! x) (j:=j) (d:=d) (λC h=>zx (b:=b) (pv:=pv) (s1:=(i:Int)) s (by omega) q r h) (j+1-i) i (Aj _) v;have g:=Sort.scanUp_spec (λx=>!lE d[k]! x) d j _ i rfl;have o:=VE (p:=λx=>lE d[k]! x) (i:=Sort.scanUp (λx=>!lE d[k]! x) d j i) (N:=d.size) (d:=d) (by omega) (λH h u=>tT (b:=b) (pv:=pv) (s1:=(i:Int)) (s2:=(j:Int)) s (by omega) u r) j (by omega) q;have l:=Sort.scanDown_spec (λx=>lE d[k]! x) d (Sort.scanUp (λx=>!lE d[k]! x) d j i) j;rw[Cg,Sort.partEqLoop_eq];revert m g o l;generalize Sort.scanUp (λx=>!lE d[k]! x) d j i=f;generalize Sort.scanDown (λx=>lE d[k]! x) d f j=e;intro m g o l;by_cases c:f>e
  ·simp only[Cv,m,o,AJ,re,c,decide_true,cond_true,if_true]
  ·have B:=xT (p:=λt=>lE d[k]! d[t]!) g l c (by omega);have D:ix d.toList (e:Int)=some d[e]! :=T9 rfl (by omega);have E:ix d.toList (f:Int)=some d[f]! :=T9 rfl (by omega);have F:ix (BZ d.toList (f:Int) d[e]!) (e:Int)=some (d.setIfInBounds (f:Int).toNat d[e]!)[e]! :=tn (a:=f) rfl (by omega);have w:=k9 (i:=f) (by omega);have y:wi ((e:Int)-1)=((e-1:Nat):Int):=by rw[rE (by omega)];omega
   simp only[Cv,m,o,AJ,re,c,decide_false,cond_false,if_false,D,E,F,w,y,gJ rfl rfl];exact G (f+1) (e-1) _ (by omega) (by omega) (by omega) (by rw[Sort.size_swp];omega) (by rw[Sort.size_swp];omega)
def xC{l:List EN}{a b c:Int}{k m p:Nat}(h:a=k)(j:b=m)(n:c=p)(u:k≤p)(v:p<m)(w:m≤l.length)(e:l.length≤16777216):
  DM l (a,(b,c))=some ((((Sort.partitionEqual lE l.toArray k m p).1:Nat):Int),(Sort.partitionEqual lE l.toArray k m p).2.toList):=by
 subst h j n;unfold DM;have o:l.toArray.size=l.length:=by simp
 have q:ix l (p:Int)=some l.toArray[p]! :=T9 (d:=l.toArray) rfl (by omega);have r:ix l (k:Int)=some l.toArray[k]! :=T9 (d:=l.toArray) rfl (by omega);have s:ix (BZ l (k:Int) l.toArray[p]!) (p:Int)=some (l.toArray.setIfInBounds (k:Int).toNat l.toArray[p]!)[p]! :=tn (d:=l.toArray) (a:=k) rfl (by omega);have t:BZ (BZ l (k:Int) l.toArray[p]!) (p:Int) l.toArray[k]! =(Sort.swp l.toArray k p).toList:=gJ (d:=l.toArray) rfl rfl;have f:=k9 (i:=k) (by omega);have g:wi ((m:Int)-1)=((m-1:Nat):Int):=by rw[rE (by omega)];omega
 have x:(Sort.swp l.toArray k p).size=l.length:=by rw[Sort.size_swp,o]
 have e:=sS (a:=(k:Int)) (b:=(m:Int)) (pv:=(p:Int)) rfl (m-1+1-(k+1)) (k+1) (m-1) (Sort.swp l.toArray k p) (Aj _) (by omega) (by omega) (by omega) (by omega);dsimp only;simp only[q,r,s,AJ,f,g,t,e];rfl
def yV(i j:Nat):decide ((i:Int)<(j:Int))=decide (i<j):=by simp
def ABq{d:Array EN}{m:Nat}: ∀(n i:Nat),m-i<=n->i<=m->i<=Sort.scanSorted lE d m i/\Sort.scanSorted lE d m i<=m:=by
 intro n;induction n with
 |zero=>intro i a b;rw[Sort.scanSorted,if_neg (by simp;omega)];omega
 |succ n c=>
  intro i a b;rw[Sort.scanSorted];by_cases h:(decide (i<m)&& !lE d[i]! d[i-1]!)=true
  ·rw[if_pos h];have e:i<m:=by simp at h;exact h.1
   have:=c (i+1) (by omega) (by omega);omega
  ·rw[if_neg h];omega
def zU{a b:Int}{m:Nat}{s1 s2:Int}{d:Array EN}(o:b=m)(s:m≤d.size)(r:d.size≤16777216): ∀(n i:Nat),m-i≤n→1≤i→i≤m→
  Ae (C8 (a,b) (s1,(s2,d.toList))) (i:Int)=some ((Sort.scanSorted lE d m i:Nat):Int):=by
 subst o;have body: ∀i:Nat,1<=i->C8 (a,(m:Int)) (s1,(s2,d.toList)) (i:Int)=some (if(decide (i<m)&& !lE d[i]! d[i-1]!)=true then .next ((i+1:Nat):Int)else .done (i:Int)):=by
  intro i q;unfold C8;dsimp only;rw[yV];by_cases h:i<m
  ·rw[k9 (i:=i) (by omega)];refine T2 (λ_=>?_) (λ_ _=>rfl) rfl;have e:wi ((i:Int)-1)=((i-1:Nat):Int):=by rw[rE (by omega)];omega
   obtain⟨v,g,j⟩:=pA d[i]! d[i-1]!;rw[e,T9 rfl (show i<d.size by omega),T9 rfl (show i-1<d.size by omega)];simp only[AJ,g,j];cases lE d[i]! d[i-1]! <;>rfl
  ·refine T2 (λc=>absurd (of_decide_eq_true c) h) (λc _=>absurd (of_decide_eq_true c) h) rfl
 intro n;induction n with
 |zero=>
  intro i k f l;rw[Cg,body i f,Sort.scanSorted];have: ¬(decide (i<m)&& !lE d[i]! d[i-1]!)=true:=by simp;omega
  rw[if_neg this,if_neg this]
 |succ n p=>
  intro i k f l;rw[Cg,body i f,Sort.scanSorted];by_cases h:(decide (i<m)&& !lE d[i]! d[i-1]!)=true
  ·rw[if_pos h,if_pos h];have c:i<m:=by simp at h;exact h.1
   exact p (i+1) (by omega) (by omega) (by omega)
  ·rw[if_neg h,if_neg h]
def uI: ∀(j:Nat) (d:Array EN),(Sort.shiftDown lE j d).size=d.size
 |0,_=>rfl
 |j+1,d=>by
  unfold Sort.shiftDown;split
  ·rfl
  ·rw[uI j,Sort.size_swp]
def zW{m:Nat}: ∀(n j:Nat) (d:Array EN),m-j<=n->(Sort.shiftUp lE m j d).size=d.size:=by
 intro n;induction n with
 |zero=>intro j d h;rw[Sort.shiftUp,if_neg (by omega)]
 |succ n a=>
  intro j d h;rw[Sort.shiftUp];split
  ·split
   ·rfl
   ·rw[a _ _ (by omega),Sort.size_swp]
  ·rfl
def uH: ∀(j:Nat) (d:Array EN),j<d.size->d.size<=16777216->Ae C9 ((j:Int),d.toList)=some (Sort.shiftDown lE j d).toList
 |0,d,h1,h2=>by rw[Cg];rfl
 |j+1,d,h1,h2=>by
  rw[Cg];have e:wi (((j+1:Nat):Int)-1)=(j:Int):=by rw[rE (by omega)];omega
  have:decide (((j+1:Nat):Int)>=1)=true:=by simp;omega
  obtain⟨v,c,f⟩:=pA d[j+1]! d[j]!;have g:ix d.toList ((j+1:Nat):Int)=some d[j+1]! :=T9 rfl h1;have h:ix d.toList (j:Int)=some d[j]! :=T9 rfl (by omega);have i:ix (BZ d.toList ((j+1:Nat):Int) d[j]!) (j:Int)=some (d.setIfInBounds ((j+1:Nat):Int).toNat d[j]!)[j]! :=tn (a:=j+1) rfl (by omega);simp only[C9,this,cond_true,e,g,h,i,AJ,c,f,gJ (d:=d) (a:=j+1) (b:=j) rfl rfl];unfold Sort.shiftDown;cases lE d[j+1]! d[j]! with
  |true=>simp only[D9,cond_false,F3,if_false];exact uH j _ (by rw[Sort.size_swp];omega) (by rw[Sort.size_swp];omega)
  |false=>simp only[TM,cond_true,if_true]
def zV{a b:Int}{m:Nat}(r:b=m): ∀(n j:Nat) (d:Array EN),m-j<=n->1<=j->j<=m->m<=d.size->d.size<=16777216->Ae (B9 (a,b)) ((j:Int),d.toList)=some (Sort.shiftUp lE m j d).toList:=by
 subst r;intro n;induction n with
 |zero=>
  intro j d k l o p q;rw[Cg,Sort.shiftUp];have:decide (j<m)=false:=by simp;omega
  simp only[B9,yV,this,cond_false];rw[if_neg (by omega)]
 |succ n w=>
  intro j d k l o p q;rw[Cg,Sort.shiftUp];by_cases h:j<m
  ·have c:wi ((j:Int)-1)=((j-1:Nat):Int):=by rw[rE (by omega)];omega
   have e:=k9 (i:=j) (by omega);obtain⟨v,f,g⟩:=pA d[j]! d[j-1]!;have s:ix d.toList (j:Int)=some d[j]! :=T9 rfl (by omega);have t:ix d.toList ((j-1:Nat):Int)=some d[j-1]! :=T9 rfl (by omega);have u:ix (BZ d.toList (j:Int) d[j-1]!) ((j-1:Nat):Int)=some (d.setIfInBounds (j:Int).toNat d[j-1]!)[j-1]! :=tn (a:=j) rfl (by omega);simp only[B9,yV,h,decide_true,cond_true,if_true,c,e,s,t,u,AJ,f,g,gJ (d:=d) (a:=j) (b:=j-1) rfl rfl];cases lE d[j]! d[j-1]! with
   |true=>simp only[D9,cond_false,F3,if_false];exact w (j+1) _ (by omega) (by omega) (by omega) (by rw[Sort.size_swp];omega) (by rw[Sort.size_swp];omega)
   |false=>simp only[TM,cond_true,if_true]
  ·have:decide (j<m)=false:=by simp;omega
   simp only[B9,yV,this,cond_false];rw[if_neg h]
def uB{a b:Int}{k m:Nat}(o:a=k)(f:b=m): ∀(s i:Nat) (d:Array EN),s≤5→1≤i→k<i→i≤m→m≤d.size→d.size≤16777216→
  ∃r,Ae (EF (a,b)) ((i:Int),(((5-s:Nat):Int),d.toList))=some r/\Sum.elim (λu=>(false,u)) (λu=>u) r=((Sort.partialIns lE k m s i d).2,(Sort.partialIns lE k m s i d).1.toList)/\(Sort.partialIns lE k m s i d).1.size=d.size
 |0,i,d,h0,h1,hk,h2,h3,h4=>by rw[Cg];exact⟨.inl d.toList,rfl,rfl,rfl⟩
 |s+1,i,d,h0,h1,hk,h2,h3,h4=>by
  rw[Cg];have B:=zU (a:=a) (s1:=(i:Int)) (s2:=((5-(s+1):Nat):Int)) f h3 h4 (m-i) i (Aj _) h1 h2;have l:=ABq (d:=d) (m:=m) (m-i) i (Aj _) h2;have q:decide (((5-(s+1):Nat):Int)<5)=true:=by simp;omega
  have A:wi (((5-(s+1):Nat):Int)+1)=((5-s:Nat):Int):=by rw[k9 (by omega)];omega
  unfold Sort.partialIns;simp only[EF,q,cond_true,B,AJ,A];revert l;generalize Sort.scanSorted lE d m i=c;intro l;by_cases p:c=m
  ·have:((c:Int)==b)=true:=by rw[f,p];exact beq_self_eq_true _
   rw[if_pos p,this,cond_true];exact⟨.inr (true,d.toList),rfl,rfl,rfl⟩
  ·have:((c:Int)==b)=false:=by rw[f];simp;omega
   have t:wi (b-a)=((m-k:Nat):Int):=by rw[o,f,O8 (by omega)];omega
   rw[if_neg p,this,cond_false,t];by_cases j:m-k<50
   ·have:decide (((m-k:Nat):Int)<50)=true:=by simp;omega
    rw[if_pos j,this,cond_true];exact⟨.inr (false,d.toList),rfl,rfl,rfl⟩
   ·have:decide (((m-k:Nat):Int)<50)=false:=by simp;omega
    have w:wi ((c:Int)-1)=((c-1:Nat):Int):=by rw[rE (by omega)];omega
    have x:wi ((c:Int)-a)=((c-k:Nat):Int):=by rw[o,O8 (by omega)];omega
    have y:wi (b-(c:Int))=((m-c:Nat):Int):=by rw[f,O8 (by omega)];omega
    have z:=k9 (i:=c) (by omega);have C:ix d.toList (c:Int)=some d[c]! :=T9 rfl (by omega);have D:ix d.toList ((c-1:Nat):Int)=some d[c-1]! :=T9 rfl (by omega);have E:ix (BZ d.toList (c:Int) d[c-1]!) ((c-1:Nat):Int)=some (d.setIfInBounds (c:Int).toNat d[c-1]!)[c-1]! :=tn (a:=c) rfl (by omega);simp only[this,cond_false,j,if_false,w,x,y,z,C,D,E,AJ,gJ (d:=d) (a:=c) (b:=c-1) rfl rfl];have n:(Sort.swp d c (c-1)).size=d.size:=Sort.size_swp _ _ _;revert n;generalize Sort.swp d c (c-1)=d1;intro n;have q1:((bif decide (((c-k:Nat):Int)>=2)then Option.bind (Ae C9 (((c-1:Nat):Int),d1.toList)) λv=>some v else some d1.toList):Option (List EN))=some (if c-k>=2 then Sort.shiftDown lE (c-1) d1 else d1).toList:=by
     by_cases h:c-k>=2
     ·have:decide (((c-k:Nat):Int)>=2)=true:=by simp;omega
      rw[this,cond_true,uH _ _ (by omega) (by omega),if_pos h];rfl
     ·have:decide (((c-k:Nat):Int)>=2)=false:=by simp;omega
      rw[this,cond_false,if_neg h]
    rw[q1,AJ];have e:(if c-k>=2 then Sort.shiftDown lE (c-1) d1 else d1).size=d.size:=by
     split
     ·rw[uI,n]
     ·exact n
    revert e;generalize (if c-k>=2 then Sort.shiftDown lE (c-1) d1 else d1)=d2;intro e;have q2:((bif decide (((m-c:Nat):Int)>=2)then Option.bind (Ae (B9 (a,b)) (((c+1:Nat):Int),d2.toList)) λv=>some v else some d2.toList):Option (List EN))=some (if m-c>=2 then Sort.shiftUp lE m (c+1) d2 else d2).toList:=by
     by_cases h:m-c>=2
     ·have:decide (((m-c:Nat):Int)>=2)=true:=by simp;omega
      rw[this,cond_true,zV f (m-(c+1)) (c+1) d2 (Aj _) (by omega) (by omega) (by omega) (by omega),if_pos h];rfl
     ·have:decide (((m-c:Nat):Int)>=2)=false:=by simp;omega
      rw[this,cond_false,if_neg h]
    rw[q2,AJ];have g:(if m-c>=2 then Sort.shiftUp lE m (c+1) d2 else d2).size=d.size:=by
     split
     ·rw[zW (m-(c+1)) _ _ (Aj _),e]
     ·exact e
    revert g;generalize (if m-c>=2 then Sort.shiftUp lE m (c+1) d2 else d2)=d3;intro g;obtain⟨r,F,G,H⟩:=uB o f s c d3 (by omega) (by omega) (by omega) (by omega) (by omega) (by omega);exact⟨r,F,G,by rw[H,g]⟩
def ABe{l:List EN}{a b:Int}{k m:Nat}(c:a=k)(g:b=m)(j:k<m)(i:m≤l.length)(h:l.length≤16777216):
  Cp l (a,b)=some ((Sort.partialInsertionSort lE l.toArray k m).2,(Sort.partialInsertionSort lE l.toArray k m).1.toList):=by
 unfold Cp;have e:wi (a+1)=((k+1:Nat):Int):=by rw[c,k9 (by omega)]
 obtain⟨r,d,f,n⟩:=uB c g 5 (k+1) l.toArray (Aj _) (by omega) (by omega) (by omega) (by simpa using i) (by simpa using h);dsimp only;rw[e];rw[show l.toArray.toList=l from rfl,show((5-5:Nat):Int)=0 from rfl]at d;rw[d,AJ];unfold Sort.partialInsertionSort;cases r with
 |inl u=>exact congrArg some f
 |inr u=>exact congrArg some f
def AAS{l:List EN}{a b:Int}{k m:Nat}(L:a=k)(M:b=m)(Q:8≤m-k)(K:m-k<50)(S:m≤l.length)(R:l.length≤16777216):
  ∃(p:Nat) (h:Int),Dj l (a,b)=some ((p:Int),(h,l))/\k<=p/\p<m:=by
 subst L M;unfold Dj;have w:wi ((m:Int)-(k:Int))=((m-k:Nat):Int):=by rw[O8 (by omega)];omega
 have A:wi (Int.tdiv ((m-k:Nat):Int) 4)=(((m-k)/4:Nat):Int):=by have:Int.tdiv ((m-k:Nat):Int) 4=(((m-k)/4:Nat):Int):=rfl;rw[this,O8 (by omega)]
 have B:wi ((k:Int)+wi ((((m-k)/4:Nat):Int)*1))=((k+(m-k)/4:Nat):Int):=by rw[O8 (x:=_*_) (by omega),O8 (by omega)];omega
 have C:wi ((k:Int)+wi ((((m-k)/4:Nat):Int)*2))=((k+(m-k)/4*2:Nat):Int):=by rw[O8 (x:=_*_) (by omega),O8 (by omega)];omega
 have D:wi ((k:Int)+wi ((((m-k)/4:Nat):Int)*3))=((k+(m-k)/4*3:Nat):Int):=by rw[O8 (x:=_*_) (by omega),O8 (by omega)];omega
 have v:decide (((m-k:Nat):Int)>=8)=true:=by simp;omega
 have c:decide (((m-k:Nat):Int)>=50)=false:=by simp;omega
 have q1:k+(m-k)/4<m:=by omega
 have q2:k+(m-k)/4*2<m:=by omega
 have q3:k+(m-k)/4*3<m:=by omega
 have r:k<=k+(m-k)/4:=by omega
 have s:k<=k+(m-k)/4*2:=by omega
 have u:k<=k+(m-k)/4*3:=by omega
 dsimp only;simp only[w,A,B,C,D,v,c,cond_true,cond_false];revert q1 q2 q3 r s u;generalize k+(m-k)/4=i;generalize k+(m-k)/4*2=j;generalize k+(m-k)/4*3=t;intro q1 q2 q3 r s u;have N:ix l (i:Int)=some l.toArray[i]! :=T9 (d:=l.toArray) rfl (by simp;omega);have O:ix l (j:Int)=some l.toArray[j]! :=T9 (d:=l.toArray) rfl (by simp;omega);have P:ix l (t:Int)=some l.toArray[t]! :=T9 (d:=l.toArray) rfl (by simp;omega);simp only[N,O,P,AJ];generalize l.toArray[i]! =x;generalize l.toArray[j]! =y;generalize l.toArray[t]! =z;obtain⟨T,E,e⟩:=pA x y;obtain⟨U,F,f⟩:=pA x z;obtain⟨V,G,g⟩:=pA y x;obtain⟨W,H,n⟩:=pA y z;obtain⟨X,I,o⟩:=pA z x;obtain⟨Y,J,q⟩:=pA z y;simp only[E,e,F,f,G,g,H,n,I,o,J,q,AJ];cases lE x y<;>cases lE x z<;>cases lE y x<;>cases lE y z<;>cases lE z x<;>cases lE z y<;>
  first
  |exact⟨i,_,rfl,r,q1⟩
  |exact⟨j,_,rfl,s,q2⟩
  |exact⟨t,_,rfl,u,q3⟩
def bl8(n:Nat):Nat:=if n=0 then 0 else if n<2 then 1 else if n<4 then 2 else if n<8 then 3 else if n<16 then 4 else if n<32 then 5 else if n<64 then 6 else if n<128 then 7 else 8
def iu{n:Nat}(h:n<256):bl8 n<=8/\(1<=n->2^bl8 n<=2*n):=by
 unfold bl8;repeat' split
 all_goals first|omega|(constructor<;>omega)
def T8:Bf:=(List.range 256).map λn=>UInt8.ofNat (bl8 n)
def ACE{n:Nat}(h:n<256):six T8 (n:Int)=some ((bl8 n:Nat):Int):=by have a:=(iu h).1;unfold six T8;simp[h];omega
noncomputable def Lz(x:Int):Option Int:=
 Option.bind ((
   bif (decide (x>=4294967296))then
    some ((Int.fdiv x (2^(min (Int.toNat 32) 64))),32)
   else
   some (x,0)):(Option (Int×Int))) λv0=>
 Option.bind ((
   bif (decide (v0.1>=65536))then
    some ((Int.fdiv v0.1 (2^(min (Int.toNat 16) 64))),(wi (v0.2+16)))
   else
   some v0):(Option (Int×Int))) λv1=>
 Option.bind ((
   bif (decide (v1.1>=256))then
    some ((Int.fdiv v1.1 (2^(min (Int.toNat 8) 64))),(wi (v1.2+8)))
   else
   some v1):(Option (Int×Int))) λv2=>
 Option.bind (six T8 (IntKind.wrap .u8 v2.1)) λv3=>
 some (wi (v2.2+(wi v3)))
def ABD:O0=Lz:=by kernel_rfl
def AB5(n:Nat):Int.fdiv (n:Int) (2^(min (Int.toNat 16) 64))=((n/65536:Nat):Int):=by
 have:(2:Int)^(min (Int.toNat 16) 64)=((65536:Nat):Int):=by decide
 rw[this,YQ _ (by omega)];rfl
def fd8(n:Nat):Int.fdiv (n:Int) (2^(min (Int.toNat 8) 64))=((n/256:Nat):Int):=by
 have:(2:Int)^(min (Int.toNat 8) 64)=((256:Nat):Int):=by decide
 rw[this,YQ _ (by omega)];rfl
def oL{y s:Nat}(h:y<256)(c:s<=64):(Option.bind (six T8 (IntKind.wrap .u8 (y:Int))) λa=>some (wi ((s:Int)+(wi a))))=some ((s+bl8 y:Nat):Int):=by have b:=(iu h).1;rw[zb,show(y:Int)%256=(y:Int) by omega,ACE h,AJ,O8 (x:=((bl8 y:Nat):Int)) (by omega),O8 (by omega)];exact congrArg some (by omega)
def tD{x:Nat}(h:x<=16777216): ∃r:Nat,O0 (x:Int)=some (r:Int)/\r<=32/\(1<=x->2^r<=2*x):=by
 rw[ABD];unfold Lz;have c:decide ((x:Int)>=4294967296)=false:=by simp;omega
 rw[c,cond_false,AJ];by_cases f:x>=65536
 ·have:decide (((x:Int),(0:Int)).1>=65536)=true:=by simp;omega
  have e:wi (((x:Int),(0:Int)).2+16)=((16:Nat):Int):=by show wi (0+16)=_;decide
  rw[this,cond_true,AJ,e,AB5];by_cases g:x/65536>=256
  ·have:decide (((((x/65536:Nat):Int),((16:Nat):Int)):Int×Int).1>=256)=true:=by simp;omega
   have e:wi (((((x/65536:Nat):Int),((16:Nat):Int)):Int×Int).2+8)=((24:Nat):Int):=by show wi (((16:Nat):Int)+8)=_;decide
   rw[this,cond_true,AJ,e,fd8];have a:x/65536/256<256:=by omega
   have b:=iu a;refine⟨_,oL a (by omega),by omega,λ_=>?_⟩;have:=b.2 (by omega);rw[Z3];omega
  ·have:decide (((((x/65536:Nat):Int),((16:Nat):Int)):Int×Int).1>=256)=false:=by simp;omega
   rw[this,cond_false,AJ];have a:x/65536<256:=by omega
   have b:=iu a;refine⟨_,oL a (by omega),by omega,λ_=>?_⟩;have:=b.2 (by omega);rw[Z3];omega
 ·have:decide (((x:Int),(0:Int)).1>=65536)=false:=by simp;omega
  rw[this,cond_false,AJ];by_cases g:x>=256
  ·have:decide (((x:Int),(0:Int)).1>=256)=true:=by simp;omega
   have e:wi (((x:Int),(0:Int)).2+8)=((8:Nat):Int):=by show wi (0+8)=_;decide
   rw[this,cond_true,AJ,e,fd8];have a:x/256<256:=by omega
   have b:=iu a;refine⟨_,oL a (by omega),by omega,λ_=>?_⟩;have:=b.2 (by omega);rw[Z3];omega
  ·have:decide (((x:Int),(0:Int)).1>=256)=false:=by simp;omega
   rw[this,cond_false,AJ];have a:x<256:=by omega
   have b:=iu a;refine⟨_,oL (s:=0) a (by omega),by omega,λd=>?_⟩;have:=b.2 d;rw[DE];omega
def yu{n:Nat}(a:1<=n)(h:n<=16777216): ∃M:Nat,JC (n:Int)=some (M:Int)/\1<=M/\M<=2*n:=by
 obtain⟨r,g,c,hr⟩:=tD h;refine⟨2^r,?_,Nat.one_le_two_pow,hr a⟩;unfold JC OZ;rw[TD,show(n:Int)%18446744073709551616=(n:Int) by omega,g];simp only[AJ];have:decide ((r:Int)<0)=false:=by simp
 rw[this,cond_false,TD];have d:min (Int.toNat (r:Int)) 64=r:=by rw[DP];omega
 rw[d,Int.one_mul];have b:=hr a;have:((2:Int)^r)=((2^r:Nat):Int):=by simp
 rw[this];revert b;generalize 2^r=M;intro b;exact congrArg some (by omega)
def oth(M:Nat)(b:1<=M)(c:M<=33554432)(B:BitVec 64): ∃o:Nat,wi (IntKind.wrap .u64 (((BitVec.toNat (B&&&(BitVec.ofInt 64 (IntKind.wrap .u64 ((M:Int)-1)))):Nat):Int)))=(o:Int)/\o<=M-1:=by
 have e:BitVec.toNat (BitVec.ofInt 64 (IntKind.wrap .u64 ((M:Int)-1)))=M-1:=by rw[TD,show((M:Int)-1)%18446744073709551616=((M-1:Nat):Int) by omega,TL,Oe];omega
 have a:BitVec.toNat (B&&&(BitVec.ofInt 64 (IntKind.wrap .u64 ((M:Int)-1))))<=M-1:=by rw[iV,e];exact fZ
 refine⟨_,?_,a⟩;rw[TD,show((BitVec.toNat (B&&&(BitVec.ofInt 64 (IntKind.wrap .u64 ((M:Int)-1)))):Nat):Int)%18446744073709551616=((BitVec.toNat (B&&&(BitVec.ofInt 64 (IntKind.wrap .u64 ((M:Int)-1)))):Nat):Int) by omega,O8 (by omega)]
def ABc{W n:Nat}(a:W<2*n)(hn:n<=16777216):A2 ((bif decide ((W:Int)>=(n:Int))then some (wi ((W:Int)-(n:Int)))else some (W:Int)):Option Int) λv=> ∃o:Nat,v=o/\o<n:=by refine AC (λh=>AA ⟨W-n,?_,by omega⟩) (λh=>AA ⟨W,rfl,by omega⟩);rw[O8 (by omega)];omega
def yJ{l:List EN}{a b:Int}{k m:Nat}(J:a=k)(K:b=m)(h:k≤m)(W:m≤l.length)(V:l.length≤16777216):
  ∃d:Array EN,EG l (a,b)=some d.toList/\Sort.PermIn k m l.toArray d:=by
 subst J K;unfold EG;have j:wi ((m:Int)-(k:Int))=((m-k:Nat):Int):=by rw[O8 (by omega)];omega
 dsimp only;rw[j];by_cases U:m-k>=8
 ·have e:decide (((m-k:Nat):Int)>=8)=true:=by simp;omega
  obtain⟨M,H,z,T⟩:=yu (n:=m-k) (by omega) (by omega);rw[e,cond_true,H,AJ];have p:wi (Int.tdiv ((m-k:Nat):Int) 4)=(((m-k)/4:Nat):Int):=by have:Int.tdiv ((m-k:Nat):Int) 4=(((m-k)/4:Nat):Int):=rfl;rw[this,O8 (by omega)]
  have q:wi ((k:Int)+wi ((((m-k)/4:Nat):Int)*2))=((k+(m-k)/4*2:Nat):Int):=by rw[O8 (x:=_*_) (by omega),O8 (by omega)];omega
  have D:wi (((k+(m-k)/4*2:Nat):Int)-1)=((k+(m-k)/4*2-1:Nat):Int):=by rw[rE (by omega)];omega
  have E:wi (((k+(m-k)/4*2:Nat):Int)+1)=((k+(m-k)/4*2+1:Nat):Int):=k9 (by omega);have N:k+4<=k+(m-k)/4*2:=by omega
  have O:k+(m-k)/4*2+1<m:=by omega
  rw[p,q,D];obtain⟨F,t⟩:=Classical.axiomOfChoice (oth M z (by omega));have I:=λB=>(t B).1;have G:=λB=>(t B).2;have c:A2 (Ae (FQ ((k:Int),(m:Int)) (M:Int)) (((k+(m-k)/4*2-1:Nat):Int),(l,IntKind.wrap .u64 ((m-k:Nat):Int)))) λr=> ∃d:Array EN,r.1=d.toList/\Sort.PermIn k m l.toArray d:=by
   refine AM (λ(s:Int×(List EN×Int))=> ∃(i:Nat) (d:Array EN),s.1=i/\s.2.1=d.toList/\Sort.PermIn k m l.toArray d/\k<=i/\i<=k+(m-k)/4*2+2) (λs=>k+(m-k)/4*2+2-s.1.toNat) ⟨_,l.toArray,rfl,rfl,Sort.permIn_refl _ _ _,by omega⟩ ?_;rintro⟨Z,s2,s3⟩ ⟨i,d,y,w,g,f,P⟩;dsimp only at y w;subst y w;have Y:d.size=l.length:=by rw[g.1];simp
   unfold FQ;dsimp only;simp only[j,p,q,E,I];refine AE (λu=>?_) (λu=>AA ⟨d,rfl,g⟩);have L:i<=k+(m-k)/4*2+1:=by have:=of_decide_eq_true u;omega
   apply AB (ABc (n:=m-k) (Nat.lt_of_le_of_lt (G _) (by omega)) (by omega))
   ·rintro v ⟨o,rfl,X⟩;have A:wi ((k:Int)+(o:Int))=((k+o:Nat):Int):=by rw[O8 (by omega)];omega
    have Q:ix d.toList ((k+o:Nat):Int)=some d[k+o]! :=T9 rfl (by omega);have R:ix d.toList (i:Int)=some d[i]! :=T9 rfl (by omega);have S:ix (BZ d.toList (i:Int) d[k+o]!) ((k+o:Nat):Int)=some (d.setIfInBounds (i:Int).toNat d[k+o]!)[k+o]! :=tn (a:=i) rfl (by omega);have C:=k9 (i:=i) (by omega);simp only[A,Q,R,S,AJ,gJ (d:=d) (a:=i) (b:=k+o) rfl rfl,C];refine AA ⟨⟨i+1,_,rfl,rfl,Sort.permIn_trans _ _ _ _ _ g (Sort.swp_permIn d k m i (k+o) f (by omega) (by omega) (by omega) (by omega)),by omega⟩,?_⟩;show _-((i+1:Nat):Int).toNat<_-((i:Nat):Int).toNat
    omega
  obtain⟨r,q1,d,q2,q3⟩:=c;rw[q1,AJ,q2];exact⟨d,rfl,q3⟩
 ·have e:decide (((m-k:Nat):Int)>=8)=false:=by simp;omega
  rw[e,cond_false];exact⟨l.toArray,rfl,Sort.permIn_refl _ _ _⟩
def mg:Sort.SWO lE where
 irrefl x:=by simp[lE]
 trans x y z h1 h2:=by simp only[lE,decide_eq_true_eq]at*;omega
 ntrans x y z h1 h2:=by simp only[lE,decide_eq_false_iff_not]at*;omega
def PT{α:Type}(T:Prop)(o:Option α)(Q:α->Prop):Prop:=(T-> ∃r,o=some r)/\ ∀r,o=some r->Q r
section
variable {α β γ:Type} {T:Prop}
def PT.some{r:α}{Q:α->Prop}(h:Q r):PT T (.some r) Q:=⟨λ_=>⟨r,rfl⟩,λs e=>by injection e with e;rw[<-e];exact h⟩
def dM{o:Option α}{Q:α->Prop}(h:A2 o Q):PT T o Q:=by obtain⟨r,rfl,h⟩:=h;exact PT.some h
def PT.bind{o:Option α}{k:α->Option β}{P:α->Prop}{Q:β->Prop}(h:PT T o P)(a: ∀r,P r->PT T (k r) Q):PT T (Option.bind o k) Q:=by
 cases o with
 |none=>exact⟨λt=>(by obtain⟨r,h⟩:=h.1 t;cases h),λr e=>(by cases e)⟩
 |some r=>exact a r (h.2 r rfl)
def PT.cond{c:Bool}{a b:Option α}{Q:α->Prop}(d:c=true->PT T a Q)(e:c=false->PT T b Q):PT T (bif c then a else b) Q:=by
 cases c with
 |true=>exact d rfl
 |false=>exact e rfl
def PT.dec{p:Prop}{_:Decidable p}{a b:Option α}{Q:α->Prop}(c:p->PT T a Q)(d: ¬p->PT T b Q):PT T (bif decide p then a else b) Q:=PT.cond (λh=>c (of_decide_eq_true h)) (λh=>d (of_decide_eq_false h))
def PT.not{c:Bool}{a b:Option α}{Q:α->Prop}(d:c=false->PT T a Q)(e:c=true->PT T b Q):PT T (bif !c then a else b) Q:=by
 cases c with
 |true=>exact e rfl
 |false=>exact d rfl
def FY{n m:Nat}{a b:Option α}{Q:α->Prop}(e:n=m)(h:PT T a Q):PT T (bif Nat.beq n m then a else b) Q:=by subst e;rw[show Nat.beq n n=true from Ds n];exact h
def PT.loop{S R:Type}{body:S→Option (Step S R)}(I:S→Prop)(d:S→Nat){Q:R→Prop}{s:S}(g:I s)
  (f: ∀s,I s->PT T (body s) λa=>match a with| .next b=>I b/\d b<d s| .done r=>Q r):PT T (Ae body s) Q:=by
 suffices h: ∀n s,I s->d s<=n->PT T (Ae body s) Q from h _ s g (Aj _)
 intro n;induction n with
 |zero=>
  intro s c hn;have h:=f s c;rw[Cg];revert h;cases body s with
  |none=>intro h;exact⟨λt=>(by obtain⟨r,h⟩:=h.1 t;cases h),λr e=>(by cases e)⟩
  |some a=>
   intro h;have h:=h.2 a rfl;cases a with
   |next b=>exact absurd h.2 (by omega)
   |done r=>exact PT.some h
 |succ n i=>
  intro s c hn;have h:=f s c;rw[Cg];revert h;cases body s with
  |none=>intro h;exact⟨λt=>(by obtain⟨r,h⟩:=h.1 t;cases h),λr e=>(by cases e)⟩
  |some a=>
   intro h;have h:=h.2 a rfl;cases a with
   |next b=>exact i b h.1 (by omega)
   |done r=>exact PT.some h
end
def tG(k m:Nat)(d R:Array EN):Prop:=Sort.PermIn k m d R/\Sort.SortedIn lE k m R
def IV(k0 m0:Nat)(d0:Array EN)(s:Int×(Int×(Int×(Bool×(Bool×List EN))))):Prop:=
 ∃(k m:Nat) (d:Array EN),s.1=k/\s.2.1=m/\s.2.2.2.2.2=d.toList/\k0<=k/\k<=m/\m<=m0/\d.size=d0.size/\Sort.Below lE k m d/\ ∀R,tG k m d R->tG k0 m0 d0 R
def CP(B:Nat):Prop:= ∀(d:Array EN) (k m:Nat),12<m-k->m-k<=B->m<=d.size->d.size<=16777216-> ∃(p:Nat) (h:Int),Dj d.toList ((k:Int),(m:Int))=some ((p:Int),(h,d.toList))/\k<=p/\p<m
def AB0:CP 49:=λd k m c e a b=>AAS rfl rfl (by omega) (by omega) (by simpa using a) (by simpa using b)
def qm{Y:List EN×(Int×(Int×Int))→Option (List EN)}{N B k0 M:Nat}{O:Array EN}(ar:CP B)
  (E: ∀(d:Array EN) (k m:Nat) (V:Int),k<=m->m<=d.size->d.size<=16777216->m-k<=B->Sort.Below lE k m d->PT (m-k<N) (Y (d.toList,((k:Int),((m:Int),V)))) λr=> ∃R:Array EN,r=R.toList/\tG k m d R)
  (a5:M<=O.size) (a4:O.size<=16777216) (hB:M-k0<=B) {s:Int×(Int×(Int×(Bool×(Bool×List EN))))} (hs:IV k0 M O s):
  PT (M-k0<N+1) (Em Y s) λst=>match st with
   | .next s'=>IV k0 M O s'/\(s'.2.1-s'.1).toNat<(s.2.1-s.1).toNat
   | .done r=> ∃R:Array EN,r=R.toList/\tG k0 M O R:=by
 obtain⟨s1,s2,V,wb,wp,l⟩:=s;obtain⟨k,m,d,q1,q2,q3,q4,q5,q6,q7,q8,q9⟩:=hs;dsimp only at q1 q2 q3;subst q1 q2 q3;have f:m<=d.size:=by omega
 have hd:d.size<=16777216:=by omega
 have e0:wi ((m:Int)-(k:Int))=((m-k:Nat):Int):=by rw[O8 (by omega)];omega
 unfold Em;dsimp only;rw[e0];apply PT.dec<;>intro a3
 ·have A:=Sort.insertionSort_holds mg d k m q5 f;have:DW d.toList ((k:Int),(m:Int))=some (Sort.insertionSort lE d k m).toList:=AAZ (l:=d.toList) rfl rfl (by simpa using f) q5 (by simpa using hd);rw[this,AJ];refine FY (by simp[A.1.1]) (PT.some ⟨_,rfl,q9 _ A⟩)
 apply PT.cond<;>intro h0
 ·have A:=Sort.heapSort_holds mg d k m q5 f;have:D5 d.toList ((k:Int),(m:Int))=some (Sort.heapSort lE d k m).toList:=yg (l:=d.toList) rfl rfl q5 (by simpa using f) (by simpa using hd);rw[this,AJ];refine FY (by simp[A.1.1]) (PT.some ⟨_,rfl,q9 _ A⟩)
 have al:12<m-k:=by omega
 refine PT.bind (P:=λ(v:Int×List EN)=> ∃y:Array EN,v.2=y.toList/\Sort.PermIn k m d y) ?_ ?_
 ·refine PT.not (λ_=>?_) (λ_=>PT.some ⟨d,rfl,Sort.permIn_refl _ _ _⟩);obtain⟨y,Q,Z⟩:=yJ (l:=d.toList) (a:=(k:Int)) (b:=(m:Int)) rfl rfl q5 (by simpa using f) (by simpa using hd);rw[Q,AJ];exact FY (by have:=Z.1;simpa using this) (PT.some ⟨y,rfl,Z⟩)
 rintro⟨F,l1⟩ ⟨y,S,p1⟩;dsimp only at S;subst S;have z1:y.size=d.size:=p1.1;dsimp only;obtain⟨p,a2,Q,a0,a1⟩:=ar y k m al (by omega) (by omega) (by omega);rw[Q,AJ];apply FY rfl;refine PT.bind (P:=λ(v:Int×(Int×List EN))=> ∃(p':Nat) (q:Array EN),v.1=p'/\v.2.2=q.toList/\k<=p'/\p'<m/\Sort.PermIn k m d q) ?_ ?_
 ·refine PT.cond (λ_=>?_) (λ_=>PT.some ⟨p,y,rfl,rfl,a0,a1,p1⟩);have hr:=Sort.reverseRange_holds y k m q5 (by omega);have:Dd y.toList ((k:Int),(m:Int))=some (Sort.reverseRange y k m).toList:=AA1 (l:=y.toList) rfl rfl (by omega) (by simp;omega) (by simp;omega);dsimp only;rw[this,AJ];refine FY (by simp[hr.1]) (PT.some ⟨m-1-(p-k),_,?_,rfl,by omega,by omega,Sort.permIn_trans _ _ _ _ _ p1 hr⟩);show wi (wi ((m:Int)-1)-wi ((p:Int)-(k:Int)))=_;rw[O8 (x:=(m:Int)-1) (by omega),O8 (x:=(p:Int)-(k:Int)) (by omega),O8 (by omega)];omega
 rintro⟨p',ax,l2⟩ ⟨z,q,U,T,n,o,H⟩;dsimp only at U T;subst U T;have z2:q.size=d.size:=H.1;have B2:Sort.Below lE k m q:=Sort.Below.perm q8 f H;dsimp only;refine PT.bind (P:=λ(v:List EN ⊕ List EN)=>match v with| .inl u=> ∃e:Array EN,u=e.toList/\Sort.PermIn k m d e| .inr u=> ∃R:Array EN,u=R.toList/\tG k m d R) ?_ ?_
 ·refine PT.cond (λ_=>?_) (λ_=>PT.some ⟨q,rfl,H⟩);refine PT.cond (λ_=>?_) (λ_=>PT.some ⟨q,rfl,H⟩);refine PT.cond (λ_=>?_) (λ_=>PT.some ⟨q,rfl,H⟩);have A:=Sort.partialInsertionSort_holds mg q k m (by omega) (by omega) B2;have:Cp q.toList ((k:Int),(m:Int))=some ((Sort.partialInsertionSort lE q k m).2,(Sort.partialInsertionSort lE q k m).1.toList):=ABe (l:=q.toList) rfl rfl (by omega) (by simp;omega) (by simp;omega);rw[this,AJ];apply FY (by simp[A.1.1]);refine PT.cond (λh=>PT.some ⟨_,rfl,Sort.permIn_trans _ _ _ _ _ H A.1,A.2 h⟩) (λ_=>PT.some ⟨_,rfl,Sort.permIn_trans _ _ _ _ _ H A.1⟩)
 rintro(u|u) hu
 ·obtain⟨e,rfl,p3⟩:=hu;have z3:e.size=d.size:=p3.1;have B3:Sort.Below lE k m e:=Sort.Below.perm q8 f p3;show PT _ (Option.bind _ _) _;refine PT.bind (P:=λ(v:(Int×List EN)⊕ (Int×List EN))=>match v with
   | .inl w=> ∃(c:Nat) (g:Array EN),w=((c:Int),g.toList)/\k<c/\c<=m/\g.size=e.size/\Sort.Below lE c m g/\ ∀R,tG c m g R->tG k m e R
   | .inr w=>w=((k:Int),e.toList)) ?_ ?_
  ·refine PT.dec (λhk=>?_) (λ_=>PT.some rfl);have e1:wi ((k:Int)-1)=((k-1:Nat):Int):=by rw[rE (by omega)];omega
   obtain⟨v,Q,Z⟩:=pA e[k-1]! e[z]!;rw[e1,T9 (k:=k-1) rfl (by omega),T9 (k:=z) rfl (by omega)];simp only[AJ,Q,Z];refine PT.not (λhn=>?_) (λ_=>PT.some rfl);have:DM e.toList ((k:Int),((m:Int),(z:Int)))=some ((((Sort.partitionEqual lE e k m z).1:Nat):Int),(Sort.partitionEqual lE e k m z).2.toList):=xC (l:=e.toList) rfl rfl rfl n o (by simp;omega) (by simp;omega);rw[this,AJ];clear this;generalize K:Sort.partitionEqual lE e k m z=w;obtain⟨c,g⟩:=w;obtain⟨r1,r2,I,W,X⟩:=Sort.round_eq mg (Sort.partitionEqual_holds lE) (by omega) n o (by omega) B3 hn K;refine FY (by simp[I]) (PT.some ⟨_,_,rfl,r1,r2,I,W,λR j=>X R j.1 j.2⟩)
  rintro(w|w) K
  ·obtain⟨c,g,rfl,r1,r2,I,W,X⟩:=K;refine PT.some ⟨⟨c,m,g,rfl,rfl,rfl,by omega,by omega,q6,by omega,W,λR j=>q9 R ?_⟩,?_⟩
   ·have:=X R j;exact⟨Sort.permIn_trans _ _ _ _ _ p3 this.1,this.2⟩
   ·show((m:Int)-(c:Int)).toNat<((m:Int)-(k:Int)).toNat
    omega
  ·subst K;show PT _ (Option.bind _ _) _;have:D0 e.toList ((k:Int),((m:Int),(z:Int)))=some ((((Sort.partition lE e k m z).1:Nat):Int),((Sort.partition lE e k m z).2.1,(Sort.partition lE e k m z).2.2.toList)):=yz (l:=e.toList) rfl rfl rfl n o (by simp;omega) (by simp;omega);dsimp only;rw[this,AJ];clear this;generalize K:Sort.partition lE e k m z=w;obtain⟨c,ap,g⟩:=w;have rp:=Sort.round_part mg (Sort.partition_holds lE) n o (by omega) B3 K;dsimp only;obtain⟨r1,r2,I,W,X,r6,r7⟩:=rp;apply FY (by simp[I]);have e2:wi ((c:Int)-(k:Int))=((c-k:Nat):Int):=by rw[O8 (by omega)];omega
   have e3:wi ((m:Int)-(c:Int))=((m-c:Nat):Int):=by rw[O8 (by omega)];omega
   have e4:=k9 (i:=c) (by omega);rw[e2,e3,e4];refine PT.bind (P:=λ(v:Int×(Int×(Bool×List EN)))=> ∃(C D:Nat) (J:Array EN),v.1=C/\v.2.1=D/\v.2.2.2=J.toList/\k<=C/\C<=D/\D<=m/\D-C<m-k/\J.size=e.size/\Sort.Below lE C D J/\ ∀R,tG C D J R->tG k m e R) ?_ ?_
   ·apply PT.dec<;>intro hc
    ·have hr:=E g k c F r1 (by omega) (by omega) (by omega) W;refine PT.bind (P:=λr=> ∃R:Array EN,r=R.toList/\tG k c g R) ⟨λt=>hr.1 (by omega),hr.2⟩ ?_;rintro r ⟨L,rfl,G⟩;obtain⟨b1,b2⟩:=r6 L G.1 G.2;have zL:L.size=g.size:=G.1.1;refine FY (by show L.toList.length=e.toList.length;rw[DF,DF,zL,I]) (PT.some ⟨c+1,m,L,rfl,rfl,rfl,by omega,by omega,by omega,by omega,by omega,b1,λR j=>b2 R j.1 j.2⟩)
    ·have hr:=E g (c+1) m F (by omega) (by omega) (by omega) (by omega) X;refine PT.bind (P:=λr=> ∃R:Array EN,r=R.toList/\tG (c+1) m g R) ⟨λt=>hr.1 (by omega),hr.2⟩ ?_;rintro r ⟨L,rfl,G⟩;obtain⟨b1,b2⟩:=r7 L G.1 G.2;have zL:L.size=g.size:=G.1.1;refine FY (by show L.toList.length=e.toList.length;rw[DF,DF,zL,I]) (PT.some ⟨k,c,L,rfl,rfl,rfl,by omega,by omega,by omega,by omega,by omega,b1,λR j=>b2 R j.1 j.2⟩)
   ·rintro⟨v1,v2,v3,v4⟩ ⟨C,D,J,h1,h2,h3,h4,h5,h6,h7,h8,h9,ad⟩;dsimp only at h1 h2 h3;subst h1 h2 h3;refine PT.some ⟨⟨C,D,J,rfl,rfl,rfl,by omega,h5,by omega,by omega,h9,λR j=>q9 R ?_⟩,?_⟩
    ·have:=ad R j;exact⟨Sort.permIn_trans _ _ _ _ _ p3 this.1,this.2⟩
    ·show((D:Int)-(C:Int)).toNat<((m:Int)-(k:Int)).toNat
     omega
 ·obtain⟨R,rfl,j⟩:=hu;exact PT.some ⟨R,rfl,q9 R j⟩
def y0(a:List EN×(Int×(Int×Int))->Option (List EN))(l:List EN)(x:Int×(Int×Int)):D1 a l x=Option.bind (Ae (Em a) (x.1,(x.2.1,(x.2.2,(true,(true,l)))))) λv=>some v:=rfl
def kw{B:Nat}(a:CP B): ∀(N:Nat) (d:Array EN) (k m:Nat) (b:Int),k≤m→m≤d.size→d.size≤16777216→m-k≤B→Sort.Below lE k m d→
  PT (m-k<N) (dK (λg p=>D1 g p.1 p.2) N (d.toList,((k:Int),((m:Int),b)))) λr=> ∃R:Array EN,r=R.toList/\tG k m d R
 |0,d,k,m,b,h1,h2,h3,h4,h5=>⟨λt=>absurd t (by omega),λr e=>by cases e⟩
 |N+1,d,k,m,b,h1,h2,h3,h4,h5=>by show PT _ (D1 (dK _ N) d.toList ((k:Int),((m:Int),b))) _;rw[y0];refine PT.bind (P:=λr=> ∃R:Array EN,r=R.toList/\tG k m d R) ?_ λr h=>PT.some h;exact PT.loop (IV k m d) (λs=>(s.2.1-s.1).toNat) ⟨k,m,d,rfl,rfl,rfl,Aj _,h1,Aj _,rfl,h5,λR h=>h⟩ λs c=>⟨(qm a (kw a N) h2 h3 h4 c).1,λf e=>by have:=(qm a (kw a N) h2 h3 h4 c).2 f e;cases f<;>exact this⟩
def AAq{B:Nat}(a:CP B){d:Array EN}{k m:Nat}{lim:Int}(b:k≤m)(c:m≤d.size)(e:d.size≤16777216)(f:m-k≤B)(g:Sort.Below lE k m d):
  A2 (FW d.toList ((k:Int),((m:Int),lim))) λr=> ∃R:Array EN,r=R.toList/\tG k m d R:=by
 unfold FW;obtain⟨r,hr⟩:=(kw a (m-k+1) d k m lim b c e f g).1 (by omega);obtain⟨s,h⟩:=ah hr;obtain⟨N,i⟩:=ZB h;exact⟨s,h,(kw a N d k m lim b c e f g).2 s i⟩
def zS{B:Nat}(c:CP B){l:List EN}(h:l.length<=B)(q:l.length<=16777216):A2 (Cd l ()) λr=>r.Perm l/\r.Pairwise λa b=>a.1<=b.1:=by
 unfold Cd OZ;obtain⟨n,g,-,-⟩:=tD (x:=l.length) q;rw[TD,show(len l)%18446744073709551616=(l.length:Int) by show((l.length:Nat):Int)%_=_;omega,g];simp only[AJ];apply AB (AAq c (d:=l.toArray) (k:=0) (m:=l.length) (lim:=(n:Int)) (by omega) (by simp) (by simpa using q) (by omega) (.inl rfl));rintro r ⟨R,rfl,p,t⟩;have s:R.size=l.length:=by rw[p.1];simp
 have u:Nat.beq (List.length R.toList) (List.length l)=true:=by simp[s]
 rw[u,cond_true];refine AA ⟨?_,?_⟩
 ·have:=p.2.2;rw[show R.extract 0 l.length=R by rw[<-s];exact gO,show l.toArray.extract 0 l.length=l.toArray by rw[show l.length=l.toArray.size by simp];exact gO]at this;exact this
 ·rw[JE];intro i j v w f;have e:i<R.size:=by simpa using v
  have o:j<R.size:=by simpa using w
  have:=t i j (Cc _) f (by omega);rw[getElem!_pos R j o,getElem!_pos R i e]at this;simp only[lE,decide_eq_false_iff_not]at this;simp only[Array.getElem_toList];omega
def Wz{x:AL×Int}(h:x.1.1.length<=16)(a:0<=x.2/\x.2<x.1.1.length):A2 (JG x) λr=>True:=by
 unfold JG;have e:=AY (x:=x.2+1) (by omega);rw[e];refine AC (λb=>?_) (λ_=>?_)
 ·simp only[len]at b;refine AB (AD a.1 a.2) λc _=>?_;exact AB (AD (by omega) b) λd _=>AA trivial
 ·exact AB (AD a.1 a.2) λf _=>AA trivial
theorem fA{x:AL×AU}(h:x.1.1.length<=16):A2 (LZ x) λr=>True:=by
 unfold LZ;refine AB (P:=λ_=>True) ?_ λv _=>Az (λ_ _=>AA trivial) (λ_ _=>AA trivial);refine AM (λ(s:Int)=>0<=s/\s<=x.1.1.length) (λ(s:Int)=>((x.1.1.length:Int)-s).toNat) ⟨Ah _,by omega⟩ (λs c=>?_);unfold PO;have e:=AY (x:=s+1) (by omega);rw[e];refine AC (λa=>?_) (λ_=>AA trivial);simp only[len]at a;have b:((0<=s+1/\s+1<=x.1.1.length)/\((x.1.1.length:Int)-(s+1)).toNat<((x.1.1.length:Int)-s).toNat):=⟨⟨by omega,by omega⟩,by omega⟩
 refine AB (Wz h ⟨c.1,a⟩) λd _=>?_;refine AS (λ_=>?_) (λ_=>AA b);exact AS (λ_=>AA trivial) (λ_=>AA b)
def eu{x:AL×BQ}(h:x.1.1.length<=16)(c:x.2.2.2.length<=2199023255552):A2 (Gk x) λr=>r.2=true->YK r.1:=by unfold Gk;refine AK (λ_=>AA λa=>absurd a (by decide)) (λ_=>?_);refine AB (kf c) λd b=>?_;refine AS (λa=>?_) (λ_=>AA λa=>by cases a);exact AB (fA h) λe _=>AA λ_=>b a
def gC{a b:Int}(f:0<=a)(g:0<=b)(h:a+b<=1099511627776):wi (Int.fdiv (IntKind.wrap .u64 (wi (a+b))) (2^(min (Int.toNat 1) 64)))=(a+b)/2:=by
 have c:wi (a+b)=a+b:=AY (by omega);have d:IntKind.wrap .u64 (a+b)=a+b:=by rw[TD];omega
 have e:(2:Int)^(min (Int.toNat 1) 64)=2:=by decide
 rw[c,d,e,YQ _ (by decide)];exact AY (by omega)
def ZH{x:Int×Int}:A2 (SE x) λr=>r=true↔x.1<x.2:=by unfold SE EL;apply A4;refine AE (λa=>?_) (λ_=>AA (by simp));simp at a
def dY{x:Int}:A2 (EL x) λr=>r=false:=by unfold EL;exact AA (by simp)
def Sn{x:List Int×Int}(h:x.1.length<=16777216):A2 (FC x) λr=>0<=r.1/\r.1<=x.1.length/\(r.2=true->r.1<x.1.length)/\(r.2=false->r.1<x.1.length-> ∀e,x.1[r.1.toNat]? =some e->x.2<e):=by
 unfold FC;refine AB (P:=λ(r:Int)=>0<=r/\r<=x.1.length/\ ∀e,x.1[r.toNat]? =some e->x.2<=e) ?_ λC o=>?_
 ·refine AM (λ(s:Int×Int)=>0<=s.1/\s.1<=s.2/\s.2<=x.1.length/\ ∀e,x.1[s.2.toNat]? =some e->x.2<=e) (λ(s:Int×Int)=>(s.2-s.1).toNat) ⟨Ah _,by simp only[len];omega,by simp only[len];omega,λe a=>?_⟩ (λs u=>?_)
  ·have:(len x.1).toNat=x.1.length:=by simp only[len];omega
   rw[this,BP (Aj _)]at a;cases a
  ·obtain⟨g,z,i,j⟩:=u;unfold Hk;rw[gC g (by omega) (by omega)];refine AC (λb=>?_) (λb=>AA ?_)
   ·refine AB (AD (by omega) (by omega)) λy l=>?_;refine AB ZH λA f=>?_;have k:=AY (x:=(s.1+s.2)/2+1) (by omega);rw[k];refine AB (P:=λ(r:Int×Int)=>(0<=r.1/\r.1<=r.2/\r.2<=(x.1.length:Int)/\ ∀e,x.1[r.2.toNat]? =some e->x.2<=e)/\(r.2-r.1).toNat<(s.2-s.1).toNat) ?_ λB n=>AA n;refine AE (λ_=>AA ⟨⟨by dsimp only;omega,by dsimp only;omega,i,j⟩,by dsimp only;omega⟩) (λv=>AA ⟨⟨g,by dsimp only;omega,by dsimp only;omega,λe a=>?_⟩,by dsimp only;omega⟩);dsimp only at a;rw[l.1]at a;injection a with a;subst a;rw[v]at f;have m: ¬y<x.2:=λq=>by have:=f.2 q;cases this
    omega
   ·have:s.1=s.2:=by omega
    rw[this];exact⟨by omega,i,j⟩
 ·obtain⟨a1,a2,a3⟩:=o;refine AC (λb=>?_) (λb=>AA ⟨a1,a2,λc=>(by cases c),λ_ d=>?_⟩)
  ·simp only[len]at b;refine AB (AD a1 b) λD p=>?_;refine AS (λ_=>AA ⟨a1,a2,λ_=>b,λc=>(by cases c)⟩) (λw=>?_);refine AB (AD a1 b) λE _=>?_;refine AB dY λF t=>?_;refine AE (λc=>?_) (λ_=>AA ⟨a1,a2,λc=>(by cases c),λ_ _ e a=>?_⟩)
   ·rw[t]at c;cases c
   ·have:=a3 e a;dsimp only at a;rw[p.1]at a;injection a with a;subst a;omega
  ·simp only[len]at b;dsimp only at d;omega
def gr{x:AL×Int}(h:VB x.1):A2 (FU x) λr=>True:=by
 obtain⟨⟨j,k,l,b,c,m,n⟩,_⟩:=id h;unfold FU;refine AB (J8 h) λs _=>?_;refine AO (λ_=>AA trivial) (λ_=>?_);refine AC (λ_=>AA trivial) (λo=>?_);refine AC (λ_=>AA trivial) (λp=>?_);refine AB (Sn (by dsimp only;omega)) λa d=>?_;obtain⟨a1,a2,a3,a4⟩:=d;dsimp only at a1 a2 a3 a4;have e:=AY (x:=a.1-1) (by omega);rw[e];refine AB (P:=λ(r:Int)=>0<=r/\r<x.1.1.length) ?_ λt f=>?_
 ·refine AO (λg=>AA ?_) (λi=>AA ⟨a1,a3 i⟩);refine⟨?_,by omega⟩;rcases dv 0 a.1 with q|q
  ·omega
  ·exfalso;have q0:a.1=0:=by omega
   have:=a4 g (by omega) 0 (by rw[q0];exact c);omega
 ·exact AB (Wz b f) λu _=>AA trivial
def MT{α:Type}(b:Bool)(o:Option α)(Q:α->Prop):Prop:=(b=true-> ∃r,o=some r)/\ ∀r,o=some r->Q r
section
variable {α β:Type} {b:Bool}
def MT.some{r:α}{Q:α->Prop}(h:Q r):MT b (.some r) Q:=⟨λ_=>⟨r,rfl⟩,λs e=>by injection e with e;rw[<-e];exact h⟩
def LW{o:Option α}{Q:α->Prop}(h:A2 o Q):MT b o Q:=⟨λ_=>by obtain⟨r,e,_⟩:=h;exact⟨r,e⟩,λr e=>h.get e⟩
def MT.bind{o:Option α}{k:α->Option β}{P:α->Prop}{Q:β->Prop}(h:MT b o P)(d: ∀r,P r->MT b (k r) Q):MT b (Option.bind o k) Q:=by
 refine⟨λc=>?_,λr e=>?_⟩
 ·obtain⟨r,e⟩:=h.1 c;obtain⟨s,a⟩:=(d r (h.2 r e)).1 c;exact⟨s,by rw[e];exact a⟩
 ·obtain⟨s,f,a⟩:=Dt.1 e;exact(d s (h.2 s f)).2 r a
def MT.cond{c:Bool}{x y:Option α}{Q:α->Prop}(a:c=true->MT b x Q)(d:c=false->MT b y Q):MT b (bif c then x else y) Q:=by
 cases c with
 |true=>exact a rfl
 |false=>exact d rfl
def MT.dec{p:Prop}{_:Decidable p}{x y:Option α}{Q:α->Prop}(a:p->MT b x Q)(c: ¬p->MT b y Q):MT b (bif decide p then x else y) Q:=MT.cond (λh=>a (of_decide_eq_true h)) (λh=>c (of_decide_eq_false h))
def MT.beq{a:Type}{_:BEq a} [LawfulBEq a] {x y:a}{u v:Option α}{Q:α->Prop}(c:x=y->MT b u Q)(d:x≠y->MT b v Q):MT b (bif x==y then u else v) Q:=MT.cond (λh=>c (eq_of_beq h)) (λh=>d (ne_of_beq_false h))
end
def SP{α:Type}(l r:List α):Prop:=r.length=l.length/\ ∀e∈r,e∈l
def SP.refl{a:Type}(l:List a):SP l l:=⟨rfl,λ_ h=>h⟩
def SP.trans{f:Type}{a b c:List f}(h:SP a b)(g:SP b c):SP a c:=⟨g.1.trans h.1,λe d=>h.2 e (g.2 e d)⟩
def Pa{a:Type}{l:List a}{i:Int}{x:a}:(BZ l i x).length=l.length:=by simp[BZ]
def SP.put{b:Type}{l m:List b}{i:Int}{x:b}(h:SP l m)(c:x∈l):SP l (BZ m i x):=
 ⟨by rw[Pa];exact h.1,λe a=>by
  unfold BZ at a;rcases Q2 a with q|q
  ·exact h.2 e q
  ·rw[q];exact c⟩
def o7{e:Type}{a b:List e}{c:Type}{x:Option c}{Q:c->Prop}(h:SP a b)(d:A2 x Q):A2 (bif Nat.beq (List.length b) (List.length a)then x else none) Q:=by rw[h.1,Ds];exact d
def wu{f:Type}{a b:List f}{d:Type}{c:Bool}{x:Option d}{Q:d->Prop}(h:SP a b)(e:MT c x Q):MT c (bif Nat.beq (List.length b) (List.length a)then x else none) Q:=by rw[h.1,Ds];exact e
abbrev NL:=List Ap
def Ms{x:Ap×Ap}:A2 (Fw x) λr=>True:=by unfold Fw;refine AB JO λ_ _=>?_;refine AB JO λ_ _=>?_;refine AB JO λ_ _=>?_;exact AB (dQ (by simp)) λ_ _=>AA trivial
def s9{l:NL}{x:Int×Int×Int}(h:l.length<=16777216)(e:0<=x.1/\0<=x.2.1/\x.1+x.2.2<=l.length/\x.2.1+x.2.2<=l.length):A2 (Bz l x) λr=>SP l r:=by obtain⟨a1,a2,a3,a4⟩:=e;unfold Bz;refine AB (P:=λr=>SP l r) ?_ λv j=>AA j;refine AM (λ(s:Int×NL)=>0<=s.1/\SP l s.2) (λ(s:Int×NL)=>(x.2.2-s.1).toNat) ⟨Ah _,SP.refl l⟩ (λs i=>?_);obtain⟨m,a⟩:=i;have n:=a.1;unfold E6;refine AC (λk=>?_) (λ_=>AA a);have b:=AY (x:=x.2.1+s.1) (by omega);have c:=AY (x:=x.1+s.1) (by omega);have d:=AY (x:=s.1+1) (by omega);rw[b,c,d];refine AB (AD (by omega) (by omega)) λo _=>?_;refine AB (AD (by omega) (by omega)) λp f=>?_;refine AB (AD (by omega) (by omega)) λq _=>?_;refine AB (AD (by omega) (by omega)) λt g=>?_;refine AB (AD (by omega) (by omega)) λu _=>?_;refine AB (AD (by omega) (by omega)) λw _=>?_;refine AB (AD (by omega) (by rw[Pa];omega)) λy _=>?_;refine AB (AD (by omega) (by rw[Pa];omega)) λz _=>AA ⟨⟨by dsimp only;omega,?_⟩,by dsimp only;omega⟩;exact(a.put (a.2 _ f.2)).put (a.2 _ g.2)
theorem ABk{l:NL}{x:Int×Int×Int}(h:l.length<=16777216)(p:0<=x.1/\x.1<x.2.1/\x.2.1<x.2.2/\x.2.2<=l.length):A2 (Cw l x) λr=>SP l r:=by
 obtain⟨a1,a2,a3,a4⟩:=p;unfold Cw;have i:=AY (x:=x.2.1-x.1) (by omega);have j:=AY (x:=x.2.2-x.2.1) (by omega);rw[i,j];refine AB (P:=λr=>0<r.1/\r.1<=x.2.1-x.1/\r.1<=x.2.2-x.2.1/\SP l r.2) ?_ λA q=>?_
 ·refine AM (λ(s:Int×Int×NL)=>0<s.1/\0<s.2.1/\s.1<=x.2.1-x.1/\s.2.1<=x.2.2-x.2.1/\SP l s.2.2) (λ(s:Int×Int×NL)=>(s.1+s.2.1).toNat) ⟨by dsimp only;omega,by dsimp only;omega,by dsimp only;omega,by dsimp only;omega,SP.refl l⟩ (λs t=>?_);obtain⟨f,w,g,y,c⟩:=t;have G:=c.1;unfold Fq;refine AK (λv=>?_) (λu=>AA ⟨f,g,by dsimp only;omega,c⟩);have d:=AY (x:=x.2.1-s.1) (by omega);have k:=AY (x:=s.1-s.2.1) (by omega);have m:=AY (x:=x.2.1+s.2.1) (by omega);have n:=AY (x:=x.2.1+s.2.1-s.1) (by omega);have o:=AY (x:=s.2.1-s.1) (by omega);rw[d,k,m,n,o];refine AC ?_ ?_<;>intro F
  ·refine AB (s9 (by omega) ⟨by dsimp only;omega,by dsimp only;omega,by dsimp only;omega,by dsimp only;omega⟩) λz a=>?_;exact o7 a (AA ⟨⟨by dsimp only;omega,w,by dsimp only;omega,y,c.trans a⟩,by dsimp only;omega⟩)
  ·refine AB (s9 (by omega) ⟨by dsimp only;omega,by dsimp only;omega,by dsimp only;omega,by dsimp only;omega⟩) λz a=>?_;exact o7 a (AA ⟨⟨f,by dsimp only;omega,g,by dsimp only;omega,c.trans a⟩,by dsimp only;omega⟩)
 ·obtain⟨B,C,D,e⟩:=q;have E:=e.1;have d:=AY (x:=x.2.1-A.1) (by omega);rw[d];refine AB (s9 (by omega) ⟨by dsimp only;omega,by dsimp only;omega,by dsimp only;omega,by dsimp only;omega⟩) λH b=>?_;exact o7 b (AA (e.trans b))
def zl{l:NL}{x:Int×Int}(h:l.length<=16777216)(i:0<=x.1/\x.1<=l.length/\x.2<=l.length):A2 (B6 l x) λr=>SP l r:=by obtain⟨a1,y,a2⟩:=i;unfold B6;have e:=AY (x:=x.1+1) (by omega);rw[e];refine AB (P:=λr=>SP l r) ?_ λv c=>AA c;refine AM (λ(s:Int×NL)=>x.1<s.1/\SP l s.2) (λ(s:Int×NL)=>(x.2-s.1).toNat) ⟨by dsimp only;omega,SP.refl l⟩ (λs k=>?_);obtain⟨z,d⟩:=k;have A:=d.1;unfold CK;refine AC (λn=>?_) (λ_=>AA d);have f:=AY (x:=s.1+1) (by omega);rw[f];refine AB (P:=λr=>SP l r) ?_ λv c=>AA ⟨⟨by dsimp only;omega,c⟩,by dsimp only;omega⟩;refine AM (λ(t:Int×NL)=>x.1<=t.1/\t.1<=s.1/\SP l t.2) (λ(t:Int×NL)=>(t.1-x.1).toNat) ⟨by omega,Ah _,d⟩ (λt m=>?_);obtain⟨B,C,a⟩:=m;have D:=a.1;unfold Cj;refine AC (λn=>?_) (λ_=>AA a);have g:=AY (x:=t.1-1) (by omega);rw[g];refine AB (AD (by omega) (by omega)) λE _=>?_;refine AB (AD (by omega) (by omega)) λF _=>?_;refine AB (AD (by omega) (by omega)) λG _=>?_;refine AB (AD (by omega) (by omega)) λH _=>?_;refine AB Ms λI _=>?_;refine AC (λ_=>?_) (λ_=>AA a);refine AB (AD (by omega) (by omega)) λJ _=>?_;refine AB (AD (by omega) (by omega)) λK j=>?_;refine AB (AD (by omega) (by omega)) λL _=>?_;refine AB (AD (by omega) (by omega)) λo b=>?_;refine AB (AD (by omega) (by omega)) λp _=>?_;refine AB (AD (by omega) (by omega)) λq _=>?_;refine AB (AD (by omega) (by rw[Pa];omega)) λu _=>?_;refine AB (AD (by omega) (by rw[Pa];omega)) λw _=>AA ⟨⟨by dsimp only;omega,by dsimp only;omega,?_⟩,by dsimp only;omega⟩;exact(a.put (a.2 _ j.2)).put (a.2 _ b.2)
theorem ABr{c:Bool}{g:NL×Int×Int×Int→Option NL}{l:NL}{x:Int×Int×Int}(h:l.length≤16777216)(h1:0≤x.1∧x.1<x.2.1∧x.2.1<x.2.2∧x.2.2≤l.length)
  (Y: ∀(m:NL) (a k e:Int),SP l m->0<=a->a<k->k<e->e<=l.length->e-a<x.2.2-x.1->MT c (g (m,(a,(k,e)))) λr=>SP m r):MT c (BJ g l x) λr=>SP l r:=by
 obtain⟨a1,a2,a3,a4⟩:=h1;unfold BJ;have w1:=AY (x:=x.2.1-x.1) (by omega);have w2:=AY (x:=x.2.2-x.2.1) (by omega);rw[w1,w2];refine MT.beq (λhe=>?_) (λap=>?_)
 ·refine MT.bind (P:=λ(r:Int)=>x.2.1<=r/\r<=x.2.2) (LW ?_) λv6 h6=>LW ?_
  ·refine AM (λ(s:Int×Int)=>x.2.1<=s.1/\s.1<=s.2/\s.2<=x.2.2) (λ(s:Int×Int)=>(s.2-s.1).toNat) ⟨Ah _,by omega,Ah _⟩ (λs p=>?_);obtain⟨n,j,z⟩:=p;unfold Ce;rw[gC (by omega) (by omega) (by omega)];refine AC (λf=>?_) (λf=>AA ⟨n,by omega⟩);have o:=AY (x:=(s.1+s.2)/2+1) (by omega);rw[o];refine AB (AD (by omega) (by omega)) λ_ _=>?_;refine AB (AD (by omega) (by omega)) λ_ _=>?_;refine AB (AD (by omega) (by omega)) λ_ _=>?_;refine AB (AD (by omega) (by omega)) λ_ _=>?_;refine AB Ms λ_ _=>?_;exact AC (λ_=>AA ⟨⟨by dsimp only;omega,by dsimp only;omega,z⟩,by dsimp only;omega⟩) (λ_=>AA ⟨⟨n,by dsimp only;omega,by dsimp only;omega⟩,by dsimp only;omega⟩)
  ·refine AB (P:=λr=>SP l r) ?_ λv i=>AA i;refine AM (λ(s:Int×NL)=>x.1<=s.1/\SP l s.2) (λ(s:Int×NL)=>(v6-s.1).toNat) ⟨Ah _,SP.refl l⟩ (λs p=>?_);obtain⟨n,j⟩:=p;have z:=j.1;unfold C6;have e0:=AY (x:=v6-1) (by omega);rw[e0];refine AC (λf=>?_) (λ_=>AA j);have o:=AY (x:=s.1+1) (by omega);rw[o];refine AB (AD (by omega) (by omega)) λv8 _=>?_;refine AB (AD (by omega) (by omega)) λv9 K=>?_;refine AB (AD (by omega) (by omega)) λN _=>?_;refine AB (AD (by omega) (by omega)) λO y=>?_;refine AB (AD (by omega) (by omega)) λQ _=>?_;refine AB (AD (by omega) (by omega)) λR _=>?_;refine AB (AD (by omega) (by rw[Pa];omega)) λS _=>?_;refine AB (AD (by omega) (by rw[Pa];omega)) λT _=>AA ⟨⟨by dsimp only;omega,?_⟩,by dsimp only;omega⟩;exact(j.put (j.2 _ K.2)).put (j.2 _ y.2)
 refine MT.beq (λhe=>?_) (λZ=>?_)
 ·refine MT.bind (P:=λ(r:Int)=>x.1<=r/\r<=x.2.1) (LW ?_) λU ad=>LW ?_
  ·refine AM (λ(s:Int×Int)=>x.1<=s.1/\s.1<=s.2/\s.2<=x.2.1) (λ(s:Int×Int)=>(s.2-s.1).toNat) ⟨Ah _,by dsimp only;omega,Ah _⟩ (λs p=>?_);obtain⟨n,j,z⟩:=p;unfold Bs;rw[gC (by omega) (by omega) (by omega)];refine AC (λf=>?_) (λf=>AA ⟨n,by omega⟩);have o:=AY (x:=(s.1+s.2)/2+1) (by omega);rw[o];refine AB (AD (by omega) (by omega)) λ_ _=>?_;refine AB (AD (by omega) (by omega)) λ_ _=>?_;refine AB (AD (by omega) (by omega)) λ_ _=>?_;refine AB (AD (by omega) (by omega)) λ_ _=>?_;refine AB Ms λ_ _=>?_;exact AO (λ_=>AA ⟨⟨by dsimp only;omega,by dsimp only;omega,z⟩,by dsimp only;omega⟩) (λ_=>AA ⟨⟨n,by dsimp only;omega,by dsimp only;omega⟩,by dsimp only;omega⟩)
  ·refine AB (P:=λr=>SP l r) ?_ λv i=>AA i;refine AM (λ(s:Int×NL)=>s.1<=x.2.1/\SP l s.2) (λ(s:Int×NL)=>(s.1-U).toNat) ⟨Ah _,SP.refl l⟩ (λs p=>?_);obtain⟨n,j⟩:=p;have z:=j.1;unfold C7;refine AC (λf=>?_) (λ_=>AA j);have o:=AY (x:=s.1-1) (by omega);rw[o];refine AB (AD (by omega) (by omega)) λv8 _=>?_;refine AB (AD (by omega) (by omega)) λv9 K=>?_;refine AB (AD (by omega) (by omega)) λN _=>?_;refine AB (AD (by omega) (by omega)) λO y=>?_;refine AB (AD (by omega) (by omega)) λQ _=>?_;refine AB (AD (by omega) (by omega)) λR _=>?_;refine AB (AD (by omega) (by rw[Pa];omega)) λS _=>?_;refine AB (AD (by omega) (by rw[Pa];omega)) λT _=>AA ⟨⟨by dsimp only;omega,?_⟩,by dsimp only;omega⟩;exact(j.put (j.2 _ K.2)).put (j.2 _ y.2)
 have B:=gC (a:=x.1) (b:=x.2.2) (by omega) (by omega) (by omega);unfold CD;rw[B];generalize hM:(x.1+x.2.2)/2=M;have m1:x.1<M/\M<x.2.2/\2*M<=x.1+x.2.2/\x.1+x.2.2<=2*M+1:=by omega
 obtain⟨m1,m2,m3,m4⟩:=m1;have w3:=AY (x:=M+x.2.1) (by omega);have w4:=AY (x:=M+x.2.1-x.2.2) (by omega);have w5:=AY (x:=M+x.2.1-1) (by omega);rw[w3,w4,w5];refine MT.bind (P:=λ(r:Int×Int)=>x.1<=r.1/\r.1<=r.2/\r.2<=x.2.1/\r.2<=M/\M+x.2.1-r.1<=x.2.2/\ ∀k:Int,r.1<=k->k<r.2->0<=M+x.2.1-1-k/\M+x.2.1-1-k<l.length) ?_ λt G=>?_
 ·refine MT.dec (λf=>MT.some ⟨by dsimp only;omega,by dsimp only;omega,by dsimp only;omega,Ah _,by dsimp only;omega,λk q1 q2=>by dsimp only at q1 q2;omega⟩) (λf=>MT.some ⟨Ah _,by dsimp only;omega,Ah _,by dsimp only;omega,by dsimp only;omega,λk q1 q2=>by dsimp only at q1 q2;omega⟩)
 obtain⟨p1,p2,p3,p4,p6,p5⟩:=G;refine MT.bind (P:=λ(r:Int)=>t.1<=r/\r<=t.2) (LW ?_) λd H=>?_
 ·refine AM (λ(s:Int×Int)=>t.1<=s.1/\s.1<=s.2/\s.2<=t.2) (λ(s:Int×Int)=>(s.2-s.1).toNat) ⟨Ah _,p2,Ah _⟩ (λs p=>?_);obtain⟨n,j,z⟩:=p;rw[gC (by omega) (by omega) (by omega)];refine AC (λf=>?_) (λf=>AA ⟨n,by omega⟩);have q:=p5 ((s.1+s.2)/2) (by omega) (by omega);have o:=AY (x:=(s.1+s.2)/2+1) (by omega);have e2:=AY (x:=M+x.2.1-1-(s.1+s.2)/2) (by omega);rw[o,e2];refine AB (AD q.1 q.2) λ_ _=>?_;refine AB (AD q.1 q.2) λ_ _=>?_;refine AB (AD (by omega) (by omega)) λ_ _=>?_;refine AB (AD (by omega) (by omega)) λ_ _=>?_;refine AB Ms λ_ _=>?_;exact AO (λ_=>AA ⟨⟨by dsimp only;omega,by dsimp only;omega,z⟩,by dsimp only;omega⟩) (λ_=>AA ⟨⟨n,by dsimp only;omega,by dsimp only;omega⟩,by dsimp only;omega⟩)
 obtain⟨r1,r2⟩:=H;have w6:=AY (x:=M+x.2.1-d) (by omega);rw[w6]
 have tail: ∀m:NL,SP l m→MT c (bif (decide (M<M+x.2.1-d))then
   Option.bind ((bif (decide (M+x.2.1-d<x.2.2))then
      Option.bind (g (m,(M,(M+x.2.1-d,x.2.2)))) λF=>bif (Nat.beq (List.length F) (List.length m))then some F else none
     else some m):(Option NL)) λW=>some W
  else some m) λr=>SP l r:=λm w=>by
  refine MT.dec (λf=>?_) (λ_=>MT.some w);refine MT.bind (P:=λr=>SP l r) ?_ λv i=>MT.some i;refine MT.dec (λL=>?_) (λ_=>MT.some w);exact MT.bind (Y m M _ _ w (by omega) f L (by omega) (by omega)) λv i=>wu i (MT.some (w.trans i))
 have u:x.1<d→ ∀m:NL,SP l m→MT c ((bif (decide (d<M))then
      Option.bind (g (m,(x.1,(d,M)))) λE=>bif (Nat.beq (List.length E) (List.length m))then some E else none
     else some m):(Option NL)) λr=>SP l r:=λC m w=>by
  refine MT.dec (λf=>?_) (λ_=>MT.some w);exact MT.bind (Y m x.1 d M w (by omega) C f (by omega) (by omega)) λv i=>wu i (MT.some (w.trans i))
 refine MT.dec (λal=>?_) (λ_=>?_)
 ·refine MT.bind (P:=λr=>SP l r) ?_ λD A=>?_
  ·refine MT.dec (λf=>?_) (λ_=>MT.some (SP.refl l));exact MT.bind (LW (ABk h ⟨by dsimp only;omega,by dsimp only;omega,by dsimp only;omega,by dsimp only;omega⟩)) λv i=>wu i (MT.some i)
  ·refine MT.dec (λC=>?_) (λ_=>tail D A);exact MT.bind (u C D A) λV I=>tail V I
 ·refine MT.dec (λC=>?_) (λ_=>tail l (SP.refl l));exact MT.bind (u C l (SP.refl l)) λX J=>tail X J
def xf(c:Bool): ∀(n:Nat) {l:NL} {x:Int×Int×Int},l.length≤16777216→0≤x.1∧x.1<x.2.1∧x.2.1<x.2.2∧x.2.2≤l.length→(c=true→x.2.2-x.1≤n)→
  MT c (dK (λg (p:NL×Int×Int×Int)=>BJ g p.1 p.2) n (l,x)) λr=>SP l r
 |0,l,x,h,h1,hn=>⟨λb=>by have:=hn b;omega,λr e=>by cases e⟩
 |n+1,l,x,h,h1,hn=>by show MT c (BJ _ l x) λr=>SP l r;refine ABr h h1 λm a k e j d i f o q=>?_;have s:=j.1;exact xf c n (by omega) ⟨d,i,f,by dsimp only;omega⟩ λb=>by have:=hn b;dsimp only;omega
def zu{l:NL}{x:Int×Int×Int}(h:l.length<=16777216)(a:0<=x.1/\x.1<x.2.1/\x.2.1<x.2.2/\x.2.2<=l.length):A2 (CV l x) λr=>SP l r:=by unfold CV;obtain⟨r,hr⟩:=(xf true (x.2.2-x.1).toNat h a λ_=>by omega).1 rfl;obtain⟨s,b⟩:=ah hr;obtain⟨n,hn⟩:=ZB b;exact⟨s,b,(xf false n h a λc=>by cases c).2 s hn⟩
def xY{l:NL}{x:Int}(h:l.length<=1048576)(H:x=l.length):A2 (Cz l x) λr=>SP l r:=by
 unfold Cz;refine AB (P:=λr=>0<=r.1/\r.1<=x/\SP l r.2) ?_ λN z=>?_
 ·refine AM (λ(s:Int×Int×NL)=>0<=s.1/\s.1<=x/\s.2.1=s.1+20/\SP l s.2.2) (λ(s:Int×Int×NL)=>(x-s.1).toNat) ⟨Ah _,by dsimp only;omega,rfl,SP.refl l⟩ (λs f=>?_);obtain⟨g,p,b,c⟩:=f;have I:=c.1;unfold Fs;refine AC (λo=>?_) (λ_=>AA ⟨g,p,c⟩);have e:=AY (x:=s.2.1+20) (by omega);rw[e];refine AB (zl (by omega) ⟨g,by dsimp only;omega⟩) λv a=>?_;exact o7 a (AA ⟨⟨by dsimp only;omega,by dsimp only;omega,rfl,c.trans a⟩,by dsimp only;omega⟩)
 ·obtain⟨u,F,k⟩:=z;have G:=k.1;refine AB (zl (by omega) ⟨u,by dsimp only;omega⟩) λO n=>o7 n ?_;refine AB (P:=λr=>SP l r) ?_ λv a=>AA a;refine AM (λ(s:Int×NL)=>20<=s.1/\s.1<=2097152/\SP l s.2) (λ(s:Int×NL)=>(x-s.1).toNat) ⟨Ah _,by dsimp only;omega,k.trans n⟩ (λs f=>?_);obtain⟨g,p,b⟩:=f;have c:=b.1;unfold Ft;refine AC (λo=>?_) (λ_=>AA b);have m:=AY (x:=2*s.1) (by omega);have w:=AY (x:=s.1*2) (by omega);rw[m,w];refine AB (P:=λr=>0<=r.1/\r.1<=x/\SP l r.2) ?_ λE A=>?_
  ·refine AM (λ(t:Int×Int×NL)=>0<=t.1/\t.1<=x/\t.2.1=t.1+2*s.1/\SP l t.2.2) (λ(t:Int×Int×NL)=>(x-t.1).toNat) ⟨Ah _,by dsimp only;omega,by dsimp only;omega,b⟩ (λt B=>?_);obtain⟨q,D,J,i⟩:=B;have K:=i.1;unfold Fu;refine AC (λo=>?_) (λ_=>AA ⟨q,D,i⟩);have d:=AY (x:=t.1+s.1) (by omega);have y:=AY (x:=t.2.1+2*s.1) (by omega);rw[d,m,y];refine AB (zu (by omega) ⟨q,by dsimp only;omega⟩) λv a=>?_;exact o7 a (AA ⟨⟨by dsimp only;omega,by dsimp only;omega,rfl,i.trans a⟩,by dsimp only;omega⟩)
  ·obtain⟨k1,L,j⟩:=A;have M:=j.1;have d:=AY (x:=E.1+s.1) (by omega);rw[d];refine AC (λC=>?_) (λ_=>AA ⟨⟨by dsimp only;omega,by dsimp only;omega,j⟩,by dsimp only;omega⟩);refine AB (zu (by omega) ⟨k1,by dsimp only;omega⟩) λv a=>?_;exact o7 a (AA ⟨⟨by dsimp only;omega,by dsimp only;omega,j.trans a⟩,by dsimp only;omega⟩)
def AA3{l:NL}{x:Unit}(h:l.length<=1048576):A2 (Bv l x) λr=>SP l r:=by unfold Bv;exact AB (xY h rfl) λv a=>o7 a (AA a)
def DS(a:AL):Prop:= ∀f∈a.2.2.1,f.2.2.length<=2199023255552
def SpL(l:List EO):Prop:=l.length<=16777216/\ ∀s∈l,1<=s.1
def Zn{n:Int}{v:EN}: ∀{m:List (Int×EN)},(m.map (·.1)).Nodup-> ∀q,q∈Sp n v m↔q=(n,v)\/(q∈m/\q.1≠n)
 |[],_,q=>by simp[Sp]
 |p::r,h,q=>by
  rw[BE,FF]at h;unfold Sp;by_cases b:p.1=n
  ·have:(p.1==n)=true:=by simp[b]
   rw[this,cond_true];constructor
   ·intro a;rcases Al.1 a with a|a
    ·exact .inl a
    ·refine .inr ⟨Bq _ a,λe=>h.1 ?_⟩;rw[b,<-e];exact Ny a
   ·rintro(a|⟨a,hn⟩)
    ·exact Al.2 (.inl a)
    ·rcases Al.1 a with a|a
     ·exact absurd (by rw[a];exact b) hn
     ·exact Bq _ a
  ·have:(p.1==n)=false:=by simp[b]
   rw[this,cond_false];constructor
   ·intro a;rcases Al.1 a with a|a
    ·exact .inr ⟨Al.2 (.inl a),by rw[a];exact b⟩
    ·rcases(Zn h.2 q).1 a with a|⟨a,hn⟩
     ·exact .inl a
     ·exact .inr ⟨Bq _ a,hn⟩
   ·rintro(a|⟨a,hn⟩)
    ·exact Bq _ ((Zn h.2 q).2 (.inl a))
    ·rcases Al.1 a with a|a
     ·exact Al.2 (.inl a)
     ·exact Bq _ ((Zn h.2 q).2 (.inr ⟨a,hn⟩))
def np{n:Int}{v:EN}: ∀{m:List (Int×EN)},(m.map (·.1)).Nodup->((Sp n v m).map (·.1)).Nodup
 |[],_=>by simp[Sp]
 |p::r,h=>by
  have c:=h;rw[BE,FF]at h;unfold Sp;by_cases b:p.1=n
  ·have:(p.1==n)=true:=by simp[b]
   rw[this,cond_true,BE,FF];exact⟨by rw[<-b];exact h.1,h.2⟩
  ·have:(p.1==n)=false:=by simp[b]
   rw[this,cond_false,BE,FF];refine⟨λa=>?_,np h.2⟩;obtain⟨q,a,e⟩:=BX.1 a;rcases(Zn h.2 q).1 a with a|⟨a,hn⟩
   ·rw[a]at e;exact b e.symm
   ·exact h.1 (by rw[<-e];exact Ny a)
def nl{n:Int}{e:EN}: ∀{m:List (Int×EN)},Pb n m=some e->(n,e)∈m
 |[],h=>by cases h
 |p::r,h=>by
  unfold Pb at h;by_cases a:p.1=n
  ·have:(p.1==n)=true:=by simp[a]
   rw[this,cond_true]at h;injection h with h;rw[<-a,<-h];exact Al.2 (.inl rfl)
  ·have:(p.1==n)=false:=by simp[a]
   rw[this,cond_false]at h;exact Bq _ (nl h)
def nk{n:Int}: ∀{m:List (Int×EN)},Pb n m=none-> ∀q∈m,q.1≠n
 |[],_,q,a=>by cases a
 |p::r,h,q,a=>by
  unfold Pb at h;by_cases b:p.1=n
  ·have:(p.1==n)=true:=by simp[b]
   rw[this,cond_true]at h;cases h
  ·have:(p.1==n)=false:=by simp[b]
   rw[this,cond_false]at h;rcases Al.1 a with a|a
   ·rw[a];exact b
   ·exact nk h q a
def O9(m:List (Int×EN))(P:EN->Prop):Prop:=(m.map (·.1)).Nodup/\(∀q∈m,q.1=q.2.1)/\ ∀e,(e.1,e)∈m↔P e
def O9.nil:O9 [] λ_=>False:=⟨PG,by simp,by simp⟩
def O9.put{m:List (Int×EN)}{P:EN->Prop}{v:EN}(h:O9 m P):O9 (Sp v.1 v m) λe=>e=v\/(P e/\e.1≠v.1):=by
 refine⟨np h.1,λq a=>?_,λe=>?_⟩
 ·rcases(Zn h.1 q).1 a with a|⟨a,_⟩
  ·rw[a]
  ·exact h.2.1 q a
 ·rw[Zn h.1];constructor
  ·rintro(a|⟨a,hn⟩)
   ·injection a with _ a;exact .inl a
   ·exact .inr ⟨(h.2.2 e).1 a,hn⟩
  ·rintro(rfl|⟨a,hn⟩)
   ·exact .inl rfl
   ·exact .inr ⟨(h.2.2 e).2 a,hn⟩
def O9.congr{m:List (Int×EN)}{P Q:EN->Prop}(h:O9 m P)(a: ∀e,P e↔Q e):O9 m Q:=⟨h.1,h.2.1,λe=>(h.2.2 e).trans (a e)⟩
def O9.get{m:List (Int×EN)}{P:EN->Prop}(h:O9 m P){e:EN}(k:P e):Pb e.1 m=some e:=by
 have j:=(h.2.2 e).2 k;cases i:Pb e.1 m with
 |none=>exact absurd rfl (nk i _ j)
 |some f=>
  have o:=nl i;have q: ∀{l:List (Int×EN)},(l.map (·.1)).Nodup-> ∀{n:Int} {a b:EN},(n,a)∈l->(n,b)∈l->a=b:=by
   intro l;induction l with
   |nil=>intro _ n a b d;cases d
   |cons p r s=>
    intro g n a b d c;rw[BE,FF]at g;rcases Al.1 d with d|d
    ·rcases Al.1 c with c|c
     ·rw[<-d]at c;injection c with _ c;exact c.symm
     ·exact absurd (by rw[<-d];exact Ny (f:=(·.1)) c) g.1
    ·rcases Al.1 c with c|c
     ·exact absurd (by rw[<-c];exact Ny (f:=(·.1)) d) g.1
     ·exact s g.2 d c
  rw[q h.1 j o]
def fH(e:EN):Bool:=(e.2.1==1)||(e.2.1==2)
def lU(e:EN):A7 e=some (fH e):=by unfold A7 fH;cases e.2.1==1<;>rfl
def Qr(p i j:Int)(e:EN):Bool:=fH e&&((e.2.2.2.2.2.2.1.1==p)&&(decide (e.1>i)&&decide (e.1<=j)))
def Ou(s:Int×Int)(n:Int):Bool:=decide (n>=s.1)&&decide (n<=s.2)
def has_eq(s:Int×Int)(n:Int):GB (s,n)=some (Ou s n):=by unfold GB Ou;dsimp only;cases decide (n>=s.1)<;>rfl
def ABW{e:EN}{l:List (Int×Int)}(p:l.length<=16777216):A2 (Ae (UH e l) 0) λr=>(∀u,r= .inl u->0<=u/\(l.any λs=>Ou s e.1)=true)/\(∀u,r= .inr u->(l.any λs=>Ou s e.1)=false):=by
 refine AM (λ(s:Int)=>0<=s/\s<=l.length/\ ∀x∈l.take s.toNat,Ou x e.1=false) (λ(s:Int)=>((l.length:Int)-s).toNat) ⟨Ah _,by omega,by simp⟩ (λs k=>?_);obtain⟨i,q,d⟩:=k;unfold UH;refine AC (λc=>?_) (λc=>AA ⟨λu b=>(by cases b),λu _=>?_⟩)
 ·simp only[len]at c;have j:=AY (x:=s+1) (by omega);rw[j];refine AB (AD i c) λo f=>?_;rw[has_eq,AJ];refine AE (λn=>AA ⟨λu b=>?_,λu b=>(by cases b)⟩) (λm=>AA ⟨⟨by omega,by omega,λx a=>?_⟩,by omega⟩)
  ·cases b;exact⟨i,TN.2 ⟨o,f.2,n⟩⟩
  ·rw[show(s+1).toNat=s.toNat+1 by omega,Ff,f.1]at a;rcases Ar.1 a with a|a
   ·exact d x a
   ·simp only[J6,A5]at a;rw[a];exact m
 ·simp only[len]at c;rw[Dq (by omega)]at d;rw[Bool.eq_false_iff];intro h;obtain⟨x,a,g⟩:=TN.1 h;rw[d x a]at g;cases g
def ABV{a:AL}{l:Am}{p i j:Int}{d:List (Int×Int)}(R:D3 l)(hv:1≤d.length)(S:d.length≤16777216):
  A2 (Ae (UG (a,(l,(p,(i,j)))) d) (0,(0,[]))) λr=>r.1=((l.2.1.filter λe=>Qr p i j e&&(d.tail.any λs=>Ou s e.1)).length:Int)/\O9 r.2 λe=>e∈l.2.1/\Qr p i j e=true:=by
 obtain⟨l1,l2,l3,l4,l5,K⟩:=R;refine AM (λ(s:Int×(Int×List (Int×EN)))=>0<=s.1/\s.1<=l.2.1.length/\s.2.1=(((l.2.1.take s.1.toNat).filter λe=>Qr p i j e&&(d.tail.any λs=>Ou s e.1)).length:Int)/\O9 s.2.2 λe=>e∈l.2.1.take s.1.toNat/\Qr p i j e=true) (λs=>((l.2.1.length:Int)-s.1).toNat)
  ⟨Ah _,by dsimp only;omega,by simp,O9.nil.congr λe=>by simp⟩ (λs O=>?_)
 obtain⟨T,i2,A,B⟩:=O;unfold UG;dsimp only;refine AC (λy=>?_) (λy=>AA ?_)
 ·simp only[len]at y;have L:=AY (x:=s.1+1) (by omega);rw[L];refine AB (AD T y) λq I=>?_;rw[lU,AJ];have g:l.2.1.take (s.1+1).toNat=l.2.1.take s.1.toNat++[q]:=by rw[show(s.1+1).toNat=s.1.toNat+1 by omega,Ff,I.1];rfl
  have f:Qr p i j q=false->(0<=s.1+1/\s.1+1<=l.2.1.length/\s.2.1=(((l.2.1.take (s.1+1).toNat).filter λe=>Qr p i j e&&(d.tail.any λs=>Ou s e.1)).length:Int)/\O9 s.2.2 λe=>e∈l.2.1.take (s.1+1).toNat/\Qr p i j e=true)/\((l.2.1.length:Int)-(s.1+1)).toNat<((l.2.1.length:Int)-s.1).toNat:=λw=>by
   refine⟨⟨by omega,by omega,?_,?_⟩,by omega⟩
   ·rw[g,LN,A];simp[w]
   ·rw[g];refine B.congr λe=>⟨λh=>⟨Ar.2 (.inl h.1),h.2⟩,λh=>⟨?_,h.2⟩⟩
    rcases Ar.1 h.1 with m|m
    ·exact m
    ·rw[A5.1 m,w]at h;cases h.2
  refine AE (λC=>?_) (λC=>AA (f (by simp[Qr,C])));refine AE (λD=>?_) (λD=>AA (f (by simp[Qr,D])));refine AE (λE=>?_) (λE=>AA (f (by unfold Qr;rw[E];simp)));refine AE (λF=>?_) (λF=>AA (f (by unfold Qr;rw[F];simp)));have w:Qr p i j q=true:=by unfold Qr;rw[C,D,E,F];rfl
  refine AB (B0 (lo:=1) (hi:=(d.length:Int)) (by omega) (by omega) (by omega)) λV N=>?_;have H:V=d.tail:=by
   rw[N.1,Dq (by rw[Fc];omega)];cases d with
   |nil=>rfl
   |cons a r=>rfl
  subst H;refine AB (ABW (by rw[List.length_tail];omega)) λU o=>?_;have M:=K s.1.toNat q I.1;have n:O9 (Sp q.1 q s.2.2) λe=>e∈l.2.1.take (s.1+1).toNat/\Qr p i j e=true:=by
   rw[g];refine B.put.congr λe=>⟨?_,λh=>?_⟩
   ·rintro(rfl|⟨h,_⟩)
    ·exact⟨Ar.2 (.inr (A5.2 rfl)),w⟩
    ·exact⟨Ar.2 (.inl h.1),h.2⟩
   ·rcases Ar.1 h.1 with m|m
    ·refine .inr ⟨⟨m,h.2⟩,λZ=>?_⟩;obtain⟨k,Q,v⟩:=PE.1 m;rw[Cn]at Q;rw[List.getElem_take]at v;have:=(K k e (by rw[<-v];exact Ay (by omega))).1;omega
    ·exact .inl (A5.1 m)
  have t: ∀b:Bool,(d.tail.any λs=>Ou s q.1)=b->((((l.2.1.take (s.1+1).toNat).filter λe=>Qr p i j e&&(d.tail.any λs=>Ou s e.1)).length:Nat):Int)=s.2.1+(if b=true then 1 else 0):=λb P=>by rw[g,LN,Ad,A];cases b<;>simp[w,P]
  have J:(((l.2.1.take s.1.toNat).filter λe=>Qr p i j e&&(d.tail.any λs=>Ou s e.1)).length:Int)<=4096:=by have W:=J4 (λe=>Qr p i j e&&(d.tail.any λs=>Ou s e.1)) (l.2.1.take s.1.toNat);have X:=List.length_take_le s.1.toNat l.2.1;have Y:=List.length_take_le' s.1.toNat l.2.1;omega
  have G:=AY (x:=s.2.1+1) (by omega);rw[G];refine Az (λu z=>?_) (λu z=>AA ⟨⟨by dsimp only;omega,by dsimp only;omega,?_,n⟩,by dsimp only;omega⟩)
  ·refine AC (λ_=>AA ⟨⟨by dsimp only;omega,by dsimp only;omega,?_,n⟩,by dsimp only;omega⟩) (λc=>absurd (o.1 u z).1 c);rw[t true (o.1 u z).2];rfl
  ·rw[t false (o.2 u z)];simp
 ·simp only[len]at y;rw[Dq (by omega)]at A B;exact⟨A,B⟩
def ck{S R:Type}(I:S->Prop)(μ:S->Nat)(m:Nat)(Q:R->Prop):Step S R->Prop
 | .next s'=>I s'/\μ s'<m
 | .done r=>Q r
def Oc{S R:Type}{body:S->Option (Step S R)}(I:S->Prop)(a:S->Nat){Q:R->Prop}{s:S}(b:I s)(c: ∀s,I s->A2 (body s) (ck I a (a s) Q)):A2 (Ae body s) Q:=AM I a b λs d=>(c s d).mono λe h=>by cases e<;>exact h
def A2.next{S R:Type}{I:S->Prop}{a:S->Nat}{m:Nat}{Q:R->Prop}{s:S}(h:I s)(b:a s<m):A2 (some (Step.next s)) (ck I a m Q):=⟨_,rfl,h,b⟩
def A2.done{S R:Type}{I:S->Prop}{a:S->Nat}{m:Nat}{Q:R->Prop}{r:R}(h:Q r):A2 (some (Step.done r)) (ck I a m Q):=⟨_,rfl,h⟩
def sH(f e:EN):Prop:=f.2.2.2.2.2.2.1.1<e.2.2.2.2.2.2.1.1\/(f.2.2.2.2.2.2.1.1=e.2.2.2.2.2.2.1.1/\f.1<e.1)
def sI(e:EN): ¬sH e e:=by unfold sH;omega
def uw{a b c:EN}(h:sH a b)(g:sH b c):sH a c:=by unfold sH at*;omega
def zj(f e:EN): ∃c:Int,Di (f,e)=some c/\(c<0↔sH f e)/\(c=0↔f.2.2.2.2.2.2.1.1=e.2.2.2.2.2.2.1.1/\f.1=e.1):=by
 have:A2 (Di (f,e)) λc=>(c<0↔sH f e)/\(c=0↔f.2.2.2.2.2.2.1.1=e.2.2.2.2.2.2.1.1/\f.1=e.1):=by
  unfold Di;unfold sH;dsimp only;repeat' with_reducible first|apply AC<;>intro a|apply AS<;>intro a|apply AE<;>intro a|apply AA
  all_goals omega
 exact this
def pR(x:AU)(i:Nat):Prop:= ∀e,x.2.2.2.2.2[i]? =some e->
 (Pd e/\fH e=true/\x.1<=e.1/\e.1<=x.2.1/\x.2.2.1<=e.2.2.2.2.2.2.1.1/\e.2.2.2.2.2.2.1.1<=x.2.2.2.1)/\(i=0->e.2.2.2.2.1<x.1)/\
 ∀f,0<i->x.2.2.2.2.2[i-1]? =some f->sH f e/\(f.2.2.2.2.2.2.1.1=e.2.2.2.2.2.2.1.1->e.2.2.2.2.1=f.1)/\(f.2.2.2.2.2.2.1.1≠e.2.2.2.2.2.2.1.1->e.2.2.2.2.1<x.1)
def VR(x:AU):Prop:=YK x/\ ∀i,pR x i
def VR.ent{x:AU}(h:VR x){e:EN}(a:e∈x.2.2.2.2.2):Pd e/\fH e=true/\x.1<=e.1/\e.1<=x.2.1/\x.2.2.1<=e.2.2.2.2.2.2.1.1/\e.2.2.2.2.2.2.1.1<=x.2.2.2.1:=by obtain⟨i,b,rfl⟩:=PE.1 a;exact(h.2 i _ (Ay b)).1
def rO{x:AU}(Q:x.2.2.2.2.2.length<=4096):A2 (Ae (Gu x) 0) λr=>(r= .inl false/\ ¬ ∀i,pR x i)\/(r= .inr ()/\ ∀i,pR x i):=by
 refine Oc (λ(s:Int)=>0<=s/\s<=x.2.2.2.2.2.length/\ ∀i:Nat,(i:Int)<s->pR x i) (λ(s:Int)=>((x.2.2.2.2.2.length:Int)-s).toNat) ⟨Ah _,by omega,λi z=>by omega⟩ (λs J=>?_);obtain⟨G,R,H⟩:=J;unfold Gu;simp only[len];refine AC (λE=>?_) (λE=>A2.done (.inr ⟨rfl,λi=>?_⟩))
 case refine_2=>
  by_cases z:(i:Int)<s
  ·exact H i z
  ·intro e m;rw[BP (by omega)]at m;cases m
 obtain⟨k,rfl⟩:=Er G;refine AB (AD G E) λv d=>?_;have d:=d.1;rw[DP]at d;have a:(pR x k->False)->A2 (some (Step.done (.inl false)):Option (Step Int (Bool ⊕ Unit))) (ck (λ(s:Int)=>0<=s/\s<=x.2.2.2.2.2.length/\ ∀i:Nat,(i:Int)<s->pR x i) (λ(s:Int)=>((x.2.2.2.2.2.length:Int)-s).toNat) ((x.2.2.2.2.2.length:Int)-(k:Int)).toNat λr=>(r= .inl false/\ ¬ ∀i,pR x i)\/(r= .inr ()/\ ∀i,pR x i)):=λh=>A2.done (.inl ⟨rfl,λu=>h (u k)⟩);have j:pR x k->A2 (some (Step.next (wi ((k:Int)+1))):Option (Step Int (Bool ⊕ Unit))) (ck (λ(s:Int)=>0<=s/\s<=x.2.2.2.2.2.length/\ ∀i:Nat,(i:Int)<s->pR x i) (λ(s:Int)=>((x.2.2.2.2.2.length:Int)-s).toNat) ((x.2.2.2.2.2.length:Int)-(k:Int)).toNat λr=>(r= .inl false/\ ¬ ∀i,pR x i)\/(r= .inr ()/\ ∀i,pR x i)):=λh=>by
  rw[AY (by omega)];refine A2.next ⟨by omega,by omega,λi z=>?_⟩ (by omega)
  by_cases A:i=k
  ·rw[A];exact h
  ·exact H i (by omega)
 refine AB CH λN C=>?_;refine AO (λl=>a λok=>?_) (λl=>?_)
 ·have:=C.2 (ok v d).1.1;rw[l]at this;cases this
 have q1:=C.1 l;refine AB Cf λO D=>?_;have q:fH v=true↔v.2.1=1\/v.2.1=2:=by unfold fH;simp
 refine AO (λl=>a λok=>?_) (λl=>?_)
 ·have:=D.2 (q.1 (ok v d).1.2.1);rw[l]at this;cases this
 have q2:=q.2 (D.1 l);refine AC (λt=>a λok=>?_) (λq3=>?_)
 ·have:=(ok v d).1.2.2;omega
 refine AC (λt=>a λok=>?_) (λq4=>?_)
 ·have:=(ok v d).1.2.2;omega
 refine AC (λt=>a λok=>?_) (λq5=>?_)
 ·have:=(ok v d).1.2.2;omega
 refine AC (λt=>a λok=>?_) (λq6=>?_)
 ·have:=(ok v d).1.2.2;omega
 have q0:Pd v/\fH v=true/\x.1<=v.1/\v.1<=x.2.1/\x.2.2.1<=v.2.2.2.2.2.2.1.1/\v.2.2.2.2.2.2.1.1<=x.2.2.2.1:=⟨q1,q2,by omega⟩
 apply AC<;>intro L
 ·have M:wi ((k:Int)-1)=((k-1:Nat):Int):=by rw[AY (by omega)];omega
  have F:k-1<x.2.2.2.2.2.length:=by omega
  have w:ix x.2.2.2.2.2 (wi ((k:Int)-1))=some (x.2.2.2.2.2[k-1]):=by rw[M];unfold ix;rw[if_pos (by omega),DP,Ay F]
  have n:x.2.2.2.2.2[k-1]? =some (x.2.2.2.2.2[k-1]):=Ay F;generalize x.2.2.2.2.2[k-1]=f at w n;obtain⟨c,y,p,K⟩:=zj f v;rw[w,AJ,y,AJ];refine AC (λt=>a λok=>?_) (λt=>?_)
  ·have:=p.2 ((ok v d).2.2 f (by omega) n).1;omega
  have q7:=p.1 (by omega);rw[decide_eq_true (by omega),cond_true,AJ];refine AB (P:=λr:Bool ⊕ Unit=>(r= .inl false/\ ¬pR x k)\/(r= .inr ()/\pR x k)) ?_ λr hr=>?_
  ·apply AS<;>intro m
   ·rw[AJ];refine AK (λhn=>AA (.inl ⟨rfl,λok=>hn (((ok v d).2.2 f (by omega) n).2.1 m)⟩)) (λhn=>AA (.inr ⟨rfl,λe g=>?_⟩));rw[d]at g;injection g with g;subst g;refine⟨q0,λo=>absurd o (by omega),λI _ b=>?_⟩;rw[n]at b;injection b with b;subst b;exact⟨q7,λ_=>hn,λu=>absurd m u⟩
   ·refine AC (λhn=>AA (.inl ⟨rfl,λok=>?_⟩)) (λhn=>AA (.inr ⟨rfl,λe g=>?_⟩))
    ·have:=((ok v d).2.2 f (by omega) n).2.2 m;omega
    rw[d]at g;injection g with g;subst g;refine⟨q0,λo=>absurd o (by omega),λI _ b=>?_⟩;rw[n]at b;injection b with b;subst b;exact⟨q7,λu=>absurd u m,λ_=>by omega⟩
  ·rcases hr with⟨rfl,hr⟩|⟨rfl,hr⟩
   ·exact BK (a hr)
   ·exact BG (j hr)
 ·rw[decide_eq_false L,cond_false];have B:k=0:=by omega
  apply BN;apply AC<;>intro hn
  ·rw[AJ];refine BK (a λok=>?_);have:=(ok v d).2.1 B;omega
  ·rw[AJ];refine BG (j λe g=>?_);rw[d]at g;injection g with g;subst g;exact⟨q0,λ_=>by omega,λf o=>absurd o (by omega)⟩
def YL{x:AU}:A2 (Ee x) λr=>r=true↔VR x:=by
 unfold Ee;refine AB H8 λf c=>?_;refine AO (λb=>AA ⟨λa=>(by cases a),λa=>?_⟩) (λb=>?_)
 ·obtain⟨⟨a1,a2,a3,a4,a5,a6,a7,a8,a9⟩,_⟩:=a;have:=c.2 ⟨a1,a2,a3,a4,a5,a6,a7,a8⟩;rw[b]at this;cases this
 have hn:=c.1 b;dsimp only at hn;refine AC (λd=>AA ⟨λa=>(by cases a),λa=>?_⟩) (λe=>?_)
 ·have:=a.1.2.2.2.2.2.2.2.2;simp only[len]at d;omega
 simp only[len]at e;refine AB (rO (by omega)) λr hr=>?_;rcases hr with⟨rfl,hr⟩|⟨rfl,hr⟩
 ·exact BK (AA ⟨λa=>(by cases a),λa=>absurd a.2 hr⟩)
 ·exact BG (AA ⟨λ_=>⟨⟨hn.1,hn.2.1,hn.2.2.1,hn.2.2.2.1,hn.2.2.2.2.1,hn.2.2.2.2.2.1,hn.2.2.2.2.2.2.1,hn.2.2.2.2.2.2.2,by omega⟩,hr⟩,λ_=>rfl⟩)
abbrev NE:=Ap
def lN(x y:NE):Bool:=decide (x.1.2.2.1<y.1.2.2.1\/(x.1.2.2.1=y.1.2.2.1/\(x.1.1<y.1.1\/(x.1.1=y.1.1/\x.2<y.2))))
def mh:Sort.SWO lN where
 irrefl x:=by simp[lN]
 trans x y z h1 h2:=by simp only[lN,decide_eq_true_eq]at*;omega
 ntrans x y z h1 h2:=by simp only[lN,decide_eq_false_iff_not]at*;omega
def iE{l:List Int}{k:Nat}{v:Int}(h:l[k]? =some v)(f:k<1000)(g:l.length<1000):Ae (JH l) (k:Int)=if v=0 then Ae (JH l) ((k+1:Nat):Int)else some (.inl v):=by
 rw[Cg];have b:=(Pf.1 h).1;have d:decide ((k:Int)<len l)=true:=by simp;omega
 have c:ix l (k:Int)=some v:=by unfold ix;rw[if_pos (by omega)];simpa using h
 have e:wi ((k:Int)+1)=((k+1:Nat):Int):=k9 (by omega);simp only[JH,d,cond_true,c,AJ,e];by_cases a:v=0
 ·have:(v !=0)=false:=by simp[a]
  rw[this,cond_false,if_pos a]
 ·have:(v !=0)=true:=by simp[a]
  rw[this,cond_true,if_neg a]
def ABb(a b c:Int):JY [a,b,c]=some (if a≠0 then a else if b≠0 then b else c):=by
 unfold JY;rw[show(0:Int)=((0:Nat):Int)from rfl,iE (k:=0) (v:=a) rfl (by omega) (by simp)];by_cases e:a=0
 ·rw[if_pos e,iE (k:=1) (v:=b) rfl (by omega) (by simp)];by_cases f:b=0
  ·rw[if_pos f,iE (k:=2) (v:=c) rfl (by omega) (by simp)];by_cases g:c=0
   ·rw[if_pos g,Cg];have d:decide (((2+1:Nat):Int)<len [a,b,c])=false:=by show decide ((3:Int)<3)=false;decide
    simp only[JH,d,cond_false,AJ,VQ];simp[e,f,g]
   ·rw[if_neg g];simp[e,f]
  ·rw[if_neg f];simp[e,f]
 ·rw[if_neg e];simp[e]
def zK(x y:NE): ∃v,Fw (x,y)=some v/\decide (v<0)=lN x y:=by
 unfold Fw;dsimp only;simp only[oX,AJ,ABb];refine⟨_,rfl,?_⟩;unfold lN;apply decide_eq_decide.2;repeat' split
 all_goals omega
section
variable {α:Type} [Inhabited α]
def sB{d:Array α}{i:Int}{k:Nat}(a:i=k)(b:k<d.size):ix d.toList i=some d[k]! :=by subst a;unfold ix;rw[if_pos (by omega)];simp[b]
omit [Inhabited α] in
def AAt{d:Array α}{i:Int}{k:Nat}(a:i=k)(x:α):BZ d.toList i x=(d.setIfInBounds k x).toList:=by subst a;unfold BZ;simp
def zX{d:Array α}{i j:Int}{a b:Nat}(c:i=a)(e:j=b):BZ (BZ d.toList i d[b]!) j d[a]! =(Sort.swp d a b).toList:=by rw[AAt c,AAt e];rfl
def yk{d:Array α}{i j:Int}{a b:Nat}{x:α}(e:i=a)(f:j=b)(c:b<d.size):ix (BZ d.toList i x) j=some (d.setIfInBounds a x)[b]! :=by rw[AAt e];exact sB f (by simpa using c)
def dc(lt:α->α->Bool)(k:Nat): ∀(j:Nat) (d:Array α),(Sort.insInner lt k j d).size=d.size
 |0,_=>rfl
 |j+1,d=>by
  unfold Sort.insInner;split
  ·rw[dc lt k j,Sort.size_swp]
  ·rfl
end
def ti{a b:Int}{k:Nat}(h:a=k): ∀(j:Nat) (d:Array NE),j<d.size->d.size<=16777216->Ae (Cj (a,b)) ((j:Int),d.toList)=some (Sort.insInner lN k j d).toList
 |0,d,hj,hd=>by
  rw[Cg];have:decide (((0:Nat):Int)>a)=false:=by simp;omega
  simp only[Cj,this,cond_false];rfl
 |j+1,d,hj,hd=>by
  rw[Cg];have e:wi (((j+1:Nat):Int)-1)=(j:Int):=by rw[O8 (by omega)];omega
  obtain⟨v,f,g⟩:=zK d[j+1]! d[j]!;have i:ix d.toList ((j+1:Nat):Int)=some d[j+1]! :=sB rfl hj;have l:ix d.toList (j:Int)=some d[j]! :=sB rfl (by omega);have m:ix (BZ d.toList ((j+1:Nat):Int) d[j]!) (j:Int)=some (d.setIfInBounds (j+1) d[j]!)[j]! :=yk rfl rfl (by omega);simp only[Cj,e,i,l,m,AJ,f,g,zX (d:=d) (a:=j+1) (b:=j) rfl rfl];unfold Sort.insInner;by_cases c:j+1>k
  ·have:decide (((j+1:Nat):Int)>a)=true:=by simp;omega
   rw[this];cases n:lN d[j+1]! d[j]! with
   |true=>simp only[cond_true,c,decide_true,Pe,if_true];exact ti h j _ (by rw[Sort.size_swp];omega) (by rw[Sort.size_swp];omega)
   |false=>simp[c]
  ·have:decide (((j+1:Nat):Int)>a)=false:=by simp;omega
   rw[this];simp[c]
def wX{a b:Int}{k m:Nat}(j:a=k)(p:b=m): ∀(n i:Nat) (d:Array NE),m-i<=n->m<=d.size->d.size<=16777216->Ae (CK (a,b)) ((i:Int),d.toList)=some (Sort.insOuter lN k m i d).toList:=by
 intro n;induction n with
 |zero=>
  intro i d g h c;rw[Cg,Sort.insOuter];have:decide ((i:Int)<b)=false:=by simp;omega
  simp only[CK,this,cond_false];rw[if_neg (by omega)]
 |succ n o=>
  intro i d g h c;rw[Cg,Sort.insOuter];by_cases e:i<m
  ·have:decide ((i:Int)<b)=true:=by simp;omega
   have f:wi ((i:Int)+1)=((i+1:Nat):Int):=by rw[O8 (by omega)];omega
   have l:=dc lN k i d;simp only[CK,this,cond_true,ti j i d (by omega) c,AJ,f];rw[if_pos e];exact o (i+1) _ (by omega) (by omega) (by omega)
  ·have:decide ((i:Int)<b)=false:=by simp;omega
   simp only[CK,this,cond_false];rw[if_neg e]
def th{d:Array NE}{a b:Int}{k m:Nat}(e:a=k)(f:b=m)(h:m<=d.size)(i:k<=m)(g:d.size<=16777216):B6 d.toList (a,b)=some (Sort.insertionSort lN d k m).toList:=by
 unfold B6;have c:wi (a+1)=((k+1:Nat):Int):=by rw[O8 (by omega)];omega
 dsimp only;rw[c,wX e f (m-(k+1)) (k+1) d (by omega) h g];rfl
def vT(a b n:Nat)(d:Array NE)(k:Nat):NE:=if a<=k/\k<a+n then d[b+(k-a)]! else if b<=k/\k<b+n then d[a+(k-b)]! else d[k]!
def pO{d:Array NE}{a b n:Nat}(q:a+n≤b)(A:b+n≤d.size)(B:d.size≤16777216):
  A2 (Bz d.toList ((a:Int),((b:Int),(n:Int)))) λr=> ∃e:Array NE,r=e.toList/\e.size=d.size/\ ∀k,k<d.size->e[k]! =vT a b n d k:=by
 unfold Bz;refine AB (P:=λr=> ∃e:Array NE,r=e.toList/\e.size=d.size/\ ∀k,k<d.size->e[k]! =vT a b n d k) ?_ λr h=>AA h;refine AM (λ(s:Int×List NE)=> ∃(t:Nat) (e:Array NE),s.1=t/\s.2=e.toList/\t<=n/\e.size=d.size/\ ∀k,k<d.size->e[k]! =vT a b t d k) (λs=>n-s.1.toNat) ⟨0,d,rfl,rfl,Cc _,rfl,λk _=>by unfold vT;rw[if_neg (by omega),if_neg (by omega)]⟩ ?_;rintro⟨D,E⟩ ⟨t,e,q1,q2,q3,q4,q5⟩;dsimp only at q1 q2;subst q1 q2;unfold E6;dsimp only;refine AC (λu=>?_) (λu=>AA ⟨e,rfl,q4,?_⟩)
 ·have C:t<n:=by omega
  have o:wi ((b:Int)+(t:Int))=((b+t:Nat):Int):=by rw[O8 (by omega)];omega
  have p:wi ((a:Int)+(t:Int))=((a+t:Nat):Int):=by rw[O8 (by omega)];omega
  have w:ix e.toList ((b+t:Nat):Int)=some e[b+t]! :=sB rfl (by omega);have x:ix e.toList ((a+t:Nat):Int)=some e[a+t]! :=sB rfl (by omega);have y:ix (BZ e.toList ((a+t:Nat):Int) e[b+t]!) ((b+t:Nat):Int)=some (e.setIfInBounds (a+t) e[b+t]!)[b+t]! :=yk rfl rfl (by omega);simp only[o,p,w,x,y,AJ,k9 (i:=t) (by omega),zX (d:=e) (a:=a+t) (b:=b+t) rfl rfl];refine AA ⟨⟨t+1,_,rfl,rfl,by omega,by rw[Sort.size_swp,q4],λk v=>?_⟩,?_⟩
  ·rw[Sort.swp_get e (by omega) (by omega)];have j:=q5 (a+t) (by omega);have l:=q5 (b+t) (by omega);have m:=q5 k v;rw[j,l,m];unfold vT;by_cases k1:k=a+t
   ·subst k1;rw[if_neg (by omega),if_pos rfl,if_neg (by omega),if_neg (by omega),if_pos (by omega)];exact congrArg (λz=>d[z]!) (by omega)
   ·by_cases c:k=b+t
    ·subst c;rw[if_pos rfl,if_neg (by omega),if_neg (by omega),if_neg (by omega),if_pos (by omega)];exact congrArg (λz=>d[z]!) (by omega)
    ·rw[if_neg c,if_neg k1];by_cases f:a<=k/\k<a+t
     ·rw[if_pos f,if_pos (show a<=k/\k<a+(t+1) by omega)]
     ·rw[if_neg f,if_neg (show¬(a<=k/\k<a+(t+1)) by omega)];by_cases g:b<=k/\k<b+t
      ·rw[if_pos g,if_pos (show b<=k/\k<b+(t+1) by omega)]
      ·rw[if_neg g,if_neg (show¬(b<=k/\k<b+(t+1)) by omega)]
  ·show n-((t+1:Nat):Int).toNat<n-((t:Nat):Int).toNat
   omega
 ·have:t=n:=by omega
  rw[<-this];exact q5
def YH(x:AU):Bf:=[80,77,82,78]++(Gf x.1 8++(Gf x.2.1 8++(Gf x.2.2.1 4++(Gf x.2.2.2.1 4++(Gf x.2.2.2.2.1 1++Gf (x.2.2.2.2.2.length:Int) 4)))))
def Sg(l:List EN):Bf:=(l.map λe=>MB (Bw e)).flatten
def MJ(x:AU):Bf:=MB (YH x)++Sg x.2.2.2.2.2
def Uw(x:AU):(YH x).length=33:=rfl
def dP(l:List EN)(e:EN):Sg (l++[e])=Sg l++MB (Bw e):=by unfold Sg;grind
def ll(e:EN)(l:List EN):Sg (e::l)=MB (Bw e)++Sg l:=rfl
def tY{l:List EN}(h: ∀e∈l,Pd e):(Sg l).length<=8400*l.length:=by
 induction l with
 |nil=>exact Aj _
 |cons e r b=>have c:=b λx a=>h x (Al.2 (.inr a));have d:=Y8 (h e (Al.2 (.inl rfl)));rw[ll,Ad,JX,BC];omega
def YK.inr{x:AU}(h:YK x):bo 8 x.1/\bo 8 x.2.1/\bo 4 x.2.2.1/\bo 4 x.2.2.2.1/\bo 1 x.2.2.2.2.1/\bo 4 (x.2.2.2.2.2.length:Int):=by
 obtain⟨a1,a2,a3,a4,a5,a6,a7,a8,a9⟩:=h;have e: ∀n:Int,0<=n->n<=1099511627776->bo 8 n:=λn a b=>⟨λh=>absurd h (by decide),by omega⟩
 have d: ∀n:Int,0<=n->n<=1073741824->bo 4 n:=λn a b=>⟨λ_=>by grind,by omega⟩
 have c: ∀n:Int,0<=n->n<=255->bo 1 n:=λn a b=>⟨λ_=>by grind,by omega⟩
 grind
def VR.len{x:AU}(h:VR x):(MJ x).length<=34406441:=by have b:=tY (l:=x.2.2.2.2.2) λe a=>(h.ent a).1;have c:=h.1.2.2.2.2.2.2.2.2;unfold MJ;rw[Ad,JX,Uw];omega
def xu{x:AU}(h:YK x):HI x=some (YH x):=by unfold HI;rw[Ns (by simp) (by decide) (by decide),AJ];rw[Ns (by simp only[Ad,B7];simp) (by decide) (by decide),AJ];rw[Ns (by simp only[Ad,B7];simp) (by decide) (by decide),AJ];rw[Ns (by simp only[Ad,B7];simp) (by decide) (by decide),AJ];rw[Ns (by simp only[Ad,B7];simp) (by decide) (by decide),AJ];rw[Ns (by simp only[Ad,B7];simp) (by decide) (by decide),AJ];rfl
def jn{x:AU}(h:VR x):Gb x=some (MJ x,0):=by
 have t:=h.1.2.2.2.2.2.2.2.2;obtain⟨b,g,c⟩:=YL (x:=x);have d:=c.2 h;subst d;unfold Gb;rw[g,AJ,D9,cond_false,xu h.1,AJ,pU (by rw[Uw];decide),AJ];have key:A2 (Ae (LG x) (MB (YH x),0)) λr=>r=MJ x:=by
  refine Oc (λ(s:Bf×Int)=> ∃k:Nat,s.2=k/\k<=x.2.2.2.2.2.length/\s.1=MB (YH x)++Sg (x.2.2.2.2.2.take k)) (λs=>x.2.2.2.2.2.length-s.2.toNat) ⟨0,rfl,Cc _,by simp[Sg]⟩ ?_;rintro⟨y,z⟩ ⟨k,p,u,q⟩;subst p q;unfold LG;simp only[len];refine AC (λf=>?_) (λf=>A2.done (by rw[Dq (by omega)];rfl));refine AB (AD (by omega) f) λv c=>?_;have a:=(h.ent c.2).1;have m:=Y8 a;have j:=tY (l:=x.2.2.2.2.2.take k) λe i=>(h.ent (ME i)).1;have n:(x.2.2.2.2.2.take k).length<=4096:=by grind
  rw[pS a,AJ,pU m,AJ];refine AB (CE (by rw[Ad,JX,JX,Uw];omega)) λw o=>?_;rw[AY (by omega)];refine A2.next ⟨k+1,by grind,by omega,?_⟩ (by grind)
  have:=c.1;rw[DP]at this;rw[o.1,Ff,this,J6,dP,Ax]
 obtain⟨r,hr,rfl⟩:=key;rw[hr];rfl
def WR(x:AU):Prop:=YK x/\ ∀e∈x.2.2.2.2.2,HT e.2.2.2.2.2.2.1.2.2.1/\HT e.2.2.2.2.2.2.1.2.2.2/\e.2.2.2.2.2.2.2=[]
def vy{e:EN}(h:Pd e)(a:fH e=true):e.2.2.2.2.2.2.2=[]:=by
 have b:e.2.1=1\/e.2.1=2:=by unfold fH at a;simpa using a
 obtain⟨_,_,_,_,_,_,_,_,c⟩:=h;unfold VI at c;grind
def VR.wr{x:AU}(h:VR x):WR x:=⟨h.1,λe b=>by have a:=h.ent b;exact⟨a.1.cells.1,a.1.cells.2.1,vy a.1 a.2.1⟩⟩
def uy{e:EN}(h:Gs e=some true)(g:fH e=true):e.2.2.2.2.2.2.2=[]:=by
 have f:e.2.1=1\/e.2.1=2:=by unfold fH at g;simpa using g
 have key: ∀r,Gs e=some r->r=true->e.2.2.2.2.2.2.2=[]:=by
  have c:MT false (Gs e) λr=>r=true->e.2.2.2.2.2.2.2=[]:=by
   have p: ∀{Q:Bool->Prop},(∀r,r=false->Q r)->MT false (some false) Q:=λn=>MT.some (n _ rfl);have a:MT false (some false) λr=>r=true->e.2.2.2.2.2.2.2=[]:=MT.some λb=>by cases b
   unfold Gs;refine MT.dec (λ_=>a) λ_=>?_;refine MT.dec (λ_=>a) λ_=>?_;refine MT.dec (λ_=>a) λ_=>?_;refine MT.dec (λ_=>a) λ_=>?_;refine MT.bind (LW Jy) λq _=>?_;refine MT.cond (λ_=>a) λ_=>?_;refine MT.bind (LW Jy) λs _=>?_;refine MT.cond (λ_=>a) λ_=>?_;refine MT.bind (LW Jy) λt _=>?_;refine MT.cond (λ_=>a) λ_=>?_;refine MT.dec (λi=>absurd i (by omega)) λ_=>?_;refine MT.dec (λj=>?_) λj=>?_
   ·refine MT.dec (λ_=>a) λ_=>?_;refine MT.bind (P:=λ_=>True) (MT.dec (λ_=>MT.some trivial) λ_=>MT.some trivial) λo _=>?_;refine MT.cond (λ_=>a) λ_=>?_;refine MT.bind (P:=λr=>r=false->e.2.2.2.2.2.2.2=[]) ?_ λu l=>?_
    ·refine MT.cond (λm=>MT.some λb=>?_) λ_=>MT.some λb=>?_
     ·rw[m]at b;cases b
     ·simpa using b
    refine MT.cond (λ_=>a) λb=>?_;exact⟨λd=>(by cases d),λr _ _=>l b⟩
   ·refine MT.dec (λk=>?_) λk=>absurd f (by omega);refine MT.dec (λ_=>a) λ_=>?_;refine MT.bind (P:=λ_=>True) (MT.dec (λ_=>MT.some trivial) λ_=>MT.some trivial) λo _=>?_;refine MT.cond (λ_=>a) λ_=>?_;refine MT.cond (λ_=>a) λb=>?_;exact⟨λd=>(by cases d),λr _ _=>by simpa using b⟩
  exact c.2
 exact key true h rfl
def sP{e:EN}:A7 e=some (fH e):=by unfold A7 fH;grind
def qh{x:AU}:A2 (LP x) λr=>r=true↔1<=x.1/\x.1<=x.2.1/\x.2.1<=1099511627776/\0<=x.2.2.1/\x.2.2.1<=x.2.2.2.1/\x.2.2.2.1<64/\0<=x.2.2.2.2.1/\x.2.2.2.2.1<=8:=by
 unfold LP;repeat' with_reducible first|apply AC<;>intro a|apply AA
 all_goals grind
def u5{x:AU}{e:EN}:A2 (Oh (x,e)) λr=>r=true↔fH e=true/\x.2.2.1<=e.2.2.2.2.2.2.1.1/\e.2.2.2.2.2.2.1.1<=x.2.2.2.1/\x.1<=e.1/\e.1<=x.2.1:=by
 unfold Oh;rw[sP,AJ];refine AE (λa=>?_) (λa=>AA ⟨λb=>(by cases b),λb=>by grind⟩);repeat' with_reducible first|apply AC<;>intro a|apply AA
 all_goals grind
def AAj(a b:Int):JY [a,b]=some (if a≠0 then a else b):=by
 unfold JY;rw[show(0:Int)=((0:Nat):Int)from rfl,iE (k:=0) (v:=a) rfl (by omega) (by simp)];by_cases c:a=0
 ·rw[if_pos c,iE (k:=1) (v:=b) rfl (by omega) (by simp)];by_cases e:b=0
  ·rw[if_pos e,Cg];have d:decide (((1+1:Nat):Int)<len [a,b])=false:=by grind
   simp only[JH,d];grind
  ·grind
 ·grind
def sQ(f e:EN): ∃c:Int,Nk (f,e)=some c/\(c<0↔sH f e):=by unfold Nk;rw[oX,oX,AJ,AJ,AAj,AJ];unfold sH;grind
def uz{x:AU}(J:x.2.2.2.2.2.length<=4096):A2 (Ae (Qv x) 0) λr=>(r= .inl false/\ ¬ ∀i,pR x i)\/(r= .inr ()/\ ∀e∈x.2.2.2.2.2,fH e=true/\e.2.2.2.2.2.2.2=[]):=by
 refine Oc (λ(s:Int)=>0<=s/\s<=x.2.2.2.2.2.length/\ ∀e∈x.2.2.2.2.2.take s.toNat,fH e=true/\e.2.2.2.2.2.2.2=[]) (λ(s:Int)=>((x.2.2.2.2.2.length:Int)-s).toNat) ⟨Ah _,by omega,λe g=>by simp at g⟩ (λs C=>?_);obtain⟨w,K,y⟩:=C;unfold Qv;simp only[len];refine AC (λu=>?_) (λu=>A2.done (.inr ⟨rfl,by rw[Dq (by omega)]at y;exact y⟩));obtain⟨k,rfl⟩:=Er w;refine AB (AD w u) λv d=>?_;have d:=d.1;rw[DP]at d;have a:(pR x k->False)->A2 (some (Step.done (.inl false)):Option (Step Int (Bool ⊕ Unit))) (ck (λ(s:Int)=>0<=s/\s<=x.2.2.2.2.2.length/\ ∀e∈x.2.2.2.2.2.take s.toNat,fH e=true/\e.2.2.2.2.2.2.2=[]) (λ(s:Int)=>((x.2.2.2.2.2.length:Int)-s).toNat) ((x.2.2.2.2.2.length:Int)-(k:Int)).toNat λr=>(r= .inl false/\ ¬ ∀i,pR x i)\/(r= .inr ()/\ ∀e∈x.2.2.2.2.2,fH e=true/\e.2.2.2.2.2.2.2=[])):=λh=>A2.done (.inl ⟨rfl,λD=>h (D k)⟩);refine Gr LO λH z B=>?_;refine AO (λl=>a λok=>?_) (λl=>?_)
 ·have:=B (ok v d).1.1;rw[l]at this;cases this
 refine AB u5 λI t=>?_;refine AO (λl=>a λok=>?_) (λn=>?_)
 ·have q:=(ok v d).1;have:=t.2 ⟨q.2.1,q.2.2.2.2.1,q.2.2.2.2.2,q.2.2.1,q.2.2.2.1⟩;rw[l]at this;cases this
 have q2:=(t.1 n).1;have q3:=uy (by rw[z,l]) q2;have b:A2 (some (Step.next (wi ((k:Int)+1))):Option (Step Int (Bool ⊕ Unit))) (ck (λ(s:Int)=>0<=s/\s<=x.2.2.2.2.2.length/\ ∀e∈x.2.2.2.2.2.take s.toNat,fH e=true/\e.2.2.2.2.2.2.2=[]) (λ(s:Int)=>((x.2.2.2.2.2.length:Int)-s).toNat) ((x.2.2.2.2.2.length:Int)-(k:Int)).toNat λr=>(r= .inl false/\ ¬ ∀i,pR x i)\/(r= .inr ()/\ ∀e∈x.2.2.2.2.2,fH e=true/\e.2.2.2.2.2.2.2=[])):=by
  rw[AY (by omega)];refine A2.next ⟨by omega,by omega,λe g=>?_⟩ (by omega)
  rw[show((k:Int)+1).toNat=k+1 by omega,Ff,d]at g;rcases Ar.1 g with g|g
  ·grind
  ·rw[J6,A5]at g;subst g;exact⟨q2,q3⟩
 have G: ∀f,0<k->x.2.2.2.2.2[k-1]? =some f->ix x.2.2.2.2.2 (wi ((k:Int)-1))=some f:=λf A j=>by rw[show wi ((k:Int)-1)=((k-1:Nat):Int) by rw[AY (by omega)];omega];unfold ix;rw[if_pos (by omega),DP,j]
 apply AS<;>intro A
 ·refine AC (λp=>a λok=>?_) (λ_=>b);have:=(ok v d).2.1 (by omega);omega
 have F:k-1<x.2.2.2.2.2.length:=by omega
 have j:x.2.2.2.2.2[k-1]? =some (x.2.2.2.2.2[k-1]):=Ay F;generalize x.2.2.2.2.2[k-1]=f at j;rw[G f (by omega) j,AJ];apply AC<;>intro E
 ·refine AC (λp=>a λok=>?_) (λ_=>b);have:=((ok v d).2.2 f (by omega) j).2.2 (by omega);omega
 obtain⟨c,o,m⟩:=sQ f v;rw[AJ,o,AJ];refine AC (λp=>a λok=>?_) (λp=>?_)
 ·have:=m.2 ((ok v d).2.2 f (by omega) j).1;omega
 refine AK (λhn=>a λok=>hn ?_) (λ_=>b);have:=m.1 (by omega);unfold sH at this;exact((ok v d).2.2 f (by omega) j).2.1 (by omega)
def qi{x:AU}:A2 (SX x) λr=>(VR x->r=true)/\(r=true->YK x/\ ∀e∈x.2.2.2.2.2,fH e=true/\e.2.2.2.2.2.2.2=[]):=by
 refine AB qh λg c=>?_;refine AO (λb=>AA ⟨λa=>?_,λa=>(by cases a)⟩) (λb=>?_)
 ·obtain⟨⟨a1,a2,a3,a4,a5,a6,a7,a8,a9⟩,_⟩:=a;grind
 have hn:=c.1 b;refine AC (λf=>AA ⟨λa=>?_,λa=>(by cases a)⟩) (λd=>?_)
 ·have:=a.1.2.2.2.2.2.2.2.2;grind
 simp only[len]at d;refine AB (uz (by omega)) λr hr=>?_;rcases hr with⟨rfl,hr⟩|⟨rfl,hr⟩
 ·exact BK (AA ⟨λa=>absurd a.2 hr,λa=>(by cases a)⟩)
 ·exact BG (AA ⟨λ_=>rfl,λ_=>⟨⟨hn.1,hn.2.1,hn.2.2.1,hn.2.2.2.1,hn.2.2.2.2.1,hn.2.2.2.2.2.1,hn.2.2.2.2.2.2.1,hn.2.2.2.2.2.2.2,by omega⟩,hr⟩⟩)
def ul{x p a:Bf}{at_:Int}{k:Nat}(c:x=p++a)(e:at_=p.length)(i:x.length≤1099511627776)(h:1≤k)(f:k≤8)(g:k≤a.length):
  ∃n b,Au (x,(at_,(k:Int)))=some (n,0)/\CT (x,(at_,(k:Int)))=some (n,0)/\x=(p++Gf n k)++b/\bo k n/\b.length+k=a.length:=by
 have d:=congrArg List.length c;rw[Ad]at d;obtain⟨q1,q2⟩:=lD (t:=a) g f;refine⟨rd (a.take k),a.drop k,?_,?_,?_,q1,?_⟩
 ·rw[c,e,iN (by omega) (by omega) (by omega),if_pos (by omega),DP]
 ·rw[c,e,bZ (by omega) (by omega) (by omega),if_pos (by omega),DP]
 ·rw[q2,Ax,FG];exact c
 ·rw[Fc];omega
def uk{x p a:Bf}{at_ n:Int}{k:Nat}(b:x=p++(Gf n k++a))(e:at_=p.length)(g:x.length≤1099511627776)(f:1≤k)(d:k≤8)(hn:bo k n):
  Au (x,(at_,(k:Int)))=some (n,0)/\CT (x,(at_,(k:Int)))=some (n,0):=by
 have c:=congrArg List.length b;simp only[Ad,B7]at c;refine⟨?_,?_⟩
 ·rw[b,e,iN (by rw[Ad,B7];omega) (by omega) (by omega),if_pos (by rw[Ad,B7];omega),DP,J5 (B7 _ _),jj d hn]
 ·rw[b,e,bZ (by rw[Ad,B7];omega) (by omega) (by omega),if_pos (by rw[Ad,B7];omega),DP,J5 (B7 _ _),jj d hn]
def qo{p:Bf}(h:p.length=33):Ht (p,([80,77,82,78]:List UInt8))=some (p.take 4==[80,77,82,78]):=by
 unfold Ht Fx;dsimp only[len];have:Ry p 0 4=some (p.take 4):=by unfold Ry;rw[if_pos (by omega)];rfl
 rw[decide_eq_true (by rw[h];decide),cond_true];show Option.bind (Option.bind (Ry p 0 4) _) _=_;rw[this];rfl
abbrev ZR:=Int×(Int×(Int×(Int×(Int×AU))))
def nY{p:Bf}(y:p.length=33)(v:p.take 4=[80,77,82,78]): ∃b c d e f a:Int,(Au (p,(4,8))=some (b,0)∧Au (p,(12,8))=some (c,0)∧Au (p,(20,4))=some (d,0)∧Au (p,(24,4))=some (e,0)∧Au (p,(28,1))=some (f,0)∧Au (p,(29,4))=some (a,0))∧
  (CT (p,(4,8))=some (b,0)/\CT (p,(12,8))=some (c,0)/\CT (p,(20,4))=some (d,0)/\CT (p,(24,4))=some (e,0)/\CT (p,(28,1))=some (f,0)/\CT (p,(29,4))=some (a,0))/\
  p=[80,77,82,78]++(Gf b 8++(Gf c 8++(Gf d 4++(Gf e 4++(Gf f 1++Gf a 4)))))/\0<=a:=by
 have o:p=[80,77,82,78]++p.drop 4:=by rw[<-v,FG]
 have E:(p.drop 4).length=29:=by rw[Fc];omega
 obtain⟨b,K,a2,h,q,z,l2⟩:=ul (k:=8) (at_:=4) o (by decide) (by omega) (by decide) (by decide) (by omega);obtain⟨c,L,a3,i,r,A,F⟩:=ul (k:=8) (at_:=12) q (by simp only[Ad,B7];decide) (by omega) (by decide) (by decide) (by omega);obtain⟨d,M,a4,j,s,B,G⟩:=ul (k:=4) (at_:=20) r (by simp only[Ad,B7];decide) (by omega) (by decide) (by decide) (by omega);obtain⟨e,N,a5,l,t,C,H⟩:=ul (k:=4) (at_:=24) s (by simp only[Ad,B7];decide) (by omega) (by decide) (by decide) (by omega);obtain⟨f,O,a6,m,u,D,I⟩:=ul (k:=1) (at_:=28) t (by simp only[Ad,B7];decide) (by omega) (by decide) (by decide) (by omega);obtain⟨a,x,a7,n,g,w,J⟩:=ul (k:=4) (at_:=29) u (by simp only[Ad,B7];decide) (by omega) (by decide) (by decide) (by omega);have:x=[]:=EA (by omega);subst this;refine⟨b,c,d,e,f,a,⟨a2,a3,a4,a5,a6,a7⟩,⟨h,i,j,l,m,n⟩,?_,(w.1 (by decide)).1⟩;rw[DQ]at g;rw[g];simp only[Ax]
def qJ{x:AU}(h:YK x):(Au (YH x,(4,8))=some (x.1,0)∧Au (YH x,(12,8))=some (x.2.1,0)∧Au (YH x,(20,4))=some (x.2.2.1,0)∧Au (YH x,(24,4))=some (x.2.2.2.1,0)∧Au (YH x,(28,1))=some (x.2.2.2.2.1,0)∧Au (YH x,(29,4))=some ((x.2.2.2.2.2.length:Int),0))∧
  (CT (YH x,(4,8))=some (x.1,0)/\CT (YH x,(12,8))=some (x.2.1,0)/\CT (YH x,(20,4))=some (x.2.2.1,0)/\CT (YH x,(24,4))=some (x.2.2.2.1,0)/\CT (YH x,(28,1))=some (x.2.2.2.2.1,0)/\CT (YH x,(29,4))=some ((x.2.2.2.2.2.length:Int),0)):=by
 obtain⟨i,j,l,m,n,o⟩:=h.inr;have q:=Uw x;have a:YH x=[80,77,82,78]++(Gf x.1 8++(Gf x.2.1 8++(Gf x.2.2.1 4++(Gf x.2.2.2.1 4++(Gf x.2.2.2.2.1 1++(Gf (x.2.2.2.2.2.length:Int) 4++[])))))):=by rw[DQ];rfl
 generalize YH x=p at*;have b:=uk (k:=8) (at_:=4) a (by decide) (by omega) (by decide) (by decide) i;rw[<-Ax]at a;have c:=uk (k:=8) (at_:=12) a (by simp only[Ad,B7];decide) (by omega) (by decide) (by decide) j;rw[<-Ax]at a;have d:=uk (k:=4) (at_:=20) a (by simp only[Ad,B7];decide) (by omega) (by decide) (by decide) l;rw[<-Ax]at a;have e:=uk (k:=4) (at_:=24) a (by simp only[Ad,B7];decide) (by omega) (by decide) (by decide) m;rw[<-Ax]at a;have f:=uk (k:=1) (at_:=28) a (by simp only[Ad,B7];decide) (by omega) (by decide) (by decide) n;rw[<-Ax]at a;have g:=uk (k:=4) (at_:=29) a (by simp only[Ad,B7];decide) (by omega) (by decide) (by decide) o;exact⟨⟨b.1,c.1,d.1,e.1,f.1,g.1⟩,⟨b.2,c.2,d.2,e.2,f.2,g.2⟩⟩
def ABh{x p:Bf}{n:Int}{z:ZR}{k:Bf}(H:x.length≤1099511627776)(m:x=MB p++k)(hn:0≤n)(q:n≤4096):A2 (Ae (Gd x n) (((MB p).length:Int),(0,([],z)))) λr=>(∃u,r= .inl u∧u.1≠0)∨
  ∃a b,r= .inr (((MB p++Sg a).length:Int),(a,z))/\(a.length:Int)=n/\x=(MB p++Sg a)++b/\ ∀e∈a,HT e.2.2.2.2.2.2.1.2.2.1/\HT e.2.2.2.2.2.2.1.2.2.2:=by
 refine Oc (λ(s:Int×(Int×(List EN×ZR)))=> ∃a b,s=(((MB p++Sg a).length:Int),((a.length:Int),(a,z)))/\(a.length:Int)<=n/\x=(MB p++Sg a)++b/\ ∀e∈a,HT e.2.2.2.2.2.2.1.2.2.1/\HT e.2.2.2.2.2.2.1.2.2.2) (λs=>(n-s.2.1).toNat)
  ⟨[],k,by simp[Sg],by simpa using hn,by simpa[Sg]using m,λe c=>by cases c⟩ ?_
 rintro s ⟨a,b,rfl,I,f,j⟩;unfold Gd;dsimp only;refine AC (λo=>?_) (λo=>A2.done (.inr ⟨a,b,rfl,by omega,f,j⟩));have h:=congrArg List.length f;rw[Ad]at h;have t:B5 (x,((MB p++Sg a).length:Int))=some (UF (MB p++Sg a).length b):=by
  conv=>lhs;arg 1;rw[f]
  exact Zv (by omega)
 rw[t,AJ];refine AK (λc=>A2.done (.inl ⟨_,rfl,c⟩)) (λc=>?_);obtain⟨J,⟨d,D⟩,E⟩:=tJ c;refine AB (AAx (by omega)) λv y=>?_;refine AK (λc=>A2.done (.inl ⟨_,rfl,c⟩)) (λg=>?_);obtain⟨l,F,G,K,L⟩:=y g;refine AB (Ac (by simp;omega)) λw A=>?_;have i:MB p++Sg (a++[v.1])=(MB p++Sg a)++MB (Bw v.1):=by rw[dP,Ax]
 rw[AY (by omega)];refine A2.next ⟨a++[v.1],d,?_,by rw[Ad,BC,BH];omega,?_,λe c=>?_⟩ (by dsimp only;omega)
 ·have B:((MB p++Sg (a++[v.1])).length:Int)=((MB p++Sg a).length:Int)+8+((UF (MB p++Sg a).length b).1.length:Int):=by rw[i, @Ad _ (MB p++Sg a),JX,<-l];omega
  have C:((a++[v.1]).length:Int)=(a.length:Int)+1:=by rw[Ad,BC,BH];omega
  rw[A.1,E];exact F9 B.symm (F9 C.symm rfl)
 ·rw[i,<-l,Ax,<-D];exact f
 ·rcases Ar.1 c with c|c
  ·exact j e c
  ·rw[A5.1 c];exact⟨F,G⟩
def AAy{x:Bf}(C:x.length<=1099511627776):A2 (FM x) λr=>r.2=0->x=MJ r.1/\VR r.1:=by
 unfold FM;have A:B5 (x,0)=some (UF 0 x):=Zv (a:=[]) (t:=x) (by simp;omega);rw[A,AJ];refine AK (λl=>AA λb=>absurd b l) (λl=>?_);obtain⟨T,⟨S,J⟩,K⟩:=tJ l;generalize UF 0 x=v0 at*;refine AK (λ_=>AA λb=>absurd (show(4:Int)=0 from b) (by decide)) (λi=>?_);simp only[len]at i;have y:v0.1.length=33:=by omega
 have z:Ry v0.1 0 4=some (v0.1.take 4):=by unfold Ry;rw[if_pos (by omega)];rfl
 rw[z,AJ];refine AK (λ_=>AA λb=>absurd (show(4:Int)=0 from b) (by decide)) (λj=>?_);have j:v0.1.take 4=[80,77,82,78]:=by simpa using j
 obtain⟨D,E,F,G,H,I,⟨a2,a3,a4,a5,a6,a7⟩,⟨M,N,O,P,Q,R⟩,w,m⟩:=nY y j;unfold C4;rw[a2,a3,a4,a5,a6,a7];simp only[AJ];refine AC (λ_=>AA λb=>absurd (show(4:Int)=0 from b) (by decide)) (λs=>?_);have k:v0.2.1=((MB v0.1).length:Int):=by rw[K,JX];omega
 rw[k];refine AB (ABh (n:=I) C J m (by first|omega|(dsimp only;omega))) λr hr=>?_;rcases hr with⟨u,rfl,o⟩|⟨q,g,rfl,f,d,v⟩
 ·exact BK (AA λb=>absurd b o)
 apply BG;dsimp only at f⊢;have p:=congrArg List.length d;rw[Ad]at p;refine AK (λ_=>AA λb=>absurd (show(4:Int)=0 from b) (by decide)) (λe=>?_);have c:g=[]:=EA (by simp only[len]at e;omega);subst c;refine AB (YL) λL h=>?_;refine AO (λ_=>AA λb=>absurd (show(40:Int)=0 from b) (by decide)) (λB=>AA λ_=>⟨?_,?_⟩)
 ·rw[DQ]at d;unfold MJ;dsimp only;rw[d,show YH (D,(E,(F,(G,(H,q)))))=v0.1 from ?_];rw[w];unfold YH;dsimp only;rw[f]
 ·exact h.1 B
def sW{x:AU}(h:VR x):FM (MJ x)=some (x,0):=by
 have G:=h.1.2.2.2.2.2.2.2.2;have m:=h.len;have q:=Uw x;obtain⟨⟨a2,a3,a4,a5,a6,a7⟩,⟨A,B,C,D,E,F⟩⟩:=qJ h.1;unfold FM;have v:B5 (MJ x,0)=some (YH x,(((MB (YH x)).length:Int),0)):=by refine(Zv (a:=[]) (t:=MJ x) (by simp;omega)).trans (congrArg some ?_);unfold MJ;rw[oN (by omega),JX];refine F9 rfl (F9 ?_ rfl);simp only[BH];omega
 have n:(YH x).take 4=[80,77,82,78]:=rfl;rw[v,AJ];dsimp only[len];rw[show((0:Int) !=0)=false by decide,cond_false,q,show(((33:Nat):Int) !=33)=false by decide,cond_false];have u:Ry (YH x) 0 4=some ((YH x).take 4):=by unfold Ry;rw[if_pos (by omega)];rfl
 rw[u,AJ,n,bne_self_eq_false,cond_false];unfold C4;rw[a2,a3,a4,a5,a6,a7];simp only[AJ];rw[decide_eq_false (by omega),cond_false];have key:A2 (Ae (Gd (MJ x) (x.2.2.2.2.2.length:Int)) (((MB (YH x)).length:Int),(0,([],(x.1,(x.2.1,(x.2.2.1,(x.2.2.2.1,(x.2.2.2.2.1,(0,(0,(0,(0,(0,[])))))))))))))) λr=>r= .inr (((MJ x).length:Int),(x.2.2.2.2.2,(x.1,(x.2.1,(x.2.2.1,(x.2.2.2.1,(x.2.2.2.2.1,(0,(0,(0,(0,(0,[])))))))))))):=by
  refine Oc (λ(s:Int×(Int×(List EN×ZR)))=> ∃k:Nat,k<=x.2.2.2.2.2.length/\s=(((MB (YH x)++Sg (x.2.2.2.2.2.take k)).length:Int),((k:Int),(x.2.2.2.2.2.take k,(x.1,(x.2.1,(x.2.2.1,(x.2.2.2.1,(x.2.2.2.2.1,(0,(0,(0,(0,(0,[])))))))))))))) (λs=>x.2.2.2.2.2.length-s.2.1.toNat)
   ⟨0,Cc _,by simp[Sg]⟩ ?_
  rintro s ⟨k,H,rfl⟩;unfold Gd;dsimp only;refine AC (λp=>?_) (λp=>A2.done ?_)
  ·have g:k<x.2.2.2.2.2.length:=by omega
   have d:=(h.ent (Nw g)).1;have i:=Y8 d;have c:Sg x.2.2.2.2.2=Sg (x.2.2.2.2.2.take k)++(MB (Bw x.2.2.2.2.2[k])++Sg (x.2.2.2.2.2.drop (k+1))):=by rw[<-ll,<-U3 g];unfold Sg;rw[<-List.flatten_append,<-HU,FG]
   have e:MJ x=(MB (YH x)++Sg (x.2.2.2.2.2.take k))++(MB (Bw x.2.2.2.2.2[k])++Sg (x.2.2.2.2.2.drop (k+1))):=by unfold MJ;rw[c,Ax]
   have l:=congrArg List.length e;rw[Ad]at l;have j:B5 (MJ x,((MB (YH x)++Sg (x.2.2.2.2.2.take k)).length:Int))=some (Bw x.2.2.2.2.2[k],(((MB (YH x)++Sg (x.2.2.2.2.2.take k)).length:Int)+8+((Bw x.2.2.2.2.2[k]).length:Int),0)):=by
    conv=>lhs;arg 1;rw[e]
    rw[Zv (by omega),oN i]
   rw[j,AJ];dsimp only;rw[show((0:Int) !=0)=false by decide,cond_false,AAw d,AJ];dsimp only;rw[show((0:Int) !=0)=false by decide,cond_false];refine AB (Ac (by rw[Cn];simp;omega)) λw z=>?_;rw[AY (by omega)];refine A2.next ⟨k+1,by omega,?_⟩ (by dsimp only;omega)
   rw[z.1,Ff,Ay g,J6,dP,<-Ax,Ad (bs:=MB (Bw x.2.2.2.2.2[k])),JX];refine F9 ?_ (F9 ?_ rfl)
   ·dsimp only;omega
   ·dsimp only;omega
  ·rw[Dq (by omega)];rfl
 obtain⟨r,hr,rfl⟩:=key;rw[hr,AJ,VQ];dsimp only;rw[show(((MJ x).length:Int) !=len (MJ x))=false from bne_self_eq_false _,cond_false];obtain⟨b,o,y⟩:=(YL)
 have f:b=true:=y.2 h;subst f;rw[o,AJ,D9,cond_false]
def ABd{x p:Bf}{n:(Int×Int)}{z:ZR}{k:Bf}(H:x.length≤1099511627776)(m:x=MB p++k)(hn:0≤n.1)(q:n.1≤4096):A2 (Ae (Jz x n) (((MB p).length:Int),(0,([],z)))) λr=>(∃u,r= .inl u∧u.1≠0)∨
  ∃a b,r= .inr (((MB p++Sg a).length:Int),(a,z))/\(a.length:Int)=n.1/\x=(MB p++Sg a)++b/\ ∀e∈a,HT e.2.2.2.2.2.2.1.2.2.1/\HT e.2.2.2.2.2.2.1.2.2.2:=by
 refine Oc (λ(s:Int×(Int×(List EN×ZR)))=> ∃a b,s=(((MB p++Sg a).length:Int),((a.length:Int),(a,z)))/\(a.length:Int)<=n.1/\x=(MB p++Sg a)++b/\ ∀e∈a,HT e.2.2.2.2.2.2.1.2.2.1/\HT e.2.2.2.2.2.2.1.2.2.2) (λs=>(n.1-s.2.1).toNat)
  ⟨[],k,by simp[Sg],by simpa using hn,by simpa[Sg]using m,λe c=>by cases c⟩ ?_
 rintro s ⟨a,b,rfl,I,f,j⟩;unfold Jz;dsimp only;refine AC (λo=>?_) (λo=>A2.done (.inr ⟨a,b,rfl,by omega,f,j⟩));have h:=congrArg List.length f;rw[Ad]at h;have t:FV (x,((MB p++Sg a).length:Int))=some (UF (MB p++Sg a).length b):=by
  conv=>lhs;arg 1;rw[f]
  exact W8 (by omega)
 rw[t,AJ];refine AK (λc=>A2.done (.inl ⟨_,rfl,c⟩)) (λc=>?_);obtain⟨J,⟨d,D⟩,E⟩:=tJ c;refine AB (AAn (by omega)) λv y=>?_;refine AK (λc=>A2.done (.inl ⟨_,rfl,c⟩)) (λg=>?_);obtain⟨l,F,G,K,L⟩:=y g;refine AB (Ac (by simp;omega)) λw A=>?_;have i:MB p++Sg (a++[v.1])=(MB p++Sg a)++MB (Bw v.1):=by rw[dP,Ax]
 rw[AY (by omega)];refine A2.next ⟨a++[v.1],d,?_,by rw[Ad,BC,BH];omega,?_,λe c=>?_⟩ (by dsimp only;omega)
 ·have B:((MB p++Sg (a++[v.1])).length:Int)=((MB p++Sg a).length:Int)+8+((UF (MB p++Sg a).length b).1.length:Int):=by rw[i, @Ad _ (MB p++Sg a),JX,<-l];omega
  have C:((a++[v.1]).length:Int)=(a.length:Int)+1:=by rw[Ad,BC,BH];omega
  rw[A.1,E];exact F9 B.symm (F9 C.symm rfl)
 ·rw[i,<-l,Ax,<-D];exact f
 ·rcases Ar.1 c with c|c
  ·exact j e c
  ·rw[A5.1 c];exact⟨F,G⟩
def AAp{x:Bf}(K:x.length<=1099511627776):A2 (Jt x) λr=>r.2=0->x=MJ r.1/\WR r.1:=by
 unfold Jt;have I:FV (x,0)=some (UF 0 x):=W8 (a:=[]) (t:=x) (by simp;omega);rw[I,AJ];refine AK (λc=>AA λb=>absurd b c) (λc=>?_);obtain⟨V,⟨U,R⟩,S⟩:=tJ c;generalize UF 0 x=v0 at*;refine AK (λ_=>AA λb=>absurd (show(4:Int)=0 from b) (by decide)) (λm=>?_);simp only[len]at m;have w:v0.1.length=33:=by omega
 rw[qo w,AJ];refine AO (λ_=>AA λb=>absurd (show(4:Int)=0 from b) (by decide)) (λo=>?_);have o:v0.1.take 4=[80,77,82,78]:=by simpa using o
 obtain⟨L,M,N,O,P,Q,⟨a2,a3,a4,a5,a6,a7⟩,⟨y,z,A,B,C,D⟩,H,q⟩:=nY w o;rw[show wi (4+8)=12 from rfl,show wi (12+8)=20 from rfl,show wi (20+4)=24 from rfl,show wi (24+4)=28 from rfl,show wi (28+1)=29 from rfl];rw[y,z,A,B,C,D];simp only[AJ];refine AO (λ_=>AA λb=>absurd (show(4:Int)=0 from b) (by decide)) (λg=>?_);have g:=of_decide_eq_true g;have p:v0.2.1=((MB v0.1).length:Int):=by rw[S,JX];omega
 rw[p];refine AB (ABd (n:=(Q,0)) K R q (by first|omega|(dsimp only;omega))) λr hr=>?_;rcases hr with⟨u,rfl,s⟩|⟨E,k,rfl,j,f,h⟩
 ·exact BK (AA λb=>absurd b s)
 apply BG;dsimp only at j⊢;have v:=congrArg List.length f;rw[Ad]at v;refine AC (λ_=>AA λb=>absurd (show(4:Int)=0 from b) (by decide)) (λi=>?_);have d:k=[]:=EA (by simp only[len]at i;omega);subst d;refine AB (qi) λT l=>?_;refine AO (λ_=>AA λb=>absurd (show(40:Int)=0 from b) (by decide)) (λJ=>AA λ_=>⟨?_,?_⟩)
 ·rw[DQ]at f;unfold MJ;dsimp only;rw[f,show YH (L,(M,(N,(O,(P,E)))))=v0.1 from ?_];rw[H];unfold YH;dsimp only;rw[j]
 ·obtain⟨F,G⟩:=l.2 J;exact⟨F,λe c=>⟨(h e c).1,(h e c).2,(G e c).2⟩⟩
def AAo{x:AU}(h:VR x):Jt (MJ x)=some (x,0):=by
 have F:=h.1.2.2.2.2.2.2.2.2;have m:=h.len;have n:=Uw x;obtain⟨⟨a2,a3,a4,a5,a6,a7⟩,⟨o,p,q,u,v,y⟩⟩:=qJ h.1;unfold Jt;have C:FV (MJ x,0)=some (YH x,(((MB (YH x)).length:Int),0)):=by refine(W8 (a:=[]) (t:=MJ x) (by simp;omega)).trans (congrArg some ?_);unfold MJ;rw[oN (by omega),JX];refine F9 rfl (F9 ?_ rfl);simp only[BH];omega
 have z:(YH x).take 4=[80,77,82,78]:=rfl;rw[C,AJ];dsimp only[len];rw[show((0:Int) !=0)=false by decide,cond_false,n,show(((33:Nat):Int) !=33)=false by decide,cond_false];rw[qo n,AJ,z,beq_self_eq_true,D9,cond_false];rw[show wi (4+8)=12 from rfl,show wi (12+8)=20 from rfl,show wi (20+4)=24 from rfl,show wi (24+4)=28 from rfl,show wi (28+1)=29 from rfl];rw[o,p,q,u,v,y];simp only[AJ];rw[decide_eq_true (by omega),D9,cond_false];have key:A2 (Ae (Jz (MJ x) ((x.2.2.2.2.2.length:Int),0)) (((MB (YH x)).length:Int),(0,([],(x.1,(x.2.1,(x.2.2.1,(x.2.2.2.1,(x.2.2.2.2.1,(0,(0,(0,(0,(0,[])))))))))))))) λr=>r= .inr (((MJ x).length:Int),(x.2.2.2.2.2,(x.1,(x.2.1,(x.2.2.1,(x.2.2.2.1,(x.2.2.2.2.1,(0,(0,(0,(0,(0,[])))))))))))):=by
  refine Oc (λ(s:Int×(Int×(List EN×ZR)))=> ∃k:Nat,k<=x.2.2.2.2.2.length/\s=(((MB (YH x)++Sg (x.2.2.2.2.2.take k)).length:Int),((k:Int),(x.2.2.2.2.2.take k,(x.1,(x.2.1,(x.2.2.1,(x.2.2.2.1,(x.2.2.2.2.1,(0,(0,(0,(0,(0,[])))))))))))))) (λs=>x.2.2.2.2.2.length-s.2.1.toNat)
   ⟨0,Cc _,by simp[Sg]⟩ ?_
  rintro s ⟨k,G,rfl⟩;unfold Jz;dsimp only;refine AC (λB=>?_) (λB=>A2.done ?_)
  ·have g:k<x.2.2.2.2.2.length:=by omega
   have d:=(h.ent (Nw g)).1;have i:=Y8 d;have c:Sg x.2.2.2.2.2=Sg (x.2.2.2.2.2.take k)++(MB (Bw x.2.2.2.2.2[k])++Sg (x.2.2.2.2.2.drop (k+1))):=by rw[<-ll,<-U3 g];unfold Sg;rw[<-List.flatten_append,<-HU,FG]
   have e:MJ x=(MB (YH x)++Sg (x.2.2.2.2.2.take k))++(MB (Bw x.2.2.2.2.2[k])++Sg (x.2.2.2.2.2.drop (k+1))):=by unfold MJ;rw[c,Ax]
   have l:=congrArg List.length e;rw[Ad]at l;have j:FV (MJ x,((MB (YH x)++Sg (x.2.2.2.2.2.take k)).length:Int))=some (Bw x.2.2.2.2.2[k],(((MB (YH x)++Sg (x.2.2.2.2.2.take k)).length:Int)+8+((Bw x.2.2.2.2.2[k]).length:Int),0)):=by
    conv=>lhs;arg 1;rw[e]
    rw[W8 (by omega),oN i]
   rw[j,AJ];dsimp only;rw[show((0:Int) !=0)=false by decide,cond_false,AAm d,AJ];dsimp only;rw[show((0:Int) !=0)=false by decide,cond_false];refine AB (Ac (by rw[Cn];simp;omega)) λw E=>?_;rw[AY (by omega)];refine A2.next ⟨k+1,by omega,?_⟩ (by dsimp only;omega)
   rw[E.1,Ff,Ay g,J6,dP,<-Ax,Ad (bs:=MB (Bw x.2.2.2.2.2[k])),JX];refine F9 ?_ (F9 ?_ rfl)
   ·dsimp only;omega
   ·dsimp only;omega
  ·rw[Dq (by omega)];rfl
 obtain⟨r,hr,rfl⟩:=key;rw[hr,AJ,VQ];dsimp only;rw[decide_eq_false (by first|omega|(simp only[len];omega)),cond_false];obtain⟨b,A,D⟩:=(qi)
 have f:b=true:=D.1 h;subst f;rw[A,AJ,D9,cond_false]
def NG(P:List Bf):Bf:=(P.map MB).flatten
def yC(P:List Bf):Prop:= ∀p∈P,33<=p.length/\p.length<=255
def Rc(p:Bf)(P:List Bf):NG (p::P)=MB p++NG P:=by unfold NG;rw[BE,TQ]
def QX{p:Bf}(h:p.length<=255):MB p=UInt8.ofNat p.length::0::0::0::(p++Gf (Sk (Gf (p.length:Int) 4++p)) 4):=by
 have e:Gf (p.length:Int) 4=[UInt8.ofNat p.length,0,0,0]:=by simp only[Gf];rw[show((p.length:Int)%256).toNat=p.length by omega,show((p.length:Int)/256%256).toNat=0 by omega,show((p.length:Int)/256/256%256).toNat=0 by omega,show((p.length:Int)/256/256/256%256).toNat=0 by omega];rfl
 unfold MB;rw[show Gf (p.length:Int) 4++(p++Gf (Sk (Gf (p.length:Int) 4++p)) 4)=[UInt8.ofNat p.length,0,0,0]++(p++Gf (Sk (Gf (p.length:Int) 4++p)) 4) by rw[e]];rfl
def jd{m n:Nat}(a:m<=255)(hn:n<=255)(h:UInt8.ofNat m=UInt8.ofNat n):m=n:=by have:=congrArg UInt8.toNat h;rw[VS,VS]at this;omega
def qf{n:Nat}(h:33<=n)(hn:n<=255)(e:UInt8.ofNat n=0):False:=by have:=congrArg UInt8.toNat e;rw[VS]at this;have a:(0:UInt8).toNat=0:=rfl;omega
def o8: ∀(P Q:List Bf),yC P->yC Q-> ∀(u v:Bf) (b:UInt8),NG P=u++v->NG Q=u++b::v->False
 |P,[],hP,hQ,u,v,b,h1,d=>by have:=congrArg List.length d;simp[NG]at this
 |[],q::Q,hP,hQ,u,v,b,h1,d=>by have B:=congrArg List.length h1;have y:=congrArg List.length d;rw[Rc,Ad,JX]at y;simp only[NG,G3,List.flatten_nil,BH,Ad,BC]at B y;have:=hQ q (Al.2 (.inl rfl));omega
 |p::P,q::Q,hP,hQ,u,v,b,h1,d=>by
  obtain⟨I,n⟩:=hP p (Al.2 (.inl rfl));obtain⟨q1,q2⟩:=hQ q (Al.2 (.inl rfl));have f:yC P:=λx w=>hP x (Al.2 (.inr w));have g:yC Q:=λx w=>hQ x (Al.2 (.inr w));rw[Rc]at h1 d;cases u with
  |nil=>rw[CA]at h1 d;rw[<-h1,QX n,QX q2,Dg,Dg]at d;injection d with _ d;injection d with d _;exact qf I n d.symm
  |cons a u=>
   have i:=h1;have j:=d;rw[QX n,Dg,Dg]at i;rw[QX q2,Dg,Dg]at j;injection i with C _;injection j with D _;have o:p.length=q.length:=jd n q2 (C.trans D.symm);have h:(MB p).length=(MB q).length:=by rw[JX,JX,o]
   rcases ic.1 h1 with⟨t,l,m⟩|⟨t,l,m⟩
   ·rw[l,Ax]at d;obtain⟨G,e⟩:=Ju d h.symm;exact o8 P Q f g t v b m e
   ·
    cases z:t.reverse with
    |nil=>
     have s:t=[]:=by simpa using z
     subst s;rw[DQ]at l;rw[CA]at m;rw[<-l,m]at d;obtain⟨G,e⟩:=Ju d h.symm;exact o8 P Q f g [] (NG P) b (by rw[CA]) (by rw[CA];exact e)
    |cons c r=>
     have k:t=r.reverse++[c]:=by have:=congrArg List.reverse z;rwa [List.reverse_reverse,List.reverse_cons]at this
     have E:MB q++NG Q=((a::u)++b::r.reverse)++(c::NG P):=by rw[d,m,k];simp only[Ax,Dg,CA]
     have F:(MB q).length=((a::u)++b::r.reverse).length:=by have:=congrArg List.length l;rw[k]at this;simp only[Ad,BC,BH]at this⊢;omega
     obtain⟨_,e⟩:=Ju E F;cases Q with
     |nil=>exact absurd (congrArg List.length e) (by simp[NG])
     |cons J Q=>
      obtain⟨M,K⟩:=g J (Al.2 (.inl rfl));rw[Rc,QX K,Dg,Dg]at e;injection e with _ e;cases P with
      |nil=>exact absurd (congrArg List.length e) (by simp[NG])
      |cons H P=>obtain⟨L,A⟩:=f H (Al.2 (.inl rfl));rw[Rc,QX A,Dg]at e;injection e with e _;exact qf L A e.symm
def ya{p q u w:Bf}{a b:UInt8}(m:p.length=q.length)(g:MB p=u++a::w)(d:MB q=u++b::w):a=b:=by
 have r:MB p=(Gf (p.length:Int) 4++p)++Gf (Sk (Gf (p.length:Int) 4++p)) 4:=by unfold MB;rw[List.append_assoc]
 have v:MB q=(Gf (p.length:Int) 4++q)++Gf (Sk (Gf (p.length:Int) 4++q)) 4:=by unfold MB;rw[List.append_assoc,m]
 rw[r]at g;rw[v]at d;have h:(Gf (p.length:Int) 4++p).length=(Gf (p.length:Int) 4++q).length:=by rw[Ad,Ad,m]
 generalize Gf (p.length:Int) 4++p=A at*;generalize Gf (p.length:Int) 4++q=B at*;have l: ∀s,bo 4 (Sk s):=λs=>by have:=km s;exact⟨λ_=>by rw[show(256:Int)^4=4294967296 by decide];omega,by omega⟩
 have C:=B7 4 (Sk A);have D:=B7 4 (Sk B);rcases ic.1 g with⟨t,f,j⟩|⟨t,f,j⟩
 ·
  have:B=A:=by rw[f,Ax]at d;exact(Ju d h.symm).1
  subst this;have:=g.symm.trans d;have:=(Ju this rfl).2;injection this
 ·cases t with
  |nil=>
   rw[DQ]at f;rw[f]at h;have i:=(Ju d (by omega))
   have:B=A:=by rw[i.1,f]
   rw[this]at d;rw[d]at g;have:=(Ju g rfl).2;injection this with e _;exact e.symm
  |cons c t=>
   rw[Dg]at j;injection j with n o;subst n o;have z:B++Gf (Sk B) 4=(u++b::t)++Gf (Sk A) 4:=by rw[d,Ax,Dg]
   obtain⟨x,y⟩:=Ju z (by rw[<-h,f,Ad,Ad,BC,BC]);have k:=tu (by decide) (l B) (l A) y;rw[x,f]at k;exact(yQ k).symm
def sM: ∀(P Q:List Bf),yC P→yC Q→(∀(i:Nat) (p q s t:Bf),P[i]? =some p→Q[i]? =some q→p++s=q++t→p.length=q.length)→
  ∀(u v:Bf) (a b:UInt8),NG P=u++a::v->NG Q=u++b::v->a=b
 |[],Q,hP,hQ,hf,u,v,a,b,f,e=>by have:=congrArg List.length f;simp[NG]at this
 |P,[],hP,hQ,hf,u,v,a,b,f,e=>by have:=congrArg List.length e;simp[NG]at this
 |p::P,q::Q,hP,hQ,hf,u,v,a,b,f,e=>by
  obtain⟨G,E⟩:=hP p (Al.2 (.inl rfl));obtain⟨q1,q2⟩:=hQ q (Al.2 (.inl rfl));have k:yC P:=λx C=>hP x (Al.2 (.inr C));have l:yC Q:=λx C=>hQ x (Al.2 (.inr C));have m: ∀(i:Nat) (p q s t:Bf),P[i]? =some p->Q[i]? =some q->p++s=q++t->p.length=q.length:=λi p q s t A B=>hf (i+1) p q s t (by simpa using A) (by simpa using B);rw[Rc]at f e;cases u with
  |nil=>rw[CA]at f e;rw[QX E,Dg]at f;rw[QX q2,Dg]at e;injection f with y f;injection e with z e;rw[<-f]at e;simp only[Dg,Ax]at e;injection e with _ e;injection e with _ e;injection e with _ e;have:=hf 0 p q _ _ rfl rfl e.symm;rw[<-y,<-z,this]
  |cons c u=>
   have n:=f;have o:=e;rw[QX E,Dg,Dg]at n;rw[QX q2,Dg,Dg]at o;injection n with A _;injection o with B _;have r:p.length=q.length:=jd E q2 (A.trans B.symm);have g:(MB p).length=(MB q).length:=by rw[JX,JX,r]
   rcases ic.1 f with⟨t,h,j⟩|⟨t,h,j⟩
   ·rw[h,Ax]at e;obtain⟨D,w⟩:=Ju e g.symm;exact sM P Q k l m t v a b j w
   ·cases t with
    |nil=>rw[DQ]at h;rw[CA]at j;rw[<-h]at e;obtain⟨D,w⟩:=Ju e g.symm;exact sM P Q k l m [] v a b (by rw[CA];exact j.symm) (by rw[CA];exact w)
    |cons d t=>
     rw[Dg]at j;injection j with y z;subst y z;have F:MB q++NG Q=((c::u)++b::t)++NG P:=by rw[e];simp only[Ax,Dg]
     obtain⟨D,w⟩:=Ju F (by rw[<-g,h];simp only[Ad,BC]);exact ya r h D
def nR{c d:FD}(e:HT c)(j:HT d){s t:Bf}(h:Rx c++s=Rx d++t):(Rx c).length=(Rx d).length:=by
 have f: ∀{c:FD},HT c-> ∃(n:Nat) (r:Bf),Rx c=UInt8.ofNat n::r/\n<=255/\(Rx c).length=if n=255 then 1 else n+1:=λ{c} e=>by
  obtain⟨b,w⟩:=c;have a:=e.1;dsimp only at a;unfold Rx;cases b with
  |false=>exact⟨255,[],rfl,Aj _,rfl⟩
  |true=>
   refine⟨w.length,w,?_,by omega,?_⟩
   ·dsimp only[cond_true];simp only[Gf];rw[show((w.length:Int)%256).toNat=w.length by omega];rfl
   ·dsimp only[cond_true];rw[Ad,B7,if_neg (by omega)];omega
 obtain⟨m,r,g,k,l1⟩:=f e;obtain⟨n,q,i,l,l2⟩:=f j;rw[g,i,Dg,Dg]at h;injection h with h _;have:=jd k l h;rw[l1,l2,this]
def uf{e f:EN}(g:HT e.2.2.2.2.2.2.1.2.2.1/\HT e.2.2.2.2.2.2.1.2.2.2/\e.2.2.2.2.2.2.2=[])(i:HT f.2.2.2.2.2.2.1.2.2.1/\HT f.2.2.2.2.2.2.1.2.2.2/\f.2.2.2.2.2.2.2=[]){s t:Bf}(h:Bw e++s=Bw f++t):(Bw e).length=(Bw f).length:=by obtain⟨a1,a2,a3⟩:=g;obtain⟨b,c,d⟩:=i;unfold Bw at*;rw[a3,d]at*;simp only[Ax]at h;have a: ∀{n m:Int} {k:Nat} {x y:Bf},Gf n k++x=Gf m k++y->x=y:=λj=>(Ju j (by rw[B7,B7])).2;have h:=a (a (a (a (a (a (a (a h)))))));have l1:=nR a1 b h;have h:=(Ju h l1).2;have l2:=nR a2 c h;simp only[Ad,B7,l1,l2,BH]
def xD(x:AU):List Bf:=YH x::x.2.2.2.2.2.map Bw
def j6(x:AU):MJ x=NG (xD x):=by unfold MJ xD;rw[Rc];unfold Sg NG;rw[HV];rfl
def WR.sml{x:AU}(h:WR x):yC (xD x):=λp a=>by
 rcases Al.1 a with rfl|a
 ·rw[Uw];decide
 ·obtain⟨e,f,rfl⟩:=BX.1 a;obtain⟨b,c,d⟩:=h.2 e f;have l1:=Y7 b;have l2:=Y7 c;unfold Bw;rw[d];simp only[Ad,B7,BH];omega
inductive zh(s t:Bf):Prop where
 |more (u v:Bf) (b:UInt8) (h1:s=u++v) (h2:t=u++b::v)
 |less (u v:Bf) (b:UInt8) (h1:s=u++b::v) (h2:t=u++v)
 |other (u v:Bf) (a b:UInt8) (h:a≠b) (h1:s=u++a::v) (h2:t=u++b::v)
def ww{x y:AU}(k:WR x)(l:WR y)(h:zh (MJ x) (MJ y)):False:=by
 rw[j6,j6]at h;rcases h with⟨u,v,b,c,d⟩|⟨u,v,b,c,d⟩|⟨u,v,a,b,h,c,d⟩
 ·exact o8 _ _ k.sml l.sml u v b c d
 ·exact o8 _ _ l.sml k.sml u v b d c
 ·refine h (sM _ _ k.sml l.sml (λi p q s t g j o=>?_) u v a b c d);cases i with
  |zero=>simp only[xD,M7,AV]at g j;rw[<-g,<-j,Uw,Uw]
  |succ i=>simp only[xD,eA,Bb,VP]at g j;obtain⟨e,m,rfl⟩:=g;obtain⟨f,n,rfl⟩:=j;exact uf (k.2 e (BV m)) (l.2 f (BV n)) o
def xc{a b n k:Nat}{d:Array NE}(h:a<=k)(c:k<a+n):vT a b n d k=d[b+(k-a)]! :=if_pos ⟨h,c⟩
def xd{a b n k:Nat}{d:Array NE}(e:a+n<=b)(h:b<=k)(c:k<b+n):vT a b n d k=d[a+(k-b)]! :=by unfold vT;rw[if_neg (by omega),if_pos ⟨h,c⟩]
def kU{a b n k:Nat}{d:Array NE}(h:k<a\/a+n<=k)(c:k<b\/b+n<=k):vT a b n d k=d[k]! :=by unfold vT;rw[if_neg (by omega),if_neg (by omega)]
def pI(s m e:Nat)(d:Array NE)(k:Nat):NE:=if s<=k/\k<s+(e-m)then d[m+(k-s)]! else if s+(e-m)<=k/\k<e then d[s+(k-(s+(e-m)))]! else d[k]!
def dj{s m e k:Nat}{d:Array NE}(h:s<=k)(a:k<s+(e-m)):pI s m e d k=d[m+(k-s)]! :=if_pos ⟨h,a⟩
def iG{s m e k:Nat}{d:Array NE}(h:s+(e-m)<=k)(a:k<e):pI s m e d k=d[s+(k-(s+(e-m)))]! :=by unfold pI;rw[if_neg (by omega),if_pos ⟨h,a⟩]
def Sb{s m e k:Nat}{d:Array NE}(a:s<=m)(b:m<=e)(h:k<s\/e<=k):pI s m e d k=d[k]! :=by unfold pI;rw[if_neg (by omega),if_neg (by omega)]
def fE{d:Array NE}{x y:Nat}(h:x=y):d[x]! =d[y]! :=by rw[h]
def xP{m i j k:Nat}{d e:Array NE}(o:i<=m)(p:1<=j)(l:j<i)(n:m+j<=d.size)(a: ∀k,k<d.size->e[k]! =vT (m-i) m j d k)(b:k<d.size):pI (m-(i-j)) m (m+j) e k=pI (m-i) m (m+j) d k:=by
 rcases Ag k (m-i)with c|c
 ·rw[Sb (by omega) (by omega) (by omega),Sb (by omega) (by omega) (by omega),a k b,kU (by omega) (by omega)]
 rcases Ag k (m-i+j)with f|f
 ·rw[Sb (by omega) (by omega) (by omega),dj (by omega) (by omega),a k b,xc (by omega) (by omega)]
 rcases Ag k (m-(i-j)+j)with g|g
 ·rw[dj (by omega) (by omega),iG (by omega) (by omega),a _ (by omega),xd (by omega) (by omega) (by omega)];exact fE (by omega)
 rcases Ag k (m+j)with h|h
 ·rw[iG (by omega) (by omega),iG (by omega) (by omega),a _ (by omega),kU (by omega) (by omega)];exact fE (by omega)
 ·rw[Sb (by omega) (by omega) (by omega),Sb (by omega) (by omega) (by omega),a k b,kU (by omega) (by omega)]
def xQ{m i j k:Nat}{d e:Array NE}(p:i<=m)(n:1<=i)(l:i<j)(o:m+j<=d.size)(a: ∀k,k<d.size->e[k]! =vT (m-i) (m+j-i) i d k)(b:k<d.size):pI (m-i) m (m+(j-i)) e k=pI (m-i) m (m+j) d k:=by
 rcases Ag k (m-i)with c|c
 ·rw[Sb (by omega) (by omega) (by omega),Sb (by omega) (by omega) (by omega),a k b,kU (by omega) (by omega)]
 rcases Ag k (m-i+(j-i))with f|f
 ·rw[dj (by omega) (by omega),dj (by omega) (by omega),a _ (by omega),kU (by omega) (by omega)]
 rcases Ag k (m+(j-i))with g|g
 ·rw[iG (by omega) (by omega),dj (by omega) (by omega),a _ (by omega),xc (by omega) (by omega)];exact fE (by omega)
 rcases Ag k (m+j)with h|h
 ·rw[Sb (by omega) (by omega) (by omega),iG (by omega) (by omega),a _ (by omega),xd (by omega) (by omega) (by omega)];exact fE (by omega)
 ·rw[Sb (by omega) (by omega) (by omega),Sb (by omega) (by omega) (by omega),a k b,kU (by omega) (by omega)]
def vF{d:Array NE}{a m b:Nat}(C:a<m)(D:m<b)(E:b≤d.size)(G:d.size≤16777216):
  A2 (Cw d.toList ((a:Int),((m:Int),(b:Int)))) λr=> ∃e:Array NE,r=e.toList/\e.size=d.size/\ ∀k,k<d.size->e[k]! =pI a m b d k:=by
 unfold Cw;have q:wi ((m:Int)-(a:Int))=((m-a:Nat):Int):=by rw[O8 (by omega)];omega
 have t:wi ((b:Int)-(m:Int))=((b-m:Nat):Int):=by rw[O8 (by omega)];omega
 dsimp only;rw[q,t];refine AB (P:=λ(r:Int×List NE)=> ∃(i:Nat) (e:Array NE),r.1=i/\r.2=e.toList/\1<=i/\i<=m-a/\m+i<=b/\e.size=d.size/\ ∀k,k<d.size->pI (m-i) m (m+i) e k=pI a m b d k) ?_ ?_
 ·refine AM (λ(s:Int×(Int×List NE))=> ∃(i j:Nat) (e:Array NE),s.1=i/\s.2.1=j/\s.2.2=e.toList/\1<=i/\1<=j/\i<=m-a/\m+j<=b/\e.size=d.size/\ ∀k,k<d.size->pI (m-i) m (m+j) e k=pI a m b d k) (λs=>(s.1+s.2.1).toNat)
   ⟨m-a,b-m,d,rfl,rfl,rfl,by omega,by omega,Aj _,by omega,rfl,λk _=>by rw[show m-(m-a)=a by omega,show m+(b-m)=b by omega]⟩ ?_
  rintro⟨H,I,J⟩ ⟨i,j,e,q1,q2,q3,q4,q5,q6,q7,q8,q9⟩;dsimp only at q1 q2 q3;subst q1 q2 q3;unfold Fq;dsimp only;have o:wi ((m:Int)-(i:Int))=((m-i:Nat):Int):=by rw[O8 (by omega)];omega
  rw[o];refine AK (λB=>?_) (λA=>AA ⟨i,e,rfl,rfl,q4,q6,by omega,q8,λk g=>?_⟩)
  ·apply AC<;>intro F
   ·apply AB (pO (d:=e) (a:=m-i) (b:=m) (n:=j) (by omega) (by omega) (by omega));rintro v ⟨f,rfl,h,l⟩;have c:Nat.beq (List.length f.toList) (List.length e.toList)=true:=by rw[DF,DF,h];exact Ds _
    have p:wi ((i:Int)-(j:Int))=((i-j:Nat):Int):=by rw[O8 (by omega)];omega
    rw[c,cond_true,p];refine AA ⟨⟨i-j,j,f,rfl,rfl,rfl,by omega,q5,by omega,q7,by omega,λk g=>?_⟩,?_⟩
    ·rw[xP (by omega) q5 (by omega) (by omega) l (by omega),q9 k g]
    ·show(((i-j:Nat):Int)+(j:Int)).toNat<((i:Int)+(j:Int)).toNat
     omega
   ·have u:wi (wi ((m:Int)+(j:Int))-(i:Int))=((m+j-i:Nat):Int):=by rw[O8 (x:=(m:Int)+(j:Int)) (by omega),O8 (by omega)];omega
    rw[u];apply AB (pO (d:=e) (a:=m-i) (b:=m+j-i) (n:=i) (by omega) (by omega) (by omega));rintro v ⟨f,rfl,h,l⟩;have c:Nat.beq (List.length f.toList) (List.length e.toList)=true:=by rw[DF,DF,h];exact Ds _
    have p:wi ((j:Int)-(i:Int))=((j-i:Nat):Int):=by rw[O8 (by omega)];omega
    rw[c,cond_true,p];refine AA ⟨⟨i,j-i,f,rfl,rfl,rfl,q4,by omega,q6,by omega,by omega,λk g=>?_⟩,?_⟩
    ·rw[xQ (by omega) q4 (by omega) (by omega) l (by omega),q9 k g]
    ·show((i:Int)+((j-i:Nat):Int)).toNat<((i:Int)+(j:Int)).toNat
     omega
  ·have:j=i:=by omega
   subst this;exact q9 k g
 ·rintro⟨K,L⟩ ⟨i,e,q1,q2,q3,q4,q5,q6,q7⟩;dsimp only at q1 q2;subst q1 q2;dsimp only;have o:wi ((m:Int)-(i:Int))=((m-i:Nat):Int):=by rw[O8 (by omega)];omega
  rw[o];apply AB (pO (d:=e) (a:=m-i) (b:=m) (n:=i) (by omega) (by omega) (by omega));rintro v ⟨f,rfl,h,l⟩;have c:Nat.beq (List.length f.toList) (List.length e.toList)=true:=by rw[DF,DF,h];exact Ds _
  rw[c,cond_true];refine AA ⟨f,rfl,by omega,λk g=>?_⟩;rw[<-q7 k g,l k (by omega)];rcases Ag k (m-i)with w|w
  ·rw[kU (by omega) (by omega),Sb (by omega) (by omega) (by omega)]
  rcases Ag k m with y|y
  ·rw[xc (by omega) (by omega),dj (by omega) (by omega)]
  rcases Ag k (m+i)with z|z
  ·rw[xd (by omega) (by omega) (by omega),iG (by omega) (by omega)];exact fE (by omega)
  ·rw[kU (by omega) (by omega),Sb (by omega) (by omega) (by omega)]
def qd{i j:Nat}(h:i+j<=1099511627776):wi (Int.fdiv (IntKind.wrap .u64 (wi ((i:Int)+(j:Int)))) (2^(min (Int.toNat 1) 64)))=(((i+j)/2:Nat):Int):=by rw[gC (by omega) (by omega) (by omega)];omega
def bs{body:Int×Int→Option (Step (Int×Int) Int)}{P:Nat→Bool}{b a:Nat}(m: ∀i:Nat,body ((i:Int),(i:Int))=some (.done (i:Int)))
  (s: ∀i j:Nat,b<=i->i<j->j<=a->body ((i:Int),(j:Int))=some (.next (if P ((i+j)/2)=true then((((i+j)/2+1:Nat):Int),(j:Int))else((i:Int),(((i+j)/2:Nat):Int))))) (l:b<=a):
  ∃r:Nat,Ae body ((b:Int),(a:Int))=some (r:Int)/\b<=r/\r<=a/\(b<r->P (r-1)=true)/\(r<a->P r=false):=by
 suffices h: ∀n i j:Nat,j-i<=n->b<=i->i<=j->j<=a->(b<i->P (i-1)=true)->(j<a->P j=false)-> ∃r:Nat,Ae body ((i:Int),(j:Int))=some (r:Int)/\b<=r/\r<=a/\(b<r->P (r-1)=true)/\(r<a->P r=false)from
  h _ b a (Aj _) (Aj _) l (Aj _) (λh=>absurd h (by omega)) (λh=>absurd h (by omega))
 intro n;induction n with
 |zero=>
  intro i j p c q d e f;have:i=j:=by omega
  subst this;rw[Cg,m];exact⟨i,rfl,c,d,e,f⟩
 |succ n o=>
  intro i j p c q d e f;rw[Cg];by_cases k:i=j
  ·subst k;rw[m];exact⟨i,rfl,c,d,e,f⟩
  ·rw[s i j c (by omega) d];by_cases g:P ((i+j)/2)=true
   ·rw[if_pos g];exact o _ j (by omega) (by omega) (by omega) d (λ_=>by rw[fY];exact g) f
   ·rw[if_neg g];exact o i _ (by omega) c (by omega) (by omega) e (λ_=>by simpa using g)
def ABl{d:Array NE}{a m b:Nat}(o:a<d.size)(g:m≤b)(p:b≤d.size)(q:d.size≤16777216)(c:Int×Int):
  ∃r:Nat,Ae (Ce d.toList ((a:Int),c)) ((m:Int),(b:Int))=some (r:Int)/\m<=r/\r<=b/\(m<r->lN d[r-1]! d[a]! =true)/\(r<b->lN d[r]! d[a]! =false):=by
 refine bs (P:=λk=>lN d[k]! d[a]!) (λi=>?_) (λi j h l n=>?_) g
 ·unfold Ce;have:decide ((i:Int)<(i:Int))=false:=by simp
  dsimp only;rw[this,cond_false]
 ·unfold Ce;have:decide ((i:Int)<(j:Int))=true:=by simp;omega
  dsimp only;rw[this,cond_true,qd (by omega)];obtain⟨v,e,f⟩:=zK d[(i+j)/2]! d[a]!;rw[sB (k:=(i+j)/2) rfl (by omega),sB (k:=a) rfl (by omega)];simp only[AJ,e,f,k9 (i:=(i+j)/2) (by omega)];cases lN d[(i+j)/2]! d[a]! <;>rfl
def ABm{d:Array NE}{a r b:Nat}(h:a<r)(hr:r≤b)(w:b≤d.size)(x:d.size≤16777216):
  A2 (Ae (C6 (r:Int)) ((a:Int),d.toList)) λq=> ∃e:Array NE,q=e.toList/\Sort.PermIn a b d e/\(∀t,a<=t->t<r-1->e[t]! =d[t+1]!)/\e[r-1]! =d[a]! /\ ∀t,r<=t->e[t]! =d[t]! :=by
 refine AM (λ(s:Int×List NE)=> ∃(k:Nat) (e:Array NE),s.1=k/\s.2=e.toList/\a<=k/\k<r/\Sort.PermIn a b d e/\(∀t,a<=t->t<k->e[t]! =d[t+1]!)/\e[k]! =d[a]! /\ ∀t,k<t->e[t]! =d[t]!) (λs=>r-s.1.toNat) ⟨a,d,rfl,rfl,Aj _,h,Sort.permIn_refl _ _ _,λt _ _=>by omega,rfl,λt _=>rfl⟩ ?_;rintro⟨z,A⟩ ⟨k,e,q1,q2,q3,q4,q5,q6,q7,q8⟩;dsimp only at q1 q2;subst q1 q2;have y:=q5.1;unfold C6;dsimp only;have l:wi ((r:Int)-1)=((r-1:Nat):Int):=by rw[rE (by omega)];omega
 rw[l];refine AC (λn=>?_) (λn=>AA ⟨e,rfl,q5,λt g m=>q6 t g (by omega),?_,λt o=>q8 t (by omega)⟩)
 ·have p:ix e.toList ((k+1:Nat):Int)=some e[k+1]! :=sB rfl (by omega);have u:ix e.toList (k:Int)=some e[k]! :=sB rfl (by omega);have v:ix (BZ e.toList (k:Int) e[k+1]!) ((k+1:Nat):Int)=some (e.setIfInBounds k e[k+1]!)[k+1]! :=yk rfl rfl (by omega);simp only[k9 (i:=k) (by omega),p,u,v,AJ,zX (d:=e) (a:=k) (b:=k+1) rfl rfl];have c:=Sort.swp_get e (i:=k) (j:=k+1) (by omega) (by omega);refine AA ⟨⟨k+1,_,rfl,rfl,by omega,by omega,Sort.permIn_trans _ _ _ _ _ q5 (Sort.swp_permIn e a b k (k+1) q3 (by omega) (by omega) (by omega) (by omega)),λt g m=>?_,?_,λt o=>?_⟩,?_⟩
  ·rw[c,if_neg (by omega)];by_cases f:t=k
   ·subst f;rw[if_pos rfl];exact q8 _ (by omega)
   ·rw[if_neg f];exact q6 t g (by omega)
  ·rw[c,if_pos rfl];exact q7
  ·rw[c,if_neg (by omega),if_neg (by omega)];exact q8 t (by omega)
  ·show r-((k+1:Nat):Int).toNat<r-((k:Nat):Int).toNat
   omega
 ·have:k=r-1:=by omega
  rw[<-this];exact q7
def xW{d:Array NE}{a b:Nat}(o:a+1≤b)(z:b≤d.size)(A:d.size≤16777216)(k:Sort.SortedIn lN (a+1) b d)(c:Int×Int):
  A2 (Option.bind (Ae (Ce d.toList ((a:Int),c)) (((a+1:Nat):Int),(b:Int))) λv=>Option.bind (Ae (C6 v) ((a:Int),d.toList)) λw=>some w) λq=> ∃e:Array NE,q=e.toList/\Sort.PermIn a b d e/\Sort.SortedIn lN a b e:=by
 obtain⟨r,g,H,I,J,K⟩:=ABl (d:=d) (a:=a) (m:=a+1) (b:=b) (by omega) o z A c;rw[g,AJ];apply AB (ABm (d:=d) (a:=a) (r:=r) (b:=b) (by omega) I z A);rintro q ⟨e,rfl,G,n,B,C⟩;refine AA ⟨e,rfl,G,λx y p s u=>?_⟩;have W:=mh;have F: ∀t,a+1<=t->t<r->lN d[a]! d[t]! =false:=λt h l=>by
  have f:=J (by omega);cases D:lN d[a]! d[t]! with
  |false=>rfl
  |true=>
   have i:=W.trans _ _ _ f D;rcases Ag t (r-1)with j|j
   ·exact absurd i (by rw[k t (r-1) h j (by omega)];decide)
   ·rw[show t=r-1 by omega,W.irrefl]at i;cases i
 have E: ∀t,r<=t->t<b->lN d[t]! d[a]! =false:=λt h l=>by
  have f:=K (by omega);rcases Ag r t with j|j
  ·exact W.ntrans _ _ _ (k r t H j l) f
  ·rw[show t=r by omega];exact f
 rcases Ag y (r-1)with h|h
 ·rw[n x p (by omega),n y (by omega) h];exact k (x+1) (y+1) (by omega) (by omega) (by omega)
 rcases Ag (r-1) y with l|l
 ·rw[C y (by omega)];rcases Ag x (r-1)with f|f
  ·rw[n x p f];exact k (x+1) y (by omega) (by omega) u
  ·rcases Ag (r-1) x with i|i
   ·rw[C x (by omega)];exact k x y (by omega) s u
   ·rw[show x=r-1 by omega,B];exact E y (by omega) u
 ·rw[show y=r-1 by omega,B,n x p (by omega)];exact F (x+1) (by omega) (by omega)
def ABn{d:Array NE}{a m:Nat}(l:a≤m)(w:m<d.size)(u:d.size≤16777216)(b:Int):
  ∃r:Nat,Ae (Bs d.toList ((a:Int),((m:Int),b))) ((a:Int),(m:Int))=some (r:Int)/\a<=r/\r<=m/\(a<r->lN d[m]! d[r-1]! =false)/\(r<m->lN d[m]! d[r]! =true):=by
 have c: ∀i:Nat,Bs d.toList ((a:Int),((m:Int),b)) ((i:Int),(i:Int))=some (.done (i:Int)):=λi=>by
  unfold Bs;have:decide ((i:Int)<(i:Int))=false:=by simp
  dsimp only;rw[this,cond_false]
 have e: ∀i j:Nat,a<=i->i<j->j<=m->Bs d.toList ((a:Int),((m:Int),b)) ((i:Int),(j:Int))=some (.next (if(!lN d[m]! d[(i+j)/2]!)=true then((((i+j)/2+1:Nat):Int),(j:Int))else((i:Int),(((i+j)/2:Nat):Int)))):=λi j q s t=>by
  unfold Bs;have:decide ((i:Int)<(j:Int))=true:=by simp;omega
  dsimp only;rw[this,cond_true,qd (by omega)];obtain⟨v,f,g⟩:=zK d[m]! d[(i+j)/2]!;rw[sB (k:=(i+j)/2) rfl (by omega),sB (k:=m) rfl (by omega)];simp only[AJ,f,g,k9 (i:=(i+j)/2) (by omega)];cases lN d[m]! d[(i+j)/2]! <;>rfl
 obtain⟨r,f,g,n,o,p⟩:=bs (P:=λk=>!lN d[m]! d[k]!) c e l;exact⟨r,f,g,n,λh=>by simpa using o h,λh=>by simpa using p h⟩
def ABo{d:Array NE}{a r m:Nat}(n:a≤r)(hr:r≤m)(y:m<d.size)(x:d.size≤16777216):
  A2 (Ae (C7 (r:Int)) ((m:Int),d.toList)) λq=> ∃e:Array NE,q=e.toList/\Sort.PermIn a (m+1) d e/\(∀t,r<t->t<=m->e[t]! =d[t-1]!)/\e[r]! =d[m]! /\ ∀t,t<r->e[t]! =d[t]! :=by
 refine AM (λ(s:Int×List NE)=> ∃(k:Nat) (e:Array NE),s.1=k/\s.2=e.toList/\r<=k/\k<=m/\Sort.PermIn a (m+1) d e/\(∀t,k<t->t<=m->e[t]! =d[t-1]!)/\e[k]! =d[m]! /\ ∀t,t<k->e[t]! =d[t]!) (λs=>s.1.toNat) ⟨m,d,rfl,rfl,hr,Aj _,Sort.permIn_refl _ _ _,λt _ _=>by omega,rfl,λt _=>rfl⟩ ?_;rintro⟨A,B⟩ ⟨k,e,q1,q2,q3,q4,q5,q6,q7,q8⟩;dsimp only at q1 q2;subst q1 q2;have z:=q5.1;unfold C7;dsimp only;refine AC (λo=>?_) (λo=>AA ⟨e,rfl,q5,λt l g=>q6 t (by omega) g,?_,λt p=>q8 t (by omega)⟩)
 ·have h:wi ((k:Int)-1)=((k-1:Nat):Int):=by rw[rE (by omega)];omega
  have u:ix e.toList ((k-1:Nat):Int)=some e[k-1]! :=sB rfl (by omega);have v:ix e.toList (k:Int)=some e[k]! :=sB rfl (by omega);have w:ix (BZ e.toList (k:Int) e[k-1]!) ((k-1:Nat):Int)=some (e.setIfInBounds k e[k-1]!)[k-1]! :=yk rfl rfl (by omega);simp only[h,u,v,w,AJ,zX (d:=e) (a:=k) (b:=k-1) rfl rfl];have c:=Sort.swp_get e (i:=k) (j:=k-1) (by omega) (by omega);refine AA ⟨⟨k-1,_,rfl,rfl,by omega,by omega,Sort.permIn_trans _ _ _ _ _ q5 (Sort.swp_permIn e a (m+1) k (k-1) (by omega) (by omega) (by omega) (by omega) (by omega)),λt l g=>?_,?_,λt p=>?_⟩,?_⟩
  ·rw[c,if_neg (by omega)];by_cases f:t=k
   ·subst f;rw[if_pos rfl];exact q8 _ (by omega)
   ·rw[if_neg f];exact q6 t (by omega) g
  ·rw[c,if_pos rfl];exact q7
  ·rw[c,if_neg (by omega),if_neg (by omega)];exact q8 t (by omega)
  ·show((k-1:Nat):Int).toNat<((k:Nat):Int).toNat
   omega
 ·have:k=r:=by omega
  rw[<-this];exact q7
def zR{d:Array NE}{a m:Nat}(n:a≤m)(u:m<d.size)(s:d.size≤16777216)(k:Sort.SortedIn lN a m d)(b:Int):
  A2 (Option.bind (Ae (Bs d.toList ((a:Int),((m:Int),b))) ((a:Int),(m:Int))) λv=>Option.bind (Ae (C7 v) ((m:Int),d.toList)) λw=>some w) λq=> ∃e:Array NE,q=e.toList/\Sort.PermIn a (m+1) d e/\Sort.SortedIn lN a (m+1) e:=by
 obtain⟨r,g,B,G,H,I⟩:=ABn (d:=d) (a:=a) (m:=m) n u s b;rw[g,AJ];apply AB (ABo (d:=d) (a:=a) (r:=r) (m:=m) B G u s);rintro q ⟨e,rfl,F,z,A,l⟩;refine AA ⟨e,rfl,F,λx y o p J=>?_⟩;have W:=mh;have E: ∀t,a<=t->t<r->lN d[m]! d[t]! =false:=λt h i=>by
  have c:=H (by omega);rcases Ag t (r-1)with j|j
  ·exact W.ntrans _ _ _ c (k t (r-1) h j (by omega))
  ·rw[show t=r-1 by omega];exact c
 have D: ∀t,r<=t->t<m->lN d[t]! d[m]! =false:=λt h i=>by
  have c:=I (by omega);cases C:lN d[t]! d[m]! with
  |false=>rfl
  |true=>
   have f:=W.trans _ _ _ C c;rcases Ag r t with j|j
   ·exact absurd f (by rw[k r t B j i];decide)
   ·rw[show t=r by omega,W.irrefl]at f;cases f
 rcases Ag y r with h|h
 ·rw[l x (by omega),l y h];exact k x y o p (by omega)
 rcases Ag r y with i|i
 ·rw[z y i (by omega)];rcases Ag x r with c|c
  ·rw[l x c];exact k x (y-1) o (by omega) (by omega)
  ·rcases Ag r x with f|f
   ·rw[z x f (by omega)];exact k (x-1) (y-1) (by omega) (by omega) (by omega)
   ·rw[show x=r by omega,A];exact D (y-1) (by omega) (by omega)
 ·rw[show y=r by omega,A,l x (by omega)];exact E x o (by omega)
def ABp{d:Array NE}{a m b lo hi:Nat}(l:lo≤hi)(s:a≤lo)(t:hi≤m)(u:(a+b)/2+m-lo≤b)(y:hi≤(a+b)/2+m)(w:m≤b)(z:b≤d.size)(A:d.size≤16777216):
  ∃r:Nat,Ae (CD d.toList ((a:Int),((m:Int),(b:Int)))) ((lo:Int),(hi:Int))=some (r:Int)/\lo<=r/\r<=hi/\(lo<r->lN d[(a+b)/2+m-1-(r-1)]! d[r-1]! =false)/\(r<hi->lN d[(a+b)/2+m-1-r]! d[r]! =true):=by
 have c: ∀i:Nat,CD d.toList ((a:Int),((m:Int),(b:Int))) ((i:Int),(i:Int))=some (.done (i:Int)):=λi=>by
  unfold CD;have:decide ((i:Int)<(i:Int))=false:=by simp
  dsimp only;rw[this,cond_false]
 have e: ∀i j:Nat,lo<=i->i<j->j<=hi->CD d.toList ((a:Int),((m:Int),(b:Int))) ((i:Int),(j:Int))=some (.next (if(!lN d[(a+b)/2+m-1-(i+j)/2]! d[(i+j)/2]!)=true then((((i+j)/2+1:Nat):Int),(j:Int))else((i:Int),(((i+j)/2:Nat):Int)))):=λi j s t u=>by
  unfold CD;have:decide ((i:Int)<(j:Int))=true:=by simp;omega
  dsimp only;rw[this,cond_true,qd (i:=i) (j:=j) (by omega),qd (i:=a) (j:=b) (by omega)];have n:wi (wi (wi ((((a+b)/2:Nat):Int)+(m:Int))-1)-(((i+j)/2:Nat):Int))=(((a+b)/2+m-1-(i+j)/2:Nat):Int):=by rw[O8 (x:=(((a+b)/2:Nat):Int)+(m:Int)) (by omega),O8 (x:=(((a+b)/2:Nat):Int)+(m:Int)-1) (by omega),O8 (by omega)];omega
  obtain⟨v,f,g⟩:=zK d[(a+b)/2+m-1-(i+j)/2]! d[(i+j)/2]!;rw[n,sB (k:=(i+j)/2) rfl (by omega),sB (k:=(a+b)/2+m-1-(i+j)/2) rfl (by omega)];simp only[AJ,f,g,k9 (i:=(i+j)/2) (by omega)];cases lN d[(a+b)/2+m-1-(i+j)/2]! d[(i+j)/2]! <;>rfl
 obtain⟨r,f,g,o,p,q⟩:=bs (P:=λk=>!lN d[(a+b)/2+m-1-k]! d[k]!) c e l;exact⟨r,f,g,o,λh=>by simpa using p h,λh=>by simpa using q h⟩
def zJ{s m e:Nat}{d f:Array NE}(l:s<=m)(o:m<=e)(p:e<=d.size)(q:f.size=d.size)(h: ∀k,k<d.size->f[k]! =pI s m e d k):Sort.PermIn s e d f:=by
 refine⟨q,λi a=>?_,?_⟩
 ·rcases Ag i d.size with b|b
  ·rw[h i b,Sb l o a]
  ·rw[getElem!_neg f i (by omega),getElem!_neg d i (by omega)]
 ·have key: ∀(g:Nat->NE) (s n:Nat),(List.range' s n).map g=(List.range n).map λi=>g (s+i):=λg s n=>by rw[List.range'_eq_map_range,HV];rfl
  rw[Sort.extract_toList f s e (by omega),Sort.extract_toList d s e p];have c:List.range' s (e-s)=List.range' s (e-m)++List.range' (s+(e-m)) (m-s):=by rw[List.range'_append_1];exact congrArg (List.range' s) (by omega)
  have j:List.range' s (e-s)=List.range' s (m-s)++List.range' (s+(m-s)) (e-m):=by rw[List.range'_append_1];exact congrArg (List.range' s) (by omega)
  have l1:(List.range' s (e-m)).map (λi=>f[i]!)=(List.range' (s+(m-s)) (e-m)).map λi=>d[i]! :=by rw[key,key];refine Fe λi a=>?_;have:=G5.1 a;rw[h _ (by omega),dj (by omega) (by omega)];exact fE (by omega)
  have l2:(List.range' (s+(e-m)) (m-s)).map (λi=>f[i]!)=(List.range' s (m-s)).map λi=>d[i]! :=by rw[key,key];refine Fe λi a=>?_;have:=G5.1 a;rw[h _ (by omega),iG (by omega) (by omega)];exact fE (by omega)
  rw[show(List.range' s (e-s)).map (λi=>f[i]!)=(List.range' (s+(m-s)) (e-m)).map (λi=>d[i]!)++(List.range' s (m-s)).map (λi=>d[i]!) by rw[c,HU,l1,l2]];rw[j,HU];exact List.perm_append_comm
def pX(a b:Nat)(d e:Array NE):Prop:=Sort.PermIn a b d e/\Sort.SortedIn lN a b e
def iI{a m b:Nat}{d:Array NE}(h:m<=a\/b<=m)(c:Sort.SortedIn lN a m d)(e:Sort.SortedIn lN m b d)(f:a<=m)(g:m<=b):Sort.SortedIn lN a b d:=by
 rcases h with h|h
 ·have:m=a:=by omega
  rw[<-this];exact e
 ·have:m=b:=by omega
  rw[<-this];exact c
def ACF{C:List NE×(Int×(Int×Int))→Option (List NE)}{N a m b:Nat}{d:Array NE}(a5:a<m)(a6:m<b)(hb:b≤d.size)(hd:d.size≤16777216)(s:Sort.SortedIn lN a m d)(A:Sort.SortedIn lN m b d)
  (O: ∀(S:Array NE) (V m' R:Nat),V<m'->m'<R->R<=S.size->S.size<=16777216->Sort.SortedIn lN V m' S->Sort.SortedIn lN m' R S->PT (R-V<=N) (C (S.toList,((V:Int),((m':Int),(R:Int))))) λr=> ∃e:Array NE,r=e.toList/\pX V R S e):
  PT (b-a<=N+1) (BJ C d.toList ((a:Int),((m:Int),(b:Int)))) λr=> ∃e:Array NE,r=e.toList/\pX a b d e:=by
 have W:=mh;unfold BJ;have e0:wi ((m:Int)-(a:Int))=((m-a:Nat):Int):=by rw[O8 (by omega)];omega
 have e1:wi ((b:Int)-(m:Int))=((b-m:Nat):Int):=by rw[O8 (by omega)];omega
 dsimp only;rw[e0,e1,qd (i:=a) (j:=b) (by omega)];apply PT.cond<;>intro Q
 ·have Q:m=a+1:=by have:=eq_of_beq Q;omega
  subst Q;exact dM (xW (by omega) hb hd A _)
 apply PT.cond<;>intro n
 ·have n:b=m+1:=by have:=eq_of_beq n;omega
  subst n;exact dM (zR (by omega) hb hd s _)
 have n1:m-a≠1:=λh=>by rw[h]at Q;exact absurd Q (by decide)
 have n2:b-m≠1:=λh=>by rw[h]at n;exact absurd n (by decide)
 have Y:a<(a+b)/2/\(a+b)/2<b:=by omega
 generalize hM:(a+b)/2=M at Y⊢;have e2:wi ((M:Int)+(m:Int))=((M+m:Nat):Int):=by rw[O8 (by omega)];omega
 rw[e2];refine PT.bind (P:=λv=> ∃L J:Nat,v=((L:Int),(J:Int))/\L<=J/\a<=L/\J<=m/\J<=M/\M+m-L<=b/\(L=a\/M+m-L=b)/\(J=m\/J=M)) ?_ ?_
 ·refine PT.dec (λhc=>PT.some ⟨M+m-b,M,?_,by omega⟩) (λhc=>PT.some ⟨a,m,rfl,by omega⟩);rw[O8 (by omega)];exact congrArg (λz=>(z,(M:Int))) (by omega)
 rintro v ⟨L,J,rfl,f1,f2,f3,f4,f5,f6,f7⟩;obtain⟨r,g,r1,r2,r3,r4⟩:=ABp (d:=d) (a:=a) (m:=m) (b:=b) (lo:=L) (hi:=J) f1 f2 f3 (by omega) (by omega) (by omega) hb hd;rw[hM]at r3 r4;rw[g,AJ];have e3:wi (((M+m:Nat):Int)-(r:Int))=((M+m-r:Nat):Int):=by rw[O8 (by omega)];omega
 simp only[e3];obtain⟨E,hE⟩: ∃E,E=M+m-r:=⟨_,rfl⟩
 rw[<-hE];have c1:a<r->E<b->lN d[E]! d[r-1]! =false:=λQ n=>by have:=r3 (by omega);rw[show M+m-1-(r-1)=E by omega]at this;exact this
 have c2:r<m->m<E->lN d[E-1]! d[r]! =true:=λQ n=>by have:=r4 (by omega);rw[show M+m-1-r=E-1 by omega]at this;exact this
 have s3: ∀c l:Array NE,Sort.PermIn a b d c->(∀k,k<d.size->c[k]! =pI r m E d k)->pX a M c l->PT (b-a<=N+1) (bif decide ((M:Int)<(E:Int))then Option.bind (bif decide ((E:Int)<(b:Int))then Option.bind (C (l.toList,((M:Int),((E:Int),(b:Int))))) λv=>bif Nat.beq (List.length v) (List.length l.toList)then some v else none else some l.toList) λv=>some v else some l.toList) λq=> ∃e:Array NE,q=e.toList/\pX a b d e:=by
  intro c l U f n;have z1:c.size=d.size:=U.1;have z2:l.size=c.size:=n.1.1;have ax: ∀k,k<r->c[k]! =d[k]! :=λk hk=>by rw[f k (by omega),Sb (by omega) (by omega) (by omega)]
  have a0: ∀k,r<=k->k<M->c[k]! =d[m+(k-r)]! :=λk h h'=>by rw[f k (by omega),dj (by omega) (by omega)]
  have H: ∀k,M<=k->k<E->c[k]! =d[r+(k-M)]! :=λk h h'=>by rw[f k (by omega),iG (by omega) (by omega)];exact fE (by omega)
  have I: ∀k,E<=k->k<b->c[k]! =d[k]! :=λk h h'=>by rw[f k (by omega),Sb (by omega) (by omega) (by omega)]
  have a1: ∀x y,a<=x->x<M->M<=y->y<b->lN c[y]! c[x]! =false:=by
   intro x y F a4 G K;rcases Ag x r with q1|q1
   ·rw[ax x q1];rcases Ag y E with q2|q2
    ·rw[H y G q2];exact s x _ F (by omega) (by omega)
    ·rw[I y q2 K];have k1:lN d[y]! d[E]! =false:=by
      rcases Ag E y with q3|q3
      ·exact A E y (by omega) q3 K
      ·rw[show y=E by omega];exact W.irrefl _
     have k2:lN d[r-1]! d[x]! =false:=by
      rcases Ag x (r-1)with q3|q3
      ·exact s x (r-1) F q3 (by omega)
      ·rw[show r-1=x by omega];exact W.irrefl _
     exact W.ntrans _ _ _ (W.ntrans _ _ _ k1 (c1 (by omega) (by omega))) k2
   ·rw[a0 x q1 a4];rcases Ag y E with q2|q2
    ·rw[H y G q2];have hc:=c2 (by omega) (by omega);have k1:lN d[E-1]! d[m+(x-r)]! =false:=by
      rcases Ag (m+(x-r)) (E-1)with q3|q3
      ·exact A _ (E-1) (by omega) q3 (by omega)
      ·rw[show m+(x-r)=E-1 by omega];exact W.irrefl _
     refine W.ntrans _ d[E-1]! _ ?_ k1;cases hk:lN d[r+(y-M)]! d[E-1]! with
     |false=>rfl
     |true=>
      have k2:=W.trans _ _ _ hk hc;rcases Ag r (r+(y-M))with q3|q3
      ·exact absurd k2 (by rw[s r _ (by omega) q3 (by omega)];decide)
      ·rw[show r+(y-M)=r by omega,W.irrefl]at k2;cases k2
    ·rw[I y q2 K];exact A _ y (by omega) (by omega) K
  have X: ∀d3:Array NE,pX M b l d3->pX a b d d3:=λd3 T=>by
   refine⟨Sort.permIn_trans _ _ _ _ _ U (Sort.permIn_trans _ _ _ _ _ (Sort.permIn_mono _ _ a M a b (by omega) (by omega) (by omega) n.1) (Sort.permIn_mono _ _ M b a b (by omega) (by omega) (by omega) T.1)),λx y F B G=>?_⟩;rcases Ag y M with q1|q1
   ·rw[T.1.2.1 x (by omega),T.1.2.1 y (by omega)];exact n.2 x y F B q1
   ·rcases Ag x M with q2|q2
    ·rw[T.1.2.1 x (by omega)];refine Sort.permIn_all l d3 M b (λz=>lN z l[x]! =false) (by omega) T.1 (λw hw a3=>?_) y q1 G;rw[n.1.2.1 w (by omega)];exact Sort.permIn_all c l a M (λz=>lN c[w]! z=false) (by omega) n.1 (λu hu a2=>a1 u w hu a2 hw a3) x F q2
    ·exact T.2 x y q2 B G
  have ap:Sort.SortedIn lN M E l:=λx y F B G=>by rw[n.1.2.1 x (by omega),n.1.2.1 y (by omega),H x F (by omega),H y (by omega) G];exact s _ _ (by omega) (by omega) (by omega)
  have ar:Sort.SortedIn lN E b l:=λx y F B G=>by rw[n.1.2.1 x (by omega),n.1.2.1 y (by omega),I x F (by omega),I y (by omega) G];exact A _ _ (by omega) (by omega) (by omega)
  have o:E<=M\/b<=E->pX a b d l:=λh=>X l ⟨Sort.permIn_refl _ _ _,iI h ap ar (by omega) (by omega)⟩;refine PT.dec (λq1=>?_) (λq1=>PT.some ⟨l,rfl,o (by omega)⟩);refine PT.bind (P:=λq=> ∃e:Array NE,q=e.toList/\pX a b d e) ?_ λr h=>PT.some h;refine PT.dec (λq2=>?_) (λq2=>PT.some ⟨l,rfl,o (by omega)⟩);have hr:=O l M E b (by omega) (by omega) (by omega) (by omega) ap ar;refine PT.bind (P:=λq=> ∃e:Array NE,q=e.toList/\pX M b l e) ⟨λt=>hr.1 (by omega),hr.2⟩ ?_;rintro q ⟨e,rfl,D⟩;exact FY (by rw[DF,DF,D.1.1]) (PT.some ⟨e,rfl,X e D⟩)
 have s2: ∀c:Array NE,Sort.PermIn a b d c->(∀k,k<d.size->c[k]! =pI r m E d k)->PT (b-a<=N+1) (bif decide ((a:Int)<(r:Int))then Option.bind (bif decide ((r:Int)<(M:Int))then Option.bind (C (c.toList,((a:Int),((r:Int),(M:Int))))) λv=>bif Nat.beq (List.length v) (List.length c.toList)then some v else none else some c.toList) λv=>(bif decide ((M:Int)<(E:Int))then Option.bind (bif decide ((E:Int)<(b:Int))then Option.bind (C (v,((M:Int),((E:Int),(b:Int))))) λw=>bif Nat.beq (List.length w) (List.length v)then some w else none else some v) λw=>some w else some v)else(bif decide ((M:Int)<(E:Int))then Option.bind (bif decide ((E:Int)<(b:Int))then Option.bind (C (c.toList,((M:Int),((E:Int),(b:Int))))) λw=>bif Nat.beq (List.length w) (List.length c.toList)then some w else none else some c.toList) λw=>some w else some c.toList)) λq=> ∃e:Array NE,q=e.toList/\pX a b d e:=by
  intro c U f;have z1:c.size=d.size:=U.1;have ad:Sort.SortedIn lN a r c:=λx y F B G=>by rw[f x (by omega),f y (by omega),Sb (by omega) (by omega) (by omega),Sb (by omega) (by omega) (by omega)];exact s _ _ (by omega) (by omega) (by omega)
  have al:Sort.SortedIn lN r M c:=λx y F B G=>by rw[f x (by omega),f y (by omega),dj (by omega) (by omega),dj (by omega) (by omega)];exact A _ _ (by omega) (by omega) (by omega)
  have o:r<=a\/M<=r->pX a M c c:=λh=>⟨Sort.permIn_refl _ _ _,iI h ad al (by omega) (by omega)⟩
  refine PT.dec (λq1=>?_) (λq1=>s3 c c U f (o (by omega)));refine PT.bind (P:=λq=> ∃e:Array NE,q=e.toList/\pX a M c e) ?_ ?_
  ·refine PT.dec (λq2=>?_) (λq2=>PT.some ⟨c,rfl,o (by omega)⟩);have hr:=O c a r M (by omega) (by omega) (by omega) (by omega) ad al;refine PT.bind (P:=λq=> ∃e:Array NE,q=e.toList/\pX a M c e) ⟨λt=>hr.1 (by omega),hr.2⟩ ?_;rintro q ⟨e,rfl,D⟩;exact FY (by rw[DF,DF,D.1.1]) (PT.some ⟨e,rfl,D⟩)
  ·rintro q ⟨e,rfl,D⟩;exact s3 c e U f D
 have Z:r=m\/E=m-> ∀k,k<d.size->d[k]! =pI r m E d k:=λh k hk=>by
  rcases Ag k r with q1|q1
  ·rw[Sb (by omega) (by omega) (by omega)]
  rcases Ag k (r+(E-m))with q2|q2
  ·rw[dj q1 q2];exact fE (by omega)
  rcases Ag k E with q3|q3
  ·rw[iG q2 q3];exact fE (by omega)
  ·rw[Sb (by omega) (by omega) (by omega)]
 refine PT.dec (λq1=>?_) (λq1=>s2 d (Sort.permIn_refl _ _ _) (Z (by omega)));refine PT.bind (P:=λq=> ∃e:Array NE,q=e.toList/\Sort.PermIn a b d e/\ ∀k,k<d.size->e[k]! =pI r m E d k) ?_ ?_
 ·refine PT.dec (λq2=>?_) (λq2=>PT.some ⟨d,rfl,Sort.permIn_refl _ _ _,Z (by omega)⟩);apply PT.bind (dM (vF (d:=d) (a:=r) (m:=m) (b:=E) (by omega) (by omega) (by omega) hd));rintro q ⟨e,rfl,z,D⟩;exact FY (by rw[DF,DF,z]) (PT.some ⟨e,rfl,Sort.permIn_mono _ _ r E a b (by omega) (by omega) hb (zJ (by omega) (by omega) (by omega) z D),D⟩)
 ·rintro q ⟨e,rfl,p,D⟩;exact s2 e p D
def AA2(n:Nat)(p:List NE×(Int×(Int×Int))):dK (λg (p:List NE×(Int×(Int×Int)))=>BJ g p.1 p.2) (n+1) p=BJ (dK (λg (p:List NE×(Int×(Int×Int)))=>BJ g p.1 p.2) n) p.1 p.2:=rfl
def su: ∀(N:Nat) (d:Array NE) (a m b:Nat),a<m→m<b→b≤d.size→d.size≤16777216→Sort.SortedIn lN a m d→Sort.SortedIn lN m b d→
  PT (b-a<=N) (dK (λg (p:List NE×(Int×(Int×Int)))=>BJ g p.1 p.2) N (d.toList,((a:Int),((m:Int),(b:Int))))) λr=> ∃e:Array NE,r=e.toList/\pX a b d e
 |0,d,a,m,b,h1,h2,h3,h4,h5,h6=>⟨λt=>absurd t (by omega),λr e=>by cases e⟩
 |N+1,d,a,m,b,h1,h2,h3,h4,h5,h6=>by rw[AA2];exact ACF h1 h2 h3 h4 h5 h6 (su N)
def zr{d:Array NE}{a m b:Nat}(c:a<m)(f:m<b)(g:b≤d.size)(h:d.size≤16777216)(i:Sort.SortedIn lN a m d)(j:Sort.SortedIn lN m b d):
  A2 (CV d.toList ((a:Int),((m:Int),(b:Int)))) λr=> ∃e:Array NE,r=e.toList/\pX a b d e:=by
 unfold CV;obtain⟨r,hr⟩:=(su (b-a) d a m b c f g h i j).1 (Aj _);obtain⟨s,k⟩:=ah hr;obtain⟨N,l⟩:=ZB k;exact⟨s,k,(su N d a m b c f g h i j).2 s l⟩
def Mul(s a:Nat):Prop:= ∃k,a=k*s
def Mul.zero{s:Nat}:Mul s 0:=⟨0,by simp⟩
def Mul.add{s a:Nat}(h:Mul s a):Mul s (a+s):=by obtain⟨k,rfl⟩:=h;exact⟨k+1,by rw[VN]⟩
def Mul.half{s a:Nat}(h:Mul (2*s) a):Mul s a:=by obtain⟨k,rfl⟩:=h;exact⟨k*2,by rw[Nat.mul_assoc]⟩
def Mul.lt{s a b:Nat}(c:Mul s a)(d:Mul s b)(h:a<b):a+s<=b:=by obtain⟨k,rfl⟩:=c;obtain⟨j,rfl⟩:=d;have:k<j:=Nat.lt_of_mul_lt_mul_right h;have:=PJ s (Nat.succ_le_of_lt this);rwa [VN]at this
def W9{a b c:Nat}{d:Array NE}(h:Sort.SortedIn lN a b d)(i:c<=b):Sort.SortedIn lN a c d:=λx y e f g=>h x y e f (by omega)
def T6{a b x y:Nat}{d e:Array NE}(h:Sort.SortedIn lN a b d)(c:Sort.PermIn x y d e)(l:b<=x\/y<=a):Sort.SortedIn lN a b e:=λi j f g k=>by rw[c.2.1 i (by omega),c.2.1 j (by omega)];exact h i j f g k
def Blk(s n:Nat)(d:Array NE):Prop:= ∀a b,Mul s a->b<=a+s->b<=n->Sort.SortedIn lN a b d
def vM{d0:Array NE}{n:Nat}(hn:n=d0.size)(hd:n<=1048576):A2 (Cz d0.toList (n:Int)) λr=> ∃e:Array NE,r=e.toList/\pX 0 n d0 e:=by
 unfold Cz;refine AB (P:=λ(r:Int×List NE)=> ∃(a:Nat) (d:Array NE),r.1=a/\r.2=d.toList/\a<=n/\n<a+20/\Mul 20 a/\Sort.PermIn 0 n d0 d/\ ∀c,Mul 20 c->c<a->Sort.SortedIn lN c (c+20) d) ?_ ?_
 ·refine AM (λ(s:Int×(Int×List NE))=> ∃(a:Nat) (d:Array NE),s.1=a/\s.2.1=((a+20:Nat):Int)/\s.2.2=d.toList/\a<=n/\Mul 20 a/\Sort.PermIn 0 n d0 d/\ ∀c,Mul 20 c->c<a->Sort.SortedIn lN c (c+20) d) (λs=>n-s.1.toNat) ⟨0,d0,rfl,rfl,rfl,Cc _,Mul.zero,Sort.permIn_refl _ _ _,λc _ h=>absurd h (by omega)⟩ ?_;rintro⟨Y,Z,s3⟩ ⟨a,d,q1,q2,q3,q4,q5,q6,q7⟩;dsimp only at q1 q2 q3;subst q1 q2 q3;have hz:d.size=n:=by rw[q6.1,hn]
  unfold Fs;dsimp only;refine AC (λO=>?_) (λO=>AA ⟨a,d,rfl,rfl,q4,by omega,q5,q6,q7⟩);have z:=Sort.insertionSort_holds mh d a (a+20) (by omega) (by omega);rw[th (d:=d) (k:=a) (m:=a+20) rfl rfl (by omega) (by omega) (by omega),AJ];have l:Nat.beq (List.length (Sort.insertionSort lN d a (a+20)).toList) (List.length d.toList)=true:=by rw[DF,DF,z.1.1];exact Ds _
  have e1:wi (((a+20:Nat):Int)+20)=((a+20+20:Nat):Int):=by rw[O8 (by omega)];omega
  rw[l,cond_true,e1];refine AA ⟨⟨a+20,_,rfl,rfl,rfl,by omega,q5.add,Sort.permIn_trans _ _ _ _ _ q6 (Sort.permIn_mono _ _ a (a+20) 0 n (by omega) (by omega) (by omega) z.1),λc g w=>?_⟩,?_⟩
  ·rcases Ag c a with i|i
   ·exact T6 (q7 c g i) z.1 (.inl (g.lt q5 i))
   ·have:c=a:=by
     rcases Ag a c with j|j
     ·have:=q5.lt g j;omega
     ·omega
    rw[this];exact z.2
  ·show n-((a+20:Nat):Int).toNat<n-((a:Nat):Int).toNat
   omega
 rintro⟨r1,r2⟩ ⟨a,d,q1,q2,q3,q4,q5,q6,q7⟩;dsimp only at q1 q2;subst q1 q2;have hz:d.size=n:=by rw[q6.1,hn]
 dsimp only;have z:=Sort.insertionSort_holds mh d a n q3 (by omega);rw[th (d:=d) (k:=a) (m:=n) rfl rfl (by omega) (by omega) (by omega),AJ];have l:Nat.beq (List.length (Sort.insertionSort lN d a n).toList) (List.length d.toList)=true:=by rw[DF,DF,z.1.1];exact Ds _
 rw[l,cond_true];have C:Sort.PermIn 0 n d0 (Sort.insertionSort lN d a n):=Sort.permIn_trans _ _ _ _ _ q6 (Sort.permIn_mono _ _ a n 0 n (by omega) (by omega) (by omega) z.1);have u:Blk 20 n (Sort.insertionSort lN d a n):=λc o g w i=>by
  rcases Ag c a with j|j
  ·exact W9 (T6 (q7 c g j) z.1 (.inl (g.lt q5 j))) w
  ·rcases Ag a c with E|E
   ·have:=q5.lt g E;exact λx y H I J=>absurd J (by omega)
   ·rw[show c=a by omega];exact W9 z.2 i
 revert C u;generalize Sort.insertionSort lN d a n=d1;intro C u;refine AB (P:=λr=> ∃e:Array NE,r=e.toList/\pX 0 n d0 e) ?_ λr h=>AA h;refine AM (λ(s:Int×List NE)=> ∃(t:Nat) (e:Array NE),s.1=t/\s.2=e.toList/\1<=t/\t<=2097172/\Sort.PermIn 0 n d0 e/\Blk t n e) (λs=>n-s.1.toNat) ⟨20,d1,rfl,rfl,by omega,by omega,C,u⟩ ?_;rintro⟨Y,Z⟩ ⟨t,e,H,I,J,g4,V,W⟩;dsimp only at H I;subst H I;unfold Ft;dsimp only;refine AC (λO=>?_) (λO=>AA ⟨e,rfl,V,W 0 n Mul.zero (by omega) (Aj _)⟩);have U:wi (2*(t:Int))=((2*t:Nat):Int):=by rw[O8 (by omega)];omega
 have e3:wi ((t:Int)*2)=((2*t:Nat):Int):=by rw[O8 (by omega)];omega
 rw[U,e3];refine AB (P:=λ(r:Int×List NE)=> ∃(a:Nat) (f:Array NE),r.1=a/\r.2=f.toList/\a<=n/\n<a+2*t/\Mul (2*t) a/\Sort.PermIn 0 n d0 f/\(∀c,Mul (2*t) c->c<a->Sort.SortedIn lN c (c+2*t) f)/\ ∀c o,Mul t c->a<=c->o<=c+t->o<=n->Sort.SortedIn lN c o f) ?_ ?_
 ·refine AM (λ(s:Int×(Int×List NE))=> ∃(a:Nat) (f:Array NE),s.1=a/\s.2.1=((a+2*t:Nat):Int)/\s.2.2=f.toList/\a<=n/\Mul (2*t) a/\Sort.PermIn 0 n d0 f/\(∀c,Mul (2*t) c->c<a->Sort.SortedIn lN c (c+2*t) f)/\ ∀c o,Mul t c->a<=c->o<=c+t->o<=n->Sort.SortedIn lN c o f) (λs=>n-s.1.toNat)
   ⟨0,e,rfl,by simp,rfl,Cc _,Mul.zero,V,λc _ h=>absurd h (by omega),λc o g _ w i=>W c o g w i⟩ ?_
  rintro⟨Y,Z,s3⟩ ⟨a,f,k1,G,T,X,p,D,K,B⟩;dsimp only at k1 G T;subst k1 G T;have S:f.size=n:=by rw[D.1,hn]
  unfold Fu;dsimp only;refine AC (λQ=>?_) (λQ=>AA ⟨a,f,rfl,rfl,X,by omega,p,D,K,B⟩);have N:wi ((a:Int)+(t:Int))=((a+t:Nat):Int):=by rw[O8 (by omega)];omega
  have e5:wi (((a+2*t:Nat):Int)+((2*t:Nat):Int))=((a+2*t+2*t:Nat):Int):=by rw[O8 (by omega)];omega
  rw[N,U,e5];apply AB (zr (d:=f) (a:=a) (m:=a+t) (b:=a+2*t) (by omega) (by omega) (by omega) (by omega) (B a (a+t) p.half (Aj _) (Aj _) (by omega)) (B (a+t) (a+2*t) p.half.add (by omega) (by omega) (by omega)));rintro r ⟨q,rfl,v,F⟩;have l:Nat.beq (List.length q.toList) (List.length f.toList)=true:=by rw[DF,DF,v.1];exact Ds _
  rw[l,cond_true];refine AA ⟨⟨a+2*t,q,rfl,rfl,rfl,by omega,p.add,Sort.permIn_trans _ _ _ _ _ D (Sort.permIn_mono _ _ a (a+2*t) 0 n (by omega) (by omega) (by omega) v),λc g w=>?_,λc o g w i j=>T6 (B c o g (by omega) i j) v (.inr w)⟩,?_⟩
  ·rcases Ag c a with i|i
   ·exact T6 (K c g i) v (.inl (g.lt p i))
   ·have:c=a:=by
     rcases Ag a c with j|j
     ·have:=p.lt g j;omega
     ·omega
    rw[this];exact F
  ·show n-((a+2*t:Nat):Int).toNat<n-((a:Nat):Int).toNat
   omega
 rintro⟨v1,v2⟩ ⟨a,f,k1,G,T,X,p,D,K,B⟩;dsimp only at k1 G;subst k1 G;have S:f.size=n:=by rw[D.1,hn]
 dsimp only;have N:wi ((a:Int)+(t:Int))=((a+t:Nat):Int):=by rw[O8 (by omega)];omega
 rw[N];have A: ∀q:Array NE,Sort.PermIn a n f q->Sort.SortedIn lN a n q->(∃(L:Nat) (M:Array NE),((2*t:Nat):Int)=L/\q.toList=M.toList/\1<=L/\L<=2097172/\Sort.PermIn 0 n d0 M/\Blk L n M)/\n-((2*t:Nat):Int).toNat<n-((t:Nat):Int).toNat:=λq v F=>by
  refine⟨⟨2*t,q,rfl,rfl,by omega,by omega,Sort.permIn_trans _ _ _ _ _ D (Sort.permIn_mono _ _ a n 0 n (by omega) (by omega) (by omega) v),λc o g w i=>?_⟩,by omega⟩;rcases Ag c a with j|j
  ·exact W9 (T6 (K c g j) v (.inl (g.lt p j))) w
  ·rcases Ag a c with E|E
   ·have:=p.lt g E;exact λx y H I J=>absurd J (by omega)
   ·rw[show c=a by omega];exact W9 F i
 refine AC (λR=>?_) (λR=>AA (A f (Sort.permIn_refl _ _ _) (B a n p.half (Aj _) (by omega) (Aj _))));apply AB (zr (d:=f) (a:=a) (m:=a+t) (b:=n) (by omega) (by omega) (by omega) (by omega) (B a (a+t) p.half (Aj _) (Aj _) (by omega)) (B (a+t) n p.half.add (by omega) (by omega) (Aj _)));rintro r ⟨q,rfl,v,F⟩;have l:Nat.beq (List.length q.toList) (List.length f.toList)=true:=by rw[DF,DF,v.1];exact Ds _
 rw[l,cond_true];exact AA (A q v F)
def zT{l:List NE}(h:l.length<=1048576):A2 (Bv l ()) λr=>r.Perm l/\r.Pairwise λx y=>lN y x=false:=by
 unfold Bv;apply AB (vM (d0:=l.toArray) (n:=l.length) (by simp) h);rintro r ⟨R,rfl,d,f⟩;have e:R.size=l.length:=by rw[d.1];simp
 have g:Nat.beq (List.length R.toList) (List.length l)=true:=by simp[e]
 rw[g,cond_true];refine AA ⟨?_,?_⟩
 ·have:=d.2.2;rw[show R.extract 0 l.length=R by rw[<-e];exact gO,show l.toArray.extract 0 l.length=l.toArray by rw[show l.length=l.toArray.size by simp];exact gO]at this;exact this
 ·rw[JE];intro i j k m b;have a:i<R.size:=by simpa using k
  have c:j<R.size:=by simpa using m
  have:=f i j (Cc _) b (by omega);rw[getElem!_pos R j c,getElem!_pos R i a]at this;simpa using this
def xt(l:List NE):Prop:= ∀x∈l,∀y∈l,x≠y->x.1.2.2.1=y.1.2.2.1->x.1.2.1<y.1.1\/y.1.2.1<x.1.1
def zN{O a:List NE}(X:O.length=a.length)(H:a.length≤256)(J: ∀e∈a,1≤e.1.1∧e.1.1≤e.1.2.1∧e.1.2.1≤1099511627776∧0≤e.1.2.2.1)(Q:a.Pairwise λx y=>lN y x=false)(hn:a.Nodup)(P:xt a):
  A2 (Ae (N8 O a) (0,((-1),(0,([],[]))))) λr=>r=(a.map (·.1),a.map (·.2)):=by
 refine AM (λ(s:Int×(Int×(Int×(List AU×List Int))))=> ∃k:Nat,s.1=k/\k<=a.length/\s.2.2.2=((a.take k).map (·.1),(a.take k).map (·.2))/\((k=0/\s.2.1= -1)\/ ∃e,0<k/\a[k-1]? =some e/\s.2.1=e.1.2.2.1/\s.2.2.1=e.1.2.1)) (λs=>a.length-s.1.toNat) ⟨0,rfl,Cc _,rfl,.inl ⟨rfl,rfl⟩⟩ ?_;rintro⟨Z,S,s3,s4⟩ ⟨k,q1,q2,q3,q4⟩;dsimp only at q1 q3 q4;subst q1 q3;unfold N8;dsimp only;refine AC (λz=>?_) (λz=>AA ?_)
 ·simp only[len]at z;refine AB (AD (by omega) (by omega)) λv8 _=>?_;refine AB (AD (by omega) (by omega)) λv h=>?_;have A:a[k]? =some v:=by simpa using h.1
  obtain⟨T,U,V,W⟩:=J v h.2;have D:a.take (k+1)=a.take k++[v]:=by rw[Ff,A];rfl
  have Y:(a.take k).length<=256:=by rw[Cn];omega
  have l: ∀E:Int,E=v.1.2.2.1→A2 (Option.bind (Fg ((a.take k).map (·.1)) [v.1]) λg=>Option.bind (Fg ((a.take k).map (·.2)) [v.2]) λi=>some (Step.next (wi ((k:Int)+1),(E,(v.1.2.1,(g,i)))))) λ(f:Step (Int×(Int×(Int×(List AU×List Int)))) (List AU×List Int))=>match f with
    | .next j=>(∃d:Nat,j.1=d/\d<=a.length/\j.2.2.2=((a.take d).map (·.1),(a.take d).map (·.2))/\((d=0/\j.2.1= -1)\/ ∃e,0<d/\a[d-1]? =some e/\j.2.1=e.1.2.2.1/\j.2.2.1=e.1.2.1))/\a.length-j.1.toNat<a.length-((k:Nat):Int).toNat
    | .done r=>r=(a.map (·.1),a.map (·.2)):=λE B=>by
   refine AB (Ac (by simp;omega)) λg u=>?_;refine AB (Ac (by simp;omega)) λi w=>AA ⟨⟨k+1,?_,by omega,?_,.inr ⟨v,by omega,by rw[fY];exact A,B,rfl⟩⟩,?_⟩
   ·show wi ((k:Int)+1)=_;rw[k9 (by omega)]
   ·show(g,i)=_;rw[u.1,w.1,D,HU,HU];rfl
   ·show a.length-(wi ((k:Int)+1)).toNat<a.length-((k:Nat):Int).toNat
    rw[k9 (by omega)];omega
  have b: ∀n:Int,n<v.1.1->NH (v.1,n)=some v.1:=λn hn=>by unfold NH;have:decide (v.1.1>n)=true:=decide_eq_true hn;dsimp only;rw[this,cond_true]
  refine AK (λo=>?_) (λc=>?_)
  ·refine AC (λt=>absurd t (by omega)) (λ_=>?_);rw[b 0 (by omega),AJ];obtain⟨f,F,G⟩:=l v.1.2.2.1 rfl;exact⟨f,F,by cases f<;>exact G⟩
  ·rcases q4 with⟨_,q4⟩|⟨e,q5,q6,q7,q8⟩
   ·exact absurd (c.trans q4) (by omega)
   ·have C:e.1.2.1<v.1.1:=by
     have I:=BV q6;obtain⟨K,L⟩:=Pf.1 q6;obtain⟨M,N⟩:=Pf.1 A;have o:e≠v:=λq=>by have:=(JE.1 (Nz.1 hn)) (k-1) k K M (by omega);rw[L,N]at this;exact this q
     have p:=(JE.1 Q) (k-1) k K M (by omega);rw[L,N]at p;have R:=J e I;have m:e.1.2.2.1=v.1.2.2.1:=by rw[<-q7];exact c.symm
     rcases P e I v h.2 o m with q|q
     ·exact q
     ·simp only[lN,decide_eq_false_iff_not]at p;omega
    rw[q8];refine AC (λt=>absurd t (by omega)) (λ_=>?_);rw[b _ C,AJ];obtain⟨f,F,G⟩:=l S c.symm;exact⟨f,F,by cases f<;>exact G⟩
 ·simp only[len]at z;rw[Dq (by omega)]
noncomputable def intR(a:AL)(f:BQ):Option NE:=
 match Gk (a,f)with
 |some (r,true)=>some (r,f.2.1)
 |_=>none
noncomputable def E0(a:AL):List NE:=a.2.2.1.filterMap (intR a)
def zM{x:AL}(h:VB x)(t:DS x):A2 (Ae (N7 x) (0,[])) λr=>r=E0 x/\r.length<=256/\ ∀e∈r,YK e.1:=by
 obtain⟨⟨v,w,y,n,z,A,B⟩,a1,a2,a3,a4,a5,a6⟩:=id h;refine AM (λ(s:Int×NL)=>0<=s.1/\s.1<=x.2.2.1.length/\s.2.length<=s.1/\(∀e∈s.2,YK e.1)/\s.2=(x.2.2.1.take s.1.toNat).filterMap (intR x)) (λ(s:Int×NL)=>((x.2.2.1.length:Int)-s.1).toNat) ⟨Ah _,by dsimp only;omega,by simp,λe a=>by simp at a,by simp⟩ (λs q=>?_);obtain⟨u,C,D,j,k⟩:=q;unfold N7;refine AC (λf=>?_) (λf=>AA ⟨?_,by omega,j⟩)
 ·simp only[len]at f;have e:=AY (x:=s.1+1) (by omega);rw[e];refine AB (AD u f) λg m=>?_;have c:x.2.2.1.take (s.1+1).toNat=x.2.2.1.take s.1.toNat++[g]:=by rw[show(s.1+1).toNat=s.1.toNat+1 by omega,Ff,m.1];rfl
  refine Gr (eu n (t _ m.2)) λl d p=>?_;refine AE (λb=>?_) (λb=>AA ⟨⟨by dsimp only;omega,by dsimp only;omega,by dsimp only;omega,j,?_⟩,by dsimp only;omega⟩)
  ·have hr:intR x g=some (l.1,g.2.1):=by unfold intR;rw[d];obtain⟨r,o⟩:=l;dsimp only at b;subst b;rfl
   refine AB (Ac (by simp;omega)) λE i=>AA ⟨⟨by dsimp only;omega,by dsimp only;omega,?_,λe a=>?_,?_⟩,by dsimp only;omega⟩
   ·have:=i.2.1;simp only[BC,BH]at this;dsimp only;omega
   ·dsimp only at a;rw[i.1]at a;rcases Ar.1 a with a|a
    ·exact j e a
    ·rw[A5.1 a];exact p b
   ·dsimp only;rw[c,ii,i.1,k];simp[hr]
  ·have hr:intR x g=none:=by unfold intR;rw[d];obtain⟨r,o⟩:=l;dsimp only at b;subst b;rfl
   dsimp only;rw[c,ii,k];simp[hr]
 ·simp only[len]at f;rw[k,Dq (by omega)];rfl
def AAI{x:AL}(h:VB x)(m:DS x)(hn:(E0 x).Nodup)(b:xt (E0 x)):A2 (Gz x) λr=> ∃v:List NE,v.Perm (E0 x)/\(v.Pairwise λp q=>lN q p=false)/\r=(v.map (·.1),v.map (·.2))/\v.length<=256/\ ∀e∈v,YK e.1:=by
 unfold Gz;refine AB (J8 h) λt j=>?_;rw[j,D9,cond_false];refine AB (zM h m) λu k=>?_;obtain⟨rfl,g,s⟩:=k;refine AB (zT (by omega)) λf a=>?_;have i:=a.1.length_eq;have l:Nat.beq (List.length f) (List.length (E0 x))=true:=by rw[i];exact Ds _
 rw[l,cond_true];have c: ∀e∈f,YK e.1:=λe d=>s e (a.1.mem_iff.1 d);refine AB (zN i.symm (by omega) (λe d=>?_) a.2 (a.1.nodup_iff.2 hn) (λp n q o=>b p (a.1.mem_iff.1 n) q (a.1.mem_iff.1 o))) λr hr=>AA ⟨f,a.1,a.2,hr,by omega,c⟩;have:=c e d;exact⟨this.1,this.2.1,this.2.2.1,this.2.2.2.1⟩
def pp(l:List (Int×Int))(n:Int):Prop:= ∃s∈l,s.1<=n/\n<=s.2
def wR{l:List (Int×Int)}{u b:Int}(p:l.length<=16777216):A2 (Ae (N9 (l,u)) (0,b)) λr=>(∀q,r= .inl q->0<=q.1/\q.1<l.length/\q.2=b/\ ∀e,l[q.1.toNat]? =some e->e.1<=b/\b<=e.2)/\(∀q,r= .inr q->q=b/\ ¬pp l b):=by
 refine AM (λ(s:Int×Int)=>0<=s.1/\s.1<=l.length/\s.2=b/\ ∀e∈l.take s.1.toNat,¬(e.1<=b/\b<=e.2)) (λ(s:Int×Int)=>((l.length:Int)-s.1).toNat) ⟨Ah _,by dsimp only;omega,rfl,by simp⟩ (λt n=>?_);obtain⟨k,v,m,g⟩:=n;unfold N9;refine AC (λd=>?_) (λd=>AA ⟨λu c=>(by cases c),λu c=>?_⟩)
 ·simp only[len]at d;have e:=AY (x:=t.1+1) (by omega);rw[e];refine AB (AD k d) λw h=>?_;unfold Oz;rw[has_eq,AJ,AJ,m];refine AE (λf=>AA ⟨λu c=>?_,λu c=>(by cases c)⟩) (λi=>AA ⟨⟨by dsimp only;omega,by dsimp only;omega,rfl,λe a=>?_⟩,by dsimp only;omega⟩)
  ·cases c;refine⟨k,d,rfl,λe a=>?_⟩;dsimp only at a;rw[h.1]at a;injection a with a;subst a;unfold Ou at f;simp only[BM,decide_eq_true_eq]at f;exact f
  ·dsimp only at a;rw[show(t.1+1).toNat=t.1.toNat+1 by omega,Ff,h.1]at a;rcases Ar.1 a with a|a
   ·exact g e a
   ·rw[J6,A5]at a;subst a;intro j;unfold Ou at i;simp only[Bool.and_eq_false_iff,decide_eq_false_iff_not]at i;omega
 ·cases c;simp only[len]at d;rw[Dq (by omega)]at g;exact⟨m,by rw[show pp l b↔ ∃s∈l,s.1<=b/\b<=s.2 from Iff.rfl];rintro⟨s,o,j⟩;exact g s o j⟩
def rq{l:List (Int×Int)}{u:Int}(h:SpL l)(w:0<=u)(A:u<=1099511627776):A2 (G0 (l,u)) λr=>0<=r/\r<=u/\(∀n,r<n->n<=u->pp l n)/\(r=0\/ ¬pp l r):=by
 obtain⟨a1,a2⟩:=h;unfold G0;refine AB (P:=λr=>0<=r/\r<=u/\(∀n,r<n->n<=u->pp l n)/\(r=0\/ ¬pp l r)) ?_ λr hr=>AA hr;refine AM (λ(s:Int)=>0<=s/\s<=u/\ ∀n,s<n->n<=u->pp l n) (λ(s:Int)=>s.toNat) ⟨w,Ah _,λn k m=>by dsimp only at k;omega⟩ (λs v=>?_);obtain⟨p,t,g⟩:=v;unfold RF;refine AB (wR (b:=s) a1) λr hr=>?_;refine Az (λq f=>?_) (λq f=>?_)
 ·obtain⟨i,j,y,z⟩:=hr.1 q f;refine AC (λd=>absurd d (by omega)) (λ_=>?_);refine AC (λd=>AA ?_) (λB=>?_)
  ·rw[y]at d⊢;exact⟨p,t,g,.inl (by omega)⟩
  ·refine AB (AD i j) λa c=>?_;have q1:=z a c.1;have q2:=a2 a c.2;have e:=AY (x:=a.1-1) (by omega);rw[e];refine AA ⟨⟨by omega,by omega,λn k m=>?_⟩,by omega⟩;rcases dv s n with o|o
   ·exact g n o m
   ·exact⟨a,c.2,by omega⟩
 ·obtain⟨i,j⟩:=hr.2 q f;rw[i];exact AA ⟨p,t,g,.inr j⟩
def oD{x:AL}(h:VB x):((E0 x).map (·.2)).Pairwise (· < ·):=by
 have p:x.2.2.1.Pairwise λf g=>f.2.1<g.2.1:=by
  have k:=h.2.2.2.2.2.2.2;rw[JE];have step: ∀n i:Nat,∀(b:i<x.2.2.1.length) (c:i+1+n<x.2.2.1.length),(x.2.2.1[i]).2.1<(x.2.2.1[i+1+n]).2.1:=by
   intro n;induction n with
   |zero=>intro i b c;exact k i _ _ (by omega) (Ay b) (Ay c)
   |succ n r=>intro i b c;have l:=r i b (by omega);have m:=k (i+1+n) _ _ (by omega) (Ay (by omega)) (Ay c);exact Int.lt_trans l m
  intro i j b c o;have:=step (j-(i+1)) i b (by omega);have e:i+1+(j-(i+1))=j:=by omega
  simp only[e]at this;exact this
 unfold E0;rw[Q3,List.pairwise_filterMap];refine p.imp λ{f g} d y a z q=>?_;have one: ∀(f:BQ) (y:NE),intR x f=some y->y.2=f.2.1:=λf y a=>by
  unfold intR at a;split at a
  ·injection a with a;rw[<-a]
  ·cases a
 rw[one f y a,one g z q];exact d
def T1{x:AL}(h:VB x):(E0 x).Nodup:=by have:=oD h;rw[Q3]at this;exact Nz.2 (this.imp λh e=>by rw[e]at h;omega)
def ABZ{a:AL}{l:Am}{p i j:Int}{Q:List (Int×Int)}{d:Int×Int}{r:AU}{W:List (Int×EN)}{u:Int}{P:EN→Prop}(hr:r.2.2.2.2.2.length≤4096)(Y:Q[0]? =some d)(hm:O9 W P)(hn:0≤u∧u≤1099511627776)
  (S: ∀v∈r.2.2.2.2.2,Qr p i j v=true->(Ou d v.1=true->P v)/\ ∀e,(P e\/(e∈r.2.2.2.2.2/\Qr p i j e=true))->e.1=v.1->e=v):
  A2 (Ae (UJ (a,(l,(p,(i,j)))) Q r) (0,(W,(u,([],0))))) λq=> ∃m n,q= .inl (m,(n,([],0)))/\O9 m (λe=>P e\/(e∈r.2.2.2.2.2/\Qr p i j e=true))/\n=u+((r.2.2.2.2.2.filter λe=>Qr p i j e&&Ou d e.1).length:Int):=by
 generalize hL:r.2.2.2.2.2=L at hr S⊢;refine AM (λ(s:Int×(List (Int×EN)×(Int×(List EN×Int))))=>0<=s.1/\s.1<=L.length/\s.2.2.2=([],0)/\s.2.2.1=u+(((L.take s.1.toNat).filter λe=>Qr p i j e&&Ou d e.1).length:Int)/\O9 s.2.1 λe=>P e\/(e∈L.take s.1.toNat/\Qr p i j e=true)) (λs=>((L.length:Int)-s.1).toNat)
  ⟨Ah _,by dsimp only;omega,rfl,by simp,hm.congr λe=>by simp⟩ (λs Z=>?_)
 obtain⟨c,E,F,s4⟩:=s;obtain⟨U,i2,V,C,z⟩:=Z;dsimp only at U i2 V C z;subst V;unfold UJ;dsimp only;rw[hL];refine AC (λf=>?_) (λf=>AA ?_)
 ·simp only[len]at f;have X:=AY (x:=c+1) (by omega);rw[X];refine AB (AD U f) λv R=>?_;rw[lU,AJ];have o:L.take (c+1).toNat=L.take c.toNat++[v]:=by rw[show(c+1).toNat=c.toNat+1 by omega,Ff,R.1];rfl
  have k:Qr p i j v=false->(0<=c+1/\c+1<=L.length/\(([],0):List EN×Int)=([],0)/\F=u+(((L.take (c+1).toNat).filter λe=>Qr p i j e&&Ou d e.1).length:Int)/\O9 E λe=>P e\/(e∈L.take (c+1).toNat/\Qr p i j e=true))/\((L.length:Int)-(c+1)).toNat<((L.length:Int)-c).toNat:=λy=>by
   refine⟨⟨by omega,by omega,rfl,?_,?_⟩,by omega⟩
   ·rw[o,LN,C];simp[y]
   ·rw[o];refine z.congr λe=>⟨?_,?_⟩
    ·rintro(h|h)
     ·exact .inl h
     ·exact .inr ⟨Ar.2 (.inl h.1),h.2⟩
    ·rintro(h|⟨h,w⟩)
     ·exact .inl h
     ·rcases Ar.1 h with h|h
      ·exact .inr ⟨h,w⟩
      ·rw[A5.1 h,y]at w;cases w
  refine AE (λG=>?_) (λG=>AA (k (by simp[Qr,G])));refine AE (λH=>?_) (λH=>AA (k (by simp[Qr,H])));refine AE (λI=>?_) (λI=>AA (k (by unfold Qr;rw[I];simp)));refine AO (λJ=>AA (k (by unfold Qr;rw[J];simp))) (λJ=>?_);have y:Qr p i j v=true:=by unfold Qr;rw[G,H,I,J];rfl
  have O:ix Q 0=some d:=by unfold ix;rw[if_pos (Ah _)];exact Y
  rw[O,AJ,has_eq,AJ];obtain⟨M,A⟩:=S v R.2 y;have t:O9 (Sp v.1 v E) λe=>P e\/(e∈L.take (c+1).toNat/\Qr p i j e=true):=by
   rw[o];refine z.put.congr λe=>⟨?_,λh=>?_⟩
   ·rintro(rfl|⟨h|h,_⟩)
    ·exact .inr ⟨Ar.2 (.inr (A5.2 rfl)),y⟩
    ·exact .inl h
    ·exact .inr ⟨Ar.2 (.inl h.1),h.2⟩
   ·by_cases g:e=v
    ·exact .inl g
    ·rcases h with h|⟨h,w⟩
     ·exact .inr ⟨.inl h,λN=>g (A e (.inl h) N)⟩
     ·rcases Ar.1 h with h|h
      ·exact .inr ⟨.inr ⟨h,w⟩,λN=>g (A e (.inr ⟨ME h,w⟩) N)⟩
      ·exact absurd (A5.1 h) g
  have T:(((L.take c.toNat).filter λe=>Qr p i j e&&Ou d e.1).length:Int)<=4096:=by have h1:=J4 (λe=>Qr p i j e&&Ou d e.1) (L.take c.toNat);have h3:=List.length_take_le' c.toNat L;omega
  have K:=AY (x:=F+1) (by omega);rw[K];have B: ∀b:Bool,Ou d v.1=b->u+((((L.take (c+1).toNat).filter λe=>Qr p i j e&&Ou d e.1).length:Nat):Int)=F+(if b=true then 1 else 0):=λb hb=>by rw[o,LN,Ad,C];cases b<;>simp[y,hb]<;>omega
  refine AE (λD=>?_) (λD=>AA ⟨⟨by dsimp only;omega,by dsimp only;omega,rfl,?_,t⟩,by dsimp only;omega⟩)
  ·have hg:Pb v.1 E=some v:=z.get (.inl (M D));rw[hg];simp only[Option.isSome_some,D9,cond_false,PK,beq_self_eq_true,Pe];refine AA ⟨⟨by dsimp only;omega,by dsimp only;omega,rfl,?_,t⟩,by dsimp only;omega⟩;rw[B true D];rfl
  ·rw[B false D];simp
 ·simp only[len]at f;rw[Dq (by omega)]at C z;exact⟨E,F,rfl,z,C⟩
def JM(low:Int)(rs:List AU):List EN:=(rs.filter λr=>r.2.2.1==low).flatMap λr=>r.2.2.2.2.2
def ABY{a:AL}{l:Am}{p i j:Int}{Z:List (Int×Int)}{sp:Int×Int}{b:Int×(Int×Bool)}{c:List AU}{F:List Int}{Y:List (Int×EN)}{P:EN→Prop}(h0:Z[0]? =some sp)(hm:O9 Y P)
  (U:c.length=F.length) (T:c.length<=256) (hr: ∀r∈c,r.2.2.2.2.2.length<=4096)
  (hc: ∀v∈JM b.1 c,Qr p i j v=true->(Ou sp v.1=true->P v)/\ ∀e,(P e\/(e∈JM b.1 c/\Qr p i j e=true))->e.1=v.1->e=v):
  A2 (Ae (UI (a,(l,(p,(i,j)))) Z b (c,F)) (0,(Y,(0,([],0))))) λq=> ∃m n,q= .inl (m,(n,([],0)))/\O9 m (λe=>P e\/(e∈JM b.1 c/\Qr p i j e=true))/\n=(((JM b.1 c).filter λe=>Qr p i j e&&Ou sp e.1).length:Int):=by
 have C: ∀k:Nat,(JM b.1 (c.take k)).length<=k*4096:=by
  intro k;induction k with
  |zero=>simp[JM]
  |succ k X=>
   rw[Ff];unfold JM at X⊢;rw[LN,U4,Ad,VN];apply Nat.add_le_add X;cases hk:c[k]? with
   |none=>exact Cc _
   |some r=>
    have:=hr r (BV hk);by_cases V:(r.2.2.1==b.1)=true
    ·rw[J6,il (by exact V),im,Es,iq,DQ];exact this
    ·rw[J6,ik (by exact V),im];exact Cc _
 refine AM (λ(s:Int×(List (Int×EN)×(Int×(List EN×Int))))=>0<=s.1/\s.1<=c.length/\s.2.2.2=([],0)/\s.2.2.1=(((JM b.1 (c.take s.1.toNat)).filter λe=>Qr p i j e&&Ou sp e.1).length:Int)/\O9 s.2.1 λe=>P e\/(e∈JM b.1 (c.take s.1.toNat)/\Qr p i j e=true)) (λs=>((c.length:Int)-s.1).toNat)
  ⟨Ah _,by dsimp only;omega,rfl,by simp[JM],hm.congr λe=>by simp[JM]⟩ (λs hI=>?_)
 obtain⟨d,s2,S,s4⟩:=s;obtain⟨R,i2,W,D,E⟩:=hI;dsimp only at R i2 W D E;subst W;unfold UI;dsimp only;refine AC (λo=>?_) (λo=>AA ?_)
 ·simp only[len]at o;have ew:=AY (x:=d+1) (by omega);rw[ew];refine AB (AD R o) λv G=>?_;have t:c.take (d+1).toNat=c.take d.toNat++[v]:=by rw[show(d+1).toNat=d.toNat+1 by omega,Ff,G.1];rfl
  refine AE (λB=>?_) (λB=>AA ⟨⟨by dsimp only;omega,by dsimp only;omega,rfl,?_,?_⟩,by dsimp only;omega⟩)
  ·refine AB (AD R (by omega)) λad _=>?_;have u: ∀e∈v.2.2.2.2.2,e∈JM b.1 c:=λe g=>HW.2 ⟨v,Bi.2 ⟨G.2,B⟩,g⟩;have z: ∀e∈JM b.1 (c.take d.toNat),e∈JM b.1 c:=λe g=>by obtain⟨r,L,M⟩:=HW.1 g;obtain⟨N,O⟩:=Bi.1 L;exact HW.2 ⟨r,Bi.2 ⟨ME N,O⟩,M⟩
   have K:0<=S/\S<=1099511627776:=by
    have h1:=J4 (λe=>Qr p i j e&&Ou sp e.1) (JM b.1 (c.take d.toNat));have h2:=C d.toNat
    omega
   have f:JM b.1 (c.take d.toNat++[v])=JM b.1 (c.take d.toNat)++v.2.2.2.2.2:=by unfold JM;rw[LN,U4];simp[B]
   refine AB (ABZ (hr v G.2) h0 E K λw hw Q=>?_) ?_
   ·obtain⟨q1,q2⟩:=hc w (u w hw) Q;refine⟨λh=>.inl (q1 h),λe g H=>q2 e ?_ H⟩;rcases g with(g|⟨g,y⟩)|⟨g,y⟩
    ·exact .inl g
    ·exact .inr ⟨z e g,y⟩
    ·exact .inr ⟨u e g,y⟩
   ·rintro q ⟨m,n,rfl,I,J⟩;refine BK (AA ⟨⟨by dsimp only;omega,by dsimp only;omega,rfl,?_,?_⟩,by dsimp only;omega⟩)
    ·dsimp only;rw[t,f,J,D,LN,Ad];omega
    ·dsimp only;rw[t,f];refine I.congr λe=>?_;rw[Ar];constructor
     ·rintro((h|⟨h,A⟩)|⟨h,A⟩)
      ·exact .inl h
      ·exact .inr ⟨.inl h,A⟩
      ·exact .inr ⟨.inr h,A⟩
     ·rintro(h|⟨h|h,A⟩)
      ·exact .inl (.inl h)
      ·exact .inl (.inr ⟨h,A⟩)
      ·exact .inr ⟨h,A⟩
  ·have f:JM b.1 (c.take d.toNat++[v])=JM b.1 (c.take d.toNat):=by unfold JM;rw[LN,U4];simp[B]
   dsimp only;rw[t,f];exact D
  ·have f:JM b.1 (c.take d.toNat++[v])=JM b.1 (c.take d.toNat):=by unfold JM;rw[LN,U4];simp[B]
   dsimp only;rw[t,f];exact E
 ·simp only[len]at o;rw[Dq (by omega)]at D E;exact⟨s2,S,rfl,E,D⟩
end Go.Pm
