/- What these functions answer, part 11. Texts of the folder wip, laid in few files with shorter names by a program (wip/tools/pack.py); nothing is assumed. -/
import Derived.Test.YtacnadmajkjfbaaGreatK10
noncomputable section
set_option linter.unusedVariables false
set_option linter.unusedSimpArgs false
set_option linter.unusedSectionVars false
set_option linter.defProp false
set_option linter.unnecessarySimpa false
set_option linter.deprecated false
namespace Go.Pm
open Go Go.Ab
def qp{p:Bb}(h:p.length=33):Hu (p,([80,77,82,78]:List UInt8))=some (p.take 4==[80,77,82,78]):=by grind[Hu,Ft,Rp,Option.bind]
abbrev ZR:=Int×(Int×(Int×(Int×(Int×AU))))
def nV{p:Bb}(x:p.length=33)(t:p.take 4=[80,77,82,78]): ∃b c d e f a:Int,(Av (p,(4,8))=some (b,0)∧Av (p,(12,8))=some (c,0)∧Av (p,(20,4))=some (d,0)∧Av (p,(24,4))=some (e,0)∧Av (p,(28,1))=some (f,0)∧Av (p,(29,4))=some (a,0))∧
  (CN (p,(4,8))=some (b,0)/\CN (p,(12,8))=some (c,0)/\CN (p,(20,4))=some (d,0)/\CN (p,(24,4))=some (e,0)/\CN (p,(28,1))=some (f,0)/\CN (p,(29,4))=some (a,0))/\
  p=[80,77,82,78]++(EZ b 8++(EZ c 8++(EZ d 4++(EZ e 4++(EZ f 1++EZ a 4)))))/\0<=a:=by
 have D:(p.drop 4).length=29:=by rw[G9];omega
 have⟨b,J,a2,g,n,y,l2⟩:=up (k:=8) (at_:=4) (by rw[<-t,F9]:p=[80,77,82,78]++p.drop 4) (by decide) (by omega) (by decide) (by decide) (by omega);have⟨c,K,a3,h,o,z,E⟩:=up (k:=8) (at_:=12) n (by simp only[Ag,BN];decide) (by omega) (by decide) (by decide) (by omega);have⟨d,L,a4,i,q,A,F⟩:=up (k:=4) (at_:=20) o (by simp only[Ag,BN];decide) (by omega) (by decide) (by decide) (by omega);have⟨e,M,a5,j,r,B,G⟩:=up (k:=4) (at_:=24) q (by simp only[Ag,BN];decide) (by omega) (by decide) (by decide) (by omega);have⟨f,N,a6,l,s,C,H⟩:=up (k:=1) (at_:=28) r (by simp only[Ag,BN];decide) (by omega) (by decide) (by decide) (by omega);have⟨a,v,a7,m,w,u,I⟩:=up (k:=4) (at_:=29) s (by simp only[Ag,BN];decide) (by omega) (by decide) (by decide) (by omega);have:v=[]:=EJ (by omega);subst this;refine⟨b,c,d,e,f,a,⟨a2,a3,a4,a5,a6,a7⟩,⟨g,h,i,j,l,m⟩,?_,(u.1 (by decide)).1⟩;grind[List.append_assoc]
def qL{x:AU}(h:X7 x):(Av (Zj x,(4,8))=some (x.1,0)∧Av (Zj x,(12,8))=some (x.2.1,0)∧Av (Zj x,(20,4))=some (x.2.2.1,0)∧Av (Zj x,(24,4))=some (x.2.2.2.1,0)∧Av (Zj x,(28,1))=some (x.2.2.2.2.1,0)∧Av (Zj x,(29,4))=some ((x.2.2.2.2.2.length:Int),0))∧
  (CN (Zj x,(4,8))=some (x.1,0)/\CN (Zj x,(12,8))=some (x.2.1,0)/\CN (Zj x,(20,4))=some (x.2.2.1,0)/\CN (Zj x,(24,4))=some (x.2.2.2.1,0)/\CN (Zj x,(28,1))=some (x.2.2.2.2.1,0)/\CN (Zj x,(29,4))=some ((x.2.2.2.2.2.length:Int),0)):=by
 have⟨i,j,l,m,n,o⟩:=h.inr;have q:=Ul x;have a:Zj x=[80,77,82,78]++(EZ x.1 8++(EZ x.2.1 8++(EZ x.2.2.1 4++(EZ x.2.2.2.1 4++(EZ x.2.2.2.2.1 1++(EZ (x.2.2.2.2.2.length:Int) 4++[])))))):=by rw[Dn];rfl
 generalize Zj x=p at*;have b:=dS (k:=8) (at_:=4) a (by decide) (by omega) (by decide) (by decide) i;rw[<-Ax]at a;have c:=dS (k:=8) (at_:=12) a (by simp only[Ag,BN];decide) (by omega) (by decide) (by decide) j;rw[<-Ax]at a;have d:=dS (k:=4) (at_:=20) a (by simp only[Ag,BN];decide) (by omega) (by decide) (by decide) l;rw[<-Ax]at a;have e:=dS (k:=4) (at_:=24) a (by simp only[Ag,BN];decide) (by omega) (by decide) (by decide) m;rw[<-Ax]at a;have f:=dS (k:=1) (at_:=28) a (by simp only[Ag,BN];decide) (by omega) (by decide) (by decide) n;rw[<-Ax]at a;have g:=dS (k:=4) (at_:=29) a (by simp only[Ag,BN];decide) (by omega) (by decide) (by decide) o;exact⟨⟨b.1,c.1,d.1,e.1,f.1,g.1⟩,⟨b.2,c.2,d.2,e.2,f.2,g.2⟩⟩
def AB6{x p:Bb}{n:Int}{z:ZR}{j:Bb}(D:x.length≤1099511627776)(l:x=Hy p++j)(hn:0≤n)(o:n≤4096):Ay (Ad (Gc x n) (((Hy p).length:Int),(0,([],z)))) λr=>(∃u,r= .inl u∧u.1≠0)∨
  ∃a b,r= .inr (((Hy p++Jq a).length:Int),(a,z))/\(a.length:Int)=n/\x=(Hy p++Jq a)++b/\ ∀e∈a,HS e.2.2.2.2.2.2.1.2.2.1/\HS e.2.2.2.2.2.2.1.2.2.2:=by
 refine Ia (λ(s:Int×(Int×(List EN×ZR)))=> ∃a b,s=(((Hy p++Jq a).length:Int),((a.length:Int),(a,z)))/\(a.length:Int)<=n/\x=(Hy p++Jq a)++b/\ ∀e∈a,HS e.2.2.2.2.2.2.1.2.2.1/\HS e.2.2.2.2.2.2.1.2.2.2) (λs=>(n-s.2.1).toNat)
  ⟨[],j,by simp[Jq],by simpa using hn,by simpa[Jq]using l,λe c=>by cases c⟩ ?_
 rintro s ⟨a,b,rfl,E,h,i⟩;unfold Gc;dsimp only;refine AC (λm=>?_) (λm=>Ay.done (.inr ⟨a,b,rfl,by omega,h,i⟩));have g:=congrArg List.length h;rw[Ag]at g;rw[(by grind[S4]:By (x,((Hy p++Jq a).length:Int))=some (UF (Hy p++Jq a).length b)),AI];refine AL (λc=>Ay.done (.inl ⟨_,rfl,c⟩)) (λc=>?_);have⟨H,⟨d,t⟩,I⟩:=pZ c;refine AB (ABE (by omega)) λv q=>?_;refine AL (λc=>Ay.done (.inl ⟨_,rfl,c⟩)) (λf=>?_);have⟨y,A,B,J,K⟩:=q f;refine AB (Ac (by simp;omega)) λw C=>?_;have k:Hy p++Jq (a++[v.1])=(Hy p++Jq a)++Hy (Br v.1):=by rw[R3,Ax]
 rw[AW];refine Ay.next ⟨a++[v.1],d,?_,by rw[Ag,BV,Bt];omega,?_,λe c=>?_⟩ (by dsimp only;omega)
 have F:((Hy p++Jq (a++[v.1])).length:Int)=((Hy p++Jq a).length:Int)+8+((UF (Hy p++Jq a).length b).1.length:Int):=by grind[List.length_append,Hy,Jq,F4]
 have G:((a++[v.1]).length:Int)=(a.length:Int)+1:=by grind[List.length_append,List.length_cons,List.length_nil]
 grind[Prod.ext];rw[k,<-y,Ax,<-t];exact h;rcases Ar.1 c with c|c;exact i e c;rw[A3.1 c];exact⟨A,B⟩
def ABF{x:Bb}(w:x.length<=1099511627776):Ay (FN x) λr=>r.2=0->x=L3 r.1/\VR r.1:=by unfold FN;have q:By (x,0)=some (UF 0 x):=S4 (a:=[]) (t:=x) (by simp;omega);rw[q,AI];refine AL (λh=>AA λb=>absurd b h) (λh=>?_);have⟨Q,⟨P,z⟩,A⟩:=pZ h;generalize UF 0 x=v0 at*;refine AL (λ_=>AA λb=>absurd (show(4:Int)=0 from b) (by decide)) (λg=>?_);simp[len]at g;rw[(by grind[Rp]:Rp v0.1 0 4=some (v0.1.take 4)),AI];refine AL (λ_=>AA λb=>absurd (show(4:Int)=0 from b) (by decide)) (λm=>?_);have⟨K,L,M,N,O,y,⟨a2,a3,a4,a5,a6,a7⟩,⟨C,D,E,F,G,H⟩,J,j⟩:=nV (by omega:v0.1.length=33) (by simpa using m);unfold C3;rw[a2,a3,a4,a5,a6,a7];simp only[AI];refine AC (λ_=>AA λb=>absurd (show(4:Int)=0 from b) (by decide)) (λo=>?_);rw[(by rw[A,F4];omega:v0.2.1=((Hy v0.1).length:Int))];refine AB (AB6 (n:=y) w z j (by first|omega|(dsimp only;omega))) λr hr=>?_;rcases hr with⟨u,rfl,s⟩|⟨I,e,rfl,i,k,p⟩;grind[BF,AA];apply BC;dsimp only at i⊢;have l:=congrArg List.length k;rw[Ag]at l;refine AL (λ_=>AA λb=>absurd (show(4:Int)=0 from b) (by decide)) (λd=>?_);have c:e=[]:=EJ (by simp only[len]at d;omega);subst c;refine AB (X8) λB f=>?_;refine AO (λ_=>AA λb=>absurd (show(40:Int)=0 from b) (by decide)) (λv=>AA λ_=>⟨?_,f.1 v⟩);grind[L3,Zj]
def si{x:AU}(h:VR x):FN (L3 x)=some (x,0):=by
 have D:=h.1.2.2.2.2.2.2.2.2;have j:=h.len;have o:=Ul x;have⟨⟨a2,a3,a4,a5,a6,a7⟩,⟨v,y,z,A,B,C⟩⟩:=qL h.1;unfold FN;have p:By (L3 x,0)=some (Zj x,(((Hy (Zj x)).length:Int),0)):=by refine(S4 (a:=[]) (t:=L3 x) (by simp;omega)).trans (congrArg some ?_);grind[L3,kv,F4,Prod.ext,List.length_nil]
 have l:(Zj x).take 4=[80,77,82,78]:=rfl;rw[p,AI];dsimp only[len];rw[show((0:Int) !=0)=false by decide,cond_false,o,show(((33:Nat):Int) !=33)=false by decide,cond_false];rw[(by grind[Rp]:Rp (Zj x) 0 4=some ((Zj x).take 4)),AI,l,bne_self_eq_false,cond_false];unfold C3;rw[a2,a3,a4,a5,a6,a7];simp only[AI];rw[decide_eq_false (by omega),cond_false];have key:Ay (Ad (Gc (L3 x) (x.2.2.2.2.2.length:Int)) (((Hy (Zj x)).length:Int),(0,([],(x.1,(x.2.1,(x.2.2.1,(x.2.2.2.1,(x.2.2.2.2.1,(0,(0,(0,(0,(0,[])))))))))))))) λr=>r= .inr (((L3 x).length:Int),(x.2.2.2.2.2,(x.1,(x.2.1,(x.2.2.1,(x.2.2.2.1,(x.2.2.2.2.1,(0,(0,(0,(0,(0,[])))))))))))):=by
  refine Ia (λ(s:Int×(Int×(List EN×ZR)))=> ∃k:Nat,k<=x.2.2.2.2.2.length/\s=(((Hy (Zj x)++Jq (x.2.2.2.2.2.take k)).length:Int),((k:Int),(x.2.2.2.2.2.take k,(x.1,(x.2.1,(x.2.2.1,(x.2.2.2.1,(x.2.2.2.2.1,(0,(0,(0,(0,(0,[])))))))))))))) (λs=>x.2.2.2.2.2.length-s.2.1.toNat)
   ⟨0,B7 _,by simp[Jq]⟩ ?_
  rintro s ⟨k,F,rfl⟩;unfold Gc;dsimp only;refine AC (λn=>?_) (λn=>Ay.done ?_)
  ·have i:k<x.2.2.2.2.2.length:=by omega
   have c:=(h.ent (Uw i)).1;have e:Jq x.2.2.2.2.2=Jq (x.2.2.2.2.2.take k)++(Hy (Br x.2.2.2.2.2[k])++Jq (x.2.2.2.2.2.drop (k+1))):=by grind[ga,List.drop_eq_getElem_cons,Jq,List.flatten_append,List.take_append_drop]
   have d:L3 x=(Hy (Zj x)++Jq (x.2.2.2.2.2.take k))++(Hy (Br x.2.2.2.2.2[k])++Jq (x.2.2.2.2.2.drop (k+1))):=by grind[L3,List.append_assoc]
   have g:=congrArg List.length d;rw[Ag]at g;have f:By (L3 x,((Hy (Zj x)++Jq (x.2.2.2.2.2.take k)).length:Int))=some (Br x.2.2.2.2.2[k],(((Hy (Zj x)++Jq (x.2.2.2.2.2.take k)).length:Int)+8+((Br x.2.2.2.2.2[k]).length:Int),0)):=by
    conv=>lhs;arg 1;rw[d]
    rw[S4 (by omega),kv (R1 c)]
   rw[f,AI];dsimp only;rw[show((0:Int) !=0)=false by decide,cond_false,xQ c,AI];dsimp only;rw[show((0:Int) !=0)=false by decide,cond_false];refine AB (Ac (by rw[CH];simp;omega)) λw u=>?_;rw[AW];refine Ay.next ⟨k+1,by omega,?_⟩ (by dsimp only;omega)
   rw[u.1,D5,Az i,Jz,R3,<-Ax,Ag (bs:=Hy (Br x.2.2.2.2.2[k])),F4];grind[Prod.ext]
  rw[Cb (by omega)];rfl
 obtain⟨r,hr,rfl⟩:=key;rw[hr,AI,VF];dsimp only;rw[show(((L3 x).length:Int) !=len (L3 x))=false from bne_self_eq_false _,cond_false];obtain⟨b,E,q⟩:=(X8)
 have m:b=true:=q.2 h;grind[Bool.not_true]
def AB2{x p:Bb}{n:(Int×Int)}{z:ZR}{j:Bb}(D:x.length≤1099511627776)(l:x=Hy p++j)(hn:0≤n.1)(o:n.1≤4096):Ay (Ad (Jt x n) (((Hy p).length:Int),(0,([],z)))) λr=>(∃u,r= .inl u∧u.1≠0)∨
  ∃a b,r= .inr (((Hy p++Jq a).length:Int),(a,z))/\(a.length:Int)=n.1/\x=(Hy p++Jq a)++b/\ ∀e∈a,HS e.2.2.2.2.2.2.1.2.2.1/\HS e.2.2.2.2.2.2.1.2.2.2:=by
 refine Ia (λ(s:Int×(Int×(List EN×ZR)))=> ∃a b,s=(((Hy p++Jq a).length:Int),((a.length:Int),(a,z)))/\(a.length:Int)<=n.1/\x=(Hy p++Jq a)++b/\ ∀e∈a,HS e.2.2.2.2.2.2.1.2.2.1/\HS e.2.2.2.2.2.2.1.2.2.2) (λs=>(n.1-s.2.1).toNat)
  ⟨[],j,by simp[Jq],by simpa using hn,by simpa[Jq]using l,λe c=>by cases c⟩ ?_
 rintro s ⟨a,b,rfl,E,h,i⟩;unfold Jt;dsimp only;refine AC (λm=>?_) (λm=>Ay.done (.inr ⟨a,b,rfl,by omega,h,i⟩));have g:=congrArg List.length h;rw[Ag]at g;rw[(by grind[Wu]:FW (x,((Hy p++Jq a).length:Int))=some (UF (Hy p++Jq a).length b)),AI];refine AL (λc=>Ay.done (.inl ⟨_,rfl,c⟩)) (λc=>?_);have⟨H,⟨d,t⟩,I⟩:=pZ c;refine AB (AA4 (by omega)) λv q=>?_;refine AL (λc=>Ay.done (.inl ⟨_,rfl,c⟩)) (λf=>?_);have⟨y,A,B,J,K⟩:=q f;refine AB (Ac (by simp;omega)) λw C=>?_;have k:Hy p++Jq (a++[v.1])=(Hy p++Jq a)++Hy (Br v.1):=by rw[R3,Ax]
 rw[AW];refine Ay.next ⟨a++[v.1],d,?_,by rw[Ag,BV,Bt];omega,?_,λe c=>?_⟩ (by dsimp only;omega)
 have F:((Hy p++Jq (a++[v.1])).length:Int)=((Hy p++Jq a).length:Int)+8+((UF (Hy p++Jq a).length b).1.length:Int):=by grind[List.length_append,Hy,Jq,F4]
 have G:((a++[v.1]).length:Int)=(a.length:Int)+1:=by grind[List.length_append,List.length_cons,List.length_nil]
 grind[Prod.ext];rw[k,<-y,Ax,<-t];exact h;rcases Ar.1 c with c|c;exact i e c;rw[A3.1 c];exact⟨A,B⟩
def AA6{x:Bb}(H:x.length<=1099511627776):Ay (Jo x) λr=>r.2=0->x=L3 r.1/\WR r.1:=by
 unfold Jo;have E:FW (x,0)=some (UF 0 x):=Wu (a:=[]) (t:=x) (by simp;omega);rw[E,AI];refine AL (λc=>AA λb=>absurd b c) (λc=>?_);have⟨U,⟨T,J⟩,K⟩:=pZ c;generalize UF 0 x=v0 at*;refine AL (λ_=>AA λb=>absurd (show(4:Int)=0 from b) (by decide)) (λk=>?_);simp[len]at k;have q:v0.1.length=33:=by omega
 rw[qp q,AI];refine AO (λ_=>AA λb=>absurd (show(4:Int)=0 from b) (by decide)) (λD=>?_);have⟨O,P,Q,R,S,I,⟨a2,a3,a4,a5,a6,a7⟩,⟨s,v,w,y,z,A⟩,N,m⟩:=nV q (by simpa using D);rw[show wi (4+8)=12 from rfl,show wi (12+8)=20 from rfl,show wi (20+4)=24 from rfl,show wi (24+4)=28 from rfl,show wi (28+1)=29 from rfl];rw[s,v,w,y,z,A];simp only[AI];refine AO (λ_=>AA λb=>absurd (show(4:Int)=0 from b) (by decide)) (λf=>?_);have f:=of_decide_eq_true f;rw[(by rw[K,F4];omega:v0.2.1=((Hy v0.1).length:Int))];refine AB (AB2 (n:=(I,0)) H J m (by first|omega|(dsimp only;omega))) λr hr=>?_;rcases hr with⟨u,rfl,F⟩|⟨M,i,rfl,l,o,g⟩;grind[BF,AA];apply BC;dsimp only at l⊢;have p:=congrArg List.length o;rw[Ag]at p;refine AC (λ_=>AA λb=>absurd (show(4:Int)=0 from b) (by decide)) (λh=>?_);have d:i=[]:=EJ (by simp only[len]at h;omega);subst d;refine AB (qi) λL j=>?_;refine AO (λ_=>AA λb=>absurd (show(40:Int)=0 from b) (by decide)) (λG=>AA λ_=>⟨?_,?_⟩);grind[L3,Zj];have⟨B,C⟩:=j.2 G;exact⟨B,λe c=>⟨(g e c).1,(g e c).2,(C e c).2⟩⟩
def AA5{x:AU}(h:VR x):Jo (L3 x)=some (x,0):=by
 have E:=h.1.2.2.2.2.2.2.2.2;have j:=h.len;have l:=Ul x;have⟨⟨a2,a3,a4,a5,a6,a7⟩,⟨m,n,o,p,q,u⟩⟩:=qL h.1;unfold Jo;have B:FW (L3 x,0)=some (Zj x,(((Hy (Zj x)).length:Int),0)):=by refine(Wu (a:=[]) (t:=L3 x) (by simp;omega)).trans (congrArg some ?_);grind[L3,kv,F4,Prod.ext,List.length_nil]
 have v:(Zj x).take 4=[80,77,82,78]:=rfl;rw[B,AI];dsimp only[len];rw[show((0:Int) !=0)=false by decide,cond_false,l,show(((33:Nat):Int) !=33)=false by decide,cond_false];rw[qp l,AI,v,beq_self_eq_true,Ea,cond_false];rw[show wi (4+8)=12 from rfl,show wi (12+8)=20 from rfl,show wi (20+4)=24 from rfl,show wi (24+4)=28 from rfl,show wi (28+1)=29 from rfl];rw[m,n,o,p,q,u];simp only[AI];rw[decide_eq_true (by omega),Ea,cond_false];have key:Ay (Ad (Jt (L3 x) ((x.2.2.2.2.2.length:Int),0)) (((Hy (Zj x)).length:Int),(0,([],(x.1,(x.2.1,(x.2.2.1,(x.2.2.2.1,(x.2.2.2.2.1,(0,(0,(0,(0,(0,[])))))))))))))) λr=>r= .inr (((L3 x).length:Int),(x.2.2.2.2.2,(x.1,(x.2.1,(x.2.2.1,(x.2.2.2.1,(x.2.2.2.2.1,(0,(0,(0,(0,(0,[])))))))))))):=by
  refine Ia (λ(s:Int×(Int×(List EN×ZR)))=> ∃k:Nat,k<=x.2.2.2.2.2.length/\s=(((Hy (Zj x)++Jq (x.2.2.2.2.2.take k)).length:Int),((k:Int),(x.2.2.2.2.2.take k,(x.1,(x.2.1,(x.2.2.1,(x.2.2.2.1,(x.2.2.2.2.1,(0,(0,(0,(0,(0,[])))))))))))))) (λs=>x.2.2.2.2.2.length-s.2.1.toNat)
   ⟨0,B7 _,by simp[Jq]⟩ ?_
  rintro s ⟨k,F,rfl⟩;unfold Jt;dsimp only;refine AC (λz=>?_) (λz=>Ay.done ?_)
  ·have i:k<x.2.2.2.2.2.length:=by omega
   have c:=(h.ent (Uw i)).1;have A:=R1 c;have d:Jq x.2.2.2.2.2=Jq (x.2.2.2.2.2.take k)++(Hy (Br x.2.2.2.2.2[k])++Jq (x.2.2.2.2.2.drop (k+1))):=by grind[ga,List.drop_eq_getElem_cons,Jq,List.flatten_append,List.take_append_drop]
   have g:L3 x=(Hy (Zj x)++Jq (x.2.2.2.2.2.take k))++(Hy (Br x.2.2.2.2.2[k])++Jq (x.2.2.2.2.2.drop (k+1))):=by grind[L3,List.append_assoc]
   have f:=congrArg List.length g;rw[Ag]at f;rw[(by grind[Wu,kv]:FW (L3 x,((Hy (Zj x)++Jq (x.2.2.2.2.2.take k)).length:Int))=some (Br x.2.2.2.2.2[k],(((Hy (Zj x)++Jq (x.2.2.2.2.2.take k)).length:Int)+8+((Br x.2.2.2.2.2[k]).length:Int),0))),AI];dsimp only;rw[show((0:Int) !=0)=false by decide,cond_false,AA3 c,AI];dsimp only;rw[show((0:Int) !=0)=false by decide,cond_false];refine AB (Ac (by rw[CH];simp;omega)) λw D=>?_;rw[AW];refine Ay.next ⟨k+1,by omega,?_⟩ (by dsimp only;omega)
   rw[D.1,D5,Az i,Jz,R3,<-Ax,Ag (bs:=Hy (Br x.2.2.2.2.2[k])),F4];grind[Prod.ext]
  rw[Cb (by omega)];rfl
 obtain⟨r,hr,rfl⟩:=key;rw[hr,AI,VF];dsimp only;rw[decide_eq_false (by first|omega|(simp[len];omega)),cond_false];obtain⟨b,y,C⟩:=(qi)
 have e:b=true:=C.1 h;subst e;rw[y,AI,Ea,cond_false]
def frames(P:List Bb):Bb:=(P.map Hy).flatten
def yJ(P:List Bb):Prop:= ∀p∈P,33<=p.length/\p.length<=255
def RU(p:Bb)(P:List Bb):frames (p::P)=Hy p++frames P:=rfl
def QS{p:Bb}(h:p.length<=255):Hy p=UInt8.ofNat p.length::0::0::0::(p++EZ (Tg (EZ (p.length:Int) 4++p)) 4):=by
 have e:EZ (p.length:Int) 4=[UInt8.ofNat p.length,0,0,0]:=by simp only[EZ];rw[show((p.length:Int)%256).toNat=p.length by omega,show((p.length:Int)/256%256).toNat=0 by omega,show((p.length:Int)/256/256%256).toNat=0 by omega,show((p.length:Int)/256/256/256%256).toNat=0 by omega];rfl
 unfold Hy;grind
def jP{m n:Nat}(a:m<=255)(hn:n<=255)(h:UInt8.ofNat m=UInt8.ofNat n):m=n:=by have:=congrArg UInt8.toNat h;rw[VG,VG]at this;omega
def qf{n:Nat}(h:33<=n)(hn:n<=255)(e:UInt8.ofNat n=0):False:=by have:=congrArg UInt8.toNat e;rw[VG]at this;grind
def o9: ∀(P Q:List Bb),yJ P->yJ Q-> ∀(u v:Bb) (b:UInt8),frames P=u++v->frames Q=u++b::v->False
 |P,[],hP,hQ,u,v,b,h1,d=>by have:=congrArg List.length d;simp[frames]at this
 |[],q::Q,hP,hQ,u,v,b,h1,d=>by have B:=congrArg List.length h1;have y:=congrArg List.length d;rw[RU,Ag,F4]at y;simp only[frames,HV,List.flatten_nil,Bt,Ag,BV]at B y;have:=hQ q (An.2 (.inl rfl));omega
 |p::P,q::Q,hP,hQ,u,v,b,h1,d=>by
  obtain⟨I,n⟩:=hP p (An.2 (.inl rfl));obtain⟨q1,q2⟩:=hQ q (An.2 (.inl rfl));have f:yJ P:=λx w=>hP x (An.2 (.inr w));have g:yJ Q:=λx w=>hQ x (An.2 (.inr w));rw[RU]at h1 d;cases u with
  |nil=>rw[CD]at h1 d;rw[<-h1,QS n,QS q2,Do,Do]at d;injection d with _ d;injection d with d _;exact qf I n d.symm
  |cons a u=>
   have i:=h1;have j:=d;rw[QS n,Do,Do]at i;rw[QS q2,Do,Do]at j;injection i with C _;injection j with D _;have o:p.length=q.length:=jP n q2 (C.trans D.symm);have h:(Hy p).length=(Hy q).length:=by rw[F4,F4,o]
   rcases iK.1 h1 with⟨t,l,m⟩|⟨t,l,m⟩;rw[l,Ax]at d;obtain⟨G,e⟩:=Gl d h.symm;exact o9 P Q f g t v b m e
   
   cases z:t.reverse with
   |nil=>
    have s:t=[]:=by simpa using z
    subst s;rw[Dn]at l;rw[CD]at m;rw[<-l,m]at d;obtain⟨G,e⟩:=Gl d h.symm;exact o9 P Q f g [] (frames P) b (by rw[CD]) (by rw[CD];exact e)
   |cons c r=>
    have k:t=r.reverse++[c]:=by have:=congrArg List.reverse z;rwa [List.reverse_reverse,List.reverse_cons]at this
    have E:Hy q++frames Q=((a::u)++b::r.reverse)++(c::frames P):=by rw[d,m,k];simp only[Ax,Do,CD]
    have F:(Hy q).length=((a::u)++b::r.reverse).length:=by have:=congrArg List.length l;rw[k]at this;simp only[Ag,BV,Bt]at this⊢;omega
    obtain⟨_,e⟩:=Gl E F;cases Q with
    |nil=>exact absurd (congrArg List.length e) (by simp[frames])
    |cons J Q=>
     obtain⟨M,K⟩:=g J (An.2 (.inl rfl));rw[RU,QS K,Do,Do]at e;injection e with _ e;cases P with
     |nil=>exact absurd (congrArg List.length e) (by simp[frames])
     |cons H P=>obtain⟨L,A⟩:=f H (An.2 (.inl rfl));rw[RU,QS A,Do]at e;injection e with e _;exact qf L A e.symm
def yr{p q u w:Bb}{a b:UInt8}(m:p.length=q.length)(g:Hy p=u++a::w)(d:Hy q=u++b::w):a=b:=by
 have r:Hy p=(EZ (p.length:Int) 4++p)++EZ (Tg (EZ (p.length:Int) 4++p)) 4:=by unfold Hy;rw[List.append_assoc]
 have v:Hy q=(EZ (p.length:Int) 4++q)++EZ (Tg (EZ (p.length:Int) 4++q)) 4:=by unfold Hy;rw[List.append_assoc,m]
 rw[r]at g;rw[v]at d;have h:(EZ (p.length:Int) 4++p).length=(EZ (p.length:Int) 4++q).length:=by rw[Ag,Ag,m]
 generalize EZ (p.length:Int) 4++p=A at*;generalize EZ (p.length:Int) 4++q=B at*;have l: ∀s,Wz 4 (Tg s):=λs=>by have:=kU s;exact⟨λ_=>by rw[show(256:Int)^4=4294967296 by decide];omega,by omega⟩
 have C:=BN 4 (Tg A);have D:=BN 4 (Tg B);rcases iK.1 g with⟨t,f,j⟩|⟨t,f,j⟩
 
 have:B=A:=by rw[f,Ax]at d;exact(Gl d h.symm).1
 subst this;have:=g.symm.trans d;have:=(Gl this rfl).2;injection this;cases t with
 |nil=>
  rw[Dn]at f;rw[f]at h;have i:=(Gl d (by omega))
  have:B=A:=by rw[i.1,f]
  rw[this]at d;rw[d]at g;have:=(Gl g rfl).2;injection this with e _;exact e.symm
 |cons c t=>
  rw[Do]at j;injection j with n o;subst n o;have z:B++EZ (Tg B) 4=(u++b::t)++EZ (Tg A) 4:=by rw[d,Ax,Do]
  obtain⟨x,y⟩:=Gl z (by rw[<-h,f,Ag,Ag,BV,BV]);have k:=oy (by decide) (l B) (l A) y;rw[x,f]at k;exact(yY k).symm
def sT: ∀(P Q:List Bb),yJ P→yJ Q→(∀(i:Nat) (p q s t:Bb),P[i]? =some p→Q[i]? =some q→p++s=q++t→p.length=q.length)→
  ∀(u v:Bb) (a b:UInt8),frames P=u++a::v->frames Q=u++b::v->a=b
 |[],Q,hP,hQ,hf,u,v,a,b,f,e=>by have:=congrArg List.length f;simp[frames]at this
 |P,[],hP,hQ,hf,u,v,a,b,f,e=>by have:=congrArg List.length e;simp[frames]at this
 |p::P,q::Q,hP,hQ,hf,u,v,a,b,f,e=>by
  obtain⟨G,E⟩:=hP p (An.2 (.inl rfl));obtain⟨q1,q2⟩:=hQ q (An.2 (.inl rfl));have k:yJ P:=λx C=>hP x (An.2 (.inr C));have l:yJ Q:=λx C=>hQ x (An.2 (.inr C));have m: ∀(i:Nat) (p q s t:Bb),P[i]? =some p->Q[i]? =some q->p++s=q++t->p.length=q.length:=λi p q s t A B=>hf (i+1) p q s t (by simpa using A) (by simpa using B);rw[RU]at f e;cases u with
  |nil=>rw[CD]at f e;rw[QS E,Do]at f;rw[QS q2,Do]at e;injection f with y f;injection e with z e;rw[<-f]at e;simp only[Do,Ax]at e;injection e with _ e;injection e with _ e;injection e with _ e;have:=hf 0 p q _ _ rfl rfl e.symm;rw[<-y,<-z,this]
  |cons c u=>
   have n:=f;have o:=e;rw[QS E,Do,Do]at n;rw[QS q2,Do,Do]at o;injection n with A _;injection o with B _;have r:p.length=q.length:=jP E q2 (A.trans B.symm);have g:(Hy p).length=(Hy q).length:=by rw[F4,F4,r]
   rcases iK.1 f with⟨t,h,j⟩|⟨t,h,j⟩;rw[h,Ax]at e;obtain⟨D,w⟩:=Gl e g.symm;exact sT P Q k l m t v a b j w;cases t with
   |nil=>rw[Dn]at h;rw[CD]at j;rw[<-h]at e;obtain⟨D,w⟩:=Gl e g.symm;exact sT P Q k l m [] v a b (by rw[CD];exact j.symm) (by rw[CD];exact w)
   |cons d t=>
    rw[Do]at j;injection j with y z;subst y z;have F:Hy q++frames Q=((c::u)++b::t)++frames P:=by rw[e];simp only[Ax,Do]
    obtain⟨D,w⟩:=Gl F (by rw[<-g,h];simp only[Ag,BV]);exact yr r h D
def nO{c d:FG}(e:HS c)(j:HS d){s t:Bb}(h:Rz c++s=Rz d++t):(Rz c).length=(Rz d).length:=by
 have f: ∀{c:FG},HS c-> ∃(n:Nat) (r:Bb),Rz c=UInt8.ofNat n::r/\n<=255/\(Rz c).length=if n=255 then 1 else n+1:=λ{c} e=>by
  obtain⟨b,w⟩:=c;have a:=e.1;dsimp only at a;unfold Rz;cases b with
  |false=>exact⟨255,[],rfl,Ak _,rfl⟩
  |true=>refine⟨w.length,w,?_,by omega,?_⟩;dsimp;simp only[EZ];grind;dsimp;rw[Ag,BN,if_neg (by omega)];omega
 obtain⟨m,r,g,k,l1⟩:=f e;obtain⟨n,q,i,l,l2⟩:=f j;rw[g,i,Do,Do]at h;injection h with h _;have:=jP k l h;grind
def ul{e f:EN}(g:HS e.2.2.2.2.2.2.1.2.2.1/\HS e.2.2.2.2.2.2.1.2.2.2/\e.2.2.2.2.2.2.2=[])(i:HS f.2.2.2.2.2.2.1.2.2.1/\HS f.2.2.2.2.2.2.1.2.2.2/\f.2.2.2.2.2.2.2=[]){s t:Bb}(h:Br e++s=Br f++t):(Br e).length=(Br f).length:=by obtain⟨a1,a2,a3⟩:=g;obtain⟨b,c,d⟩:=i;unfold Br at*;rw[a3,d]at*;simp at h;have a: ∀{n m:Int} {k:Nat} {x y:Bb},EZ n k++x=EZ m k++y->x=y:=λj=>(Gl j (by rw[BN,BN])).2;have h:=a (a (a (a (a (a (a (a h)))))));have l1:=nO a1 b h;have h:=(Gl h l1).2;have l2:=nO a2 c h;simp only[Ag,BN,l1,l2]
def xK(x:AU):List Bb:=Zj x::x.2.2.2.2.2.map Br
def js(x:AU):L3 x=frames (xK x):=by unfold L3 xK;rw[RU];unfold Jq frames;rw[Ni];rfl
def WR.sml{x:AU}(h:WR x):yJ (xK x):=λp a=>by rcases An.1 a with rfl|a;rw[Ul];decide;obtain⟨e,f,rfl⟩:=Bl.1 a;obtain⟨b,c,d⟩:=h.2 e f;have l1:=dA b;have l2:=dA c;unfold Br;rw[d];simp only[Ag,BN,Bt];omega
inductive zw(s t:Bb):Prop where
 |more (u v:Bb) (b:UInt8) (h1:s=u++v) (h2:t=u++b::v)
 |less (u v:Bb) (b:UInt8) (h1:s=u++b::v) (h2:t=u++v)
 |other (u v:Bb) (a b:UInt8) (h:a≠b) (h1:s=u++a::v) (h2:t=u++b::v)
def xA{x y:AU}(k:WR x)(l:WR y)(h:zw (L3 x) (L3 y)):False:=by
 rw[js,js]at h;rcases h with⟨u,v,b,c,d⟩|⟨u,v,b,c,d⟩|⟨u,v,a,b,h,c,d⟩;exact o9 _ _ k.sml l.sml u v b c d;exact o9 _ _ l.sml k.sml u v b d c;refine h (sT _ _ k.sml l.sml (λi p q s t g j o=>?_) u v a b c d);cases i with
 |zero=>simp only[xK,YL,Ai]at g j;rw[<-g,<-j,Ul,Ul]
 |succ i=>simp only[xK,nI,CL,Zt]at g j;obtain⟨e,m,rfl⟩:=g;obtain⟨f,n,rfl⟩:=j;exact ul (k.2 e (BJ m)) (l.2 f (BJ n)) o
def xl{a b n k:Nat}{d:Array NE}(h:a<=k:=by omega)(c:k<a+n:=by omega):vZ a b n d k=d[b+(k-a)]! :=if_pos ⟨h,c⟩
def xm{a b n k:Nat}{d:Array NE}(e:a+n<=b)(h:b<=k:=by omega)(c:k<b+n:=by omega):vZ a b n d k=d[a+(k-b)]! :=by unfold vZ;rw[if_neg (by omega),if_pos ⟨h,c⟩]
def kL{a b n k:Nat}{d:Array NE}(h:k<a\/a+n<=k:=by omega)(c:k<b\/b+n<=k:=by omega):vZ a b n d k=d[k]! :=by unfold vZ;rw[if_neg (by omega),if_neg (by omega)]
def pJ(s m e:Nat)(d:Array NE)(k:Nat):NE:=if s<=k/\k<s+(e-m)then d[m+(k-s)]! else if s+(e-m)<=k/\k<e then d[s+(k-(s+(e-m)))]! else d[k]!
def da{s m e k:Nat}{d:Array NE}(h:s<=k:=by omega)(a:k<s+(e-m):=by omega):pJ s m e d k=d[m+(k-s)]! :=if_pos ⟨h,a⟩
def g9{s m e k:Nat}{d:Array NE}(h:s+(e-m)<=k:=by omega)(a:k<e:=by omega):pJ s m e d k=d[s+(k-(s+(e-m)))]! :=by unfold pJ;rw[if_neg (by omega),if_pos ⟨h,a⟩]
def SS{s m e k:Nat}{d:Array NE}(a:s<=m:=by omega)(b:m<=e:=by omega)(h:k<s\/e<=k:=by omega):pJ s m e d k=d[k]! :=by unfold pJ;rw[if_neg (by omega),if_neg (by omega)]
def jf{d:Array NE}{x y:Nat}(h:x=y):d[x]! =d[y]! :=by rw[h]
def xX{m i j k:Nat}{d e:Array NE}(o:i<=m)(p:1<=j)(l:j<i)(n:m+j<=d.size)(a: ∀k,k<d.size->e[k]! =vZ (m-i) m j d k)(b:k<d.size):pJ (m-(i-j)) m (m+j) e k=pJ (m-i) m (m+j) d k:=by rcases Ap k (m-i)with c|c;rw[SS,SS,a k b,kL];rcases Ap k (m-i+j)with f|f;rw[SS,da,a k b,xl];rcases Ap k (m-(i-j)+j)with g|g;rw[da,g9,a _ (by omega),xm (by omega)];exact jf (by omega);rcases Ap k (m+j)with h|h;rw[g9,g9,a _ (by omega),kL];exact jf (by omega);rw[SS,SS,a k b,kL]
def xY{m i j k:Nat}{d e:Array NE}(p:i<=m)(n:1<=i)(l:i<j)(o:m+j<=d.size)(a: ∀k,k<d.size->e[k]! =vZ (m-i) (m+j-i) i d k)(b:k<d.size):pJ (m-i) m (m+(j-i)) e k=pJ (m-i) m (m+j) d k:=by rcases Ap k (m-i)with c|c;rw[SS,SS,a k b,kL];rcases Ap k (m-i+(j-i))with f|f;rw[da,da,a _ (by omega),kL];rcases Ap k (m+(j-i))with g|g;rw[g9,da,a _ (by omega),xl];exact jf (by omega);rcases Ap k (m+j)with h|h;rw[SS,g9,a _ (by omega),xm (by omega)];exact jf (by omega);rw[SS,SS,a k b,kL]
theorem vK{d:Array NE}{a m b:Nat}(C:a<m)(D:m<b)(E:b≤d.size)(G:d.size≤16777216):
  Ay (Cy d.toList ((a:Int),((m:Int),(b:Int)))) λr=> ∃e:Array NE,r=e.toList/\e.size=d.size/\ ∀k,k<d.size->e[k]! =pJ a m b d k:=by
 unfold Cy;have q:wi ((m:Int)-(a:Int))=((m-a:Nat):Int):=by rw[Oy (by omega)];omega
 have t:wi ((b:Int)-(m:Int))=((b-m:Nat):Int):=by rw[Oy (by omega)];omega
 dsimp only;rw[q,t];refine AB (P:=λ(r:Int×List NE)=> ∃(i:Nat) (e:Array NE),r.1=i/\r.2=e.toList/\1<=i/\i<=m-a/\m+i<=b/\e.size=d.size/\ ∀k,k<d.size->pJ (m-i) m (m+i) e k=pJ a m b d k) ?_ ?_;refine AM (λ(s:Int×(Int×List NE))=> ∃(i j:Nat) (e:Array NE),s.1=i/\s.2.1=j/\s.2.2=e.toList/\1<=i/\1<=j/\i<=m-a/\m+j<=b/\e.size=d.size/\ ∀k,k<d.size->pJ (m-i) m (m+j) e k=pJ a m b d k) (λs=>(s.1+s.2.1).toNat)
  ⟨m-a,b-m,d,rfl,rfl,rfl,by omega,by omega,Ak _,by omega,rfl,λk _=>by rw[show m-(m-a)=a by omega,show m+(b-m)=b by omega]⟩ ?_
 rintro⟨H,I,J⟩ ⟨i,j,e,q1,q2,q3,q4,q5,q6,q7,q8,q9⟩;dsimp only at q1 q2 q3;subst q1 q2 q3;unfold Fl;dsimp only;have o:wi ((m:Int)-(i:Int))=((m-i:Nat):Int):=by rw[Oy (by omega)];omega
 rw[o];refine AL (λB=>?_) (λA=>AA ⟨i,e,rfl,rfl,q4,q6,by omega,q8,λk g=>?_⟩);refine AC ?_ ?_<;>intro F;refine AB (pQ (d:=e) (a:=m-i) (b:=m) (n:=j) (by omega) (by omega) (by omega)) ?_;rintro v ⟨f,rfl,h,l⟩;have c:Nat.beq (List.length f.toList) (List.length e.toList)=true:=by rw[DM,DM,h];exact HY _
 have p:wi ((i:Int)-(j:Int))=((i-j:Nat):Int):=by rw[Oy (by omega)];omega
 rw[c,cond_true,p];refine AA ⟨⟨i-j,j,f,rfl,rfl,rfl,by omega,q5,by omega,q7,by omega,λk g=>?_⟩,?_⟩;rw[xX (by omega) q5 (by omega) (by omega) l (by omega),q9 k g];show(((i-j:Nat):Int)+(j:Int)).toNat<((i:Int)+(j:Int)).toNat
 omega;have u:wi (wi ((m:Int)+(j:Int))-(i:Int))=((m+j-i:Nat):Int):=by rw[Oy (x:=(m:Int)+(j:Int)) (by omega),Oy (by omega)];omega
 rw[u];refine AB (pQ (d:=e) (a:=m-i) (b:=m+j-i) (n:=i) (by omega) (by omega) (by omega)) ?_;rintro v ⟨f,rfl,h,l⟩;have c:Nat.beq (List.length f.toList) (List.length e.toList)=true:=by rw[DM,DM,h];exact HY _
 have p:wi ((j:Int)-(i:Int))=((j-i:Nat):Int):=by rw[Oy (by omega)];omega
 rw[c,cond_true,p];refine AA ⟨⟨i,j-i,f,rfl,rfl,rfl,q4,by omega,q6,by omega,by omega,λk g=>?_⟩,?_⟩;rw[xY (by omega) q4 (by omega) (by omega) l (by omega),q9 k g];show((i:Int)+((j-i:Nat):Int)).toNat<((i:Int)+(j:Int)).toNat
 omega;have:j=i:=by omega
 subst this;exact q9 k g;rintro⟨K,L⟩ ⟨i,e,q1,q2,q3,q4,q5,q6,q7⟩;dsimp only at q1 q2;subst q1 q2;dsimp only;have o:wi ((m:Int)-(i:Int))=((m-i:Nat):Int):=by rw[Oy (by omega)];omega
 rw[o];refine AB (pQ (d:=e) (a:=m-i) (b:=m) (n:=i) (by omega) (by omega) (by omega)) ?_;rintro v ⟨f,rfl,h,l⟩;have c:Nat.beq (List.length f.toList) (List.length e.toList)=true:=by rw[DM,DM,h];exact HY _
 rw[c,cond_true];refine AA ⟨f,rfl,by omega,λk g=>?_⟩;rw[<-q7 k g,l k (by omega)];rcases Ap k (m-i)with w|w;rw[kL (by omega) (by omega),SS (by omega) (by omega) (by omega)];rcases Ap k m with y|y;rw[xl (by omega) (by omega),da (by omega) (by omega)];rcases Ap k (m+i)with z|z;rw[xm (by omega) (by omega) (by omega),g9 (by omega) (by omega)];exact jf (by omega);rw[kL (by omega) (by omega),SS (by omega) (by omega) (by omega)]
def qd{i j:Nat}(h:i+j<=1099511627776):wi (Int.fdiv (IntKind.wrap .u64 (wi ((i:Int)+(j:Int)))) (2^(min (Int.toNat 1) 64)))=(((i+j)/2:Nat):Int):=by rw[fj];omega
def bs{body:Int×Int→Option (Step (Int×Int) Int)}{P:Nat→Bool}{b a:Nat}(m: ∀i:Nat,body ((i:Int),(i:Int))=some (.done (i:Int)))
  (s: ∀i j:Nat,b<=i->i<j->j<=a->body ((i:Int),(j:Int))=some (.next (if P ((i+j)/2)=true then((((i+j)/2+1:Nat):Int),(j:Int))else((i:Int),(((i+j)/2:Nat):Int))))) (l:b<=a):
  ∃r:Nat,Ad body ((b:Int),(a:Int))=some (r:Int)/\b<=r/\r<=a/\(b<r->P (r-1)=true)/\(r<a->P r=false):=by
 suffices h: ∀n i j:Nat,j-i<=n->b<=i->i<=j->j<=a->(b<i->P (i-1)=true)->(j<a->P j=false)-> ∃r:Nat,Ad body ((i:Int),(j:Int))=some (r:Int)/\b<=r/\r<=a/\(b<r->P (r-1)=true)/\(r<a->P r=false)from
  h _ b a (Ak _) (Ak _) l (Ak _) (λh=>absurd h (by omega)) (λh=>absurd h (by omega))
 intro n;induction n with
 |zero=>
  intro i j p c q d e f;have:i=j:=by omega
  subst this;rw[Ce,m];exact⟨i,rfl,c,d,e,f⟩
 |succ n o=>intro i j p c q d e f;rw[Ce];by_cases k:i=j;subst k;rw[m];exact⟨i,rfl,c,d,e,f⟩;rw[s i j c (by omega) d];by_cases g:P ((i+j)/2)=true;rw[if_pos g];exact o _ j (by omega) (by omega) (by omega) d (λ_=>by rw[fL];exact g) f;rw[if_neg g];exact o i _ (by omega) c (by omega) (by omega) e (λ_=>by simpa using g)
theorem ACA{d:Array NE}{a m b:Nat}(o:a<d.size)(g:m≤b)(p:b≤d.size)(q:d.size≤16777216)(c:Int×Int):
  ∃r:Nat,Ad (Cd d.toList ((a:Int),c)) ((m:Int),(b:Int))=some (r:Int)/\m<=r/\r<=b/\(m<r->lN d[r-1]! d[a]! =true)/\(r<b->lN d[r]! d[a]! =false):=by
 refine bs (P:=λk=>lN d[k]! d[a]!) (λi=>?_) (λi j h l n=>?_) g;unfold Cd;have:decide ((i:Int)<(i:Int))=false:=by simp
 dsimp only;rw[this,cond_false];unfold Cd;have:decide ((i:Int)<(j:Int))=true:=by simp;omega
 dsimp only;rw[this,cond_true,qd (by omega)];obtain⟨v,e,f⟩:=zY d[(i+j)/2]! d[a]!;rw[sI (k:=(i+j)/2) rfl (by omega),sI (k:=a) rfl (by omega)];simp only[AI,e,f,kf (i:=(i+j)/2) (by omega)];cases lN d[(i+j)/2]! d[a]! <;>rfl
theorem ACB{d:Array NE}{a r b:Nat}(h:a<r)(hr:r≤b)(w:b≤d.size)(x:d.size≤16777216):
  Ay (Ad (C5 (r:Int)) ((a:Int),d.toList)) λq=> ∃e:Array NE,q=e.toList/\Sort.PermIn a b d e/\(∀t,a<=t->t<r-1->e[t]! =d[t+1]!)/\e[r-1]! =d[a]! /\ ∀t,r<=t->e[t]! =d[t]! :=by
 refine AM (λ(s:Int×List NE)=> ∃(k:Nat) (e:Array NE),s.1=k/\s.2=e.toList/\a<=k/\k<r/\Sort.PermIn a b d e/\(∀t,a<=t->t<k->e[t]! =d[t+1]!)/\e[k]! =d[a]! /\ ∀t,k<t->e[t]! =d[t]!) (λs=>r-s.1.toNat) ⟨a,d,rfl,rfl,Ak _,h,Sort.permIn_refl _ _ _,λt _ _=>by omega,rfl,λt _=>rfl⟩ ?_;rintro⟨z,A⟩ ⟨k,e,q1,q2,q3,q4,q5,q6,q7,q8⟩;dsimp only at q1 q2;subst q1 q2;have y:=q5.1;unfold C5;dsimp only;have l:wi ((r:Int)-1)=((r-1:Nat):Int):=by rw[rI (by omega)];omega
 rw[l];refine AC (λn=>?_) (λn=>AA ⟨e,rfl,q5,λt g m=>q6 t g (by omega),?_,λt o=>q8 t (by omega)⟩);have p:ix e.toList ((k+1:Nat):Int)=some e[k+1]! :=sI rfl (by omega);have u:ix e.toList (k:Int)=some e[k]! :=sI rfl (by omega);have v:ix (BR e.toList (k:Int) e[k+1]!) ((k+1:Nat):Int)=some (e.setIfInBounds k e[k+1]!)[k+1]! :=y8 rfl rfl (by omega);simp only[kf (i:=k) (by omega),p,u,v,AI,zl (d:=e) (a:=k) (b:=k+1) rfl rfl];have c:=Sort.swp_get e (i:=k) (j:=k+1) (by omega) (by omega);refine AA ⟨⟨k+1,_,rfl,rfl,by omega,by omega,Sort.permIn_trans _ _ _ _ _ q5 (Sort.swp_permIn e a b k (k+1) q3 (by omega) (by omega) (by omega) (by omega)),λt g m=>?_,?_,λt o=>?_⟩,?_⟩;rw[c,if_neg (by omega)];by_cases f:t=k;subst f;rw[if_pos rfl];exact q8 _ (by omega);rw[if_neg f];exact q6 t g (by omega);rw[c,if_pos rfl];exact q7;rw[c,if_neg (by omega),if_neg (by omega)];exact q8 t (by omega);show r-((k+1:Nat):Int).toNat<r-((k:Nat):Int).toNat
 omega;have:k=r-1:=by omega
 rw[<-this];exact q7
def xh{d:Array NE}{a b:Nat}(o:a+1≤b)(z:b≤d.size)(A:d.size≤16777216)(k:Sort.SortedIn lN (a+1) b d)(c:Int×Int):
  Ay (Option.bind (Ad (Cd d.toList ((a:Int),c)) (((a+1:Nat):Int),(b:Int))) λv=>Option.bind (Ad (C5 v) ((a:Int),d.toList)) λw=>some w) λq=> ∃e:Array NE,q=e.toList/\Sort.PermIn a b d e/\Sort.SortedIn lN a b e:=by
 obtain⟨r,g,H,I,J,K⟩:=ACA (d:=d) (a:=a) (m:=a+1) (b:=b) (by omega) o z A c;rw[g,AI];apply AB (ACB (d:=d) (a:=a) (r:=r) (b:=b) (by omega) I z A);rintro q ⟨e,rfl,G,n,B,C⟩;refine AA ⟨e,rfl,G,λx y p s u=>?_⟩;have W:=md;have F: ∀t,a+1<=t->t<r->lN d[a]! d[t]! =false:=λt h l=>by
  have f:=J (by omega);cases D:lN d[a]! d[t]! with
  |false=>rfl
  |true=>have i:=W.trans _ _ _ f D;rcases Ap t (r-1)with j|j;exact absurd i (by rw[k t (r-1) h j (by omega)];decide);rw[show t=r-1 by omega,W.irrefl]at i;cases i
 have E: ∀t,r<=t->t<b->lN d[t]! d[a]! =false:=λt h l=>by have f:=K (by omega);rcases Ap r t with j|j;exact W.ntrans _ _ _ (k r t H j l) f;rw[show t=r by omega];exact f
 rcases Ap y (r-1)with h|h;rw[n x p (by omega),n y (by omega) h];exact k (x+1) (y+1) (by omega) (by omega) (by omega);rcases Ap (r-1) y with l|l;rw[C y (by omega)];rcases Ap x (r-1)with f|f;rw[n x p f];exact k (x+1) y (by omega) (by omega) u;rcases Ap (r-1) x with i|i;rw[C x (by omega)];exact k x y (by omega) s u;rw[show x=r-1 by omega,B];exact E y (by omega) u;rw[show y=r-1 by omega,B,n x p (by omega)];exact F (x+1) (by omega) (by omega)
theorem ACC{d:Array NE}{a m:Nat}(l:a≤m)(w:m<d.size)(u:d.size≤16777216)(b:Int):
  ∃r:Nat,Ad (Bn d.toList ((a:Int),((m:Int),b))) ((a:Int),(m:Int))=some (r:Int)/\a<=r/\r<=m/\(a<r->lN d[m]! d[r-1]! =false)/\(r<m->lN d[m]! d[r]! =true):=by
 have c: ∀i:Nat,Bn d.toList ((a:Int),((m:Int),b)) ((i:Int),(i:Int))=some (.done (i:Int)):=λi=>by
  unfold Bn;have:decide ((i:Int)<(i:Int))=false:=by simp
  dsimp only;rw[this,cond_false]
 have e: ∀i j:Nat,a<=i->i<j->j<=m->Bn d.toList ((a:Int),((m:Int),b)) ((i:Int),(j:Int))=some (.next (if(!lN d[m]! d[(i+j)/2]!)=true then((((i+j)/2+1:Nat):Int),(j:Int))else((i:Int),(((i+j)/2:Nat):Int)))):=λi j q s t=>by
  unfold Bn;have:decide ((i:Int)<(j:Int))=true:=by simp;omega
  dsimp only;rw[this,cond_true,qd (by omega)];obtain⟨v,f,g⟩:=zY d[m]! d[(i+j)/2]!;rw[sI (k:=(i+j)/2) rfl (by omega),sI (k:=m) rfl (by omega)];simp only[AI,f,g,kf (i:=(i+j)/2) (by omega)];cases lN d[m]! d[(i+j)/2]! <;>rfl
 obtain⟨r,f,g,n,o,p⟩:=bs (P:=λk=>!lN d[m]! d[k]!) c e l;exact⟨r,f,g,n,λh=>by simpa using o h,λh=>by simpa using p h⟩
theorem ACD{d:Array NE}{a r m:Nat}(n:a≤r)(hr:r≤m)(y:m<d.size)(x:d.size≤16777216):
  Ay (Ad (C6 (r:Int)) ((m:Int),d.toList)) λq=> ∃e:Array NE,q=e.toList/\Sort.PermIn a (m+1) d e/\(∀t,r<t->t<=m->e[t]! =d[t-1]!)/\e[r]! =d[m]! /\ ∀t,t<r->e[t]! =d[t]! :=by
 refine AM (λ(s:Int×List NE)=> ∃(k:Nat) (e:Array NE),s.1=k/\s.2=e.toList/\r<=k/\k<=m/\Sort.PermIn a (m+1) d e/\(∀t,k<t->t<=m->e[t]! =d[t-1]!)/\e[k]! =d[m]! /\ ∀t,t<k->e[t]! =d[t]!) (λs=>s.1.toNat) ⟨m,d,rfl,rfl,hr,Ak _,Sort.permIn_refl _ _ _,λt _ _=>by omega,rfl,λt _=>rfl⟩ ?_;rintro⟨A,B⟩ ⟨k,e,q1,q2,q3,q4,q5,q6,q7,q8⟩;dsimp only at q1 q2;subst q1 q2;have z:=q5.1;unfold C6;dsimp only;refine AC (λo=>?_) (λo=>AA ⟨e,rfl,q5,λt l g=>q6 t (by omega) g,?_,λt p=>q8 t (by omega)⟩);have h:wi ((k:Int)-1)=((k-1:Nat):Int):=by rw[rI (by omega)];omega
 have u:ix e.toList ((k-1:Nat):Int)=some e[k-1]! :=sI rfl (by omega);have v:ix e.toList (k:Int)=some e[k]! :=sI rfl (by omega);have w:ix (BR e.toList (k:Int) e[k-1]!) ((k-1:Nat):Int)=some (e.setIfInBounds k e[k-1]!)[k-1]! :=y8 rfl rfl (by omega);simp only[h,u,v,w,AI,zl (d:=e) (a:=k) (b:=k-1) rfl rfl];have c:=Sort.swp_get e (i:=k) (j:=k-1) (by omega) (by omega);refine AA ⟨⟨k-1,_,rfl,rfl,by omega,by omega,Sort.permIn_trans _ _ _ _ _ q5 (Sort.swp_permIn e a (m+1) k (k-1) (by omega) (by omega) (by omega) (by omega) (by omega)),λt l g=>?_,?_,λt p=>?_⟩,?_⟩;rw[c,if_neg (by omega)];by_cases f:t=k;subst f;rw[if_pos rfl];exact q8 _ (by omega);rw[if_neg f];exact q6 t (by omega) g;rw[c,if_pos rfl];exact q7;rw[c,if_neg (by omega),if_neg (by omega)];exact q8 t (by omega);show((k-1:Nat):Int).toNat<((k:Nat):Int).toNat
 omega;have:k=r:=by omega
 rw[<-this];exact q7
def zf{d:Array NE}{a m:Nat}(n:a≤m)(u:m<d.size)(s:d.size≤16777216)(k:Sort.SortedIn lN a m d)(b:Int):
  Ay (Option.bind (Ad (Bn d.toList ((a:Int),((m:Int),b))) ((a:Int),(m:Int))) λv=>Option.bind (Ad (C6 v) ((m:Int),d.toList)) λw=>some w) λq=> ∃e:Array NE,q=e.toList/\Sort.PermIn a (m+1) d e/\Sort.SortedIn lN a (m+1) e:=by
 obtain⟨r,g,B,G,H,I⟩:=ACC (d:=d) (a:=a) (m:=m) n u s b;rw[g,AI];apply AB (ACD (d:=d) (a:=a) (r:=r) (m:=m) B G u s);rintro q ⟨e,rfl,F,z,A,l⟩;refine AA ⟨e,rfl,F,λx y o p J=>?_⟩;have W:=md;have E: ∀t,a<=t->t<r->lN d[m]! d[t]! =false:=λt h i=>by have c:=H (by omega);rcases Ap t (r-1)with j|j;exact W.ntrans _ _ _ c (k t (r-1) h j (by omega));rw[show t=r-1 by omega];exact c
 have D: ∀t,r<=t->t<m->lN d[t]! d[m]! =false:=λt h i=>by
  have c:=I (by omega);cases C:lN d[t]! d[m]! with
  |false=>rfl
  |true=>have f:=W.trans _ _ _ C c;rcases Ap r t with j|j;exact absurd f (by rw[k r t B j i];decide);rw[show t=r by omega,W.irrefl]at f;cases f
 rcases Ap y r with h|h;rw[l x (by omega),l y h];exact k x y o p (by omega);rcases Ap r y with i|i;rw[z y i (by omega)];rcases Ap x r with c|c;rw[l x c];exact k x (y-1) o (by omega) (by omega);rcases Ap r x with f|f;rw[z x f (by omega)];exact k (x-1) (y-1) (by omega) (by omega) (by omega);rw[show x=r by omega,A];exact D (y-1) (by omega) (by omega);rw[show y=r by omega,A,l x (by omega)];exact E x o (by omega)
theorem ACE{d:Array NE}{a m b lo hi:Nat}(l:lo≤hi)(s:a≤lo)(t:hi≤m)(u:(a+b)/2+m-lo≤b)(y:hi≤(a+b)/2+m)(w:m≤b)(z:b≤d.size)(A:d.size≤16777216):
  ∃r:Nat,Ad (B8 d.toList ((a:Int),((m:Int),(b:Int)))) ((lo:Int),(hi:Int))=some (r:Int)/\lo<=r/\r<=hi/\(lo<r->lN d[(a+b)/2+m-1-(r-1)]! d[r-1]! =false)/\(r<hi->lN d[(a+b)/2+m-1-r]! d[r]! =true):=by
 have c: ∀i:Nat,B8 d.toList ((a:Int),((m:Int),(b:Int))) ((i:Int),(i:Int))=some (.done (i:Int)):=λi=>by
  unfold B8;have:decide ((i:Int)<(i:Int))=false:=by simp
  dsimp only;rw[this,cond_false]
 have e: ∀i j:Nat,lo<=i->i<j->j<=hi->B8 d.toList ((a:Int),((m:Int),(b:Int))) ((i:Int),(j:Int))=some (.next (if(!lN d[(a+b)/2+m-1-(i+j)/2]! d[(i+j)/2]!)=true then((((i+j)/2+1:Nat):Int),(j:Int))else((i:Int),(((i+j)/2:Nat):Int)))):=λi j s t u=>by
  unfold B8;have:decide ((i:Int)<(j:Int))=true:=by simp;omega
  dsimp only;rw[this,cond_true,qd (i:=i) (j:=j) (by omega),qd (i:=a) (j:=b) (by omega)];have n:wi (wi (wi ((((a+b)/2:Nat):Int)+(m:Int))-1)-(((i+j)/2:Nat):Int))=(((a+b)/2+m-1-(i+j)/2:Nat):Int):=by rw[Oy (x:=(((a+b)/2:Nat):Int)+(m:Int)) (by omega),Oy (x:=(((a+b)/2:Nat):Int)+(m:Int)-1) (by omega),Oy (by omega)];omega
  obtain⟨v,f,g⟩:=zY d[(a+b)/2+m-1-(i+j)/2]! d[(i+j)/2]!;rw[n,sI (k:=(i+j)/2) rfl (by omega),sI (k:=(a+b)/2+m-1-(i+j)/2) rfl (by omega)];simp only[AI,f,g,kf (i:=(i+j)/2) (by omega)];cases lN d[(a+b)/2+m-1-(i+j)/2]! d[(i+j)/2]! <;>rfl
 obtain⟨r,f,g,o,p,q⟩:=bs (P:=λk=>!lN d[(a+b)/2+m-1-k]! d[k]!) c e l;exact⟨r,f,g,o,λh=>by simpa using p h,λh=>by simpa using q h⟩
def zX{s m e:Nat}{d f:Array NE}(c:s<=m)(j:m<=e)(l:e<=d.size)(o:f.size=d.size)(h: ∀k,k<d.size->f[k]! =pJ s m e d k):Sort.PermIn s e d f:=by
 refine⟨o,λi a=>?_,?_⟩;rcases Ap i d.size with b|b;rw[h i b,SS c j a];grind;have key: ∀(g:Nat->NE) (s n:Nat),(List.range' s n).map g=(List.range n).map λi=>g (s+i):=λg s n=>by rw[List.range'_eq_map_range,Ni];rfl
 rw[Sort.extract_toList f s e (by omega),Sort.extract_toList d s e l];have p:List.range' s (e-s)=List.range' s (e-m)++List.range' (s+(e-m)) (m-s):=by grind
 have q:List.range' s (e-s)=List.range' s (m-s)++List.range' (s+(m-s)) (e-m):=by grind
 have l1:(List.range' s (e-m)).map (λi=>f[i]!)=(List.range' (s+(m-s)) (e-m)).map λi=>d[i]! :=by rw[key,key];refine Lu λi a=>?_;have:=IT.1 a;rw[h _ (by omega),da];simp_all
 have l2:(List.range' (s+(e-m)) (m-s)).map (λi=>f[i]!)=(List.range' s (m-s)).map λi=>d[i]! :=by rw[key,key];refine Lu λi a=>?_;have:=IT.1 a;rw[h _ (by omega),g9];simp_all
 grind
def pY(a b:Nat)(d e:Array NE):Prop:=Sort.PermIn a b d e/\Sort.SortedIn lN a b e
def hZ{a m b:Nat}{d:Array NE}(h:m<=a\/b<=m)(c:Sort.SortedIn lN a m d)(e:Sort.SortedIn lN m b d)(f:a<=m)(g:m<=b):Sort.SortedIn lN a b d:=by
 rcases h with h|h;have:m=a:=by omega
 rw[<-this];exact e;have:m=b:=by omega
 rw[<-this];exact c
theorem ACi{C:List NE×(Int×(Int×Int))→Option (List NE)}{N a m b:Nat}{d:Array NE}(a5:a<m)(a6:m<b)(hb:b≤d.size)(hd:d.size≤16777216)(s:Sort.SortedIn lN a m d)(A:Sort.SortedIn lN m b d)
  (O: ∀(S:Array NE) (V m' R:Nat),V<m'->m'<R->R<=S.size->S.size<=16777216->Sort.SortedIn lN V m' S->Sort.SortedIn lN m' R S->PT (R-V<=N) (C (S.toList,((V:Int),((m':Int),(R:Int))))) λr=> ∃e:Array NE,r=e.toList/\pY V R S e):
  PT (b-a<=N+1) (BG C d.toList ((a:Int),((m:Int),(b:Int)))) λr=> ∃e:Array NE,r=e.toList/\pY a b d e:=by
 have W:=md;unfold BG;have e0:wi ((m:Int)-(a:Int))=((m-a:Nat):Int):=by rw[Oy (by omega)];omega
 have e1:wi ((b:Int)-(m:Int))=((b-m:Nat):Int):=by rw[Oy (by omega)];omega
 dsimp only;rw[e0,e1,qd (i:=a) (j:=b) (by omega)];refine PT.cond ?_ ?_<;>intro Q;have Q:m=a+1:=by have:=eq_of_beq Q;omega
 subst Q;exact dG (xh (by omega) hb hd A _);refine PT.cond ?_ ?_<;>intro n;have n:b=m+1:=by have:=eq_of_beq n;omega
 subst n;exact dG (zf (by omega) hb hd s _);have n1:m-a≠1:=λh=>by rw[h]at Q;exact absurd Q (by decide)
 have n2:b-m≠1:=λh=>by rw[h]at n;exact absurd n (by decide)
 have Y:a<(a+b)/2/\(a+b)/2<b:=by omega
 generalize hM:(a+b)/2=M at Y⊢;have e2:wi ((M:Int)+(m:Int))=((M+m:Nat):Int):=by rw[Oy (by omega)];omega
 rw[e2];refine PT.bind (P:=λv=> ∃L J:Nat,v=((L:Int),(J:Int))/\L<=J/\a<=L/\J<=m/\J<=M/\M+m-L<=b/\(L=a\/M+m-L=b)/\(J=m\/J=M)) ?_ ?_;refine PT.dec (λhc=>PT.some ⟨M+m-b,M,?_,by omega,by omega,by omega,by omega,by omega,by omega,by omega⟩) (λhc=>PT.some ⟨a,m,rfl,by omega,by omega,by omega,by omega,by omega,by omega,by omega⟩);rw[Oy (by omega)];exact congrArg (λz=>(z,(M:Int))) (by omega);rintro v ⟨L,J,rfl,f1,f2,f3,f4,f5,f6,f7⟩;obtain⟨r,g,r1,r2,r3,r4⟩:=ACE (d:=d) (a:=a) (m:=m) (b:=b) (lo:=L) (hi:=J) f1 f2 f3 (by omega) (by omega) (by omega) hb hd;rw[hM]at r3 r4;rw[g,AI];have e3:wi (((M+m:Nat):Int)-(r:Int))=((M+m-r:Nat):Int):=by rw[Oy (by omega)];omega
 simp only[e3];obtain⟨E,hE⟩: ∃E,E=M+m-r:=⟨_,rfl⟩
 rw[<-hE];have c1:a<r->E<b->lN d[E]! d[r-1]! =false:=λQ n=>by have:=r3 (by omega);rw[show M+m-1-(r-1)=E by omega]at this;exact this
 have c2:r<m->m<E->lN d[E-1]! d[r]! =true:=λQ n=>by have:=r4 (by omega);rw[show M+m-1-r=E-1 by omega]at this;exact this
 have s3: ∀c l:Array NE,Sort.PermIn a b d c->(∀k,k<d.size->c[k]! =pJ r m E d k)->pY a M c l->PT (b-a<=N+1) (bif decide ((M:Int)<(E:Int))then Option.bind (bif decide ((E:Int)<(b:Int))then Option.bind (C (l.toList,((M:Int),((E:Int),(b:Int))))) λv=>bif Nat.beq (List.length v) (List.length l.toList)then some v else none else some l.toList) λv=>some v else some l.toList) λq=> ∃e:Array NE,q=e.toList/\pY a b d e:=by
  intro c l U f n;have z1:c.size=d.size:=U.1;have z2:l.size=c.size:=n.1.1;have ax: ∀k,k<r->c[k]! =d[k]! :=λk hk=>by rw[f k (by omega),SS (by omega) (by omega) (by omega)]
  have a0: ∀k,r<=k->k<M->c[k]! =d[m+(k-r)]! :=λk h h'=>by rw[f k (by omega),da (by omega) (by omega)]
  have H: ∀k,M<=k->k<E->c[k]! =d[r+(k-M)]! :=λk h h'=>by rw[f k (by omega),g9 (by omega) (by omega)];exact jf (by omega)
  have I: ∀k,E<=k->k<b->c[k]! =d[k]! :=λk h h'=>by rw[f k (by omega),SS (by omega) (by omega) (by omega)]
  have a1: ∀x y,a<=x->x<M->M<=y->y<b->lN c[y]! c[x]! =false:=by
   intro x y F a4 G K;rcases Ap x r with q1|q1;rw[ax x q1];rcases Ap y E with q2|q2;rw[H y G q2];exact s x _ F (by omega) (by omega);rw[I y q2 K];have k1:lN d[y]! d[E]! =false:=by rcases Ap E y with q3|q3;exact A E y (by omega) q3 K;rw[show y=E by omega];exact W.irrefl _
   have k2:lN d[r-1]! d[x]! =false:=by rcases Ap x (r-1)with q3|q3;exact s x (r-1) F q3 (by omega);rw[show r-1=x by omega];exact W.irrefl _
   exact W.ntrans _ _ _ (W.ntrans _ _ _ k1 (c1 (by omega) (by omega))) k2;rw[a0 x q1 a4];rcases Ap y E with q2|q2;rw[H y G q2];have hc:=c2 (by omega) (by omega);have k1:lN d[E-1]! d[m+(x-r)]! =false:=by rcases Ap (m+(x-r)) (E-1)with q3|q3;exact A _ (E-1) (by omega) q3 (by omega);rw[show m+(x-r)=E-1 by omega];exact W.irrefl _
   refine W.ntrans _ d[E-1]! _ ?_ k1;cases hk:lN d[r+(y-M)]! d[E-1]! with
   |false=>rfl
   |true=>have k2:=W.trans _ _ _ hk hc;rcases Ap r (r+(y-M))with q3|q3;exact absurd k2 (by rw[s r _ (by omega) q3 (by omega)];decide);rw[show r+(y-M)=r by omega,W.irrefl]at k2;cases k2
   rw[I y q2 K];exact A _ y (by omega) (by omega) K
  have X: ∀d3:Array NE,pY M b l d3->pY a b d d3:=λd3 T=>by refine⟨Sort.permIn_trans _ _ _ _ _ U (Sort.permIn_trans _ _ _ _ _ (Sort.permIn_mono _ _ a M a b (by omega) (by omega) (by omega) n.1) (Sort.permIn_mono _ _ M b a b (by omega) (by omega) (by omega) T.1)),λx y F B G=>?_⟩;rcases Ap y M with q1|q1;rw[T.1.2.1 x (by omega),T.1.2.1 y (by omega)];exact n.2 x y F B q1;rcases Ap x M with q2|q2;rw[T.1.2.1 x (by omega)];refine Sort.permIn_all l d3 M b (λz=>lN z l[x]! =false) (by omega) T.1 (λw hw a3=>?_) y q1 G;rw[n.1.2.1 w (by omega)];exact Sort.permIn_all c l a M (λz=>lN c[w]! z=false) (by omega) n.1 (λu hu a2=>a1 u w hu a2 hw a3) x F q2;exact T.2 x y q2 B G
  have ap:Sort.SortedIn lN M E l:=λx y F B G=>by rw[n.1.2.1 x (by omega),n.1.2.1 y (by omega),H x F (by omega),H y (by omega) G];exact s _ _ (by omega) (by omega) (by omega)
  have ar:Sort.SortedIn lN E b l:=λx y F B G=>by rw[n.1.2.1 x (by omega),n.1.2.1 y (by omega),I x F (by omega),I y (by omega) G];exact A _ _ (by omega) (by omega) (by omega)
  have o:E<=M\/b<=E->pY a b d l:=λh=>X l ⟨Sort.permIn_refl _ _ _,hZ h ap ar (by omega) (by omega)⟩;refine PT.dec (λq1=>PT.bind (P:=λq=> ∃e:Array NE,q=e.toList/\pY a b d e) (PT.dec (λq2=>?_) (λq2=>PT.some ⟨l,rfl,o (by omega)⟩)) λr h=>PT.some h) (λq1=>PT.some ⟨l,rfl,o (by omega)⟩);have hr:=O l M E b (by omega) (by omega) (by omega) (by omega) ap ar;refine PT.bind (P:=λq=> ∃e:Array NE,q=e.toList/\pY M b l e) ⟨λt=>hr.1 (by omega),hr.2⟩ ?_;rintro q ⟨e,rfl,D⟩;exact FY (by rw[DM,DM,D.1.1]) (PT.some ⟨e,rfl,X e D⟩)
 have s2: ∀c:Array NE,Sort.PermIn a b d c->(∀k,k<d.size->c[k]! =pJ r m E d k)->PT (b-a<=N+1) (bif decide ((a:Int)<(r:Int))then Option.bind (bif decide ((r:Int)<(M:Int))then Option.bind (C (c.toList,((a:Int),((r:Int),(M:Int))))) λv=>bif Nat.beq (List.length v) (List.length c.toList)then some v else none else some c.toList) λv=>(bif decide ((M:Int)<(E:Int))then Option.bind (bif decide ((E:Int)<(b:Int))then Option.bind (C (v,((M:Int),((E:Int),(b:Int))))) λw=>bif Nat.beq (List.length w) (List.length v)then some w else none else some v) λw=>some w else some v)else(bif decide ((M:Int)<(E:Int))then Option.bind (bif decide ((E:Int)<(b:Int))then Option.bind (C (c.toList,((M:Int),((E:Int),(b:Int))))) λw=>bif Nat.beq (List.length w) (List.length c.toList)then some w else none else some c.toList) λw=>some w else some c.toList)) λq=> ∃e:Array NE,q=e.toList/\pY a b d e:=by
  intro c U f;have z1:c.size=d.size:=U.1;have ad:Sort.SortedIn lN a r c:=λx y F B G=>by rw[f x (by omega),f y (by omega),SS (by omega) (by omega) (by omega),SS (by omega) (by omega) (by omega)];exact s _ _ (by omega) (by omega) (by omega)
  have al:Sort.SortedIn lN r M c:=λx y F B G=>by rw[f x (by omega),f y (by omega),da (by omega) (by omega),da (by omega) (by omega)];exact A _ _ (by omega) (by omega) (by omega)
  have o:r<=a\/M<=r->pY a M c c:=λh=>⟨Sort.permIn_refl _ _ _,hZ h ad al (by omega) (by omega)⟩
  refine PT.dec (λq1=>PT.bind (P:=λq=> ∃e:Array NE,q=e.toList/\pY a M c e) ?_ ?_) (λq1=>s3 c c U f (o (by omega)));refine PT.dec (λq2=>?_) (λq2=>PT.some ⟨c,rfl,o (by omega)⟩);have hr:=O c a r M (by omega) (by omega) (by omega) (by omega) ad al;refine PT.bind (P:=λq=> ∃e:Array NE,q=e.toList/\pY a M c e) ⟨λt=>hr.1 (by omega),hr.2⟩ ?_;rintro q ⟨e,rfl,D⟩;exact FY (by rw[DM,DM,D.1.1]) (PT.some ⟨e,rfl,D⟩);rintro q ⟨e,rfl,D⟩;exact s3 c e U f D
 have Z:r=m\/E=m-> ∀k,k<d.size->d[k]! =pJ r m E d k:=λh k hk=>by rcases Ap k r with q1|q1;rw[SS (by omega) (by omega) (by omega)];rcases Ap k (r+(E-m))with q2|q2;rw[da q1 q2];exact jf (by omega);rcases Ap k E with q3|q3;rw[g9 q2 q3];exact jf (by omega);rw[SS (by omega) (by omega) (by omega)]
 refine PT.dec (λq1=>PT.bind (P:=λq=> ∃e:Array NE,q=e.toList/\Sort.PermIn a b d e/\ ∀k,k<d.size->e[k]! =pJ r m E d k) ?_ ?_) (λq1=>s2 d (Sort.permIn_refl _ _ _) (Z (by omega)));refine PT.dec (λq2=>PT.bind (dG (vK (d:=d) (a:=r) (m:=m) (b:=E) (by omega) (by omega) (by omega) hd)) ?_) (λq2=>PT.some ⟨d,rfl,Sort.permIn_refl _ _ _,Z (by omega)⟩);rintro q ⟨e,rfl,z,D⟩;exact FY (by rw[DM,DM,z]) (PT.some ⟨e,rfl,Sort.permIn_mono _ _ r E a b (by omega) (by omega) hb (zX (by omega) (by omega) (by omega) z D),D⟩);rintro q ⟨e,rfl,p,D⟩;exact s2 e p D
def ABJ(n:Nat)(p:List NE×(Int×(Int×Int))):dE (λg (p:List NE×(Int×(Int×Int)))=>BG g p.1 p.2) (n+1) p=BG (dE (λg (p:List NE×(Int×(Int×Int)))=>BG g p.1 p.2) n) p.1 p.2:=rfl
def tC: ∀(N:Nat) (d:Array NE) (a m b:Nat),a<m→m<b→b≤d.size→d.size≤16777216→Sort.SortedIn lN a m d→Sort.SortedIn lN m b d→
  PT (b-a<=N) (dE (λg (p:List NE×(Int×(Int×Int)))=>BG g p.1 p.2) N (d.toList,((a:Int),((m:Int),(b:Int))))) λr=> ∃e:Array NE,r=e.toList/\pY a b d e
 |0,d,a,m,b,h1,h2,h3,h4,h5,h6=>⟨λt=>absurd t (by omega),λr e=>by cases e⟩
 |N+1,d,a,m,b,h1,h2,h3,h4,h5,h6=>by rw[ABJ];exact ACi h1 h2 h3 h4 h5 h6 (tC N)
def AAE{d:Array NE}{a m b:Nat}(c:a<m)(f:m<b)(g:b≤d.size)(h:d.size≤16777216)(i:Sort.SortedIn lN a m d)(j:Sort.SortedIn lN m b d):
  Ay (Ct d.toList ((a:Int),((m:Int),(b:Int)))) λr=> ∃e:Array NE,r=e.toList/\pY a b d e:=by
 obtain⟨r,hr⟩:=(tC (b-a) d a m b c f g h i j).1 (Ak _);obtain⟨s,k⟩:=aX hr;obtain⟨N,l⟩:=Y0 k;exact⟨s,k,(tC N d a m b c f g h i j).2 s l⟩
def Mul(s a:Nat):Prop:= ∃k,a=k*s
def Mul.zero{s:Nat}:Mul s 0:=⟨0,by simp⟩
def Mul.add{s a:Nat}(h:Mul s a):Mul s (a+s):=by obtain⟨k,rfl⟩:=h;exact⟨k+1,by grind⟩
def Mul.half{s a:Nat}(h:Mul (2*s) a):Mul s a:=by obtain⟨k,rfl⟩:=h;exact⟨k*2,by grind⟩
def Mul.lt{s a b:Nat}(c:Mul s a)(d:Mul s b)(h:a<b):a+s<=b:=by obtain⟨k,rfl⟩:=c;obtain⟨j,rfl⟩:=d;have:k<j:=Nat.lt_of_mul_lt_mul_right h;have:=O8 s (Nat.succ_le_of_lt this);grind
def Ww{a b c:Nat}{d:Array NE}(h:Sort.SortedIn lN a b d)(i:c<=b):Sort.SortedIn lN a c d:=λx y e f g=>h x y e f (by omega)
def Tt{a b x y:Nat}{d e:Array NE}(h:Sort.SortedIn lN a b d)(c:Sort.PermIn x y d e)(l:b<=x\/y<=a):Sort.SortedIn lN a b e:=λi j f g k=>by rw[c.2.1 i (by omega),c.2.1 j (by omega)];exact h i j f g k
def Blk(s n:Nat)(d:Array NE):Prop:= ∀a b,Mul s a->b<=a+s->b<=n->Sort.SortedIn lN a b d
theorem vR{d0:Array NE}{n:Nat}(hn:n=d0.size)(hd:n<=1048576):Ay (C0 d0.toList (n:Int)) λr=> ∃e:Array NE,r=e.toList/\pY 0 n d0 e:=by
 unfold C0;refine AB (P:=λ(r:Int×List NE)=> ∃(a:Nat) (d:Array NE),r.1=a/\r.2=d.toList/\a<=n/\n<a+20/\Mul 20 a/\Sort.PermIn 0 n d0 d/\ ∀c,Mul 20 c->c<a->Sort.SortedIn lN c (c+20) d) ?_ ?_;refine AM (λ(s:Int×(Int×List NE))=> ∃(a:Nat) (d:Array NE),s.1=a/\s.2.1=((a+20:Nat):Int)/\s.2.2=d.toList/\a<=n/\Mul 20 a/\Sort.PermIn 0 n d0 d/\ ∀c,Mul 20 c->c<a->Sort.SortedIn lN c (c+20) d) (λs=>n-s.1.toNat) ⟨0,d0,rfl,rfl,rfl,B7 _,Mul.zero,Sort.permIn_refl _ _ _,λc _ h=>absurd h (by omega)⟩ ?_;rintro⟨Y,Z,s3⟩ ⟨a,d,q1,q2,q3,q4,q5,q6,q7⟩;dsimp only at q1 q2 q3;subst q1 q2 q3;have hz:d.size=n:=by rw[q6.1,hn]
 unfold Fm;dsimp only;refine AC (λO=>?_) (λO=>AA ⟨a,d,rfl,rfl,q4,by omega,q5,q6,q7⟩);have z:=Sort.insertionSort_holds md d a (a+20) (by omega) (by omega);rw[tn (d:=d) (k:=a) (m:=a+20) rfl rfl (by omega) (by omega) (by omega),AI];have l:Nat.beq (List.length (Sort.insertionSort lN d a (a+20)).toList) (List.length d.toList)=true:=by rw[DM,DM,z.1.1];exact HY _
 have e1:wi (((a+20:Nat):Int)+20)=((a+20+20:Nat):Int):=by rw[Oy (by omega)];omega
 rw[l,cond_true,e1];refine AA ⟨⟨a+20,_,rfl,rfl,rfl,by omega,q5.add,Sort.permIn_trans _ _ _ _ _ q6 (Sort.permIn_mono _ _ a (a+20) 0 n (by omega) (by omega) (by omega) z.1),λc g w=>?_⟩,?_⟩;rcases Ap c a with i|i;exact Tt (q7 c g i) z.1 (.inl (g.lt q5 i));have:c=a:=by rcases Ap a c with j|j;have:=q5.lt g j;omega;omega
 rw[this];exact z.2;show n-((a+20:Nat):Int).toNat<n-((a:Nat):Int).toNat
 omega;rintro⟨r1,r2⟩ ⟨a,d,q1,q2,q3,q4,q5,q6,q7⟩;dsimp only at q1 q2;subst q1 q2;have hz:d.size=n:=by rw[q6.1,hn]
 dsimp only;have z:=Sort.insertionSort_holds md d a n q3 (by omega);rw[tn (d:=d) (k:=a) (m:=n) rfl rfl (by omega) (by omega) (by omega),AI];have l:Nat.beq (List.length (Sort.insertionSort lN d a n).toList) (List.length d.toList)=true:=by rw[DM,DM,z.1.1];exact HY _
 rw[l,cond_true];have C:Sort.PermIn 0 n d0 (Sort.insertionSort lN d a n):=Sort.permIn_trans _ _ _ _ _ q6 (Sort.permIn_mono _ _ a n 0 n (by omega) (by omega) (by omega) z.1);have u:Blk 20 n (Sort.insertionSort lN d a n):=λc o g w i=>by rcases Ap c a with j|j;exact Ww (Tt (q7 c g j) z.1 (.inl (g.lt q5 j))) w;rcases Ap a c with E|E;have:=q5.lt g E;exact λx y H I J=>absurd J (by omega);rw[show c=a by omega];exact Ww z.2 i
 revert C u;generalize Sort.insertionSort lN d a n=d1;intro C u;refine AB (P:=λr=> ∃e:Array NE,r=e.toList/\pY 0 n d0 e) (AM (λ(s:Int×List NE)=> ∃(t:Nat) (e:Array NE),s.1=t/\s.2=e.toList/\1<=t/\t<=2097172/\Sort.PermIn 0 n d0 e/\Blk t n e) (λs=>n-s.1.toNat) ⟨20,d1,rfl,rfl,by omega,by omega,C,u⟩ ?_) λr h=>AA h;rintro⟨Y,Z⟩ ⟨t,e,H,I,J,g4,V,W⟩;dsimp only at H I;subst H I;unfold Fo;dsimp only;refine AC (λO=>?_) (λO=>AA ⟨e,rfl,V,W 0 n Mul.zero (by omega) (Ak _)⟩);have U:wi (2*(t:Int))=((2*t:Nat):Int):=by rw[Oy (by omega)];omega
 have e3:wi ((t:Int)*2)=((2*t:Nat):Int):=by rw[Oy (by omega)];omega
 rw[U,e3];refine AB (P:=λ(r:Int×List NE)=> ∃(a:Nat) (f:Array NE),r.1=a/\r.2=f.toList/\a<=n/\n<a+2*t/\Mul (2*t) a/\Sort.PermIn 0 n d0 f/\(∀c,Mul (2*t) c->c<a->Sort.SortedIn lN c (c+2*t) f)/\ ∀c o,Mul t c->a<=c->o<=c+t->o<=n->Sort.SortedIn lN c o f) ?_ ?_;refine AM (λ(s:Int×(Int×List NE))=> ∃(a:Nat) (f:Array NE),s.1=a/\s.2.1=((a+2*t:Nat):Int)/\s.2.2=f.toList/\a<=n/\Mul (2*t) a/\Sort.PermIn 0 n d0 f/\(∀c,Mul (2*t) c->c<a->Sort.SortedIn lN c (c+2*t) f)/\ ∀c o,Mul t c->a<=c->o<=c+t->o<=n->Sort.SortedIn lN c o f) (λs=>n-s.1.toNat)
  ⟨0,e,rfl,by simp,rfl,B7 _,Mul.zero,V,λc _ h=>absurd h (by omega),λc o g _ w i=>W c o g w i⟩ ?_
 rintro⟨Y,Z,s3⟩ ⟨a,f,k1,G,T,X,p,D,K,B⟩;dsimp only at k1 G T;subst k1 G T;have S:f.size=n:=by rw[D.1,hn]
 unfold Fp;dsimp only;refine AC (λQ=>?_) (λQ=>AA ⟨a,f,rfl,rfl,X,by omega,p,D,K,B⟩);have N:wi ((a:Int)+(t:Int))=((a+t:Nat):Int):=by rw[Oy (by omega)];omega
 have e5:wi (((a+2*t:Nat):Int)+((2*t:Nat):Int))=((a+2*t+2*t:Nat):Int):=by rw[Oy (by omega)];omega
 rw[N,U,e5];refine AB (AAE (d:=f) (a:=a) (m:=a+t) (b:=a+2*t) (by omega) (by omega) (by omega) (by omega) (B a (a+t) p.half (Ak _) (Ak _) (by omega)) (B (a+t) (a+2*t) p.half.add (by omega) (by omega) (by omega))) ?_;rintro r ⟨q,rfl,v,F⟩;have l:Nat.beq (List.length q.toList) (List.length f.toList)=true:=by rw[DM,DM,v.1];exact HY _
 rw[l,cond_true];refine AA ⟨⟨a+2*t,q,rfl,rfl,rfl,by omega,p.add,Sort.permIn_trans _ _ _ _ _ D (Sort.permIn_mono _ _ a (a+2*t) 0 n (by omega) (by omega) (by omega) v),λc g w=>?_,λc o g w i j=>Tt (B c o g (by omega) i j) v (.inr w)⟩,?_⟩;rcases Ap c a with i|i;exact Tt (K c g i) v (.inl (g.lt p i));have:c=a:=by rcases Ap a c with j|j;have:=p.lt g j;omega;omega
 rw[this];exact F;show n-((a+2*t:Nat):Int).toNat<n-((a:Nat):Int).toNat
 omega;rintro⟨v1,v2⟩ ⟨a,f,k1,G,T,X,p,D,K,B⟩;dsimp only at k1 G;subst k1 G;have S:f.size=n:=by rw[D.1,hn]
 dsimp only;have N:wi ((a:Int)+(t:Int))=((a+t:Nat):Int):=by rw[Oy (by omega)];omega
 rw[N];have A: ∀q:Array NE,Sort.PermIn a n f q->Sort.SortedIn lN a n q->(∃(L:Nat) (M:Array NE),((2*t:Nat):Int)=L/\q.toList=M.toList/\1<=L/\L<=2097172/\Sort.PermIn 0 n d0 M/\Blk L n M)/\n-((2*t:Nat):Int).toNat<n-((t:Nat):Int).toNat:=λq v F=>by refine⟨⟨2*t,q,rfl,rfl,by omega,by omega,Sort.permIn_trans _ _ _ _ _ D (Sort.permIn_mono _ _ a n 0 n (by omega) (by omega) (by omega) v),λc o g w i=>?_⟩,by omega⟩;rcases Ap c a with j|j;exact Ww (Tt (K c g j) v (.inl (g.lt p j))) w;rcases Ap a c with E|E;have:=p.lt g E;exact λx y H I J=>absurd J (by omega);rw[show c=a by omega];exact Ww F i
 refine AC (λR=>AB (AAE (d:=f) (a:=a) (m:=a+t) (b:=n) (by omega) (by omega) (by omega) (by omega) (B a (a+t) p.half (Ak _) (Ak _) (by omega)) (B (a+t) n p.half.add (by omega) (by omega) (Ak _))) ?_) (λR=>AA (A f (Sort.permIn_refl _ _ _) (B a n p.half (Ak _) (by omega) (Ak _))));rintro r ⟨q,rfl,v,F⟩;have l:Nat.beq (List.length q.toList) (List.length f.toList)=true:=by rw[DM,DM,v.1];exact HY _
 rw[l,cond_true];exact AA (A q v F)
def zh{l:List NE}(h:l.length<=1048576):Ay (Bq l ()) λr=>r.Perm l/\r.Pairwise λx y=>lN y x=false:=by
 unfold Bq;apply AB (vR (d0:=l.toArray) (n:=l.length) (by simp) h);rintro r ⟨R,rfl,d,f⟩;have e:R.size=l.length:=by rw[d.1];simp
 have g:Nat.beq (List.length R.toList) (List.length l)=true:=by simp[e]
 rw[g,cond_true];refine AA ⟨?_,?_⟩;have:=d.2.2;rw[show R.extract 0 l.length=R by rw[<-e];exact gD,show l.toArray.extract 0 l.length=l.toArray by rw[show l.length=l.toArray.size by simp];exact gD]at this;exact this;rw[JL];intro i j k m b;have a:i<R.size:=by simpa using k
 have c:j<R.size:=by simpa using m
 have:=f i j (B7 _) b (by omega);rw[getElem!_pos R j c,getElem!_pos R i a]at this;simpa using this
def yC(l:List NE):Prop:= ∀x∈l,∀y∈l,x≠y->x.1.2.2.1=y.1.2.2.1->x.1.2.1<y.1.1\/y.1.2.1<x.1.1
theorem za{O a:List NE}(X:O.length=a.length)(H:a.length≤256)(J: ∀e∈a,1≤e.1.1∧e.1.1≤e.1.2.1∧e.1.2.1≤1099511627776∧0≤e.1.2.2.1)(Q:a.Pairwise λx y=>lN y x=false)(hn:a.Nodup)(P:yC a):
  Ay (Ad (Nv O a) (0,((-1),(0,([],[]))))) λr=>r=(a.map (·.1),a.map (·.2)):=by
 refine AM (λ(s:Int×(Int×(Int×(List AU×List Int))))=> ∃k:Nat,s.1=k/\k<=a.length/\s.2.2.2=((a.take k).map (·.1),(a.take k).map (·.2))/\((k=0/\s.2.1= -1)\/ ∃e,0<k/\a[k-1]? =some e/\s.2.1=e.1.2.2.1/\s.2.2.1=e.1.2.1)) (λs=>a.length-s.1.toNat) ⟨0,rfl,B7 _,rfl,.inl ⟨rfl,rfl⟩⟩ ?_;rintro⟨Z,S,s3,s4⟩ ⟨k,q1,q2,q3,q4⟩;dsimp only at q1 q3 q4;subst q1 q3;unfold Nv;dsimp only;refine AC (λz=>?_) (λz=>AA ?_)
 ·simp only[len]at z;refine AB (AE (by omega) (by omega)) λv8 _=>?_;refine AB (AE (by omega) (by omega)) λv h=>?_;have A:a[k]? =some v:=by simpa using h.1
  obtain⟨T,U,V,W⟩:=J v h.2;have D:a.take (k+1)=a.take k++[v]:=by rw[D5,A];rfl
  have Y:(a.take k).length<=256:=by rw[CH];omega
  have l: ∀E:Int,E=v.1.2.2.1→Ay (Option.bind (app ((a.take k).map (·.1)) [v.1]) λg=>Option.bind (app ((a.take k).map (·.2)) [v.2]) λi=>some (Step.next (wi ((k:Int)+1),(E,(v.1.2.1,(g,i)))))) λ(f:Step (Int×(Int×(Int×(List AU×List Int)))) (List AU×List Int))=>match f with
    | .next j=>(∃d:Nat,j.1=d/\d<=a.length/\j.2.2.2=((a.take d).map (·.1),(a.take d).map (·.2))/\((d=0/\j.2.1= -1)\/ ∃e,0<d/\a[d-1]? =some e/\j.2.1=e.1.2.2.1/\j.2.2.1=e.1.2.1))/\a.length-j.1.toNat<a.length-((k:Nat):Int).toNat
    | .done r=>r=(a.map (·.1),a.map (·.2)):=λE B=>by
   refine AB (Ac (by simp;omega)) λg u=>?_;refine AB (Ac (by simp;omega)) λi w=>AA ⟨⟨k+1,?_,by omega,?_,.inr ⟨v,by omega,by rw[fL];exact A,B,rfl⟩⟩,?_⟩;show wi ((k:Int)+1)=_;rw[kf (by omega)];show(g,i)=_;rw[u.1,w.1,D,Nh,Nh];rfl;show a.length-(wi ((k:Int)+1)).toNat<a.length-((k:Nat):Int).toNat
   rw[kf (by omega)];omega
  have b: ∀n:Int,n<v.1.1->Mx (v.1,n)=some v.1:=λn hn=>by unfold Mx;have:decide (v.1.1>n)=true:=decide_eq_true hn;dsimp only;rw[this,cond_true]
  refine AL (λo=>?_) (λc=>?_);refine AC (λt=>absurd t (by omega)) (λ_=>?_);rw[b 0 (by omega),AI];obtain⟨f,F,G⟩:=l v.1.2.2.1 rfl;exact⟨f,F,by cases f<;>exact G⟩;rcases q4 with⟨_,q4⟩|⟨e,q5,q6,q7,q8⟩;exact absurd (c.trans q4) (by omega);have C:e.1.2.1<v.1.1:=by
   have I:=BJ q6;obtain⟨K,L⟩:=TB.1 q6;obtain⟨M,N⟩:=TB.1 A;have o:e≠v:=λq=>by have:=(JL.1 (Nm.1 hn)) (k-1) k K M (by omega);rw[L,N]at this;exact this q
   have p:=(JL.1 Q) (k-1) k K M (by omega);rw[L,N]at p;have R:=J e I;have m:e.1.2.2.1=v.1.2.2.1:=by rw[<-q7];exact c.symm
   rcases P e I v h.2 o m with q|q;exact q;simp only[lN,decide_eq_false_iff_not]at p;omega
  rw[q8];refine AC (λt=>absurd t (by omega)) (λ_=>?_);rw[b _ C,AI];obtain⟨f,F,G⟩:=l S c.symm;exact⟨f,F,by cases f<;>exact G⟩
 simp only[len]at z;rw[Cb (by omega)]
noncomputable def intR(a:AK)(f:BL):Option NE:=
 match Gi (a,f)with
 |some (r,true)=>some (r,f.2.1)
 |_=>none
noncomputable def E4(a:AK):List NE:=a.2.2.1.filterMap (intR a)
def zZ{x:AK}(h:VB x)(t:DS x):Ay (Ad (Nu x) (0,[])) λr=>r=E4 x/\r.length<=256/\ ∀e∈r,X7 e.1:=by
 obtain⟨⟨v,w,y,n,z,A,B⟩,a1,a2,a3,a4,a5,a6⟩:=id h;refine AM (λ(s:Int×NL)=>0<=s.1/\s.1<=x.2.2.1.length/\s.2.length<=s.1/\(∀e∈s.2,X7 e.1)/\s.2=(x.2.2.1.take s.1.toNat).filterMap (intR x)) (λ(s:Int×NL)=>((x.2.2.1.length:Int)-s.1).toNat) ⟨Ae _,by dsimp only;omega,by simp,λe a=>by simp at a,by simp⟩ (λs q=>?_);obtain⟨u,C,D,j,k⟩:=q;unfold Nu;refine AC (λf=>?_) (λf=>AA ⟨?_,by omega,j⟩);simp only[len]at f;have e:=AW (x:=s.1+1);rw[e];refine AB (AE u f) λg m=>?_;have c:x.2.2.1.take (s.1+1).toNat=x.2.2.1.take s.1.toNat++[g]:=by rw[show(s.1+1).toNat=s.1.toNat+1 by omega,D5,m.1];rfl
 refine EM (eS n (t _ m.2)) λl d p=>?_;refine AF (λb=>?_) (λb=>AA ⟨⟨by dsimp only;omega,by dsimp only;omega,by dsimp only;omega,j,?_⟩,by dsimp only;omega⟩);have hr:intR x g=some (l.1,g.2.1):=by unfold intR;rw[d];obtain⟨r,o⟩:=l;dsimp only at b;subst b;rfl
 refine AB (Ac (by simp;omega)) λE i=>AA ⟨⟨by dsimp only;omega,by dsimp only;omega,?_,λe a=>?_,?_⟩,by dsimp only;omega⟩;have:=i.2.1;simp only[BV,Bt]at this;dsimp only;omega;dsimp only at a;rw[i.1]at a;rcases Ar.1 a with a|a;exact j e a;rw[A3.1 a];exact p b;dsimp only;rw[c,nH,i.1,k];simp[hr];have hr:intR x g=none:=by unfold intR;rw[d];obtain⟨r,o⟩:=l;dsimp only at b;subst b;rfl
 dsimp only;rw[c,nH,k];simp[hr];simp only[len]at f;rw[k,Cb (by omega)];rfl
def AAW{x:AK}(h:VB x)(m:DS x)(hn:(E4 x).Nodup)(b:yC (E4 x)):Ay (G3 x) λr=> ∃v:List NE,v.Perm (E4 x)/\(v.Pairwise λp q=>lN q p=false)/\r=(v.map (·.1),v.map (·.2))/\v.length<=256/\ ∀e∈v,X7 e.1:=by
 unfold G3;refine AB (J1 h) λt j=>?_;rw[j,Ea,cond_false];refine AB (zZ h m) λu k=>?_;obtain⟨rfl,g,s⟩:=k;refine AB (zh (by omega)) λf a=>?_;have i:=a.1.length_eq;have l:Nat.beq (List.length f) (List.length (E4 x))=true:=by rw[i];exact HY _
 rw[l,cond_true];have c: ∀e∈f,X7 e.1:=λe d=>s e (a.1.mem_iff.1 d);refine AB (za i.symm (by omega) (λe d=>?_) a.2 (a.1.nodup_iff.2 hn) (λp n q o=>b p (a.1.mem_iff.1 n) q (a.1.mem_iff.1 o))) λr hr=>AA ⟨f,a.1,a.2,hr,by omega,c⟩;have:=c e d;exact⟨this.1,this.2.1,this.2.2.1,this.2.2.2.1⟩
def pq(l:List (Int×Int))(n:Int):Prop:= ∃s∈l,s.1<=n/\n<=s.2
def wV{l:List (Int×Int)}{u b:Int}(p:l.length<=16777216):Ay (Ad (Nw (l,u)) (0,b)) λr=>(∀q,r= .inl q->0<=q.1/\q.1<l.length/\q.2=b/\ ∀e,l[q.1.toNat]? =some e->e.1<=b/\b<=e.2)/\(∀q,r= .inr q->q=b/\ ¬pq l b):=by refine AM (λ(s:Int×Int)=>0<=s.1/\s.1<=l.length/\s.2=b/\ ∀e∈l.take s.1.toNat,¬(e.1<=b/\b<=e.2)) (λ(s:Int×Int)=>((l.length:Int)-s.1).toNat) ⟨Ae _,by dsimp only;omega,rfl,by simp⟩ (λt n=>?_);obtain⟨k,v,m,g⟩:=n;unfold Nw;refine AC (λd=>?_) (λd=>AA ⟨λu c=>(by cases c),λu c=>?_⟩);simp only[len]at d;have e:=AW (x:=t.1+1);rw[e];refine AB (AE k d) λw h=>?_;unfold Om;rw[has_eq,AI,AI,m];refine AF (λf=>AA ⟨λu c=>?_,λu c=>(by cases c)⟩) (λi=>AA ⟨⟨by dsimp only;omega,by dsimp only;omega,rfl,λe a=>?_⟩,by dsimp only;omega⟩);cases c;refine⟨k,d,rfl,λe a=>?_⟩;dsimp only at a;rw[h.1]at a;injection a with a;subst a;unfold Of at f;simp only[BO,decide_eq_true_eq]at f;exact f;dsimp only at a;rw[show(t.1+1).toNat=t.1.toNat+1 by omega,D5,h.1]at a;rcases Ar.1 a with a|a;exact g e a;rw[Jz,A3]at a;subst a;intro j;unfold Of at i;simp only[Bool.and_eq_false_iff,decide_eq_false_iff_not]at i;omega;cases c;simp only[len]at d;rw[Cb (by omega)]at g;exact⟨m,by rw[show pq l b↔ ∃s∈l,s.1<=b/\b<=s.2 from Iff.rfl];rintro⟨s,o,j⟩;exact g s o j⟩
def sE{l:List (Int×Int)}{u:Int}(h:SpL l)(w:0<=u)(A:u<=1099511627776):Ay (G4 (l,u)) λr=>0<=r/\r<=u/\(∀n,r<n->n<=u->pq l n)/\(r=0\/ ¬pq l r):=by obtain⟨a1,a2⟩:=h;unfold G4;refine AB (P:=λr=>0<=r/\r<=u/\(∀n,r<n->n<=u->pq l n)/\(r=0\/ ¬pq l r)) ?_ λr hr=>AA hr;refine AM (λ(s:Int)=>0<=s/\s<=u/\ ∀n,s<n->n<=u->pq l n) (λ(s:Int)=>s.toNat) ⟨w,Ae _,λn k m=>by dsimp only at k;omega⟩ (λs v=>?_);obtain⟨p,t,g⟩:=v;unfold Q5;refine AB (wV (b:=s) a1) λr hr=>?_;refine A2 (λq f=>?_) (λq f=>?_);obtain⟨i,j,y,z⟩:=hr.1 q f;refine AC (λd=>absurd d (by omega)) (λ_=>?_);refine AC (λd=>AA ?_) (λB=>?_);rw[y]at d⊢;exact⟨p,t,g,.inl (by omega)⟩;refine AB (AE i j) λa c=>?_;have q1:=z a c.1;have q2:=a2 a c.2;have e:=AW (x:=a.1-1);rw[e];refine AA ⟨⟨by omega,by omega,λn k m=>?_⟩,by omega⟩;rcases dj s n with o|o;exact g n o m;exact⟨a,c.2,by omega⟩;obtain⟨i,j⟩:=hr.2 q f;rw[i];exact AA ⟨p,t,g,.inr j⟩
def oC{x:AK}(h:VB x):((E4 x).map (·.2)).Pairwise (· < ·):=by
 have p:x.2.2.1.Pairwise λf g=>f.2.1<g.2.1:=by
  have k:=h.2.2.2.2.2.2.2;rw[JL];have step: ∀n i:Nat,∀(b:i<x.2.2.1.length) (c:i+1+n<x.2.2.1.length),(x.2.2.1[i]).2.1<(x.2.2.1[i+1+n]).2.1:=by
   intro n;induction n with
   |zero=>intro i b c;exact k i _ _ (by omega) (Az b) (Az c)
   |succ n r=>intro i b c;have l:=r i b (by omega);have m:=k (i+1+n) _ _ (by omega) (Az (by omega)) (Az c);exact Int.lt_trans l m
  intro i j b c o;have:=step (j-(i+1)) i b (by omega);have e:i+1+(j-(i+1))=j:=by omega
  simp only[e]at this;exact this
 unfold E4;rw[S5,List.pairwise_filterMap];refine p.imp λ{f g} d y a z q=>?_;have one: ∀(f:BL) (y:NE),intR x f=some y->y.2=f.2.1:=λf y a=>by unfold intR at a;split at a;injection a with a;rw[<-a];cases a
 rw[one f y a,one g z q];exact d
def Tp{x:AK}(h:VB x):(E4 x).Nodup:=by have:=oC h;rw[S5]at this;exact Nm.2 (this.imp λh e=>by rw[e]at h;omega)
def ABy{a:AK}{l:Aj}{p i j:Int}{Q:List (Int×Int)}{d:Int×Int}{r:AU}{W:List (Int×EN)}{u:Int}{P:EN→Prop}(hr:r.2.2.2.2.2.length≤4096)(Y:Q[0]? =some d)(hm:Oz W P)(hn:0≤u∧u≤1099511627776)
  (S: ∀v∈r.2.2.2.2.2,LG p i j v=true->(Of d v.1=true->P v)/\ ∀e,(P e\/(e∈r.2.2.2.2.2/\LG p i j e=true))->e.1=v.1->e=v):
  Ay (Ad (T2 (a,(l,(p,(i,j)))) Q r) (0,(W,(u,([],0))))) λq=> ∃m n,q= .inl (m,(n,([],0)))/\Oz m (λe=>P e\/(e∈r.2.2.2.2.2/\LG p i j e=true))/\n=u+((r.2.2.2.2.2.filter λe=>LG p i j e&&Of d e.1).length:Int):=by
 generalize hL:r.2.2.2.2.2=L at hr S⊢;refine AM (λ(s:Int×(List (Int×EN)×(Int×(List EN×Int))))=>0<=s.1/\s.1<=L.length/\s.2.2.2=([],0)/\s.2.2.1=u+(((L.take s.1.toNat).filter λe=>LG p i j e&&Of d e.1).length:Int)/\Oz s.2.1 λe=>P e\/(e∈L.take s.1.toNat/\LG p i j e=true)) (λs=>((L.length:Int)-s.1).toNat)
  ⟨Ae _,by dsimp only;omega,rfl,by simp,hm.congr λe=>by simp⟩ (λs Z=>?_)
 obtain⟨c,E,F,s4⟩:=s;obtain⟨U,i2,V,C,z⟩:=Z;dsimp only at U i2 V C z;subst V;unfold T2;dsimp only;rw[hL];refine AC (λf=>?_) (λf=>AA ?_);simp only[len]at f;have X:=AW (x:=c+1);rw[X];refine AB (AE U f) λv R=>?_;rw[lL,AI];have o:L.take (c+1).toNat=L.take c.toNat++[v]:=by rw[show(c+1).toNat=c.toNat+1 by omega,D5,R.1];rfl
 have k:LG p i j v=false->(0<=c+1/\c+1<=L.length/\(([],0):List EN×Int)=([],0)/\F=u+(((L.take (c+1).toNat).filter λe=>LG p i j e&&Of d e.1).length:Int)/\Oz E λe=>P e\/(e∈L.take (c+1).toNat/\LG p i j e=true))/\((L.length:Int)-(c+1)).toNat<((L.length:Int)-c).toNat:=λy=>by
  refine⟨⟨by omega,by omega,rfl,?_,?_⟩,by omega⟩;rw[o,Jp,C];simp[y];rw[o];refine z.congr λe=>⟨?_,?_⟩
  rintro(h|h);exact .inl h;exact .inr ⟨Ar.2 (.inl h.1),h.2⟩;rintro(h|⟨h,w⟩);exact .inl h;rcases Ar.1 h with h|h;exact .inr ⟨h,w⟩;rw[A3.1 h,y]at w;cases w
 refine AF (λG=>?_) (λG=>AA (k (by simp[LG,G])));refine AF (λH=>?_) (λH=>AA (k (by simp[LG,H])));refine AF (λI=>?_) (λI=>AA (k (by unfold LG;rw[I];simp)));refine AO (λJ=>AA (k (by unfold LG;rw[J];simp))) (λJ=>?_);have y:LG p i j v=true:=by unfold LG;rw[G,H,I,J];rfl
 have O:ix Q 0=some d:=by unfold ix;rw[if_pos (Ae _)];exact Y
 rw[O,AI,has_eq,AI];obtain⟨M,A⟩:=S v R.2 y;have t:Oz (Se v.1 v E) λe=>P e\/(e∈L.take (c+1).toNat/\LG p i j e=true):=by
  rw[o];refine z.put.congr λe=>⟨?_,λh=>?_⟩
  rintro(rfl|⟨h|h,_⟩);exact .inr ⟨Ar.2 (.inr (A3.2 rfl)),y⟩;exact .inl h;exact .inr ⟨Ar.2 (.inl h.1),h.2⟩;by_cases g:e=v;exact .inl g;rcases h with h|⟨h,w⟩;exact .inr ⟨.inl h,λN=>g (A e (.inl h) N)⟩;rcases Ar.1 h with h|h;exact .inr ⟨.inr ⟨h,w⟩,λN=>g (A e (.inr ⟨Jy h,w⟩) N)⟩;exact absurd (A3.1 h) g
 have T:(((L.take c.toNat).filter λe=>LG p i j e&&Of d e.1).length:Int)<=4096:=by have h1:=LC (λe=>LG p i j e&&Of d e.1) (L.take c.toNat);have h3:=List.length_take_le' c.toNat L;omega
 have K:=AW (x:=F+1);rw[K];have B: ∀b:Bool,Of d v.1=b->u+((((L.take (c+1).toNat).filter λe=>LG p i j e&&Of d e.1).length:Nat):Int)=F+(if b=true then 1 else 0):=λb hb=>by rw[o,Jp,Ag,C];cases b<;>simp[y,hb]<;>omega
 refine AF (λD=>?_) (λD=>AA ⟨⟨by dsimp only;omega,by dsimp only;omega,rfl,?_,t⟩,by dsimp only;omega⟩);have hg:PV v.1 E=some v:=z.get (.inl (M D));rw[hg];simp only[Option.isSome_some,Ea,cond_false,fO,beq_self_eq_true,PY];refine AA ⟨⟨by dsimp only;omega,by dsimp only;omega,rfl,?_,t⟩,by dsimp only;omega⟩;rw[B true D];rfl;rw[B false D];simp;simp only[len]at f;rw[Cb (by omega)]at C z;exact⟨E,F,rfl,z,C⟩
def JS(low:Int)(rs:List AU):List EN:=(rs.filter λr=>r.2.2.1==low).flatMap λr=>r.2.2.2.2.2
def ABx{a:AK}{l:Aj}{p i j:Int}{Z:List (Int×Int)}{sp:Int×Int}{b:Int×(Int×Bool)}{c:List AU}{F:List Int}{Y:List (Int×EN)}{P:EN→Prop}(h0:Z[0]? =some sp)(hm:Oz Y P)
  (U:c.length=F.length) (T:c.length<=256) (hr: ∀r∈c,r.2.2.2.2.2.length<=4096)
  (hc: ∀v∈JS b.1 c,LG p i j v=true->(Of sp v.1=true->P v)/\ ∀e,(P e\/(e∈JS b.1 c/\LG p i j e=true))->e.1=v.1->e=v):
  Ay (Ad (T1 (a,(l,(p,(i,j)))) Z b (c,F)) (0,(Y,(0,([],0))))) λq=> ∃m n,q= .inl (m,(n,([],0)))/\Oz m (λe=>P e\/(e∈JS b.1 c/\LG p i j e=true))/\n=(((JS b.1 c).filter λe=>LG p i j e&&Of sp e.1).length:Int):=by
 have C: ∀k:Nat,(JS b.1 (c.take k)).length<=k*4096:=by
  intro k;induction k with
  |zero=>simp[JS]
  |succ k X=>
   rw[D5];unfold JS at X⊢;rw[Jp,YI,Ag,fN];apply Nat.add_le_add X;cases hk:c[k]? with
   |none=>exact B7 _
   |some r=>have:=hr r (BJ hk);by_cases V:(r.2.2.1==b.1)=true;rw[Jz,iP (by exact V),YH,I0,iQ,Dn];exact this;rw[Jz,iO (by exact V),YH];exact B7 _
 refine AM (λ(s:Int×(List (Int×EN)×(Int×(List EN×Int))))=>0<=s.1/\s.1<=c.length/\s.2.2.2=([],0)/\s.2.2.1=(((JS b.1 (c.take s.1.toNat)).filter λe=>LG p i j e&&Of sp e.1).length:Int)/\Oz s.2.1 λe=>P e\/(e∈JS b.1 (c.take s.1.toNat)/\LG p i j e=true)) (λs=>((c.length:Int)-s.1).toNat)
  ⟨Ae _,by dsimp only;omega,rfl,by simp[JS],hm.congr λe=>by simp[JS]⟩ (λs hI=>?_)
 obtain⟨d,s2,S,s4⟩:=s;obtain⟨R,i2,W,D,E⟩:=hI;dsimp only at R i2 W D E;subst W;unfold T1;dsimp only;refine AC (λo=>?_) (λo=>AA ?_);simp only[len]at o;have ew:=AW (x:=d+1);rw[ew];refine AB (AE R o) λv G=>?_;have t:c.take (d+1).toNat=c.take d.toNat++[v]:=by rw[show(d+1).toNat=d.toNat+1 by omega,D5,G.1];rfl
 refine AF (λB=>?_) (λB=>AA ⟨⟨by dsimp only;omega,by dsimp only;omega,rfl,?_,?_⟩,by dsimp only;omega⟩);refine AB (AE R) λad _=>?_;have u: ∀e∈v.2.2.2.2.2,e∈JS b.1 c:=λe g=>HX.2 ⟨v,Bc.2 ⟨G.2,B⟩,g⟩;have z: ∀e∈JS b.1 (c.take d.toNat),e∈JS b.1 c:=λe g=>by obtain⟨r,L,M⟩:=HX.1 g;obtain⟨N,O⟩:=Bc.1 L;exact HX.2 ⟨r,Bc.2 ⟨Jy N,O⟩,M⟩
 have K:0<=S/\S<=1099511627776:=by
  have h1:=LC (λe=>LG p i j e&&Of sp e.1) (JS b.1 (c.take d.toNat));have h2:=C d.toNat
  omega
 have f:JS b.1 (c.take d.toNat++[v])=JS b.1 (c.take d.toNat)++v.2.2.2.2.2:=by unfold JS;rw[Jp,YI];simp[B]
 refine AB (ABy (hr v G.2) h0 E K λw hw Q=>?_) ?_;obtain⟨q1,q2⟩:=hc w (u w hw) Q;refine⟨λh=>.inl (q1 h),λe g H=>q2 e ?_ H⟩;rcases g with(g|⟨g,y⟩)|⟨g,y⟩;exact .inl g;exact .inr ⟨z e g,y⟩;exact .inr ⟨u e g,y⟩;rintro q ⟨m,n,rfl,I,J⟩;refine BF (AA ⟨⟨by dsimp only;omega,by dsimp only;omega,rfl,?_,?_⟩,by dsimp only;omega⟩);dsimp only;rw[t,f,J,D,Jp,Ag];omega;dsimp only;rw[t,f];refine I.congr λe=>?_;rw[Ar];constructor;rintro((h|⟨h,A⟩)|⟨h,A⟩);exact .inl h;exact .inr ⟨.inl h,A⟩;exact .inr ⟨.inr h,A⟩;rintro(h|⟨h|h,A⟩);exact .inl (.inl h);exact .inl (.inr ⟨h,A⟩);exact .inr ⟨h,A⟩;have f:JS b.1 (c.take d.toNat++[v])=JS b.1 (c.take d.toNat):=by unfold JS;rw[Jp,YI];simp[B]
 dsimp only;rw[t,f];exact D;have f:JS b.1 (c.take d.toNat++[v])=JS b.1 (c.take d.toNat):=by unfold JS;rw[Jp,YI];simp[B]
 dsimp only;rw[t,f];exact E;simp only[len]at o;rw[Cb (by omega)]at D E;exact⟨s2,S,rfl,E,D⟩
def Um{l:List EN}:(l.map (·.1)).Nodup-> ∀{a b:EN},a∈l->b∈l->a.1=b.1->a=b:=by
 induction l with
 |nil=>intro _ a b d;cases d
 |cons p r f=>intro e a b d c h;rw[BZ,Ff]at e;rcases An.1 d with d|d;rcases An.1 c with c|c;rw[d,c];exact absurd (by rw[<-d,h];exact Nk c) e.1;rcases An.1 c with c|c;exact absurd (by rw[<-c,<-h];exact Nk d) e.1;exact f e.2 d c h
def zO{B:Nat}(i:CP B){l:List EN}(h:l.length<=B)(t:l.length<=16777216)(hn:(l.map (·.1)).Nodup):Ay (mR Cc l) λr=>r.Perm l/\r.Pairwise λa b=>a.1<b.1:=by
 have key: ∀m,l.Perm m-> ∃r,Cc m ()=some r/\r.Perm l/\r.Pairwise λa b=>a.1<=b.1:=λm e=>by obtain⟨r,d,c,g⟩:=zg i (l:=m) (by rw[<-e.length_eq];exact h) (by rw[<-e.length_eq];exact t);exact⟨r,d,c.trans e.symm,g⟩
 have uniq: ∀r s:List EN,r.Perm l->s.Perm l->(r.Pairwise λa b=>a.1<=b.1)->(s.Pairwise λa b=>a.1<=b.1)->r=s:=λr s hr j u v=>by refine nE (le:=λa b=>a.1<=b.1) ?_ u v (hr.trans j.symm);intro a b p q d c;exact Um hn (hr.subset p) (j.subset q) (by omega)
 obtain⟨r,d,c,g⟩:=key l (List.Perm.refl l);refine⟨r,?_,c,?_⟩;unfold mR;rw[if_pos];exact d;intro m e;obtain⟨s,k,n,o⟩:=key m e;rw[k,d,uniq s r n c o g];have f:(r.map (·.1)).Nodup:=(c.map (·.1)).nodup_iff.2 hn;rw[Nm,S5]at f;exact(g.and f).imp λh=>by omega
def np: ∀(n:Nat) (i:Int) (l:List Int),l.Nodup->(∀x∈l,i<x/\x<=i+n)->l.length<=n
 |0,i,l,_,h=>by
  cases l with
  |nil=>exact Ak _
  |cons a r=>have:=h a (An.2 (.inl rfl));omega
 |n+1,i,l,hl,h=>by
  have d:=np n i (l.erase (i+(n+1:Nat))) (hl.erase _) λx c=>by have b:=(hl.mem_erase_iff).1 c;have:=h x b.2;have:=b.1;omega
  have e:l.length<=(l.erase (i+(n+1:Nat))).length+1:=by rw[List.length_erase];split<;>omega
  omega
def U4(i:Int)(s:List EN):Prop:= ∀(k:Nat) (e:EN),s[k]? =some e->(k=0->e.2.2.2.2.1<=i)/\ ∀f,0<k->s[k-1]? =some f->e.2.2.2.2.1=f.1
def ABw{a:AK}{l:Aj}{p i j:Int}{s:List EN}(O:s.length≤16777216):
  Ay (Ad (OM (a,(l,(p,(i,j)))) s) (0,([],0))) λr=>(r= .inl ([],0)/\U4 i s)\/(r= .inr ([],13)/\ ¬U4 i s):=by
 refine AM (λ(t:Int×(List EN×Int))=>0<=t.1/\t.1<=s.length/\t.2=([],0)/\ ∀(k:Nat) (e:EN),k<t.1->s[k]? =some e->(k=0->e.2.2.2.2.1<=i)/\ ∀f,0<k->s[k-1]? =some f->e.2.2.2.2.1=f.1) (λt=>((s.length:Int)-t.1).toNat)
  ⟨Ae _,by dsimp only;omega,rfl,λk e F=>(by dsimp only at F;omega)⟩ (λt K=>?_)
 obtain⟨b,P⟩:=t;obtain⟨C,L,G,D⟩:=K;dsimp only at C L G D;subst G;unfold OM;dsimp only;refine AC (λn=>?_) (λn=>AA (.inl ⟨rfl,λk e d=>D k e ?_ d⟩));simp only[len]at n;have I:=AW (x:=b+1);rw[I];refine AB (AE C n) λM _=>?_;refine AB (AE C n) λv h=>?_;have o:((b=0->v.2.2.2.2.1<=i)/\ ∀f,0<b->s[b.toNat-1]? =some f->v.2.2.2.2.1=f.1)->(0<=b+1/\b+1<=s.length/\(([],0):List EN×Int)=([],0)/\ ∀(k:Nat) (e:EN),k<b+1->s[k]? =some e->(k=0->e.2.2.2.2.1<=i)/\ ∀f,0<k->s[k-1]? =some f->e.2.2.2.2.1=f.1)/\((s.length:Int)-(b+1)).toNat<((s.length:Int)-b).toNat:=λE=>by
  refine⟨⟨by omega,by omega,rfl,λk e F d=>?_⟩,by omega⟩;by_cases B:(k:Int)<b;exact D k e B d;have H:k=b.toNat:=by omega
  subst H;rw[h.1]at d;injection d with d;subst d;exact⟨λy=>E.1 (by omega),λf y g=>E.2 f (by omega) g⟩
 apply AQ<;>intro y;refine AC (λu=>AA (.inr ⟨rfl,λA=>?_⟩)) (λu=>?_);have:=(A b.toNat v h.1).1 (by omega);omega;refine AC (λm=>absurd m (by omega)) (λ_=>AA (o ⟨λ_=>by omega,λf g=>absurd g (by omega)⟩));refine AC (λu=>?_) (λu=>absurd u (by omega));have w:=AW (x:=b-1);rw[w];refine AB (AE) λN _=>?_;refine AB (AE) λq z=>?_;have c:s[b.toNat-1]? =some q:=by rw[show b.toNat-1=(b-1).toNat by omega];exact z.1
 refine AL (λm=>AA (.inr ⟨rfl,λA=>m ((A b.toNat v h.1).2 q (by omega) c)⟩)) (λm=>AA (o ⟨λJ=>absurd J y,λf _ g=>?_⟩));rw[c]at g;injection g with g;rw[<-g];exact m;simp only[len]at n;have:=(TB.1 d).1;omega
def ABz{a:AK}{l:Aj}{p i j:Int}{s:List EN}(b:s.length≤16777216):
  Ay (Ad (OM (a,(l,(p,(i,j)))) s) (0,([],0))) λr=>(r= .inl ([],0)/\U4 i s)\/(r= .inr ([],13)/\ ¬U4 i s):=ABw b
def SU(l:Aj)(low:Int)(rs:List AU):List (Int×Int):=(l.1,l.1+l.2.1.length-1)::(rs.filter λr=>r.2.2.1==low).map λr=>(r.1,r.2.1)
def rD{a:AK}{l:Aj}{p:Int}{e:Int×(Int×Bool)}{b:List AU}{d:List Int}(B:D2 l)(m:FV (a,p)=some e)(C:e.2.2=true)(n:G3 a=some (b,d))(u:b.length=d.length)(q:b.length≤256):
  JO (a,(l,p))=some (SU l e.1 b):=by
 obtain⟨G,y,z⟩:=Y7 B;unfold JO;dsimp only;rw[y,AI,m,AI,C,Ea,cond_false,n,AI,z];have g:Ay (Ad (Nx e (b,d)) (0,([(l.1,l.1+l.2.1.length-1)]:List (Int×Int)))) λr=>r=SU l e.1 b:=by
  refine AM (λ(t:Int×List (Int×Int))=>0<=t.1/\t.1<=b.length/\t.2.length<=t.1.toNat+1/\t.2=SU l e.1 (b.take t.1.toNat)) (λt=>((b.length:Int)-t.1).toNat) ⟨Ae _,by dsimp only;omega,by simp,rfl⟩ (λt A=>?_);obtain⟨i,F⟩:=t;obtain⟨o,D,E,k⟩:=A;dsimp only at o D E k;unfold Nx;dsimp only;refine AC (λj=>?_) (λj=>AA ?_);simp only[len]at j;have w:=AW (x:=i+1);rw[w];refine AB (AE o j) λv h=>?_;have f:b.take (i+1).toNat=b.take i.toNat++[v]:=by rw[show(i+1).toNat=i.toNat+1 by omega,D5,h.1];rfl
  refine AF (λc=>?_) (λc=>AA ⟨⟨by dsimp only;omega,by dsimp only;omega,by dsimp only;omega,?_⟩,by dsimp only;omega⟩);refine AB (AE o) λH _=>?_;refine AB (Ac (by simp only[BV,Bt];omega)) λI s=>AA ⟨⟨by dsimp only;omega,by dsimp only;omega,?_,?_⟩,by dsimp only;omega⟩;have:=s.2.1;simp only[BV,Bt]at this;dsimp only;omega;dsimp only;rw[s.1,k,f];unfold SU;rw[Jp,Nh,iP (by exact c)];rfl;dsimp only;rw[k,f];unfold SU;rw[Jp,iO (by rw[c];decide)];simp;simp only[len]at j;rw[k,Cb (by omega)]
 obtain⟨r,q1,q2⟩:=g;rw[q1,AI,q2]
def gx{l:List EN}:(l.map (·.1)).Nodup->l.Nodup:=by
 induction l with
 |nil=>intro _;exact O5
 |cons p r b=>intro a;rw[BZ,Ff]at a;exact Ff.2 ⟨λh=>a.1 (Nk h),b a.2⟩
def D2.nodup{l:Aj}(h:D2 l):(l.2.1.map (·.1)).Nodup:=by obtain⟨l1,l2,i,j,k,a⟩:=h;rw[Nm,S5,JL];intro x y b d c g;have e:=(a x _ (Az b)).1;have f:=(a y _ (Az d)).1;omega
def D2.has{l:Aj}(h:D2 l){e:EN}(a:e∈l.2.1):Of (l.1,l.1+l.2.1.length-1) e.1=true:=by obtain⟨k,b,a⟩:=O3.1 a;have c:=(h.2.2.2.2.2 k e (by rw[<-a];exact Az b)).1;unfold Of;simp only[BO,decide_eq_true_eq];omega
structure zr(l:Aj)(low p i j:Int)(rs:List AU):Prop where
 fromLog: ∀f∈JS low rs,LG p i j f=true->Of (l.1,l.1+l.2.1.length-1) f.1=true->f∈l.2.1
 inRuns: ∀e∈l.2.1,LG p i j e=true->((rs.filter λr=>r.2.2.1==low).any λr=>Of (r.1,r.2.1) e.1)=true->e∈JS low rs
 own: ∀r∈rs,∀f∈r.2.2.2.2.2,Of (r.1,r.2.1) f.1=true
 once:((JS low rs).map (·.1)).Nodup
def ACU{B:Nat}{a:AK}{l:Aj}{p i j R:Int}{c:Int×(Int×Bool)}{b:List AU}{P:List Int}(V:CP B)(hB:B≤16777216)(ap:j-i≤B)(hi:0≤i)(hj:i≤j)
  (h:VB a) (D:D2 l) (hp:0<=p/\p<a.2.1) (L:FV (a,p)=some c) (ht:c.2.2=true) (N:G3 a=some (b,P)) (w:b.length=P.length) (t:b.length<=256)
  (hr: ∀r∈b,r.2.2.2.2.2.length<=4096) (W:G4 (SU l c.1 b,j)=some R) (z:zr l c.1 p i j b):
  Ay (LP (a,(l,(p,(i,j))))) λr=>(R>i/\r=([],42))\/(R<=i/\ ∃s:List EN,(s.Pairwise λx y=>x.1<y.1)/\(∀e,e∈s↔(e∈l.2.1\/e∈JS c.1 b)/\LG p i j e=true)/\((U4 i s/\r=(s,0))\/(¬U4 i s/\r=([],13)))):=by
 have K:=D.nodup;unfold LP;dsimp only;refine AB (R8 (x:=(a,(l,(p,i)))) h D ⟨hp.1,hp.2,hi⟩) λv0 h0=>?_;refine AL (λk=>absurd h0 k) (λ_=>?_);refine AC (λk=>absurd k (by omega)) (λ_=>?_);rw[rD D L ht N w t,AI,W,AI];refine AC (λhf=>AA (.inl ⟨hf,rfl⟩)) (λhf=>?_);refine AB (ABu D (by simp[SU]) (by have:=LC (λr:AU=>r.2.2.1==c.1) b;simp only[SU,BV,Dc];omega)) λal H=>?_;rw[L,AI,ht,Ea,cond_false,N,AI];have hP: ∀v∈JS c.1 b,LG p i j v=true->(Of (l.1,l.1+l.2.1.length-1) v.1=true->(v∈l.2.1/\LG p i j v=true))/\ ∀e,((e∈l.2.1/\LG p i j e=true)\/(e∈JS c.1 b/\LG p i j e=true))->e.1=v.1->e=v:=λv hv E=>by refine⟨λk=>⟨z.fromLog v hv E k,E⟩,λe u A=>?_⟩;rcases u with⟨u,_⟩|⟨u,_⟩;have ad:=z.fromLog v hv E (by rw[<-A];exact D.has u);exact Um K u ad A;exact Um z.once u hv A
 apply AB (ABx (sp:=(l.1,l.1+l.2.1.length-1)) rfl H.2 w t hr hP);rintro q ⟨m,n,rfl,o,hn⟩;apply BF;dsimp only;have f:al.1=n:=by
  rw[H.1,hn];refine congrArg Int.ofNat (List.Perm.length_eq ?_)
  refine(fE ((gx K).filter _) ((gx z.once).filter _)).2 λe=>?_;rw[Bc,Bc];simp only[BO];have I:((SU l c.1 b).tail.any λs=>Of s e.1)=((b.filter λr=>r.2.2.1==c.1).any λr=>Of (r.1,r.2.1) e.1):=by unfold SU;rw[List.tail_cons,List.any_map];rfl
  rw[I];constructor;rintro⟨F,G,S⟩;exact⟨z.inRuns e F G S,G,D.has F⟩;rintro⟨F,G,S⟩;obtain⟨r,M,Y⟩:=HX.1 F;exact⟨z.fromLog e F G S,G,YD.2 ⟨r,M,z.own r (Bc.1 M).1 e Y⟩⟩
 refine AL (λk=>absurd f k) (λ_=>?_);have J: ∀q∈m,LG p i j q.2=true:=λq d=>by
  have:(q.2.1,q.2)∈m:=by rw[<-o.2.1 q d];exact d
  rcases(o.2.2 q.2).1 this with g|g;exact g.2;exact g.2
 have X:m.length<=B:=by
  have:=np (j-i).toNat i (m.map (·.1)) o.1 λx hx=>by obtain⟨q,d,rfl⟩:=Bl.1 hx;have E:=J q d;have hk:=o.2.1 q d;unfold LG at E;simp only[BO,decide_eq_true_eq]at E;omega
  rw[Dc]at this;omega
 refine AC (λ_=>?_) (λk=>absurd k (by show¬ ¬((m.length:Int)<=16777216);omega));have C:((m.map (·.2)).map (·.1))=m.map (·.1):=by rw[Ni];exact Lu λq d=>(o.2.1 q d).symm
 refine AB (zO V (l:=m.map (·.2)) (by rw[Dc];exact X) (by rw[Dc];omega) (by rw[C];exact o.1)) λs Q=>?_;have Z:s.length=m.length:=by rw[Q.1.length_eq,Dc]
 have U:Nat.beq (List.length s) (List.length m)=true:=by rw[Z];exact HY _
 rw[U,cond_true];have O: ∀e,e∈s↔(e∈l.2.1\/e∈JS c.1 b)/\LG p i j e=true:=λe=>by
  rw[Q.1.mem_iff];constructor;intro u;obtain⟨q,d,rfl⟩:=Bl.1 u;have:(q.2.1,q.2)∈m:=by rw[<-o.2.1 q d];exact d
  rcases(o.2.2 q.2).1 this with g|g;exact⟨.inl g.1,g.2⟩;exact⟨.inr g.1,g.2⟩;rintro⟨g,g'⟩;exact Bl.2 ⟨(e.1,e),(o.2.2 e).2 (g.imp (λg=>⟨g,g'⟩) (λg=>⟨g,g'⟩)),rfl⟩
 refine AB (ABz (by omega)) λr hr=>?_;rcases hr with⟨rfl,T⟩|⟨rfl,T⟩;exact BF (AA (.inr ⟨by omega,s,Q.2,O,.inl ⟨T,rfl⟩⟩));exact BC (AA (.inr ⟨by omega,s,Q.2,O,.inr ⟨T,rfl⟩⟩))
def rC{s t:List EN}(c:s.Pairwise λx y=>x.1<y.1)(d:t.Pairwise λx y=>x.1<y.1)(h: ∀e,e∈s↔e∈t):s=t:=by have nd: ∀{u:List EN},(u.Pairwise λx y=>x.1<y.1)->u.Nodup:=λg=>Nm.2 (g.imp λh e=>by rw[e]at h;omega);have f:=(fE (nd c) (nd d)).2 h;exact nE (le:=λa b=>a.1<b.1) (λa b _ _ i j=>by omega) c d f
structure be(L:List EN)(r:AU):Prop where
 mem: ∀e,e∈r.2.2.2.2.2↔e∈L/\cw e=true/\r.2.2.1<=e.2.2.2.2.2.2.1.1/\e.2.2.2.2.2.2.1.1<=r.2.2.2.1/\r.1<=e.1/\e.1<=r.2.1
 nd:(r.2.2.2.2.2.map (·.1)).Nodup
def vr{L:List EN}{l:Aj}{k:List AU}{b p i j:Int}(a: ∀e,e∈l.2.1↔e∈L∧l.1≤e.1∧e.1≤l.1+l.2.1.length-1)(hr: ∀r∈k,be L r)
  (t: ∀r∈k,r.2.2.1=b->b<=p/\p<=r.2.2.2.1) (h:(k.filter λr=>r.2.2.1==b).Pairwise λr s=>r.2.1<s.1\/s.2.1<r.1):zr l b p i j k where
 fromLog f hf hw hh:=by obtain⟨r,c,g⟩:=HX.1 hf;have d:=((hr r (Bc.1 c).1).mem f).1 g;unfold Of at hh;simp only[BO,decide_eq_true_eq]at hh;exact(a f).2 ⟨d.1,by omega⟩
 inRuns e o hw ha:=by obtain⟨r,c,g⟩:=YD.1 ha;have d:=Bc.1 c;have q:r.2.2.1=b:=eq_of_beq d.2;have A:=t r d.1 q;unfold LG at hw;unfold Of at g;simp only[BO,decide_eq_true_eq,beq_iff_eq]at hw g;exact HX.2 ⟨r,c,((hr r d.1).mem e).2 ⟨((a e).1 o).1,hw.1,by omega⟩⟩
 own r hrr f hf:=by have d:=((hr r hrr).mem f).1 hf;unfold Of;simp only[BO,decide_eq_true_eq];omega
 once:=by unfold JS;rw[List.map_flatMap,Nm,List.pairwise_flatMap];refine⟨λr c=>Nm.1 (hr r (Bc.1 c).1).nd,?_⟩;refine nD ?_ h;intro r s c g d x u y v o;obtain⟨e,m,rfl⟩:=Bl.1 u;obtain⟨f,n,rfl⟩:=Bl.1 v;have w:=((hr r (Bc.1 c).1).mem e).1 m;have z:=((hr s (Bc.1 g).1).mem f).1 n;omega
def qB{L:List EN}{d:List AU}{a p i j:Int}(hr: ∀r∈d,be L r)(n: ∀r∈d,r.2.2.1=a→a≤p∧p≤r.2.2.2.1){e:EN}(l:LG p i j e=true):
  e∈JS a d↔e∈L/\ ∃r∈d,r.2.2.1=a/\r.1<=e.1/\e.1<=r.2.1:=by
 unfold LG at l;simp only[BO,decide_eq_true_eq,beq_iff_eq]at l;constructor;intro h;obtain⟨r,f,b⟩:=HX.1 h;obtain⟨c,k⟩:=Bc.1 f;have g:=((hr r c).mem e).1 b;exact⟨g.1,r,c,eq_of_beq k,g.2.2.2.2.1,g.2.2.2.2.2⟩;rintro⟨f,r,b,c,k,m⟩;have g:=n r b c;exact HX.2 ⟨r,Bc.2 ⟨b,by simp[c]⟩,((hr r b).mem e).2 ⟨f,l.1,by omega,by omega,k,m⟩⟩
def wL(a:AK)(l:Aj)(low n:Int):Prop:=(l.1<=n/\n<=l.1+l.2.1.length-1)\/ ∃e∈E4 a,e.1.2.2.1=low/\e.1.1<=n/\n<=e.1.2.1
def AAN{B:Nat}{a:AK}{l:Aj}{L:List EN}{p i j:Int}{c:Int×(Int×Bool)}(O:CP B)(hB:B≤16777216)(P:j-i≤B)(Y:0≤i)(Z:i≤j)(hJ:j≤1099511627776)
  (h:VB a) (hd:DS a) (J:D2 l) (S:0<=p/\p<a.2.1) (G:FV (a,p)=some c) (ht:c.2.2=true) (K:L.Pairwise λx y=>x.1<y.1) (b: ∀e,e∈l.2.1↔e∈L/\l.1<=e.1/\e.1<=l.1+l.2.1.length-1)
  (hR: ∀e∈E4 a,be L e.1) (z:yC (E4 a)) (T: ∀e∈E4 a,e.1.2.2.1=c.1->c.1<=p/\p<=e.1.2.2.2.1):
  ∃k,(0<=k/\k<=j/\(∀n,k<n->n<=j->wL a l c.1 n)/\(k=0\/ ¬wL a l c.1 k))/\E6 (a,(l,(p,(i,j))))=some (decide (k<=i))/\Ay (LP (a,(l,(p,(i,j))))) λr=>(k>i/\r=([],42))\/(k<=i/\((U4 i (L.filter (LG p i j))/\r=(L.filter (LG p i j),0))\/(¬U4 i (L.filter (LG p i j))/\r=([],13)))):=by
 obtain⟨q,H,v,E,w2,rfl,w4,w5⟩:=AAW h hd (Tp h) z;have o: ∀r∈v.map (·.1),∃e∈E4 a,e.1=r:=λr hr=>by obtain⟨e,d,rfl⟩:=Bl.1 hr;exact⟨e,E.mem_iff.1 d,rfl⟩
 have D: ∀r∈v.map (·.1),be L r:=λr hr=>by obtain⟨e,d,rfl⟩:=o r hr;exact hR e d
 have C: ∀r∈v.map (·.1),r.2.2.1=c.1->c.1<=p/\p<=r.2.2.2.1:=λr hr=>by obtain⟨e,d,rfl⟩:=o r hr;exact T e d
 have U:((v.map (·.1)).filter λr=>r.2.2.1==c.1).Pairwise λr s=>r.2.1<s.1\/s.2.1<r.1:=by rw[List.filter_map,S5];have R:v.Pairwise λx y=>x≠y:=Nm.1 (E.nodup_iff.2 (Tp h));refine nD ?_ (R.filter _);intro x y hx hy Q;obtain⟨x1,x2⟩:=Bc.1 hx;obtain⟨V,W⟩:=Bc.1 hy;exact z x (E.mem_iff.1 x1) y (E.mem_iff.1 V) Q ((eq_of_beq x2).trans (eq_of_beq W).symm)
 have ad:(SU l c.1 (v.map (·.1))).length<=257:=by have:=LC (λr:AU=>r.2.2.1==c.1) (v.map (·.1));rw[Dc]at this;simp only[SU,BV,Dc];omega
 have M:SpL (SU l c.1 (v.map (·.1))):=by refine⟨by omega,λs f=>?_⟩;rcases An.1 f with f|f;rw[f];exact J.1;obtain⟨r,hr,rfl⟩:=Bl.1 f;obtain⟨e,d,rfl⟩:=Bl.1 (Bc.1 hr).1;exact(w5 e d).1
 have m: ∀n,pq (SU l c.1 (v.map (·.1))) n↔wL a l c.1 n:=λn=>by constructor;rintro⟨s,f,t,w⟩;rcases An.1 f with f|f;rw[f]at t w;exact .inl ⟨t,w⟩;obtain⟨r,hr,rfl⟩:=Bl.1 f;obtain⟨g1,I⟩:=Bc.1 hr;obtain⟨e,d,rfl⟩:=o r g1;exact .inr ⟨e,d,eq_of_beq I,t,w⟩;rintro(⟨t,w⟩|⟨e,d,h0,t,w⟩);exact⟨_,An.2 (.inl rfl),t,w⟩;exact⟨(e.1.1,e.1.2.1),An.2 (.inr (Bl.2 ⟨e.1,Bc.2 ⟨Nk (E.mem_iff.2 d),by simp[h0]⟩,rfl⟩)),t,w⟩
 obtain⟨k,F,f1,f2,X,f4⟩:=sE M (u:=j) (by omega) hJ;refine⟨k,⟨f1,f2,λn t w=>(m n).1 (X n t w),f4.imp id λhh N=>hh ((m k).2 N)⟩,?_,?_⟩;obtain⟨v0,ev,hv⟩:=R8 (x:=(a,(l,(p,i)))) h J ⟨S.1,S.2,Y⟩;unfold E6;dsimp only;rw[ev,AI,beq_iff_eq.2 hv,cond_true,decide_eq_true Z,cond_true,rD J G ht H (by rw[Dc,Dc]) (by rw[Dc];exact w4),AI,F,AI];refine(ACU O hB P Y Z h J S G ht H (by rw[Dc,Dc]) (by rw[Dc];exact w4) (λr hr=>?_) F (vr b D C U)).mono λr hr=>?_;obtain⟨e,d,rfl⟩:=Bl.1 hr;exact(w5 e d).2.2.2.2.2.2.2.2;rcases hr with hr|⟨hr,s,s1,s2,s3⟩;exact .inl hr;refine .inr ⟨hr,?_⟩;have f:s=L.filter (LG p i j):=rC s1 (K.filter _) λe=>by rw[s2,Bc];constructor;rintro⟨g|g,A⟩;exact⟨((b e).1 g).1,A⟩;exact⟨((qB D C A).1 g).1,A⟩;rintro⟨g,A⟩;refine⟨?_,A⟩;have I:=A;unfold LG at I;simp only[BO,decide_eq_true_eq]at I;rcases(m e.1).1 (X e.1 (by omega) (by omega))with N|⟨y,V,W,y3,y4⟩;exact .inl ((b e).2 ⟨g,N⟩);exact .inr ((qB D C A).2 ⟨g,y.1,Nk (E.mem_iff.2 V),W,y3,y4⟩)
 rw[<-f];exact s3
def BD.lt{n:Int}{l:List Int}(h:BD n l): ∀(d i:Nat) (x y:Int),l[i]? =some x->l[i+1+d]? =some y->x<y
 |0,i,x,y,hx,hy=>by have:=Fw hy;exact h.2.2.2.2.2.1 i x y (by omega) hx hy
 |d+1,i,x,y,hx,hy=>by have e:=Fw hy;have a:l[i+1+d]? =some (l[i+1+d]'(by omega)):=Az (by omega);have b:=BD.lt h d i x _ hx a;have c:=h.2.2.2.2.2.1 (i+1+d) _ y (by omega) a (by grind);omega
def BD.le{n:Int}{l:List Int}(h:BD n l){i j:Nat}{x y:Int}(a:i<=j)(b:l[i]? =some x)(c:l[j]? =some y):x<=y:=by
 by_cases e:i=j;grind;obtain⟨d,rfl⟩: ∃d,j=i+1+d:=⟨j-(i+1),by omega⟩
 have:=h.lt d i x y b c;omega
def BD.mem{n:Int}{l:List Int}(h:BD n l){i:Nat}{x:Int}(a:l[i]? =some x):0<=x/\x<n:=by have f:=Fw a;have b:l[l.length-1]? =some (l[l.length-1]'(by omega)):=Az (by omega);have c:=h.le (B7 i) h.2.2.2.2.1 a;have d:=h.le (by omega:i<=l.length-1) a b;have e:=h.2.2.2.2.2.2 _ b;omega
def BD.inj{n:Int}{l:List Int}(h:BD n l){i j:Nat}{x:Int}(b:l[i]? =some x)(c:l[j]? =some x):i=j:=by
 rcases O7 i j with a|a|a;obtain⟨d,rfl⟩: ∃d,j=i+1+d:=⟨j-(i+1),by omega⟩
 have:=h.lt d i x x b c;omega;exact a;obtain⟨d,rfl⟩: ∃d,i=j+1+d:=⟨i-(j+1),by omega⟩
 have:=h.lt d j x x c b;omega
def qN(a:AK)(i:Nat):Int:=match a.1[i+1]? with
 |some h=>h-1
 |none=>a.2.1-1
def Ks(a:AK)(lo hi:Int):Prop:= ∃i:Nat,a.1[i]? =some lo/\hi=qN a i
def wa{a:AK}(h:BD a.2.1 a.1){i:Nat}(d:i<a.1.length):(∀w,a.1[i+1]? =some w->wi (w-1)=qN a i)/\(a.1.length<=i+1->wi (a.2.1-1)=qN a i):=by refine⟨λw b=>?_,λc=>?_⟩;have:=h.mem b;have:=h.2.1;unfold qN;rw[b,AW];have:=h.1;have:=h.2.1;unfold qN;rw[Cs c,AW]
def pX{a:AK}(h:BD a.2.1 a.1){i:Nat}{b:Int}(c:a.1[i]? =some b):Fk (a,(i:Int))=some (b,qN a i):=by
 have f:=Fw c;have d:=h.2.2.2.1;obtain⟨l,m⟩:=wa h f;have j:ix a.1 (i:Int)=some b:=by unfold ix;rw[if_pos (by omega),Int.toNat_natCast,c]
 unfold Fk;rw[AW (x:=(i:Int)+1),j];by_cases e:i+1<a.1.length;have g:=Az e;have k:ix a.1 ((i:Int)+1)=some a.1[i+1]:=by unfold ix;rw[if_pos (by omega),show((i:Int)+1).toNat=i+1 by omega,g]
 grind;grind
def pg{a:AK}(h:BD a.2.1 a.1){i:Nat}{b:Int}(c:a.1[i]? =some b):JM (a,(i:Int))=some (b,qN a i):=by
 have f:=Fw c;have d:=h.2.2.2.1;obtain⟨l,m⟩:=wa h f;have j:ix a.1 (i:Int)=some b:=by unfold ix;rw[if_pos (by omega),Int.toNat_natCast,c]
 unfold JM;rw[AW (x:=(i:Int)+1),j];by_cases e:i+1<a.1.length;have g:=Az e;have k:ix a.1 ((i:Int)+1)=some a.1[i+1]:=by unfold ix;rw[if_pos (by omega),show((i:Int)+1).toNat=i+1 by omega,g]
 grind;grind
def ql{a:AK}{r:AU}(h:BD a.2.1 a.1):Ay (Gd (a,r)) λk=>0<=k↔Ks a r.2.2.1 r.2.2.2.1:=by
 have j:=h.2.2.2.1;refine AB (P:=λq=>(∃k:Int,q= .inl k/\0<=k/\Ks a r.2.2.1 r.2.2.2.1)\/(q= .inr ()/\ ¬Ks a r.2.2.1 r.2.2.2.1)) ?_ λq p=>?_
 ·refine Ia (λ(s:Int)=>0<=s/\s<=a.1.length/\ ∀i:Nat,(i:Int)<s-> ¬(a.1[i]? =some r.2.2.1/\r.2.2.2.1=qN a i)) (λs=>((a.1.length:Int)-s).toNat) ⟨Ae _,by omega,λi n=>by omega⟩ (λs l=>?_);obtain⟨f,v,w⟩:=l;unfold JQ;dsimp only[len];refine AC (λm=>?_) (λm=>Ay.done (.inr ⟨rfl,?_⟩))
  ·obtain⟨k,rfl⟩:=Eb f;have o:a.1[k]? =some (a.1[k]'(by omega)):=Az (by omega);rw[pX h o,AI,AW];have g: ¬(a.1[k]? =some r.2.2.1/\r.2.2.2.1=qN a k)->Ay (some (Step.next ((k:Int)+1)):Option (Step Int (Int ⊕ Unit))) (bf (λ(s:Int)=>0<=s/\s<=a.1.length/\ ∀i:Nat,(i:Int)<s-> ¬(a.1[i]? =some r.2.2.1/\r.2.2.2.1=qN a i)) (λs=>((a.1.length:Int)-s).toNat) ((a.1.length:Int)-(k:Int)).toNat λq=>(∃k:Int,q= .inl k/\0<=k/\Ks a r.2.2.1 r.2.2.2.1)\/(q= .inr ()/\ ¬Ks a r.2.2.1 r.2.2.2.1)):=λhn=>by
    refine Ay.next ⟨by omega,by omega,λi n=>?_⟩ (by omega)
    grind
   refine AQ (λb=>?_) (λb=>g λe=>b ?_)
   ·refine AQ (λc=>Ay.done (.inl ⟨_,rfl,f,k,?_,?_⟩)) (λc=>g λe=>c e.2.symm);grind;grind
   grind
  rintro⟨i,t,u⟩;grind
 rcases p with⟨k,rfl,b,c⟩|⟨rfl,b⟩;exact BF (AA ⟨λ_=>c,λ_=>b⟩);exact BC (AA ⟨λd=>absurd d (by decide),λd=>absurd d b⟩)
def xB{a:AK}{r:AU}(h:BD a.2.1 a.1):Ay (LN (a,r)) λk=>0<=k↔Ks a r.2.2.1 r.2.2.2.1:=by
 have j:=h.2.2.2.1;refine AB (P:=λq=>(∃k:Int,q= .inl k/\0<=k/\Ks a r.2.2.1 r.2.2.2.1)\/(q= .inr ()/\ ¬Ks a r.2.2.1 r.2.2.2.1)) ?_ λq p=>?_
 ·refine Ia (λ(s:Int)=>0<=s/\s<=a.1.length/\ ∀i:Nat,(i:Int)<s-> ¬(a.1[i]? =some r.2.2.1/\r.2.2.2.1=qN a i)) (λs=>((a.1.length:Int)-s).toNat) ⟨Ae _,by omega,λi n=>by omega⟩ (λs l=>?_);obtain⟨f,v,w⟩:=l;unfold PE;dsimp only[len];refine AC (λm=>?_) (λm=>Ay.done (.inr ⟨rfl,?_⟩))
  ·obtain⟨k,rfl⟩:=Eb f;have o:a.1[k]? =some (a.1[k]'(by omega)):=Az (by omega);rw[pg h o,AI,AW];have g: ¬(a.1[k]? =some r.2.2.1/\r.2.2.2.1=qN a k)->Ay (some (Step.next ((k:Int)+1)):Option (Step Int (Int ⊕ Unit))) (bf (λ(s:Int)=>0<=s/\s<=a.1.length/\ ∀i:Nat,(i:Int)<s-> ¬(a.1[i]? =some r.2.2.1/\r.2.2.2.1=qN a i)) (λs=>((a.1.length:Int)-s).toNat) ((a.1.length:Int)-(k:Int)).toNat λq=>(∃k:Int,q= .inl k/\0<=k/\Ks a r.2.2.1 r.2.2.2.1)\/(q= .inr ()/\ ¬Ks a r.2.2.1 r.2.2.2.1)):=λhn=>by
    refine Ay.next ⟨by omega,by omega,λi n=>?_⟩ (by omega)
    grind
   refine AQ (λb=>?_) (λb=>g λe=>b ?_)
   ·refine AQ (λc=>Ay.done (.inl ⟨_,rfl,f,k,?_,?_⟩)) (λc=>g λe=>c e.2.symm);grind;grind
   grind
  rintro⟨i,t,u⟩;grind
 rcases p with⟨k,rfl,b,c⟩|⟨rfl,b⟩;exact BF (AA ⟨λ_=>c,λ_=>b⟩);exact BC (AA ⟨λd=>absurd d (by decide),λd=>absurd d b⟩)
def Good(a:AK)(f:BL)(r:AU):Prop:=f.1=1/\f.2.2=L3 r/\VR r/\Ks a r.2.2.1 r.2.2.2.1
def Bad(f:BL):Prop:=f.2.2.length<=1099511627776/\ ∀r,WR r->f.2.2≠L3 r
def Good.intact{a:AK}{f:BL}{r:AU}(h:Good a f r)(e:BD a.2.1 a.1):Gi (a,f)=some (r,true):=by obtain⟨b,c,d,g⟩:=h;obtain⟨k,k1,i⟩:=xB (r:=r) e;unfold Gi;rw[b,c,bne_self_eq_false,cond_false,AA5 d,AI,show(((r,(0:Int)):AU×Int).2==0)=true from rfl,cond_true];grind
def Good.intR{a:AK}{f:BL}{r:AU}(h:Good a f r)(b:BD a.2.1 a.1):intR a f=some (r,f.2.1):=by unfold Go.Pm.intR;rw[h.intact b]
def Good.ref{a:AK}{f:BL}{r:AU}(h:Good a f r)(g:BD a.2.1 a.1): ∃k,Du (a,f)=some (r,k)/\0<=k:=by obtain⟨b,c,d,e⟩:=h;obtain⟨k,k1,i⟩:=ql (r:=r) g;refine⟨k,?_,i.2 e⟩;unfold Du;rw[b,c,bne_self_eq_false,cond_false,si d,AI,show(((r,(0:Int)):AU×Int).2 !=0)=false from rfl,cond_false];grind
def Bad.intR{a:AK}{f:BL}(h:Bad f)(e:BD a.2.1 a.1):intR a f=none:=by
 have key:Ay (Gi (a,f)) λr=>r.2=false:=by exact AL (λ_=>AA rfl) (λ_=>AB (AA6 h.1) λv b=>AQ (λc=>absurd (b c).1 (h.2 _ (b c).2)) (λ_=>AA rfl))
 obtain⟨⟨r,o⟩,k1,d⟩:=key;subst d;unfold Go.Pm.intR;rw[k1]
def Bad.ref{a:AK}{f:BL}(h:Bad f): ∃r,Du (a,f)=some (r,-1):=by
 have key:Ay (Du (a,f)) λr=>r.2= -1:=by exact AL (λ_=>AA rfl) (λ_=>AB (ABF h.1) λv b=>AL (λ_=>AA rfl) (λc=>absurd (b c).1 (h.2 _ (b c).2.wr)))
 obtain⟨⟨r,o⟩,k1,d⟩:=key;grind
def wS{x y:AU}(b:VR x)(c:VR y)(h:L3 x=L3 y):x=y:=by have a:=si b;rw[h,si c]at a;injection a with a;exact(fP.1 a).1.symm
structure AR(L:List EN)(a:AK):Prop where
 vb:VB a
 files: ∀f∈a.2.2.1,Bad f\/ ∃r,Good a f r/\be L r/\r.2.1<a.2.2.2.1
 dis:yC (E4 a)
def AG(a:AK):Prop:= ∀f∈a.2.2.1,∃r,Good a f r
def RC(a:AK)(c:Nat):Prop:= ∀lo,((E4 a).filter λe=>e.1.2.2.1==lo).length<=c
def eE{b:Type}: ∀(l m:List b),l.Nodup->(∀x∈l,x∈m)->l.length<=m.length
 |[],m,_,_=>B7 _
 |a::l,m,hn,hs=>by
  obtain⟨s,t,rfl⟩:=List.append_of_mem (hs a (An.2 (.inl rfl)));rw[Ff]at hn;have:=eE l (s++t) hn.2 λx c=>by grind
  grind
def AR.mem{L:List EN}{a:AK}(h:AR L a){e:NE}(g:e∈E4 a): ∃f∈a.2.2.1,Good a f e.1/\e.2=f.2.1/\be L e.1/\e.1.2.1<a.2.2.2.1:=by obtain⟨f,i,b⟩:=Nj.1 g;rcases h.files f i with d|⟨r,c,j,k⟩;rw[d.intR h.vb.1]at b;cases b;rw[c.intR h.vb.1]at b;grind
def Uz{a:AK}(b:BD a.2.1 a.1){f:BL}{r:AU}(c:f∈a.2.2.1)(h:Good a f r):(r,f.2.1)∈E4 a:=by exact Nj.2 ⟨f,c,h.intR b⟩
def Good.size{a:AK}{f:BL}{r:AU}(h:Good a f r):f.2.2.length<=34406441:=by rw[h.2.1];exact h.2.2.1.len
def AR.sa{L:List EN}{a:AK}(h:AR L a):SA a:=by obtain⟨⟨g,i,j,b,k,l,m⟩,a1,a2,a3,a4,a5,a6⟩:=h.vb;refine⟨b,by omega,λf e=>?_⟩;rcases h.files f e with d|⟨r,c,_⟩;exact d.1;have:=c.size;omega
def AR.ds{L:List EN}{a:AK}(h:AR L a):DS a:=λf b=>by have:=h.sa.2.2 f b;omega
def Ks.uniq{a:AK}(e:BD a.2.1 a.1){d b c:Int}(p:Ks a d b)(q:Ks a d c):b=c:=by obtain⟨i,f,g⟩:=p;obtain⟨j,h,k⟩:=q;have:=e.inj f h;subst this;rw[g,k]
def rQ{l:List EN}{e:EN}(h:l.length<=16777000):Ay (FO (l,e)) λr=>r.1.length<=l.length+1/\((∀y,y∈r.1↔y∈l\/y=e)\/(r.1=l/\ ∃z∈l,z.1=e.1)):=by
 unfold FO;refine AB (Ot (x:=(l,e)) ⟨Ae _,by omega,by dsimp only;omega⟩) λp b=>?_;dsimp only at b⊢;have a:Ay (Option.bind (Zb l 0 p) λk=>
  Option.bind (Zb l p (len l)) λm=>
  Option.bind (app [] k) λn=>
  Option.bind (app n ([e]:List (Int×(Int×(Int×(Int×(Int×(Int×((Int×(Int×((Bool×Bb)×(Bool×Bb))))×Bb))))))))) λB=>
  Option.bind (app B m) λC=>
  some (C,true)) λr=>r.1.length<=l.length+1/\((∀y,y∈r.1↔y∈l\/y=e)\/(r.1=l/\ ∃z∈l,z.1=e.1)):=by
  refine AB (Bu (Ae _) b.1 b.2) λw d=>?_;refine AB (Bu b.1 (by simp only[len];omega) (by simp only[len];omega)) λA f=>?_;have I:=d.2;have t:=f.2;simp only[len]at t;refine AB (Ac (by simp;omega)) λk g=>?_;have u:=g.2.1;simp only[Bt]at u;refine AB (Ac (by simp;omega)) λm i=>?_;have v:=i.2.1;simp only[Bt,BV]at v;refine AB (Ac (by omega)) λn j=>AA ?_;have J:=j.2.1;refine⟨by dsimp only;omega,.inl λy=>?_⟩;have o:w=l.take p.toNat:=by rw[d.1];simp
  have q:A=l.drop p.toNat:=by rw[f.1];exact Cb (by rw[G9];simp only[len];omega)
  dsimp only;rw[j.1,i.1,g.1,o,q,CD];conv=>rhs;rw[<-F9 p.toNat l]
  simp only[Ar,A3];constructor;rintro((h|h)|h);exact .inl (.inl h);exact .inr h;exact .inl (.inr h);rintro((h|h)|h);exact .inl (.inl h);exact .inr h;exact .inl (.inr h)
 refine AC (λs=>?_) (λ_=>a);simp only[len]at s;refine AB (AE b.1 s) λD H=>?_;obtain⟨c,E,K,F⟩:=zy D e;rw[E,AI];refine AQ (λG=>?_) (λ_=>a);exact AB (AE b.1 s) λL _=>AA ⟨by dsimp only;omega,.inr ⟨rfl,D,H.2,(F.1 G).2⟩⟩
def Uq(L:List EN):Prop:= ∀x∈L,∀y∈L,x.1=y.1->x=y
def pW{L l:List EN}{e:EN}(c:Uq L)(f: ∀x∈l,x∈L)(d:e∈L)(h:l.length<=16777000):Ay (FO (l,e)) λr=>r.1.length<=l.length+1/\ ∀y,y∈r.1↔y∈l\/y=e:=by
 refine(rQ h).mono λr hr=>⟨hr.1,?_⟩
 rcases hr.2 with hr|⟨b,z,a,i⟩;exact hr;have:=c z (f z a) e d i;subst this;intro y;rw[b];exact⟨.inl,λg=>g.elim id λh=>h▸a⟩
def VR.sorted{r:AU}(h:VR r):r.2.2.2.2.2.Pairwise sO:=by
 rw[JL];have step: ∀d i:Nat,∀(a:i<r.2.2.2.2.2.length) (b:i+1+d<r.2.2.2.2.2.length),sO r.2.2.2.2.2[i] r.2.2.2.2.2[i+1+d]:=by
  intro d;induction d with
  |zero=>intro i a b;exact((h.2 (i+1) _ (Az b)).2.2 _ (by omega) (Az a)).1
  |succ d k=>intro i a b;have c:=k i a (by omega);have f:=((h.2 (i+1+(d+1)) _ (Az b)).2.2 _ (by omega) (Az (by omega:i+1+d<_))).1;exact u6 c f
 intro i j a b g;have:=step (j-(i+1)) i a (by omega);have e:i+1+(j-(i+1))=j:=by omega
 simp only[e]at this;exact this
def VR.nd{L:List EN}{r:AU}(c:Uq L)(h:VR r)(b: ∀e∈r.2.2.2.2.2,e∈L):(r.2.2.2.2.2.map (·.1)).Nodup:=by rw[Nm,S5];refine h.sorted.imp_of_mem λ{x y} f g a d=>?_;have:=c x (b x f) y (b y g) d;subst this;exact sP _ a
def VR.runOf{L:List EN}{r:AU}(b:Uq L)(h:VR r)(a: ∀e,e∈r.2.2.2.2.2↔e∈L/\cw e=true/\r.2.2.1<=e.2.2.2.2.2.2.1.1/\e.2.2.2.2.2.2.1.1<=r.2.2.2.1/\r.1<=e.1/\e.1<=r.2.1):be L r:=⟨a,h.nd b λe c=>((a e).1 c).1⟩
def tT{v:EN}:cw v=true↔v.2.1=1\/v.2.1=2:=by unfold cw;simp
def yE{L d:List EN}{F T h g j:Int}(C:Uq L)(B: ∀e∈d,e∈L)(H:d.length≤16777000):
  Ay (Ad (JI (d,(F,(T,(h,(g,j)))))) (false,(0,(F,(T,(h,(g,(j,[])))))))) λr=> ∃a:List EN,r.2=(F,(T,(h,(g,(j,a)))))/\a.length<=d.length/\ ∀y,y∈a↔y∈d/\cw y=true/\h<=y.2.2.2.2.2.2.1.1/\y.2.2.2.2.2.2.1.1<=g/\F<=y.1/\y.1<=T:=by
 refine Ia (λ(s:Bool×(Int×AU))=> ∃(k:Nat) (a:List EN),s.2=((k:Int),(F,(T,(h,(g,(j,a))))))/\k<=d.length/\a.length<=k/\ ∀y,y∈a↔y∈d.take k/\cw y=true/\h<=y.2.2.2.2.2.2.1.1/\y.2.2.2.2.2.2.1.1<=g/\F<=y.1/\y.1<=T) (λs=>d.length-s.2.1.toNat)
  ⟨0,[],rfl,B7 _,Ak _,λy=>by simp⟩ ?_
 rintro⟨M,K⟩ ⟨k,a,rfl,I,J,o⟩;unfold JI;dsimp only;simp only[len];refine AC (λw=>?_) (λw=>Ay.done ⟨a,rfl,by omega,by rw[Cb (by omega)]at o;exact o⟩);refine AB (AE (by omega) w) λv n=>?_;have A:=n.1;rw[DD]at A;have m:d.take (k+1)=d.take k++[v]:=by rw[D5,A];rfl
 rw[AW]
 have c: ∀p:Bool,¬(cw v=true∧h≤v.2.2.2.2.2.2.1.1∧v.2.2.2.2.2.2.1.1≤g∧F≤v.1∧v.1≤T)→
   Ay (some (Step.next (p,((k:Int)+1,(F,(T,(h,(g,(j,a)))))))):Option (Step (Bool×(Int×AU)) (Bool×AU))) (bf (λ(s:Bool×(Int×AU))=> ∃(k:Nat) (a:List EN),s.2=((k:Int),(F,(T,(h,(g,(j,a))))))/\k<=d.length/\a.length<=k/\ ∀y,y∈a↔y∈d.take k/\cw y=true/\h<=y.2.2.2.2.2.2.1.1/\y.2.2.2.2.2.2.1.1<=g/\F<=y.1/\y.1<=T) (λs=>d.length-s.2.1.toNat) (d.length-((k:Nat):Int).toNat)
    λr=> ∃a:List EN,r.2=(F,(T,(h,(g,(j,a)))))/\a.length<=d.length/\ ∀y,y∈a↔y∈d/\cw y=true/\h<=y.2.2.2.2.2.2.1.1/\y.2.2.2.2.2.2.1.1<=g/\F<=y.1/\y.1<=T):=λp hn=>by
  refine Ay.next ⟨k+1,a,rfl,by omega,by omega,λy=>?_⟩ (by dsimp only;omega)
  rw[o,m,Ar,A3];constructor;rintro⟨f,i⟩;exact⟨.inl f,i⟩;rintro⟨f|f,i⟩;exact⟨f,i⟩;subst f;exact absurd i hn
 refine AB Bv λb u=>?_;refine AO (λz=>c _ λl=>?_) (λD=>?_);rw[u.2 (tT.1 l.1)]at z;cases z;have q1:=tT.2 (u.1 D);refine AC (λ_=>c _ λl=>by omega) (λq2=>?_);refine AC (λ_=>c _ λl=>by omega) (λq3=>?_);refine AC (λ_=>c _ λl=>by omega) (λq4=>?_);refine AC (λ_=>c _ λl=>by omega) (λq5=>?_);refine AB (P8 ⟨Ae _,by dsimp only;omega⟩) λG _=>?_;refine AB (pW C (λx E=>B x (Jy ((o x).1 E).1)) (B v n.2) (by omega)) λt q=>?_;refine Ay.next ⟨k+1,t.1,rfl,by omega,by omega,λy=>?_⟩ (by dsimp only;omega)
 rw[q.2,o,m,Ar,A3];constructor;rintro(⟨f,i⟩|f);exact⟨.inl f,i⟩;subst f;exact⟨.inr rfl,q1,by omega⟩;rintro⟨f|f,i⟩;exact .inl ⟨f,i⟩;exact .inr f
def AAQ{L c:List EN}{F T h g j:Int}(n:Uq L)(q: ∀e∈c,e∈L)(p:c.length<=16777000):Ay (Iw (c,(F,(T,(h,(g,j)))))) λr=>r.2=0->VR r.1/\ ∃b:List EN,r.1=(F,(T,(h,(g,(j,b)))))/\ ∀y,y∈b↔y∈c/\cw y=true/\h<=y.2.2.2.2.2.2.1.1/\y.2.2.2.2.2.2.1.1<=g/\F<=y.1/\y.1<=T:=by unfold Iw;refine AB ID λw _=>?_;refine AO (λ_=>AA λa=>absurd (show(1:Int)=0 from a) (by decide)) (λ_=>?_);refine AB (P7 ⟨Ae _,by dsimp only;omega⟩) λx m=>?_;refine A2 (λu i=>AA λa=>absurd a (m u i)) (λu i=>?_);refine AB (yE n q p) λs d=>?_;obtain⟨b,k,v,l⟩:=d;refine AF (λ_=>AA λa=>absurd (show(41:Int)=0 from a) (by decide)) (λ_=>?_);refine AC (λ_=>AA λa=>absurd (show(21:Int)=0 from a) (by decide)) (λ_=>?_);refine AB X8 λt f=>?_;refine AO (λ_=>AA λa=>absurd (show(13:Int)=0 from a) (by decide)) (λo=>AA λ_=>⟨f.1 o,b,k,l⟩)
set_option maxHeartbeats 400000
def vf{x:Int×List Int}(h:BD x.1 x.2):Ay (Fe x) λr=>r.2=0/\VB r.1/\r.1.2.1=x.1/\r.1.2.2.2.1=1:=by refine AB Zx λl c=>?_;refine AO (λb=>(by rw[c.2 h]at b;cases b)) (λ_=>?_);have k:=h.2.2.2.1;refine AB (Ac (by simp;omega)) λm e=>AA ⟨rfl,⟨?_,by dsimp only;decide,by dsimp only;decide,by dsimp only;decide,by dsimp only;decide,by simp,⟨λi f d a=>by simp at a,λi f g d a j=>by simp at a⟩⟩,rfl,rfl⟩;grind
theorem FR.push{l m:List BL}{f:BL}{c:Int}(h:FR l c l.length)(v:1<=c)(r:f.2.1=c)(u:m=l++[f]):FR m (c+1) m.length:=by
 subst u;obtain⟨q,t⟩:=h;have p:(l++[f]).length=l.length+1:=by simp
 have b: ∀(i:Nat) (g:BL),¬i<l.length->(l++[f])[i]? =some g->g=f:=λi g j a=>by
  have o:=Fw a;rw[p]at o;have s:i=l.length:=by omega
  subst s;rw[Cr (Ak _)]at a;simp at a;exact a.symm
 refine⟨λi g j a=>?_,λi g k j a n=>?_⟩;by_cases e:i<l.length;rw[B6 e]at a;have:=q i g (by omega) a;exact⟨this.1,by omega⟩;rw[b i g e a,r];exact⟨by omega,by omega⟩;rw[p]at j;have e:i<l.length:=by omega
 rw[B6 e]at a;by_cases d:i+1<l.length;rw[B6 d]at n;exact t i g k (by omega) a n;rw[b (i+1) k d n,r];exact(q i g (by omega) a).2
def yL{x:AK×Aj×Int}(h:SA x.1)(l:VB x.1):Ay (ET x) λr=>r.2=0->SA r.1/\VB r.1/\r.1.2.1=x.1.2.1/\(r.1.2.2.2.1=x.1.2.2.2.1\/r.1.2.2.2.1<=x.2.1.2.2+1):=by
 unfold ET;refine AB NP λv0 O=>?_;refine AO (λ_=>AA λa=>absurd a (by decide)) (λd=>?_);obtain⟨a1,a2,a3,a4,a5,a6,a7,a8,a9⟩:=O d;refine AB Bp λv1 q=>?_;refine AO (λ_=>AA λa=>absurd a (by decide)) (λm=>?_);obtain⟨l1,l2,l3,l4,l5,Z⟩:=q.1 m;refine AC (λ_=>AA λa=>absurd a (by decide)) (λc1=>?_);refine AC (λ_=>AA λa=>absurd a (by decide)) (λc2=>?_);generalize S:(if(x.2.1.1>x.1.2.2.2.1)then x.2.1.1 else x.1.2.2.2.1)=F;have f1:x.2.1.1<=F/\x.1.2.2.2.1<=F/\F<=1099511627777:=by rw[<-S];split<;>omega
 have D:=AW (x:=F+x.2.2);have E:=AW (x:=F+x.2.2-1);rw[D,E];generalize T:(if(x.2.1.2.2<(F+x.2.2-1))then x.2.1.2.2 else(F+x.2.2-1))=G;have g1:G<=x.2.1.2.2/\G<=F+x.2.2-1:=by rw[<-T];split<;>omega
 refine AC (λ_=>AA λ_=>⟨h,l,rfl,.inl rfl⟩) (λc3=>?_);have H:=AW (x:=F-x.2.1.1);have I:=AW (x:=G-x.2.1.1);have J:=AW (x:=G-x.2.1.1+1);rw[H,I,J];have K:=AW (x:=len x.1.2.2.1+len x.1.1) (by simp only[len];omega);have L:=AW (x:=x.1.2.2.2.2+len x.1.1) (by simp only[len];omega);have M:=AW (x:=G+1);rw[K,L,M];have U:G<=1099511627776:=by
  have X:x.2.1.2.1.length≠0:=by omega
  obtain⟨i,n⟩: ∃i,x.2.1.2.1[x.2.1.2.1.length-1]? =some i:=⟨_,Az (by omega)⟩
  have:=Z _ i n;have q:=this.1;have t:=this.2.2.1;omega
 refine AC (λ_=>AA λa=>absurd a (by decide)) (λB=>?_);refine AC (λ_=>AA λa=>absurd a (by decide)) (λC=>?_);simp only[len]at B C;refine AB (Bu) λv2 t=>?_;have W:=t.2;refine AB (P9 ⟨Ae _,by dsimp only;omega,by omega⟩) λv8 R=>?_;refine A2 (λu b=>AA λa=>absurd a (R u b)) (λu b=>?_);refine AB (Ac (by simp;omega)) λad j=>?_;have c:=j.1;rw[CD]at c;refine AB (P:=λr=>(∀u,r= .inl u->u.1≠0)/\ ∀u,r= .inr u->u.2.1=x.1.1/\u.1.length<=256/\(∀f∈u.1,f.2.2.length<=1099511627776)/\u.2.2.1=x.1.2.1/\u.2.2.2.2.1=x.1.2.2.2.2+x.1.1.length/\FR u.1 u.2.2.2.2.1 u.1.length) ?_ λr hr=>A2 (λu b=>AA λa=>absurd a (hr.1 u b)) (λu b=>AA λ_=>?_);refine AM (λ(s:Int×(List BL)×(List Int)×Int×Int×Int×AK)=>0<=s.1/\s.1<=x.1.1.length/\s.2.2.1=x.1.1/\(s.2.1.length:Int)=x.1.2.2.1.length+s.1/\(∀f∈s.2.1,f.2.2.length<=1099511627776)/\s.2.2.2.1=x.1.2.1/\s.2.2.2.2.2.1=x.1.2.2.2.2+s.1/\FR s.2.1 s.2.2.2.2.2.1 s.2.1.length) (λ(s:Int×(List BL)×(List Int)×Int×Int×Int×AK)=>((x.1.1.length:Int)-s.1).toNat) ⟨Ae _,by dsimp only;omega,rfl,by dsimp only;rw[c];omega,by dsimp only;rw[c];exact h.2.2,rfl,by dsimp only;omega,by dsimp only;rw[c];exact l.2.2.2.2.2.2⟩ (λs V=>?_);obtain⟨Y,i2,v,i4,y,z,i7,A⟩:=V;unfold NO;have e:=AW (x:=s.1+1);rw[e];refine AC (λd=>?_) (λd=>AA ⟨λu b=>(by cases b),λu b=>(by cases b;simp only[len]at d;exact⟨v,by omega,y,z,by omega,A⟩)⟩);simp only[len]at d;refine AB (Rh a4 ⟨Y,d⟩) λal _=>?_;refine AB (bI (by dsimp only;omega)) λap Q=>?_;refine AL (λd=>AA ⟨λu b=>(by cases b;exact d),λu b=>(by cases b)⟩) (λ_=>?_);refine AB Xx λar k=>?_;refine AB (Ac (by simp;omega)) λax g=>AA ?_;have p:=g.2.1;simp only[BV,Bt]at p;have N:=AW (x:=s.2.2.2.2.2.1+1);rw[N];refine⟨⟨by dsimp only;omega,by dsimp only;omega,v,by dsimp only;omega,λf o=>?_,z,by dsimp only;omega,A.push (by omega) rfl g.1⟩,by dsimp only;omega⟩;dsimp only at o;rw[g.1]at o;rcases Ar.1 o with w|w;exact y f w;simp at w;rw[w];exact k;obtain⟨q1,q2,q3,q4,q5,q6⟩:=hr.2 u b;refine⟨⟨by dsimp only;rw[q1];exact a4,by dsimp only;omega,q3⟩,⟨?_,by dsimp only;omega,by dsimp only;omega,by dsimp only;omega,by dsimp only;omega,q2,q6⟩,q4,.inr (by dsimp only;omega)⟩;dsimp only;rw[q1,q4];exact l.1
def FP(l:List BL)(m:Int):Prop:=(∀f∈l,0<f.2.1/\f.2.1<m)/\l.Pairwise λf g=>f.2.1<g.2.1
def sD{l:List BL}{m:Int}(h:FP l m):FR l m l.length:=by refine⟨λi f e a=>h.1 f (BJ a),λi f g e a d=>?_⟩;have b:=Fw a;have c:=Fw d;have:=JL.1 h.2 i (i+1) b c (by omega);grind
def FR.fp{l:List BL}{m:Int}(h:FR l m l.length):FP l m:=by
 refine⟨λf e=>?_,JL.2 λi j b c g=>?_⟩;obtain⟨i,b⟩:=F8.1 e;have:=Fw b;exact h.1 i f (by omega) b;obtain⟨d,rfl⟩: ∃d,j=i+1+d:=⟨j-(i+1),by omega⟩
 induction d with
 |zero=>exact h.2 i _ _ (by omega) (Az b) (Az c)
 |succ d k=>
  have a:i+1+d<l.length:=by omega
  have n:=k a (by omega);have o:=h.2 (i+1+d) l[i+1+d] l[i+1+(d+1)] (by omega) (Az a) (Az c);omega
def FR.sub{l k:List BL}{m:Int}(h:FR l m l.length)(a:k.Sublist l):FR k m k.length:=sD ⟨λf b=>h.fp.1 f (a.subset b),h.fp.2.sublist a⟩
def uV{b:AT}{x:List BL}{m:Int}(v:FR x m x.length)(h:CX b)(hx:x.length<=1000000)(j: ∀f∈x,f.2.2.length<=1099511627776):Ay (Fh b x) λr=>CX r.2/\r.1.length<=x.length/\FR r.1 m r.1.length/\ ∀f∈r.1,f.2.2.length<=1099511627777:=by
 unfold Fh;refine AQ (λ_=>AA ⟨h,by simp,⟨λi f s j=>by simp at j,λi f g s j c=>by simp at j⟩,λf j=>by simp at j⟩) (λA=>?_);simp only[len]at A;refine AB (Aa h (by simp only[len];omega)) λd Q=>?_;obtain⟨M,t,N⟩:=Q;simp only[len]at N;have e:=AW (x:=d.1+1);rw[e];refine AB (Aa M (by decide)) λv1 D=>?_;refine AQ (λ_=>?_) (λ_=>?_);refine AB (Bu (Ae _) t) λv2 E=>?_;refine AB (Bu (by omega) (by simp only[len];omega) (by simp only[len];omega)) λv3 F=>?_;have l2:=E.2;have T:=F.2;simp only[len]at T;refine AB (Ac (by simp;omega)) λv4 G=>?_;have U:=G.2.1;simp only[Bt]at U;refine AB (Ac (by omega)) λY H=>AA ⟨D.1,?_,?_⟩;have l5:=H.2.1;dsimp only;omega;have J:Y.Sublist x:=by
  rw[H.1,G.1,E.1,F.1,CD];have O:x=x.take d.1.toNat++x.drop d.1.toNat:=(F9 _ _).symm;suffices n:((x.drop (0:Int).toNat).take (d.1.toNat-(0:Int).toNat)++(x.drop (d.1+1).toNat).take ((len x).toNat-(d.1+1).toNat)).Sublist (x.take d.1.toNat++x.drop d.1.toNat) by rw[<-O]at n;exact n
  apply List.Sublist.append;simp;apply (List.take_sublist _ _).trans;have P:(d.1+1).toNat=d.1.toNat+1:=by omega
  rw[P,<-PZ];exact List.drop_sublist _ _
 exact⟨v.sub J,λf l=>by have:=j f (J.subset l);omega⟩;refine AB (Ac (by simp;omega)) λy R=>?_;have C:=R.1;rw[CD]at C;subst C;refine AB (AE t) λv7 _=>?_;refine AB (AE t) λK z=>?_;refine AB (Ti D.1 (j _ z.2)) λL I=>?_;refine AB (AE t) λX _=>?_;refine AB (AE t) λa u=>AA ⟨I.1,by simp[BR],?_,λf l=>?_⟩;have q:=v.fp;have Z:K=a:=by have:=z.1;rw[u.1]at this;exact(Ch this).symm
 have key: ∀(i:Nat) (g:BL),(BR y d.1 (a.1,(a.2.1,L.1)))[i]? =some g-> ∃k,y[i]? =some k/\k.2.1=g.2.1:=λi g c=>by simp only[BR]at c;rw[Uv]at c;split at c;rename_i s;subst s;split at c;exact⟨a,u.1,by rw[<-Ch c]⟩;cases c;exact⟨g,c,rfl⟩
 have el:(BR y d.1 (a.1,(a.2.1,L.1))).length=y.length:=by simp[BR]
 refine⟨λi g s c=>?_,λi g k s c S=>?_⟩;obtain⟨p,B,W⟩:=key i g c;have:=v.1 i p (by dsimp only at s;omega) B;omega;obtain⟨p,B,W⟩:=key i g c;obtain⟨o,V,o2⟩:=key (i+1) k S;have:=v.2 i p o (by dsimp only at s;omega) B V;omega;simp only[BR]at l;rcases Nl l with w|w;have:=j f w;omega;rw[w];have:=I.2;have:=j K z.2;dsimp only;omega
def yF(L:List EN)(a:AK)(F G s:Int)(nf:List BL):Prop:= ∀(j:Nat) (f:BL),nf[j]? =some f->
 ∃r,f=(1,(s+j,L3 r))/\VR r/\be L r/\r.1=F/\r.2.1=G/\a.1[j]? =some r.2.2.1/\r.2.2.2.1=qN a j
def D2.uq{l:Aj}(h:D2 l):Uq l.2.1:=λx b y c a=>Um h.nodup b c a
def uy{l:Aj}(h:D2 l){F G:Int}{v:List EN}(g:l.1<=F)(i:F<=G)(j:G<=l.1+l.2.1.length-1)(b:v=(l.2.1.drop (F-l.1).toNat).take ((G-l.1+1).toNat-(F-l.1).toNat))(e:EN):e∈v↔e∈l.2.1/\F<=e.1/\e.1<=G:=by subst b;obtain⟨l1,l2,m,n,o,c⟩:=h;rw[F8,F8];constructor;rintro⟨k,a⟩;rw[RH]at a;grind;rintro⟨⟨k,a⟩,d,f⟩;have:=(c _ e a).1;refine⟨k-(F-l.1).toNat,?_⟩;rw[RH,if_pos (by omega),OU,show(F-l.1).toNat+(k-(F-l.1).toNat)=k by omega,a]
def rS{x:AK×Aj×Int}(h:SA x.1)(hb:VB x.1)(q:D2 x.2.1):Ay (ET x) λr=>r.2=0→r.1=x.1∨
  ∃F G a,r.1=(x.1.1,(x.1.2.1,(x.1.2.2.1++a,(G+1,x.1.2.2.2.2+a.length))))/\x.1.2.2.2.1<=F/\F<=G/\a.length=x.1.1.length/\yF x.2.1.2.1 x.1 F G x.1.2.2.2.2 a:=by
 unfold ET;refine AB NP λv0 X=>AO (λ_=>AA λb=>absurd (show(54:Int)=0 from b) (by decide)) (λi=>?_);obtain⟨a1,a2,a3,a4,a5,a6,a7,a8,a9⟩:=X i;refine AB Bp λv1 h1=>AO (λ_=>AA λb=>absurd (show(26:Int)=0 from b) (by decide)) (λad=>?_);obtain⟨l1,l2,l3,l4,l5,l6⟩:=id q;refine AC (λ_=>AA λb=>absurd (show(1:Int)=0 from b) (by decide)) (λc1=>AC (λ_=>AA λb=>absurd (show(1:Int)=0 from b) (by decide)) (λc2=>?_));have o: ∃F,(if(x.2.1.1>x.1.2.2.2.1)then x.2.1.1 else x.1.2.2.2.1)=F:=⟨_,rfl⟩
 obtain⟨F,o⟩:=o;have W:x.2.1.1<=F/\x.1.2.2.2.1<=F/\F<=1099511627777:=by grind
 have C:=AW (x:=F+x.2.2);have D:=AW (x:=F+x.2.2-1);have p: ∃G,(if(x.2.1.2.2<(F+x.2.2-1))then x.2.1.2.2 else(F+x.2.2-1))=G:=⟨_,rfl⟩
 obtain⟨G,p⟩:=p;have g1:G<=x.2.1.2.2/\G<=F+x.2.2-1:=by grind
 rw[o,C,D,p];refine AC (λ_=>AA λ_=>.inl rfl) (λc3=>?_);have Q:=AW (x:=F-x.2.1.1);have R:=AW (x:=G-x.2.1.1);have S:=AW (x:=G-x.2.1.1+1);rw[Q,R,S];have T:=AW (x:=len x.1.2.2.1+len x.1.1) (by simp only[len];omega);have U:=AW (x:=x.1.2.2.2.2+len x.1.1) (by simp only[len];omega);have V:=AW (x:=G+1);rw[T,U,V];refine AC (λ_=>AA λb=>absurd (show(21:Int)=0 from b) (by decide)) (λN=>AC (λ_=>AA λb=>absurd (show(21:Int)=0 from b) (by decide)) (λO=>?_));simp only[len]at N O;refine AB (Bu) λv2 E=>?_;have al:=E.2;have l:=uy q (F:=F) (G:=G) W.1 (by omega) (by omega) E.1;refine AB (P9 ⟨Ae _,by dsimp only;omega,by omega⟩) λv8 Z=>A2 (λu c=>AA λb=>absurd b (Z u c)) (λu c=>AB (Ac (by simp;omega)) λap t=>?_);have g:=t.1;rw[CD]at g;subst g;refine AB (P:=λr=>(∀u,r= .inl u->u.1≠0)/\ ∀u,r= .inr u-> ∃(a:List BL),(u.1,(u.2.1,(u.2.2.1,(u.2.2.2.1,u.2.2.2.2.1))))=(x.1.2.2.1++a,(x.1.1,(x.1.2.1,(x.1.2.2.2.1,x.1.2.2.2.2+a.length))))/\a.length=x.1.1.length/\yF x.2.1.2.1 x.1 F G x.1.2.2.2.2 a) ?_ λr hr=>A2 (λu c=>AA λb=>absurd b (hr.1 u c)) (λu c=>AA λ_=>.inr ?_)
 ·refine Ia (λ(s:Int×(List BL)×(List Int)×Int×Int×Int×AK)=> ∃(k:Nat) (a:List BL) (z:AK),s=((k:Int),(x.1.2.2.1++a,(x.1.1,(x.1.2.1,(x.1.2.2.2.1,(x.1.2.2.2.2+(k:Int),z))))))/\k<=x.1.1.length/\a.length=k/\yF x.2.1.2.1 x.1 F G x.1.2.2.2.2 a) (λs=>x.1.1.length-s.1.toNat)
   ⟨0,[],u,by simp,B7 _,rfl,λj f d=>by simp at d⟩ ?_
  rintro s ⟨k,a,z,rfl,i2,A,I⟩;unfold NO;dsimp only;simp only[len];rw[o,C,D,p];refine AC (λi=>?_) (λi=>Ay.done ⟨λu c=>(by cases c),λu c=>(by cases c;exact⟨a,by dsimp only;rw[A],by omega,I⟩)⟩);have H:x.1.1[k]? =some (x.1.1[k]'(by omega)):=Az (by omega);rw[pX hb.1 H,AI];refine AB (AAQ q.uq (λe he=>((l e).1 he).1) (by omega)) λn v=>AL (λi=>Ay.done ⟨λu c=>(by cases c;exact i),λu c=>(by cases c)⟩) (λb=>?_);obtain⟨B,es,m,m3⟩:=v b;rw[ja B,AI];refine AB (Ac (by simp;omega)) λar Y=>?_;rw[AW (x:=x.1.2.2.2.2+(k:Int)+1),AW (x:=(k:Int)+1)];refine Ay.next ⟨k+1,a++[(1,(x.1.2.2.2.2+(k:Int),L3 n.1))],z,?_,by omega,by rw[Ag,A];rfl,λj f d=>?_⟩ (by dsimp only;omega)
  grind;by_cases hj:j<a.length;rw[B6 hj]at d;exact I j f d;have y:=Fw d;rw[Ag,BV,Bt]at y;have w:j=k:=by omega
  subst w;rw[Cr (by omega),A,IU]at d;injection d with d;subst d;refine⟨n.1,rfl,B,B.runOf q.uq λe=>?_,by rw[m],by rw[m],by rw[m];exact H,by rw[m]⟩;rw[m];dsimp only;rw[m3,l];constructor;grind;rintro⟨q1,q2,q3,q4,q5,q6⟩;exact⟨⟨q1,q5,q6⟩,q2,q3,q4,q5,q6⟩
 obtain⟨a,q1,q2,q3⟩:=hr.2 u c;refine⟨F,G,a,?_,by omega,by omega,q2,q3⟩;have J:=congrArg (·.1) q1;have K:=congrArg (·.2.1) q1;have L:=congrArg (·.2.2.1) q1;have M:=congrArg (·.2.2.2.2) q1;dsimp only at J K L M;dsimp only;rw[J,K,L,M]
def Ks.congr{a b:AK}(e:b.1=a.1)(f:b.2.1=a.2.1){d c:Int}:Ks a d c↔Ks b d c:=by unfold Ks qN;rw[e,f]
def Good.congr{a b:AK}(c:b.1=a.1)(d:b.2.1=a.2.1){f:BL}{r:AU}(h:Good a f r):Good b f r:=⟨h.1,h.2.1,h.2.2.1,(Ks.congr c d).1 h.2.2.2⟩
def Good.run{a:AK}{f:BL}{r s:AU}(h:Good a f r)(g:Good a f s):r=s:=wS h.2.2.1 g.2.2.1 (h.2.1.symm.trans g.2.1)
def AR.step{L:List EN}{a b:AK}{F G:Int}{u:List BL}(h:AR L a)(e:b=(a.1,(a.2.1,(a.2.2.1++u,(G+1,a.2.2.2.2+u.length)))))(hF:a.2.2.2.1<=F)(hG:F<=G)(hn:yF L a F G a.2.2.2.2 u)(D:VB b):AR L b/\(AG a->AG b)/\ ∀c,RC a c->RC b (c+1):=by
 have P:b.1=a.1:=by rw[e]
 have Q:b.2.1=a.2.1:=by rw[e]
 have Y:b.2.2.1=a.2.2.1++u:=by rw[e]
 have h4:b.2.2.2.1=G+1:=by rw[e]
 have t: ∀f∈u,∃(j:Nat) (r:AU),Good b f r/\be L r/\r.1=F/\r.2.1=G/\a.1[j]? =some r.2.2.1/\u[j]? =some f:=λf k=>by obtain⟨j,hj⟩:=F8.1 k;obtain⟨r,m,M,z,r4,W,S,r7⟩:=hn j f hj;refine⟨j,r,⟨by rw[m],by rw[m],M,(Ks.congr P Q).1 ⟨j,S,r7⟩⟩,z,r4,W,S,hj⟩
 have K: ∀f∈a.2.2.1,Bad f\/ ∃r,Good b f r/\be L r/\r.2.1<a.2.2.2.1:=λf k=>(h.files f k).imp id λ⟨r,m,M,z⟩=>⟨r,m.congr P Q,M,z⟩
 have d: ∀x∈E4 b,(x∈E4 a/\x.1.2.1<a.2.2.2.1)\/ ∃(j:Nat) (f:BL),u[j]? =some f/\Good b f x.1/\x.2=f.2.1/\x.1.1=F/\a.1[j]? =some x.1.2.2.1:=λx p=>by unfold E4 at p;rw[Y]at p;obtain⟨f,k,o⟩:=Nj.1 p;rcases Ar.1 k with k|k;rcases K f k with E|⟨r,m,M,z⟩;rw[E.intR D.1]at o;cases o;rw[m.intR D.1]at o;injection o with o;subst o;exact .inl ⟨Uz h.vb.1 k (m.congr P.symm Q.symm),z⟩;obtain⟨j,r,m,M,z,r4,W,S⟩:=t f k;rw[m.intR D.1]at o;injection o with o;subst o;exact .inr ⟨j,f,S,m,rfl,z,W⟩
 refine⟨⟨D,λf k=>?_,λx p y R J s=>?_⟩,λU f k=>?_,λc Z w=>?_⟩;grind;rcases d x p with⟨n,A⟩|⟨i,f,n,A,N,x4,B⟩;rcases d y R with⟨l,C⟩|⟨j,g,l,C,T,y4,O⟩;exact h.dis x n y l J s;grind;rcases d y R with⟨l,C⟩|⟨j,g,l,C,T,y4,O⟩;exact .inr (by omega);rw[<-s]at O;have v:=h.vb.1.inj B O;subst v;rw[n]at l;injection l with l;subst l;exact absurd (HZ (A.run C) (N.trans T.symm)) J;rw[Y]at k;rcases Ar.1 k with k|k;obtain⟨r,hr⟩:=U f k;exact⟨r,hr.congr P Q⟩;obtain⟨j,r,m,_⟩:=t f k;exact⟨r,m⟩;have I:=(Tp D).filter λe=>e.1.2.2.1==w;by_cases H: ∃y∈(E4 b).filter (λe=>e.1.2.2.1==w),∃(j:Nat) (f:BL),u[j]? =some f/\Good b f y.1/\y.2=f.2.1/\a.1[j]? =some y.1.2.2.1;obtain⟨y,R,j,g,l,C,T,O⟩:=H;have V:y.1.2.2.1=w:=eq_of_beq (Bc.1 R).2;have:=eE _ (y::(E4 a).filter λe=>e.1.2.2.1==w) I λx p=>by obtain⟨X,q⟩:=Bc.1 p;rcases d x X with⟨n,_⟩|⟨i,f,n,A,N,x4,B⟩;exact An.2 (.inr (Bc.2 ⟨n,q⟩));rw[eq_of_beq q,<-V]at B;have v:=h.vb.1.inj B O;subst v;rw[n]at l;injection l with l;subst l;exact An.2 (.inl (HZ (A.run C) (N.trans T.symm)))
 rw[BV]at this;have:=Z w;omega;have:=eE _ ((E4 a).filter λe=>e.1.2.2.1==w) I λx p=>by obtain⟨X,q⟩:=Bc.1 p;rcases d x X with⟨n,_⟩|⟨i,f,n,A,N,x4,B⟩;exact Bc.2 ⟨n,q⟩;exact absurd ⟨x,p,i,f,n,A,N,B⟩ H
 have:=Z w;omega
def SF(a:AK)(m:Int):Prop:=a.2.2.2.2+a.2.2.1.length<=m
def yK{x:AK×Aj×Int}{m:Int}(h:AR x.2.1.2.1 x.1)(j:D2 x.2.1)(o:SF x.1 m):Ay (ET x) λr=>r.2=0->AR x.2.1.2.1 r.1/\(AG x.1->AG r.1)/\(∀c,RC x.1 c->RC r.1 (c+1))/\SF r.1 (m+32)/\r.1.2.1=x.1.2.1/\(r.1.2.2.2.1=x.1.2.2.2.1\/r.1.2.2.2.1<=x.2.1.2.2+1):=by refine((yL h.sa h.vb).and (rS h.sa h.vb j)).mono λr hr a=>?_;obtain⟨q1,q2,q3,q4⟩:=hr.1 a;rcases hr.2 a with e|⟨F,G,p,b,d,f,n,g⟩;rw[e];exact⟨h,id,λc i l=>Nat.le_succ_of_le (i l),by unfold SF at*;omega,rfl,.inl rfl⟩;have k:=h.step b d f g q2;have:=h.sa.1;unfold SF at*;grind
def zq{d e:Type}(l:List d)(m:List e)(n:Nat):l.zip m=(l.take n).zip (m.take n)++(l.drop n).zip (m.drop n):=by
 induction n generalizing l m with
 |zero=>simp
 |succ n c=>
  cases l with
  |nil=>simp
  |cons a l=>
   cases m with
   |nil=>simp
   |cons b m=>rw[fJ,fJ,iM,iM,S7,S7,Do,<-c l m]
def ABP{c d:Type}{l:List c}{m:List d}{k:Nat}{a:c}{b:d}(e:l[k]? =some a)(f:m[k]? =some b):(a,b)∈l.zip m:=by refine F8.2 ⟨k,?_⟩;rw[iT];exact⟨e,f⟩
def vo{x:AK}{L:List EN}{U:Int×List AU×List Int×List Bool}(h:AR L x)(b:0<=U.1):Ay (Ad (Gz x U) ([],([],0))) λr=>r.2.length=r.1.length/\ ∀p∈r.1.zip r.2,p∈E4 x:=by
 obtain⟨⟨b1,b2,b3,b4,b5,b6,b7⟩,a1,a2,a3,a4,a5,a6⟩:=h.vb;refine Ia (λ(s:List AU×List Int×Int)=>0<=s.2.2/\s.2.2<=x.2.2.1.length/\s.2.1.length=s.1.length/\s.1.length<=s.2.2/\ ∀p∈s.1.zip s.2.1,p∈E4 x) (λ(s:List AU×List Int×Int)=>((x.2.2.1.length:Int)-s.2.2).toNat) ⟨Ae _,by dsimp only;omega,rfl,by simp,λp b=>by simp at b⟩ (λs X=>?_);obtain⟨S,i2,T,i4,u⟩:=X;unfold Gz;have e:=AW (x:=s.2.2+1);rw[e];refine AC (λE=>?_) (λ_=>Ay.done ⟨T,u⟩);simp only[len]at E;refine AB (AE S E) λv D=>?_;have q: ∃w,Du (x,v)=some w/\(w.2= -1\/Good x v w.1):=by rcases h.files v D.2 with Y|⟨r,R,_⟩;obtain⟨r,hr⟩:=Y.ref (a:=x);exact⟨_,hr,.inl rfl⟩;obtain⟨k,hk,ad⟩:=R.ref h.vb.1;exact⟨_,hk,.inr R⟩
 obtain⟨w,F,t⟩:=q;rw[F,AI];refine AL (λ_=>Ay.next ⟨by dsimp only;omega,by dsimp only;omega,T,by dsimp only;omega,u⟩ (by dsimp only;omega)) (λZ=>?_);have c:Good x v w.1:=t.elim (λhz=>absurd hz (by omega)) id;refine AB (PR ⟨by simp only[len];omega,by simp only[len];omega,by omega⟩) λy o=>?_;refine AB (Bu (Ae _) o.1 o.2) λv8 P=>?_;refine AB (Bu o.1 (by simp only[len];omega) (by simp only[len];omega)) λv9 Q=>?_;have l8:=P.2;have l9:=Q.2;simp only[len]at l9;refine AB (Ac (by simp;omega)) λax d=>?_;have G:=d.2.1;simp only[Bt]at G;refine AB (Ac (by simp;omega)) λa0 f=>?_;have H:=f.2.1;simp only[Bt,BV]at H;refine AB (Ac (by omega)) λa7 g=>?_;have al:=g.2.1;refine AB (Bu (Ae _) o.1) λM i=>?_;have ap:=i.2;refine AB (AE S E) λN C=>?_;refine AB (Bu o.1 (by simp only[len];omega) (by simp only[len];omega)) λO j=>?_;have I:=j.2;simp only[len]at I;refine AB (Ac (by simp;omega)) λa8 l=>?_;have J:=l.2.1;simp only[Bt]at J;refine AB (Ac (by simp;omega)) λa9 m=>?_;have K:=m.2.1;simp only[Bt,BV]at K;refine AB (Ac (by omega)) λa' n=>?_;have ar:=n.2.1;have A:N=v:=by have:=C.1;rw[D.1]at this;exact(Ch this).symm
 have V:v8=s.1.take y.toNat:=by rw[P.1];simp
 have W:v9=s.1.drop y.toNat:=by rw[Q.1];exact Cb (by rw[G9];simp only[len];omega)
 have z:M=s.2.1.take y.toNat:=by rw[i.1];simp
 have B:O=s.2.1.drop y.toNat:=by rw[j.1];exact Cb (by rw[G9];simp only[len];omega)
 refine Ay.next ⟨by dsimp only;omega,by dsimp only;omega,by dsimp only;omega,by dsimp only;omega,λp b=>?_⟩ (by dsimp only;omega)
 dsimp only at b;rw[g.1,f.1,d.1,n.1,m.1,l.1,V,W,z,B,CD,CD]at b;rw[Zp (by simp only[Ag,CH,BV,Bt];omega),Zp (by simp only[CH];omega)]at b;rw[zq s.1 s.2.1 y.toNat]at u;rcases Ar.1 b with b|b;rcases Ar.1 b with b|b;exact u p (Ar.2 (.inl b));rw[S7,fK,A3]at b;rw[b,A];exact Uz h.vb.1 D.2 c;exact u p (Ar.2 (.inr b))
def Wh(x:AK)(t:List AU×List Int×List Bool):Prop:= ∀p∈(t.1.zip t.2.1).zip t.2.2,p.2=true->p.1∈E4 x
def vp{x:AK}{a:List AU×List Int}{n:Int}{t:List AU×List Int×List Bool}(h:a.2.length=a.1.length/\a.1.length<=256/\RL a.1)(hn:n<=100000)(k:T3 n t)(J: ∀p∈a.1.zip a.2,p∈E4 x)(I:Wh x t):Ay (Ad (G0 a) (0,(0,t))) λr=>Wh x r:=by
 refine Ia (λ(s:Int×Int×List AU×List Int×List Bool)=>0<=s.2.1/\s.2.1<=a.1.length/\T3 (n+s.2.1) s.2.2/\Wh x s.2.2) (λ(s:Int×Int×List AU×List Int×List Bool)=>((a.1.length:Int)-s.2.1).toNat) ⟨Ae _,by dsimp only;omega,by simpa using k,I⟩ (λs H=>?_);obtain⟨l,U,⟨E,K,V,F⟩,z⟩:=H;obtain⟨S,T,G⟩:=h;unfold G0;have e:=AW (x:=s.2.1+1);rw[e];refine AC (λj=>?_) (λ_=>Ay.done z);simp only[len]at j;refine AB (AE l j) λL _=>?_;refine AC (λ_=>Ay.next ⟨by dsimp only;omega,by dsimp only;omega,⟨E,K,by dsimp only;omega,F⟩,z⟩ (by dsimp only;omega)) (λ_=>?_);refine AB (AE l j) λD d=>?_;refine AB (AE l) λM q=>?_;refine AB (AE l j) λm u=>?_;have o:m=D:=by have:=u.1;rw[d.1]at this;exact(Ch this).symm
 subst o;refine EM (QA (G m d.2)) λN b v=>?_;refine AB (Ac (by simp;omega)) λO f=>?_;have A:=f.2.1;simp only[Bt,BV]at A;refine AB (Ac (by simp;omega)) λP g=>?_;have B:=g.2.1;simp only[Bt,BV]at B;refine AB (Ac (by simp;omega)) λQ i=>?_;have C:=i.2.1;simp only[Bt,BV]at C;refine AB (AE l j) λR _=>?_;refine Ay.next ⟨by dsimp only;omega,by dsimp only;omega,⟨by dsimp only;omega,by dsimp only;omega,by dsimp only;omega,λr hr=>?_⟩,λp c k=>?_⟩ (by dsimp only;omega)
 dsimp only at hr;rw[f.1]at hr;rcases Ar.1 hr with w|w;exact F r w;simp at w;rw[w];exact v;dsimp only at c;rw[f.1,g.1,i.1,Zp E.symm,Zp (by rw[List.length_zip];omega)]at c;rcases Ar.1 c with c|c;exact z p c k;rw[S7,fK,S7,fK,A3]at c;subst c;dsimp only at k⊢;have y:=of_decide_eq_true k;unfold HK at b;dsimp only at b;rw[decide_eq_true y,cond_true]at b;injection b with b;rw[<-b];exact J _ (ABP d.1 q.1)
def vn{x:AK}{L:List EN}(h:AR L x):Ay (Kp x) λr=>T3 4096 r/\Wh x r:=by have m:=h.sa;unfold Kp;refine AB NP λt k=>?_;refine AO (λ_=>AA ⟨⟨rfl,rfl,by simp,λr hr=>by simp at hr⟩,λp f=>by simp at f⟩) (λd=>?_);have g:=k d;have a4:=g.2.2.2.1;refine AB (P:=λr=>T3 4096 r/\Wh x r) ?_ λr hr=>AA hr;refine Ia (λ(s:Int×List AU×List Int×List Bool)=>0<=s.1/\s.1<=x.1.length/\T3 (256*s.1) s.2/\Wh x s.2) (λ(s:Int×List AU×List Int×List Bool)=>((x.1.length:Int)-s.1).toNat) ⟨Ae _,by dsimp only;omega,⟨rfl,rfl,by simp,λr hr=>by simp at hr⟩,λp f=>by simp at f⟩ (λs l=>?_);obtain⟨i,q,c,j⟩:=l;unfold Qk;have e:=AW (x:=s.1+1);rw[e];refine AC (λd=>?_) (λ_=>Ay.done ⟨⟨c.1,c.2.1,by have:=c.2.2.1;omega,c.2.2.2⟩,j⟩);simp only[len]at d;refine AB ((Vo g m i).and (vo h i)) λn b=>?_;refine AB ((Vp b.1 (by omega) c).and (vp b.1 (by omega) c b.2.2 j)) λo a=>?_;exact Ay.next ⟨by dsimp only;omega,by dsimp only;omega,⟨a.1.1,a.1.2.1,by have:=a.1.2.2.1;dsimp only;omega,a.1.2.2.2⟩,a.2⟩ (by dsimp only;omega)
def ur{L:List EN}{x:List AU×List Bool}{k:Nat}{z t:AU}{F T lo hi lv:Int}{b:List EN}(m:Uq L)(p:x.1[k]? =some t)(g: ∀e∈t.2.2.2.2.2,e∈L)(q:t.2.2.2.2.2.length≤4096)(n: ∀e∈b,e∈L)(A:b.length≤1000000){o:AU}:
  Ay (Ad (G1 x ((k:Int),(o,z))) (0,(F,(T,(lo,(hi,(lv,b))))))) λr=> ∃a:List EN,r=(F,(T,(lo,(hi,(lv,a)))))/\a.length<=b.length+4096/\ ∀y,y∈a↔y∈b\/y∈t.2.2.2.2.2:=by
 have d:ix x.1 (k:Int)=some t:=by unfold ix;rw[if_pos (by omega),Int.toNat_natCast,p]
 refine Ia (λ(s:Int×AU)=> ∃(j:Nat) (a:List EN),s=((j:Int),(F,(T,(lo,(hi,(lv,a))))))/\j<=t.2.2.2.2.2.length/\a.length<=b.length+j/\ ∀y,y∈a↔y∈b\/y∈t.2.2.2.2.2.take j) (λs=>t.2.2.2.2.2.length-s.1.toNat)
  ⟨0,b,rfl,B7 _,by omega,λy=>by simp⟩ ?_
 rintro s ⟨j,a,rfl,B,C,l⟩;unfold G1;rw[d,AI];simp only[len];refine AC (λf=>?_) (λf=>Ay.done ⟨a,rfl,by omega,by grind⟩);rw[AI];refine AB (AE (by omega) f) λv i=>?_;have c:=i.1;rw[DD]at c;refine AB (pW m (λe h=>((l e).1 h).elim (n e) λh=>g e (Jy h)) (g v i.2) (by omega)) λw u=>?_;rw[AW];refine Ay.next ⟨j+1,w.1,by grind,by omega,by omega,λy=>?_⟩ (by omega)
 rw[u.2,l,D5,c,Jz,Ar,A3,or_assoc]
def m9(x:List AU×List Bool)(lo hi:Int)(k:Nat):Prop:=x.2[k]? =some true/\ ∃r,x.1[k]? =some r/\r.2.2.1=lo/\r.2.2.2.1=hi/\(0<k-> ∀p,x.1[k-1]? =some p->r.1=p.2.1+1)
def yw{L:List EN}{x:List AU×List Bool}{a m:AU}(hL:Uq L)(h: ∀(k:Nat) (r:AU),x.1[k]? =some r→x.2[k]? =some true→VR r∧ ∀e∈r.2.2.2.2.2,e∈L)(h1:1≤x.1.length∧x.1.length≤8)(h2:x.2.length=x.1.length)(W:x.1[0]? =some a)(X:x.1[x.1.length-1]? =some m):
  Ay (Kq x) λr=>r.2=true->VR r.1/\ ∃(f:Int) (b:List EN),r.1=(a.1,(m.2.1,(a.2.2.1,(a.2.2.2.1,(f,b)))))/\(∀k,k<x.1.length->m9 x a.2.2.1 a.2.2.2.1 k)/\ ∀y,y∈b↔ ∃(k:Nat) (r:AU),x.1[k]? =some r/\y∈r.2.2.2.2.2:=by
 have G:ix x.1 0=some a:=by unfold ix;rw[if_pos (by omega)];exact W
 have R:ix x.1 (wi (len x.1-1))=some m:=by rw[AW (x:=len x.1-1) (by simp only[len];omega)];unfold ix;simp only[len];rw[if_pos (by omega),show((x.1.length:Int)-1).toNat=x.1.length-1 by omega,X]
 unfold Kq;rw[G,R,AI,AI,AI,AI,AI];generalize wi (a.2.2.2.2.1+1)=f;refine AB (P:=λr=>(∃u,r= .inl u/\u.1=false)\/ ∃z b,r= .inr ((a.1,(m.2.1,(a.2.2.1,(a.2.2.2.1,(f,b))))),z)/\(∀k,k<x.1.length->m9 x a.2.2.1 a.2.2.2.1 k)/\ ∀y,y∈b↔ ∃(k:Nat) (r:AU),x.1[k]? =some r/\y∈r.2.2.2.2.2) ?_ λr hr=>?_
 ·refine Ia (λ(s:Int×AU×AU)=> ∃(k:Nat) (z:AU) (b:List EN),s=((k:Int),((a.1,(m.2.1,(a.2.2.1,(a.2.2.2.1,(f,b))))),z))/\k<=x.1.length/\b.length<=4096*k/\(∀j,j<k->m9 x a.2.2.1 a.2.2.2.1 j)/\ ∀y,y∈b↔ ∃(j:Nat) (r:AU),j<k/\x.1[j]? =some r/\y∈r.2.2.2.2.2) (λs=>x.1.length-s.1.toNat)
   ⟨0,_,[],rfl,B7 _,B7 _,λj H=>absurd H (by omega),λy=>⟨λhy=>by simp at hy,λ⟨j,r,H,_⟩=>absurd H (by omega)⟩⟩ ?_
  rintro s ⟨k,z,b,rfl,i2,i3,Y,Z⟩;unfold Ql;dsimp only;simp only[len];refine AC (λhc=>?_) (λhc=>Ay.done (.inr ⟨z,b,rfl,λj H=>Y j (by omega),λy=>?_⟩))
  ·have hk:k<x.1.length:=by omega
   have c:x.1[k]? =some x.1[k]:=Az hk;generalize x.1[k]=t at c;have l:x.2[k]? =some (x.2[k]'(by omega)):=Az (by omega);generalize x.2[k]'(by omega)=bb at l;have U:ix x.1 (k:Int)=some t:=by unfold ix;rw[if_pos (by omega),Int.toNat_natCast,c]
   have Q:ix x.2 (k:Int)=some bb:=by unfold ix;rw[if_pos (by omega),Int.toNat_natCast,l]
   rw[Q,AI];refine AO (λ_=>Ay.done (.inl ⟨_,rfl,rfl⟩)) (λO=>?_);rw[O]at l;obtain⟨tv,tm⟩:=h k t c l;rw[U,AI,G,AI];refine AL (λ_=>Ay.done (.inl ⟨_,rfl,rfl⟩)) (λq1=>?_);rw[AI,AI];refine AL (λ_=>Ay.done (.inl ⟨_,rfl,rfl⟩)) (λq2=>?_);rw[AI,AI];refine AL (λ_=>Ay.done (.inl ⟨_,rfl,rfl⟩)) (λq3=>?_);have E: ∀e∈b,e∈L:=λe he=>by obtain⟨j,r,B,d,n⟩:=(Z e).1 he;exact(h j r d (Y j B).1).2 e n
   have J:=ur (x:=x) (k:=k) (z:=z) (o:=(a.1,(m.2.1,(a.2.2.1,(a.2.2.2.1,(f,b)))))) (F:=a.1) (T:=m.2.1) (lo:=a.2.2.1) (hi:=a.2.2.2.1) (lv:=f) hL c tm tv.1.2.2.2.2.2.2.2.2 E (by omega)
   have D:m9 x a.2.2.1 a.2.2.2.1 k→ ∀i:List EN,i.length≤b.length+4096→(∀y,y∈i↔y∈b∨y∈t.2.2.2.2.2)→
     Ay (some (Step.next (wi ((k:Int)+1),((a.1,(m.2.1,(a.2.2.1,(a.2.2.2.1,(f,i))))),z))):Option (Step (Int×AU×AU) ((Bool×AU)⊕ (AU×AU)))) (bf (λ(s:Int×AU×AU)=> ∃(k:Nat) (z:AU) (b:List EN),s=((k:Int),((a.1,(m.2.1,(a.2.2.1,(a.2.2.2.1,(f,b))))),z))/\k<=x.1.length/\b.length<=4096*k/\(∀j,j<k->m9 x a.2.2.1 a.2.2.2.1 j)/\ ∀y,y∈b↔ ∃(j:Nat) (r:AU),j<k/\x.1[j]? =some r/\y∈r.2.2.2.2.2) (λs=>x.1.length-s.1.toNat) (x.1.length-((k:Nat):Int).toNat)
      λr=>(∃u,r= .inl u/\u.1=false)\/ ∃z b,r= .inr ((a.1,(m.2.1,(a.2.2.1,(a.2.2.2.1,(f,b))))),z)/\(∀k,k<x.1.length->m9 x a.2.2.1 a.2.2.2.1 k)/\ ∀y,y∈b↔ ∃(k:Nat) (r:AU),x.1[k]? =some r/\y∈r.2.2.2.2.2):=λhm i M C=>by
    rw[AW];refine Ay.next ⟨k+1,z,i,by rw[show(k:Int)+1=((k+1:Nat):Int) by omega],by omega,by omega,λj H=>?_,λy=>?_⟩ (by dsimp only;omega)
    grind;rw[C,Z];constructor;rintro(⟨j,r,B,d,n⟩|g);exact⟨j,r,by omega,d,n⟩;exact⟨k,t,by omega,c,g⟩;rintro⟨j,r,B,d,n⟩;by_cases V:j=k;subst V;rw[c]at d;injection d with d;subst d;exact .inr n;exact .inl ⟨j,r,by omega,d,n⟩
   apply AC<;>intro ap
   ·have hp:k-1<x.1.length:=by omega
    have v:x.1[k-1]? =some x.1[k-1]:=Az hp;generalize x.1[k-1]=p at v;have S:ix x.1 (wi ((k:Int)-1))=some p:=by rw[AW];unfold ix;rw[if_pos (by omega),show((k:Int)-1).toNat=k-1 by omega,v]
    rw[AI,S,AI];have A:=(h (k-1) p v (Y (k-1) (by omega)).1).1.1;have al:=A.2.2.1;have ar:=A.1;have ax:=A.2.1;rw[AW (x:=p.2.1+1)];refine AL (λ_=>Ay.done (.inl ⟨_,rfl,rfl⟩)) (λq4=>AB J λad w=>?_);obtain⟨i,rfl,M,C⟩:=w;refine D ⟨l,t,c,q1,q2,λ_ p' q=>?_⟩ i M C;rw[v]at q;injection q with q;rw[<-q];exact q4
   have K:Ay (Ad (G1 x ((k:Int),((a.1,(m.2.1,(a.2.2.1,(a.2.2.2.1,(f,b))))),z))) (0,(a.1,(m.2.1,(a.2.2.1,(a.2.2.2.1,(f,b))))))) λr=> ∃i:List EN,r=(a.1,(m.2.1,(a.2.2.1,(a.2.2.2.1,(f,i)))))/\i.length<=b.length+4096/\ ∀y,y∈i↔y∈b\/y∈t.2.2.2.2.2:=J;refine AB K λad w=>?_;obtain⟨i,rfl,M,C⟩:=w;exact D ⟨l,t,c,q1,q2,λh0=>absurd h0 (by omega)⟩ i M C
  rw[Z];constructor;rintro⟨j,r,B,d,n⟩;exact⟨j,r,d,n⟩;rintro⟨j,r,d,n⟩;exact⟨j,r,by have:=Fw d;omega,d,n⟩
 rcases hr with⟨u,rfl,hu⟩|⟨z,b,rfl,B,d⟩;exact BF (AA λI=>by dsimp only at I;rw[hu]at I;cases I);refine BC (AB X8 λa0 N=>AA λI=>⟨N.1 I,f,b,rfl,B,d⟩)
def ABU(a:AK)(lo n:Int):Prop:= ∃e∈E4 a,e.1.2.2.1=lo/\e.1.1<=n/\n<=e.1.2.1
def bc(a b:AK):Prop:= ∀lo n,ABU a lo n↔ABU b lo n
def oD{a:AK}(h:VB a){x y:NE}(c:x∈E4 a)(d:y∈E4 a)(e:x.2=y.2):x=y:=by have b:=oC h;rw[JL]at b;obtain⟨i,f,rfl⟩:=O3.1 c;obtain⟨j,g,rfl⟩:=O3.1 d;grind
structure xy(M:List NE)(lo hi:Int):Prop where
 same: ∀(k:Nat) (e:NE),M[k]? =some e->e.1.2.2.1=lo/\e.1.2.2.2.1=hi/\e.1.1<=e.1.2.1
 next: ∀(k:Nat) (e f:NE),M[k]? =some e->M[k+1]? =some f->f.1.1=e.1.2.1+1
def xy.cover{M:List NE}{m l:Int}(h:xy M m l){c:NE}(d:M[0]? =some c): ∀(k:Nat) (b:NE),M[k]? =some b->c.1.1<=b.1.1/\ ∀n:Int,c.1.1<=n->n<=b.1.2.1-> ∃j e,j<=k/\M[j]? =some e/\e.1.1<=n/\n<=e.1.2.1
 |0,b,a=>by rw[d]at a;injection a with a;subst a;exact⟨Ae _,λn g i=>⟨0,c,Ak _,d,g,i⟩⟩
 |k+1,b,a=>by
  have o:=Fw a;have f:M[k]? =some (M[k]'(by omega)):=Az (by omega);have q:=xy.cover h d k _ f;have hn:=h.next k _ _ f a
  have p:=(h.same k _ f).2.2;grind
def xy.le{M:List NE}{g c:Int}(h:xy M g c){k:Nat}{a:NE}(f:M[k]? =some a): ∀(d:Nat) (e:NE),M[k+d]? =some e->a.1.2.1<=e.1.2.1
 |0,e,he=>by grind
 |d+1,e,he=>by
  have i:=Fw he;have b:M[k+d]? =some (M[k+d]'(by omega)):=Az (by omega);have l:=xy.le h f d _ b;have hn:=h.next (k+d) _ _ b he
  have j:=(h.same _ _ he).2.2;omega
def uP{c:Type}{l:List c}{a b:c}(d:a∈l)(e:b∈l)(h:a≠b):2<=l.length:=by
 cases l with
 |nil=>cases d
 |cons x r=>grind
def fh{b:Type}(p:b->Bool): ∀l:List b,(l.filter p).length+(l.filter λa=>!p a).length=l.length
 |[]=>rfl
 |a::r=>by have:=fh p r;grind
def Wr(M:List NE)(l:List BL):List BL:=l.filter λf=>!(M.any λe=>e.2==f.2.1)
def dy{M:List NE}{l:List BL}{f:BL}:f∈Wr M l↔f∈l/\ ∀e∈M,e.2≠f.2.1:=by unfold Wr;grind
def qU{L:List EN}{a:AK}{M:List NE}{s r:Int}(h:AR L a)(c: ∀e∈M,e∈E4 a)(l:xy M s r)(x:2<=M.length):(Wr M a.2.2.1).length+2<=a.2.2.1.length:=by
 have d:M[0]? =some (M[0]'(by omega)):=Az (by omega);have k:M[1]? =some (M[1]'(by omega)):=Az (by omega);have n:=BJ d;have o:=BJ k;have i:(M[0]'(by omega)).2≠(M[1]'(by omega)).2:=λm=>by
  have p:=oD h.vb (c _ n) (c _ o) m;have j:=l.next 0 _ _ d k
  have:=(l.same 0 _ d).2.2;rw[<-p]at j;omega
 obtain⟨f,t,_,u,_⟩:=h.mem (c _ n);obtain⟨g,v,_,w,_⟩:=h.mem (c _ o);have q:=fh (λf:BL=>!(M.any λe=>e.2==f.2.1)) a.2.2.1;have:2<=(a.2.2.1.filter λf=>!!(M.any λe=>e.2==f.2.1)).length:=by refine uP (a:=f) (b:=g) ?_ ?_ λm=>i (by grind);grind;grind
 unfold Wr;omega
def wz{L:List EN}{a:AK}{M:List NE}{m l:Int}{s:Bb}(h:AR L a)(j: ∀e∈M,e∈E4 a)(k:xy M m l)(i:2<=M.length)(q:a.2.2.2.2<=1073741824):VB (a.1,(a.2.1,(Wr M a.2.2.1++[(1,(a.2.2.2.2,s))],(a.2.2.2.1,a.2.2.2.2+1)))):=by have p:=qU h j k i;obtain⟨b,c,d,f,n,o,g⟩:=h.vb;refine⟨b,c,d,by grind,by grind,by grind,?_⟩;exact(g.sub (List.filter_sublist)).push f rfl rfl
def notM(M:List NE)(x:NE):Bool:= !(M.any λe=>e.2==x.2)
def mu{L:List EN}{a b:AK}{M:List NE}{r:AU}{lo t:Int}{I T:NE}(hL:Uq L)(h:AR L a)(J: ∀e∈M,e∈E4 a)(V:xy M lo t)(h2:2≤M.length)(h0:M[0]? =some I)(hn:M[M.length-1]? =some T)
  (hr:VR r) (r1:r.1=I.1.1) (r2:r.2.1=T.1.2.1) (O:r.2.2.1=lo) (r4:r.2.2.2.1=t) (r5: ∀y,y∈r.2.2.2.2.2↔ ∃e∈M,y∈e.1.2.2.2.2.2)
  (hb:b=(a.1,(a.2.1,(Wr M a.2.2.1++[(1,(a.2.2.2.2,L3 r))],(a.2.2.2.1,a.2.2.2.2+1))))) (q:VB b):
  AR L b/\bc a b/\(AG a->AG b)/\ ∀c,RC a c->RC b c:=by
 have b1:b.1=a.1:=by rw[hb]
 have b2:b.2.1=a.2.1:=by rw[hb]
 have S:b.2.2.1=Wr M a.2.2.1++[(1,(a.2.2.2.2,L3 r))]:=by rw[hb]
 have b4:b.2.2.2.1=a.2.2.2.1:=by rw[hb]
 have m0:=BJ h0;have mn:=BJ hn;have z: ∀n:Int,(r.1<=n/\n<=r.2.1)↔ ∃e∈M,e.1.1<=n/\n<=e.1.2.1:=λn=>by constructor;rintro⟨B,C⟩;obtain⟨j,e,_,q2,q3⟩:=(V.cover h0 _ T hn).2 n (by omega) (by omega);exact⟨e,BJ q2,q3⟩;rintro⟨e,i,B,C⟩;obtain⟨k,W⟩:=F8.1 i;have q1:=(V.cover h0 k e W).1;have a3:=Fw W;have q2:=V.le W (M.length-1-k) T (by rw[show k+(M.length-1-k)=M.length-1 by omega];exact hn);omega
 have Z: ∀e∈M,be L e.1:=λe i=>by obtain⟨f,_,_,_,g,_⟩:=h.mem (J e i);exact g
 have p: ∀e∈M,e.1.2.2.1=lo/\e.1.2.2.2.1=t/\e.1.1<=e.1.2.1:=λe i=>by obtain⟨k,W⟩:=F8.1 i;exact V.same k e W
 have ad:be L r:=by refine hr.runOf hL λy=>?_;rw[r5,O,r4];constructor;rintro⟨e,i,N⟩;have g:=((Z e i).mem y).1 N;obtain⟨p1,p2,p3⟩:=p e i;have:=(z y.1).2 ⟨e,i,g.2.2.2.2⟩;exact⟨g.1,g.2.1,by omega,by omega,this.1,this.2⟩;rintro⟨B,C,P,g4,g5,g6⟩;obtain⟨e,i,q1,q2⟩:=(z y.1).1 ⟨g5,g6⟩;obtain⟨p1,p2,p3⟩:=p e i;exact⟨e,i,((Z e i).mem y).2 ⟨B,C,by omega,by omega,q1,q2⟩⟩
 have K:Ks a r.2.2.1 r.2.2.2.1:=by obtain⟨f,_,g,_⟩:=h.mem (J I m0);obtain⟨p1,p2,p3⟩:=p I m0;rw[O,r4,<-p1,<-p2];exact g.2.2.2
 have u:Good b (1,(a.2.2.2.2,L3 r)) r:=⟨rfl,rfl,hr,(Ks.congr b1 b2).1 K⟩
 have v: ∀{f:BL} {s:AU},Good a f s->Good b f s:=λg=>g.congr b1 b2;have l: ∀x∈E4 b,(x∈E4 a/\ ∀e∈M,e.2≠x.2)\/x=(r,a.2.2.2.2):=λx w=>by unfold E4 at w;rw[S]at w;obtain⟨f,d,t⟩:=Nj.1 w;rcases Ar.1 d with d|d;obtain⟨f1,f2⟩:=dy.1 d;rcases h.files f f1 with U|⟨s,s1,s2,s3⟩;rw[U.intR q.1]at t;cases t;rw[(v s1).intR q.1]at t;injection t with t;subst t;exact .inl ⟨Uz h.vb.1 f1 s1,f2⟩;rw[A3]at d;subst d;rw[u.intR q.1]at t;injection t with t;exact .inr t.symm
 have ax: ∀x∈E4 a,(∀e∈M,e.2≠x.2)->x∈E4 b:=λx w Q=>by
  obtain⟨f,f1,f2,f3,_⟩:=h.mem w;have:f∈b.2.2.1:=by rw[S];exact Ar.2 (.inl (dy.2 ⟨f1,λe i=>f3▸Q e i⟩))
  have:=Uz q.1 this (v f2);rw[<-f3]at this;exact this
 have Y:(r,a.2.2.2.2)∈E4 b:=Uz q.1 (by rw[S];exact Ar.2 (.inr (A3.2 rfl))) u;have al: ∀x∈E4 a,x.1.1<=x.1.2.1:=λx w=>by obtain⟨f,_,g,_⟩:=h.mem w;exact g.2.2.1.1.2.1
 have a1:r.1<=r.2.1:=hr.1.2.1;have A: ∀y∈E4 a,(∀e∈M,e.2≠y.2)->y.1.2.2.1=lo->r.2.1<y.1.1\/y.1.2.1<r.1:=λy N Q o=>by refine RF λF=>?_;have a5:=al y N;obtain⟨e,i,q1,q2⟩:=(z (if y.1.1<=r.1 then r.1 else y.1.1)).1 (by split<;>omega);have D:e≠y:=λF=>Q e i (by rw[F]);have:=h.dis e (J e i) y N D ((p e i).1.trans o.symm);split at q1<;>split at q2<;>omega
 refine⟨⟨q,λf d=>?_,λx w y N D o=>?_⟩,λm n=>?_,λap f d=>?_,λc hc m=>?_⟩;rw[S]at d;rw[b4];rcases Ar.1 d with d|d;exact(h.files f (dy.1 d).1).imp id λ⟨s,s1,s2,s3⟩=>⟨s,v s1,s2,s3⟩
 rw[A3]at d;subst d;obtain⟨f,_,_,_,_,g⟩:=h.mem (J T mn);exact .inr ⟨r,u,ad,by omega⟩;rcases l x w with⟨R,x2⟩|rfl;rcases l y N with⟨y1,y2⟩|rfl;exact h.dis x R y y1 D o;have:=A x R x2 (o.trans O);exact this.symm;rcases l y N with⟨y1,y2⟩|rfl;exact A y y1 y2 (o.symm.trans O);exact absurd rfl D;constructor;rintro⟨e,i,B,C,P⟩;by_cases Q: ∃f∈M,f.2=e.2;obtain⟨f,d,ar⟩:=Q;have:=oD h.vb (J f d) i ar;subst this;have hc:=(z n).2 ⟨f,d,C,P⟩;exact⟨_,Y,by rw[<-B,(p f d).1];exact O,hc.1,hc.2⟩;exact⟨e,ax e i λf d F=>Q ⟨f,d,F⟩,B,C,P⟩;rintro⟨e,i,B,C,P⟩;rcases l e i with⟨q1,q2⟩|rfl;exact⟨e,q1,B,C,P⟩;obtain⟨f,d,q1,q2⟩:=(z n).1 ⟨C,P⟩;exact⟨f,J f d,by rw[(p f d).1,<-B];exact O.symm,q1,q2⟩;rw[S]at d;rcases Ar.1 d with d|d;obtain⟨s,hs⟩:=ap f (dy.1 d).1;exact⟨s,v hs⟩;rw[A3]at d;subst d;exact⟨r,u⟩
 ·have X:=(Tp q).filter λe=>e.1.2.2.1==m;have a2:=hc m;by_cases hl:m=lo
  ·subst hl;have H:=eE _ ((r,a.2.2.2.2)::((E4 a).filter λe=>e.1.2.2.1==m).filter (notM M)) X λx w=>by obtain⟨x0,E⟩:=Bc.1 w;rcases l x x0 with⟨R,x2⟩|rfl;refine An.2 (.inr (Bc.2 ⟨Bc.2 ⟨R,E⟩,?_⟩));unfold notM;simp only[Us,List.any_eq_false,beq_iff_eq];exact x2;exact An.2 (.inl rfl)
   have a4:=fh (notM M) ((E4 a).filter λe=>e.1.2.2.1==m);have h1:M[1]? =some (M[1]'(by omega)):=Az (by omega);have m1:=BJ h1;have a6:2<=(((E4 a).filter λe=>e.1.2.2.1==m).filter λx=>!notM M x).length:=by
    have G: ∀e∈M,e∈((E4 a).filter λe=>e.1.2.2.1==m).filter λx=>!notM M x:=λe i=>by refine Bc.2 ⟨Bc.2 ⟨J e i,by rw[(p e i).1];exact beq_self_eq_true _⟩,?_⟩;unfold notM;rw[Bool.not_not];exact YD.2 ⟨e,i,beq_self_eq_true _⟩
    refine uP (G I m0) (G _ m1) λF=>?_;have a0:=V.next 0 I _ h0 h1
    have:=(p I m0).2.2;rw[<-F]at a0;omega
   rw[BV]at H;omega
  have H:=eE _ ((E4 a).filter λe=>e.1.2.2.1==m) X λx w=>by obtain⟨x0,E⟩:=Bc.1 w;rcases l x x0 with⟨R,x2⟩|rfl;exact Bc.2 ⟨R,E⟩;exact absurd (eq_of_beq E) λF=>hl (F.symm.trans O)
  omega
end Go.Pm
