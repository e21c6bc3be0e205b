/- Texts of wip, joined and shortened by wip/tools/pack.py; nothing is assumed. -/
import Derived.Test.YtdjfjcnheopcdaaGreatDoorK12
import Derived.Test.YtdjfjcnheopcdaaGreatDoorProg
import Derived.Lib.Builder
import Derived.Lib.FrozenHead
import Derived.Lib.FrozenHead2
import Derived.Lib.AppendStr
import Derived.Lib.UnsafeStr
import Derived.Lib.Repeat
import Derived.Lib.RepeatB
import Derived.Lib.Walk
import Derived.WalkKit
import Derived.Laws.Externs
import Derived.Shelf.RegionOpenPlain
import Derived.Lib.MakeNoZero
import Derived.Laws.IdiomCopy
import Derived.Deep.LoopGhost
import Derived.Deep.DeepCutAuto
import Derived.Deep.DeepFit
import Derived.Deep.CutBlock
noncomputable section
set_option linter.all false
namespace Go.Pm
open Go Go.Ab
set_option maxRecDepth 100000
noncomputable section

end
set_option maxHeartbeats 400000
variable {a:List EN}{b h:Int}{c:Nat}{d:List AT}{e:BN}{f:BN×List AT}{g:Ak}
theorem ABo(h:He a)(L:a.length<=1099511627776)(hn:1<=c/\c<=64)(x:PI a b c g):FT (encI g)=some (g,0):=by have⟨j,d,e,f,m⟩:=x;grind[zl]
theorem zo(h:He a)(K:a.length<=1099511627776)(hn:1<=c/\c<=64)(h8:d.length<=8)(hf: ∀f∈d,FB FT a b c f):Ar (KY d) λr=>r.length<=8/\ ∀x,x∈r↔Qi a b c d d.length x:=by
 unfold KY;refine AA (P:=λr=>r.length<=8/\ ∀x,x∈r↔Qi a b c d d.length x) ?_ λr hr=>AB hr;refine Cf (λ(s:List Ak×Int)=> ∃n:Nat,s.2=n/\n<=d.length/\s.1.length<=n/\ ∀x,x∈s.1↔Qi a b c d n x) (λs=>((d.length:Int)-s.2).toNat) ⟨0,rfl,Bi _,Am _,λx=>⟨λq=>(by cases q),λ⟨k,g,k0,_⟩=>absurd k0 (Nat.not_lt_zero _)⟩⟩ ?_;rintro⟨A,_⟩ ⟨n,rfl,n1,i2,T⟩;dsimp only at i2 T;unfold SH;dsimp[len];refine AC (λD=>?_) (λD=>Ar.done ⟨o!,by rw[show d.length=n by omega];exact T⟩);rw[AX (x:=(n:Int)+1)];refine AA (AI o! D) λu h1=>?_;have C:=h1.1;rw[Ct]at C;have L: ∀v,d[(n:Int).toNat]? =some v/\v∈d->v=u:=λv hv=>by grind[Option.some.inj]
 have e:(∀x,¬yF a b c d n u x)->Ar (some (Step.next (A,(n:Int)+1)):Option (Step (List Ak×Int) (List Ak))) (MK (λ(s:List Ak×Int)=> ∃n:Nat,s.2=n/\n<=d.length/\s.1.length<=n/\ ∀x,x∈s.1↔Qi a b c d n x) (λs=>((d.length:Int)-s.2).toNat) ((d.length:Int)-n).toNat λr=>r.length<=8/\ ∀x,x∈r↔Qi a b c d d.length x):=λo=>Ar.next ⟨n+1,rfl,o!,d!,λx=>by dsimp only;rw[Qi.step C,T x];exact⟨.inl,λq=>q.elim id λq=>absurd q (o x)⟩⟩ d!
 refine AA (P:=λm=>m=true↔u.1=2/\ ∀(k:Nat) (g:AT),k<n->d[k]? =some g->g.1=2->g.2.1≠u.2.1) ?_ λv6 h6=>AM (λS=>e λx q=>by rw[h6.2 ⟨q.1,q.2.1⟩]at S;cases S) (λS=>?_)
 ·refine Cf (λ(t:Bool×Int)=> ∃j:Nat,t.2=j/\j<=n/\(t.1=true↔u.1=2/\ ∀(k:Nat) (g:AT),k<j->d[k]? =some g->g.1=2->g.2.1≠u.2.1)) (λt=>((n:Int)-t.2).toNat) ⟨0,rfl,Bi _,⟨λq=>⟨eq_of_beq q,λk g k0=>absurd k0 (Nat.not_lt_zero _)⟩,λq=>beq_iff_eq.2 q.1⟩⟩ ?_;rintro⟨m,_⟩ ⟨j,rfl,j1,U⟩;dsimp only at U;unfold SI;dsimp only;refine AC (λI=>?_) (λI=>Ar.done (by rw[show n=j by omega];exact U));rw[AX];refine AJ (λal=>?_) (λag=>Ar.next ⟨j+1,rfl,o!,⟨λq=>(by cases q),λq=>?_⟩⟩ d!)
  ·have⟨q1,q2⟩:=U.1 al;refine AA (AI) λv3 h3=>?_;have R:=h3.1;rw[Ct]at R;refine AK (λJ=>Ar.next ⟨j+1,rfl,o!,⟨λ_=>⟨q1,λk g k0 k1 V=>?_⟩,λ_=>rfl⟩⟩ d!) (λJ=>AA (AI) λv4 h4=>AA (AI) λv5 h5=>Ar.next ⟨j+1,rfl,o!,?_⟩ d!);by_cases p:k=j;subst p;rw[R]at k1;cases k1;exact absurd V J;exact q2 k g o! k1 V;have e4:v4=v3:=by have:=h4.1;rw[h3.1]at this;exact(Ba this).symm
   have e5:v5=u:=L v5 h5;dsimp only;rw[e4,e5,bne_iff_ne];refine⟨λao=>⟨q1,λk g k0 k1 V=>?_⟩,λq=>q.2 j v3 o! R J⟩;by_cases p:k=j;subst p;rw[R]at k1;cases k1;exact ao;exact q2 k g o! k1 V
  have:=U.2 ⟨q.1,λk g k0=>q.2 k g o!⟩;rw[ag]at this;cases this
 ·have⟨J,l⟩:=h6.1 S;refine AA (AI o! D) λv7 h7=>?_;rw[L v7 h7];rcases hf _ h1.2 with⟨x,N,p⟩|o
  ·have⟨j,j1,x1,x2,xe⟩:=id N;rw[p,ABo h K hn N,AD];refine AK (λD=>absurd rfl D) (λ_=>?_);have hw:=ABv h K (k:=j) ⟨x1,x2⟩ hn;rw[<-xe]at hw;dsimp only;rw[hw,AD,Cg,cond_false];refine AA (AI o! D) λap Y=>?_;rw[L ap Y];refine AK (λB=>e λy hy=>B ?_) (λB=>?_);rw[<-kU h K hn hy.2.2.1 N (hy.2.2.2.1.symm.trans p)];exact hy.2.2.2.2;refine AA (P:=λr:Int=>0<=r/\r<=A.length) ?_ λi w=>?_
   ·refine Cf (λ(t:Int)=>0<=t/\t<=A.length) (λt=>t.toNat) o! (λt hI=>?_);have⟨t0,t1⟩:=hI;unfold SJ;refine AC (λI=>?_) (λ_=>Ar.done ⟨t0,t1⟩);rw[AX];exact AA (AI o! d!) λa1 _=>AC (λ_=>Ar.next o! o!) (λ_=>Ar.done ⟨t0,t1⟩)
   ·refine AA (CU (Ad _) w.1 w.2) λO F=>AA (CU w.1) λQ G=>?_;have ax:=F.2;have a0:=G.2;refine AA (Ac w!) λa2 z=>AA (Ac (by rw[z.1];simp;omega)) λa3 H=>AA (Ac (by rw[H.1,z.1];simp;omega)) λar Z=>?_;have E:ar=O++[x]++Q:=by rw[Z.1,H.1,z.1];rfl
    have W:O=A.take i.toNat:=by rw[F.1];rfl
    have X:Q=A.drop i.toNat:=by rw[G.1];exact BK (by rw[FY];omega)
    refine Ar.next ⟨n+1,rfl,o!,by dsimp only;rw[E];simp[Aa,so];omega,λy=>?_⟩ d!
    dsimp only;rw[Qi.step C,E,W,X,<-T y];have hA:y∈A↔y∈A.take i.toNat\/y∈A.drop i.toNat:=by
     conv=>lhs;rw[<-Da i.toNat A]
     exact A1
    rw[A1,A1,BI,hA];constructor;rintro((q|q)|q);exact .inl (.inl q);rw[q];exact .inr ⟨J,l,N,p,B⟩;exact .inl (.inr q);rintro((q|q)|q);exact .inl (.inl q);exact .inr q;exact .inl (.inr (kU h K hn q.2.2.1 N (q.2.2.2.1.symm.trans p)))
  have M: ∀x,¬yF a b c d n u x:=λx q=>by have⟨r,hr,hz⟩:=o;rw[q.2.2.2.1,ABo h K hn q.2.2.1]at hr;cases hr;exact hz rfl
  exact AA o λv8 ad=>AK (λ_=>e M) (λhz=>absurd hz ad)
def Ow(l:List AT)(f:AT):Bool:=l.any λy=>y.1==f.1&&y.2.1==f.2.1
def E2(l v:List AT):List AT:=v.filter λf=>!Ow l f
theorem AD5{x:BN×List AT}{f:AT}(n:x.2.length<=16777216):Ar (AZ (Kt x f) 0) λr=>(Ow x.2 f=true/\ ∃u,r= .inl u/\0<=u)\/(Ow x.2 f=false/\r= .inr ()):=by
 refine Cf (λ(s:Int)=>0<=s/\s<=x.2.length/\ ∀y∈x.2.take s.toNat,¬(y.1=f.1/\y.2.1=f.2.1)) (λs=>((x.2.length:Int)-s).toNat) ⟨Ad _,o!,λy a=>by simp at a⟩ (λs m=>?_);have⟨g,o,i⟩:=m;unfold Kt;dsimp[len];refine AC (λd=>?_) (λd=>Ar.done (.inr ⟨?_,rfl⟩))
 ·rw[AX];refine AA (AI g d) λk l=>?_;have j: ¬(k.1=f.1/\k.2.1=f.2.1)->Ar (some (Step.next (s+1)):Option (Step Int (Int ⊕ Unit))) (MK (λ(s:Int)=>0<=s/\s<=x.2.length/\ ∀y∈x.2.take s.toNat,¬(y.1=f.1/\y.2.1=f.2.1)) (λs=>((x.2.length:Int)-s).toNat) ((x.2.length:Int)-s).toNat λr=>(Ow x.2 f=true/\ ∃u,r= .inl u/\0<=u)\/(Ow x.2 f=false/\r= .inr ())):=λhn=>by
   refine Ar.next ⟨o!,o!,λy a=>?_⟩ o!
   rw[show(s+1).toNat=s.toNat+1 by omega,Ce,l.1]at a;grind[List.mem_singleton]
  refine AQ (λb=>AQ (λc=>Ar.done (.inl ⟨?_,s,rfl,g⟩)) (λc=>j λq=>c q.2)) (λb=>j λq=>b q.1);grind[Ow,List.any_eq_true]
 rw[BK o!]at i;unfold Ow;refine Ts.2 λh=>?_;have⟨y,a,e⟩:=pW.1 h;simp[BO,beq_iff_eq]at e;exact i y a e
theorem ABV(v:f.2.length<=16777216)(k:d.length<=16777216):Ar (AZ (Ku f d) 0) λr=>(∃u:Nat,r= .inl (u:Int)/\u<d.length/\E2 f.2 (d.take (u+1))=d.take u)\/(r= .inr ()/\E2 f.2 d=d):=by
 refine Cf (λ(s:Int)=>0<=s/\s<=d.length/\E2 f.2 (d.take s.toNat)=d.take s.toNat) (λs=>((d.length:Int)-s).toNat) ⟨Ad _,o!,rfl⟩ (λs e=>?_);have⟨x,l,a⟩:=e;unfold Ku;dsimp[len];refine AC (λb=>?_) (λb=>Ar.done (.inr ⟨rfl,by rw[BK o!]at a;exact a⟩));rw[AX];refine AA (AI x b) λh _=>AA (AI x b) λi j=>AA (AD5 v) λr hr=>?_;have g:d.take (s.toNat+1)=d.take s.toNat++[i]:=by grind[List.take_add_one]
 rcases hr with⟨c,u,rfl,m⟩|⟨c,rfl⟩
 ·grind[BG,Ar.done,Int.toNat_of_nonneg,E2]
 ·refine A3 (Ar.next ⟨o!,o!,?_⟩ o!);rw[show(s+1).toNat=s.toNat+1 by omega,g];unfold E2 at a⊢;rw[Gl,a,N3,c];simp
theorem ADZ(o:f.2.length<=16777216)(D:d.length<=16777216)(C:c<d.length)(h:E2 f.2 (d.take (c+1))=d.take c):Ar (AZ (Kv f) (wi ((c:Int)+1),((c:Int),d))) λr=>0<=r.1/\r.1<=r.2.length/\r.2.length=d.length/\r.2.take r.1.toNat=E2 f.2 d:=by
 rw[AX];refine Cf (λ(s:Int×Int×List AT)=> ∃j i:Nat,s.1=j/\s.2.1=i/\i<j/\j<=d.length/\s.2.2.length=d.length/\s.2.2.take i=E2 f.2 (d.take j)/\s.2.2.drop j=d.drop j) (λs=>((d.length:Int)-s.1).toNat) ⟨c+1,c,rfl,rfl,o!,o!,rfl,h.symm,rfl⟩ ?_;rintro⟨_,_,w⟩ ⟨j,i,rfl,rfl,E,F,k,e,g⟩;dsimp only at k e g;unfold Kv;dsimp[len];refine AC (λu=>?_) (λu=>Ar.done ⟨d!,d!,k,by dsimp only;rw[Ct,e,BK o!]⟩);have B:j<d.length:=o!
 rw[AX (x:=(j:Int)+1)];refine AA (AI o! u) λp _=>AA (AI o! u) λv n=>AA (AD5 o) λr hr=>?_;have A:v=d[j]:=by have a:=n.1;rw[Ct,A4 o!]at a;have b:=congrArg (λz=>z[0]?) g;simp[Ja,Qy]at b;grind[List.getElem?_eq_getElem,Option.some.inj]
 have m:d.take (j+1)=d.take j++[v]:=by grind[List.take_add_one,List.getElem?_eq_getElem]
 have l:w.drop (j+1)=d.drop (j+1):=by rw[<-MG,<-MG,g]
 have keep:Ow f.2 v=false->Ar (Option.bind (ix w (i:Int)) λt=>Option.bind (ix w (i:Int)) λy=>some (Step.next ((j:Int)+1,(wi ((i:Int)+1),E4 w (i:Int) v))):Option (Step (Int×Int×List AT) (Int×List AT))) (MK (λ(s:Int×Int×List AT)=> ∃j i:Nat,s.1=j/\s.2.1=i/\i<j/\j<=d.length/\s.2.2.length=d.length/\s.2.2.take i=E2 f.2 (d.take j)/\s.2.2.drop j=d.drop j) (λs=>((d.length:Int)-s.1).toNat) ((d.length:Int)-(j:Int)).toNat λr=>0<=r.1/\r.1<=r.2.length/\r.2.length=d.length/\r.2.take r.1.toNat=E2 f.2 d):=λx=>by
  rw[AX (x:=(i:Int)+1)];refine AA (AI) λ_ _=>AA (AI) λ_ _=>Ar.next ⟨j+1,i+1,rfl,rfl,o!,o!,?_,?_,?_⟩ d!
  grind[E4,List.length_set];dsimp only[E4];rw[Ct,m,Ce,List.take_set_of_le (Am _),e,HG o!];unfold E2;rw[Gl,N3,x];simp;dsimp only[E4];rw[Ct,List.drop_set_of_lt o!];exact l
 rcases hr with⟨x,q,rfl,q0⟩|⟨x,rfl⟩
 ·apply BG;rw[decide_eq_true (by omega:q>=0),Cg,cond_false];refine Ar.next ⟨j+1,i,rfl,rfl,o!,o!,k,?_,l⟩ d!
  dsimp only;rw[m,e];unfold E2;rw[Gl,N3,x];simp
 exact A3 (keep x)
def AEA(x:BN×List AT):AZ (PJ x) 0=some (.inr ()):=by rw[Dv];rfl
theorem vN{x:BN×List AT}(i:x.2.length<=16777216)(l:x.1.2.2.1.2.2.1.length<=16777216)(n:x.1.2.2.2.1.length<=16777216):MH x=some (x.1.1,(x.1.2.1,((x.1.2.2.1.1,(x.1.2.2.1.2.1,(E2 x.2 x.1.2.2.1.2.2.1,x.1.2.2.1.2.2.2))),(E2 x.2 x.1.2.2.2.1,x.1.2.2.2.2)))):=by
 suffices z:Ar (MH x) λr=>r=(x.1.1,(x.1.2.1,((x.1.2.2.1.1,(x.1.2.2.1.2.1,(E2 x.2 x.1.2.2.1.2.2.1,x.1.2.2.1.2.2.2))),(E2 x.2 x.1.2.2.2.1,x.1.2.2.2.2)))) by obtain⟨r,hr,rfl⟩:=z;exact hr
 unfold MH;refine AA (P:=λr=>r=(x.1.1,(x.1.2.1,((x.1.2.2.1.1,(x.1.2.2.1.2.1,(E2 x.2 x.1.2.2.1.2.2.1,x.1.2.2.1.2.2.2))),x.1.2.2.2)))) ?_ λB k=>?_;generalize x.1.2.2.1.2.2.1=v at l⊢;dsimp[len];refine AC (λy=>?_) (λ_=>?_);have o:v=[]:=lV.1 o!;rw[AEA,o];exact A7 (A3 (AB rfl));refine AA (Ac w!) λa c=>?_;have e:=c.1;rw[Cp]at e;subst e;refine AA (ABV i l) λr hr=>?_;rcases hr with⟨u,rfl,s,t⟩|⟨rfl,h⟩;apply BG;rw[beq_eq_false_iff_ne.2 (by omega:(u:Int)≠ -1),cond_false];refine AA (ADZ i l s t) λr hr=>?_;have⟨g,p,A,q⟩:=hr;have m:AAS r.2 r.1 ((0,(0,[])):AT)=some (r.2.take r.1.toNat++List.replicate (r.2.length-r.1.toNat) (0,(0,[]))):=if_pos ⟨g,p⟩;rw[m,AD];refine AA (CU (Ad _) g (by rw[Aa,BM,Fz];omega)) λf d=>AB ?_;have b:f=E2 x.2 a:=by rw[d.1,<-q];show List.take (r.1.toNat-0) (List.drop 0 (List.take r.1.toNat r.2++_))=_;rw[fJ,YL];exact EW (by rw[BM];omega)
 rw[b];grind[A3,AB];subst k;dsimp only;generalize x.1.2.2.2.1=v at n⊢;dsimp[len];refine AA (P:=λr=>r=(x.1.1,(x.1.2.1,((x.1.2.2.1.1,(x.1.2.2.1.2.1,(E2 x.2 x.1.2.2.1.2.2.1,x.1.2.2.1.2.2.2))),(E2 x.2 v,x.1.2.2.2.2))))) ?_ λr hr=>AB hr;refine AC (λy=>?_) (λ_=>?_);have o:v=[]:=lV.1 o!;rw[show AZ (PJ x) 0=some (.inr ())from AEA x,o];exact A7 (A3 (AB rfl));refine AA (Ac w!) λa c=>?_;have e:=c.1;rw[Cp]at e;subst e;have w:Ar (AZ (Ku x a) 0) λr=>(∃u:Nat,r= .inl (u:Int)/\u<a.length/\E2 x.2 (a.take (u+1))=a.take u)\/(r= .inr ()/\E2 x.2 a=a):=ABV i n;refine AA w λr hr=>?_;rcases hr with⟨u,rfl,s,t⟩|⟨rfl,h⟩;apply BG;rw[beq_eq_false_iff_ne.2 (by omega:(u:Int)≠ -1),cond_false];have j:Ar (AZ (Kv x) (wi ((u:Int)+1),((u:Int),a))) λr=>0<=r.1/\r.1<=r.2.length/\r.2.length=a.length/\r.2.take r.1.toNat=E2 x.2 a:=ADZ i n s t;refine AA j λr hr=>?_;have⟨g,p,A,q⟩:=hr;have m:AAS r.2 r.1 ((0,(0,[])):AT)=some (r.2.take r.1.toNat++List.replicate (r.2.length-r.1.toNat) (0,(0,[]))):=if_pos ⟨g,p⟩;rw[m,AD];refine AA (CU (Ad _) g (by rw[Aa,BM,Fz];omega)) λf d=>AB ?_;have b:f=E2 x.2 a:=by rw[d.1,<-q];show List.take (r.1.toNat-0) (List.drop 0 (List.take r.1.toNat r.2++_))=_;rw[fJ,YL];exact EW (by rw[BM];omega)
 rw[b];exact A3 (AB (by rw[h]))
def yn{b d:Type}{f g:b->Option d}: ∀{l:List b},(∀x∈l,f x=g x)->l.filterMap f=l.filterMap g
 |[],_=>rfl
 |a::l,h=>by rw[pY,pY,h a Iy,yn λx c=>h x (CQ _ c)]
def Z7{b:Type}(p q:b->Bool): ∀l:List b,(l.filter p).find? q=l.find? λa=>p a&&q a
 |[]=>rfl
 |a::l=>by
  rw[N3,List.find?_cons];cases c:p a with
  |false=>rw[pQ,if_neg g!];exact Z7 p q l
  |true=>rw[Bool.true_and,if_pos rfl,List.find?_cons,Z7 p q l]
def Ug(l v:List AT):(E2 l v).Sublist v:=List.filter_sublist
def AR.less{L:AO}{k:List AT}(h:AR a L)(i:k.Sublist L.2.2.1)(hr:RC L c):AR a (L.1,(L.2.1,(k,L.2.2.2)))/\RC (L.1,(L.2.1,(k,L.2.2.2))) c/\(∀e,e∈F9 (L.1,(L.2.1,(k,L.2.2.2)))↔ ∃f∈k,Good L f e.1/\e.2=f.2.1):=by
 obtain⟨B,C,D,E,F,H,G⟩:=id h.vb;have d:VB (L.1,(L.2.1,(k,L.2.2.2))):=⟨B,C,D,E,F,by have:=i.length_le;dsimp only;omega,G.sub i⟩
 have s: ∀f∈k,intR (L.1,(L.2.1,(k,L.2.2.2))) f=intR L f:=λf o=>by rcases h.files f (i.subset o)with q|⟨r,p,_⟩;exact(q.intR d.1).trans (q.intR h.vb.1).symm;have n:Good (L.1,(L.2.1,(k,L.2.2.2))) f r:=p.congr rfl rfl;exact(n.intR d.1).trans (p.intR h.vb.1).symm
 have b:(F9 (L.1,(L.2.1,(k,L.2.2.2)))).Sublist (F9 L):=by have e:F9 (L.1,(L.2.1,(k,L.2.2.2)))=k.filterMap (intR L):=yn s;rw[e];exact i.filterMap _
 have g:AR a (L.1,(L.2.1,(k,L.2.2.2))):=⟨d,λf o=>(h.files f (i.subset o)).imp id λ⟨r,w,z,A⟩=>⟨r,w.congr rfl rfl,z,A⟩,λx t y u=>h.dis x (b.subset t) y (b.subset u)⟩
 refine⟨g,λv=>Cz (b.filter _).length_le (hr v),λe=>?_⟩;rw[sQ g e];exact⟨λ⟨f,j,l,m⟩=>⟨f,j,l.congr rfl rfl,m⟩,λ⟨f,j,l,m⟩=>⟨f,j,l.congr rfl rfl,m⟩⟩
def OKp(L:List EN)(d:Int)(m:Nat)(a:AO)(l:Ae)(fs:List AT)(k:Nat)(p:Int):Prop:= ∃lo hi fl,YX a p lo hi/\yD (rp a l lo) k fl/\(fl=0\/ ∃x,Qi L d m fs fs.length x/\sH x p<=k/\fl<=sH x p)
def AG0{k m:Nat}(G:LI b a)(H:He a)(u:AR a e.2.2.1)(P:Us a e.1.2.2.1)(hr:RC e.2.2.1 c)(g:c<=12)(O:k<=a.length)(I:e.1.2.2.1.2.2=k)(y:(m:Int)=e.2.2.1.2.1)(hn:1<=m/\m<=64)(E:e.2.2.2.1.length<=8)(K: ∀f∈e.2.2.2.1,FI a h m f):Ar (AZ (SS e) 0) λr=>(r= .inl false/\ ∃p:Int,0<=p/\p<m/\ ¬OKp a h m e.2.2.1 e.1.2.2.1 e.2.2.2.1 k p)\/(r= .inr ()/\ ∀p:Int,0<=p->p<m->OKp a h m e.2.2.1 e.1.2.2.1 e.2.2.2.1 k p):=by refine Cf (λ(s:Int)=>0<=s/\s<=m/\ ∀p:Int,0<=p->p<s->OKp a h m e.2.2.1 e.1.2.2.1 e.2.2.2.1 k p) (λs=>((m:Int)-s).toNat) ⟨Ad _,o!,λp L v=>o!⟩ (λs F=>?_);have⟨A,W,B⟩:=F;unfold SS;rw[<-y,I];refine AC (λw=>?_) (λw=>Ar.done (.inr ⟨rfl,λp L v=>B p L o!⟩));have⟨R,M,C,v,t,Q⟩:=AB2 G H u P hr g O y hn E (λf q=>.inl (K f q)) (p:=s) ⟨A,o!⟩;rw[AX];refine AA Q λr n=>AK (λo=>Ar.done (.inl ⟨rfl,s,A,w,?_⟩)) (λz=>Ar.next ⟨o!,o!,λp L d=>?_⟩ o!);rcases n with⟨_,q1,q2⟩|⟨q,_⟩;rintro⟨S,N,D,d,i,q⟩;have l:=v.uniq u.vb.1 rfl rfl d;subst l;have j:=t.uniq (λ_=>Iff.rfl) i;subst j;rcases q with q|⟨x,T,U,V⟩;exact q1 q;exact q2 x T U V;exact absurd q o;by_cases J:p=s;rcases n with⟨q,_⟩|⟨_,_,_,_,q⟩;rw[q]at z;cases z;rw[J];exact⟨R,M,C,v,t,q⟩;exact B p L o!
theorem zr{n d:Int}{x:BN×List AT}{k m c:Nat}(i:LI n a)(j:He a)(e:AR a x.1.2.2.1)(g:Us a x.1.1.2.2.1)(hr:RC x.1.2.2.1 c)(L:c<=12)(s:k<=a.length)(l:x.1.1.2.2.1.2.2=k)(t:(m:Int)=x.1.2.2.1.2.1)(hn:1<=m/\m<=64)(A:x.1.2.2.2.1.length<=8)(o: ∀f∈x.1.2.2.2.1,FI a d m f)(z:x.2.length<=16777216):Ar (Ev x) λb=>b=true↔ ∀p:Int,0<=p->p<m->OKp a d m (x.1.2.2.1.1,(x.1.2.2.1.2.1,(E2 x.2 x.1.2.2.1.2.2.1,x.1.2.2.1.2.2.2))) x.1.1.2.2.1 (E2 x.2 x.1.2.2.2.1) k p:=by obtain⟨v,u,rfl⟩:=HE e.vb;obtain⟨w,y,rfl⟩:=Jj g.vl;have⟨a1,a2,_⟩:=e.less (Ug x.2 _) hr;have B:=(Ug x.2 x.1.2.2.2.1).length_le;have C:=e.vb.2.2.2.2.2.1;unfold Ev;rw[u,AD,Cg,cond_false,y,AD,Cg,cond_false,vN z o! o!,AD];refine AA (AG0 i j a1 g a2 L s l t hn d! (λf q=>o f ((Ug _ _).subset q))) λr h=>?_;grind[BG,AB,A3]
def pB:Qi a b c d d.length g↔PI a b c g/\ ∃f,d.find? (λm=>m.1==2&&m.2.1==g.1)=some f/\f.2.2=encI g:=by constructor;rintro⟨i,f,e,x,t,first,l,L,id⟩;refine⟨l,f,?_,L⟩;rw[List.find?_eq_some_iff_getElem];rw[A4 e]at x;refine⟨by rw[t,id];simp,i,e,Ba x,λj k=>?_⟩;rw[P3,pP];by_cases n:(d[j]' o!).1=2;right;rw[id];exact beq_eq_false_iff_ne.2 (first j _ k (A4 o!) n);left;exact beq_eq_false_iff_ne.2 n;rintro⟨l,f,x,L⟩;rw[List.find?_eq_some_iff_getElem]at x;obtain⟨h,i,e,p,k⟩:=x;simp only[BO,beq_iff_eq]at h;refine⟨i,f,e,by rw[A4 e,p],h.1,λj m q o r s=>?_,l,L,h.2.symm⟩;have:=k j q;rw[A4 o!]at o;rw[Ba o,r,s,h.2]at this;simp at this
theorem AAW{f g:AT}(a:f.1=g.1)(b:f.2.1=g.2.1):Ow d f=Ow d g:=by grind[Ow]
theorem zX{x l more:List AT}(w: ∀f,Ow l f=true->Ow more f=true)(h:Qi a b c (E2 more x) (E2 more x).length g):Qi a b c (E2 l x) (E2 l x).length g:=by
 obtain⟨y,f,d,e⟩:=pB.1 h;refine pB.2 ⟨y,f,?_,e⟩;unfold E2 at d⊢;rw[Z7]at d⊢;rw[List.find?_eq_some_iff_getElem]at d⊢;obtain⟨r,i,u,t,v⟩:=d;simp only[BO,beq_iff_eq,P3]at r;obtain⟨k,o,p⟩:=r;have s:Ow l f=false:=Ts.2 λq=>by rw[w f q]at k;cases k
 refine⟨by rw[s,o,p];simp,i,u,t,λj n=>?_⟩;have:=v j n;rw[P3,pP]at this⊢;rcases this with q|q;by_cases L:((x[j]' o!).1==2&&(x[j]' o!).2.1==g.1)=true;simp only[BO,beq_iff_eq]at L;rw[AAW (g:=f) (L.1.trans o.symm) (L.2.trans p.symm),k]at q;cases q;exact .inr (Ts.2 L);exact .inr q
theorem yE{L:AO}{l:Ae}{C s t:List AT}{k m:Nat}{p:Int}(Q:LI b a)(E:AR a L)(hr:RC L c)(F:Us a l)(hk:k<=a.length)(U:0<=p/\p<L.2.1)(T: ∀f,Ow s f=true->Ow t f=true)(d:OKp a h m (L.1,(L.2.1,(E2 t L.2.2.1,L.2.2.2))) l (E2 t C) k p):OKp a h m (L.1,(L.2.1,(E2 s L.2.2.1,L.2.2.2))) l (E2 s C) k p:=by
 have G:=F.len;have⟨a1,_,a3⟩:=E.less (Ug s _) hr;have⟨H,_,I⟩:=E.less (Ug t _) hr;have⟨B,hi,O,X,M,q⟩:=d;have⟨W,y,n,r,g,_,_⟩:=sY (p:=p) (i:=0) (j:=(k:Int)) (CPa 4096) g! Q o! (Ad _) o! o! a1 F U;have A:=X.uniq H.vb.1 rfl rfl r;subst A;have o: ∀z,rp (L.1,(L.2.1,(E2 t L.2.2.1,L.2.2.2))) l B z->rp (L.1,(L.2.1,(E2 s L.2.2.1,L.2.2.2))) l B z:=λz V=>by rcases V with q|⟨e,J,K⟩;exact .inl q;have⟨f,P,u,D⟩:=(I e).1 J;have⟨v,x⟩:=Bk.1 P;refine .inr ⟨e,(a3 e).2 ⟨f,Bk.2 ⟨v,?_⟩,u,D⟩,K⟩;rw[P3]at x⊢;exact Ts.2 λw=>by rw[T f w]at x;cases x
 have⟨Y,Z,N,f4⟩:=M;have⟨g0,u,D,v⟩:=id g;have R:n<=O:=by rcases v with w|w;omega;refine RX λS=>w (o n (N n o! u))
 refine⟨B,y,n,r,g,?_⟩;grind[zX]
def bd0(h:1<=b/\b<=64):BD b [0]:=⟨h.1,h.2,g!,g!,rfl,λi a n e c d=>by simp at c d,λa c=>by simp at c;omega⟩
theorem sg{x:Int×List Int}(h:BD x.1 x.2):Ar (Fh x) λr=>r.2=0/\r.1.2.2.1=[]/\r.1.1=x.2:=by unfold Fh;refine AA fN λc a=>AM (λb=>absurd (a.2 h) (by simp[b])) (λ_=>?_);have:=h.2.2.2.1;grind[AA,Ac,AB]
theorem pJ(h:1<=b/\b<=64):Ar (EH (b,1)) λr=>r.2=0/\r.1.2.2.1=(1,([],0)):=by grind[IB,EH,AA,LP,QF,AB]
theorem AC9(h:1<=b/\b<=64):Ar (El b) λr=>r.2=0:=by grind[El,AA,JC,AB]
theorem sh(h:1<=b/\b<=64):Ar (KB (b,0)) λr=>r.2=0:=by
 have a:Iq (b,(0,([],[])))=some true:=by
  have l1:AZ (TA (b,(0,([],[])))) (0,0)=some (.inr 0):=by rw[Dv];rfl
  grind[AZ,TB,Dv,Iq,AX]
 grind[KB,Bool.not_true,AB]
def AA9(x:GF 8 Int):Ar (Ny x) λ_=>True:=by
 unfold Ny;refine AA (P:=λ_=>True) ?_ λv _=>AM (λ_=>AB trivial) (λ_=>AB trivial);unfold QJ;refine AA (P:=λ_=>True) ?_ λr _=>BA (λ_ _=>AB trivial) (λ_ _=>?_)
 ·refine Cf (λ(s:Int)=>0<=s/\s<=8) (λs=>(8-s).toNat) ⟨Ad _,g!⟩ (λs c=>?_);have⟨b,d⟩:=c;unfold TD;dsimp only;refine AC (λa=>?_) (λ_=>Ar.done trivial);rw[AX];exact AA (CM b a) λ_ _=>AA (CM b a) λ_ _=>AC (λ_=>Ar.done trivial) (λ_=>AA (CM b a) λ_ _=>AA (CM b a) λ_ _=>AC (λ_=>Ar.done trivial) (λ_=>Ar.next o! o!))
 dsimp only;rw[AX];exact AC (λ_=>AC (λ_=>AC (λ_=>AA (CM g! g!) λ_ _=>AA (CM g! g!) λ_ _=>AB trivial) (λ_=>AB trivial)) (λ_=>AB trivial)) (λ_=>AB trivial)
def ABA{n:Int}(h:1<=n/\n<=64):Ar (Gf (n,(1,(0,([0]:List Int))))) λr=>r.1.1.2.2.1=(1,([],0))/\AR [] r.1.2.2.1/\RC r.1.2.2.1 0/\r.1.2.2.1.2.1=n/\r.1.2.2.1.2.2.1=[]/\r.1.2.2.2.1=[]:=by unfold Gf;dsimp only;refine AA (pJ h) λk b=>AK (λa=>absurd b.1 a) (λ_=>?_);rw[AX,show n+0=n by omega];refine AA (AC9 h) λl d=>AK (λa=>absurd d a) (λ_=>AA ((ADB (L:=[]) (x:=(n,[0])) (bd0 h)).and (sg (bd0 h))) λm c=>AK (λa=>absurd c.2.1 a) (λ_=>AA (sh h) λo e=>AK (λa=>absurd e a) (λ_=>?_)));obtain⟨⟨f,q,g,s,i,t⟩,u,j,_⟩:=c;exact A7 (AA (AA9 _) λp _=>AB ⟨b.2,f,g,i,j,rfl⟩)
theorem AGj{n:Int}(h:1<=n/\n<=64)(w:e.1.2.2.1=(1,([],0)))(s:AR [] e.2.2.1)(hr:RC e.2.2.1 0)(hn:e.2.2.1.2.1=n)(B:e.2.2.1.2.2.1=[])(t:e.2.2.2.1=[]):Ev (e,[])=some true:=by
 have C:Dg ((1,([],0)):Ae):=⟨g!,g!,g!,g!,g!,λi a h=>by simp at h⟩
 have c:Us [] e.1.2.2.1:=by grind[XJ]
 have⟨m,y⟩:=FF (show 0<=n by omega);have⟨b,v,l⟩:=zr (x:=(e,[])) (d:=0) (k:=0) (m:=m) (LI.nil 0) He.nil s c hr g! (Am _) (by dsimp only;rw[w];rfl) (by dsimp only;rw[hn,y]) o! (by dsimp only;rw[t];exact Bi _) (λf q=>by dsimp only at q;rw[t]at q;cases q) (by exact Bi _);rw[v,l.2 λp A D=>?_];have⟨a1,_,_⟩:=s.less (Ug [] _) hr;have⟨z,o,u,r,g,_,_⟩:=sY (p:=p) (i:=0) (j:=((0:Nat):Int)) (CPa 4096) g! (LI.nil 0) o! (Ad _) o! o! a1 c ⟨A,by dsimp only;rw[hn];omega⟩;exact⟨z,o,u,r,g,.inl (by have:=g.1;have:=g.2.1;omega)⟩
theorem AIs{l:List Int}(h:l.length<=1):Ar (IX l ()) λr=>r=l:=by
 have step: ∀n:Int,Ar (FE (λ_=>none) l (0,((len l),n))) λr=>r=l:=λn=>by unfold FE;refine AA (P:=λr=>r=l) ?_ λr hr=>AB hr;rw[Dv];unfold Oh;dsimp[len];rw[AX,decide_eq_true o!,cond_true];rw[(by grind[FX,AX,Dv,KC]:FX l (0,(l.length:Int))=some l),AD,HB,cond_true];exact⟨l,rfl,rfl⟩
 unfold IX IG;obtain⟨n,g,-,-⟩:=sF (x:=l.length) o!;rw[XB,show(len l)%18446744073709551616=(l.length:Int) by show((l.length:Nat):Int)%_=_;omega,g];simp[AD];refine AA (P:=λr=>r=l) ?_ λe c=>?_;have⟨r,hr,d⟩:=step n;have⟨s,b⟩:=gh (f:=λg (p:List Int×(Int×(Int×Int)))=>FE g p.1 p.2) (x:=(l,(0,(len l,n)))) (n:=1) hr;have⟨N,a⟩:=dT b;refine⟨s,b,?_⟩;cases N with
 |zero=>cases a
 |succ N=>exact(step n).get a
 grind[Nat.beq_refl,AB]
theorem AId:QC (IntKind.wrap .u64 0)=some 0:=by decide+kernel
theorem AIm{s:Int}:Ar (Xw (0,s)) λr=>r.length<=1:=by
 unfold Xw;dsimp only;rw[decide_eq_false o!,cond_false];refine AA (P:=λr:List Int=>r.length<=1) ?_ λe b=>AA (AIs b) λf d=>?_
 ·refine Cf (λ(t:Int×List Int)=>(t.1=0/\t.2=[])\/(t.1=1/\t.2.length<=1)) (λt=>(1-t.1).toNat) (.inl ⟨rfl,rfl⟩) ?_;rintro⟨i,l⟩ a;unfold iz;dsimp only at a⊢;rw[(by decide+kernel:(wi (1*(2^(min (Int.toNat 0) 64))))=1)];refine AC (λc=>?_) (λc=>Ar.done (by rcases a with⟨q,_⟩|⟨_,q⟩;omega;exact q));grind[AId,AX,AQ,AA,Ac,Ar.next]
 grind[Nat.beq_refl,AB]
theorem AHJ(c:AR [] e.2.2.1)(t:e.2.2.1.2.2.1=[])(p:e.2.2.2.1=[]):ND e=some []:=by
 obtain⟨q,j,v,k,_,rfl,_,_⟩:=we c.vb c.ds (Uj c.vb) c.dis;rw[(by grind[F9]:F9 e.2.2.1=[])]at k;have r:v=[]:=k.eq_nil;subst r;have⟨V,o,y,l⟩:=qe (L:=[]) (d:=0) (m:=1) He.nil g! g! (fs:=[]) g! (λf q=>by cases q);have h:V=[]:=List.eq_nil_iff_forall_not_mem.2 λx s=>by have⟨i,f,q,_⟩:=(l x).1 s;exact absurd q (Nat.not_lt_zero _)
 subst h;have u:AZ WW (0,[])=some []:=by rw[Dv];rfl
 have w:AZ (Dk []) (0,[])=some []:=by rw[Dv];rfl
 have l2: ∀b:Int,AZ (WV (0,((len ([]:List Int)),(b,(true,true))))) (wi (0+1))=some ():=λb=>by rw[Dv];rfl
 have l1: ∀b:Int,AZ Kg (0,((len ([]:List Int)),(b,(true,true))))=some ():=λb=>by rw[Dv];unfold Kg;dsimp only;rw[decide_eq_true (show wi ((len ([]:List Int))-0)<=12 from by decide+kernel),cond_true,l2,AD]
 unfold ND;rw[j,AD,p,o];rw[decide_eq_true (show len (List.map (λx:NE=>x.2) [])=0 from rfl),cond_true];unfold IG;obtain⟨n,g,-,-⟩:=sF (x:=0) g!;have a:IntKind.wrap .u64 (len ([]:List Int))=((0:Nat):Int):=rfl;grind
theorem AIv{n:Int}(h:1<=n/\n<=64)(o:e.1.2.2.1=(1,([],0)))(c:AR [] e.2.2.1)(hr:RC e.2.2.1 0)(hn:e.2.2.1.2.1=n)(l:e.2.2.1.2.2.1=[])(m:e.2.2.2.1=[]):VL (e,3)=some ([],0):=by
 suffices p:Ar (VL (e,3)) λr=>r=([],0) by obtain⟨r,hr,rfl⟩:=p;exact hr
 have q:Dg ((1,([],0)):Ae):=⟨g!,g!,g!,g!,g!,λi a h=>by simp at h⟩
 obtain⟨v,b,rfl⟩:=HE c.vb;obtain⟨w,t,rfl⟩:=Jj q;unfold VL;dsimp only;rw[b,AD,Cg,cond_false,o,t,AD,Cg,cond_false,decide_eq_false g!,cond_false,decide_eq_false g!,cond_false,AHJ c l m,AD,decide_eq_false g!,cond_false];refine AA (P:=λr=>r=([],[])) ?_ λr hr=>AB (by rw[hr]);refine Cf (λ(s:Int×List (List AT)×List Int)=>0<=s.1/\s.1<=4/\s.2=([],[])) (λs=>(4-s.1).toNat) ⟨Ad _,u!,rfl⟩ ?_;rintro⟨i,_⟩ ⟨u,x,rfl⟩;dsimp only at u x;unfold iv;dsimp only;refine AC (λd=>?_) (λ_=>Ar.done rfl);refine AA (AIm (s:=i)) λg z=>AA (P:=λr=>r=([],[])) ?_ λr hr=>Ar.next ⟨by dsimp only;rw[AX];omega,by dsimp only;rw[AX];omega,hr⟩ (by dsimp only;rw[AX];omega)
 refine Cf (λ(s:Int×List (List AT)×List Int)=>0<=s.1/\s.1<=g.length/\s.2=([],[])) (λs=>((g.length:Int)-s.1).toNat) ⟨Ad _,d!,rfl⟩ ?_;rintro⟨j,_⟩ ⟨f,y,rfl⟩;dsimp only at f y;unfold iw;dsimp[len];refine AC (λd=>?_) (λ_=>Ar.done rfl);refine AA (AI f d) λk _=>?_;have A:AZ (iy (j,([],[])) k) 0=some (.inr ()):=by rw[Dv];rfl
 have B:AZ (XK [] k) (0,[])=some []:=by rw[Dv];rfl
 grind[A3,AGj,Bool.not_true,AX,Ar.next]
def ABG:Gq ()=some true:=by
 suffices i:Ar (Gq ()) λr=>r=true by obtain⟨r,hr,rfl⟩:=i;exact hr
 unfold Gq;refine AA (ABA (n:=2) g!) λv h=>?_;have⟨a,b,c,d,e,f⟩:=h;have g:Rl v.1=some (3,0):=by unfold Rl;rw[AIv (n:=2) g! a b c d e f];rfl
 rw[g,AD,AGj (n:=2) g! a b c d e f];exact AB rfl
structure DBx(n d:Int)(L:List EN)(m:Nat)(db:BN):Prop where
 li:LI n L
 num:He L
 ar:AR L db.2.2.1
 ag:AG db.2.2.1
 log:Us L db.1.2.2.1
 rc:RC db.2.2.1 12
 dur:db.1.2.2.1.2.2=(L.length:Int)
 pg:(m:Int)=db.2.2.1.2.1
 pn:1<=m/\m<=64
 i8:db.2.2.2.1.length<=8
 few:db.2.2.1.2.2.1.length<=4
 fi: ∀f∈db.2.2.2.1,FI L d m f
theorem wR{b:AW}(h:CX b):Ar (Fj b ()) λr=>CX r.2/\ ∃n d L m,DBx n d L m r.1:=by
 unfold Fj;refine AA ((Wv h (x:=20) o!).and (zq h (x:=20) o!)) λe I=>?_;have⟨⟨c0,l,n2,j,n,li⟩,f1,H⟩:=I;have u:=j.2.2.1;have t:=j.num H;have⟨x1,x2,x3,x4,x5,x6⟩:=id j;have G:e.2.1.2.2=e.2.1.2.1.length:=o!
 refine AA (pJ ⟨l,o!⟩) λv1 h1=>AA ((ADB (L:=e.2.1.2.1) (x:=(e.1,[0])) (bd0 ⟨l,o!⟩)).and (sg (bd0 ⟨l,o!⟩))) λv2 J=>?_;have⟨⟨z1,z2,z3,z4,z5,z6⟩,_,z7,z8⟩:=J;refine AA (Ap c0 g!) λv3 K=>?_;have⟨C,Z,k3⟩:=K;refine AA (P:=λr=>CX r.1/\AR e.2.1.2.1 r.2/\AG r.2/\RC r.2 12/\r.2.2.1=e.1/\r.2.2.2.2.1<=e.2.1.2.2+1/\r.2.2.2.1.length<=4) ?_ λv8 Q=>?_
 ·refine Cf (λ(s:Int×AW×AO)=>0<=s.1/\s.1<=4/\CX s.2.1/\AR e.2.1.2.1 s.2.2/\AG s.2.2/\RC s.2.2 (4-s.1).toNat/\SF s.2.2 (1+100*(4-s.1))/\s.2.2.2.1=e.1/\s.2.2.2.2.2.1<=e.2.1.2.2+1/\s.2.2.1.length=1/\s.2.2.2.2.1.length<=4-s.1) (λs=>s.1.toNat) ⟨Z,d!,C,z1,z2,λk=>Cz (z3 k) (Bi _),by unfold SF at*;dsimp only;omega,z5,by dsimp only;rw[z6];omega,by rw[z8];rfl,by dsimp only;rw[z7];simp;omega⟩ ?_;rintro⟨i,c,a⟩ ⟨W,X,o,q1,q2,q3,q4,q5,q6,q7,q8⟩;dsimp only at W X o q1 q2 q3 q4 q5 q6 q7 q8;unfold Sn;dsimp only;refine AC (λS=>?_) (λS=>Ar.done ⟨o,q1,q2,λk=>Cz (q3 k) o!,q5,q6,d!⟩);refine AA (Ap o g!) λq M=>?_;have⟨D,m5,k5⟩:=M;rw[AX (x:=1+q.1),AX (x:=i-1)];refine AA ((AE6 (x:=(a,(e.2.1,1+q.1))) q1 j q4).and (sj (x:=(a,(e.2.1,1+q.1))) q1.sa q1.vb j)) λv N=>AA (P:=λr=>AR e.2.1.2.1 r/\AG r/\RC r (4-(i-1)).toNat/\SF r (1+100*(4-(i-1)))/\r.2.1=e.1/\r.2.2.2.1<=e.2.1.2.2+1/\r.1.length=1/\r.2.2.1.length<=4-(i-1)) (AQ (λV=>AB ?_) (λ_=>AB ⟨q1,q2,λk=>Cz (q3 k) o!,by unfold SF at*;omega,q5,q6,q7,o!⟩)) λv7 O=>Ar.next ⟨d!,d!,D,O⟩ d!
  have⟨w1,y,z,w4,A,B,w7⟩:=N.1 V;have w8:v.1.1.length=1/\v.1.2.2.1.length<=4-(i-1):=by grind[List.length_append]
  dsimp only at y z A B;refine⟨w1,y q2,?_,by unfold SF at*;omega,A.trans q5,by rcases B with w|w<;>omega,w8⟩;have:=z _ q3;rw[show(4-(i-1)).toNat=(4-i).toNat+1 by omega];exact this
 have⟨E,a1,a2,a3,a4,a5,a6⟩:=Q;have⟨m,T⟩:=FF (show 0<=e.1 by omega);have U:=a1.vb.2.1;refine AA (P:=λr=>CX r.2/\r.1.length<=8/\ ∀f∈r.1,FI e.2.1.2.1 e.2.1.2.2 m f) (by rw[T];exact AC5 E li t a1 (XJ j) o! o! o!) λv9 R=>?_;have⟨F,i8,Y⟩:=R;refine AA (Ap F g!) λad p=>AA (P:=λ(r:AW×Ae)=>CX r.1/\Us e.2.1.2.1 r.2/\r.2.2.2=e.2.1.2.2) ?_ λag g=>?_;refine AC (λ_=>?_) (λ_=>AB ⟨p.1,XJ j,rfl⟩);grind[AA,Ap,AX,AH5,AB];refine AA (ABA ⟨l,o!⟩) λal _=>AB ⟨g.1,n,e.2.1.2.2,e.2.1.2.1,m,li,t,a1,a2,g.2.1,a3,g.2.2.trans G,?_,o!,i8,a6,Y⟩;dsimp only;omega
def ABz(n:DBx b h a c e):Ar (Li e) λr=>r.length<=300:=by
 have y:=n.log.len;have w:=n.ar.vb.2.2.2.2.2.1;have F:=n.i8;unfold Li;refine AA (ADG n.ar) λI A=>?_;obtain⟨W,rfl,S,T,U⟩:=A;have H:(W.map (·.2)).length=W.length:=B5 _;refine AA (P:=λr=>(r.length:Int)<=e.2.2.1.2.2.1.length) ?_ λR G=>AA (zo n.num o! n.pn n.i8 (λf q=>.inl (n.fi f q))) λm j=>AA (P:=λr=>r.length<=300) ?_ λr hr=>AB hr
 ·refine Cf (λ(s:Int×List AT)=>0<=s.1/\s.1<=e.2.2.1.2.2.1.length/\s.2.length<=s.1) (λs=>((e.2.2.1.2.2.1.length:Int)-s.1).toNat) ⟨Ad _,d!,k!⟩ ?_;rintro⟨i,o⟩ ⟨d,u,v⟩;dsimp only at d u v;unfold TE;dsimp only[len];refine AC (λg=>?_) (λ_=>Ar.done o!);rw[AX (x:=i+1)];refine AA (P:=λ_=>True) ?_ λM _=>AA (P:=λr=>(r.length:Int)<=i+1) (AJ (λ_=>AA (AI d g) λN _=>AA (Ac w!) λO B=>AB ?_) (λ_=>AB o!)) λQ l=>Ar.next ⟨d!,d!,l⟩ d!
  ·refine Cf (λ(t:Bool×Int)=>0<=t.2/\t.2<=W.length) (λt=>((W.length:Int)-t.2).toNat) ⟨Ad _,d!⟩ ?_;rintro⟨L,t⟩ ⟨z,C⟩;dsimp only at z C;unfold TF;dsimp only[len];refine AC (λp=>?_) (λ_=>Ar.done trivial);rw[AX];exact AJ (λ_=>Ar.next d! d!) (λ_=>AA (AI z p) λJ _=>AA (AI d g) λK _=>Ar.next d! d!)
  rw[B.1];simp;omega
 ·refine Cf (λ(s:Int×List AT)=>0<=s.1/\s.1<=m.length/\s.2.length<=256+s.1) (λs=>((m.length:Int)-s.1).toNat) ⟨Ad _,d!⟩ ?_;rintro⟨i,o⟩ ⟨d,u,v⟩;dsimp only at d u v;have:=j.1;unfold Dk;dsimp only[len];refine AC (λg=>?_) (λ_=>Ar.done o!);rw[AX (x:=i+1)];exact AA (AI d g) λD _=>AA (Ac w!) λE k=>Ar.next ⟨d!,d!,by dsimp only;rw[k.1];simp;omega⟩ d!
theorem AA3{m:AW}(n:DBx b h a c e)(t:CX m):Ar (HK m e) λr=>CX r.2/\r.1.length<=301:=by
 unfold HK;refine AA (ABz n) λj y=>AA (P:=λr=>CX r.2/\r.1.length<=300) ?_ λB l=>?_
 ·refine Cf (λ(s:Int×List AT×AW)=>0<=s.1/\s.1<=j.length/\s.2.1.length<=s.1/\CX s.2.2) (λs=>((j.length:Int)-s.1).toNat) ⟨Ad _,d!,k!,t⟩ ?_;rintro⟨i,o,L⟩ ⟨u,v,w,g⟩;dsimp only at u v w g;unfold UE;dsimp[len];refine AC (λz=>?_) (λ_=>Ar.done ⟨g,d!⟩);grind[AX,AA,Ap,AQ,AI,Ac,AB,Ar.next]
 have⟨k,A⟩:=l;refine AA (Ap k g!) λC f=>AA (P:=λr=>CX r.2/\r.1.length<=301) (AQ (λ_=>?_) (λ_=>AB ⟨f.1,d!⟩)) λr hr=>AB hr;exact AA (Ap f.1 g!) λD p=>AA (Ap p.1 g!) λE q=>AA (Ac w!) λx d=>AB ⟨q.1,by dsimp only;rw[d.1];simp;omega⟩
def yB{x:List Int}(h: ∀c∈x,0<=c/\c<256):Ar (Lv x) λr=>r=true:=by
 unfold Lv;rw[ABG,AD,Cg,cond_false];refine AA (yU h) λT g=>AA (wR g) λN E=>?_;have⟨D,n,d,L,m,a⟩:=E;refine AA (P:=λr=> ∃z,r= .inr z) ?_ λr hr=>by obtain⟨z,rfl⟩:=hr;exact A3 (AB rfl)
 refine Cf (λ(s:Int×AW)=>0<=s.1/\s.1<=4/\CX s.2) (λs=>(4-s.1).toNat) ⟨Ad _,u!,D⟩ ?_;rintro⟨i,c⟩ ⟨I,J,v⟩;dsimp only at I J v;unfold Pv;dsimp only;refine AC (λO=>?_) (λ_=>Ar.done ⟨_,rfl⟩);rw[AX (x:=i+1)];refine AA (AA3 a v) λB o=>AA (Ac w!) λU q=>AA (AA3 a o.1) λC u=>AA (Ac (by rw[q.1];simp;omega)) λj F=>?_;have k:j=B.1++C.1:=by rw[F.1,q.1];rfl
 have w:Ar (some (Step.next (i+1,C.2)):Option (Step (Int×AW) (Bool ⊕ AW))) (MK (λ(s:Int×AW)=>0<=s.1/\s.1<=4/\CX s.2) (λs=>(4-s.1).toNat) (4-i).toNat λr=> ∃z,r= .inr z):=Ar.next ⟨d!,d!,u.1⟩ d!
 have R:=o.2;have S:=u.2;have A: ∀l:List AT,l.length<=1000->_:=λl Q=>zr (x:=(N.1,l)) a.li a.num a.ar a.log a.rc g! (Am _) a.dur a.pg a.pn a.i8 a.fi d!;refine AA (A j (by rw[k,Aa];omega)) λV G=>AJ (λH=>?_) (λ_=>w);refine AA (A B.1 o!) λM e=>AM (λb=>?_) (λ_=>w);have:=e.2 λp y K=>yE (t:=j) a.li a.ar a.rc a.log (Am _) ⟨y,by have:=a.pg;dsimp only at this⊢;omega⟩ (λf b=>by dsimp only at b;unfold Ow at b⊢;rw[k,List.any_append,b,Bool.true_or]) (G.1 H p y K);rw[b]at this;cases this
end Go.Pm
namespace Go.Proofs.YtdjfjcnheopcdaaGreatDoor
open Go.RowKit Go.Ab Go.Pm
def ABJ: ∃j,Tryz.prog.info? 375=some j/\j.size=2:=by
 have h:(Tryz.prog.info? 375).map (·.size)=some 2:=by kernel_rfl
 exact WN.1 h
def AFF:liesAt Tryz.prog Tryz.prog.depth 375 (2/Tryz.prog.cellsOf 375) 0 375 1=true:=by kernel_rfl
set_option maxHeartbeats 1000000 in
set_option maxRecDepth 100000 in
def u6(b:Nat)(w:World)(d:w.cell? ⟨b,0,none⟩=some (.pointer (some ⟨b,0,none⟩))):
  Calls Tryz.prog 321 #[.pointer (some ⟨b,0,none⟩)] w λe c=>e= .returned (.tuple #[])/\c=w:=by
 obtain⟨j,a,_⟩:=ABJ;go_enter Tryz.func321,Tryz.ntmps321;go_wp2;rw[Lib.run_neq_ptr_same w _ Tryz.underlying373 a];go_wp2;go_end0;exact⟨rfl,rfl⟩
set_option maxHeartbeats 1000000 in
set_option maxRecDepth 100000 in
def j9(b:Nat)(w:World)(h:w.cell? ⟨b,0,none⟩=some (.pointer none))(a:w.shape? b=some (375,2))(f:w.frozen? ⟨b,0,none⟩=false):
  Calls Tryz.prog 321 #[.pointer (some ⟨b,0,none⟩)] w λe g=>e= .returned (.tuple #[])/\g=w.setCell ⟨b,0,none⟩ (.pointer (some ⟨b,0,none⟩)):=by
 obtain⟨j,d,c⟩:=ABJ;go_enter Tryz.func321,Tryz.ntmps321;go_wp2;rw[Lib.run_to_unsafe w ⟨b,0,none⟩ Tryz.underlying373 Tryz.underlying459 d (by rw[c];decide) a (Nat.zero_lt_succ 1)];simp only[Result.andThen];rw[Oper.upon_value];go_wp2;rw[run_callFunc_extern Tryz.func357 (by kernel_rfl) (by kernel_rfl) (by kernel_rfl) (e:=Extern.AbiNoEscape.same) (by kernel_rfl)];rw[Lib.run_noEscape];simp only[Result.andThen];rw[Oper.upon_value];go_wp2;rw[Lib.run_from_unsafe w ⟨b,0,none⟩ Tryz.underlying459 Tryz.underlying373 d a AFF];simp only[Result.andThen];rw[Oper.upon_value];go_wp2;go_end0;exact⟨rfl,rfl⟩
def yR(B b:Nat)(bs:List Value)(w:World)(h:Lib.IsBuilderF 375 5 B b bs w):
  Calls Tryz.prog 321 #[.pointer (some ⟨b,0,none⟩)] w λe a=>e= .returned (.tuple #[])/\Lib.BuilderAtF 375 5 B b (.pointer (some ⟨b,0,none⟩)) bs a/\Below B w a:=by
 rcases h with h|h;apply (j9 b w h.cell0 h.shape h.frozen0).mono;rintro e a ⟨rfl,rfl⟩;exact⟨rfl,h.used _,(Below.refl B w).setCell (p:=⟨b,0,none⟩) h.1 _⟩;apply (u6 b w h.cell0).mono;rintro e a ⟨rfl,rfl⟩;exact⟨rfl,h,Below.refl B _⟩
def ABI: ∃i,Tryz.prog.info? 5=some i/\i.zero=some (.int .u8 0)/\i.size=1/\i.bytes=1:=by
 have h:(Tryz.prog.info? 5).map (λi=>(i.zero,i.size,i.bytes))=some (some (.int .u8 0),1,1):=by kernel_rfl
 obtain⟨i,b,a⟩:=WN.1 h;simp only[EK]at a;exact⟨i,b,a.1,a.2.1,a.2.2⟩
variable {c:Nat}
def tC{b:Nat}{p:Value}{bs:List Value}{w:World}(h:Lib.BuilderAtF 375 5 c b p bs w): ∃v,w.heap[b]? =some (.cells #[p,v] 375 (0,0))/\w.cell? ⟨b,1,none⟩=some v/\w.ownsRowF c 5 1 v bs.length bs/\v.ownBlock≠some b:=by obtain⟨e,v,a,B,d⟩:=h;exact⟨v,a,by rw[Lib.cell_of_heap a];rfl,B,d⟩
set_option maxHeartbeats 1000000 in
set_option maxRecDepth 100000 in
def AG8(B b:Nat)(bs:List Value)(w:World)(h:Lib.IsBuilderF 375 5 B b bs w):
  Calls Tryz.prog 267 #[.pointer (some ⟨b,0,none⟩)] w λe l=>e= .returned (.int .i64 bs.length)/\l=w:=by
 obtain⟨p,j⟩: ∃p,Lib.BuilderAtF 375 5 B b p bs w:=h.elim (λh=>⟨_,h⟩) (λh=>⟨_,h⟩);obtain⟨v,k,m,a,_⟩:=tC j;obtain⟨d,cap,rfl⟩: ∃d cap,v= .slice d bs.length cap:=by rcases a.2 with⟨c,i⟩|⟨g,cap,f,n,c,_⟩;exact⟨none,0,by rw[c,i]⟩;exact⟨_,_,c⟩
 go_enter Tryz.func267,Tryz.ntmps267
 go_wp2
 go_ret
 exact⟨rfl,rfl⟩
set_option maxHeartbeats 2000000 in
set_option maxRecDepth 100000 in
def wm(B b:Nat)(bs:List Value)(c:Int)(w:World)(h:Lib.IsBuilderF 375 5 B b bs w)(C:bs.length+1≤140737488355328)(H:B≤w.heap.size):
  Calls Tryz.prog 263 #[.pointer (some ⟨b,0,none⟩),.int .u8 c] w λe E=>e= .returned .nilIface/\Lib.BuilderAtF 375 5 B b (.pointer (some ⟨b,0,none⟩)) (bs++[.int .u8 c]) E/\Below B w E:=by
 obtain⟨M,I,t,x,y⟩:=ABI;go_enter Tryz.func263,Tryz.ntmps263;go_wp2_with (go_at_call 321;apply (yR B b bs _ h).mono)
 rintro e F ⟨rfl,m,l⟩;have A:=m.1;have r:=m.lt;have c0:=m.cell0;obtain⟨v,q,z,i,s⟩:=tC m;have K:=l.size;go_wp2_with (at_builtin;apply wpList_append_ownF _ rfl _ _ 22 rfl B 5 M (.int .u8 0) 1 1 Tryz.underlying22 I t x y rfl g! _ _ _ rfl (i.alloc _) ⟨F.heap.size,0,none⟩ 1 1 [.int .u8 c] rfl rfl ?z ?c2 ?c3 ?c4 ?c5)
 case z=>
  intro j u n;match j,n with
  |0,n=>simp at n;subst n;simp[Addr.add]
 case c2=>intro u D;simp at D;subst D;rfl
 case c3=>unfold maxLen;omega
 case c4=>omega
 case c5=>simp;omega
 intro N o d a _;have f:o.heap[b]? =some (.cells #[.pointer (some ⟨b,0,none⟩),v] 375 (0,0)):=by rw[a.block b w! (λe=>s e.symm),Lib.alloc_old F _ b r];exact q
 have O:o.cell? ⟨b,0,none⟩=some (.pointer (some ⟨b,0,none⟩)):=by rw[Lib.cell_of_heap f];rfl
 have P:o.cell? ⟨b,1,none⟩=some v:=by rw[Lib.cell_of_heap f];rfl
 have Q:o.frozen? ⟨b,1,none⟩=false:=Lib.frozen_of_heap f 1;obtain⟨g,cap,rfl⟩: ∃g cap,N= .slice (some ⟨g,0,none⟩) (bs.length+1) cap:=by rcases d.2 with⟨_,S⟩|⟨g,cap,G,R,L,_⟩;omega;exact⟨g,cap,L⟩
 go_wp2
 go_ret
 refine⟨rfl,?_,?_⟩;exact Lib.BuilderAtF.put (T:=375) (e:=5) A f (bs':=bs++[.int .u8 c]) (by simpa using d) g!;exact((l.alloc o! _).grown a w! (λk J=>(i.lt k J).1)).setCell (p:=⟨b,1,none⟩) A _
set_option maxHeartbeats 2000000 in
set_option maxRecDepth 100000 in
def Yf(B b:Nat)(bs:List Value)(s:ByteArray)(w:World)(h:Lib.IsBuilderF 375 5 B b bs w)(z:bs.length+s.size≤140737488355328)(E:B≤w.heap.size):
  Calls Tryz.prog 262 #[.pointer (some ⟨b,0,none⟩),.string s] w λe C=>e= .returned (.tuple #[.int .i64 s.size,.nilIface])/\Lib.BuilderAtF 375 5 B b (.pointer (some ⟨b,0,none⟩)) (bs++Lib.strCells s) C/\Below B w C:=by
 obtain⟨I,F,r,t,u⟩:=ABI;go_enter Tryz.func262,Tryz.ntmps262;go_wp2_with (go_at_call 321;apply (yR B b bs _ h).mono)
 rintro e P ⟨rfl,j,i⟩;have y:=j.1;have n:=j.lt;have c0:=j.cell0;obtain⟨v,m,K,f,o⟩:=tC j;have H:=i.size;go_wp2_with (at_builtin;apply Lib.wpList_append_own_stringF _ rfl _ _ 22 9 rfl B 5 I Tryz.underlying22 Tryz.underlying9 F r t u _ _ _ rfl f s rfl ?c3 ?c4 ?c5)
 case c3=>unfold maxLen;omega
 case c4=>omega
 case c5=>omega
 intro J l c a _;have d:l.heap[b]? =some (.cells #[.pointer (some ⟨b,0,none⟩),v] 375 (0,0)):=by rw[a.block b n (λe=>o e.symm)];exact m
 have L:l.cell? ⟨b,0,none⟩=some (.pointer (some ⟨b,0,none⟩)):=by rw[Lib.cell_of_heap d];rfl
 have M:l.cell? ⟨b,1,none⟩=some v:=by rw[Lib.cell_of_heap d];rfl
 have N:l.frozen? ⟨b,1,none⟩=false:=Lib.frozen_of_heap d 1;obtain⟨x,A,cap,rfl⟩: ∃x A cap,J= .slice x A cap:=by rcases c.2 with⟨q,_⟩|⟨g,cap,D,O,q,_⟩;exact⟨_,_,_,q⟩;exact⟨_,_,_,q⟩
 go_wp2
 go_ret2
 refine⟨rfl,?_,?_⟩;exact Lib.BuilderAtF.put (T:=375) (e:=5) y d (bs':=bs++Lib.strCells s) (by simpa[Lib.strCells_length]using c) g!;exact(i.grown a o! (λk G=>(f.lt k G).1)).setCell (p:=⟨b,1,none⟩) y _
set_option maxHeartbeats 1000000 in
set_option maxRecDepth 100000 in
def vY(B b:Nat)(l:List UInt8)(w:World)(h:Lib.IsBuilderF 375 5 B b (Lib.byteCells l) w)(y:l≠ []):
  Calls Tryz.prog 264 #[.pointer (some ⟨b,0,none⟩)] w λe z=>e= .returned (.string ⟨l.toArray⟩)/\Lib.IsBuilderF 375 5 B b (Lib.byteCells l) z/\Below B w z:=by
 obtain⟨p,K,k⟩: ∃p,(p= .pointer none\/p= .pointer (some ⟨b,0,none⟩))/\Lib.BuilderAtF 375 5 B b p (Lib.byteCells l) w:=h.elim (λh=>⟨_,.inl rfl,h⟩) (λh=>⟨_,.inr rfl,h⟩);obtain⟨D,v,i,c,t⟩:=k;have s:l.length≠0:=by simpa using y
 rw[Lib.byteCells_length]at c;obtain⟨g,cap,a,f,rfl,n,I,H,J,o,G,u⟩: ∃g cap a f,v= .slice (some ⟨g,0,none⟩) l.length cap/\B<=g/\w.heap[g]? =some (.cells a 5 f)/\f.2<=l.length*1/\l.length<=cap/\cap<=maxLen/\a.size=cap*1/\a.toList.take (l.length*1)=Lib.byteCells l:=by rcases c.2 with⟨_,N⟩|⟨g,cap,a,f,L,r⟩;exact absurd N s;exact⟨g,cap,a,f,L,r⟩
 have A:w.drew.cell? ⟨b,1,none⟩=some (.slice (some ⟨g,0,none⟩) l.length cap):=by have:w.drew.heap[b]? =some (.cells #[p,.slice (some ⟨g,0,none⟩) l.length cap] 375 (0,0)):=i;rw[Lib.cell_of_heap this];rfl
 have E:(Builtin.unsafeSliceData_ #[22] 426 #[.slice (some ⟨g,0,none⟩) l.length cap]).run Tryz.prog w.drew= .ok (.pointer (some ⟨g,0,none⟩)) w.drew:=Lib.run_unsafeSliceData_row _ _ _ _ _ _ o!;have F:(Builtin.unsafeString_ #[426,3] 9 #[.pointer (some ⟨g,0,none⟩),.int .i64 l.length]).run Tryz.prog w.drew= .ok (.string ⟨l.toArray⟩) (w.drew.freeze ⟨g,0,none⟩ l.length):=by apply Lib.run_unsafeString_row w.drew 426 3 9 5 Tryz.underlying426 (by kernel_rfl) g a.size (by have q:w.drew.heap[g]? =some (.cells a 5 f):=I;simp[World.shape?,q]) l y o! (by unfold maxLen at o;omega);intro j x M;exact c.cells (g:=g) rfl j (.int .u8 x.toNat) (by simp[Lib.byteCells,M])
 have d:Lib.IsBuilderF 375 5 B b (Lib.byteCells l) (w.drew.freeze ⟨g,0,none⟩ l.length):=by
  have C:Lib.BuilderAtF 375 5 B b p (Lib.byteCells l) w.drew:=⟨D,_,i,by rw[Lib.byteCells_length];exact c,t⟩
  have m:=C.froze (g:=g) (cap:=cap) (by rw[Lib.byteCells_length];exact A);rw[Lib.byteCells_length]at m;rcases K with rfl|rfl;exact .inl m;exact .inr m
 go_enter Tryz.func264,Tryz.ntmps264
 go_wp2
 go_region
 all_goals (go_wp2;go_ret;exact⟨rfl,d,Lib.below_freeze (Below.drew (Below.refl B w)) (p:=⟨g,0,none⟩) n _⟩)
set_option maxHeartbeats 2000000 in
set_option maxRecDepth 1000000 in
def ADS(B b n:Nat)(w:World)(p:B≤b)(a:w.heap[b]? =some (.cells #[.pointer (some ⟨b,0,none⟩),.slice none 0 0] 375 (0,0)))(j:B≤w.heap.size)(hn:n≤281474976710656):
  Calls Tryz.prog 324 #[.pointer (some ⟨b,0,none⟩),.int .i64 n] w λe o=>e= .returned (.tuple #[])/\Lib.BuilderAt 375 5 B b (.pointer (some ⟨b,0,none⟩)) [] o/\Below B w o:=by
 obtain⟨c,h,q,g⟩:=Lib.run_makeNoZero (P:=Tryz.prog) w.drew #[3] 22 5 Tryz.underlying22 n hn;have m:IntKind.i64.wrap (IntKind.i64.wrap 0+(n:Int))=n:=by rw[IntKind.wrap_i64,IntKind.wrap_i64];omega
 have k:(callFunc 358 #[.int .i64 (IntKind.i64.wrap (IntKind.i64.wrap 0+(n:Int)))]).run Tryz.prog w.drew= .ok (.value (.slice (some ⟨w.drew.heap.size,0,none⟩) n c.size)) (w.drew.drew.drew.alloc (.cells c 5)):=by rw[m,run_callFunc_extern Tryz.func358 (by kernel_rfl) (by kernel_rfl) (by kernel_rfl) (e:=Extern.BytealgMakeNoZero.makeNoZero #[3] #[22]) (by kernel_rfl),h];rfl
 have f:b<w.heap.size:=by rcases Au b w.heap.size with i|i;exact i;simp[sw i]at a
 have r:w.drew.cell? ⟨b,1,none⟩=some (.slice none 0 0):=by have:w.drew.heap[b]? =_:=a;rw[Lib.cell_of_heap this];rfl
 have s:(w.alloc (.cells c 5)).cell? ⟨b,1,none⟩=some (.slice none 0 0):=by have:(w.alloc (.cells c 5)).heap[b]? =_:=(Lib.alloc_old w _ b f).trans a;rw[Lib.cell_of_heap this];rfl
 have t:(w.alloc (.cells c 5)).frozen? ⟨b,1,none⟩=false:=Lib.frozen_of_heap ((Lib.alloc_old w _ b f).trans a) 1;have l: ∀W:World,(Builtin.copy_ #[22,22] 3 #[.slice (some ⟨w.heap.size,0,none⟩) 0 c.size,.slice none 0 0]).run Tryz.prog W= .ok (goInt 0) W:=λW=>run_copy_none W 22 22 3 5 _ _ 0 c.size 0 0 Tryz.underlying22 (by kernel_rfl) rfl;clear m;have d:=Lib.grown_fresh (T:=375) (e:=5) (cs:=c) p a j (g (by unfold maxLen;omega)) g!;rw[World.setCell_alloc_past _ _ _ _ f]at d;go_enter Tryz.func324,Tryz.ntmps324;go_wp2;go_region;all_goals (go_wp2;go_end0;exact⟨rfl,d⟩)
set_option maxHeartbeats 2000000 in
set_option maxRecDepth 1000000 in
def AFE(B b n:Nat)(w:World)(g:B≤b)(c:w.heap[b]? =some (.cells #[.pointer none,.slice none 0 0] 375 (0,0)))(h:B≤w.heap.size)(hn:n≤281474976710656):
  Calls Tryz.prog 266 #[.pointer (some ⟨b,0,none⟩),.int .i64 n] w λe f=>e= .returned (.tuple #[])/\Lib.BuilderAt 375 5 B b (.pointer (some ⟨b,0,none⟩)) [] f/\Below B w f:=by
 have a:(w.setCell ⟨b,0,none⟩ (.pointer (some ⟨b,0,none⟩))).heap[b]? =some (.cells #[.pointer (some ⟨b,0,none⟩),.slice none 0 0] 375 (0,0)):=by simp[World.setCell,bx,c]
 have i:(w.setCell ⟨b,0,none⟩ (.pointer (some ⟨b,0,none⟩))).cell? ⟨b,1,none⟩=some (.slice none 0 0):=by rw[Lib.cell_of_heap a];rfl
 have d:Below B w (w.setCell ⟨b,0,none⟩ (.pointer (some ⟨b,0,none⟩))):=(Below.refl B w).setCell (p:=⟨b,0,none⟩) g _;have m:Lib.BuilderAt 375 5 B b (.pointer (some ⟨b,0,none⟩)) [] (w.setCell ⟨b,0,none⟩ (.pointer (some ⟨b,0,none⟩))):=⟨g,.slice none 0 0,a,World.ownsRow_nil _ _ _ _,by simp[Value.ownBlock]⟩
 have j:(w.setCell ⟨b,0,none⟩ (.pointer (some ⟨b,0,none⟩))).drew.cell? ⟨b,1,none⟩=some (.slice none 0 0):=i;go_enter Tryz.func266,Tryz.ntmps266;go_wp2_with (go_at_call 321;apply (j9 b w (by rw[Lib.cell_of_heap c];rfl) (by simp[World.shape?,c]) (Lib.frozen_of_heap c 0)).mono;rintro e f ⟨rfl,rfl⟩)
 go_region
 all_goals go_wp2_with (go_at_call 324;apply (ADS B b n (w.setCell ⟨b,0,none⟩ (.pointer (some ⟨b,0,none⟩))).drew g a (by simpa[World.setCell,World.drew,-World.drew_eq]using h) hn).mono;rintro e f ⟨rfl,k,l⟩)
 all_goals first
  |(go_end0;exact⟨rfl,k,d.drew.trans l⟩)
  |(go_end0;exact⟨rfl,m.drew,d.drew⟩)
end Go.Proofs.YtdjfjcnheopcdaaGreatDoor
