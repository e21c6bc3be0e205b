/- Parts of the proof; nothing is assumed. -/
import Derived.Test.YtdbincbpjobdpaaGreatK9
import Derived.Test.YtdbincbpjobdpaaGreatProg
import Derived.Lib.Builder
import Derived.Lib.FrozenHead
import Derived.Lib.FrozenHead2
import Derived.Lib.AppendStr
import Derived.Lib.UnsafeStr
import Derived.Lib.Repeat
import Derived.Lib.RepeatB
import Derived.Lib.Walk
import Derived.WalkKit
import Derived.Laws.Externs
import Derived.Shelf.RegionOpenPlain
import Derived.Lib.MakeNoZero
import Derived.Laws.IdiomCopy
import Derived.Deep.LoopGhost
import Derived.Deep.DeepCutAuto
import Derived.Deep.DeepFit
import Derived.Deep.CutBlock
noncomputable section
set_option linter.all false
set_option maxHeartbeats 2000000
set_option maxRecDepth 100000
open Option renaming some->Z
open List renaming length->W
open Go renaming Ψ->S
open Bool renaming false->X
open Bool renaming true->E
open Option renaming none->D
open Option renaming some->δ,none->ε,bind->σ
open Bool renaming true->ζ,false->η
open List renaming length->θ
open Sum renaming elim->ν
open Int renaming toNat->ο
open Decidable renaming decide->τ
open _root_ renaming Int->Y,Nat->V
namespace Go.Pm
open Go Go.Ab
noncomputable section

end
variable {a:S EN}{b i j:Int}{c:Ac}{d l:Nat}{e:AJ}{f:S Am}{g:S AQ}{h:Type}{k:S Int}{m:S Aq}
theorem Ih{l:S h}{i:V}(a:i<W l):l.take (i+1)=l.take i++[l[i]]:=by grind[List.take_add_one]
theorem vg{x:A1×BS}(h:x.1.2.2.length<=4096):Ai (Gv x) (0,[])=some (x.1.2.2.filter (HY x.2.1 x.2.2.2.1 x.2.2.2.2.1)):=by
 suffices l:An (Ai (Gv x) (0,[])) λr=>r=x.1.2.2.filter (HY x.2.1 x.2.2.2.1 x.2.2.2.2.1) by obtain⟨r,hr,rfl⟩:=l;exact hr
 refine CQ (λ(s:Y×List AE)=> ∃j:V,s.1=j/\j<=x.1.2.2.length/\s.2=(x.1.2.2.take j).filter (HY x.2.1 x.2.2.2.1 x.2.2.2.2.1)) (λs=>x.1.2.2.length-s.1.toNat) ⟨0,rfl,BV _,rfl⟩ ?_;rintro⟨_,o⟩ ⟨j,rfl,n,b⟩;dsimp only at b;unfold Gv;dsimp[len];refine AC (λk=>?_) (λk=>An.done (by rw[BM o!]at b;exact b));have a:j<x.1.2.2.length:=o!
 rw[LJ a,AD,vI,AD,AY (x:=(j:Y)+1)];have c:HY x.2.1 x.2.2.2.1 x.2.2.2.2.1 x.1.2.2[j]=false-> ∃i:V,((j:Y)+1,o).1=i/\i<=x.1.2.2.length/\((j:Y)+1,o).2=(x.1.2.2.take i).filter (HY x.2.1 x.2.2.2.1 x.2.2.2.2.1):=λm=>⟨j+1,rfl,a,by rw[Ih a,GM,Mr,m];simpa using b⟩
 have p:o.length<=4096:=k!
 refine AK (λd=>AO (λe=>AC (λf=>?_) (λf=>An.next (c ?_) d!)) (λe=>An.next (c ?_) d!)) (λd=>An.next (c ?_) d!)
 ·refine AA (P:=λr=>r=(x.1.2.2.take (j+1)).filter (HY x.2.1 x.2.2.2.1 x.2.2.2.2.1)) (AC (λg=>?_) (λg=>AB ?_)) λr hr=>An.next ⟨j+1,rfl,a,hr⟩ d!
  grind[AA,AZ,List.length_singleton,AB,Ih,HY];grind[Ih,HY]
 grind[HY];grind[HY];grind[HY]
theorem AGC{x:A1×BS}(h:W x.1.2.2<=4096):OL x=Z (x.1.2.2.filter (HY x.2.1 x.2.2.2.1 x.2.2.2.2.1)):=by grind[OL,vg]
def oW(s:A1)(e:EN):Bool:=τ (s.1<=e.1)&&τ (e.1<=s.2.1)
theorem AIG{x:A1×A1×BS}(h:a.length<=4096):(Option.bind (Ai (JK x a) 0) λE_=>Sum.elim (λv=>bif (v==(-1))then some a else Option.bind (Ai (JL x) ((wi (v+1)),(v,a))) λc=>Option.bind (wE c.2 c.1 (0,(0,(0,(0,(0,(0,((0,(0,((false,[]),(false,[])))),[])))))))) λm=>Option.bind (Sr m 0 c.1) λf=>some f) (λD_=>some a) E_)=some (a.filter (oW x.2.1)):=by
 suffices I:An (Option.bind (Ai (JK x a) 0) λE_=>Sum.elim (λv=>bif (v==(-1))then some a else Option.bind (Ai (JL x) ((wi (v+1)),(v,a))) λc=>Option.bind (wE c.2 c.1 (0,(0,(0,(0,(0,(0,((0,(0,((false,[]),(false,[])))),[])))))))) λm=>Option.bind (Sr m 0 c.1) λf=>some f) (λD_=>some a) E_) λr=>r=a.filter (oW x.2.1) by obtain⟨r,hr,rfl⟩:=I;exact hr
 refine AA (P:=λ(r:Y ⊕ Unit)=>(∃i:V,r= .inl (i:Y)/\ ∃C:i<a.length,(a.take i).filter (oW x.2.1)=a.take i/\oW x.2.1 a[i]=false)\/(r= .inr ()/\a.filter (oW x.2.1)=a)) ?_ λr hr=>?_
 ·refine CQ (λ(t:Y)=> ∃i:V,t=i/\i<=a.length/\(a.take i).filter (oW x.2.1)=a.take i) (λt=>a.length-t.toNat) ⟨0,rfl,BV _,rfl⟩ ?_;rintro _ ⟨i,rfl,C,j⟩;unfold JK;dsimp[len];refine AC (λA=>?_) (λA=>An.done (.inr ⟨rfl,by rwa[BM o!]at j⟩));have e:i<a.length:=o!
  rw[LJ e,AD,AD,AY (x:=(i:Y)+1)];refine AC (λg=>An.done (.inl ⟨i,rfl,e,j,?_⟩)) (λH=>AC (λg=>An.done (.inl ⟨i,rfl,e,j,?_⟩)) (λo=>An.next ⟨i+1,rfl,e,?_⟩ o!));grind[oW];grind[oW];grind[Ih,oW]
 ·rcases hr with⟨i,rfl,C,j,L⟩|⟨rfl,j⟩
  ·apply BF;rw[beq_eq_false_iff_ne.2 o!,cond_false,AY (x:=(i:Y)+1)];refine AA (P:=λ(r:Y×List EN)=> ∃w:V,r.1=w/\w<=a.length/\r.2.length=a.length/\r.2.take w=a.filter (oW x.2.1)) ?_ λr hr=>?_
   ·refine CQ (λ(s:Y×(Y×List EN))=> ∃n w:V,s.1=n/\s.2.1=w/\n<=a.length/\w<n/\s.2.2.length=a.length/\s.2.2.take w=(a.take n).filter (oW x.2.1)/\s.2.2.drop n=a.drop n) (λs=>a.length-s.1.toNat) ⟨i+1,i,rfl,rfl,C,nl _,rfl,?_,rfl⟩ ?_;grind[Ih];rintro⟨_,_,b⟩ ⟨n,w,rfl,rfl,hn,M,q,u,B⟩;dsimp only at q u B;unfold JL;dsimp[len];refine AC (λA=>?_) (λA=>An.done ⟨w,rfl,o!,q,by rw[BM (l:=a) o!]at u;exact u⟩);have d:n<a.length:=o!
    have z:b[n]' o!=a[n]:=by
     have K:b[n]? =a[n]? :=by have:=congrArg (λl=>l[0]?) B;grind
     grind[List.getElem?_eq_getElem,Option.some.inj]
    have k:b.drop (n+1)=a.drop (n+1):=by have:=congrArg (List.drop 1) B;rwa[LK,LK]at this
    rw[LJ (show n<b.length by omega),AD,AD,z,AY (x:=(n:Y)+1)];have F:oW x.2.1 a[n]=false->b.take w=(a.take (n+1)).filter (oW x.2.1):=λj=>by rw[Ih d,GM,Mr,j];simpa using u
    refine AC (λg=>An.next ⟨n+1,w,rfl,rfl,d,o!,q,F ?_,k⟩ d!) (λH=>AP (λo=>?_) (λo=>An.next ⟨n+1,w,rfl,rfl,d,o!,q,F ?_,k⟩ d!));unfold oW;rw[decide_eq_false o!];rfl
    ·have o:=of_decide_eq_false o;rw[LJ (show w<b.length by omega),AD,AD,AY (x:=(w:Y)+1)];refine An.next ⟨n+1,w+1,rfl,rfl,d,o!,by unfold EU;rw[List.length_set];exact q,?_,?_⟩ d!
     unfold EU;dsimp only;rw[CR,Ih (by rw[WW];omega),List.take_set_of_le (Al _),List.getElem_set_self,u,Ih d,GM,Mr,show oW x.2.1 a[n]=true by unfold oW;rw[decide_eq_true o!,decide_eq_true o!];rfl];rfl;unfold EU;dsimp only;rw[CR,List.drop_set_of_lt o!];exact k
    have o:=of_decide_eq_true o;unfold oW;rw[decide_eq_false (p:=a[n].1<=x.2.1.2.1) o!];simp
   have⟨w,G,N,O,J⟩:=hr;rw[G];unfold wE;rw[if_pos o!,AD,CR];refine AA (BU (Ae _) o! (by rw[Aa,BP];omega)) λf y=>AB ?_;rw[y.1];simp[mH,Wc,Wa,CR];rw[Yq (by rw[BP];omega),Kf,Nat.min_self,J]
  exact Ay (AB j.symm)
theorem AGP(h:a.length<=4096):Fv (a,a)=some true:=by
 suffices b:An (Ai (Gw (a,a)) 0) λr=>r= .inr () by obtain⟨r,hr,rfl⟩:=b;grind[Fv]
 refine CQ (λ(t:Y)=> ∃i:V,t=i/\i<=a.length) (λt=>a.length-t.toNat) ⟨0,rfl,BV _⟩ ?_;rintro _ ⟨i,rfl,c⟩;unfold Gw;dsimp[len];refine AC (λv=>?_) (λv=>An.done rfl);rw[LJ o!,AD,AD,AY (x:=(i:Y)+1)];simp[beq_self_eq_true];exact An.next ⟨i+1,rfl,o!⟩ o!
theorem AGg{s t:A1}{z:BS}(a:W s.2.2<=4096)(b:W t.2.2<=4096)(h:(s.2.2.filter (HY z.1 z.2.2.1 z.2.2.2.1)).filter (oW t)=(t.2.2.filter (HY z.1 z.2.2.1 z.2.2.2.1)).filter (oW s)):Py (s,t,z)=Z E:=by unfold Py;rw[show WL (s,t,z)=Gv (s,z)from rfl,vg a,AD,AIG (x:=(s,t,z)) k!,AD];rw[show WM (s,t,z)=Gv (t,z)from rfl,vg b,AD];have e:∀v,WN (s,t,z) v=JK (t,s,z) v:=λ_=>rfl;rw[show WO (s,t,z)=JL (t,s,z)from rfl,e,AIG (x:=(t,s,z)) k!,AD];grind[AGP]
theorem fld(a b:EN):((a.1==b.1)&&((a.2.1==b.2.1)&&((a.2.2.1==b.2.2.1)&&((a.2.2.2.1==b.2.2.2.1)&&((a.2.2.2.2.1==b.2.2.2.2.1)&&((a.2.2.2.2.2.1==b.2.2.2.2.2.1)&&((a.2.2.2.2.2.2.1.1==b.2.2.2.2.2.2.1.1)&&((a.2.2.2.2.2.2.1.2.1==b.2.2.2.2.2.2.1.2.1)&&((a.2.2.2.2.2.2.1.2.2.1.1==b.2.2.2.2.2.2.1.2.2.1.1)&&((a.2.2.2.2.2.2.1.2.2.1.2==b.2.2.2.2.2.2.1.2.2.1.2)&&((a.2.2.2.2.2.2.1.2.2.2.1==b.2.2.2.2.2.2.1.2.2.2.1)&&((a.2.2.2.2.2.2.1.2.2.2.2==b.2.2.2.2.2.2.1.2.2.2.2)&&((a.2.2.2.2.2.2.2==b.2.2.2.2.2.2.2)&&E)))))))))))))=E↔a=b:=k!
def Ord(v:S EN):Prop:=v.Pairwise λx y=>x.1<y.1
theorem AEq{b v:S h}(n:b.drop d=v.drop d)(c:d<=l):b[l]?=v[l]? :=by have:=E! (·[l-d]?) n;grind
theorem ADJ{b v:S h}(a:b.drop d=v.drop d)(c:d<=l):b.drop l=v.drop l:=by have:=E! (List.drop (l-d)) a;grind[List.drop_drop]
theorem zz{v:S h}(b:d<W v)(a:d<l):v[d]∈v.take l:=Eg.2 ⟨d,k!⟩
def AIL(d:a.Pairwise λx y=>x.1<=y.1){i:V}(b:i<W a){e:EN}(v:e∈a.take (i+1)):e.1<=a[i].1:=by obtain⟨j,c,rfl⟩:=List.getElem_of_mem v;rw[BP]at c;rw[ng];by_cases h:j=i;subst h;exact Ae _;exact EL.1 d j i o! b o!
theorem AGu(Q:a.length<=1000000)(F:a.Pairwise λx y=>x.1<=y.1)(P: ∀U∈a,∀b∈a,U.1=b.1->U=b)(G:d<a.length)(K:Ord (a.take d))(J: ∀e,e∈a.take d↔e∈a.take (d+1)):An (Ai Px (1,((d:Y),(a,((d:Y),((a.length-d:V):Y)))))) λr=> ∃k:V,r.1=k/\k<=a.length/\r.2.length=a.length/\Ord (r.2.take k)/\ ∀e,e∈r.2.take k↔e∈a:=by
 refine CQ (λ(s:Y×(Y×(List EN×(Y×Y))))=> ∃j k:V,s.1=j/\s.2.1=k/\s.2.2.2.1=d/\s.2.2.2.2=((a.length-d:V):Y)/\1<=j/\d+j<=a.length/\k+1<=d+j/\s.2.2.1.length=a.length/\s.2.2.1.drop (d+j-1)=a.drop (d+j-1)/\Ord (s.2.2.1.take k)/\ ∀e,e∈s.2.2.1.take k↔e∈a.take (d+j)) (λs=>a.length-s.1.toNat) ⟨1,d,rfl,rfl,rfl,rfl,Al _,G,Al _,rfl,rfl,K,J⟩ ?_;rintro⟨_,_,b,_,_⟩ ⟨j,k,rfl,rfl,rfl,rfl,R,S,T,o,u,p,v⟩;dsimp only at o u p v;unfold Px;dsimp only[len];rw[CR,CR];have I:(List.take (a.length-d) (List.drop d b)).length=a.length-d:=by grind[List.length_take,List.length_drop]
 refine AC (λt=>?_) (λt=>An.done ⟨k,rfl,o!,o,p,λe=>by rw[v e,BM o!]⟩);have n:d+j<a.length:=o!
 have l: ∀i (E_:i<a.length) (D_:d+j-1<=i),ix b (i:Y)=some a[i]:=λi E_ D_=>by unfold ix;rw[if_pos o!,CR,AEq u D_,Au E_]
 have B:=l (d+j) n o!;have C:=l (d+j-1) o! (Al _);have z:ix (List.take (a.length-d) (List.drop d b)) (j:Y)=some ((List.take (a.length-d) (List.drop d b))[j]' o!):=LJ o!;have A:ix (List.take (a.length-d) (List.drop d b)) (((j-1:V):Y))=some ((List.take (a.length-d) (List.drop d b))[j-1]' o!):=LJ o!;rw[AY (x:=(j:Y)+1),AY (x:=(j:Y)-1),AY (x:=(k:Y)+1),show(d:Y)+(j:Y)=((d+j:V):Y) by omega,show(d:Y)+((j:Y)-1)=((d+j-1:V):Y) by omega,show(j:Y)-1=((j-1:V):Y) by omega,z,AD,B,AD,A,AD,C,AD];have L:a[d+j-1]∈a.take (d+j):=zz o! o!;have g:=ADJ u (show d+j-1<=d+(j+1)-1 by omega);refine AP (λf=>?_) (λm=>?_)
 ·have f:a[d+j]≠a[d+j-1]:=λe=>by rw[(fld _ _).2 e]at f;cases f
  rw[AD,AD,LJ (show k<b.length by omega),AD,AD];have w: ∀e∈a.take (d+j),e.1<a[d+j].1:=λe m=>by have M:=AIL F (i:=d+j-1) o! (e:=e) (by rwa[show d+j-1+1=d+j by omega]);have N:=EL.1 F (d+j-1) (d+j) o! n o!;by_cases O:a[d+j].1=a[d+j-1].1<;>grind
  have h:(b.set k a[d+j]).take (k+1)=b.take k++[a[d+j]]:=by rw[Ih (by rw[WW];omega),List.take_set_of_le (Al _),List.getElem_set_self]
  refine An.next ⟨j+1,k+1,rfl,rfl,rfl,rfl,o!,o!,o!,by unfold EU;dsimp only;rw[List.length_set];exact o,?_,?_,?_⟩ d!
  unfold EU;dsimp only;rw[CR,List.drop_set_of_lt o!];exact g;unfold EU;dsimp only;rw[CR,h];unfold Ord;rw[List.pairwise_append];refine⟨p,List.pairwise_singleton _ _,λU H c t=>?_⟩;rw[A5.1 t];exact w U ((v U).1 H);unfold EU;dsimp only;rw[CR,h,<-WZ,Ih n];intro e;rw[Ak,Ak,v e]
 ·have m:=(fld _ _).1 m;refine An.next ⟨j+1,k,rfl,rfl,rfl,rfl,o!,o!,o!,o,g,p,λe=>?_⟩ d!
  dsimp only;rw[v e,<-WZ,Ih n,Ak,A5,m];exact⟨.inl,λq=>q.elim id λq=>q▸L⟩
theorem AI4{v:List EN}(C:v.length<=1000000)(n:v.Pairwise λx y=>x.1<=y.1)(q: ∀a∈v,∀b∈v,a.1=b.1->a=b)(I:2<=v.length):An (Ai Pw (1,v)) λr=> ∃w,(r= .inl w\/r= .inr w)/\Ord w/\ ∀e,e∈w↔e∈v:=by
 refine CQ (λ(s:Y×List EN)=> ∃i:V,s.1=i/\1<=i/\i<=v.length/\s.2=v/\Ord (v.take i)) (λs=>v.length-s.1.toNat) ⟨1,rfl,Al _,o!,rfl,?_⟩ ?_;rw[Ih (i:=0) o!];exact List.pairwise_singleton _ _;rintro⟨_,b⟩ ⟨i,rfl,L,D_,o,h⟩;dsimp only at D_ h o;unfold Pw;dsimp only[len];rw[o];refine AC (λm=>?_) (λm=>An.done ⟨_,.inr rfl,by rwa[BM o!]at h,λe=>YZ⟩);have d:i<v.length:=o!
 rw[AY (x:=(i:Y)+1),AY (x:=(i:Y)-1),show(i:Y)-1=((i-1:V):Y) by omega,LJ d,AD,AD,LJ (show i-1<v.length by omega),AD,AD];have B:=EL.1 n (i-1) i o! d o!;refine AK (λp=>?_) (λf=>?_)
 ·have p:=(fld _ _).1 p;refine AA (BU o! o! (Ae _)) λE_ _=>?_;rw[CR,CR];have K:v[i-1]∈v.take i:=zz o! o!;refine AA (AGu C n q d h λe=>?_) λr hr=>?_;grind[Ih,List.mem_singleton]
  ·have⟨k,t,F,G,u,z⟩:=hr;rw[t];unfold wE;rw[if_pos o!,AD,CR];refine AA (BU (Ae _) o! (by rw[Aa,BP];omega)) λg l=>An.done ⟨g,.inl rfl,?_⟩;have j:g=r.2.take k:=by rw[l.1];simp[mH,Wc,Wa,CR];grind[List.length_take,Nat.min_self]
   rw[j];exact⟨u,z⟩
 ·have f:v[i]≠v[i-1]:=λe=>by rw[(fld _ _).2 e]at f;cases f
  refine An.next ⟨i+1,rfl,o!,d,rfl,?_⟩ d!
  rw[Ih d];unfold Ord;rw[List.pairwise_append];refine⟨h,List.pairwise_singleton _ _,λa J c m=>?_⟩;rw[A5.1 m];have H:=AIL n (i:=i-1) o! (e:=a) (by rwa[show i-1+1=i by omega]);by_cases A:v[i].1=v[i-1].1;exact absurd (q _ (F8 d) _ (F8 o!) A) f;omega
theorem Ord.inj(h:Ord a):∀T∈a,∀b∈a,T.1=b.1->T=b:=by intro T g b k e;obtain⟨i,d,rfl⟩:=List.getElem_of_mem g;obtain⟨j,f,rfl⟩:=List.getElem_of_mem k;by_cases c:i=j;grind;rcases Nat.lt_or_gt_of_ne c with q|q;have:=EL.1 h i j d f q;omega;have:=EL.1 h j i f d q;omega
def og(T:S EN)(P:S A1):S EN:=P.flatMap λs=>T.filter (oW s)
theorem AD8{x:List Am×AJ×Ac×BS}{P:List A1}{b:Bool}{y:AS}(F:P.length<=20)(T: ∀s∈P,s.2.2.length<=4096)(q: ∀s∈P,s.2.2.filter (HY x.2.2.2.1 x.2.2.2.2.2.1 x.2.2.2.2.2.2.1)=a.filter (oW s)):An (Ai (LD x (P,b)) (0,(y,[]))) λr=>r= .inr (y,og a P)/\(og a P).length<=81920:=by
 refine CQ (λ(s:Y×AS×List EN)=> ∃i:V,s.1=i/\i<=P.length/\s.2.1=y/\s.2.2=og a (P.take i)/\s.2.2.length<=i*4096) (λs=>P.length-s.1.toNat) ⟨0,rfl,BV _,rfl,rfl,BV _⟩ ?_;rintro⟨_,g,o⟩ ⟨i,rfl,G,w,n,l⟩;dsimp only at w n l;unfold LD;dsimp[len];refine AC (λv=>?_) (λv=>An.done (by rw[BM o!]at n;rw[w,n];rw[n]at l;exact⟨rfl,o!⟩));have d:i<P.length:=o!
 have m:=F8 d;rw[LJ d,AD,AY (x:=(i:Y)+1)];refine AA (BU (Ae _)) λh E_=>AA (P:=λr=>r= .inr g) ?_ λr hr=>?_
 ·refine CQ (λ(s:Y×AS)=> ∃j:V,s.1=j/\j<=h.length/\s.2=g) (λs=>h.length-s.1.toNat) ⟨0,rfl,BV _,rfl⟩ ?_;rintro⟨_,D_⟩ ⟨j,rfl,H,c⟩;dsimp only at c;unfold Vh;dsimp[len];refine AC (λv=>?_) (λv=>An.done (by rw[c]));have f:j<h.length:=o!
  have k:h[j]∈P:=(λu B=>F9 (i:=i) (by rw[<-(by simp_all[mH,Wc,Wa,CR]:h=P.take i)];exact B): ∀u∈h,u∈P) _ (F8 f);rw[LJ f,AD,AY (x:=(j:Y)+1)];rw[AGg (s:=h[j]) (t:=P[i]) (z:=x.2.2.2) (T _ k) (T _ m) (by rw[q _ k,q _ m,List.filter_filter,List.filter_filter];exact List.filter_congr λe _=>Bool.and_comm _ _),AD,Bn,cond_false];exact An.next ⟨j+1,rfl,f,c⟩ d!
 ·rw[hr];apply Ay;have A:(a.filter (oW P[i])).length<=4096:=by grind[Nat.le_trans,List.length_filter_le]
  rw[AGC (x:=(P[i],x.2.2.2)) (T _ m),AD];dsimp only;rw[q _ m];refine AA (AZ o!) λC p=>An.next ⟨i+1,rfl,d,w,?_,?_⟩ d!
  grind[Ih,og];dsimp only;rw[p.2.1];omega
theorem AEA{fs:Ψ Am}{z:BS}{g:AS}{P:Ψ A1}{T:Ψ EN}{y:AS×Int}(N:VB e)(W:Dh c)(hz:θ z.2.2.2.2.1≤1000)(M:GP z)(p:Hm (fs,z)=Z (g,E))(Z_:Eu (e,c,z)=Z (P,E))(F:Hn (P,z)=Z E)
  (O:θ P<=20) (u:∀s∈P,θ s.2.2<=4096) (A:Ord T) (Q:∀s∈P,s.2.2.filter (HY z.1 z.2.2.1 z.2.2.2.1)=T.filter (oW s)) (R:∀l∈T,∃s∈P,oW s l=E) (hr:Ie (g,T)=Z y):Dr (fs,e,c,z)=Z y:=by
 suffices U:An (Dr (fs,e,c,z)) λr=>r=y by have⟨r,f,l⟩:=U;rw[f,l]
 have⟨q,Y,q1⟩:=EO N;have⟨w,G,w1⟩:=GH W;have⟨v,hv,v1⟩:=AB7 hz;unfold Dr;dsimp only;rw[Y,q1,AD,Bn,A!,G,w1,AD,Bn,A!,hv,v1 M,AD,Bn,A!,p,AD,Z_,AD];dsimp only;rw[Bn,A!,A!,F,AD,Bn,A!];refine AA (AD8 (x:=(fs,e,c,z)) O u Q) λr f=>?_;obtain⟨rfl,L⟩:=f;apply Ay;dsimp only;have d:∀l,l∈og T P↔l∈T:=λl=>by grind[og]
 have K:∀e∈og T P,∀b∈og T P,e.1=b.1->e=b:=λe B b p=>A.inj e ((d e).1 B) b ((d b).1 p);generalize X_:(og T P).mergeSort (λe b=>decide (e.1<=b.1))=m;have t:F6 (og T P) ()=Z m:=by grind[F6,AAV]
 have k:m.Perm (og T P):=by grind[List.mergeSort_perm]
 have E_:m.Pairwise λx y=>x.1<=y.1:=by rw[<-X_];refine(List.pairwise_mergeSort (le:=λe b:EN=>decide (e.1<=b.1)) ?_ ?_ _).imp λh=>N! h;intro e b a I J;simp only[K!]at*;omega;intro e b;simp[UH,K!];omega
 have n:∀l,l∈m↔l∈T:=λl=>by rw[k.mem_iff,d]
 have o:∀w:Ψ EN,Ord w->(∀l,l∈w↔l∈m)->w=T:=λw I J=>Uy I A λl=>by rw[J l,n l]
 rw[t,AD,k.length_eq,Hl,B!];apply AC<;>intro R;have D_:Ord m:=by unfold Ord;rw[EL];intro i j hi hj V;have C:=k.length_eq;grind[og]
 rw[o m D_ λl=>YZ,hr,AD];exact AB rfl;have S:(len (og T P))=((og T P).length:Int):=rfl;have C:=k.length_eq;refine AA (AI4 (v:=m) o! E_ (λe B b p=>A.inj e ((n e).1 B) b ((n b).1 p)) o!) λr f=>?_;have⟨w,F,D_,H⟩:=f;have l:=o w D_ H;subst l;rcases F with rfl|rfl;apply BF;rw[hr,AD];exact AB rfl;apply Ay;rw[hr,AD];exact AB rfl
def yM(L:O6 a c)(p q k:Y):Ord (a.filter (HY p q k)):=L.sorted.sublist Wd
theorem AKh{q k}(g:AR a e)(v:O6 a c)(o:ON e i b j){L:NE}(t:L∈DE e)(d:L.1.2.2.1=b):(tH L).2.2.filter (HY i q k)=(a.filter (HY i q k)).filter (oW (tH L)):=by
 have⟨f,D_,l,_,hr,_⟩:=g.mem t;have u:L.1.2.2.2.1=j:=by have⟨p,m,n,A,B⟩:=o;refine Kt.uniq g.vb.1 (lo:=b) ?_ ⟨p,m,n⟩;rw[<-d];exact l.2.2.2
 have C:b<=i/\i<=j:=by have⟨p,m,n,A,B⟩:=o;grind
 refine Uy ?_ ((yM v i q k).sublist Wd) λx=>?_;refine(l.2.2.1.sorted.sublist Wd).imp_of_mem λ{x y} w z h=>?_;have r:=(BQ.1 w).2;have s:=(BQ.1 z).2;unfold HY at r s;grind[ltC];rw[BQ,BQ,BQ];unfold oW tH;rw[(hr.mem x)];constructor;grind;simp_all[Ba,HY]
theorem AKL{f t:Y}(p:O6 a c)(e:c.1<=f)(g:f<=t)(h:t<=c.1+W c.2.1-1):∀s∈ly c f t,W s.2.2<=4096/\s.2.2.filter (HY b i j)=(a.filter (HY b i j)).filter (oW s):=by
 have L:=p.vl.1;intro s q;unfold ly at q;rw[D! o!]at q;rw[A5.1 q];rw[(by omega:(t-f+1).toNat=(t-c.1+1).toNat-(f-c.1).toNat)];generalize d:(c.2.1.drop (f-c.1).toNat).take ((t-c.1+1).toNat-(f-c.1).toNat)=v;have k:v.Sublist c.2.1:=by rw[<-d];exact(fk _ _).trans (mL _ _)
 refine⟨Cl k.length_le p.vl.2.2.1,Uy ((p.vl.sorted.sublist k).sublist Wd) ((yM p b i j).sublist Wd) λx=>?_⟩;have l:=wy p.vl e g h d.symm x;rw[p.tail x]at l;unfold oW;grind
def AJh{j k:V}(f:LI b a)(L:Ge a)(c:W a<=4096)(m:k<=W a)(h:BZ (a.take j) i<=k)(g:0<=i/\i<64):Ie (st (a.take j) i,a.filter (HY i (BZ (a.take j) i) k))=Z (st (a.take k) i,0):=by have⟨p,n,d,e⟩:=ABv L h;rw[<-d,<-e];have o:=Ry L i p;have l:=W8 (L.take p) i;rw[BP]at l;rw[show BZ (a.take p) i=(((BZ (a.take p) i).toNat:V):Y) by omega,tU L o!,iC L (j:=p) o! (Uw L),yY (rO L f g o! p k n) (by have:=EK (aR i) ((a.take k).drop p);rw[C5,BP]at this;omega),<-af n]
def ACy(h:Ge a)(m:W a<=1099511627776)(s:1<=b/\b<=1073741824)(hn:1<=d/\d<=64){p:Y}(e:p<0\/d<=p):An (Pa ((c! b d a l),p)) λr=>r.2≠0:=by unfold Pa;rw[fU h m s hn,AD,Bn,A!];refine AA (P:=λr=>r.2=X) ?_ λr hr=>?_;unfold Rv;rw[fU h m s hn,AD,Bn,A!];refine AC (y? rfl) (λc=>AC (y? rfl) (λL=>?_));dsimp only at c L;omega;rw[hr];exact AB g!
def AGi{z:BS}(k:Ge a)(h:a.length<=1099511627776)(hn:1<=d/\d<=64)(w:f.length<=8)(C: ∀m∈f,FI a b d m)(v:GP z):An (Hm (f,z)) λr=>r.2=true->0<=z.1->z.1<d-> ∃j:Nat,r.1=st (a.take j) z.1/\z.2.2.1=BZ (a.take j) z.1:=by
 unfold Hm;dsimp only;refine AO (λe=>?_) (λF=>?_);exact BJ (AB λ_ _ _=>⟨0,rfl,v.none e⟩);refine AA (rR k h hn w (λm q=>.inl (C m q))) λV A=>?_;obtain⟨G,y⟩:=A;refine AA (P:=λr=> ∀u,r= .inl u->u.1=true->0<=z.1->z.1<d-> ∃j:Nat,u.2=st (a.take j) z.1/\z.2.2.1=BZ (a.take j) z.1) ?_ λr hr=>BH (λu L=>AB (hr u L)) (λu L=>AB λg=>by cases g);refine CQ (λ(s:Y×AS)=> ∃j:Nat,s.1=j/\j<=V.length) (λs=>V.length-s.1.toNat) ⟨0,rfl,BV _⟩ ?_;rintro⟨_,o⟩ ⟨j,rfl,E_⟩;unfold WP;dsimp only[len];refine AC (λB=>?_) (λB=>An.done λu L=>by cases L);have c:j<V.length:=o!
 rw[LJ c,AD,AY (x:=(j:Y)+1)];refine AO (λe=>?_) (λe=>An.next ⟨j+1,rfl,c⟩ d!);obtain⟨_,_,_,_,q⟩:=(y V[j]).1 (F8 c);obtain⟨i,_,l,n,t⟩:=q.2.2.1;rw[t];by_cases D_:0<=z.1/\z.1<d
 ·rw[xX k h ⟨l,n⟩ hn D_,AD,beq_self_eq_true,cond_true];refine An.done λu L g _ _=>?_;cases L;exact⟨i,rfl,by rw[<-Jg];exact(beq_iff_eq.1 g).symm⟩
 ·refine AA (ACy k h ⟨l,n⟩ hn (p:=z.1) o!) λr hr=>AO (λe=>absurd e hr) (λ_=>An.done λu L g=>?_);cases L;cases g
def AEM{z:BS}(h:z.2.2.2.2.1.length<=1000):An (Ai (FC z) (0,0)) λr=>r= .inl false\/(r= .inr ()/\z.2.2.2.2.1.Pairwise (· < ·)/\ ∀d∈z.2.2.2.2.1,1<=d):=by
 refine CQ (λ(s:Y×Y)=> ∃j:V,s.2=j/\j<=z.2.2.2.2.1.length/\0<=s.1/\(z.2.2.2.2.1.take j).Pairwise (· < ·)/\ ∀d∈z.2.2.2.2.1.take j,1<=d/\d<=s.1) (λs=>z.2.2.2.2.1.length-s.2.toNat) ⟨0,rfl,BV _,Ae _,q!,q!⟩ ?_;rintro⟨o,_⟩ ⟨j,rfl,n,i,g,e⟩;dsimp only at i e;unfold FC;dsimp only[len];refine AC (λm=>?_) (λm=>An.done (.inr ⟨rfl,?_⟩));rotate_left 1;rw[BM o!]at g e;exact⟨g,λd q=>(e d q).1⟩;have c:j<z.2.2.2.2.1.length:=o!
 rw[LJ c,AD,AY (x:=(j:Y)+1)];refine AC (λf=>An.done (.inl rfl)) (λf=>An.next ⟨j+1,rfl,c,d!,?_,λd q=>?_⟩ d!);rw[Ih c,List.pairwise_append];refine⟨g,List.pairwise_singleton _ _,λa k b l=>?_⟩;have:=e a k;rw[A5.1 l];omega;rw[Ih c]at q;rcases Ak.1 q with q|q;have:=e d q;dsimp only;omega;rw[A5.1 q];dsimp only;omega
def AGb{z:BS}(h:W z.2.2.2.2.1<=1000):An (Ga z) λb=>b=E->GP z:=by
 have a:∀{P:Prop},X=E->P:=λh=>by cases h
 have lp:0<=z.1/\z.1<64->0<=z.2.1/\z.2.1<=1073741824->0<=z.2.2.1/\z.2.2.1<=z.2.2.2.1/\z.2.2.2.1<=1099511627776->(z.2.1=0->z.2.2.1=0)->An (σ (Ai (FC z) (0,0)) λk=>ν (Z ·) (λv=>bif z.2.2.2.2.2.1==0 then bif z.2.2.2.2.2.2==0 then Z E else bif τ (z.2.2.2.2.2.1>=1)then Z (τ (z.2.2.2.2.2.1<=z.2.2.2.2.2.2))else Z X else bif τ (z.2.2.2.2.2.1>=1)then Z (τ (z.2.2.2.2.2.1<=z.2.2.2.2.2.2))else Z X) k) λb=>b=E->GP z:=λa1 a2 a3 a4=>by
  refine AA (AEM h) λr hr=>?_;rcases hr with rfl|⟨rfl,g,i⟩;exact BF (AB a);apply Ay;have mk:((z.2.2.2.2.2.1=0/\z.2.2.2.2.2.2=0)\/(1<=z.2.2.2.2.2.1/\z.2.2.2.2.2.1<=z.2.2.2.2.2.2))->GP z:=λq=>⟨a1,a2,a3,a4,g,i,q⟩
  refine AO (λd=>AO (λf=>AB λ_=>mk (.inl ⟨d,f⟩)) (λf=>AC (λc=>AB λq=>mk (.inr ⟨c,N! q⟩)) (y? a))) (λd=>AC (λc=>AB λq=>mk (.inr ⟨c,N! q⟩)) (y? a))
 unfold Ga;refine AC (y? a) λl=>AC (y? a) λm=>AC (y? a) λn=>AC (y? a) λo=>AC (y? a) λp=>AC (y? a) λs=>AC (y? a) λt=>AO (λe=>AC (y? a) λu=>lp o! o! o! λ_=>o!) λe=>lp o! o! o! λq=>O! q e
def ADr{z:BS}(h:AR a e)(m:Dh c)(G:GP z)(Z_:z.2.2.2.2.1.length<=1000):An (Eu (e,(c,z))) λr=>r.2=true->(0<=z.1/\z.1<e.2.1)/\ ∃(b k:Int) (E_:List NE),ON e z.1 b k/\(∀l∈E_,l∈DE e/\l.1.2.2.1=b)/\E_.length=z.2.2.2.2.1.length/\r.1=E_.map tH++ly c z.2.2.2.2.2.1 z.2.2.2.2.2.2/\(z.2.2.2.2.2.1=0\/(c.1<=z.2.2.2.2.2.1/\z.2.2.2.2.2.1<=z.2.2.2.2.2.2/\z.2.2.2.2.2.2<=c.1+c.2.1.length-1)):=by
 have n: ∀{P:Prop},false=true->P:=λh=>by cases h
 have t:=G.page;have K:=m.1;unfold Eu;dsimp only;by_cases B:z.1<e.2.1;rotate_left 1;obtain⟨q,O,q1⟩:=EO h.vb;have l:Ej (e,z.1)=some (0,(0,false)):=by unfold Ej;dsimp only;rw[O,q1,AD,Bn,cond_false,decide_eq_false o!,cond_false,decide_eq_true o!,cond_true]
 rw[l,AD];exact AB n;have⟨b,k,C,I⟩:=tj h.vb (p:=z.1) ⟨t.1,B⟩;rw[C,AD,Bn,cond_false];obtain⟨q,D_,v,T,w2,rfl,w4,w5⟩:=qB h.vb h.ds (J8 h.vb) h.dis;rw[D_,AD];refine AA (P:=λr=>r= .inl ([],false)\/ ∃E_:List NE,(∀l∈E_,l∈DE e/\l.1.2.2.1=b)/\E_.length=z.2.2.2.2.1.length/\r= .inr (E_.map tH)) ?_ λr hr=>?_
 ·refine CQ (λ(s:Int×List A1)=> ∃(j:Nat) (E_:List NE),s.1=j/\E_.length=j/\(∀l∈E_,l∈DE e/\l.1.2.2.1=b)/\s.2=E_.map tH/\j<=z.2.2.2.2.1.length) (λs=>z.2.2.2.2.1.length-s.1.toNat) ⟨0,[],rfl,rfl,q!,rfl,BV _⟩ ?_;rintro⟨_,o⟩ ⟨j,E_,rfl,g,f,ok,Y⟩;dsimp only at ok;unfold O3;dsimp only[len];refine AC (λN=>?_) (λN=>An.done (.inr ⟨E_,f,o!,by rw[ok]⟩));have d:j<z.2.2.2.2.1.length:=o!
  rw[LJ d,AD,AY (x:=(j:Int)+1)];refine AA (AB1 (by rw[BT];omega)) λr hr=>?_;rcases hr with⟨rfl,_⟩|⟨i,rfl,A⟩
  ·rw[decide_eq_true g!,cond_true];exact An.done (.inl rfl)
  ·have L:i<v.length:=by have:=(EX.1 A).1;rwa[BT]at this
   rw[decide_eq_false o!,cond_false,LJ (l:=v.map (·.1)) (by rw[BT];exact L),AD,List.getElem_map];refine AL (λ_=>An.done (.inl rfl)) (λl=>?_);rw[AD,AD,AD];refine AA (AZ (by rw[ok,BT,PL];omega)) λv9 J=>An.next ⟨j+1,E_++[v[i]],rfl,by rw[Aa,g];rfl,λx Q=>?_,?_,d⟩ d!
   rcases Ak.1 Q with q|q;exact f x q;rw[A5.1 q];exact⟨T.mem_iff.1 (F8 L),l⟩;dsimp only;rw[J.1,ok,Ke];rfl
 rcases hr with rfl|⟨E_,f,g,rfl⟩;exact BF (AB n);apply Ay;refine AO (λl=>AB λ_=>⟨⟨t.1,B⟩,b,k,E_,I,f,g,by unfold ly;rw[if_pos l,List.append_nil],.inl l⟩) (λl=>AC (λ_=>AB n) (λV=>AA (Oa m) λF u=>?_));have U:F=c.1+c.2.1.length-1:=u;have X_:=m.2.1;have M:=m.2.2.1;have H:=G.log;refine AC (λ_=>AB n) (λW=>?_);rw[AY (x:=z.2.2.2.2.2.1-c.1),AY (x:=z.2.2.2.2.2.2-c.1),AY (x:=z.2.2.2.2.2.2-c.1+1)];refine AA (BU) λR w=>AA (AZ (by rw[BT,PL];omega)) λS y=>AB λ_=>⟨⟨t.1,B⟩,b,k,E_,I,f,g,?_,.inr o!⟩
 dsimp only;rw[y.1,w.1];unfold ly;rw[if_neg l,show(z.2.2.2.2.2.2-c.1+1).toNat-(z.2.2.2.2.2.1-c.1).toNat=(z.2.2.2.2.2.2-z.2.2.2.2.2.1+1).toNat by omega]
def pz{z:BS}{j:AS×Bool}{l:S A1×Bool}(k:VB e)(n:Dh c)(s:W z.2.2.2.2.1<=1000)(m:Hm (f,z)=Z j)(p:Eu (e,c,z)=Z l)(h:j.2=X\/l.2=X\/Hn (l.1,z)=Z X):An (Dr (f,e,c,z)) λr=>r.2≠0:=by obtain⟨q,o,q1⟩:=EO k;obtain⟨w,d,t⟩:=GH n;have a:∀x:AS,An (Z (x,(45:Y))) λr=>r.2≠0:=λx=>AB (show(45:Y)≠0 by decide);unfold Dr;dsimp only;rw[o,q1,AD,Bn,A!,d,t,AD,Bn,A!];refine AA (AB7 s) λb _=>AP (λ_=>a _) (λ_=>?_);rw[m,AD,p,AD];refine AP (λ_=>a _) (λg=>AP (λ_=>a _) (λi=>?_));rcases h with q|q|q;rw[q]at g;cases g;rw[q]at i;cases i;rw[q,AD,Bool.not_false,B!];exact a _
def AD9{z:BS}(hL:LI b a)(G:Ge a)(t:AR a e)(hx:e.2.2.2.1<=a.length+1)(p:O6 a c)(hm:(d:Int)=e.2.1)(hn:1<=d/\d<=64)(h8:f.length<=8)(hf: ∀m∈f,FI a i d m)(C:z.2.2.2.2.1.length<=19):An (Dr (f,(e,(c,z)))) λr=>r.2=0->(0<=z.1/\z.1<e.2.1)/\ ∃k:Nat,z.2.2.2.1=k/\k<=a.length/\r.1=st (a.take k) z.1:=by
 have M:=p.len;by_cases F:GP z;rotate_left 1;obtain⟨q,Z_,q1⟩:=EO t.vb;obtain⟨w,al,w1⟩:=GH p.vl;unfold Dr;dsimp only;rw[Z_,q1,AD,Bn,cond_false,al,w1,AD,Bn,cond_false];exact AA (AGb (z:=z) o!) λl hb=>AP (λ_=>AB n!) (λhc=>absurd (hb hc) F);obtain⟨r3,O,q3⟩:=AGi G o! hn h8 hf F;obtain⟨N,Q,q4⟩:=ADr t p.vl F o!;cases S:r3.2 with
 |false=>exact(pz t.vb p.vl o! O Q (.inl S)).mono λr hr C=>absurd C hr
 |true=>
  cases U:N.2 with
  |false=>exact(pz t.vb p.vl o! O Q (.inr (.inl U))).mono λr hr C=>absurd C hr
  |true=>
   obtain⟨Y,lo,V,E_,p1,R,ao,u,I⟩:=q4 U;obtain⟨j,hg,Z_⟩:=q3 S Y.1 o!;have ap:=F.lsn;have vl:=p.vl;have ad: ∀n∈E_,n.1.2.1<=a.length:=λn o=>by obtain⟨_,_,_,_,_,q⟩:=t.mem (R n o).1;omega
   have W: ∀s∈ly c z.2.2.2.2.2.1 z.2.2.2.2.2.2,s.2.1<=a.length:=λs h=>by unfold ly at h;split at h;cases h;rename_i X_;obtain⟨f1,f2,f3⟩:=I.resolve_left X_;rw[A5.1 h];have b2:=vl.2.2.1;have o:=Au (show c.2.1.length-1<c.2.1.length by omega);have g1:=(vl.2.2.2.2.2 _ _ o).1;obtain⟨L,V⟩:=DW ((p.tail _).1 (BO o)).1;have g2:=(G L _ V).1;have g3:=Cs V;dsimp only;omega
   have A: ∀s∈N.1,s.2.1<=a.length:=λs h=>by rw[u]at h;rcases Ak.1 h with q|q;obtain⟨n,o,rfl⟩:=Bs.1 q;exact ad n o;exact W s q
   have hP:N.1.length<=20:=by
    rw[u,Aa,BT];have:(ly c z.2.2.2.2.2.1 z.2.2.2.2.2.2).length<=1:=by unfold ly;split<;>simp
    omega
   obtain⟨w,ew,hw⟩:=AH5 (x:=(N.1,z)) d! (λs h=>by have:=A s h;omega) d! d! d!;cases w with
   |false=>exact(pz t.vb p.vl o! O Q (.inr (.inr ew))).mono λr hr C=>absurd C hr
   |true=>
    have B:=hw.1 rfl;dsimp only at B;have q0:=Ry G z.1 j;obtain⟨k,hk⟩:=EG (show 0<=z.2.2.2.1 by omega);have J:k<=a.length:=by by_cases D_:z.2.2.1<z.2.2.2.1;obtain⟨s,h,s1,s2⟩:=B _ D_ (Ae _);have:=A s h;omega;have:=W8 (G.take j) z.1;rw[BP]at this;omega
    have K: ∀s∈ly c z.2.2.2.2.2.1 z.2.2.2.2.2.2,s.2.2.length<=4096/\s.2.2.filter (HY z.1 z.2.2.1 z.2.2.2.1)=(a.filter (HY z.1 z.2.2.1 z.2.2.2.1)).filter (oW s):=by rcases I with q|⟨g1,g2,g3⟩;intro s h;unfold ly at h;rw[if_pos q]at h;cases h;exact AKL p g1 g2 g3
    have H:=AEA (fs:=f) (z:=z) (g:=st (a.take j) z.1) (P:=N.1) (T:=a.filter (HY z.1 z.2.2.1 z.2.2.2.1)) (y:=(st (a.take k) z.1,0)) t.vb vl o! F (by rw[O,<-hg,<-S]) (by rw[Q,<-U]) ew hP (λs h=>?_) (yM p _ _ _) (λs h=>?_) (λn o=>?_) ?_;exact⟨_,H,λ_=>⟨Y,k,hk,J,rfl⟩⟩;rw[u]at h;rcases Ak.1 h with q|q;obtain⟨n,o,rfl⟩:=Bs.1 q;exact(AHo t n (R n o).1).2.2.2.2.2.2.2.2;exact(K s q).1;rw[u]at h;rcases Ak.1 h with q|q;obtain⟨n,o,rfl⟩:=Bs.1 q;exact AKh t p p1 (R n o).1 (R n o).2;exact(K s q).2;have v:=(BQ.1 o).2;unfold HY at v;simp only[Ba,decide_eq_true_eq]at v;obtain⟨s,h,s1,s2⟩:=B n.1 v.2.2.1 v.2.2.2;exact⟨s,h,by unfold oW;rw[decide_eq_true s1,decide_eq_true s2];rfl⟩;rw[Z_,hk];exact AJh hL G M J o! ⟨Y.1,o!⟩
def yu(L:S EN)(p:Y)(l:S EN):Prop:=(l.Pairwise λx y=>x.1<y.1)/\∀x∈l,x∈L/\x.2.2.2.2.2.2.1.1=p
theorem yw{l:List EN}{e:EN}(hL:Uq a)(i:yu a b l)(Q:e∈a/\e.2.2.2.2.2.2.1.1=b)(h:l.length<=16777000):An (Cf (l,e)) λr=>r.1.length<=l.length+1/\yu a b r.1/\ ∀y,y∈r.1↔y∈l\/y=e:=by
 have z: ∀v∈l,An (C9 (v,e)) λr=>(r<0↔v.1<e.1)/\(r=0↔v.1=e.1):=λv S=>by have R:=(i.2 v S).2.trans Q.2.symm;unfold C9;dsimp only;rw[decide_eq_false o!,cond_false,beq_iff_eq.2 R,cond_true];refine AC (λm=>AB ⟨⟨λ_=>m,λ_=>g!⟩,⟨n!,λq=>o!⟩⟩) λm=>?_;rw[cond_true];exact AO (λO=>AB ⟨⟨n!,λq=>o!⟩,⟨λ_=>O,λ_=>rfl⟩⟩) (λO=>AB ⟨⟨n!,λq=>o!⟩,⟨n!,λq=>absurd q O⟩⟩)
 unfold Cf;refine AA (P:=λ(v:Int)=>0<=v/\v<=l.length/\(∀x∈l.take v.toNat,x.1<e.1)/\ ∀x,l[v.toNat]? =some x-> ¬x.1<e.1) ?_ λv S=>?_
 ·refine CQ (λ(s:Int)=>0<=s/\s<=l.length/\ ∀x∈l.take s.toNat,x.1<e.1) (λs=>((l.length:Int)-s).toNat) ⟨Ae _,o!,λx d=>by simp at d⟩ (λs hI=>?_);have⟨U,i1,V⟩:=hI;unfold I2;dsimp[len];refine AC (λo=>?_) (λo=>An.done ⟨U,i1,V,λx d=>by have:=Cs d;omega⟩);rw[AY];refine AA (AI U o) λK m=>AA (z K m.2) λc f=>AC (λq=>An.next ⟨o!,o!,λx d=>?_⟩ o!) (λq=>An.done ⟨U,i1,V,λx d=>?_⟩);rw[show(s+1).toNat=s.toNat+1 by omega,Ck,m.1]at d;rcases Ak.1 d with w|w;exact V x w;rw[show x=K by simpa using w];exact f.1.1 q;rw[m.1]at d;rw[<-BY d];exact λw=>q (f.1.2 w)
 have⟨J,K,v2,v3⟩:=S;have ap: ∀x∈l.drop v.toNat,¬x.1<e.1:=λx d=>by have⟨k,t⟩:=Eg.1 d;rw[KC]at t;have G:=Cs t;have h0:l[v.toNat]? =some (l[v.toNat]' o!):=Au o!;have:=v3 _ h0;obtain _|k:=k;rw[NV,h0]at t;rw[<-BY t];exact this;have:=(EL.1 i.1) v.toNat (v.toNat+(k+1)) o! G o!;rw[Au G]at t;rw[<-BY t];omega
 have main:(∀x∈l.drop v.toNat,e.1<x.1)->An (Option.bind (Sr l 0 v) λH=>
  Option.bind (Sr l v (len l)) λI=>
  Option.bind (app [] H) λg=>
  Option.bind (app g ([e]:List (Int×(Int×(Int×(Int×(Int×(Int×((Int×(Int×((Bool×Bd)×(Bool×Bd))))×Bd))))))))) λal=>
  Option.bind (app al I) λao=>
  some (ao,true)) λr=>r.1.length<=l.length+1/\yu a b r.1/\ ∀y,y∈r.1↔y∈l\/y=e:=λF=>by
  refine AA (BU (Ae _) J K) λZ_ B=>AA (BU J (by simp[len];omega) i!) λad N=>?_;have ar:=B.2;have W:=N.2;simp[len]at W;refine AA (AZ w!) λH C=>?_;have X_:=C.2.1;simp[Bi]at X_;refine AA (AZ w!) λI D_=>?_;have Y:=D_.2.1;simp[Bi,Bh]at Y;refine AA (AZ o!) λg E_=>AB ?_;have ax:=E_.2.1;have M:Z_=l.take v.toNat:=by rw[B.1];simp
  have A:g=l.take v.toNat++[e]++l.drop v.toNat:=by rw[E_.1,D_.1,C.1,M,(by grind[List.take_of_length_le,List.length_drop]:ad=l.drop v.toNat),B5]
  dsimp only;have j: ∀y,y∈g↔y∈l\/y=e:=λy=>by
   rw[A];conv=>rhs;rw[<-DG v.toNat l]
   grind[List.mem_singleton]
  refine⟨o!,⟨?_,λx d=>?_⟩,j⟩;rw[A,A3,List.pairwise_append];refine⟨i.1.sublist (fk _ _),?_,λx d y hy=>?_⟩;exact List.pairwise_cons.2 ⟨F,i.1.sublist (mL _ _)⟩;have:=v2 x d;rcases Av.1 hy with w|w;rw[w];exact this;have:=F y w;omega;rcases(j x).1 d with w|w;exact i.2 x w;rw[w];exact Q
 dsimp[len];refine AC (λo=>?_) (λo=>main λx d=>?_);refine AA (AI J o) λu n=>AA (z u n.2) λc f=>AO (λT=>?_) (λT=>main λx d=>?_);refine AA (AI J o) λv6 _=>AB ⟨d!,i,λy=>?_⟩;have:u=e:=hL u (i.2 u n.2).1 e Q.1 (f.2.1 T);subst this;exact⟨.inl,λw=>w.elim id λw=>w▸n.2⟩;have p:=v3 _ n.1;have L: ¬u.1=e.1:=λw=>T (f.2.2 w);have hd:l.drop v.toNat=u::l.drop (v.toNat+1):=by rw[OQ o!];rw[Au o!]at n;rw[BY n.1]
 rw[hd]at d;have hs:=i.1.sublist (mL v.toNat l);rw[hd]at hs;rcases Av.1 d with w|w;rw[w];omega;have:=(List.pairwise_cons.1 hs).1 x w;omega;rw[Ro o!]at d;simp at d
theorem AAs(W:Uq a)(h:Src a b g):An (Jt (g,(b,(i,j)))) λr=>r.length<=1048576/\yu a b r/\ ∀y,y∈r↔ ∃q∈g,y∈q.2.2.2.2.2/\y.2.2.2.2.2.2.1.1=b/\i<y.1/\y.1<=j:=by
 have X_:=h.1;refine AA (P:=λr=>r.length<=1048576/\yu a b r/\ ∀y,y∈r↔ ∃q∈g,y∈q.2.2.2.2.2/\y.2.2.2.2.2.2.1.1=b/\i<y.1/\y.1<=j) ?_ λr hr=>AB hr;refine CQ (λ(s:List EN×Int)=>0<=s.2/\s.2<=g.length/\s.1.length<=4096*s.2/\yu a b s.1/\ ∀y,y∈s.1↔ ∃q∈g.take s.2.toNat,y∈q.2.2.2.2.2/\y.2.2.2.2.2.2.1.1=b/\i<y.1/\y.1<=j) (λs=>((g.length:Int)-s.2).toNat) ⟨Ae _,d!,q!,⟨List.Pairwise.nil,λx Y=>by simp at Y⟩,λy=>q!⟩ ?_;rintro⟨A,k⟩ ⟨N,Z_,i2,H,G⟩;dsimp only at N Z_ i2 H G;unfold LA;dsimp[len];refine AC (λM=>?_) (λM=>An.done ⟨o!,H,λy=>by rw[G y,BM o!]⟩);refine AA (AI N M) λn K=>?_;have⟨J,T,g3,g4⟩:=h.2 n K.2;have hl:=J.1.2.2.2.2.2.2.2.2;refine AA (AAR J) λc u=>?_;have D_:=EK (λe:EN=>e.2.2.2.2.2.2.1.1==b) n.2.2.2.2.2;rw[<-u]at D_;have E_: ∀y∈c,y∈a/\y.2.2.2.2.2.2.1.1=b:=λy F=>by rw[u]at F;exact⟨((T.mem y).1 (BQ.1 F).1).1,eq_of_beq (BQ.1 F).2⟩
 refine AA (P:=λr=>r.length<=A.length+c.length/\yu a b r/\ ∀y,y∈r↔y∈A\/(y∈c/\i<y.1/\y.1<=j)) ?_ λr hr=>?_
 ·refine CQ (λ(s:List EN×Int)=>0<=s.2/\s.2<=c.length/\s.1.length<=A.length+s.2/\yu a b s.1/\ ∀y,y∈s.1↔y∈A\/(y∈c.take s.2.toNat/\i<y.1/\y.1<=j)) (λs=>((c.length:Int)-s.2).toNat) ⟨Ae _,d!,d!,H,λy=>q!⟩ ?_;rintro⟨B,m⟩ ⟨l,j1,j2,f,I⟩;dsimp only at l j1 j2 f I;unfold LB;dsimp[len];refine AC (λp=>?_) (λp=>An.done ⟨o!,f,λy=>by rw[I y,BM o!]⟩);refine AA (AI l p) λo L=>?_;rw[AY (x:=m+1)];have t:c.take (m+1).toNat=c.take m.toNat++[o]:=by rw[show(m+1).toNat=m.toNat+1 by omega,Ck,L.1];rfl
  have d: ¬(i<o.1/\o.1<=j)-> ∀y,y∈B↔y∈A\/(y∈c.take (m+1).toNat/\i<y.1/\y.1<=j):=λhn y=>by grind[List.mem_singleton]
  refine AC (λz=>?_) (λz=>An.next ⟨d!,d!,d!,f,d λq=>o!⟩ d!);refine AA (AI l p) λO U=>?_;have R:O=o:=by have:=U.1;rw[L.1]at this;exact(BY this).symm
  subst R;refine AA (P:=λr=>r.length<=B.length+1/\yu a b r/\ ∀y,y∈r↔y∈A\/(y∈c.take (m+1).toNat/\i<y.1/\y.1<=j)) ?_ λr hr=>An.next ⟨d!,d!,by have:=hr.1;dsimp only;omega,hr.2⟩ d!
  refine AC (λC=>?_) (λC=>AB ⟨o!,f,d λq=>o!⟩);refine AA (AI l p) λQ V=>?_;have S:Q=O:=by have:=V.1;rw[L.1]at this;exact(BY this).symm
  subst S;refine AA (yw W f (E_ Q L.2) o!) λv7 v=>AB ⟨v.1,v.2.1,λy=>?_⟩;rw[v.2.2 y,I y,t,Ak,A5];constructor;rintro((q|⟨q1,q2⟩)|q);exact .inl q;exact .inr ⟨.inl q1,q2⟩;exact .inr ⟨.inr q,by rw[q];omega⟩;rintro(q|⟨q1|q1,q2⟩);exact .inl (.inl q);exact .inl (.inr ⟨q1,q2⟩);exact .inr q1
 ·rw[AY];refine An.next ⟨d!,d!,by have:=hr.1;dsimp only;omega,hr.2.1,λy=>?_⟩ d!
  dsimp only;have t:g.take (k+1).toNat=g.take k.toNat++[n]:=by rw[show(k+1).toNat=k.toNat+1 by omega,Ck,K.1];rfl
  rw[hr.2.2 y,G y,t,u,BQ,beq_iff_eq];constructor;rintro(⟨q,q1,q2⟩|⟨⟨q1,q2⟩,q3⟩);exact⟨q,GU _ q1,q2⟩;exact⟨n,NU _ (A5.2 rfl),q1,q2,q3⟩;rintro⟨q,q1,q2,q3,q4⟩;rcases Ak.1 q1 with w|w;exact .inl ⟨q,w,q2,q3,q4⟩;rw[A5.1 w]at q2;exact .inr ⟨⟨q2,q3⟩,q4⟩
def AE4(h:g.length<=256):An (LC (g,b)) λr=>r>=0-> ∃q∈g,q.1<=b/\b<=q.2.1:=by refine AA (P:=λr=> ∀k,r= .inl k-> ∃q∈g,q.1<=b/\b<=q.2.1) ?_ λr hr=>BH (λu j=>AB λ_=>hr u j) (λu _=>AB n!);refine CQ (λ(s:Y)=>0<=s/\s<=g.length) (λs=>((g.length:Y)-s).toNat) ⟨Ae _,o!⟩ (λs i=>?_);obtain⟨f,n⟩:=i;unfold Mq;dsimp only[len];refine AC (λc=>?_) (λ_=>An.done λk d=>by cases d);rw[AY];refine AA (AI f c) λl m=>AC (λq1=>AA (AI f c) λo a=>AC (λq2=>An.done λk d=>⟨l,m.2,q1,?_⟩) (λ_=>An.next o! o!)) (λ_=>An.next o! o!);have e:=a.1;rw[m.1]at e;rw[BY e];exact q2
theorem AIH{e:EN}(h:a.length<=16777216)(d:e∈a):Im (a,e)=some true:=by
 suffices g:An (Im (a,e)) λr=>r=true by obtain⟨r,hr,rfl⟩:=g;exact hr
 refine AA (P:=λr=>r= .inl true) ?_ λr hr=>by rw[hr];exact BF (AB rfl)
 refine CQ (λ(s:Y)=>0<=s/\s<=a.length/\e∈a.drop s.toNat) (λs=>((a.length:Y)-s).toNat) ⟨Ae _,o!,d⟩ (λs c=>?_);have⟨i,k,b⟩:=c;unfold Pu;dsimp[len];refine AC (λl=>?_) (λl=>by rw[Ro o!]at b;simp at b);rw[AY];refine AA (AI i l) λm j=>AK (λ_=>An.done rfl) (λf=>An.next ⟨o!,o!,?_⟩ o!);grind[List.drop_eq_getElem_cons,List.getElem?_eq_getElem,Option.some.inj]
theorem AGY{A B:List EN}(U:Uq a)(V:Dh c)(R:yu a b A)(S:yu a b B)(Q:g.length<=256)(h2:A.length<=1048576)(h3:B.length<=4096)(m: ∀y∈A,c.1<=y.1->y.1<=c.1+c.2.1.length-1->y∈B)(n: ∀y∈B,(∃q∈g,q.1<=y.1/\y.1<=q.2.1)->y∈A):An (MQ (g,(c,(A,B)))) λr=>r.2=true/\r.1.length<=1052672/\yu a b r.1/\ ∀y,y∈r.1↔y∈A\/y∈B:=by
 refine AA (AZ w!) λX_ O=>?_;have D_:=O.1;rw[B5]at D_;dsimp only at D_;subst X_;refine AA (P:=λr=> ∃C,r= .inr C/\C.length<=A.length+B.length/\yu a b C/\ ∀y,y∈C↔y∈A\/y∈B) ?_ λr hr=>?_
 ·refine CQ (λ(s:List EN×Int)=>0<=s.2/\s.2<=B.length/\s.1.length<=A.length+s.2/\yu a b s.1/\ ∀y,y∈s.1↔y∈A\/y∈B.take s.2.toNat) (λs=>((B.length:Int)-s.2).toNat) ⟨Ae _,d!,d!,R,λy=>q!⟩ ?_;rintro⟨C,k⟩ ⟨l,F,W,t,G⟩;dsimp only at l F W t G;unfold N4;dsimp[len];refine AC (λv=>?_) (λv=>An.done ⟨C,rfl,o!,t,λy=>by rw[G y,BM o!]⟩);refine AA (AI l v) λz h=>AA (AE4 Q) λv3 M=>?_;rw[AY (x:=k+1)];have et:B.take (k+1).toNat=B.take k.toNat++[z]:=by rw[show(k+1).toNat=k.toNat+1 by omega,Ck,h.1];rfl
  have same: ∀p,B[k.toNat]? =some p/\p∈B->p=z:=λp e=>by have:=e.1;rw[h.1]at this;exact(BY this).symm
  have u: ∀p,B[k.toNat]? =some p/\p∈B->An (Option.bind (Cf (C,p)) λH=>some (Step.next (H.1,k+1)):Option (Step (List EN×Int) ((List EN×Bool)⊕ List EN))) (MU (λ(s:List EN×Int)=>0<=s.2/\s.2<=B.length/\s.1.length<=A.length+s.2/\yu a b s.1/\ ∀y,y∈s.1↔y∈A\/y∈B.take s.2.toNat) (λs=>((B.length:Int)-s.2).toNat) ((B.length:Int)-k).toNat λr=> ∃C,r= .inr C/\C.length<=A.length+B.length/\yu a b C/\ ∀y,y∈C↔y∈A\/y∈B):=λp e=>by
   have K:=same p e;subst K;refine AA (yw U t (S.2 p h.2) o!) λH E_=>An.next ⟨d!,d!,by have:=E_.1;dsimp only;omega,E_.2.1,λy=>?_⟩ d!
   grind[List.mem_singleton]
  refine AC (λo=>AA (AI l v) λY N=>?_) (λ_=>AA (AI l v) λp e=>u p e);rw[same Y N,AIH o! (n z h.2 (M o)),AD,Bn,cond_false];grind[AA,AI]
 ·obtain⟨C,rfl,Z_,J,I⟩:=hr;refine Ay (AA (P:=λr=>r= .inr ()) ?_ λr hr=>by rw[hr];exact Ay (AB ⟨rfl,d!,J,I⟩));refine CQ (λ(s:Int)=>0<=s/\s<=A.length) (λs=>((A.length:Int)-s).toNat) ⟨Ae _,o!⟩ (λs T=>?_);have⟨l,F⟩:=T;unfold N5;dsimp[len];refine AC (λv=>?_) (λ_=>An.done rfl);rw[AY];refine AA (AI l v) λw d=>?_;rw[yC V,AD];refine AC (λf=>AA (AI l v) λL j=>?_) (λ_=>An.next o! o!);have i:L=w:=by have:=j.1;rw[d.1]at this;exact(BY this).symm
  subst i;rw[AIH o! (m L d.2 f.1 f.2),AD,Bn,cond_false];exact An.next o! o!
theorem ADF(h:Src a b g)(l:Dh c)(B:0<=i)(L:i<=1099511627776)(p:i<=j):An (Kb ((g,k,c),i,j)) λd=>d=E↔∀q,i<q->q<=j->V6 g c q:=by
 have x:∀q,V6 g c q->q<=1099511631872:=λq n=>by have y:=l.2.1;have z:=l.2.2.1;rcases n with⟨r,u,_,w⟩|⟨_,w⟩;have:=(h.2 r u).1.1.2.2.1;omega;omega
 refine AA (P:=λr=>(r=.inl X/\∃q,i<q/\q<=j/\¬V6 g c q)\/(r=.inr ()/\∀q,i<q->q<=j->V6 g c q)) ?_ λr hr=>?_
 ·refine CQ (λs=>i<=s/\s<=1099511631872/\∀q,i<q->q<=s->V6 g c q) (λs=>(1099511631872-s).toNat) ⟨Ae _,k!,λq q1 q2=>k!⟩ (λs e=>?_);have⟨C,D_,t⟩:=e;unfold Lh;dsimp only;refine AC (λf=>?_) (λf=>k? (.inr ⟨rfl,λq q1 q2=>t q q1 o!⟩));rw[AY];refine AA (AFP h l o!) λv o=>AO (λA=>k? (.inl ⟨rfl,s+1,o!,o!,o.2.2.2 o!⟩)) (λm=>?_);grind[y!]
 grind[AB]
theorem AJz{p i j:Int}(hL:LI b a)(hN:Ge a)(h:AR a e)(n:O6 a c)(C:0<=i)(R:i<=1099511627776)(D_:i<=j)(k:0<=p/\p<e.2.1): ∃L C,ON e p L C/\(((∀q,i<q->q<=j->iB e c L q)/\Ft (e,(c,(p,(i,j))))=some (a.filter (HY p i j),0))\/((¬ ∀q,i<q->q<=j->iB e c L q)/\Ft (e,(c,(p,(i,j))))=some ([],42))):=by
 have d:=n.sorted;have hU:Uq a:=λx V y t H=>Vl (by refine II.2 ((RF).2 (d.imp λh=>?_));omega) V t H;obtain⟨v1,e1,M,L,hh,T,rfl,ad,hM,l⟩:=vX (l:=c) h k;refine⟨L,hh,T,?_⟩;have B:(∀q,i<q->q<=j->V6 (M.map (·.1)) c q)↔ ∀q,i<q->q<=j->iB e c L q:=⟨λw q q1 q2=>(ACK hM q).1 (w q q1 q2),λw q q1 q2=>(ACK hM q).2 (w q q1 q2)⟩
 suffices hs:An (Ft (e,(c,(p,(i,j))))) λr=>((∀q,i<q->q<=j->iB e c L q)/\r=(a.filter (HY p i j),0))\/((¬ ∀q,i<q->q<=j->iB e c L q)/\r=([],42)) by obtain⟨r,hr,q|q⟩:=hs;exact .inl ⟨q.1,by rw[hr,q.2]⟩;exact .inr ⟨q.1,by rw[hr,q.2]⟩
 unfold Ft;rw[AHi h.vb n.vl k C D_,AD,bne_self_eq_false,cond_false];dsimp only;rw[e1,AD];refine AA (ADF l n.vl C R D_) λv2 Z_=>AP (λhf=>AB (.inr ⟨λw=>?_,rfl⟩)) (λA=>?_);rw[Z_.2 (B.2 w)]at hf;cases hf;have o:=Z_.1 A;refine AA (AAs hU l) λv3 h3=>AA (zt n.vl) λv4 z=>?_;have⟨a1,a2,a3⟩:=h3;have m: ∀y,HY p i j y=true->hY y=true/\y.2.2.2.2.2.2.1.1=p/\i<y.1/\y.1<=j:=λy U=>by unfold HY at U;simp[Ba,decide_eq_true_eq,beq_iff_eq]at U;exact U
 have E_: ∀y,hY y=true->y.2.2.2.2.2.2.1.1=p->i<y.1->y.1<=j->HY p i j y=true:=λy K N F G=>by grind[HY]
 have hB:yu a p v4:=by rw[z];refine⟨n.vl.sorted.filter _,λx V=>?_⟩;have⟨x1,x2⟩:=BQ.1 V;exact⟨((n.tail x).1 x1).1,(m x x2).2.1⟩
 have g:v4.length<=4096:=by rw[z];exact Cl (EK _ _) n.vl.2.2.1
 refine AA (AGY hU n.vl a2 hB l.1 a1 g (λy t g1 v=>?_) (λy t I=>?_)) λu h5=>?_;have⟨q,q1,q2,q3,q4,q5⟩:=(a3 y).1 t;have I:=((l.2 q q1).2.1.mem y).1 q2;rw[z];exact BQ.2 ⟨(n.tail y).2 ⟨I.1,g1,v⟩,E_ y I.2.1 q3 q4 q5⟩;rw[z]at t;have⟨y1,y2⟩:=BQ.1 t;have⟨K,N,F,G⟩:=m y y2;have⟨q,q1,q2,q3⟩:=I;have⟨_,v,g3,g4⟩:=l.2 q q1;exact(a3 y).2 ⟨q,q1,(v.mem y).2 ⟨((n.tail y).1 y1).1,K,o!,o!,q2,q3⟩,N,F,G⟩;have⟨u0,u1,u2,u3⟩:=h5;rw[u0,Bn,cond_false];have H:u.1=a.filter (HY p i j):=Uy u2.1 (d.filter _) λy=>by rw[u3 y,a3 y,z,BQ,BQ];constructor;rintro(⟨q,q1,q2,q3,q4,q5⟩|⟨q1,q2⟩);have:=((l.2 q q1).2.1.mem y).1 q2;exact⟨this.1,E_ y this.2.1 q3 q4 q5⟩;exact⟨((n.tail y).1 q1).1,q2⟩;rintro⟨q1,q2⟩;have⟨K,N,F,G⟩:=m y q2;rcases o y.1 F G with⟨r,J,W,r3⟩|⟨J,W⟩;have⟨_,v,g3,g4⟩:=l.2 r J;exact .inl ⟨r,J,(v.mem y).2 ⟨q1,K,o!,o!,W,r3⟩,N,F,G⟩;exact .inr ⟨(n.tail y).2 ⟨q1,J,W⟩,q2⟩
 have f:=wU (p:=p) (j:=j) hL d C;rw[<-H]at f;refine AA (P:=λr=>r= .inr ()) ?_ λr hr=>by rw[hr];exact Ay (AB (.inl ⟨B.1 o,by rw[H]⟩))
 refine CQ (λ(s:Int)=>0<=s/\s<=u.1.length) (λs=>((u.1.length:Int)-s).toNat) ⟨Ae _,o!⟩ (λs hI=>?_);have⟨s0,s1⟩:=hI;unfold Qd;dsimp[len];refine AC (λo=>?_) (λo=>An.done rfl);rw[AY (x:=s+1)];have nx:An (some (Step.next (s+1)):Option (Step Int ((List EN×Int)⊕ Unit))) (MU (λ(s:Int)=>0<=s/\s<=u.1.length) (λs=>((u.1.length:Int)-s).toNat) ((u.1.length:Int)-s).toNat λr=>r= .inr ()):=An.next o! o!
 apply AO<;>intro hz;refine AA (AI s0 o) λv7 g7=>AC (λal=>?_) (λ_=>AC (λk=>absurd k o!) (λ_=>nx));have:=(f s.toNat v7 g7.1).1 o!;omega;refine AC (λk=>?_) (λk=>absurd k o!);rw[AY];refine AA (AI s0 o) λX_ O=>AA (AI) λY Q=>AL (λS=>absurd ((f s.toNat X_ O.1).2 Y o! ?_) S) (λ_=>nx);rw[show s.toNat-1=(s-1).toNat by omega];exact Q.1
theorem AHW{s:Y×List Be}{v:Cy×Bool}(h:s.2.length<=8):An (Ai (Ri s v) (len s.2)) λr=>0<=r/\r<=s.2.length:=by refine CQ (λ(t:Y)=>0<=t/\t<=s.2.length) (λt=>t.toNat) ⟨k!,k!⟩ (λt c=>?_);have⟨a,b⟩:=c;refine AC (λd=>?_) (λ_=>An.done ⟨a,b⟩);rw[AY];exact AA (AI) λ_ _=>AA (AI) λ_ _=>AC (λ_=>An.next o! o!) (λ_=>An.done ⟨a,b⟩)
def AJi{x:Ψ Am×AJ×Ac×Int×Int}(h:Ge a)(R:θ a<=1099511627776)(hn:1<=d/\d<=64)(v8:θ m<=8)(N:∀z∈m,PI a b d z)(I:0<=i/\i<d)(H:x.2.2.2.1=i)(T:x.2.2.2.2=j):An (Ai (Li x m) (wi (len m-1),[])) λr=>θ r<=8/\∀y,y∈r↔∃z∈m,dF z i<=j/\y=(dF z i,z.1,dF z i):=by
 have O:wi (len m-1)=(θ m:Int)-1:=by simp only[len];rw[AY]
 rw[O];refine CQ (λs=>∃n:Nat,s.1=(n:Int)-1/\n<=θ m/\θ s.2<=θ m-n/\∀y,y∈s.2↔∃z∈m.drop n,dF z i<=j/\y=(dF z i,z.1,dF z i)) (λs=>(s.1+1).toNat) ⟨θ m,rfl,Al _,q!,λy=>⟨λq=>(by cases q),λ⟨z,q,_⟩=>(by rw[List.drop_length]at q;cases q)⟩⟩ ?_;rintro⟨_,A⟩ ⟨n,rfl,W,X_,g⟩;dsimp only at X_ g;unfold Li;dsimp only;refine AC (λP=>?_) (λP=>k? ⟨o!,by rw[show n=0 by omega]at g;exact g⟩);obtain⟨k,rfl⟩:∃k:Nat,n=k+1:=⟨n-1,o!⟩
 have F:k<θ m:=W;have E_:ix m (((k+1:Nat):Int)-1)=Z m[k]:=by unfold ix;rw[C! o!,show(((k+1:Nat):Int)-1).toNat=k by omega,Au F]
 rw[E_,AD,T,H,AY];obtain⟨L,hj,x1,x2,J⟩:=N _ (F8 F);have f:H7 (m[k],i)=Z (Xf (st (a.take L) i),E):=by rw[J];exact AEw h R ⟨x1,x2⟩ hn I
 have D_:(Xf (st (a.take L) i)).2.1=dF m[k] i:=by rw[J,zL I];exact Jg _ _
 have p:m.drop k=m[k]::m.drop (k+1):=OQ F;rw[f,AD,Bn,A!];dsimp only;rw[D_];refine AC (λQ=>y! ⟨k,d!,o!,d!,λy=>?_⟩ d!) (λS=>?_);dsimp only;rw[g y,p];constructor;rintro⟨z,t,c⟩;exact⟨z,CZ _ t,c⟩;rintro⟨z,t,c,w⟩;rcases Av.1 t with rfl|t;omega;exact⟨z,t,c,w⟩
 ·refine AA (AHW (s:=(_,A)) d!) λv u=>?_;dsimp only at u;refine AA (BU (Ae _) u.1 u.2) λ_ _=>?_;rw[AD];refine AA (BU u.1 i! i!) λ_ _=>?_;have K:List.take (ο v-ο 0) (List.drop (ο 0) A)=A.take v.toNat:=rfl;have M:List.take (ο (len A)-ο v) (List.drop (ο v) A)=A.drop v.toNat:=BM (by rw[C5];simp only[len];omega);rw[K,M];refine AA (AZ w!) λY e=>AA (AZ (by rw[e.1];simp;omega)) λZ_ l=>AA (AZ (by rw[l.1,e.1];simp;omega)) λo B=>?_;have V:o=A.take v.toNat++[(dF m[k] i,m[k].1,dF m[k] i)]++A.drop v.toNat:=by rw[B.1,l.1,e.1];rfl
  have U:θ o=θ A+1:=by rw[V];simp;omega
  refine AC (λ_=>y! ⟨k,d!,o!,d!,λy=>?_⟩ d!) (O! o! ·);dsimp only;rw[V,p];have C:y∈A↔y∈A.take v.toNat\/y∈A.drop v.toNat:=by
   conv=>lhs;rw[<-DG v.toNat A]
   exact Ak
  rw[Ak,Ak,A5];constructor;rintro((q|q)|q);obtain⟨z,t,c⟩:=(g y).1 (C.2 (.inl q));exact⟨z,CZ _ t,c⟩;exact⟨_,JV,o!,q⟩;obtain⟨z,t,c⟩:=(g y).1 (C.2 (.inr q));exact⟨z,CZ _ t,c⟩;rintro⟨z,t,c,w⟩;rcases Av.1 t with rfl|t;exact .inl (.inr w);rcases C.1 ((g y).2 ⟨z,t,c,w⟩)with q|q;exact .inl (.inl q);exact .inr q
theorem AD6{x:Aq}(a:Gu f=some m)(k:m.length<=1000)(i: ∀x∈m,∀y∈m,x.1=y.1->x=y)(d:x∈m):NN (f,x.1)=some (x,true):=by
 suffices c:An (Ai (O2 (f,x.1) m) (0,(0,(0,[])))) λr=>r= .inl (true,x) by obtain⟨r,hr,rfl⟩:=c;grind[NN]
 refine CQ (λ(s:Y×Aq)=> ∃j:V,s.1=j/\j<=m.length/\x∉m.take j) (λs=>m.length-s.1.toNat) ⟨0,rfl,BV _,q!⟩ ?_;rintro⟨_,o⟩ ⟨j,rfl,g,hn⟩;unfold O2;dsimp[len];refine AC (λb=>?_) (λb=>absurd d k!);rw[LJ o!,AD,AD];apply AO<;>intro e
 ·grind[An.done]
 ·rw[AY (x:=(j:Y)+1)];refine An.next ⟨j+1,rfl,o!,λh=>?_⟩ k!
  grind[Ih]
theorem AGe(h:k.length<=100000):An (Sn (k,b)) λr=>r.length<=k.length+1:=by
 refine AA (P:=λ(r:Y)=>0<=r/\r<=k.length) ?_ λr hr=>?_
 ·refine CQ (λ(t:Y)=>0<=t/\t<=k.length) (λt=>k.length-t.toNat) ⟨Ae _,o!⟩ ?_;rintro t ⟨i,j⟩;unfold Vg;dsimp[len];refine AC (λf=>AA (AI i f) λv _=>?_) (λf=>An.done ⟨i,j⟩);rw[AY (x:=t+1)];exact AC (λ_=>An.next o! o!) (λ_=>An.done ⟨i,j⟩)
 have⟨g,c⟩:=hr;have e:An (Option.bind (Sr k 0 r) λl=>Option.bind (Sr k r (len k)) λm=>Option.bind (app [] l) λn=>Option.bind (app n ([b]:List Y)) λo=>Option.bind (app o m) λp=>some p) λr=>r.length<=k.length+1:=by refine AA (BU (Ae _) g c) λa q=>AA (BU g k! k!) λd s=>?_;grind[AA,AZ,List.length_nil,List.length_singleton,AB]
 dsimp only;exact AC (λf=>AA (AI g k!) λv _=>AO (λ_=>AB o!) (λ_=>e)) (λf=>e)
theorem AEK{d:List EN}(h:AR a e)(n:0<=b/\b<e.2.1)(k:Ft (e,(c,(b,(i,j))))=some (d,0)):An (H6 (e,(c,(b,(i,j))))) λ_=>True:=by
 unfold H6;rw[k,AD,bne_self_eq_false,cond_false];refine AA (vX (l:=c) h n) λw L=>?_;obtain⟨M,v,t,_,rfl,_,_,f⟩:=L;have q:M.length<=256:=by have:=f.1;rwa[BT]at this
 refine AA (P:=λ_=>True) (AC (λ_=>AB trivial) (λ_=>AB trivial)) λy _=>AA (P:=λ_=>True) (CQ (λ(s:List Y×Y)=> ∃l:V,s.2=l/\l<=M.length/\s.1.length<=l) (λs=>M.length-s.2.toNat) ⟨0,rfl,BV _,Al _⟩ ?_) λA _=>AB trivial;rintro⟨o,_⟩ ⟨l,rfl,u,k⟩;unfold Ur;dsimp[len];have m:(M.map (·.1)).length=M.length:=BT _;have p:(M.map (·.2)).length=M.length:=BT _;refine AC (λg=>?_) (λg=>An.done trivial);rw[LJ (l:=M.map (·.1)) (show l<_ by omega),AD,AY (x:=(l:Y)+1)];refine AA (P:=λ_=>True) (AC (λ_=>AC (λ_=>AB trivial) (λ_=>AB trivial)) (λ_=>AB trivial)) λz _=>AA (P:=λr=>r.length<=l+1) ?_ λr hr=>An.next ⟨l+1,rfl,o!,hr⟩ k!
 rw[LJ (l:=M.map (·.2)) (show l<_ by omega),AD];grind[AA,AGe,AB]
theorem yx{u E_ fl}{j k:V}(w:LI b a)(l:Ge a)(f:AR a e)(m:O6 a c)(Q:k<=W a)(g:0<=i/\i<e.2.1)(p:i<64)(J:ON e i u E_)(A:ti (iB e c u) k fl)(t:BZ (a.take j) i<=k):An (H8 (st (a.take j) i,e,c,(k:Y))) λr=>(fl<=BZ (a.take j) i/\r=(st (a.take k) i,0)/\An (H6 (e,c,i,BZ (a.take j) i,(k:Y))) λ_=>True)\/(¬fl<=BZ (a.take j) i/\r.2≠0):=by
 have x:=m.len;have⟨L,n,v,z⟩:=ABv l t;rw[<-v,<-z];rw[<-v]at t;have G:=Ry l i L;have H:=W8 (l.take L) i;rw[BP]at H;have⟨I,F,K,s⟩:=AJz w l f m (i:=BZ (a.take L) i) (j:=(k:Y)) G o! t g;have o:=J.uniq f.vb.1 rfl rfl K;subst o;have D_:(∀q,BZ (a.take L) i<q->q<=k->iB e c u q)↔fl<=BZ (a.take L) i:=by have⟨M,N,O,P⟩:=A;grind
 refine AA O7 λS B=>AP (λd=>O! (B.2 f.vb) (by simp[d])) (λ_=>AA Bb λT C=>AP (λd=>O! (C.2 m.vl) (by simp[d])) (λ_=>?_));rw[Yk ((Xc l ⟨g.1,p⟩ (by omega:W a<=1099511627776)) L),AD];refine AL (O! rfl ·) (λ_=>?_);dsimp only;rw[Jg,Sf,F! o!,A!];rcases s with⟨y,h⟩|⟨y,h⟩;have R:=AEK f g h;rw[h,AD];dsimp only;rw[H!,A!,show a.filter (HY i (BZ (a.take L) i) k)=((a.take k).drop L).filter (aR i) by
  rw[show BZ (a.take L) i=(((BZ (a.take L) i).toNat:V):Y) by omega,tU l o!,iC l (j:=L) o! (Uw l)],yz (rO l w ⟨g.1,p⟩ o! L k n) (by
  have:=EK (aR i) ((a.take k).drop L);rw[C5,BP]at this;omega),<-af n,AD]
 grind[AB];grind[p?,AB]
theorem yy{n d:Int}{p lo hi fl:Int}{m:Nat}{fs:List Am}(hL:LI n a)(B:Ge a)(hA:AR a e)(Q:O6 a c)(hk:l≤a.length)(hm:(m:Int)=e.2.1)(hn:1≤m∧m≤64)(h8:fs.length≤8)(hf: ∀f∈fs,FI a d m f)(hp:0≤p∧p<e.2.1)(p1:ON e p lo hi)(T:ti (iB e c lo) l fl):
  An (Kc (fs,(e,(c,(p,(l:Int)))))) λr=>(r.2.2=49/\fl≠0/\ ∀x,Sv a d m fs fs.length x->dF x p<=l-> ¬fl<=dF x p)\/(r.2.2=0/\r.1=st (a.take l) p/\(fl=0\/ ∃x,Sv a d m fs fs.length x/\dF x p<=l/\fl<=dF x p)):=by
 have ap:=Q.len;have E_:p<64:=by omega
 have pm:0<=p/\p<m:=⟨hp.1,by omega⟩
 have⟨V,hV,v8,F⟩:=AAl B (by omega) hn h8 (λf q=>.inl (hf f q));have hP: ∀x∈V,PI a d m x:=λx I=>by have⟨i,f,_,_,q⟩:=(F x).1 I;exact q.2.2.1
 have hu: ∀x∈V,∀y∈V,x.1=y.1->x=y:=λx I w hw k=>Sv.uniq B (by omega) hn ((F x).1 I) ((F w).1 hw) k;unfold Kc;dsimp only;refine AA O7 λv0 h0=>AP (λG=>absurd (h0.2 hA.vb) (by simp[G])) (λ_=>AA Bb λv1 h1=>AP (λG=>absurd (h1.2 Q.vl) (by simp[G])) (λ_=>?_));rw[decide_eq_false (by omega),cond_false,decide_eq_false (by omega),cond_false,decide_eq_false (by omega),cond_false,hV,AD];refine AA (AJi (x:=(fs,(e,(c,(p,(l:Int)))))) B (by omega) hn v8 hP pm rfl rfl) λN X_=>?_;have⟨r8,g⟩:=X_;refine AA (AZ (by rw[PL];omega)) λb Y=>?_;have ar:b.length<=9:=by grind[List.length_singleton]
 have C:=Y.1;refine AA (P:=λ(r:(Int×AS×BS)⊕ (AS×BS))=>((∃z,r= .inr z)/\ ∀y∈b,¬fl<=y.1)\/ ∃y:BS,r= .inl (0,(st (a.take l) p,y))/\(fl=0\/ ∃x,Sv a d m fs fs.length x/\dF x p<=l/\fl<=dF x p)) ?_ λr al=>?_
 ·refine CQ (λ(s:Int×AS×BS)=> ∃i:Nat,s.1=i/\i<=b.length/\ ∀y∈b.take i,¬fl<=y.1) (λs=>b.length-s.1.toNat) ⟨0,rfl,BV _,λy hy=>by simp at hy⟩ ?_;rintro⟨_,s⟩ ⟨i,rfl,i1,i2⟩;unfold Rj;dsimp[len];refine AC (λG=>?_) (λG=>An.done (.inl ⟨⟨_,rfl⟩,by rwa[BM (by omega)]at i2⟩));have v:i<b.length:=by omega
  have ad:=LJ v;have o:b[i]∈N++[(0,(0,0))]:=by grind[List.getElem_mem]
  have R: ¬fl<=b[i].1-> ∀y∈b.take (i+1),¬fl<=y.1:=λh y hy=>by grind[Ih,List.mem_singleton]
  rw[show C6 p=some (st (a.take 0) p)from rfl,AD,ad,AD,AD,AY (x:=(i:Int)+1)];simp only[AD];generalize hy:b[i]=y at o R;apply AC<;>intro t
  ·have K:y∈N:=by grind[List.mem_singleton]
   have⟨z,O,z1,S⟩:=(g y).1 K;have⟨j,hj,x1,x2,ex⟩:=hP z O;have u:dF z p=BZ (a.take j) p:=by grind[zL]
   have L:=AFa B (by omega:a.length<=1099511627776) (k:=j) ⟨x1,x2⟩ hn pm;rw[c!,<-ex]at L;have y1:y.2.1=z.1:=by rw[S]
   have y0:y.1=BZ (a.take j) p:=by rw[S,<-u]
   rw[y1,AD6 hV (by omega) hu O,AD,L,AD,y0];refine AA (yx hL B hA Q hk hp E_ p1 T (j:=j) (by rw[<-u];exact z1)) λax Z_=>?_;rcases Z_ with⟨A,rfl,W⟩|⟨A,U⟩
   ·dsimp only;rw[bne_self_eq_false,cond_false];exact AA W λa0 _=>An.done (.inr ⟨_,rfl,.inr ⟨z,(F z).1 O,z1,by rw[u];exact A⟩⟩)
   ·exact AL (λ_=>An.next ⟨i+1,rfl,v,R (by rw[y0];exact A)⟩ (by dsimp only;omega)) (λh=>absurd h U)
  ·have J:y=(0,(0,0)):=by rcases Ak.1 o with q|q;have⟨z,O,z1,S⟩:=(g y).1 q;have⟨j,hj,x1,x2,ex⟩:=hP z O;rw[S]at t;exact absurd (Int.lt_of_lt_of_le (by decide) x1) t;exact A5.1 q
   have l0:BZ (a.take 0) p=0:=rfl;refine AA (yx hL B hA Q hk hp E_ p1 T (j:=0) (by rw[l0];omega)) λa1 D_=>?_;rw[J];rw[J]at R;rw[l0]at D_;rcases D_ with⟨A,rfl,W⟩|⟨A,U⟩
   ·dsimp only;rw[bne_self_eq_false,cond_false];exact AA W λa2 _=>An.done (.inr ⟨_,rfl,.inl (by have:=T.1;omega)⟩)
   ·exact AL (λ_=>An.next ⟨i+1,rfl,v,R A⟩ (by dsimp only;omega)) (λh=>absurd h U)
 rcases al with⟨⟨z,rfl⟩,H⟩|⟨y,rfl,M⟩;refine Ay (AB (.inl ⟨rfl,λk=>?_,λx I ao=>?_⟩));have:=H (0,(0,0)) (by rw[C];simp);dsimp only at this;omega;exact H (dF x p,(x.1,dF x p)) (by rw[C];exact GU _ ((g _).2 ⟨x,(F x).2 I,ao,rfl⟩));exact BF (AB (.inr ⟨rfl,rfl,M⟩))
theorem ADo{b:AT}(h:CX b):An (Lw b ()) λr=>1<=r.1/\r.1<=4/\r.2.1.2.1=r.1/\AR r.2.2.2.1.2.1 r.2.1/\RC r.2.1 10/\O6 r.2.2.2.1.2.1 r.2.2.1/\Ge r.2.2.2.1.2.1/\r.2.2.1.1+r.2.2.1.2.1.length-1=r.2.2.2.1.2.1.length/\r.2.2.2.1.2.2=r.2.2.2.1.2.1.length/\CX r.2.2.2.2.2/\r.2.2.2.2.1.length<=8/\(∃m:Nat,(m:Int)=r.1/\ ∀f∈r.2.2.2.2.1,FI r.2.2.2.1.2.1 r.2.2.2.1.2.2 m f)/\Dh r.2.2.2.1/\r.2.2.2.1.1=1/\r.2.1.2.2.2.1<=r.2.2.2.1.2.1.length+1/\ ∃n,LI n r.2.2.2.1.2.1:=by
 unfold Lw;refine AA ((lO h (x:=25) o!).and (AAn h (x:=25) o!)) λa E_=>?_;have⟨⟨c0,w,Q,c,n,v⟩,D_,o⟩:=E_;refine AA (AAg (x:=(a.1,a.2.1)) c0 ⟨w,d!⟩ c) λy F=>?_;have⟨z,j,T,⟨kc,J,K⟩,U,R,B,_⟩:=F;dsimp only at j R B;have t:=c.2.2.1;have q:=c.num o;have⟨x1,x2,x3,x4,x5,x6⟩:=id c;have I:RC y.1 10:=λO=>Cl (J O) o!;have y3:=j.vb.2.1;have y4:=j.vb.2.2.1;have⟨m,u⟩:=EG (show 0<=a.1 by omega);have C:a.2.1.2.2=a.2.1.2.1.length:=o!
 have l:(m:Int)=a.1:=u.symm;refine AA (P:=λr=>CX r.2/\r.1.length<=8/\ ∀f∈r.1,FI a.2.1.2.1 a.2.1.2.2 m f) (by rw[u];exact AEB z v q j (Te c) o! o! o!) λv2 G=>?_;have⟨A,M,N⟩:=G;refine AA (Ah A (x:=2) o!) λv3 p=>AA (P:=λ(r:AT×Ac)=>CX r.1/\O6 a.2.1.2.1 r.2/\r.2.2.2=a.2.1.2.2/\r.2.1+r.2.2.1.length-1=a.2.1.2.1.length) ?_ λv6 k=>?_;refine AO (λ_=>AA (Ah p.1 o!) λS H=>?_) (λ_=>AB ⟨p.1,Te c,rfl,d!⟩);have⟨q1,q2,q3⟩:=H;rw[AY (x:=1+S.1)];refine AA (AJx c D_ o! o! o!) λg d=>AB ⟨q1,d.1,d.2.2,?_⟩;have W:=d.1.vl.2.2.2.2.1;have X_:=d.2.2;have Y:=d.2.1;have L:g.1.1+g.1.2.1.length-1<=a.2.1.2.1.length:=by by_cases hz:g.1.2.1.length=0;omega;have s:=Au (show g.1.2.1.length-1<g.1.2.1.length by omega);have Z_:=(d.1.vl.2.2.2.2.2 _ _ s).1;have⟨i,hi⟩:=DW ((d.1.tail _).1 (BO s)).1;grind[Cs]
 dsimp only;omega;refine AA (Ah k.1 (x:=3) o!) λv7 h7=>AA (P:=λ(r:AT×AJ)=>CX r.1/\AR a.2.1.2.1 r.2/\RC r.2 10/\r.2.2.1=a.1/\r.2.2.2.2.1<=a.2.1.2.1.length+1) ?_ λv9 e=>?_;have V:y.1.2.2.2.1<=a.2.1.2.1.length+1:=o!
 grind[AO,AA,ACw,AB];exact AB ⟨w,Q,e.2.2.2.1,e.2.1,e.2.2.1,k.2.1,q,k.2.2.2,C,e.1,M,⟨m,l,N⟩,c,o,e.2.2.2.2,n,v⟩
def AKR{b}{z:BS}(k:CX b)(o:W z.2.2.2.2.1<=12):An (OC b z) λr=>CX r.2/\W r.1.2.2.2.2.1<=19:=by
 unfold OC;refine AA (AZ (by rw[Bi];omega)) λp f=>AA (Ah k g!) λy c=>?_;have u:W p<=12:=by rw[f.1,B5];exact o
 have a:=λ(x:Y)(n:x<=4611686018427387904)=>Ah c.1 n;refine AO (λ_=>AA (a _ g!) λv h=>AB ⟨h.1,d!⟩) (λ_=>AO (λ_=>AA (a _ g!) λv h=>AB ⟨h.1,d!⟩) (λ_=>AO (λ_=>AA (a _ g!) λv h=>AB ⟨h.1,d!⟩) (λ_=>AO (λ_=>AA (a _ g!) λv h=>AB ⟨h.1,d!⟩) (λ_=>AO (λ_=>AA (a _ g!) λv h=>AB ⟨h.1,d!⟩) (λ_=>AO (λ_=>AA (a _ g!) λv h=>AB ⟨h.1,d!⟩) (λ_=>AO (λ_=>AC (λl=>?_) (y? ⟨c.1,d!⟩)) (λ_=>?_)))))));dsimp only[len]at l⊢;refine AA (a _ o!) λs j=>?_;have⟨q1,q2,q3⟩:=j;rw[C! rfl,AY (x:=s.1+1)];refine AA (BU (Ae _)) λA t=>AA (BU o! o! (Ae _)) λq g=>AA (AZ o!) λd i=>?_;have e:W d<=19:=o!
 exact AK (y? ⟨q1,e⟩) (y? ⟨q1,e⟩);refine AO (λ_=>AA (a _ g!) λv h=>AA (AZ (by rw[PL];omega)) λw m=>AB ⟨h.1,?_⟩) (y? ⟨c.1,d!⟩);have:=m.2.1;rw[PL]at this;dsimp only;omega
def oZ{x:Ψ Int}(h:∀c∈x,0<=c/\c<256):An (Is x) λr=>r=E:=by
 unfold Is;rw[AGh,AD,Bn,A!];refine AA (AEg h) λv2 Q=>AA (ADo Q) λo h3=>?_;obtain⟨s1,s2,s3,Y,s5,I,J,s8,s9,W,v,⟨m,hm,y⟩,H,ap,X_,n,G⟩:=h3;have ad:=I.len;refine AA (AAo (L:=o.2.2.2.1.2.1) (x:=(o.1,[0])) ⟨s1,d!,u!,u!,rfl,λi a b hi u hb=>by simp at u hb,λa u=>by simp at u;omega⟩) λv4 h4=>?_;obtain⟨z1,_,_,_,z5,_⟩:=h4;dsimp only at z5;have l:1<=m/\m<=64:=o!
 have u:=hm.trans s3.symm;refine AA (P:=λr=>∃c,r=.inr c) ?_ λr hr=>by obtain⟨c,rfl⟩:=hr;exact Ay (AB rfl)
 refine CQ (λs=>0<=s.1/\CX s.2) (λs=>(6-s.1).toNat) ⟨Ae _,W⟩ ?_;rintro⟨i,c⟩ ⟨i0,cc⟩;dsimp only at i0 cc;unfold LW;dsimp only;refine AC (λhc=>?_) (λ_=>k? ⟨_,rfl⟩);refine AA (Ah cc o!) λZ_ h6=>AA Fl λv7 h7=>?_;have h7:=h7 H;have⟨c6,m6,k6⟩:=h6;rw[AY (x:=v7+1),AY (x:=i+1)];refine AA (Ah c6 o!) λv8 h8=>?_;have⟨c8,m8,k8⟩:=h8;obtain⟨k,hk⟩:=EG m8;rw[hk];have C:k<=θ o.2.2.2.1.2.1:=o!
 obtain⟨lo,hi,fl,p1,f1,q⟩:=wI G J Y I s5 g! C u l v (λf q=>.inl (y f q)) (p:=Z_.1) ⟨m6,o!⟩;unfold Lj;refine AA (P:=λr=>r.2=49\/(r.2=0/\xa o.2.2.2.1.2.1 o.2.2.2.1.2.2 m o.2.2.2.2.1 o.2.1 o.2.2.1 Z_.1 k fl r.1)) (AA q λr hr=>AB (hr.imp (·.1) λw=>⟨w.1,w.2.2⟩)) λv9 h9=>AL (λ_=>y! ⟨d!,c8⟩ d!) (λe9=>?_);have hz:=(h9.resolve_left o!).2;have⟨E_,U,V,_⟩:=AJX G J Y I s5 g! C u l v y (p:=Z_.1) ⟨m6,o!⟩ p1 f1 hz;refine AA (AKR c8 (by rw[<-U,BT];exact V)) λg t=>AA (AD9 G J Y X_ I u l v y (z:=g.1) t.2) λar N=>AL (λ_=>y! ⟨d!,t.1⟩ d!) (λK=>?_);obtain⟨S,k',R,D_,e⟩:=N K;rw[R];have hw:=Te H;have F:0<=g.1.1/\g.1.1<v4.1.2.1:=⟨S.1,o!⟩
 obtain⟨ao,al,B,T,A,_,_⟩:=qA (p:=g.1.1) (i:=0) (j:=(k':Int)) (CPa 4096) g! G o! (Ae _) o! o! z1 hw F;have M:B=0:=by obtain⟨a1,a2,a3,a4⟩:=A;rcases a4 with a4|a4;exact a4;by_cases hf:B=0;exact hf;exact O! (.inl o!) a4
 refine AA (yy (fs:=[]) (d:=0) G J z1 hw D_ (hm.trans z5.symm) l g! (λf q=>by cases q) (p:=g.1.1) F T A) λax O=>?_;rcases O with⟨_,q1,_⟩|⟨q0,q1,_⟩;exact O! M q1
 ·rw[q0,H!,A!,e,q1,xH,Bn,A!];exact y! ⟨d!,t.1⟩ d!
end Go.Pm
namespace Go.Proofs.YtdbincbpjobdpaaGreat
open Go.RowKit Go.Ab Go.Pm
def ACC:∃j,Tryz.prog.info? 301=Z j/\j.size=2:=by
 have h:(Tryz.prog.info? 301).map (·.size)=Z 2:=h!
 exact Tu.1 h
def AGm:liesAt Tryz.prog Tryz.prog.depth 301 (2/Tryz.prog.cellsOf 301) 0 301 1=E:=h!
def vo(b:V)(w:World)(d:w.cell? ⟨b,0,D⟩=Z (.pointer (Z ⟨b,0,D⟩))):
  Calls Tryz.prog 276 #[.pointer (Z ⟨b,0,D⟩)] w λe c=>e=.returned (.tuple #[])/\c=w:=by
 obtain⟨j,a,_⟩:=ACC;go_enter Tryz.func276,Tryz.ntmps276;go_wp2;rw[Lib.run_neq_ptr_same w _ Tryz.underlying299 a];go_wp2;go_end0;exact⟨rfl,rfl⟩
def kM(b:V)(w:World)(h:w.cell? ⟨b,0,D⟩=Z (.pointer D))(a:w.shape? b=Z (301,2))(f:w.frozen? ⟨b,0,D⟩=X):
  Calls Tryz.prog 276 #[.pointer (Z ⟨b,0,D⟩)] w λe g=>e=.returned (.tuple #[])/\g=w.setCell ⟨b,0,D⟩ (.pointer (Z ⟨b,0,D⟩)):=by
 obtain⟨j,d,c⟩:=ACC;go_enter Tryz.func276,Tryz.ntmps276;go_wp2;rw[Lib.run_to_unsafe w ⟨b,0,D⟩ Tryz.underlying299 Tryz.underlying388 d (by rw[c];decide) a (Nat.zero_lt_succ 1)];simp only[Result.andThen];rw[Oper.upon_value];go_wp2;rw[run_callFunc_extern Tryz.func308 h! h! h! (e:=Extern.AbiNoEscape.same) h!];rw[Lib.run_noEscape];simp only[Result.andThen];rw[Oper.upon_value];go_wp2;rw[Lib.run_from_unsafe w ⟨b,0,D⟩ Tryz.underlying388 Tryz.underlying299 d a AGm];simp only[Result.andThen];rw[Oper.upon_value];go_wp2;go_end0;exact⟨rfl,rfl⟩
def zK(B b:V)(bs:S Value)(w:World)(h:Lib.IsBuilderF 301 5 B b bs w):
  Calls Tryz.prog 276 #[.pointer (Z ⟨b,0,D⟩)] w λe a=>e=.returned (.tuple #[])/\Lib.BuilderAtF 301 5 B b (.pointer (Z ⟨b,0,D⟩)) bs a/\Below B w a:=by
 rcases h with h|h;apply (kM b w h.cell0 h.shape h.frozen0).mono;rintro e a ⟨rfl,rfl⟩;exact⟨rfl,h.used _,(Below.refl B w).setCell (p:=⟨b,0,D⟩) h.1 _⟩;apply (vo b w h.cell0).mono;rintro e a ⟨rfl,rfl⟩;exact⟨rfl,h,Below.refl B _⟩
def ACB:∃i,Tryz.prog.info? 5=Z i/\i.zero=Z (.int .u8 0)/\i.size=1/\i.bytes=1:=by
 have h:(Tryz.prog.info? 5).map (λi=>(i.zero,i.size,i.bytes))=Z (Z (.int .u8 0),1,1):=h!
 obtain⟨i,b,a⟩:=Tu.1 h;simp only[Eh]at a;exact⟨i,b,a.1,a.2.1,a.2.2⟩
variable {d l:Nat}
def uH{p}{bs}{w}(h:Lib.BuilderAtF 301 5 d l p bs w):∃v,w.heap[l]?=Z (.cells #[p,v] 301 (0,0))/\w.cell? ⟨l,1,D⟩=Z v/\w.ownsRowF d 5 1 v (W bs) bs/\v.ownBlock≠Z l:=by obtain⟨e,v,a,c,B⟩:=h;exact⟨v,a,by rw[Lib.cell_of_heap a];rfl,c,B⟩
def AIw(B b:V)(bs:S Value)(w:World)(h:Lib.IsBuilderF 301 5 B b bs w):
  Calls Tryz.prog 219 #[.pointer (Z ⟨b,0,D⟩)] w λe l=>e=.returned (.int .i64 (W bs))/\l=w:=by
 obtain⟨p,j⟩:∃p,Lib.BuilderAtF 301 5 B b p bs w:=h.elim (λh=>⟨_,h⟩) (λh=>⟨_,h⟩);obtain⟨v,k,m,a,_⟩:=uH j;obtain⟨d,cap,rfl⟩:∃d cap,v=.slice d (W bs) cap:=by rcases a.2 with⟨c,i⟩|⟨g,cap,f,n,c,_⟩;exact⟨D,0,by rw[c,i]⟩;exact⟨_,_,c⟩
 go_enter Tryz.func219,Tryz.ntmps219
 go_wp2
 go_ret
 exact⟨rfl,rfl⟩
def xi(B b:V)(bs:Ψ Value)(c:Y)(w:World)(h:Lib.IsBuilderF 301 5 B b bs w)(C:W bs+1≤140737488355328)(H:B≤w.heap.size):
  Calls Tryz.prog 215 #[.pointer (Z ⟨b,0,D⟩),.int .u8 c] w λe E_=>e=.returned .nilIface/\Lib.BuilderAtF 301 5 B b (.pointer (Z ⟨b,0,D⟩)) (bs++[.int .u8 c]) E_/\Below B w E_:=by
 obtain⟨M,I,t,x,y⟩:=ACB;go_enter Tryz.func215,Tryz.ntmps215;go_wp2_with (go_at_call 276;apply (zK B b bs _ h).mono)
 rintro e F ⟨rfl,m,l⟩;have A:=m.1;have r:=m.lt;have c0:=m.cell0;obtain⟨v,q,z,i,s⟩:=uH m;have K:=l.size;go_wp2_with (at_builtin;apply wpList_append_ownF _ rfl _ _ 22 rfl B 5 M (.int .u8 0) 1 1 Tryz.underlying22 I t x y rfl g! _ _ _ rfl (i.alloc _) ⟨F.heap.size,0,D⟩ 1 1 [.int .u8 c] rfl rfl ?z ?c2 ?c3 ?c4 ?c5)
 case z=>
  intro j u n;match j,n with
  |0,n=>simp at n;subst n;simp[Addr.add]
 case c2=>intro u D_;simp at D_;subst D_;rfl
 case c3=>unfold maxLen;omega
 case c4=>omega
 case c5=>simp;omega
 intro N o d a _;have f:o.heap[b]?=Z (.cells #[.pointer (Z ⟨b,0,D⟩),v] 301 (0,0)):=by rw[a.block b w! (s ·.symm),Lib.alloc_old F _ b r];exact q
 have O:o.cell? ⟨b,0,D⟩=Z (.pointer (Z ⟨b,0,D⟩)):=by rw[Lib.cell_of_heap f];rfl
 have P:o.cell? ⟨b,1,D⟩=Z v:=by rw[Lib.cell_of_heap f];rfl
 have Q:o.frozen? ⟨b,1,D⟩=X:=Lib.frozen_of_heap f 1;obtain⟨g,cap,rfl⟩:∃g cap,N=.slice (Z ⟨g,0,D⟩) (W bs+1) cap:=by rcases d.2 with⟨_,S⟩|⟨g,cap,G,R,L,_⟩;omega;exact⟨g,cap,L⟩
 go_wp2
 go_ret
 refine⟨rfl,?_,?_⟩;exact Lib.BuilderAtF.put (T:=301) (e:=5) A f (bs':=bs++[.int .u8 c]) (by simpa using d) g!;exact((l.alloc o! _).grown a w! (λk J=>(i.lt k J).1)).setCell (p:=⟨b,1,D⟩) A _
def Yx(B b:V)(bs:S Value)(s:ByteArray)(w:World)(h:Lib.IsBuilderF 301 5 B b bs w)(z:W bs+s.size≤140737488355328)(E_:B≤w.heap.size):
  Calls Tryz.prog 214 #[.pointer (Z ⟨b,0,D⟩),.string s] w λe C=>e=.returned (.tuple #[.int .i64 s.size,.nilIface])/\Lib.BuilderAtF 301 5 B b (.pointer (Z ⟨b,0,D⟩)) (bs++Lib.strCells s) C/\Below B w C:=by
 obtain⟨I,F,r,t,u⟩:=ACB;go_enter Tryz.func214,Tryz.ntmps214;go_wp2_with (go_at_call 276;apply (zK B b bs _ h).mono)
 rintro e P ⟨rfl,j,i⟩;have y:=j.1;have n:=j.lt;have c0:=j.cell0;obtain⟨v,m,K,f,o⟩:=uH j;have H:=i.size;go_wp2_with (at_builtin;apply Lib.wpList_append_own_stringF _ rfl _ _ 22 9 rfl B 5 I Tryz.underlying22 Tryz.underlying9 F r t u _ _ _ rfl f s rfl ?c3 ?c4 ?c5)
 case c3=>unfold maxLen;omega
 case c4=>omega
 case c5=>omega
 intro J l c a _;have d:l.heap[b]?=Z (.cells #[.pointer (Z ⟨b,0,D⟩),v] 301 (0,0)):=by rw[a.block b n (o ·.symm)];exact m
 have L:l.cell? ⟨b,0,D⟩=Z (.pointer (Z ⟨b,0,D⟩)):=by rw[Lib.cell_of_heap d];rfl
 have M:l.cell? ⟨b,1,D⟩=Z v:=by rw[Lib.cell_of_heap d];rfl
 have N:l.frozen? ⟨b,1,D⟩=X:=Lib.frozen_of_heap d 1;obtain⟨x,A,cap,rfl⟩:∃x A cap,J=.slice x A cap:=by rcases c.2 with⟨q,_⟩|⟨g,cap,D_,O,q,_⟩;exact⟨_,_,_,q⟩;exact⟨_,_,_,q⟩
 go_wp2
 go_ret2
 refine⟨rfl,?_,?_⟩;exact Lib.BuilderAtF.put (T:=301) (e:=5) y d (bs':=bs++Lib.strCells s) (by simpa[Lib.strCells_length]using c) g!;exact(i.grown a o! (λk G=>(f.lt k G).1)).setCell (p:=⟨b,1,D⟩) y _
def wT(B b:V)(l:S UInt8)(w:World)(h:Lib.IsBuilderF 301 5 B b (Lib.byteCells l) w)(y:l≠ []):
  Calls Tryz.prog 216 #[.pointer (Z ⟨b,0,D⟩)] w λe z=>e=.returned (.string ⟨l.toArray⟩)/\Lib.IsBuilderF 301 5 B b (Lib.byteCells l) z/\Below B w z:=by
 obtain⟨p,K,k⟩:∃p,(p=.pointer D\/p=.pointer (Z ⟨b,0,D⟩))/\Lib.BuilderAtF 301 5 B b p (Lib.byteCells l) w:=h.elim (λh=>⟨_,.inl rfl,h⟩) (λh=>⟨_,.inr rfl,h⟩);obtain⟨D_,v,i,c,t⟩:=k;have s:W l≠0:=by simpa using y
 rw[Lib.byteCells_length]at c;obtain⟨g,cap,a,f,rfl,n,I,H,J,o,G,u⟩:∃g cap a f,v=.slice (Z ⟨g,0,D⟩) (W l) cap/\B<=g/\w.heap[g]?=Z (.cells a 5 f)/\f.2<=W l*1/\W l<=cap/\cap<=maxLen/\a.size=cap*1/\a.toList.take (W l*1)=Lib.byteCells l:=by rcases c.2 with⟨_,N⟩|⟨g,cap,a,f,L,r⟩;exact O! N s;exact⟨g,cap,a,f,L,r⟩
 have A:w.drew.cell? ⟨b,1,D⟩=Z (.slice (Z ⟨g,0,D⟩) (W l) cap):=by have:w.drew.heap[b]?=Z (.cells #[p,.slice (Z ⟨g,0,D⟩) (W l) cap] 301 (0,0)):=i;rw[Lib.cell_of_heap this];rfl
 have E_:(Builtin.unsafeSliceData_ #[22] 358 #[.slice (Z ⟨g,0,D⟩) (W l) cap]).run Tryz.prog w.drew=.ok (.pointer (Z ⟨g,0,D⟩)) w.drew:=Lib.run_unsafeSliceData_row _ _ _ _ _ _ o!;have F:(Builtin.unsafeString_ #[358,3] 9 #[.pointer (Z ⟨g,0,D⟩),.int .i64 (W l)]).run Tryz.prog w.drew=.ok (.string ⟨l.toArray⟩) (w.drew.freeze ⟨g,0,D⟩ (W l)):=by apply Lib.run_unsafeString_row w.drew 358 3 9 5 Tryz.underlying358 h! g a.size (by have q:w.drew.heap[g]?=Z (.cells a 5 f):=I;simp[World.shape?,q]) l y o! (by unfold maxLen at o;omega);intro j x M;exact c.cells (g:=g) rfl j (.int .u8 x.toNat) (by simp[Lib.byteCells,M])
 have d:Lib.IsBuilderF 301 5 B b (Lib.byteCells l) (w.drew.freeze ⟨g,0,D⟩ (W l)):=by
  have C:Lib.BuilderAtF 301 5 B b p (Lib.byteCells l) w.drew:=⟨D_,_,i,by rw[Lib.byteCells_length];exact c,t⟩
  have m:=C.froze (g:=g) (cap:=cap) (by rw[Lib.byteCells_length];exact A);rw[Lib.byteCells_length]at m;rcases K with rfl|rfl;exact .inl m;exact .inr m
 go_enter Tryz.func216,Tryz.ntmps216
 go_wp2
 go_region
 all_goals (go_wp2;go_ret;exact⟨rfl,d,Lib.below_freeze (Below.drew (Below.refl B w)) (p:=⟨g,0,D⟩) n _⟩)
set_option maxRecDepth 1000000 in
def AEb(B b n:V)(w:World)(p:B≤b)(a:w.heap[b]?=Z (.cells #[.pointer (Z ⟨b,0,D⟩),.slice D 0 0] 301 (0,0)))(j:B≤w.heap.size)(hn:n≤281474976710656):
  Calls Tryz.prog 279 #[.pointer (Z ⟨b,0,D⟩),.int .i64 n] w λe o=>e=.returned (.tuple #[])/\Lib.BuilderAt 301 5 B b (.pointer (Z ⟨b,0,D⟩)) [] o/\Below B w o:=by
 obtain⟨c,h,q,g⟩:=Lib.run_makeNoZero (P:=Tryz.prog) w.drew #[3] 22 5 Tryz.underlying22 n hn;have m:IntKind.i64.wrap (IntKind.i64.wrap 0+(n:Y))=n:=by rw[IntKind.wrap_i64,IntKind.wrap_i64];omega
 have k:(callFunc 309 #[.int .i64 (IntKind.i64.wrap (IntKind.i64.wrap 0+(n:Y)))]).run Tryz.prog w.drew=.ok (.value (.slice (Z ⟨w.drew.heap.size,0,D⟩) n c.size)) (w.drew.drew.drew.alloc (.cells c 5)):=by rw[m,run_callFunc_extern Tryz.func309 h! h! h! (e:=Extern.BytealgMakeNoZero.makeNoZero #[3] #[22]) h!,h];rfl
 have f:b<w.heap.size:=by rcases A0 b w.heap.size with i|i;exact i;simp[uE i]at a
 have r:w.drew.cell? ⟨b,1,D⟩=Z (.slice D 0 0):=by have:w.drew.heap[b]?=_:=a;rw[Lib.cell_of_heap this];rfl
 have s:(w.alloc (.cells c 5)).cell? ⟨b,1,D⟩=Z (.slice D 0 0):=by have:(w.alloc (.cells c 5)).heap[b]?=_:=(Lib.alloc_old w _ b f).trans a;rw[Lib.cell_of_heap this];rfl
 have t:(w.alloc (.cells c 5)).frozen? ⟨b,1,D⟩=X:=Lib.frozen_of_heap ((Lib.alloc_old w _ b f).trans a) 1;have l:∀W:World,(Builtin.copy_ #[22,22] 3 #[.slice (Z ⟨w.heap.size,0,D⟩) 0 c.size,.slice D 0 0]).run Tryz.prog W=.ok (goInt 0) W:=λW=>run_copy_none W 22 22 3 5 _ _ 0 c.size 0 0 Tryz.underlying22 h! rfl;clear m;have d:=Lib.grown_fresh (T:=301) (e:=5) (cs:=c) p a j (g (by unfold maxLen;omega)) g!;rw[World.setCell_alloc_past _ _ _ _ f]at d;go_enter Tryz.func279,Tryz.ntmps279;go_wp2;go_region;all_goals (go_wp2;go_end0;exact⟨rfl,d⟩)
set_option maxRecDepth 1000000 in
def AGl(B b n:V)(w:World)(g:B≤b)(c:w.heap[b]?=Z (.cells #[.pointer D,.slice D 0 0] 301 (0,0)))(h:B≤w.heap.size)(hn:n≤281474976710656):
  Calls Tryz.prog 218 #[.pointer (Z ⟨b,0,D⟩),.int .i64 n] w λe f=>e=.returned (.tuple #[])/\Lib.BuilderAt 301 5 B b (.pointer (Z ⟨b,0,D⟩)) [] f/\Below B w f:=by
 have a:(w.setCell ⟨b,0,D⟩ (.pointer (Z ⟨b,0,D⟩))).heap[b]?=Z (.cells #[.pointer (Z ⟨b,0,D⟩),.slice D 0 0] 301 (0,0)):=by simp[World.setCell,cq,c]
 have i:(w.setCell ⟨b,0,D⟩ (.pointer (Z ⟨b,0,D⟩))).cell? ⟨b,1,D⟩=Z (.slice D 0 0):=by rw[Lib.cell_of_heap a];rfl
 have d:Below B w (w.setCell ⟨b,0,D⟩ (.pointer (Z ⟨b,0,D⟩))):=(Below.refl B w).setCell (p:=⟨b,0,D⟩) g _;have m:Lib.BuilderAt 301 5 B b (.pointer (Z ⟨b,0,D⟩)) [] (w.setCell ⟨b,0,D⟩ (.pointer (Z ⟨b,0,D⟩))):=⟨g,.slice D 0 0,a,World.ownsRow_nil _ _ _ _,by simp[Value.ownBlock]⟩
 have j:(w.setCell ⟨b,0,D⟩ (.pointer (Z ⟨b,0,D⟩))).drew.cell? ⟨b,1,D⟩=Z (.slice D 0 0):=i;go_enter Tryz.func218,Tryz.ntmps218;go_wp2_with (go_at_call 276;apply (kM b w (by rw[Lib.cell_of_heap c];rfl) (by simp[World.shape?,c]) (Lib.frozen_of_heap c 0)).mono;rintro e f ⟨rfl,rfl⟩)
 go_region
 all_goals go_wp2_with (go_at_call 279;apply (AEb B b n (w.setCell ⟨b,0,D⟩ (.pointer (Z ⟨b,0,D⟩))).drew g a (by simpa[World.setCell,World.drew,-World.drew_eq]using h) hn).mono;rintro e f ⟨rfl,k,l⟩)
 all_goals first
  |(go_end0;exact⟨rfl,k,d.drew.trans l⟩)
  |(go_end0;exact⟨rfl,m.drew,d.drew⟩)
end Go.Proofs.YtdbincbpjobdpaaGreat
