import Derived.Test.YtdbincbpjobdpaaGreatK10
import Derived.Test.YtdbincbpjobdpaaGreatProg
import Derived.Lib.Builder
import Derived.Lib.FrozenHead
import Derived.Lib.FrozenHead2
import Derived.Lib.AppendStr
import Derived.Lib.UnsafeStr
import Derived.Lib.Repeat
import Derived.Lib.RepeatB
import Derived.Lib.Walk
import Derived.WalkKit
import Derived.Laws.Externs
import Derived.Shelf.RegionOpenPlain
import Derived.Lib.MakeNoZero
import Derived.Laws.IdiomCopy
import Derived.Deep.LoopGhost
import Derived.Deep.DeepCutAuto
import Derived.Deep.DeepFit
import Derived.Deep.CutBlock
noncomputable section
set_option linter.all false
set_option maxHeartbeats 2000000
set_option maxRecDepth 100000
open Option renaming some->Y
open List renaming length->W
open Go renaming Ψ->S
open Bool renaming false->X
open Bool renaming true->E
open Option renaming none->D
open Go renaming Ω->Z
open Option renaming some->δ,none->ε,bind->σ
open Bool renaming true->ζ,false->η
open List renaming length->θ
open Sum renaming elim->ν
open Int renaming toNat->ο
open Decidable renaming decide->τ
open _root_ renaming Int->V,List->U
namespace Go.Pm
open Go Go.Ab
noncomputable section

end
variable {a:S EN}{b i j n:Int}{c:Aa}{d l:Nat}{e:AJ}{f:S Am}{g:S AS}{h:Type}{k:S Int}{m:S Aq}
theorem J8{a:Type}{l:U a}{i:Nat}(h:i<l.length):l.take (i+1)=l.take i++[l[i]]:=by grind[List.take_add_one]
theorem ve{x:A3×BO}(h:x.1.2.2.length<=4096):Ag (Gr x) (0,[])=some (x.1.2.2.filter (HW x.2.1 x.2.2.2.1 x.2.2.2.2.1)):=by
 suffices l:Ao (Ag (Gr x) (0,[])) λr=>r=x.1.2.2.filter (HW x.2.1 x.2.2.2.1 x.2.2.2.2.1) by obtain⟨r,hr,rfl⟩:=l;exact hr
 refine CQ (λ(s:V×U AE)=> ∃j:Nat,s.1=j/\j<=x.1.2.2.length/\s.2=(x.1.2.2.take j).filter (HW x.2.1 x.2.2.2.1 x.2.2.2.2.1)) (λs=>x.1.2.2.length-s.1.toNat) ⟨0,rfl,BU _,rfl⟩ ?_;rintro⟨_,o⟩ ⟨j,rfl,n,b⟩;dsimp only at b;unfold Gr;dsimp[len];refine AC (λk=>?_) (λk=>Ao.done (by rw[BN o!]at b;exact b));have a:j<x.1.2.2.length:=o!
 rw[Ln a,AD,vH,AD,AY (x:=(j:V)+1)];have c:HW x.2.1 x.2.2.2.1 x.2.2.2.2.1 x.1.2.2[j]=false-> ∃i:Nat,((j:V)+1,o).1=i/\i<=x.1.2.2.length/\((j:V)+1,o).2=(x.1.2.2.take i).filter (HW x.2.1 x.2.2.2.1 x.2.2.2.2.1):=λm=>⟨j+1,rfl,a,by rw[J8 a,GL,Mu,m];simpa using b⟩
 have p:o.length<=4096:=k!
 refine AK (λd=>AP (λe=>AC (λf=>?_) (λf=>Ao.next (c ?_) d!)) (λe=>Ao.next (c ?_) d!)) (λd=>Ao.next (c ?_) d!)
 ·refine AA (P:=λr=>r=(x.1.2.2.take (j+1)).filter (HW x.2.1 x.2.2.2.1 x.2.2.2.2.1)) (AC (λg=>?_) (λg=>AB ?_)) λr hr=>Ao.next ⟨j+1,rfl,a,hr⟩ d!
  grind[AA,Ac,List.length_singleton,AB,J8,HW];grind[J8,HW]
 grind[HW];grind[HW];grind[HW]
theorem AGB{x:A3×BO}(h:x.1.2.2.length<=4096):OI x=some (x.1.2.2.filter (HW x.2.1 x.2.2.2.1 x.2.2.2.2.1)):=by grind[OI,ve]
def oW(s:A3)(e:EN):Bool:=decide (s.1<=e.1)&&decide (e.1<=s.2.1)
theorem AIF{x:A3×A3×BO}(h:a.length<=4096):(Option.bind (Ag (JL x a) 0) λE_=>Sum.elim (λv=>bif (v==(-1))then some a else Option.bind (Ag (JM x) ((wi (v+1)),(v,a))) λc=>Option.bind (wD c.2 c.1 (0,(0,(0,(0,(0,(0,((0,(0,((false,[]),(false,[])))),[])))))))) λm=>Option.bind (T6 m 0 c.1) λf=>some f) (λD_=>some a) E_)=some (a.filter (oW x.2.1)):=by
 suffices I:Ao (Option.bind (Ag (JL x a) 0) λE_=>Sum.elim (λv=>bif (v==(-1))then some a else Option.bind (Ag (JM x) ((wi (v+1)),(v,a))) λc=>Option.bind (wD c.2 c.1 (0,(0,(0,(0,(0,(0,((0,(0,((false,[]),(false,[])))),[])))))))) λm=>Option.bind (T6 m 0 c.1) λf=>some f) (λD_=>some a) E_) λr=>r=a.filter (oW x.2.1) by obtain⟨r,hr,rfl⟩:=I;exact hr
 refine AA (P:=λ(r:V ⊕ Unit)=>(∃i:Nat,r= .inl (i:V)/\ ∃C:i<a.length,(a.take i).filter (oW x.2.1)=a.take i/\oW x.2.1 a[i]=false)\/(r= .inr ()/\a.filter (oW x.2.1)=a)) ?_ λr hr=>?_
 ·refine CQ (λ(t:V)=> ∃i:Nat,t=i/\i<=a.length/\(a.take i).filter (oW x.2.1)=a.take i) (λt=>a.length-t.toNat) ⟨0,rfl,BU _,rfl⟩ ?_;rintro _ ⟨i,rfl,C,j⟩;unfold JL;dsimp[len];refine AC (λA=>?_) (λA=>Ao.done (.inr ⟨rfl,by rwa[BN o!]at j⟩));have e:i<a.length:=o!
  rw[Ln e,AD,AD,AY (x:=(i:V)+1)];refine AC (λg=>Ao.done (.inl ⟨i,rfl,e,j,?_⟩)) (λH=>AC (λg=>Ao.done (.inl ⟨i,rfl,e,j,?_⟩)) (λo=>Ao.next ⟨i+1,rfl,e,?_⟩ o!));grind[oW];grind[oW];grind[J8,oW]
 ·rcases hr with⟨i,rfl,C,j,L⟩|⟨rfl,j⟩
  ·apply BF;rw[beq_eq_false_iff_ne.2 o!,cond_false,AY (x:=(i:V)+1)];refine AA (P:=λ(r:V×U EN)=> ∃w:Nat,r.1=w/\w<=a.length/\r.2.length=a.length/\r.2.take w=a.filter (oW x.2.1)) ?_ λr hr=>?_
   ·refine CQ (λ(s:V×(V×U EN))=> ∃n w:Nat,s.1=n/\s.2.1=w/\n<=a.length/\w<n/\s.2.2.length=a.length/\s.2.2.take w=(a.take n).filter (oW x.2.1)/\s.2.2.drop n=a.drop n) (λs=>a.length-s.1.toNat) ⟨i+1,i,rfl,rfl,C,ni _,rfl,?_,rfl⟩ ?_;grind[J8];rintro⟨_,_,b⟩ ⟨n,w,rfl,rfl,hn,M,q,u,B⟩;dsimp only at q u B;unfold JM;dsimp[len];refine AC (λA=>?_) (λA=>Ao.done ⟨w,rfl,o!,q,by rw[BN (l:=a) o!]at u;exact u⟩);have d:n<a.length:=o!
    have z:b[n]' o!=a[n]:=by
     have K:b[n]? =a[n]? :=by have:=congrArg (λl=>l[0]?) B;grind
     grind[List.getElem?_eq_getElem,Option.some.inj]
    have k:b.drop (n+1)=a.drop (n+1):=by have:=congrArg (List.drop 1) B;rwa[LL,LL]at this
    rw[Ln (show n<b.length by omega),AD,AD,z,AY (x:=(n:V)+1)];have F:oW x.2.1 a[n]=false->b.take w=(a.take (n+1)).filter (oW x.2.1):=λj=>by rw[J8 d,GL,Mu,j];simpa using u
    refine AC (λg=>Ao.next ⟨n+1,w,rfl,rfl,d,o!,q,F ?_,k⟩ d!) (λH=>AO (λo=>?_) (λo=>Ao.next ⟨n+1,w,rfl,rfl,d,o!,q,F ?_,k⟩ d!));unfold oW;rw[decide_eq_false o!];rfl
    ·have o:=of_decide_eq_false o;rw[Ln (show w<b.length by omega),AD,AD,AY (x:=(w:V)+1)];refine Ao.next ⟨n+1,w+1,rfl,rfl,d,o!,by unfold ER;rw[List.length_set];exact q,?_,?_⟩ d!
     unfold ER;dsimp only;rw[CO,J8 (by rw[WT];omega),List.take_set_of_le (Al _),List.getElem_set_self,u,J8 d,GL,Mu,show oW x.2.1 a[n]=true by unfold oW;rw[decide_eq_true o!,decide_eq_true o!];rfl];rfl;unfold ER;dsimp only;rw[CO,List.drop_set_of_lt o!];exact k
    have o:=of_decide_eq_true o;unfold oW;rw[decide_eq_false (p:=a[n].1<=x.2.1.2.1) o!];simp
   have⟨w,G,N,O,J⟩:=hr;rw[G];unfold wD;rw[if_pos o!,AD,CO];refine AA (BX (Ae _) o! (by rw[AZ,BQ];omega)) λf y=>AB ?_;rw[y.1];simp[mC,Wc,WZ,CO];rw[WW (by rw[BQ];omega),Kh,Nat.min_self,J]
  exact A0 (AB j.symm)
theorem AGO(h:a.length<=4096):Fs (a,a)=some true:=by
 suffices b:Ao (Ag (Gs (a,a)) 0) λr=>r= .inr () by obtain⟨r,hr,rfl⟩:=b;grind[Fs]
 refine CQ (λ(t:V)=> ∃i:Nat,t=i/\i<=a.length) (λt=>a.length-t.toNat) ⟨0,rfl,BU _⟩ ?_;rintro _ ⟨i,rfl,c⟩;unfold Gs;dsimp[len];refine AC (λv=>?_) (λv=>Ao.done rfl);rw[Ln o!,AD,AD,AY (x:=(i:V)+1)];simp[beq_self_eq_true];exact Ao.next ⟨i+1,rfl,o!⟩ o!
theorem AGg{s t:A3}{z:BO}(a:s.2.2.length<=4096)(b:t.2.2.length<=4096)(h:(s.2.2.filter (HW z.1 z.2.2.1 z.2.2.2.1)).filter (oW t)=(t.2.2.filter (HW z.1 z.2.2.1 z.2.2.2.1)).filter (oW s)):Pu (s,(t,z))=some true:=by unfold Pu;rw[show WJ (s,(t,z))=Gr (s,z)from rfl,ve a,AD,AIF (x:=(s,(t,z))) (by grind),AD];rw[show WK (s,(t,z))=Gr (t,z)from rfl,ve b,AD];have e: ∀v,WL (s,(t,z)) v=JL (t,(s,z)) v:=λ_=>rfl;rw[show WM (s,(t,z))=JM (t,(s,z))from rfl,e,AIF (x:=(t,(s,z))) (by grind),AD];grind[AGO]
theorem fld(a b:EN):((a.1==b.1)&&((a.2.1==b.2.1)&&((a.2.2.1==b.2.2.1)&&((a.2.2.2.1==b.2.2.2.1)&&((a.2.2.2.2.1==b.2.2.2.2.1)&&((a.2.2.2.2.2.1==b.2.2.2.2.2.1)&&((a.2.2.2.2.2.2.1.1==b.2.2.2.2.2.2.1.1)&&((a.2.2.2.2.2.2.1.2.1==b.2.2.2.2.2.2.1.2.1)&&((a.2.2.2.2.2.2.1.2.2.1.1==b.2.2.2.2.2.2.1.2.2.1.1)&&((a.2.2.2.2.2.2.1.2.2.1.2==b.2.2.2.2.2.2.1.2.2.1.2)&&((a.2.2.2.2.2.2.1.2.2.2.1==b.2.2.2.2.2.2.1.2.2.2.1)&&((a.2.2.2.2.2.2.1.2.2.2.2==b.2.2.2.2.2.2.1.2.2.2.2)&&((a.2.2.2.2.2.2.2==b.2.2.2.2.2.2.2)&&E)))))))))))))=E↔a=b:=k!
def Ord(v:S EN):Prop:=v.Pairwise λx y=>x.1<y.1
theorem AEp{b v:S h}(a:b.drop d=v.drop d)(c:d<=l):b[l]?=v[l]? :=by have:=E! (·[l-d]?) a;grind
theorem ADL{b v:S h}(a:b.drop d=v.drop d)(c:d<=l):b.drop l=v.drop l:=by have:=E! (List.drop (l-d)) a;grind[List.drop_drop]
theorem AAE{v:S h}(b:d<W v)(a:d<l):v[d]∈v.take l:=Ed.2 ⟨d,k!⟩
def AIK(d:a.Pairwise λx y=>x.1<=y.1){i:Nat}(b:i<W a){e:EN}(v:e∈a.take (i+1)):e.1<=a[i].1:=by obtain⟨j,c,rfl⟩:=List.getElem_of_mem v;rw[BQ]at c;rw[nY];by_cases h:j=i;subst h;exact Ae _;exact EI.1 d j i o! b o!
theorem AGu(Q:a.length<=1000000)(F:a.Pairwise λx y=>x.1<=y.1)(P: ∀v∈a,∀b∈a,v.1=b.1->v=b)(G:d<a.length)(K:Ord (a.take d))(J: ∀e,e∈a.take d↔e∈a.take (d+1)):Ao (Ag Pt (1,((d:V),(a,((d:V),((a.length-d:Nat):V)))))) λr=> ∃k:Nat,r.1=k/\k<=a.length/\r.2.length=a.length/\Ord (r.2.take k)/\ ∀e,e∈r.2.take k↔e∈a:=by
 refine CQ (λ(s:V×(V×(List EN×(V×V))))=> ∃j k:Nat,s.1=j/\s.2.1=k/\s.2.2.2.1=d/\s.2.2.2.2=((a.length-d:Nat):V)/\1<=j/\d+j<=a.length/\k+1<=d+j/\s.2.2.1.length=a.length/\s.2.2.1.drop (d+j-1)=a.drop (d+j-1)/\Ord (s.2.2.1.take k)/\ ∀e,e∈s.2.2.1.take k↔e∈a.take (d+j)) (λs=>a.length-s.1.toNat) ⟨1,d,rfl,rfl,rfl,rfl,Al _,G,Al _,rfl,rfl,K,J⟩ ?_;rintro⟨_,_,b,_,_⟩ ⟨j,k,rfl,rfl,rfl,rfl,R,S,T,o,u,p,U⟩;dsimp only at o u p U;unfold Pt;dsimp only[len];rw[CO,CO];have I:(List.take (a.length-d) (List.drop d b)).length=a.length-d:=by grind[List.length_take,List.length_drop]
 refine AC (λt=>?_) (λt=>Ao.done ⟨k,rfl,o!,o,p,λe=>by rw[U e,BN o!]⟩);have n:d+j<a.length:=o!
 have l: ∀i (E_:i<a.length) (D_:d+j-1<=i),ix b (i:V)=some a[i]:=λi E_ D_=>by unfold ix;rw[if_pos o!,CO,AEp u D_,Au E_]
 have B:=l (d+j) n o!;have C:=l (d+j-1) o! (Al _);have z:ix (List.take (a.length-d) (List.drop d b)) (j:V)=some ((List.take (a.length-d) (List.drop d b))[j]' o!):=Ln o!;have A:ix (List.take (a.length-d) (List.drop d b)) (((j-1:Nat):V))=some ((List.take (a.length-d) (List.drop d b))[j-1]' o!):=Ln o!;rw[AY (x:=(j:V)+1),AY (x:=(j:V)-1),AY (x:=(k:V)+1),show(d:V)+(j:V)=((d+j:Nat):V) by omega,show(d:V)+((j:V)-1)=((d+j-1:Nat):V) by omega,show(j:V)-1=((j-1:Nat):V) by omega,z,AD,B,AD,A,AD,C,AD];have L:a[d+j-1]∈a.take (d+j):=AAE o! o!;have g:=ADL u (show d+j-1<=d+(j+1)-1 by omega);refine AO (λf=>?_) (λm=>?_)
 ·have f:a[d+j]≠a[d+j-1]:=λe=>by rw[(fld _ _).2 e]at f;cases f
  rw[AD,AD,Ln (show k<b.length by omega),AD,AD];have w: ∀e∈a.take (d+j),e.1<a[d+j].1:=λe m=>by have M:=AIK F (i:=d+j-1) o! (e:=e) (by rwa[show d+j-1+1=d+j by omega]);have N:=EI.1 F (d+j-1) (d+j) o! n o!;by_cases O:a[d+j].1=a[d+j-1].1<;>grind
  have h:(b.set k a[d+j]).take (k+1)=b.take k++[a[d+j]]:=by rw[J8 (by rw[WT];omega),List.take_set_of_le (Al _),List.getElem_set_self]
  refine Ao.next ⟨j+1,k+1,rfl,rfl,rfl,rfl,o!,o!,o!,by unfold ER;dsimp only;rw[List.length_set];exact o,?_,?_,?_⟩ d!
  unfold ER;dsimp only;rw[CO,List.drop_set_of_lt o!];exact g;unfold ER;dsimp only;rw[CO,h];unfold Ord;rw[List.pairwise_append];refine⟨p,List.pairwise_singleton _ _,λv H c t=>?_⟩;rw[A9.1 t];exact w v ((U v).1 H);unfold ER;dsimp only;rw[CO,h,<-WX,J8 n];intro e;rw[Ak,Ak,U e]
 ·have m:=(fld _ _).1 m;refine Ao.next ⟨j+1,k,rfl,rfl,rfl,rfl,o!,o!,o!,o,g,p,λe=>?_⟩ d!
  dsimp only;rw[U e,<-WX,J8 n,Ak,A9,m];exact⟨.inl,λq=>q.elim id λq=>q▸L⟩
theorem AI4{v:U EN}(C:v.length<=1000000)(n:v.Pairwise λx y=>x.1<=y.1)(q: ∀a∈v,∀b∈v,a.1=b.1->a=b)(I:2<=v.length):Ao (Ag Ps (1,v)) λr=> ∃w,(r= .inl w\/r= .inr w)/\Ord w/\ ∀e,e∈w↔e∈v:=by
 refine CQ (λ(s:V×U EN)=> ∃i:Nat,s.1=i/\1<=i/\i<=v.length/\s.2=v/\Ord (v.take i)) (λs=>v.length-s.1.toNat) ⟨1,rfl,Al _,o!,rfl,?_⟩ ?_;rw[J8 (i:=0) o!];exact List.pairwise_singleton _ _;rintro⟨_,b⟩ ⟨i,rfl,L,D_,o,h⟩;dsimp only at D_ h o;unfold Ps;dsimp only[len];rw[o];refine AC (λm=>?_) (λm=>Ao.done ⟨_,.inr rfl,by rwa[BN o!]at h,λe=>Wb⟩);have d:i<v.length:=o!
 rw[AY (x:=(i:V)+1),AY (x:=(i:V)-1),show(i:V)-1=((i-1:Nat):V) by omega,Ln d,AD,AD,Ln (show i-1<v.length by omega),AD,AD];have B:=EI.1 n (i-1) i o! d o!;refine AK (λp=>?_) (λf=>?_)
 ·have p:=(fld _ _).1 p;refine AA (BX o! o! (Ae _)) λE_ _=>?_;rw[CO,CO];have K:v[i-1]∈v.take i:=AAE o! o!;refine AA (AGu C n q d h λe=>?_) λr hr=>?_;grind[J8,List.mem_singleton]
  ·have⟨k,t,F,G,u,z⟩:=hr;rw[t];unfold wD;rw[if_pos o!,AD,CO];refine AA (BX (Ae _) o! (by rw[AZ,BQ];omega)) λg l=>Ao.done ⟨g,.inl rfl,?_⟩;have j:g=r.2.take k:=by rw[l.1];simp[mC,Wc,WZ,CO];grind[List.length_take,Nat.min_self]
   rw[j];exact⟨u,z⟩
 ·have f:v[i]≠v[i-1]:=λe=>by rw[(fld _ _).2 e]at f;cases f
  refine Ao.next ⟨i+1,rfl,o!,d,rfl,?_⟩ d!
  rw[J8 d];unfold Ord;rw[List.pairwise_append];refine⟨h,List.pairwise_singleton _ _,λa J c m=>?_⟩;rw[A9.1 m];have H:=AIK n (i:=i-1) o! (e:=a) (by rwa[show i-1+1=i by omega]);by_cases A:v[i].1=v[i-1].1;exact absurd (q _ (Gz d) _ (Gz o!) A) f;omega
theorem Ord.inj(h:Ord a):∀T∈a,∀b∈a,T.1=b.1->T=b:=by intro T g b k e;obtain⟨i,d,rfl⟩:=List.getElem_of_mem g;obtain⟨j,f,rfl⟩:=List.getElem_of_mem k;by_cases c:i=j;grind;rcases Nat.lt_or_gt_of_ne c with q|q;have:=EI.1 h i j d f q;omega;have:=EI.1 h j i f d q;omega
def oe(T:U EN)(P:U A3):U EN:=P.flatMap λs=>T.filter (oW s)
theorem AD8{x:U Am×AJ×Aa×BO}{P:U A3}{b:Bool}{y:AQ}(F:P.length<=20)(a: ∀s∈P,s.2.2.length<=4096){T:U EN}(q: ∀s∈P,s.2.2.filter (HW x.2.2.2.1 x.2.2.2.2.2.1 x.2.2.2.2.2.2.1)=T.filter (oW s)):Ao (Ag (LF x (P,b)) (0,(y,[]))) λr=>r= .inr (y,oe T P)/\(oe T P).length<=81920:=by
 refine CQ (λ(s:V×AQ×U EN)=> ∃i:Nat,s.1=i/\i<=P.length/\s.2.1=y/\s.2.2=oe T (P.take i)/\s.2.2.length<=i*4096) (λs=>P.length-s.1.toNat) ⟨0,rfl,BU _,rfl,rfl,BU _⟩ ?_;rintro⟨_,g,o⟩ ⟨i,rfl,G,w,n,l⟩;dsimp only at w n l;unfold LF;dsimp[len];refine AC (λv=>?_) (λv=>Ao.done (by rw[BN (by omega)]at n;rw[w,n];rw[n]at l;exact⟨rfl,by omega⟩));have d:i<P.length:=by omega
 have m:=Gz d;rw[Ln d,AD,AY (x:=(i:V)+1) (by omega)];refine AA (BX (Ae _) (by omega) (by omega)) λh E_=>?_;refine AA (P:=λr=>r= .inr g) ?_ λr hr=>?_
 ·refine CQ (λ(s:V×AQ)=> ∃j:Nat,s.1=j/\j<=h.length/\s.2=g) (λs=>h.length-s.1.toNat) ⟨0,rfl,BU _,rfl⟩ ?_;rintro⟨_,D_⟩ ⟨j,rfl,H,c⟩;dsimp only at c;unfold Vg;dsimp[len];refine AC (λv=>?_) (λv=>Ao.done (by rw[c]));have f:j<h.length:=by omega
  have k:h[j]∈P:=(λu B=>F9 (i:=i) (by rw[<-(by simp_all[mC,Wc,WZ,CO]:h=P.take i)];exact B): ∀u∈h,u∈P) _ (Gz f);rw[Ln f,AD,AY (x:=(j:V)+1) (by omega)];rw[AGg (s:=h[j]) (t:=P[i]) (z:=x.2.2.2) (a _ k) (a _ m) (by rw[q _ k,q _ m,List.filter_filter,List.filter_filter];exact List.filter_congr λe _=>Bool.and_comm _ _),v?,AD,By,cond_false];exact Ao.next ⟨j+1,rfl,f,c⟩ (by dsimp only;omega)
 ·rw[hr];refine A0 ?_;have A:(T.filter (oW P[i])).length<=4096:=by grind[Nat.le_trans,List.length_filter_le]
  rw[AGB (x:=(P[i],x.2.2.2)) (a _ m),AD];dsimp only;rw[q _ m];refine AA (Ac (by omega)) λC p=>Ao.next ⟨i+1,rfl,d,w,?_,?_⟩ (by dsimp only;omega)
  ·grind[J8,oe]
  ·dsimp only;rw[p.2.1];omega
theorem AD9{z:BO}{g:AQ}{P:Ψ A3}{T:Ψ EN}{y:AQ×Int}(O:VB e)(X_:Dg c)(hz:θ z.2.2.2.2.1≤1000)(N:GP z)(p:Ho (f,z)=Y (g,E))(hs:IB (e,c,z)=Y (P,E))(G:Hp (P,z)=Y E)
  (Q:θ P<=20) (A:∀s∈P,θ s.2.2<=4096) (B:Ord T) (R:∀s∈P,s.2.2.filter (HW z.1 z.2.2.1 z.2.2.2.1)=T.filter (oW s)) (S:∀a∈T,∃s∈P,oW s a=E) (hr:Ie (g,T)=Y y):F7 (f,e,c,z)=Y y:=by
 suffices V:Ao (F7 (f,e,c,z)) λr=>r=y by have⟨r,l,a⟩:=V;rw[l,a]
 have⟨q,Z,q1⟩:=Fg O;have⟨w,H,w1⟩:=G8 X_;have⟨v,hv,v1⟩:=AGc hz;unfold F7;dsimp only;rw[Z,q1,AD,By,A!,H,w1,AD,By,A!,hv,v1 N,AD,By,A!,p,AD,hs,AD];dsimp only;rw[By,A!,A!,G,AD,By,A!];refine AA (AD8 (x:=(f,e,c,z)) Q A R) λr l=>?_;obtain⟨rfl,M⟩:=l;apply A0;dsimp only;have d:∀a,a∈oe T P↔a∈T:=λa=>by grind[oe]
 have L:∀e∈oe T P,∀b∈oe T P,e.1=b.1->e=b:=λe C b p=>B.inj e ((d e).1 C) b ((d b).1 p);generalize Y_:(oe T P).mergeSort (λe b=>decide (e.1<=b.1))=m;have t:F5 (oe T P) ()=Y m:=by grind[F5,AAd]
 have k:m.Perm (oe T P):=by grind[List.mergeSort_perm]
 have F:m.Pairwise λx y=>x.1<=y.1:=by rw[<-Y_];refine(List.pairwise_mergeSort (le:=λe b:EN=>decide (e.1<=b.1)) ?_ ?_ _).imp λh=>N! h;intro e b u J K;simp only[K!]at*;omega;intro e b;simp[QI,K!];omega
 have n:∀a,a∈m↔a∈T:=λa=>by rw[k.mem_iff,d]
 have o:∀w:Ψ EN,Ord w->(∀a,a∈w↔a∈m)->w=T:=λw J K=>Ux J B λa=>by rw[K a,n a]
 rw[t,AD,k.length_eq,Hl,B!];apply AC<;>intro S;have E_:Ord m:=by unfold Ord;rw[EI];intro i j hi hj W;have D_:=k.length_eq;grind[oe]
 rw[o m E_ λa=>Wb,hr,AD];exact AB rfl;have U:(len (oe T P))=((oe T P).length:Int):=rfl;have D_:=k.length_eq;refine AA (AI4 (v:=m) o! F (λe C b p=>B.inj e ((n e).1 C) b ((n b).1 p)) o!) λr l=>?_;have⟨w,G,E_,I⟩:=l;have a:=o w E_ I;subst a;rcases G with rfl|rfl;apply BF;rw[hr,AD];exact AB rfl;apply A0;rw[hr,AD];exact AB rfl
def yQ(L:O2 a c)(p q k:V):Ord (a.filter (HW p q k)):=L.sorted.sublist Wd
theorem AKg{k}(g:AR a e)(v:O2 a c)(o:OK e i b j){L:NE}(t:L∈DU e)(d:L.1.2.2.1=b):(oS L).2.2.filter (HW i n k)=(a.filter (HW i n k)).filter (oW (oS L)):=by
 have⟨f,D_,p,_,hr,_⟩:=g.mem t;have u:L.1.2.2.2.1=j:=by have⟨l,m,q,A,B⟩:=o;refine Ku.uniq g.vb.1 (lo:=b) ?_ ⟨l,m,q⟩;rw[<-d];exact p.2.2.2
 have C:b<=i/\i<=j:=by have⟨l,m,q,A,B⟩:=o;grind
 refine Ux ?_ ((yQ v i n k).sublist Wd) λx=>?_;refine(p.2.2.1.sorted.sublist Wd).imp_of_mem λ{x y} w z h=>?_;have r:=(BR.1 w).2;have s:=(BR.1 z).2;unfold HW at r s;grind[ltC];rw[BR,BR,BR];unfold oW oS;rw[(hr.mem x)];constructor;grind;simp_all[BZ,HW]
theorem AKM{t:V}(p:O2 a c)(e:c.1<=n)(g:n<=t)(h:t<=c.1+W c.2.1-1):∀s∈aJ c n t,W s.2.2<=4096/\s.2.2.filter (HW b i j)=(a.filter (HW b i j)).filter (oW s):=by
 have k:=p.vl.1;intro s L;unfold aJ at L;rw[D! o!]at L;rw[A9.1 L];rw[(by omega:(t-n+1).toNat=(t-c.1+1).toNat-(n-c.1).toNat)];generalize d:(c.2.1.drop (n-c.1).toNat).take ((t-c.1+1).toNat-(n-c.1).toNat)=v;have l:v.Sublist c.2.1:=by rw[<-d];exact(fo _ _).trans (mH _ _)
 refine⟨Cq l.length_le p.vl.2.2.1,Ux ((p.vl.sorted.sublist l).sublist Wd) ((yQ p b i j).sublist Wd) λx=>?_⟩;have q:=w6 p.vl e g h d.symm x;rw[p.tail x]at q;unfold oW;grind
def AJh{j k:Nat}(f:LI n a)(L:Gv a)(c:W a<=4096)(m:k<=W a)(h:BY (a.take j) b<=k)(g:0<=b/\b<64):Ie (st (a.take j) b,a.filter (HW b (BY (a.take j) b) k))=Y (st (a.take k) b,0):=by have⟨i,p,d,e⟩:=AB0 L h;rw[<-d,<-e];have o:=Ry L b i;have l:=YT (L.take i) b;rw[BQ]at l;rw[show BY (a.take i) b=(((BY (a.take i) b).toNat:Nat):V) by omega,tT L o!,iC L (j:=i) o! (Ut L),yg (rK L f g o! i k p) (by have:=EH (aT b) ((a.take k).drop i);rw[C2,BQ]at this;omega),<-ai p]
theorem named{L:U EN}{a:AJ}{l:Aa}{f q k c:V}(r:q<c)(s:c<=k)(n:bf a l f c):(vi l q<=c/\c<=vj l k)\/ ∃e∈DU a,rV l f q k e=true/\e.1.2.2.1=f/\e.1.1<=c/\c<=e.1.2.1:=by
 by_cases b:vi l q<=c/\c<=vj l k
 ·exact .inl b
 ·refine .inr ?_;rcases n with⟨g,h⟩|⟨e,o,d,g,h⟩
  ·exfalso;apply b;unfold vi vj;constructor<;>split<;>omega
  ·refine⟨e,o,?_,d,g,h⟩;unfold rV;rw[d,beq_self_eq_true,Ya];generalize t:vi l q=F at b;generalize u:vj l k=T at b;generalize j:(if e.1.1>q+1 then e.1.1 else q+1)=i;generalize m:(if e.1.2.1<k then e.1.2.1 else k)=pb;have a1:i<=c:=by split at j<;>omega
   have p:c<=pb:=by split at m<;>omega
   rw[decide_eq_true (show i<=pb by omega),Ya];simp only[QI,decide_eq_true_eq];omega
def AAO{W:Aa}{p lo Z fl:Int}{L:Nat}{v:Ψ Am}(hL:LI n a)(K:Gv a)(A:AR a e)(M:O2 a c)(hr:RC e L)(ad:L≤12)(hk:d≤θ a)(hm:(l:Int)=e.2.1)(hn:1≤l∧l≤64)(h8:θ f≤8)(hf:∀O∈f,FI a b l O)(hp:0≤p∧p<e.2.1)
  (p1:OK e p lo Z) (f1:sh (bf e c lo) d fl) {z:BO} (hz:xg a b l f e c p d fl z) (Q:Dg W) {mo:Ψ EN} (e1:W.1=c.1) (e2:W.2.1=c.2.1++mo) (D_:θ v<=8/\(∀O∈v,FI a b l O)/\∀x,Q1 a b l f (θ f) x->Q1 a b l v (θ v) x):F7 (v,e,W,z)=Y (st (a.take d) p,0):=by
 have S:=M.len;obtain⟨C,x2,a6,a8,o,u3,F,a4,a1⟩:=AJX hL K A M hr ad hk hm hn h8 hf hp p1 f1 hz;obtain⟨J,h2,h3,⟨j,h4,h5,Y_⟩,h7⟩:=hz;have pm:0<=p/\p<l:=⟨hp.1,o!⟩
 have X_:0<=p/\p<64:=⟨hp.1,o!⟩
 have q0:=Ry K p j;have a0:θ C=θ z.2.2.2.2.1:=by rw[<-x2,Ba]
 have vl:=M.vl;have gp:GP z:=by refine⟨by rw[J];exact X_,?_,o!,λk=>?_,?_,λi Z=>?_,?_⟩;rcases Y_ with⟨q,_⟩|⟨x,B,I,_⟩;omega;obtain⟨_,_,_,_,q⟩:=B;obtain⟨_,_,t,y,_⟩:=q.2.2.1;rw[<-I];exact⟨Yb g! t,y⟩;rcases Y_ with⟨q,rfl⟩|⟨x,B,I,_⟩;rw[h4];rfl;obtain⟨_,_,_,_,q⟩:=B;obtain⟨_,_,t,y,_⟩:=q.2.2.1;rw[I,k]at t;exact O! t g!;refine(a4.and (Hj.1 a1)).imp λh=>?_;have h9:=h.1;have a5:=h.2;omega;rw[<-x2]at Z;obtain⟨k,r,rfl⟩:=Bp.1 Z;obtain⟨O,ar,_,y,_⟩:=A.mem ((o k).1 r).1;obtain⟨i,ax,rfl⟩:=List.getElem_of_mem ar;have:=A.vb.2.2.2.2.2.2.1 i _ o! (Au ax);rw[y];omega;rcases u3 with q|⟨q1,q2,q3⟩;exact .inl q.2;refine .inr ⟨?_,o!⟩;rw[q2];unfold vi;split<;>omega
 obtain⟨V,hV,v8,hS⟩:=rM K o! hn D_.1 (λO q=>.inl (D_.2.1 O q));have hb:Ho (v,z)=Y (st (a.take j) p,E):=by
  refine AGi hV o! (λx B w U k=>Q1.uniq K o! hn ((hS x).1 B) ((hS w).1 U) k) ?_;rw[J];rcases Y_ with⟨i0,rfl⟩|⟨x,B,I,y2,x3⟩;exact .inl ⟨i0,rfl⟩;have⟨_,_,_,_,q⟩:=id B;have⟨_,_,t,y,_⟩:=q.2.2.1;have z0:z.2.1≠0:=λk=>by rw[k]at I;rw[I]at t;exact O! t g!
  refine .inr ⟨z0,x,(hS x).2 (D_.2.2 x B),I,?_,by rw[Jf,h4]⟩;rw[x3];exact xa K o! ⟨t,y⟩ hn pm
 clear Y_;have a3:aJ W z.2.2.2.2.2.1 z.2.2.2.2.2.2=aJ c z.2.2.2.2.2.1 z.2.2.2.2.2.2:=by unfold aJ;split;rfl;rename_i a2;have⟨t,y,g3⟩:=F.resolve_left a2;rw[e1,e2,mE o!,WW (by rw[C2];omega)]
 have u:=xU (z:=z) (E_:=C) A Q (by rw[J];exact hp) (by rw[J];exact p1) (λk r=>⟨((o k).1 r).1,(AIW ((o k).1 r).2).1⟩) x2.symm o! (F.imp id λq=>by rw[e1,e2,AZ];omega);rw[a3]at u;have al:(C.map oS++aJ c z.2.2.2.2.2.1 z.2.2.2.2.2.2).length<=20:=by
  rw[AZ,Ba];have:(aJ c z.2.2.2.2.2.1 z.2.2.2.2.2.2).length<=1:=by unfold aJ;split<;>simp
  omega
 have R:∀s∈aJ c z.2.2.2.2.2.1 z.2.2.2.2.2.2,θ s.2.2<=4096/\s.2.2.filter (HW z.1 z.2.2.1 z.2.2.2.1)=(a.filter (HW z.1 z.2.2.1 z.2.2.2.1)).filter (oW s):=by rcases F with q|⟨t,y,g3⟩;intro s u;unfold aJ at u;rw[C! q]at u;cases u;exact AKM M t y g3
 have N:∀H,z.2.2.1<H->H<=d->cvr (C.map oS++aJ c z.2.2.2.2.2.1 z.2.2.2.2.2.2) H:=λH n1 n2=>by
  rcases named (L:=a) n1 n2 (f1.2.2.1 H o! n2)with⟨t,y⟩|⟨k,r,hu,_,t,y⟩;rcases u3 with q|⟨_,q2,q3⟩;omega;have ap:z.2.2.2.2.2.1≠0:=by rw[q2];unfold vi;split<;>omega
  refine⟨(z.2.2.2.2.2.1,z.2.2.2.2.2.2,(c.2.1.drop (z.2.2.2.2.2.1-c.1).toNat).take (z.2.2.2.2.2.2-z.2.2.2.2.2.1+1).toNat),LU _ ?_,d!⟩;unfold aJ;rw[D! ap];exact A9.2 rfl;exact⟨oS k,F8 _ (Bp.2 ⟨k,(o k).2 ⟨r,hu⟩,rfl⟩),t,y⟩
 have U:Hp (C.map oS++aJ c z.2.2.2.2.2.1 z.2.2.2.2.2.2,z)=Y E:=by
  have⟨m,ao,U⟩:=AH3 (x:=(C.map oS++aJ c z.2.2.2.2.2.1 z.2.2.2.2.2.2,z)) d! (λs u=>by
   rcases Ak.1 u with q|q;obtain⟨k,r,rfl⟩:=Bp.1 q;exact(ACn A k ((o k).1 r).1).2.2.1;unfold aJ at q;split at q;cases q;rw[A9.1 q];have a7:vj c d<=d:=by unfold vj;split<;>omega
   dsimp only;omega) d! d! d!
  rw[ao,U.2 λH n1 n2=>N H n1 (by dsimp only at n2;omega)]
 refine AD9 (g:=st (a.take j) p) (P:=C.map oS++aJ c z.2.2.2.2.2.1 z.2.2.2.2.2.2) (T:=a.filter (HW z.1 z.2.2.1 z.2.2.2.1)) A.vb Q o! gp hb u U al (λs u=>?_) (yQ M _ _ _) (λs u=>?_) (λk r=>?_) ?_;rcases Ak.1 u with q|q;obtain⟨k,r,rfl⟩:=Bp.1 q;exact(ACn A k ((o k).1 r).1).2.2.2.2.2.2.2.2;exact(R s q).1;rcases Ak.1 u with q|q;obtain⟨k,r,rfl⟩:=Bp.1 q;rw[J];exact AKg A M p1 ((o k).1 r).1 (AIW ((o k).1 r).2).1;exact(R s q).2;have G:=(BR.1 r).2;unfold HW at G;simp[BZ,K!]at G;have⟨s,u,s1,s2⟩:=N k.1 G.2.2.1 o!;exact⟨s,u,by unfold oW;rw[G! s1,G! s2];rfl⟩;rw[J,h2,h4];exact AJh hL K S hk h5 X_
def yy(L:U EN)(p:V)(l:U EN):Prop:=(l.Pairwise λx y=>x.1<y.1)/\ ∀x∈l,x∈L/\x.2.2.2.2.2.2.1.1=p
theorem y8{L l:List EN}{p:Int}{e:EN}(hL:Uq L)(i:yy L p l)(Q:e∈L/\e.2.2.2.2.2.2.1.1=p)(h:l.length<=16777000):Ao (Cg (l,e)) λr=>r.1.length<=l.length+1/\yy L p r.1/\ ∀y,y∈r.1↔y∈l\/y=e:=by
 have z: ∀v∈l,Ao (DA (v,e)) λr=>(r<0↔v.1<e.1)/\(r=0↔v.1=e.1):=λv S=>by have R:=(i.2 v S).2.trans Q.2.symm;unfold DA;dsimp only;rw[decide_eq_false (by omega),cond_false,beq_iff_eq.2 R,cond_true];refine AC (λm=>AB ⟨⟨λ_=>m,λ_=>by decide⟩,⟨λq=>absurd q (by decide),λq=>by omega⟩⟩) λm=>?_;rw[cond_true];exact AP (λO=>AB ⟨⟨λq=>absurd q (by decide),λq=>by omega⟩,⟨λ_=>O,λ_=>rfl⟩⟩) (λO=>AB ⟨⟨λq=>absurd q (by decide),λq=>by omega⟩,⟨λq=>absurd q (by decide),λq=>absurd q O⟩⟩)
 unfold Cg;refine AA (P:=λ(v:Int)=>0<=v/\v<=l.length/\(∀x∈l.take v.toNat,x.1<e.1)/\ ∀x,l[v.toNat]? =some x-> ¬x.1<e.1) ?_ λv S=>?_
 ·refine CQ (λ(s:Int)=>0<=s/\s<=l.length/\ ∀x∈l.take s.toNat,x.1<e.1) (λs=>((l.length:Int)-s).toNat) ⟨Ae _,by omega,λx d=>by simp at d⟩ (λs hI=>?_);have⟨U,i1,V⟩:=hI;unfold I2;dsimp[len];refine AC (λo=>?_) (λo=>Ao.done ⟨U,i1,V,λx d=>by have:=Cv d;omega⟩);rw[AY (by omega)];refine AA (AI U o) λK m=>AA (z K m.2) λc f=>AC (λq=>Ao.next ⟨by omega,by omega,λx d=>?_⟩ (by omega)) (λq=>Ao.done ⟨U,i1,V,λx d=>?_⟩)
  ·rw[show(s+1).toNat=s.toNat+1 by omega,Cl,m.1]at d;rcases Ak.1 d with w|w
   ·exact V x w
   ·rw[show x=K by simpa using w];exact f.1.1 q
  ·rw[m.1]at d;rw[<-BW d];exact λw=>q (f.1.2 w)
 ·have⟨J,K,v2,v3⟩:=S;have ap: ∀x∈l.drop v.toNat,¬x.1<e.1:=λx d=>by
   have⟨k,t⟩:=Ed.1 d;rw[KD]at t;have G:=Cv t;have h0:l[v.toNat]? =some (l[v.toNat]'(by omega)):=Au (by omega);have:=v3 _ h0;obtain _|k:=k
   ·rw[NT,h0]at t;rw[<-BW t];exact this
   ·have:=(EI.1 i.1) v.toNat (v.toNat+(k+1)) (by omega) G (by omega);rw[Au G]at t;rw[<-BW t];omega
  have main:(∀x∈l.drop v.toNat,e.1<x.1)->Ao (Option.bind (T6 l 0 v) λH=>
   Option.bind (T6 l v (len l)) λI=>
   Option.bind (app [] H) λg=>
   Option.bind (app g ([e]:List (Int×(Int×(Int×(Int×(Int×(Int×((Int×(Int×((Bool×Bd)×(Bool×Bd))))×Bd))))))))) λal=>
   Option.bind (app al I) λao=>
   some (ao,true)) λr=>r.1.length<=l.length+1/\yy L p r.1/\ ∀y,y∈r.1↔y∈l\/y=e:=λF=>by
   refine AA (BX (Ae _) J K) λZ B=>?_;refine AA (BX J (by simp[len];omega) (by simp only[len];omega)) λad N=>?_;have ar:=B.2;have W:=N.2;simp[len]at W;refine AA (Ac (by simp;omega)) λH C=>?_;have X_:=C.2.1;simp[Bj]at X_;refine AA (Ac (by simp;omega)) λI D_=>?_;have Y_:=D_.2.1;simp[Bj,Bh]at Y_;refine AA (Ac (by omega)) λg E_=>AB ?_;have ax:=E_.2.1;have M:Z=l.take v.toNat:=by rw[B.1];simp
   have A:g=l.take v.toNat++[e]++l.drop v.toNat:=by rw[E_.1,D_.1,C.1,M,(by grind[List.take_of_length_le,List.length_drop]:ad=l.drop v.toNat),B7]
   dsimp only;have j: ∀y,y∈g↔y∈l\/y=e:=λy=>by
    rw[A];conv=>rhs;rw[<-DG v.toNat l]
    grind[List.mem_singleton]
   refine⟨by omega,⟨?_,λx d=>?_⟩,j⟩
   ·rw[A,A2,List.pairwise_append];refine⟨i.1.sublist (fo _ _),?_,λx d y hy=>?_⟩
    ·exact List.pairwise_cons.2 ⟨F,i.1.sublist (mH _ _)⟩
    ·have:=v2 x d;rcases Av.1 hy with w|w
     ·rw[w];exact this
     ·have:=F y w;omega
   ·rcases(j x).1 d with w|w
    ·exact i.2 x w
    ·rw[w];exact Q
  dsimp[len];refine AC (λo=>?_) (λo=>main λx d=>?_)
  ·refine AA (AI J o) λu n=>AA (z u n.2) λc f=>AP (λT=>?_) (λT=>main λx d=>?_)
   ·refine AA (AI J o) λv6 _=>AB ⟨by dsimp only;omega,i,λy=>?_⟩;have:u=e:=hL u (i.2 u n.2).1 e Q.1 (f.2.1 T);subst this;exact⟨.inl,λw=>w.elim id λw=>w▸n.2⟩
   ·have a:=v3 _ n.1;have b: ¬u.1=e.1:=λw=>T (f.2.2 w);have hd:l.drop v.toNat=u::l.drop (v.toNat+1):=by rw[OO (by omega)];rw[Au (by omega)]at n;rw[BW n.1]
    rw[hd]at d;have hs:=i.1.sublist (mH v.toNat l);rw[hd]at hs;rcases Av.1 d with w|w
    ·rw[w];omega
    ·have:=(List.pairwise_cons.1 hs).1 x w;omega
  ·rw[Rl (by omega)]at d;simp at d
theorem AAz(W:Uq a)(h:Src a b g):Ao (Js (g,(b,(i,j)))) λr=>r.length<=1048576/\yy a b r/\ ∀y,y∈r↔ ∃q∈g,y∈q.2.2.2.2.2/\y.2.2.2.2.2.2.1.1=b/\i<y.1/\y.1<=j:=by
 have X_:=h.1;refine AA (P:=λr=>r.length<=1048576/\yy a b r/\ ∀y,y∈r↔ ∃q∈g,y∈q.2.2.2.2.2/\y.2.2.2.2.2.2.1.1=b/\i<y.1/\y.1<=j) ?_ λr hr=>AB hr;refine CQ (λ(s:List EN×Int)=>0<=s.2/\s.2<=g.length/\s.1.length<=4096*s.2/\yy a b s.1/\ ∀y,y∈s.1↔ ∃q∈g.take s.2.toNat,y∈q.2.2.2.2.2/\y.2.2.2.2.2.2.1.1=b/\i<y.1/\y.1<=j) (λs=>((g.length:Int)-s.2).toNat) ⟨Ae _,d!,q!,⟨List.Pairwise.nil,λx Y_=>by simp at Y_⟩,λy=>q!⟩ ?_;rintro⟨A,k⟩ ⟨N,Z,i2,H,G⟩;dsimp only at N Z i2 H G;unfold LB;dsimp[len];refine AC (λM=>?_) (λM=>Ao.done ⟨o!,H,λy=>by rw[G y,BN o!]⟩);refine AA (AI N M) λn K=>?_;have⟨J,T,g3,g4⟩:=h.2 n K.2;have hl:=J.1.2.2.2.2.2.2.2.2;refine AA (AAZ J) λL u=>?_;have D_:=EH (λe:EN=>e.2.2.2.2.2.2.1.1==b) n.2.2.2.2.2;rw[<-u]at D_;have E_: ∀y∈L,y∈a/\y.2.2.2.2.2.2.1.1=b:=λy F=>by rw[u]at F;exact⟨((T.mem y).1 (BR.1 F).1).1,eq_of_beq (BR.1 F).2⟩
 refine AA (P:=λr=>r.length<=A.length+L.length/\yy a b r/\ ∀y,y∈r↔y∈A\/(y∈L/\i<y.1/\y.1<=j)) ?_ λr hr=>?_
 ·refine CQ (λ(s:List EN×Int)=>0<=s.2/\s.2<=L.length/\s.1.length<=A.length+s.2/\yy a b s.1/\ ∀y,y∈s.1↔y∈A\/(y∈L.take s.2.toNat/\i<y.1/\y.1<=j)) (λs=>((L.length:Int)-s.2).toNat) ⟨Ae _,d!,d!,H,λy=>q!⟩ ?_;rintro⟨B,m⟩ ⟨l,j1,j2,f,I⟩;dsimp only at l j1 j2 f I;unfold LC;dsimp[len];refine AC (λc=>?_) (λc=>Ao.done ⟨o!,f,λy=>by rw[I y,BN o!]⟩);refine AA (AI l c) λo p=>?_;rw[AY (x:=m+1)];have t:L.take (m+1).toNat=L.take m.toNat++[o]:=by rw[show(m+1).toNat=m.toNat+1 by omega,Cl,p.1];rfl
  have d: ¬(i<o.1/\o.1<=j)-> ∀y,y∈B↔y∈A\/(y∈L.take (m+1).toNat/\i<y.1/\y.1<=j):=λhn y=>by grind[List.mem_singleton]
  refine AC (λz=>?_) (λz=>Ao.next ⟨d!,d!,d!,f,d λq=>o!⟩ d!);refine AA (AI l c) λO U=>?_;have R:O=o:=by have:=U.1;rw[p.1]at this;exact(BW this).symm
  subst R;refine AA (P:=λr=>r.length<=B.length+1/\yy a b r/\ ∀y,y∈r↔y∈A\/(y∈L.take (m+1).toNat/\i<y.1/\y.1<=j)) ?_ λr hr=>Ao.next ⟨d!,d!,by have:=hr.1;dsimp only;omega,hr.2⟩ d!
  refine AC (λC=>?_) (λC=>AB ⟨o!,f,d λq=>o!⟩);refine AA (AI l c) λQ V=>?_;have S:Q=O:=by have:=V.1;rw[p.1]at this;exact(BW this).symm
  subst S;refine AA (y8 W f (E_ Q p.2) o!) λv7 v=>AB ⟨v.1,v.2.1,λy=>?_⟩;rw[v.2.2 y,I y,t,Ak,A9];constructor;rintro((q|⟨q1,q2⟩)|q);exact .inl q;exact .inr ⟨.inl q1,q2⟩;exact .inr ⟨.inr q,by rw[q];omega⟩;rintro(q|⟨q1|q1,q2⟩);exact .inl (.inl q);exact .inl (.inr ⟨q1,q2⟩);exact .inr q1
 ·rw[AY];refine Ao.next ⟨d!,d!,by have:=hr.1;dsimp only;omega,hr.2.1,λy=>?_⟩ d!
  dsimp only;have t:g.take (k+1).toNat=g.take k.toNat++[n]:=by rw[show(k+1).toNat=k.toNat+1 by omega,Cl,K.1];rfl
  rw[hr.2.2 y,G y,t,u,BR,beq_iff_eq];constructor;rintro(⟨q,q1,q2⟩|⟨⟨q1,q2⟩,q3⟩);exact⟨q,F8 _ q1,q2⟩;exact⟨n,LU _ (A9.2 rfl),q1,q2,q3⟩;rintro⟨q,q1,q2,q3,q4⟩;rcases Ak.1 q1 with w|w;exact .inl ⟨q,w,q2,q3,q4⟩;rw[A9.1 w]at q2;exact .inr ⟨⟨q2,q3⟩,q4⟩
theorem AE3{a:U AS}{m:V}(h:a.length<=256):Ao (LD (a,m)) λr=>r>=0-> ∃q∈a,q.1<=m/\m<=q.2.1:=by refine AA (P:=λr=> ∀k,r= .inl k-> ∃q∈a,q.1<=m/\m<=q.2.1) ?_ λr hr=>BG (λu j=>AB λ_=>hr u j) (λu _=>AB λq=>absurd q (by decide));refine CQ (λ(s:V)=>0<=s/\s<=a.length) (λs=>((a.length:V)-s).toNat) ⟨Ae _,by omega⟩ (λs i=>?_);obtain⟨f,n⟩:=i;unfold Mt;dsimp only[len];refine AC (λc=>?_) (λ_=>Ao.done λk d=>by cases d);rw[AY (by omega)];refine AA (AI f c) λl b=>AC (λq1=>AA (AI f c) λo g=>AC (λq2=>Ao.done λk d=>⟨l,b.2,q1,?_⟩) (λ_=>Ao.next ⟨by omega,by omega⟩ (by omega))) (λ_=>Ao.next ⟨by omega,by omega⟩ (by omega));have e:=g.1;rw[b.1]at e;rw[BW e];exact q2
theorem AIG{l:U EN}{e:EN}(h:l.length<=16777216)(d:e∈l):Im (l,e)=some true:=by
 suffices g:Ao (Im (l,e)) λr=>r=true by obtain⟨r,hr,rfl⟩:=g;exact hr
 refine AA (P:=λr=>r= .inl true) ?_ λr hr=>by rw[hr];exact BF (AB rfl)
 refine CQ (λ(s:V)=>0<=s/\s<=l.length/\e∈l.drop s.toNat) (λs=>((l.length:V)-s).toNat) ⟨Ae _,by omega,d⟩ (λs c=>?_);have⟨i,k,b⟩:=c;unfold Pq;dsimp[len];refine AC (λa=>?_) (λa=>by rw[Rl (by omega)]at b;simp at b);rw[AY (by omega)];refine AA (AI i a) λm j=>AK (λ_=>Ao.done rfl) (λf=>Ao.next ⟨by omega,by omega,?_⟩ (by omega));grind[List.drop_eq_getElem_cons,List.getElem?_eq_getElem,Option.some.inj]
theorem AGY{L A B:List EN}{v:List AS}{l:Aa}{p:Int}(U:Uq L)(V:Dg l)(R:yy L p A)(S:yy L p B)(Q:v.length<=256)(h2:A.length<=1048576)(h3:B.length<=4096)(m: ∀y∈A,l.1<=y.1->y.1<=l.1+l.2.1.length-1->y∈B)(n: ∀y∈B,(∃q∈v,q.1<=y.1/\y.1<=q.2.1)->y∈A):Ao (MU (v,(l,(A,B)))) λr=>r.2=true/\r.1.length<=1052672/\yy L p r.1/\ ∀y,y∈r.1↔y∈A\/y∈B:=by
 refine AA (Ac (by simp;omega)) λX_ O=>?_;have D_:=O.1;rw[B7]at D_;dsimp only at D_;subst X_;refine AA (P:=λr=> ∃C,r= .inr C/\C.length<=A.length+B.length/\yy L p C/\ ∀y,y∈C↔y∈A\/y∈B) ?_ λr hr=>?_
 ·refine CQ (λ(s:List EN×Int)=>0<=s.2/\s.2<=B.length/\s.1.length<=A.length+s.2/\yy L p s.1/\ ∀y,y∈s.1↔y∈A\/y∈B.take s.2.toNat) (λs=>((B.length:Int)-s.2).toNat) ⟨Ae _,by dsimp only;omega,by dsimp only;omega,R,λy=>by simp⟩ ?_;rintro⟨C,k⟩ ⟨c,F,W,t,G⟩;dsimp only at c F W t G;unfold N2;dsimp[len];refine AC (λb=>?_) (λb=>Ao.done ⟨C,rfl,by omega,t,λy=>by rw[G y,BN (by omega)]⟩);refine AA (AI c b) λz h=>AA (AE3 Q) λv3 M=>?_;rw[AY (x:=k+1) (by omega)];have et:B.take (k+1).toNat=B.take k.toNat++[z]:=by rw[show(k+1).toNat=k.toNat+1 by omega,Cl,h.1];rfl
  have same: ∀a,B[k.toNat]? =some a/\a∈B->a=z:=λa e=>by have:=e.1;rw[h.1]at this;exact(BW this).symm
  have u: ∀a,B[k.toNat]? =some a/\a∈B->Ao (Option.bind (Cg (C,a)) λH=>some (Step.next (H.1,k+1)):Option (Step (List EN×Int) ((List EN×Bool)⊕ List EN))) (MX (λ(s:List EN×Int)=>0<=s.2/\s.2<=B.length/\s.1.length<=A.length+s.2/\yy L p s.1/\ ∀y,y∈s.1↔y∈A\/y∈B.take s.2.toNat) (λs=>((B.length:Int)-s.2).toNat) ((B.length:Int)-k).toNat λr=> ∃C,r= .inr C/\C.length<=A.length+B.length/\yy L p C/\ ∀y,y∈C↔y∈A\/y∈B):=λa e=>by
   have K:=same a e;subst K;refine AA (y8 U t (S.2 a h.2) (by omega)) λH E_=>Ao.next ⟨by dsimp only;omega,by dsimp only;omega,by have:=E_.1;dsimp only;omega,E_.2.1,λy=>?_⟩ (by dsimp only;omega)
   grind[List.mem_singleton]
  refine AC (λo=>AA (AI c b) λY_ N=>?_) (λ_=>AA (AI c b) λa e=>u a e);rw[same Y_ N,AIG (by omega) (n z h.2 (M o)),v?,AD,By,cond_false];grind[AA,AI]
 ·obtain⟨C,rfl,Z,J,I⟩:=hr;refine A0 (AA (P:=λr=>r= .inr ()) ?_ λr hr=>by rw[hr];exact A0 (AB ⟨rfl,by dsimp only;omega,J,I⟩));refine CQ (λ(s:Int)=>0<=s/\s<=A.length) (λs=>((A.length:Int)-s).toNat) ⟨Ae _,by omega⟩ (λs T=>?_);have⟨c,F⟩:=T;unfold N3;dsimp[len];refine AC (λb=>?_) (λ_=>Ao.done rfl);rw[AY (by omega)];refine AA (AI c b) λw d=>?_;rw[yG V,AD];refine AC (λf=>AA (AI c b) λg j=>?_) (λ_=>Ao.next ⟨by omega,by omega⟩ (by omega));have i:g=w:=by have:=j.1;rw[d.1]at this;exact(BW this).symm
  subst i;rw[AIG (by omega) (m g d.2 f.1 f.2),v?,AD,By,cond_false];exact Ao.next ⟨by omega,by omega⟩ (by omega)
theorem ADH(h:Src a b g)(L:Dg c)(B:0<=i)(d:i<=1099511627776)(p:i<=j):Ao (Ke ((g,k,c),i,j)) λl=>l=E↔∀q,i<q->q<=j->V4 g c q:=by
 have x:∀q,V4 g c q->q<=1099511631872:=λq n=>by have y:=L.2.1;have z:=L.2.2.1;rcases n with⟨r,u,_,w⟩|⟨_,w⟩;have:=(h.2 r u).1.1.2.2.1;omega;omega
 refine AA (P:=λr=>(r=.inl X/\∃q,i<q/\q<=j/\¬V4 g c q)\/(r=.inr ()/\∀q,i<q->q<=j->V4 g c q)) ?_ λr hr=>?_
 ·refine CQ (λs=>i<=s/\s<=1099511631872/\∀q,i<q->q<=s->V4 g c q) (λs=>(1099511631872-s).toNat) ⟨Ae _,k!,λq q1 q2=>k!⟩ (λs e=>?_);have⟨C,D_,t⟩:=e;unfold Lj;dsimp only;refine AC (λf=>?_) (λf=>k? (.inr ⟨rfl,λq q1 q2=>t q q1 o!⟩));rw[AY];refine AA (AFO h L o!) λv o=>AP (λA=>k? (.inl ⟨rfl,s+1,o!,o!,o.2.2.2 o!⟩)) (λm=>?_);grind[y!]
 grind[AB]
theorem AJ0{p i j:Int}(hL:LI n a)(hN:Gv a)(h:AR a e)(b:O2 a c)(C:0<=i)(R:i<=1099511627776)(D_:i<=j)(k:0<=p/\p<e.2.1): ∃L C,OK e p L C/\(((∀q,i<q->q<=j->bf e c L q)/\Fp (e,(c,(p,(i,j))))=some (a.filter (HW p i j),0))\/((¬ ∀q,i<q->q<=j->bf e c L q)/\Fp (e,(c,(p,(i,j))))=some ([],42))):=by
 have d:=b.sorted;have hU:Uq a:=λx V y t H=>Vk (by refine Hj.2 ((Q8).2 (d.imp λh=>?_));omega) V t H;obtain⟨v1,e1,M,L,hh,T,rfl,ad,hM,l⟩:=vW (l:=c) h k;refine⟨L,hh,T,?_⟩;have B:(∀q,i<q->q<=j->V4 (M.map (·.1)) c q)↔ ∀q,i<q->q<=j->bf e c L q:=⟨λw q q1 q2=>(ACN hM q).1 (w q q1 q2),λw q q1 q2=>(ACN hM q).2 (w q q1 q2)⟩
 suffices hs:Ao (Fp (e,(c,(p,(i,j))))) λr=>((∀q,i<q->q<=j->bf e c L q)/\r=(a.filter (HW p i j),0))\/((¬ ∀q,i<q->q<=j->bf e c L q)/\r=([],42)) by obtain⟨r,hr,q|q⟩:=hs;exact .inl ⟨q.1,by rw[hr,q.2]⟩;exact .inr ⟨q.1,by rw[hr,q.2]⟩
 unfold Fp;rw[AHh h.vb b.vl k C D_,AD,bne_self_eq_false,cond_false];dsimp only;rw[e1,AD];refine AA (ADH l b.vl C R D_) λv2 Z=>AO (λhf=>AB (.inr ⟨λw=>?_,rfl⟩)) (λA=>?_);rw[Z.2 (B.2 w)]at hf;cases hf;have o:=Z.1 A;refine AA (AAz hU l) λv3 h3=>AA (z7 b.vl) λv4 z=>?_;have⟨a1,a2,a3⟩:=h3;have m: ∀y,HW p i j y=true->hZ y=true/\y.2.2.2.2.2.2.1.1=p/\i<y.1/\y.1<=j:=λy U=>by unfold HW at U;simp[BZ,decide_eq_true_eq,beq_iff_eq]at U;exact U
 have E_: ∀y,hZ y=true->y.2.2.2.2.2.2.1.1=p->i<y.1->y.1<=j->HW p i j y=true:=λy K N F G=>by grind[HW]
 have hB:yy a p v4:=by rw[z];refine⟨b.vl.sorted.filter _,λx V=>?_⟩;have⟨x1,x2⟩:=BR.1 V;exact⟨((b.tail x).1 x1).1,(m x x2).2.1⟩
 have g:v4.length<=4096:=by rw[z];exact Cq (EH _ _) b.vl.2.2.1
 refine AA (AGY hU b.vl a2 hB l.1 a1 g (λy t g1 v=>?_) (λy t I=>?_)) λu h5=>?_;have⟨q,q1,q2,q3,q4,q5⟩:=(a3 y).1 t;have I:=((l.2 q q1).2.1.mem y).1 q2;rw[z];exact BR.2 ⟨(b.tail y).2 ⟨I.1,g1,v⟩,E_ y I.2.1 q3 q4 q5⟩;rw[z]at t;have⟨y1,y2⟩:=BR.1 t;have⟨K,N,F,G⟩:=m y y2;have⟨q,q1,q2,q3⟩:=I;have⟨_,v,g3,g4⟩:=l.2 q q1;exact(a3 y).2 ⟨q,q1,(v.mem y).2 ⟨((b.tail y).1 y1).1,K,o!,o!,q2,q3⟩,N,F,G⟩;have⟨u0,u1,u2,u3⟩:=h5;rw[u0,By,cond_false];have H:u.1=a.filter (HW p i j):=Ux u2.1 (d.filter _) λy=>by rw[u3 y,a3 y,z,BR,BR];constructor;rintro(⟨q,q1,q2,q3,q4,q5⟩|⟨q1,q2⟩);have:=((l.2 q q1).2.1.mem y).1 q2;exact⟨this.1,E_ y this.2.1 q3 q4 q5⟩;exact⟨((b.tail y).1 q1).1,q2⟩;rintro⟨q1,q2⟩;have⟨K,N,F,G⟩:=m y q2;rcases o y.1 F G with⟨r,J,W,r3⟩|⟨J,W⟩;have⟨_,v,g3,g4⟩:=l.2 r J;exact .inl ⟨r,J,(v.mem y).2 ⟨q1,K,o!,o!,W,r3⟩,N,F,G⟩;exact .inr ⟨(b.tail y).2 ⟨q1,J,W⟩,q2⟩
 have f:=wU (p:=p) (j:=j) hL d C;rw[<-H]at f;refine AA (P:=λr=>r= .inr ()) ?_ λr hr=>by rw[hr];exact A0 (AB (.inl ⟨B.1 o,by rw[H]⟩))
 refine CQ (λ(s:Int)=>0<=s/\s<=u.1.length) (λs=>((u.1.length:Int)-s).toNat) ⟨Ae _,o!⟩ (λs hI=>?_);have⟨s0,s1⟩:=hI;unfold QX;dsimp[len];refine AC (λo=>?_) (λo=>Ao.done rfl);rw[AY (x:=s+1)];have nx:Ao (some (Step.next (s+1)):Option (Step Int ((List EN×Int)⊕ Unit))) (MX (λ(s:Int)=>0<=s/\s<=u.1.length) (λs=>((u.1.length:Int)-s).toNat) ((u.1.length:Int)-s).toNat λr=>r= .inr ()):=Ao.next o! o!
 apply AP<;>intro hz;refine AA (AI s0 o) λv7 g7=>AC (λal=>?_) (λ_=>AC (λk=>absurd k o!) (λ_=>nx));have:=(f s.toNat v7 g7.1).1 o!;omega;refine AC (λk=>?_) (λk=>absurd k o!);rw[AY];refine AA (AI s0 o) λX_ O=>AA (AI) λY_ Q=>AL (λS=>absurd ((f s.toNat X_ O.1).2 Y_ o! ?_) S) (λ_=>nx);rw[show s.toNat-1=(s-1).toNat by omega];exact Q.1
theorem AHV{s:V×U Be}{v:C0×Bool}(h:s.2.length<=8):Ao (Ag (Rf s v) (len s.2)) λr=>0<=r/\r<=s.2.length:=by refine CQ (λ(t:V)=>0<=t/\t<=s.2.length) (λt=>t.toNat) ⟨k!,k!⟩ (λt c=>?_);have⟨a,b⟩:=c;refine AC (λd=>?_) (λ_=>Ao.done ⟨a,b⟩);rw[AY];exact AA (AI) λ_ _=>AA (AI) λ_ _=>AC (λ_=>Ao.next o! o!) (λ_=>Ao.done ⟨a,b⟩)
theorem AJi{x:List Am×AJ×Aa×Int×Int}{L:List EN}(h:Gv L)(R:L.length<=1099511627776){d:Int}{m:Nat}(hn:1<=m/\m<=64){V:List Aq}(v8:V.length<=8)(N: ∀z∈V,PI L d m z){p:Int}(I:0<=p/\p<m){t:Int}(H:x.2.2.2.1=p)(T:x.2.2.2.2=t):Ao (Ag (Lk x V) (wi (len V-1),[])) λr=>r.length<=8/\ ∀y,y∈r↔ ∃z∈V,dI z p<=t/\y=(dI z p,(z.1,dI z p)):=by
 have O:wi (len V-1)=(V.length:Int)-1:=by simp only[len];rw[AY (by omega)]
 rw[O];refine CQ (λ(s:Int×List Be)=> ∃n:Nat,s.1=(n:Int)-1/\n<=V.length/\s.2.length<=V.length-n/\ ∀y,y∈s.2↔ ∃z∈V.drop n,dI z p<=t/\y=(dI z p,(z.1,dI z p))) (λs=>(s.1+1).toNat) ⟨V.length,rfl,Al _,by simp,λy=>⟨λq=>(by cases q),λ⟨z,q,_⟩=>(by rw[List.drop_length]at q;cases q)⟩⟩ ?_;rintro⟨_,A⟩ ⟨n,rfl,W,X_,g⟩;dsimp only at X_ g;unfold Lk;dsimp only;refine AC (λP=>?_) (λP=>Ao.done ⟨by omega,by rw[show n=0 by omega]at g;exact g⟩);obtain⟨k,rfl⟩: ∃k:Nat,n=k+1:=⟨n-1,by omega⟩
 have F:k<V.length:=W;have E_:ix V (((k+1:Nat):Int)-1)=some V[k]:=by unfold ix;rw[if_pos (by omega),show(((k+1:Nat):Int)-1).toNat=k by omega,Au F]
 rw[E_,AD,T,H,AY (by omega)];obtain⟨j,hj,x1,x2,J⟩:=N _ (Gz F);have f:H9 (V[k],p)=some (Xb (st (L.take j) p),true):=by rw[J];exact AEv h R ⟨x1,x2⟩ hn I
 have D_:(Xb (st (L.take j) p)).2.1=dI V[k] p:=by rw[J,zQ I];exact Jf _ _
 have b:V.drop k=V[k]::V.drop (k+1):=OO F;rw[f,AD,By,cond_false];dsimp only;rw[D_];refine AC (λQ=>Ao.next ⟨k,by dsimp only;omega,by omega,by dsimp only;omega,λy=>?_⟩ (by dsimp only;omega)) (λS=>?_)
 ·dsimp only;rw[g y,b];constructor
  ·rintro⟨z,a,c⟩;exact⟨z,Ca _ a,c⟩
  ·rintro⟨z,a,c,w⟩;rcases Av.1 a with rfl|a
   ·omega
   ·exact⟨z,a,c,w⟩
 ·refine AA (AHV (s:=(_,A)) (by dsimp only;omega)) λv u=>?_;dsimp only at u;refine AA (BX (Ae _) u.1 u.2) λ_ _=>?_;rw[AD];refine AA (BX u.1 (by simp only[len];omega) (by simp only[len];omega)) λ_ _=>?_;have K:List.take (Int.toNat v-Int.toNat 0) (List.drop (Int.toNat 0) A)=A.take v.toNat:=rfl;have M:List.take (Int.toNat (len A)-Int.toNat v) (List.drop (Int.toNat v) A)=A.drop v.toNat:=BN (by rw[C2];simp only[len];omega);rw[K,M];refine AA (Ac (by simp;omega)) λY_ e=>AA (Ac (by rw[e.1];simp;omega)) λZ l=>AA (Ac (by rw[l.1,e.1];simp;omega)) λo B=>?_;have i:o=A.take v.toNat++[(dI V[k] p,(V[k].1,dI V[k] p))]++A.drop v.toNat:=by rw[B.1,l.1,e.1];rfl
  have U:o.length=A.length+1:=by rw[i];simp;omega
  refine AC (λ_=>Ao.next ⟨k,by dsimp only;omega,by omega,by dsimp only;omega,λy=>?_⟩ (by dsimp only;omega)) (λG=>absurd (by omega) G);dsimp only;rw[i,b];have C:y∈A↔y∈A.take v.toNat\/y∈A.drop v.toNat:=by
   conv=>lhs;rw[<-DG v.toNat A]
   exact Ak
  rw[Ak,Ak,A9];constructor
  ·rintro((q|q)|q)
   ·obtain⟨z,a,c⟩:=(g y).1 (C.2 (.inl q));exact⟨z,Ca _ a,c⟩
   ·exact⟨_,JV,by omega,q⟩
   ·obtain⟨z,a,c⟩:=(g y).1 (C.2 (.inr q));exact⟨z,Ca _ a,c⟩
  ·rintro⟨z,a,c,w⟩;rcases Av.1 a with rfl|a
   ·exact .inl (.inr w)
   ·rcases C.1 ((g y).2 ⟨z,a,c,w⟩)with q|q
    ·exact .inl (.inl q)
    ·exact .inr q
theorem AD6{a:U Am}{V:U Aq}{x:Aq}(f:Gq a=some V)(k:V.length<=1000)(i: ∀x∈V,∀y∈V,x.1=y.1->x=y)(d:x∈V):NP (a,x.1)=some (x,true):=by
 suffices c:Ao (Ag (Oy (a,x.1) V) (0,(0,(0,[])))) λr=>r= .inl (true,x) by obtain⟨r,hr,rfl⟩:=c;grind[NP]
 refine CQ (λ(s:Int×Aq)=> ∃j:Nat,s.1=j/\j<=V.length/\x∉V.take j) (λs=>V.length-s.1.toNat) ⟨0,rfl,BU _,by simp⟩ ?_;rintro⟨_,o⟩ ⟨j,rfl,g,hn⟩;unfold Oy;dsimp[len];refine AC (λb=>?_) (λb=>absurd d (by grind));rw[Ln (by omega),AD,AD];refine AP ?_ ?_<;>intro e
 ·grind[Ao.done]
 ·rw[AY (x:=(j:Int)+1) (by omega)];refine Ao.next ⟨j+1,rfl,(by omega),λh=>?_⟩ (by grind)
  grind[J8]
theorem AGe(h:k.length<=100000):Ao (Sm (k,b)) λr=>r.length<=k.length+1:=by
 refine AA (P:=λ(r:V)=>0<=r/\r<=k.length) ?_ λr hr=>?_
 ·refine CQ (λ(t:V)=>0<=t/\t<=k.length) (λt=>k.length-t.toNat) ⟨Ae _,o!⟩ ?_;rintro t ⟨i,j⟩;unfold Vf;dsimp[len];refine AC (λf=>AA (AI i f) λv _=>?_) (λf=>Ao.done ⟨i,j⟩);rw[AY (x:=t+1)];exact AC (λ_=>Ao.next o! o!) (λ_=>Ao.done ⟨i,j⟩)
 have⟨g,c⟩:=hr;have e:Ao (Option.bind (T6 k 0 r) λl=>Option.bind (T6 k r (len k)) λm=>Option.bind (app [] l) λn=>Option.bind (app n ([b]:U V)) λo=>Option.bind (app o m) λp=>some p) λr=>r.length<=k.length+1:=by refine AA (BX (Ae _) g c) λa q=>AA (BX g k! k!) λd s=>?_;grind[AA,Ac,List.length_nil,List.length_singleton,AB]
 dsimp only;exact AC (λf=>AA (AI g k!) λv _=>AP (λ_=>AB o!) (λ_=>e)) (λf=>e)
theorem AEK{d:U EN}(h:AR a e)(n:0<=b/\b<e.2.1)(L:Fp (e,(c,(b,(i,j))))=some (d,0)):Ao (H8 (e,(c,(b,(i,j))))) λ_=>True:=by
 unfold H8;rw[L,AD,bne_self_eq_false,cond_false];refine AA (vW (l:=c) h n) λw l=>?_;obtain⟨M,v,t,_,rfl,_,_,f⟩:=l;have q:M.length<=256:=by have:=f.1;rwa[Ba]at this
 refine AA (P:=λ_=>True) (AC (λ_=>AB trivial) (λ_=>AB trivial)) λy _=>AA (P:=λ_=>True) (CQ (λ(s:U V×V)=> ∃k:Nat,s.2=k/\k<=M.length/\s.1.length<=k) (λs=>M.length-s.2.toNat) ⟨0,rfl,BU _,Al _⟩ ?_) λA _=>AB trivial;rintro⟨o,_⟩ ⟨k,rfl,u,L⟩;unfold Um;dsimp[len];have m:(M.map (·.1)).length=M.length:=Ba _;have p:(M.map (·.2)).length=M.length:=Ba _;refine AC (λg=>?_) (λg=>Ao.done trivial);rw[Ln (l:=M.map (·.1)) (show k<_ by omega),AD,AY (x:=(k:V)+1)];refine AA (P:=λ_=>True) (AC (λ_=>AC (λ_=>AB trivial) (λ_=>AB trivial)) (λ_=>AB trivial)) λz _=>AA (P:=λr=>r.length<=k+1) ?_ λr hr=>Ao.next ⟨k+1,rfl,o!,hr⟩ k!
 rw[Ln (l:=M.map (·.2)) (show k<_ by omega),AD];grind[AA,AGe,AB]
theorem y9{n:V}{L:U EN}{a:AJ}{l:Aa}{p u E_ fl:V}{j k:Nat}(w:LI n L)(b:Gv L)(f:AR L a)(m:O2 L l)(Q:k<=L.length)(g:0<=p/\p<a.2.1)(c:p<64)(J:OK a p u E_)(A:sh (bf a l u) k fl)(t:BY (L.take j) p<=k):Ao (IA (st (L.take j) p,(a,(l,(k:V))))) λr=>(fl<=BY (L.take j) p/\r=(st (L.take k) p,0)/\Ao (H8 (a,(l,(p,(BY (L.take j) p,(k:V)))))) λ_=>True)\/(¬fl<=BY (L.take j) p/\r.2≠0):=by
 have x:=m.len;have⟨i,e,v,z⟩:=AB0 b t;rw[<-v,<-z];rw[<-v]at t;have G:=Ry b p i;have H:=YT (b.take i) p;rw[BQ]at H;have⟨I,F,K,s⟩:=AJ0 w b f m (i:=BY (L.take i) p) (j:=(k:V)) G (by omega) t g;have o:=J.uniq f.vb.1 rfl rfl K;subst o;have D_:(∀q,BY (L.take i) p<q->q<=k->bf a l u q)↔fl<=BY (L.take i) p:=by have⟨M,N,O,P⟩:=A;grind
 refine AA O3 λS B=>AO (λd=>absurd (B.2 f.vb) (by simp[d])) (λ_=>AA Bb λT C=>AO (λd=>absurd (C.2 m.vl) (by simp[d])) (λ_=>?_));rw[Ym ((XY b ⟨g.1,c⟩ (by omega:L.length<=1099511627776)) i),AD];refine AL (λd=>absurd rfl d) (λ_=>?_);dsimp only;rw[Jf,Se,decide_eq_false (by omega),cond_false];rcases s with⟨y,h⟩|⟨y,h⟩
 ·have R:=AEK f g h;rw[h,AD];dsimp only;rw[bne_self_eq_false,cond_false,show L.filter (HW p (BY (L.take i) p) k)=((L.take k).drop i).filter (aT p) by
   rw[show BY (L.take i) p=(((BY (L.take i) p).toNat:Nat):V) by omega,tT b (by omega),iC b (j:=i) (by omega) (Ut b)],zB (rK b w ⟨g.1,c⟩ (by omega) i k e) (by
   have:=EH (aT p) ((L.take k).drop i);rw[C2,BQ]at this;omega),<-ai e,AD]
  grind[AB]
 ·grind[AB]
theorem zA{n d:Int}{L:List EN}{a:AJ}{l:Aa}{p lo hi fl:Int}{k m:Nat}{o:List Am}(hL:LI n L)(C:Gv L)(hA:AR L a)(R:O2 L l)(hk:k≤L.length)(hm:(m:Int)=a.2.1)(hn:1≤m∧m≤64)(h8:o.length≤8)(hf: ∀f∈o,FI L d m f)(hp:0≤p∧p<a.2.1)(p1:OK a p lo hi)(U:sh (bf a l lo) k fl):
  Ao (Kf (o,(a,(l,(p,(k:Int)))))) λr=>(r.2.2=49/\fl≠0/\ ∀x,Q1 L d m o o.length x->dI x p<=k-> ¬fl<=dI x p)\/(r.2.2=0/\r.1=st (L.take k) p/\(fl=0\/ ∃x,Q1 L d m o o.length x/\dI x p<=k/\fl<=dI x p)):=by
 have ar:=R.len;have F:p<64:=by omega
 have pm:0<=p/\p<m:=⟨hp.1,by omega⟩
 have⟨V,hV,v8,G⟩:=AAt C (by omega) hn h8 (λf q=>.inl (hf f q));have hP: ∀x∈V,PI L d m x:=λx J=>by have⟨i,f,_,_,q⟩:=(G x).1 J;exact q.2.2.1
 have hu: ∀x∈V,∀y∈V,x.1=y.1->x=y:=λx J w hw e=>Q1.uniq C (by omega) hn ((G x).1 J) ((G w).1 hw) e;unfold Kf;dsimp only;refine AA O3 λv0 h0=>AO (λH=>absurd (h0.2 hA.vb) (by simp[H])) (λ_=>AA Bb λv1 h1=>AO (λH=>absurd (h1.2 R.vl) (by simp[H])) (λ_=>?_));rw[decide_eq_false (by omega),cond_false,decide_eq_false (by omega),cond_false,decide_eq_false (by omega),cond_false,hV,AD];refine AA (AJi (x:=(o,(a,(l,(p,(k:Int)))))) C (by omega) hn v8 hP pm rfl rfl) λO Y_=>?_;have⟨r8,g⟩:=Y_;refine AA (Ac (by rw[Yq];omega)) λb Z=>?_;have ax:b.length<=9:=by grind[List.length_singleton]
 have D_:=Z.1;refine AA (P:=λ(r:(Int×AQ×BO)⊕ (AQ×BO))=>((∃z,r= .inr z)/\ ∀y∈b,¬fl<=y.1)\/ ∃y:BO,r= .inl (0,(st (L.take k) p,y))/\(fl=0\/ ∃x,Q1 L d m o o.length x/\dI x p<=k/\fl<=dI x p)) ?_ λr ao=>?_
 ·refine CQ (λ(s:Int×AQ×BO)=> ∃i:Nat,s.1=i/\i<=b.length/\ ∀y∈b.take i,¬fl<=y.1) (λs=>b.length-s.1.toNat) ⟨0,rfl,BU _,λy hy=>by simp at hy⟩ ?_;rintro⟨_,s⟩ ⟨i,rfl,i1,i2⟩;unfold Rg;dsimp[len];refine AC (λH=>?_) (λH=>Ao.done (.inl ⟨⟨_,rfl⟩,by rwa[BN (by omega)]at i2⟩));have A:i<b.length:=by omega
  have al:=Ln A;have t:b[i]∈O++[(0,(0,0))]:=by grind[List.getElem_mem]
  have S: ¬fl<=b[i].1-> ∀y∈b.take (i+1),¬fl<=y.1:=λh y hy=>by grind[J8,List.mem_singleton]
  rw[show Cu p=some (st (L.take 0) p)from rfl,AD,al,AD,AD,AY (x:=(i:Int)+1) (by omega)];simp only[AD];generalize hy:b[i]=y at t S;refine AC ?_ ?_<;>intro u
  ·have M:y∈O:=by grind[List.mem_singleton]
   have⟨z,Q,z1,T⟩:=(g y).1 M;have⟨j,hj,x1,x2,ex⟩:=hP z Q;have v:dI z p=BY (L.take j) p:=by grind[zQ]
   have c:=AFZ C (by omega:L.length<=1099511627776) (k:=j) ⟨x1,x2⟩ hn pm;rw[c!,<-ex]at c;have y1:y.2.1=z.1:=by rw[T]
   have y0:y.1=BY (L.take j) p:=by rw[T,<-v]
   rw[y1,AD6 hV (by omega) hu Q,AD,c,AD,y0];refine AA (y9 hL C hA R hk hp F p1 U (j:=j) (by rw[<-v];exact z1)) λa0 ad=>?_;rcases ad with⟨B,rfl,X_⟩|⟨B,W⟩
   ·dsimp only;rw[bne_self_eq_false,cond_false];exact AA X_ λa1 _=>Ao.done (.inr ⟨_,rfl,.inr ⟨z,(G z).1 Q,z1,by rw[v];exact B⟩⟩)
   ·exact AL (λ_=>Ao.next ⟨i+1,rfl,A,S (by rw[y0];exact B)⟩ (by dsimp only;omega)) (λh=>absurd h W)
  ·have K:y=(0,(0,0)):=by
    rcases Ak.1 t with q|q
    ·have⟨z,Q,z1,T⟩:=(g y).1 q;have⟨j,hj,x1,x2,ex⟩:=hP z Q;rw[T]at u;exact absurd (Int.lt_of_lt_of_le (by decide) x1) u
    ·exact A9.1 q
   have l0:BY (L.take 0) p=0:=rfl;refine AA (y9 hL C hA R hk hp F p1 U (j:=0) (by rw[l0];omega)) λa2 E_=>?_;rw[K];rw[K]at S;rw[l0]at E_;rcases E_ with⟨B,rfl,X_⟩|⟨B,W⟩
   ·dsimp only;rw[bne_self_eq_false,cond_false];exact AA X_ λa3 _=>Ao.done (.inr ⟨_,rfl,.inl (by have:=U.1;omega)⟩)
   ·exact AL (λ_=>Ao.next ⟨i+1,rfl,A,S B⟩ (by dsimp only;omega)) (λh=>absurd h W)
 ·rcases ao with⟨⟨z,rfl⟩,I⟩|⟨y,rfl,N⟩
  ·refine A0 (AB (.inl ⟨rfl,λe=>?_,λx J ap=>?_⟩))
   ·have:=I (0,(0,0)) (by rw[D_];simp);dsimp only at this;omega
   ·exact I (dI x p,(x.1,dI x p)) (by rw[D_];exact F8 _ ((g _).2 ⟨x,(G x).2 J,ap,rfl⟩))
  ·exact BF (AB (.inr ⟨rfl,rfl,N⟩))
theorem sX(R:V->Z (AQ×BO×V)):∀j,(∀i:Nat,i<j->Ao (R i) λ_=>True)->(GR R j).length+(Is R j).length=j
 |0,_=>rfl
 |j+1,h=>by have b:=sX R j λi a=>h i o!;have⟨r,hr,_⟩:=h j o!;grind[GR,Is]
theorem AAP(R:V->Z (AQ×BO×V))(j:Nat):∀m,j<=m->(∃u,GR R m=GR R j++u)/\∃w,Is R m=Is R j++w
 |m,h=>by
  induction m with
  |zero=>simp_all
  |succ m a=>by_cases e:j=m+1;subst e;exact⟨⟨[],q!⟩,[],q!⟩;grind[GR,Is,t?]
def kI{x:List Int×Int}(h: ∀c∈x.1,0<=c/\c<256)(hx:0<=x.2/\x.2<256):Ao (Hn x) λr=>r=true:=by
 unfold Hn;rw[AGh,AD,By,cond_false];refine AA (AEf h) λv2 Q=>AA (ADq Q) λj h3=>?_;obtain⟨s1,s2,s3,A,s5,z,K,s8,s9,a4,e,⟨m,hm,g⟩,ad,a5,n,J⟩:=h3;have al:=z.len;refine AA Fi λL h4=>?_;have h4:=h4 ad;rw[AY (x:=L+1),beq_eq_false_iff_ne.2 o!,cond_false,AY (x:=x.2)];obtain⟨k,W⟩: ∃k:Nat,Int.tmod x.2 (L+1)=k:=⟨_,(Ig (qG _ hx.1)).symm⟩
 have ax:(k:Int)<L+1:=by rw[<-W];exact qF _ o!
 rw[W];have l:k<=j.2.2.2.1.2.1.length:=o!
 have o:1<=m/\m<=64:=o!
 have F:=hm.trans s3.symm;have D_:=λ(p:Nat) (Y_:p<m)=>wI J K A z s5 g! l F o e (λf q=>.inl (g f q)) (p:=(p:Int)) o!;have T:=λ(p:Nat) (Y_:p<m)=>wH J K A z s5 g! l F o e (λf q=>.inl (g f q)) (p:=(p:Int)) o!;have E_:=λ(p:Nat) (Y_:p<m)=>(by obtain⟨_,_,_,_,_,q⟩:=D_ p Y_;exact q.mono λ_ _=>trivial:Ao (CV (j.2.2.2.2.1,(j.2.1,(j.2.2.1,((p:Int),(k:Int)))))) λ_=>True)
 rw[AJu (m:=m) A.vb z.vl o! F o! E_,AD];dsimp only;rw[bne_self_eq_false,cond_false];generalize S:(λp:Int=>CV (j.2.2.2.2.1,(j.2.1,(j.2.2.1,(p,(k:Int))))))=R;have hR: ∀p:Int,R p=CV (j.2.2.2.2.1,(j.2.1,(j.2.2.1,(p,(k:Int))))):=λp=>by rw[<-S]
 have ao:=sX R m λi hi=>by rw[hR];exact E_ i hi
 have⟨pl,ll⟩:=af R m;rw[AY (x:=len (GR R m)+len (Is R m)) (by simp[len];omega),show len (GR R m)+len (Is R m)=j.1 by simp[len];omega,bne_self_eq_false,cond_false];refine AA (P:=λr=>r= .inr ()) ?_ λr hr=>by rw[hr];exact A0 (AB rfl)
 refine CQ (λ(s:Int×(Int×Int))=> ∃t:Nat,t<=m/\s.1=(GR R t).length/\s.2.1=(Is R t).length/\s.2.2=t) (λs=>m-s.2.2.toNat) ⟨0,BU _,rfl,rfl,rfl⟩ ?_;rintro⟨_,_,_⟩ ⟨t,ht,rfl,rfl,rfl⟩;unfold KM;dsimp only;refine AC (λhc=>?_) (λhc=>Ao.done rfl);have d:t<m:=o!
 rw[AY (x:=x.2),AY (x:=L+1),W,AY (x:=(t:Int)+1)];obtain⟨lo,hi,fl,Z,N,I,G,q1⟩:=D_ t d;obtain⟨a0,ar,ap,p2,f2,r2,v,q2⟩:=T t d;have X_:=Z.uniq A.vb.1 rfl rfl p2;subst X_;have U:=N.uniq (λ_=>Wb) f2;subst U;rw[G]at v;injection v with v;subst v;have a:R (t:Int)=some I:=by rw[hR];exact G
 have⟨⟨u,hu⟩,⟨w,hw⟩⟩:=AAP R (t+1) m d;have⟨lp,lq⟩:=af R t;refine AA (zA J K A z l F o e g (p:=(t:Int)) o! Z N) λv7 h7=>?_;rcases h7 with⟨M,O,g2⟩|⟨M,e8,O⟩
 ·have H:I.2.2≠0:=by rcases q2 with q|⟨_,_,_,_,q⟩;omega;rcases q with q|⟨x',a1,a2,a3⟩;exact absurd q O;exact absurd a3 (g2 x' a1 a2)
  have C:GR R (t+1)=GR R t:=by simp only[GR,a];rw[if_neg H,DT]
  have B:Is R (t+1)=Is R t++[(t:Int)]:=by simp only[Is,a];rw[if_neg H]
  rw[M,show((49:Int) !=0)=true from rfl,cond_true];have y:(Is R t).length<(Is R m).length:=by rw[hw,B];simp
  have b:(Is R m)[(Is R t).length]=(t:Int):=by simp[hw,B]
  rw[decide_eq_false (by simp[len];omega),cond_false,Ln y,AD,b,bne_self_eq_false,cond_false,AY (x:=((Is R t).length:Int)+1)];exact Ao.next ⟨t+1,d,by rw[C],by rw[B,AZ];rfl,rfl⟩ d!
 ·have H:I.2.2=0:=by rcases q2 with⟨_,a1,a2⟩|q;rcases O with q|⟨x',b1,b2,b3⟩;exact absurd q a1;exact absurd b3 (a2 x' b1 b2);exact q.1
  have hz:=(q1.resolve_left λq=>o!).2.2;have C:GR R (t+1)=GR R t++[I.2.1]:=by simp only[GR,a];rw[if_pos H]
  have B:Is R (t+1)=Is R t:=by simp only[Is,a];rw[if_pos H,DT]
  rw[M,bne_self_eq_false,cond_false];have y:(GR R t).length<(GR R m).length:=by rw[hu,C];simp
  have b:(GR R m)[(GR R t).length]=I.2.1:=by simp[hu,C]
  have V:=AAO J K A z s5 g! l F o e g (p:=(t:Int)) o! Z N hz z.vl (mo:=[]) rfl q! ⟨e,g,λ_ q=>q⟩;rw[decide_eq_false (by simp[len];omega),cond_false,Ln y,AD,b,hz.page,bne_self_eq_false,cond_false,AD];unfold Ll;dsimp only;rw[V,AD,beq_self_eq_true,cond_true,e8,xJ,AD,By,cond_false,AY (x:=((GR R t).length:Int)+1)];exact Ao.next ⟨t+1,d,by rw[C,AZ];rfl,by rw[B],rfl⟩ d!
end Go.Pm
namespace Go.Proofs.YtdbincbpjobdpaaGreat
open Go.RowKit Go.Ab Go.Pm
def ACF:∃j,Tryz.prog.info? 301=Y j/\j.size=2:=by
 have h:(Tryz.prog.info? 301).map (·.size)=Y 2:=h!
 exact Tr.1 h
def AGm:liesAt Tryz.prog Tryz.prog.depth 301 (2/Tryz.prog.cellsOf 301) 0 301 1=E:=h!
def vn(b:Nat)(w:World)(d:w.cell? ⟨b,0,D⟩=Y (.pointer (Y ⟨b,0,D⟩))):
  Calls Tryz.prog 276 #[.pointer (Y ⟨b,0,D⟩)] w λe c=>e=.returned (.tuple #[])/\c=w:=by
 obtain⟨j,a,_⟩:=ACF;go_enter Tryz.func276,Tryz.ntmps276;go_wp2;rw[Lib.run_neq_ptr_same w _ Tryz.underlying299 a];go_wp2;go_end0;exact⟨rfl,rfl⟩
def kK(b:Nat)(w:World)(h:w.cell? ⟨b,0,D⟩=Y (.pointer D))(a:w.shape? b=Y (301,2))(f:w.frozen? ⟨b,0,D⟩=X):
  Calls Tryz.prog 276 #[.pointer (Y ⟨b,0,D⟩)] w λe g=>e=.returned (.tuple #[])/\g=w.setCell ⟨b,0,D⟩ (.pointer (Y ⟨b,0,D⟩)):=by
 obtain⟨j,d,c⟩:=ACF;go_enter Tryz.func276,Tryz.ntmps276;go_wp2;rw[Lib.run_to_unsafe w ⟨b,0,D⟩ Tryz.underlying299 Tryz.underlying388 d (by rw[c];decide) a (Nat.zero_lt_succ 1)];simp only[Result.andThen];rw[Oper.upon_value];go_wp2;rw[run_callFunc_extern Tryz.func308 h! h! h! (e:=Extern.AbiNoEscape.same) h!];rw[Lib.run_noEscape];simp only[Result.andThen];rw[Oper.upon_value];go_wp2;rw[Lib.run_from_unsafe w ⟨b,0,D⟩ Tryz.underlying388 Tryz.underlying299 d a AGm];simp only[Result.andThen];rw[Oper.upon_value];go_wp2;go_end0;exact⟨rfl,rfl⟩
def zP(B b:Nat)(bs:S Value)(w:World)(h:Lib.IsBuilderF 301 5 B b bs w):
  Calls Tryz.prog 276 #[.pointer (Y ⟨b,0,D⟩)] w λe a=>e=.returned (.tuple #[])/\Lib.BuilderAtF 301 5 B b (.pointer (Y ⟨b,0,D⟩)) bs a/\Below B w a:=by
 rcases h with h|h;apply (kK b w h.cell0 h.shape h.frozen0).mono;rintro e a ⟨rfl,rfl⟩;exact⟨rfl,h.used _,(Below.refl B w).setCell (p:=⟨b,0,D⟩) h.1 _⟩;apply (vn b w h.cell0).mono;rintro e a ⟨rfl,rfl⟩;exact⟨rfl,h,Below.refl B _⟩
def ACE:∃i,Tryz.prog.info? 5=Y i/\i.zero=Y (.int .u8 0)/\i.size=1/\i.bytes=1:=by
 have h:(Tryz.prog.info? 5).map (λi=>(i.zero,i.size,i.bytes))=Y (Y (.int .u8 0),1,1):=h!
 obtain⟨i,b,a⟩:=Tr.1 h;simp only[Ee]at a;exact⟨i,b,a.1,a.2.1,a.2.2⟩
variable {d l:Nat}
def uG{p}{bs}{w}(h:Lib.BuilderAtF 301 5 d l p bs w):∃v,w.heap[l]?=Y (.cells #[p,v] 301 (0,0))/\w.cell? ⟨l,1,D⟩=Y v/\w.ownsRowF d 5 1 v (W bs) bs/\v.ownBlock≠Y l:=by obtain⟨e,v,a,c,B⟩:=h;exact⟨v,a,by rw[Lib.cell_of_heap a];rfl,c,B⟩
def AIw(B b:Nat)(bs:S Value)(w:World)(h:Lib.IsBuilderF 301 5 B b bs w):
  Calls Tryz.prog 219 #[.pointer (Y ⟨b,0,D⟩)] w λe l=>e=.returned (.int .i64 (W bs))/\l=w:=by
 obtain⟨p,j⟩:∃p,Lib.BuilderAtF 301 5 B b p bs w:=h.elim (λh=>⟨_,h⟩) (λh=>⟨_,h⟩);obtain⟨v,k,m,a,_⟩:=uG j;obtain⟨d,cap,rfl⟩:∃d cap,v=.slice d (W bs) cap:=by rcases a.2 with⟨c,i⟩|⟨g,cap,f,n,c,_⟩;exact⟨D,0,by rw[c,i]⟩;exact⟨_,_,c⟩
 go_enter Tryz.func219,Tryz.ntmps219
 go_wp2
 go_ret
 exact⟨rfl,rfl⟩
def xn(B b:Nat)(bs:Ψ Value)(c:V)(w:World)(h:Lib.IsBuilderF 301 5 B b bs w)(C:W bs+1≤140737488355328)(H:B≤w.heap.size):
  Calls Tryz.prog 215 #[.pointer (Y ⟨b,0,D⟩),.int .u8 c] w λe E_=>e=.returned .nilIface/\Lib.BuilderAtF 301 5 B b (.pointer (Y ⟨b,0,D⟩)) (bs++[.int .u8 c]) E_/\Below B w E_:=by
 obtain⟨M,I,t,x,y⟩:=ACE;go_enter Tryz.func215,Tryz.ntmps215;go_wp2_with (go_at_call 276;apply (zP B b bs _ h).mono)
 rintro e F ⟨rfl,m,l⟩;have A:=m.1;have r:=m.lt;have c0:=m.cell0;obtain⟨v,q,z,i,s⟩:=uG m;have K:=l.size;go_wp2_with (at_builtin;apply wpList_append_ownF _ rfl _ _ 22 rfl B 5 M (.int .u8 0) 1 1 Tryz.underlying22 I t x y rfl g! _ _ _ rfl (i.alloc _) ⟨F.heap.size,0,D⟩ 1 1 [.int .u8 c] rfl rfl ?z ?c2 ?c3 ?c4 ?c5)
 case z=>
  intro j u n;match j,n with
  |0,n=>simp at n;subst n;simp[Addr.add]
 case c2=>intro u D_;simp at D_;subst D_;rfl
 case c3=>unfold maxLen;omega
 case c4=>omega
 case c5=>simp;omega
 intro N o d a _;have f:o.heap[b]?=Y (.cells #[.pointer (Y ⟨b,0,D⟩),v] 301 (0,0)):=by rw[a.block b w! (s ·.symm),Lib.alloc_old F _ b r];exact q
 have O:o.cell? ⟨b,0,D⟩=Y (.pointer (Y ⟨b,0,D⟩)):=by rw[Lib.cell_of_heap f];rfl
 have P:o.cell? ⟨b,1,D⟩=Y v:=by rw[Lib.cell_of_heap f];rfl
 have Q:o.frozen? ⟨b,1,D⟩=X:=Lib.frozen_of_heap f 1;obtain⟨g,cap,rfl⟩:∃g cap,N=.slice (Y ⟨g,0,D⟩) (W bs+1) cap:=by rcases d.2 with⟨_,S⟩|⟨g,cap,G,R,L,_⟩;omega;exact⟨g,cap,L⟩
 go_wp2
 go_ret
 refine⟨rfl,?_,?_⟩;exact Lib.BuilderAtF.put (T:=301) (e:=5) A f (bs':=bs++[.int .u8 c]) (by simpa using d) g!;exact((l.alloc o! _).grown a w! (λk J=>(i.lt k J).1)).setCell (p:=⟨b,1,D⟩) A _
def Yy(B b:Nat)(bs:S Value)(s:ByteArray)(w:World)(h:Lib.IsBuilderF 301 5 B b bs w)(z:W bs+s.size≤140737488355328)(E_:B≤w.heap.size):
  Calls Tryz.prog 214 #[.pointer (Y ⟨b,0,D⟩),.string s] w λe C=>e=.returned (.tuple #[.int .i64 s.size,.nilIface])/\Lib.BuilderAtF 301 5 B b (.pointer (Y ⟨b,0,D⟩)) (bs++Lib.strCells s) C/\Below B w C:=by
 obtain⟨I,F,r,t,u⟩:=ACE;go_enter Tryz.func214,Tryz.ntmps214;go_wp2_with (go_at_call 276;apply (zP B b bs _ h).mono)
 rintro e P ⟨rfl,j,i⟩;have y:=j.1;have n:=j.lt;have c0:=j.cell0;obtain⟨v,m,K,f,o⟩:=uG j;have H:=i.size;go_wp2_with (at_builtin;apply Lib.wpList_append_own_stringF _ rfl _ _ 22 9 rfl B 5 I Tryz.underlying22 Tryz.underlying9 F r t u _ _ _ rfl f s rfl ?c3 ?c4 ?c5)
 case c3=>unfold maxLen;omega
 case c4=>omega
 case c5=>omega
 intro J l c a _;have d:l.heap[b]?=Y (.cells #[.pointer (Y ⟨b,0,D⟩),v] 301 (0,0)):=by rw[a.block b n (o ·.symm)];exact m
 have L:l.cell? ⟨b,0,D⟩=Y (.pointer (Y ⟨b,0,D⟩)):=by rw[Lib.cell_of_heap d];rfl
 have M:l.cell? ⟨b,1,D⟩=Y v:=by rw[Lib.cell_of_heap d];rfl
 have N:l.frozen? ⟨b,1,D⟩=X:=Lib.frozen_of_heap d 1;obtain⟨x,A,cap,rfl⟩:∃x A cap,J=.slice x A cap:=by rcases c.2 with⟨q,_⟩|⟨g,cap,D_,O,q,_⟩;exact⟨_,_,_,q⟩;exact⟨_,_,_,q⟩
 go_wp2
 go_ret2
 refine⟨rfl,?_,?_⟩;exact Lib.BuilderAtF.put (T:=301) (e:=5) y d (bs':=bs++Lib.strCells s) (by simpa[Lib.strCells_length]using c) g!;exact(i.grown a o! (λk G=>(f.lt k G).1)).setCell (p:=⟨b,1,D⟩) y _
def wT(B b:Nat)(l:S UInt8)(w:World)(h:Lib.IsBuilderF 301 5 B b (Lib.byteCells l) w)(y:l≠ []):
  Calls Tryz.prog 216 #[.pointer (Y ⟨b,0,D⟩)] w λe z=>e=.returned (.string ⟨l.toArray⟩)/\Lib.IsBuilderF 301 5 B b (Lib.byteCells l) z/\Below B w z:=by
 obtain⟨p,K,k⟩:∃p,(p=.pointer D\/p=.pointer (Y ⟨b,0,D⟩))/\Lib.BuilderAtF 301 5 B b p (Lib.byteCells l) w:=h.elim (λh=>⟨_,.inl rfl,h⟩) (λh=>⟨_,.inr rfl,h⟩);obtain⟨D_,v,i,c,t⟩:=k;have s:W l≠0:=by simpa using y
 rw[Lib.byteCells_length]at c;obtain⟨g,cap,a,f,rfl,n,I,H,J,o,G,u⟩:∃g cap a f,v=.slice (Y ⟨g,0,D⟩) (W l) cap/\B<=g/\w.heap[g]?=Y (.cells a 5 f)/\f.2<=W l*1/\W l<=cap/\cap<=maxLen/\a.size=cap*1/\a.toList.take (W l*1)=Lib.byteCells l:=by rcases c.2 with⟨_,N⟩|⟨g,cap,a,f,L,r⟩;exact O! N s;exact⟨g,cap,a,f,L,r⟩
 have A:w.drew.cell? ⟨b,1,D⟩=Y (.slice (Y ⟨g,0,D⟩) (W l) cap):=by have:w.drew.heap[b]?=Y (.cells #[p,.slice (Y ⟨g,0,D⟩) (W l) cap] 301 (0,0)):=i;rw[Lib.cell_of_heap this];rfl
 have E_:(Builtin.unsafeSliceData_ #[22] 358 #[.slice (Y ⟨g,0,D⟩) (W l) cap]).run Tryz.prog w.drew=.ok (.pointer (Y ⟨g,0,D⟩)) w.drew:=Lib.run_unsafeSliceData_row _ _ _ _ _ _ o!;have F:(Builtin.unsafeString_ #[358,3] 9 #[.pointer (Y ⟨g,0,D⟩),.int .i64 (W l)]).run Tryz.prog w.drew=.ok (.string ⟨l.toArray⟩) (w.drew.freeze ⟨g,0,D⟩ (W l)):=by apply Lib.run_unsafeString_row w.drew 358 3 9 5 Tryz.underlying358 h! g a.size (by have q:w.drew.heap[g]?=Y (.cells a 5 f):=I;simp[World.shape?,q]) l y o! (by unfold maxLen at o;omega);intro j x M;exact c.cells (g:=g) rfl j (.int .u8 x.toNat) (by simp[Lib.byteCells,M])
 have d:Lib.IsBuilderF 301 5 B b (Lib.byteCells l) (w.drew.freeze ⟨g,0,D⟩ (W l)):=by
  have C:Lib.BuilderAtF 301 5 B b p (Lib.byteCells l) w.drew:=⟨D_,_,i,by rw[Lib.byteCells_length];exact c,t⟩
  have m:=C.froze (g:=g) (cap:=cap) (by rw[Lib.byteCells_length];exact A);rw[Lib.byteCells_length]at m;rcases K with rfl|rfl;exact .inl m;exact .inr m
 go_enter Tryz.func216,Tryz.ntmps216
 go_wp2
 go_region
 all_goals (go_wp2;go_ret;exact⟨rfl,d,Lib.below_freeze (Below.drew (Below.refl B w)) (p:=⟨g,0,D⟩) n _⟩)
set_option maxRecDepth 1000000 in
def AEa(B b n:Nat)(w:World)(p:B≤b)(a:w.heap[b]?=Y (.cells #[.pointer (Y ⟨b,0,D⟩),.slice D 0 0] 301 (0,0)))(j:B≤w.heap.size)(hn:n≤281474976710656):
  Calls Tryz.prog 279 #[.pointer (Y ⟨b,0,D⟩),.int .i64 n] w λe o=>e=.returned (.tuple #[])/\Lib.BuilderAt 301 5 B b (.pointer (Y ⟨b,0,D⟩)) [] o/\Below B w o:=by
 obtain⟨c,h,q,g⟩:=Lib.run_makeNoZero (P:=Tryz.prog) w.drew #[3] 22 5 Tryz.underlying22 n hn;have m:IntKind.i64.wrap (IntKind.i64.wrap 0+(n:V))=n:=by rw[IntKind.wrap_i64,IntKind.wrap_i64];omega
 have k:(callFunc 309 #[.int .i64 (IntKind.i64.wrap (IntKind.i64.wrap 0+(n:V)))]).run Tryz.prog w.drew=.ok (.value (.slice (Y ⟨w.drew.heap.size,0,D⟩) n c.size)) (w.drew.drew.drew.alloc (.cells c 5)):=by rw[m,run_callFunc_extern Tryz.func309 h! h! h! (e:=Extern.BytealgMakeNoZero.makeNoZero #[3] #[22]) h!,h];rfl
 have f:b<w.heap.size:=by rcases Az b w.heap.size with i|i;exact i;simp[uD i]at a
 have r:w.drew.cell? ⟨b,1,D⟩=Y (.slice D 0 0):=by have:w.drew.heap[b]?=_:=a;rw[Lib.cell_of_heap this];rfl
 have s:(w.alloc (.cells c 5)).cell? ⟨b,1,D⟩=Y (.slice D 0 0):=by have:(w.alloc (.cells c 5)).heap[b]?=_:=(Lib.alloc_old w _ b f).trans a;rw[Lib.cell_of_heap this];rfl
 have t:(w.alloc (.cells c 5)).frozen? ⟨b,1,D⟩=X:=Lib.frozen_of_heap ((Lib.alloc_old w _ b f).trans a) 1;have l:∀W:World,(Builtin.copy_ #[22,22] 3 #[.slice (Y ⟨w.heap.size,0,D⟩) 0 c.size,.slice D 0 0]).run Tryz.prog W=.ok (goInt 0) W:=λW=>run_copy_none W 22 22 3 5 _ _ 0 c.size 0 0 Tryz.underlying22 h! rfl;clear m;have d:=Lib.grown_fresh (T:=301) (e:=5) (cs:=c) p a j (g (by unfold maxLen;omega)) g!;rw[World.setCell_alloc_past _ _ _ _ f]at d;go_enter Tryz.func279,Tryz.ntmps279;go_wp2;go_region;all_goals (go_wp2;go_end0;exact⟨rfl,d⟩)
set_option maxRecDepth 1000000 in
def AGl(B b n:Nat)(w:World)(g:B≤b)(c:w.heap[b]?=Y (.cells #[.pointer D,.slice D 0 0] 301 (0,0)))(h:B≤w.heap.size)(hn:n≤281474976710656):
  Calls Tryz.prog 218 #[.pointer (Y ⟨b,0,D⟩),.int .i64 n] w λe f=>e=.returned (.tuple #[])/\Lib.BuilderAt 301 5 B b (.pointer (Y ⟨b,0,D⟩)) [] f/\Below B w f:=by
 have a:(w.setCell ⟨b,0,D⟩ (.pointer (Y ⟨b,0,D⟩))).heap[b]?=Y (.cells #[.pointer (Y ⟨b,0,D⟩),.slice D 0 0] 301 (0,0)):=by simp[World.setCell,cw,c]
 have i:(w.setCell ⟨b,0,D⟩ (.pointer (Y ⟨b,0,D⟩))).cell? ⟨b,1,D⟩=Y (.slice D 0 0):=by rw[Lib.cell_of_heap a];rfl
 have d:Below B w (w.setCell ⟨b,0,D⟩ (.pointer (Y ⟨b,0,D⟩))):=(Below.refl B w).setCell (p:=⟨b,0,D⟩) g _;have m:Lib.BuilderAt 301 5 B b (.pointer (Y ⟨b,0,D⟩)) [] (w.setCell ⟨b,0,D⟩ (.pointer (Y ⟨b,0,D⟩))):=⟨g,.slice D 0 0,a,World.ownsRow_nil _ _ _ _,by simp[Value.ownBlock]⟩
 have j:(w.setCell ⟨b,0,D⟩ (.pointer (Y ⟨b,0,D⟩))).drew.cell? ⟨b,1,D⟩=Y (.slice D 0 0):=i;go_enter Tryz.func218,Tryz.ntmps218;go_wp2_with (go_at_call 276;apply (kK b w (by rw[Lib.cell_of_heap c];rfl) (by simp[World.shape?,c]) (Lib.frozen_of_heap c 0)).mono;rintro e f ⟨rfl,rfl⟩)
 go_region
 all_goals go_wp2_with (go_at_call 279;apply (AEa B b n (w.setCell ⟨b,0,D⟩ (.pointer (Y ⟨b,0,D⟩))).drew g a (by simpa[World.setCell,World.drew,-World.drew_eq]using h) hn).mono;rintro e f ⟨rfl,k,l⟩)
 all_goals first
  |(go_end0;exact⟨rfl,k,d.drew.trans l⟩)
  |(go_end0;exact⟨rfl,m.drew,d.drew⟩)
end Go.Proofs.YtdbincbpjobdpaaGreat
