/- Texts of wip, joined and shortened by wip/tools/pack.py; nothing is assumed. -/
import Derived.Test.YtdbincbpjobdpaaGreatK14
import Derived.Test.YtdbincbpjobdpaaGreatProg
import Derived.Lib.Builder
import Derived.Lib.FrozenHead
import Derived.Lib.FrozenHead2
import Derived.Lib.AppendStr
import Derived.Lib.UnsafeStr
import Derived.Lib.Repeat
import Derived.Lib.RepeatB
import Derived.Lib.Walk
import Derived.WalkKit
import Derived.Laws.Externs
import Derived.Shelf.RegionOpenPlain
import Derived.Lib.MakeNoZero
import Derived.Laws.IdiomCopy
import Derived.Deep.LoopGhost
import Derived.Deep.DeepCutAuto
import Derived.Deep.DeepFit
import Derived.Deep.CutBlock
noncomputable section
set_option linter.all false
set_option maxHeartbeats 2000000
set_option maxRecDepth 100000
open Option renaming some->Z
open List renaming length->U
open Go renaming Ψ->S
open Bool renaming false->Y
open Bool renaming true->V
open Option renaming none->W
open Go renaming Ω->T
open Option renaming some->δ,none->ε,bind->σ
open Bool renaming true->ζ,false->η
open List renaming length->θ
open Sum renaming elim->ν
open Nat renaming beq->ξ
open Decidable renaming decide->τ
namespace Go.Pm
open Go Go.Ab
noncomputable section

end
noncomputable section

end
variable {a:S EN}{b k:Nat}{c j l m:Int}{d:AZ}{e:AI}{f:Type}{g:S Aq}{h:BU}{i:S Int}
theorem Ol{a:Type}{l:List a}{i:Nat}(h:i<l.length):ix l (i:Int)=some l[i]:=by unfold ix;rw[if_pos (by omega),CA,As h]
def Hol(F:Nat->Int)(i j:Nat):Prop:=(∀a b,a<b->b<=i->a≠j->b≠j->F a<=F b)/\∀b,j<b->b<=i->F j<=F b
def lh{l:S Int}(h:b<U l):l.getD b 0=l[b]:=by rw[N6,As h];rfl
def AC9{l:S Int}(d:b<U l)(c:0<b)(a:Nat):((l.set b (l.getD (b-1) 0)).set (b-1) (l.getD b 0)).getD a 0=if a=b-1 then l.getD b 0 else if a=b then l.getD (b-1) 0 else l.getD a 0:=by simp only[N6,Tr,Oy];split;rename_i h;rw[C! o!,C! h.symm];rfl;rename_i h;split;rename_i j;rw[D! o!,C! j.symm];rfl;rename_i j;rw[D! o!,D! o!]
def AI6(I:i.length<=12):Ap (AAy OC (λG=>G) i (0,(i.length:Int))) λr=>r.Perm i/\ ∀a b,a<b->b<i.length->r.getD a 0<=r.getD b 0:=by
 unfold AAy;refine AA (P:=λr=>r.Perm i/\ ∀a b,a<b->b<i.length->r.getD a 0<=r.getD b 0) ?_ λr hr=>AB hr;refine Ce (λ(s:Int×List Int)=> ∃l:Nat,s.1=l/\1<=l/\l<=i.length+1/\s.2.Perm i/\ ∀a b,a<b->b<l->s.2.getD a 0<=s.2.getD b 0) (λs=>i.length+1-s.1.toNat) ⟨1,by show wi (0+1)=_;rw[AY];rfl,Al _,o!,lL _,λa b c d=>o!⟩ ?_;rintro⟨_,b⟩ ⟨l,rfl,J,K,m,w⟩;dsimp only at m w;have C:=m.length_eq;dsimp only;refine AC (λF=>?_) (λF=>Ap.done ⟨m,λa b c d=>w a b c o!⟩);refine AA (P:=λr=>r.Perm i/\ ∀a b,a<b->b<l+1->r.getD a 0<=r.getD b 0) ?_ λr hr=>?_
 ·refine Ce (λ(t:Int×List Int)=> ∃j:Nat,t.1=j/\j<=l/\t.2.Perm i/\Hol (λa=>t.2.getD a 0) l j) (λt=>t.1.toNat) ⟨l,rfl,Al _,m,λa b c d A B=>w a b c o!,λb c d=>o!⟩ ?_;rintro⟨_,t⟩ ⟨j,rfl,H,o,z⟩;dsimp only at o z;have M:=o.length_eq;unfold AEo;dsimp only;refine AA (P:=λr:Unit ⊕ Unit=>(r= .inr ()/\0<j/\t.getD j 0<t.getD (j-1) 0)\/(r= .inl ()/\(j=0\/t.getD (j-1) 0<=t.getD j 0))) ?_ λr hr=>?_;refine AC (λg=>?_) (λg=>AB (.inr ⟨rfl,.inl o!⟩));rw[AY (x:=(j:Int)-1),show(j:Int)-1=((j-1:Nat):Int) by omega,Ol (show j<t.length by omega),AD,AD,Ol (show j-1<t.length by omega),AD,AD];refine AA WT λN u=>?_;dsimp only at u;rw[lh o!,lh o!];exact AK (λh=>AB (.inl ⟨rfl,o!,u.1 h⟩)) (λh=>AB (.inr ⟨rfl,.inr (Int.not_lt.1 λq=>by rw[u.2 q]at h;cases h)⟩))
  ·rcases hr with⟨rfl,E,v⟩|⟨rfl,hr⟩
   ·apply Ax;rw[AY (x:=(j:Int)-1),show(j:Int)-1=((j-1:Nat):Int) by omega,Ol (show j-1<t.length by omega),AD,AD,Ol (show j<t.length by omega),AD,AD,AD,AD];have L:(ER t (j:Int) t[j-1]).length=t.length:=pI;rw[Ol (show j-1<(ER t (j:Int) t[j-1]).length by omega),AD,AD];refine Ap.next ⟨j-1,rfl,o!,?_,?_⟩ d!
    unfold ER;dsimp only;rw[CA,CA];exact(List.set_set_perm o! o!).trans o;unfold ER;dsimp only;rw[CA,CA,<-lh (show j-1<t.length by omega),<-lh (show j<t.length by omega)];have n:=AC9 (l:=t) (show j<t.length by omega) E;obtain⟨f,y⟩:=z;refine⟨λa b c d A B=>?_,λb c d=>?_⟩;dsimp only;rw[n,n,if_neg A,if_neg B];split;rename_i e;rw[if_neg o!];exact f (j-1) b o! d o! o!;rename_i e;split;exact f a (j-1) o! o! e o!;rename_i k;exact f a b c d e k;dsimp only;rw[n,n,if_pos rfl,if_neg o!];split;exact Int.le_of_lt v;exact y b o! d
   ·refine BB (Ap.done ⟨o,λa b c d=>?_⟩);obtain⟨f,y⟩:=z;by_cases p:a=j;subst p;exact y b c o!;by_cases k:b=j;subst k;have hr:=hr.resolve_left o!;by_cases D:a=b-1;subst D;exact hr;exact YK (f a (b-1) o! o! p o!) hr;exact f a b c o! p k
 ·rw[AY (x:=(l:Int)+1)];exact Ap.next ⟨l+1,rfl,o!,o!,hr.1,hr.2⟩ d!
theorem AKT{Q:S f->Prop}{a:S f->Int×Int->T (S f)}{l:S f}(e:Ap (a l (0,(U l:Int))) λr=>r.Perm l/\Q r)(h:U l<=12)(n:Int):Ap (sQ (λ(_:S f×(Int×(Int×Int))->T (S f)) p=>pdG a p.1 p.2) (l,0,len l,n)) λr=>r.Perm l/\Q r:=by
 have step:Ap (pdG a l (0,len l,n)) λr=>r.Perm l/\Q r:=by unfold pdG;refine AA (P:=λr=>r.Perm l/\Q r) ?_ λr hr=>AB hr;rw[HX];unfold AJR;dsimp[len];rw[AY,G! o!,B!];have⟨r,hr,c⟩:=e;have g:=cA c.1;grind[p?]
 have⟨r,hr,c⟩:=step;have⟨s,d⟩:=gY (f:=λ(_:S f×(Int×(Int×Int))->T (S f)) p=>pdG a p.1 p.2) (x:=(l,0,len l,n)) (n:=1) hr;have⟨N,b⟩:=dc d;refine⟨s,d,?_⟩;cases N with
 |zero=>cases b
 |succ N=>exact step.get b
theorem AKg{Q:S f->Prop}{a:S f->Int×(Int×Int)->T (S f)}{l:S f}(b:∀n,Ap (a l (0,len l,n)) λr=>r.Perm l/\Q r)(h:U l<=12):Ap (soG a l) λr=>r.Perm l/\Q r:=by unfold soG TH;obtain⟨n,g,-,-⟩:=ABk (x:=U l) o!;have:= @cA;grind[XH,p?,AA,AB]
def AHg(h:U i<=12):Ap (MD i ()) λr=>r.Perm i/\r.Pairwise (· <= ·):=(AKg (AKT (AI6 h) h ·) h).mono λr q=>⟨q.1,Ed.2 λl j c b a=>by have:=q.2 l j a (by rw[<-q.1.length_eq];exact b);rwa [lh c,lh b]at this⟩
def vT(l:AZ)(i:Int):Int:=if l.1>i+1 then l.1 else i+1
def vU(l:AZ)(k:Int):Int:=if l.1+U l.2.1-1<k then l.1+U l.2.1-1 else k
def rA(l:AZ)(lo i k:Int)(e:NE):Bool:=letI b:=(if e.1.2.1<k then e.1.2.1 else k);letI a:=(if e.1.1>i+1 then e.1.1 else i+1);e.1.2.2.1==lo&&τ (a<=b)&&(τ (vT l i>vU l k)||decide (a<vT l i)||decide (b>vU l k))
theorem AD4{S:List EN}{p i k L hi:Int}(h:AR a e)(hl:Qk a d)(hp:0<=p/\p<e.2.1)(B:RC e b)(A:b<=12)(p1:P7 e p L hi)(al:0<=i)(ao:i<=1099511627776)(ho:HZ (e,(d,(p,(i,k))))=some (S,0)):Ap (IR (e,(d,(p,(i,k))))) λu=>u.2.2.2=0/\(u.1.Perm (((DW e).filter (rA d L i k)).map (·.2))/\u.1.Pairwise (· <= ·))/\((vU d k<vT d i/\u.2.1=0/\u.2.2.1=0)\/(vT d i<=vU d k/\u.2.1=vT d i/\u.2.2.1=vU d k)):=by
 unfold IR;dsimp only;rw[ho,AD,bne_self_eq_false,cond_false];refine AA (Rc hl.vl) λv1 W_=>?_;have⟨ar,ad,E,p2⟩:=xT h.vb hp;have C:=p1.uniq h.vb.1 rfl rfl p2;subst C;rw[E,AD,B9,cond_false];obtain⟨q,F,v,R,w2,rfl,w4,w5⟩:=tN h.vb h.ds (K7 h.vb) h.dis;rw[F,AD,AY (x:=i+1)];have Z_:(v.filter λc=>c.1.2.2.1==L).length<=12:=by rw[(R.filter _).length_eq];exact CK (B L) A
 have t: ∀j,((v.take j).filter (rA d L i k)).length<=12:=λj=>by
  refine CK (CK ((nB j v).filter _).length_le ?_) Z_;have c:v.filter (rA d L i k)=(v.filter λc=>c.1.2.2.1==L).filter (rA d L i k):=by rw[List.filter_filter];refine List.filter_congr λx _=>?_;unfold rA;cases (x.1.2.2.1==L)<;>simp
  rw[c];exact EM _ _
 have N:v1=d.1+d.2.1.length-1:=W_;refine AA (P:=λf=>f=(v.filter (rA d L i k)).map (·.2)) ?_ λK y=>?_
 ·refine Ce (λ(s:Int×List Int)=> ∃j:Nat,s.1=j/\s.2=((v.take j).filter (rA d L i k)).map (·.2)/\j<=v.length) (λs=>v.length-s.1.toNat) ⟨0,rfl,rfl,BR _⟩ ?_;rintro⟨_,o⟩ ⟨j,rfl,ok,hk⟩;dsimp only at ok;unfold U1;dsimp[len];have ap:(v.map (·.1)).length=v.length:=BW _;refine AC (λB=>?_) (λB=>Ap.done (by rw[BO o!]at ok;exact ok));have m:j<v.length:=o!
  have z:v.take (j+1)=v.take j++[v[j]]:=by grind[List.take_add_one,List.getElem?_eq_getElem]
  have G:ix (v.map (·.1)) (j:Int)=some v[j].1:=by unfold ix;rw[if_pos o!,Int.toNat_natCast,List.getElem?_map,List.getElem?_eq_getElem m];rfl
  have H:ix (v.map (·.2)) (j:Int)=some v[j].2:=by unfold ix;rw[if_pos o!,Int.toNat_natCast,List.getElem?_map,List.getElem?_eq_getElem m];rfl
  rw[G,AD,H,AY (x:=(j:Int)+1)];have J:rA d L i k v[j]=false->Ap (some (Step.next ((j:Int)+1,o)):Option (Step (Int×List Int) (List Int))) (N2 (λ(s:Int×List Int)=> ∃j:Nat,s.1=j/\s.2=((v.take j).filter (rA d L i k)).map (·.2)/\j<=v.length) (λs=>v.length-s.1.toNat) (v.length-j) λf=>f=(v.filter (rA d L i k)).map (·.2)):=λn=>Ap.next ⟨j+1,rfl,by dsimp only;rw[z,GO,Mb,n];simpa using ok,m⟩ d!
  have w:rA d L i k v[j]=true->Ap (Option.bind (app o [v[j].2]) λQ=>some (Step.next ((j:Int)+1,Q)):Option (Step (Int×List Int) (List Int))) (N2 (λ(s:Int×List Int)=> ∃j:Nat,s.1=j/\s.2=((v.take j).filter (rA d L i k)).map (·.2)/\j<=v.length) (λs=>v.length-s.1.toNat) (v.length-j) λf=>f=(v.filter (rA d L i k)).map (·.2)):=λn=>by
   have ol:o.length<=12:=by rw[ok,BW];exact t j
   refine AA (Aa w!) λQ X=>Ap.next ⟨j+1,rfl,?_,m⟩ d!
   dsimp only;rw[X.1,z,GO,Mb,n,ok];simp
  refine AP (λY_=>?_) (λD=>J (by unfold rA;rw[beq_eq_false_iff_ne.2 D];rfl));rw[AD,N,AY (x:=i+1)];have n:rA d L i k v[j]=(decide ((if v[j].1.1>i+1 then v[j].1.1 else i+1)<=(if v[j].1.2.1<k then v[j].1.2.1 else k))&&(decide (vT d i>vU d k)||decide ((if v[j].1.1>i+1 then v[j].1.1 else i+1)<vT d i)||decide ((if v[j].1.2.1<k then v[j].1.2.1 else k)>vU d k))):=by unfold rA;rw[Y_,beq_self_eq_true,YI]
  refine AC (λg=>J ?_) (λg1=>AC (λg=>w ?_) (λT=>AC (λg=>w ?_) (λU=>AC (λg=>w ?_) (λV_=>J ?_))));rw[n,decide_eq_false o!,pX];rw[n,decide_eq_true o!,decide_eq_true (p:=vT d i>vU d k) g];rfl;rw[n,decide_eq_true o!,decide_eq_true (p:=(if v[j].1.1>i+1 then v[j].1.1 else i+1)<vT d i) g];simp;rw[n,decide_eq_true o!,decide_eq_true (p:=(if v[j].1.2.1<k then v[j].1.2.1 else k)>vU d k) g];simp;rw[n,decide_eq_false (p:=vT d i>vU d k) T,decide_eq_false (p:=(if v[j].1.1>i+1 then v[j].1.1 else i+1)<vT d i) U,decide_eq_false (p:=(if v[j].1.2.1<k then v[j].1.2.1 else k)>vU d k) V_];simp
 have I:K.length<=12:=by have:=t v.length;rw[Hj]at this;rw[y,BW];exact this
 refine AA (AHg I) λM l=>?_;have r:=l.2;have l:=l.1;rw[cA l,cond_true,N];have O:M.Perm (((DW e).filter (rA d L i k)).map (·.2)):=l.trans (by rw[y];exact(R.filter _).map _);exact AC (λg=>AB ⟨rfl,⟨O,r⟩,.inl ⟨g,rfl,rfl⟩⟩) (λg=>AB ⟨rfl,⟨O,r⟩,.inr ⟨Int.not_lt.1 g,rfl,rfl⟩⟩)
structure tL(L:List EN)(d:Int)(m:Nat)(fs:List Aq)(a:AI)(l:AZ)(p:Int)(k:Nat)(fl:Int)(z:BU):Prop where
 page:z.1=p
 want:z.2.2.2.1=k
 fl:fl<=z.2.2.1
 img:∃j:Nat,z.2.2.1=Be (L.take j) p/\Be (L.take j) p<=k/\((z.2.1=0/\j=0)\/∃x,Wk L d m fs (U fs) x/\x.1=z.2.1/\(j:Int)<=d/\x=(x.1,(m:Int),img (L.take j) m))
 used:IR (a,l,p,z.2.2.1,(k:Int))=Z (z.2.2.2.2.1,z.2.2.2.2.2.1,z.2.2.2.2.2.2,0)
def vv{n d:Int}{L:List EN}{l:AZ}{p:Int}{k m c:Nat}{fs:List Aq}(hL:LI n L)(C:ID L)(S:AR L e)(I:Qk L l)(hr:RC e c)(N:c<=12)(hk:k<=L.length)(hm:(m:Int)=e.2.1)(hn:1<=m/\m<=64)(h8:fs.length<=8)(hf: ∀f∈fs,FB IT L d m f)(J:0<=p/\p<e.2.1): ∃K T fl,P7 e p K T/\tK (qJ e l K) k fl/\Ap (Cc (fs,(e,(l,(p,(k:Int)))))) λr=>(r.2.2=49/\r.2.1.2.2.2.2.1=[])\/(r.2.2=0/\r.1=st (L.take k) p/\tL L d m fs e l p k fl r.2.1):=by
 have al:=I.len;have Z_:0<=p/\p<64:=⟨J.1,o!⟩
 have pm:0<=p/\p<m:=⟨J.1,o!⟩
 obtain⟨K,T,fl,p1,Q,_,_⟩:=tH (p:=p) (i:=0) (j:=(k:Int)) (CPa 4096) g! hL o! (Ae _) o! o! S I J;refine⟨K,T,fl,p1,Q,?_⟩;obtain⟨v,hv,rfl⟩:=Fl S.vb;obtain⟨w,hw,rfl⟩:=HB I.vl;have pg:=λj (hq:Be (L.take j) p<=k)=>AKU hL C S I hr N hk J Z_.2 p1 Q (j:=j) hq;obtain⟨V_,hV,v8,H⟩:=qq C o! hn h8 hf;have hP: ∀x∈V_,PI L d m x:=λx hx=>by obtain⟨i,f,_,_,q⟩:=(H x).1 hx;exact q.2.2.1
 unfold Cc;dsimp only;rw[hv,AD,B9,cond_false,hw,AD,B9,cond_false,decide_eq_false o!,cond_false,decide_eq_false o!,cond_false,decide_eq_false o!,cond_false,hV,AD];refine AA (yo C o! hn hV v8 hP pm) λh t=>?_;obtain⟨r8,E⟩:=t;refine AA (P:=λ(r:(Int×AT×BU)⊕ (AT×BU))=>(∃z,r= .inr z)\/ ∃y:BU,r= .inl (0,(st (L.take k) p,y))/\tL L d m fs e l p k fl y) ?_ λr W_=>?_
 ·refine Ce (λ(s:Int×AT×BU)=>0<=s.1/\s.1<=h.length) (λs=>((h.length:Int)-s.1).toNat) ⟨Ae _,d!⟩ ?_;rintro⟨i,s⟩ ⟨i0,i1⟩;dsimp only at i0 i1;unfold SH;dsimp only[len];refine AC (λD=>?_) (λD=>Ap.done (.inl ⟨_,rfl⟩));rw[AY (x:=i+1)];refine AA (AJ i0 D) λv5 h5=>?_;obtain⟨x,M,xk,xe⟩:=(E v5).1 h5.2;obtain⟨j,hj,x1,x2,O⟩:=hP x M;have ao:tc x p=Be (L.take j) p:=by rw[O];exact AEM pm
  refine AA (AH7 v8 (y:=v5) ⟨x,M,by rw[xe]⟩) λv9 h9=>?_;obtain⟨g,G,rfl,g0,gx,R⟩:=h9;have X:G=x:=Wk.uniq C o! hn ((H G).1 (BN gx)) ((H x).1 M) (R.trans (by rw[xe]));subst X;apply BB;have U:ix V_ g=some G:=by unfold ix;rw[if_pos g0,gx]
  have b:=xQ C (by omega:L.length<=1099511627776) (j:=j) ⟨x1,x2⟩ hn pm;rw[<-O]at b;rw[U,AD,b,AD,bne_self_eq_false,cond_false,Kb];rcases pg j o! with⟨A,B,a⟩|⟨A,B⟩
  ·rw[B,AD,bne_self_eq_false,cond_false];obtain⟨u,a,F⟩:=a;rw[a,AD,F,beq_self_eq_true,cond_true];exact Ap.done (.inr ⟨_,rfl,rfl,rfl,A,⟨j,rfl,o!,.inr ⟨G,(H G).1 M,by rw[xe],hj,O⟩⟩,by dsimp only;rw[a,<-F]⟩)
  ·refine AA B λad o=>AL (λ_=>Ap.next d! d!) (λY_=>absurd Y_ o)
 rcases W_ with⟨z,rfl⟩|⟨y,rfl,A⟩;apply Ax;have l0:Be (L.take 0) p=0:=rfl;have f0:=Q.1;rw[show DR p=some (st (L.take 0) p)from rfl,AD,Kb];rcases pg 0 (by rw[l0];omega)with⟨A,B,a⟩|⟨A,B⟩;rw[B,AD,bne_self_eq_false,cond_false];obtain⟨u,a,F⟩:=a;rw[a,AD,F,beq_self_eq_true,cond_true];exact AB (.inr ⟨rfl,rfl,rfl,rfl,A,⟨0,rfl,by rw[l0];omega,.inl ⟨rfl,rfl⟩⟩,by dsimp only;rw[a,<-F]⟩);exact AA B λad o=>AL (λ_=>AB (.inl ⟨rfl,rfl⟩)) (λY_=>absurd Y_ o);exact BB (AB (.inr ⟨rfl,rfl,A⟩))
def cvr(P:S A0)(n:Int):Prop:=∃s∈P,s.1<=n/\n<=s.2.1
def ACZ{x:List A0×BU}{s:Int×Bool}(h:x.1.length<=1000):Ap (Aj (MC x s) 0) λr=>(∃(i:Nat) (u:A0),r= .inl (i:Int)/\x.1[i]? =some u/\u.1<=s.1/\s.1<=u.2.1)\/(r= .inr ()/\ ¬cvr x.1 s.1):=by
 refine Ce (λ(t:Int)=> ∃i:Nat,t=i/\i<=x.1.length/\ ∀u∈x.1.take i,¬(u.1<=s.1/\s.1<=u.2.1)) (λt=>x.1.length-t.toNat) ⟨0,rfl,BR _,λu b=>by simp at b⟩ ?_;rintro _ ⟨i,rfl,g,b⟩;unfold MC;dsimp[len];refine AC (λf=>?_) (λf=>Ap.done (.inr ⟨rfl,?_⟩))
 ·have a:i<x.1.length:=o!
  rw[Ol a,AD,AY (x:=(i:Int)+1)];have key: ¬(x.1[i].1<=s.1/\s.1<=x.1[i].2.1)-> ∀u∈x.1.take (i+1),¬(u.1<=s.1/\s.1<=u.2.1):=λhn u c=>by rw[Cr,As a]at c;rcases Am.1 c with q|q;exact b u q;rw[A9.1 q];exact hn
  exact AC (λd=>AC (λe=>Ap.done (.inl ⟨i,x.1[i],rfl,As a,d,e⟩)) (λe=>Ap.next ⟨i+1,rfl,a,key λq=>e q.2⟩ o!)) (λd=>Ap.next ⟨i+1,rfl,a,key λq=>d q.1⟩ o!)
 rintro⟨u,c,q⟩;rw[BO o!]at b;exact b u c q
def AHr{x:S A0×BU}(h:U x.1<=1000)(o:∀u∈x.1,u.2.1<=1099511627776)(B:0<=x.2.2.2.1)(C:x.2.2.2.1<=1099511627776)(D:x.2.2.2.2.1<=1099511627776):Ap (Ho x) λb=>b=V↔∀n,x.2.2.2.1<n->n<=x.2.2.2.2.1->cvr x.1 n:=by
 unfold Ho;rw[AY (x:=x.2.2.2.1+1)];have step:∀{s:Int}{i:Nat}{u:A0},(∀n,x.2.2.2.1<n->n<s->cvr x.1 n)->x.1[i]?=Z u->u.1<=s->s<=u.2.1->∀n,x.2.2.2.1<n->n<u.2.1+1->cvr x.1 n:=λ{s i u} v a g k n d m=>by by_cases hn:n<s;exact v n d hn;exact⟨u,BN a,o!⟩
 refine AC (λc=>?_) (λc=>AB ⟨λ_ n d m=>o!,λ_=>rfl⟩);rw[show V4 x=MC x (wi (x.2.2.2.1+1),Y)from rfl,AY (x:=x.2.2.2.1+1)];refine AA (ACZ h) λr hr=>?_;rcases hr with⟨i,u,rfl,a,g,k⟩|⟨rfl,hn⟩
 ·apply BB;dsimp only at g k;have y:=o u (BN a);rw[G! o!,B!,Ol (EU.1 a).1,AD,(EU.1 a).2,AY (x:=u.2.1+1)];refine AA (P:=λr=>(∃b,r=.inl b/\∀n,x.2.2.2.1<n->n<=x.2.2.2.2.1->cvr x.1 n)\/(r=.inr Y/\¬ ∀n,x.2.2.2.1<n->n<=x.2.2.2.2.1->cvr x.1 n)) ?_ λr hr=>?_
  ·refine Ce (λs=>x.2.2.2.1<s.1/\s.1<=1099511627777/\∀n,x.2.2.2.1<n->n<s.1->cvr x.1 n) (λs=>(x.2.2.2.2.1+1-s.1).toNat) ⟨d!,d!,step (s:=x.2.2.2.1+1) (λn d m=>o!) a g k⟩ ?_;rintro⟨s,b⟩ ⟨p,A,l⟩;dsimp only at p A l;unfold V5;dsimp only;refine AC (λc=>?_) (λc=>k? (.inl ⟨_,rfl,λn d m=>l n d o!⟩));refine AA (ACZ (s:=(s,b)) h) λr hr=>?_;rcases hr with⟨j,w,rfl,f,k1,t⟩|⟨rfl,hn⟩
   ·apply BB;dsimp only at k1 t;have z:=o w (BN f);rw[G! o!,B!,Ol (EU.1 f).1,AD,(EU.1 f).2,AY (x:=w.2.1+1)];exact y! ⟨d!,d!,step l f k1 t⟩ d!
   ·exact Ax (k? (.inr ⟨rfl,λq=>hn (q s p c)⟩))
  rcases hr with⟨b,rfl,q⟩|⟨rfl,q⟩;exact BB (AB ⟨λ_=>q,λ_=>rfl⟩);exact Ax (AB ⟨λe=>by (first|cases e|simp at e),λe=>N! e q⟩)
 refine Ax (AB ⟨λe=>by (first|cases e|simp at e),λq=>N! (q _ o! c) hn⟩)
def AGA(h:i.length<=1000):Ap (K3 (i,c)) λr=>(r= -1/\c∉i)\/ ∃a:Nat,r=a/\i[a]? =some c:=by
 unfold K3;refine AA (P:=λ(r:Int ⊕ Unit)=>(∃a:Nat,r= .inl (a:Int)/\i[a]? =some c)\/(r= .inr ()/\c∉i)) ?_ λr hr=>?_
 ·refine Ce (λ(t:Int)=> ∃a:Nat,t=a/\a<=i.length/\c∉i.take a) (λt=>i.length-t.toNat) ⟨0,rfl,BR _,q!⟩ ?_;rintro _ ⟨a,rfl,j,f⟩;unfold R7;dsimp[len];refine AC (λg=>?_) (λg=>Ap.done (.inr ⟨rfl,by rwa [BO o!]at f⟩));have b:a<i.length:=o!
  rw[Ol b,AD,AY (x:=(a:Int)+1)];refine AP (λe=>Ap.done (.inl ⟨a,rfl,by rw[e];exact As b⟩)) (λe=>Ap.next ⟨a+1,rfl,b,λd=>?_⟩ o!);rw[Cr,As b]at d;rcases Am.1 d with q|q;exact f q;exact e (A9.1 q)
 rcases hr with⟨a,rfl,q⟩|⟨rfl,q⟩;exact BB (AB (.inr ⟨a,rfl,q⟩));exact Ax (AB (.inl ⟨rfl,q⟩))
def nt(e:NE):A0:=(e.1.1,e.1.2.1,e.1.2.2.2.2.2)
def Z1(l:AZ)(f t:Int):S A0:=if f=0 then []else [(f,t,(l.2.1.drop (f-l.1).toNat).take (t-f+1).toNat)]
def xL{z:BU}(h:AR a e)(g:De d)(N:0≤z.1∧z.1<e.2.1)(V_:P7 e z.1 c j){E:List NE}(G: ∀L∈E,L∈DW e∧L.1.2.2.1=c)(Q:z.2.2.2.2.1=E.map (·.2))(M:E.length≤1000)
  (K:z.2.2.2.2.2.1=0\/(d.1<=z.2.2.2.2.2.1/\z.2.2.2.2.2.1<=z.2.2.2.2.2.2/\z.2.2.2.2.2.2<=d.1+d.2.1.length-1)):H9 (e,(d,z))=some (E.map nt++Z1 d z.2.2.2.2.2.1 z.2.2.2.2.2.2,true):=by
 suffices O:Ap (H9 (e,(d,z))) λr=>r=(E.map nt++Z1 d z.2.2.2.2.2.1 z.2.2.2.2.2.2,true) by obtain⟨r,hr,rfl⟩:=O;exact hr
 have H:=g.1;unfold H9;dsimp only;have⟨S,C,u,W_⟩:=xT h.vb N;have t:=V_.uniq h.vb.1 rfl rfl W_;subst t;rw[u,AD,B9,cond_false];obtain⟨q,w,v,D,w2,rfl,w4,w5⟩:=tN h.vb h.ds (K7 h.vb) h.dis;rw[w,AD];have nd:(v.map (·.2)).Nodup:=((D.map (·.2)).nodup_iff).2 (IL.2 ((lz h.vb).imp λh L=>o!));refine AA (P:=λr=>r= .inr (E.map nt)) ?_ λr hr=>?_
 ·refine Ce (λ(s:Int×List A0)=> ∃f:Nat,s.1=f/\s.2=(E.take f).map nt/\f<=E.length) (λs=>E.length-s.1.toNat) ⟨0,rfl,rfl,BR _⟩ ?_;rintro⟨_,o⟩ ⟨f,rfl,ok,hk⟩;dsimp only at ok;unfold UX;dsimp only[len];rw[Q];refine AC (λp=>?_) (λp=>Ap.done (by rw[BW]at p;rw[BO o!]at ok;rw[ok]));rw[BW]at p;have b:f<E.length:=o!
  obtain⟨T,U⟩:=G E[f] (GW b);rw[Ol (l:=E.map (·.2)) (by rw[BW];exact b),AD,List.getElem_map];refine AA (AGA (by rw[BW];omega)) λr hr=>?_;have B:E[f]∈v:=D.mem_iff.2 T;rcases hr with⟨_,hn⟩|⟨i,rfl,j⟩;exact absurd (Bn.2 ⟨_,B,rfl⟩) hn
  ·have l:i<v.length:=by have:=(EU.1 j).1;rwa [BW]at this
   have J:v[i]=E[f]:=by obtain⟨R,C,A⟩:=List.getElem_of_mem B;have:=(px (l:=v.map (·.2)) (i:=i) (j:=R) (by rw[BW];exact l) nd).1 (by rw[j,CR,As C,A];rfl);subst this;exact A
   rw[decide_eq_false o!,cond_false,Ol (l:=v.map (·.1)) (by rw[BW];exact l),AD,List.getElem_map,J,U,bne_self_eq_false,cond_false,AD,AD,AD];refine AA (Aa (by rw[ok,BW,BQ,WA];omega)) λv9 F=>?_;rw[AY (x:=(f:Int)+1)];refine Ap.next ⟨f+1,rfl,?_,b⟩ d!
   rw[F.1,ok,Cr,As b,LD];rfl
 rw[hr];apply Ax;refine AP (λL=>AB (by unfold Z1;rw[if_pos L,List.append_nil])) (λL=>?_);obtain⟨f1,f2,f3⟩:=K.resolve_left L;rw[decide_eq_false o!,cond_false];refine AA (Rc g) λy k=>?_;have Z_:y=d.1+d.2.1.length-1:=k;have hb:=g.2.1;have I:=g.2.2.1;rw[decide_eq_false o!,cond_false,AY (x:=z.2.2.2.2.2.1-d.1),AY (x:=z.2.2.2.2.2.2-d.1),AY (x:=z.2.2.2.2.2.2-d.1+1)];refine AA (Bg) λX m=>AA (Aa (by rw[BW,WA];omega)) λY n=>AB ?_;rw[n.1,m.1];unfold Z1;rw[if_neg L,show(z.2.2.2.2.2.2-d.1+1).toNat-(z.2.2.2.2.2.1-d.1).toNat=(z.2.2.2.2.2.2-z.2.2.2.2.2.1+1).toNat by omega]
def AGQ{V_:List A7}{z:AT}(l:Io g=some V_)(C:V_.length<=1000)(u: ∀x∈V_,∀y∈V_,x.1=y.1->x=y)(b:(h.2.1=0/\DR h.1=some z)\/(h.2.1≠0/\ ∃x∈V_,x.1=h.2.1/\Ra (x,h.1)=some (z,0)/\z.2.1=h.2.2.1)):Hn (g,h)=some (z,true):=by
 unfold Hn;dsimp only;rcases b with⟨c,d⟩|⟨c,x,f,k,d,v⟩;rw[c,beq_self_eq_true,cond_true,d];rfl;rw[beq_eq_false_iff_ne.2 c,cond_false,l,AD];suffices t:Ap (Aj (QH (g,h) V_) (0,(0,(0,(Gd.all (false,[])))))) λr=>r= .inl (true,z) by obtain⟨r,hr,rfl⟩:=t;rw[hr];rfl
 obtain⟨B,p,w⟩:=List.getElem_of_mem f;refine Ce (λ(s:Int×AT)=> ∃j:Nat,s.1=j/\j<=V_.length/\x∉V_.take j) (λs=>V_.length-s.1.toNat) ⟨0,rfl,BR _,q!⟩ ?_;rintro⟨_,o⟩ ⟨j,rfl,A,hn⟩;unfold QH;dsimp only[len];refine AC (λm=>?_) (λm=>absurd f (by rwa [BO o!]at hn));have a:j<V_.length:=o!
 rw[Ol a,AD];apply AP<;>intro e
 ·have n:V_[j]=x:=u _ (GW a) _ f (by rw[k];exact e);rw[n,d,AD,beq_self_eq_true,cond_true,v,beq_self_eq_true];exact Ap.done rfl
 ·rw[AY (x:=(j:Int)+1)];refine Ap.next ⟨j+1,rfl,a,λi=>?_⟩ d!
  rw[Cr,As a]at i;rcases Am.1 i with q|q;exact hn q;have q:=A9.1 q;exact e (by rw[<-q,k])
theorem AGP:I2 ()=δ ζ:=by
 suffices A:Ap (I2 ()) λr=>r=ζ by obtain⟨r,hr,rfl⟩:=A;exact hr
 have G:De ((1,[],0):AZ):=⟨g!,g!,g!,g!,g!,λi e h=>by simp at h⟩
 have hn:G6 ()=δ (1,[],0):=rfl;unfold I2;refine AA (ADx (L:=[]) (x:=(2,[0])) ⟨g!,g!,g!,g!,rfl,λi a b D o S=>by simp at o S,λa o=>by simp at o;omega⟩) λv h=>?_;have⟨l,z2,B,z4,g,z6⟩:=h;dsimp only at g;have n:Qk [] ((1,[],0):AZ):=XP G;rw[hn,AD];have⟨lo,D,fl,p1,f1,V_⟩:=vv (fs:=[]) (p:=1) (m:=2) (k:=0) (d:=0) (LI.nil 0) ID.nil l n B g! (Al _) g.symm g! g! (λf s=>by simp at s) ⟨g!,by rw[g];decide⟩;have⟨r,e,r1,r2⟩:=ACj (fs:=[]) (p:=1) (m:=2) (k:=0) (d:=0) (LI.nil 0) ID.nil l n (AEX (L:=[]) rfl (BR _)) B g! (Al _) g.symm g! g! (λf s=>by simp at s) ⟨g!,by rw[g];decide⟩;have⟨r',I,hr⟩:=V_;have K:=e.symm.trans I;cases K;rcases hr with⟨q,_⟩|⟨_,_,R⟩;omega;have⟨h1,h2,h3,⟨j,P,h5,Q⟩,C⟩:=R;have J:Cc ([],v.1,(1,[],0),1,0)=δ r:=e;have q0:r.2.1.2.2.1=0:=by rw[P,List.take_nil];rfl
 have i0:r.2.1.2.1=0:=by rcases Q with q|⟨x,⟨i,f,D,_⟩,_⟩;exact q.1;simp_all[Nat.not_lt_zero]
 rw[q0]at C;have⟨ad,U,O,H,M,_,y⟩:=tH (p:=1) (i:=0) (j:=((0:Nat):Int)) (CPa 4096) g! (LI.nil 0) g! (Ae _) g! g! l n ⟨g!,by rw[g];decide⟩;have N:=M.2.1;have⟨u,F,u1,u2,u3⟩:=AD4 l n ⟨g!,by rw[g];decide⟩ B g! H (Ae _) g! (y.resolve_left λq=>o!).2;rw[C]at F;cases F;have Z_:r.2.1.2.2.2.2.1=[]:=by grind[List.Perm.eq_nil,List.filter_eq_nil_iff,List.Perm.nil,rA]
 have ft:r.2.1.2.2.2.2.2.1=0/\r.2.1.2.2.2.2.2.2=0:=by rcases u3 with q|q;exact q.2;exact N! q.1 g!
 have Y_:r.2.1=(1,0,0,0,[],0,0):=by grind[Prod.ext]
 have c:JW (1,0,0,0,[],0,0)=δ ζ:=by unfold JW;rw[HX];rfl
 have⟨q,W_,q1⟩:=Fl l.vb;have⟨w,X,w1⟩:=HB G;have t:EZ ([],v.1,(1,[],0),1,0,0,0,[],0,0)=δ (st (([]:Ψ EN).take 0) 1,0):=by
  unfold EZ;dsimp only;rw[W_,q1,AD,B9,A!,X,w1,AD,B9,A!,c,AD,B9,A!];rw[show Hn (([]:Ψ Aq),((1,0,0,0,[],0,0):BU))=δ (st (([]:Ψ EN).take 0) 1,ζ)from rfl,AD];rw[xL (z:=(1,0,0,0,[],0,0)) (E:=[]) l n.vl ⟨g!,by rw[g];decide⟩ H (λe T=>by simp at T) rfl g! (.inl rfl),AD];dsimp only;rw[B9,A!,A!];rw[show Ho (List.map nt []++Z1 (1,[],0) 0 0,((1,0,0,0,[],0,0):BU))=δ ζ from rfl,AD,B9,A!];rw[HX,show K2 ([],v.1,(1,[],0),1,0,0,0,[],0,0) (List.map nt []++Z1 (1,[],0) 0 0,ζ) (0,(0,0,Gd.all (η,[])),[])=δ (.done (.inr ((0,0,Gd.all (η,[])),[])))from rfl];dsimp[p?,Sum.elim_inr];have A:F9 [] ()=δ []:=by unfold F9 AAH;grind[List.mergeSort_nil]
  rw[A];dsimp[p?,List.length_nil,len];rw[show ξ 0 0=ζ from rfl,B!,G! g!,B!,yS (es:=[]) trivial g!];rfl
 unfold LW;rw[J,AD,AD,r2,L!,B!,Y_,L!,B!,c,AD,B!,AD];rw[show DR 1=δ (st (([]:Ψ EN).take 0) 1)from rfl,AD];unfold Tj;dsimp only;rw[t,AD,L!,B!,w9];exact AB rfl
structure GP(z:BU):Prop where
 page:0<=z.1/\z.1<64
 img:0<=z.2.1/\z.2.1<=1073741824
 lsn:0<=z.2.2.1/\z.2.2.1<=z.2.2.2.1/\z.2.2.2.1<=1099511627776
 none:z.2.1=0->z.2.2.1=0
 asc:z.2.2.2.2.1.Pairwise (· < ·)
 pos:∀d∈z.2.2.2.2.1,1<=d
 log:(z.2.2.2.2.2.1=0/\z.2.2.2.2.2.2=0)\/(1<=z.2.2.2.2.2.1/\z.2.2.2.2.2.1<=z.2.2.2.2.2.2)
theorem AGK(z:h.2.2.2.2.1.length<=1000):Ap (Aj (JG h) (0,0)) λr=>r= .inr ()\/(r= .inl false/\ ¬GP h):=by
 refine Ce (λ(s:Int×Int)=> ∃j:Nat,s.2=j/\j<=h.2.2.2.2.1.length/\((j=0/\s.1=0)\/ ∃i,j=i+1/\h.2.2.2.2.1[i]? =some s.1)) (λs=>h.2.2.2.2.1.length-s.2.toNat) ⟨0,rfl,BR _,.inl ⟨rfl,rfl⟩⟩ ?_;rintro⟨l,_⟩ ⟨j,rfl,k,f⟩;unfold JG;dsimp[len];refine AC (λd=>?_) (λd=>Ap.done (.inl rfl));have a:j<h.2.2.2.2.1.length:=o!
 rw[Ol a,AD,AY (x:=(j:Int)+1)];refine AC (λc=>Ap.done (.inr ⟨rfl,λg=>?_⟩)) (λc=>Ap.next ⟨j+1,rfl,a,.inr ⟨j,rfl,As a⟩⟩ k!);rcases f with⟨_,rfl⟩|⟨i,rfl,e⟩;have:=g.pos _ (GW a);omega;have b:=(EU.1 e)
 have:=Ed.1 g.asc i (i+1) b.1 a o!;grind
theorem AGL(z:U h.2.2.2.2.1<=1000):Ap (JW h) λb=>GP h->b=V:=by
 have d:Ap (bif h.2.2.2.2.2.1==0 then bif h.2.2.2.2.2.2==0 then Z V else bif τ (h.2.2.2.2.2.1>=1)then Z (τ (h.2.2.2.2.2.1<=h.2.2.2.2.2.2))else Z Y else bif τ (h.2.2.2.2.2.1>=1)then Z (τ (h.2.2.2.2.2.1<=h.2.2.2.2.2.2))else Z Y) λb=>GP h->b=V:=by refine AP (λc=>AP (λ_=>AB λ_=>rfl) (λk=>AC (λ_=>AB λg=>?_) (λ_=>AB λg=>?_))) (λc=>AC (λ_=>AB λg=>?_) (λ_=>AB λg=>?_));grind;have:=g.log;omega;have:=g.log;exact G! o!;have:=g.log;omega
 have lp:Ap (σ (Aj (JG h) (0,0)) λj=>ν (Z ·) (λl=>bif h.2.2.2.2.2.1==0 then bif h.2.2.2.2.2.2==0 then Z V else bif τ (h.2.2.2.2.2.1>=1)then Z (τ (h.2.2.2.2.2.1<=h.2.2.2.2.2.2))else Z Y else bif τ (h.2.2.2.2.2.1>=1)then Z (τ (h.2.2.2.2.2.1<=h.2.2.2.2.2.2))else Z Y) j) λb=>GP h->b=V:=by grind[AA,AGK,AB]
 have a:∀{P:Prop},(GP h->¬P)->P->Ap (Z Y) λb=>GP h->b=V:=λhn f=>AB λg=>N! f (hn g);refine AC (a λg=>by have:=g.page;omega) λ_=>AC (a λg=>by have:=g.page;omega) λ_=>AC (a λg=>by have:=g.img;omega) λ_=>AC (a λg=>by have:=g.img;omega) λ_=>AC (a λg=>by have:=g.lsn;omega) λ_=>AC (a λg=>by have:=g.lsn;omega) λ_=>AC (a λg=>by have:=g.lsn;omega) λ_=>AP (λe=>AC (a λg=>by have:=g.none e;omega) λ_=>lp) λ_=>lp
def VN(R:Int->T (AT×BU×Int)):Nat->S BU
 |0=>[]
 |j+1=>VN R j++(match R j with|some r=>if r.2.2=0 then [r.2.1]else []|none=>[])
def iL(R:Int->T (AT×BU×Int)):Nat->S Int
 |0=>[]
 |j+1=>iL R j++(match R j with|some r=>if r.2.2=0 then []else [(j:Int)]|none=>[])
theorem kv(R:Int->T (AT×BU×Int)):∀j,(VN R j).length<=j/\(iL R j).length<=j
 |0=>⟨Al _,Al _⟩
 |j+1=>by have⟨a,b⟩:=kv R j;grind[VN,iL]
theorem sE{R:Int->T (AT×BU×Int)}{z:BU}:∀{j:Nat},z∈VN R j->∃i:Nat,i<j/\∃r,R i=Z r/\r.2.2=0/\r.2.1=z
 |j+1,h=>by rcases Am.1 h with q|q;obtain⟨i,a,k⟩:=sE q;grind;grind
theorem AJp{m:Nat}(f:VB e)(i:De d)(v:0<=c)(y:(m:Int)=e.2.1)(l:m<=64)(b: ∀p:Nat,p<m->Ap (Cc (g,(e,(d,((p:Int),c))))) λ_=>True):Od (g,(e,(d,c)))=some (VN (λp=>Cc (g,(e,(d,(p,c))))) m,(iL (λp=>Cc (g,(e,(d,(p,c))))) m,0)):=by
 suffices k:Ap (Od (g,(e,(d,c)))) λr=>r=(VN (λp=>Cc (g,(e,(d,(p,c))))) m,(iL (λp=>Cc (g,(e,(d,(p,c))))) m,0)) by obtain⟨r,hr,rfl⟩:=k;exact hr
 have⟨q,n,q1⟩:=Fl f;have⟨w,a,t⟩:=HB i;unfold Od;dsimp only;rw[n,q1,AD,B9,cond_false,a,t,AD,B9,cond_false,decide_eq_false o!,cond_false];refine AA (P:=λr=>r=(VN (λp=>Cc (g,(e,(d,(p,c))))) m,iL (λp=>Cc (g,(e,(d,(p,c))))) m)) (Ce (λ(s:Int×(List BU×List Int))=> ∃j:Nat,s.1=j/\j<=m/\s.2=(VN (λp=>Cc (g,(e,(d,(p,c))))) j,iL (λp=>Cc (g,(e,(d,(p,c))))) j)) (λs=>m-s.1.toNat) ⟨0,rfl,BR _,rfl⟩ ?_) λr hr=>AB (by rw[hr]);rintro⟨_,o⟩ ⟨j,rfl,u,z⟩;have⟨l1,l2⟩:=kv (λp=>Cc (g,(e,(d,(p,c))))) j;unfold Xp;dsimp only;refine AC (λh=>?_) (λh=>Ap.done k!);have⟨r,hr,_⟩:=b j o!;unfold LW;rw[hr,AD,AD,AY (x:=(j:Int)+1)];refine AA (P:=λs=>s=(VN (λp=>Cc (g,(e,(d,(p,c))))) (j+1),iL (λp=>Cc (g,(e,(d,(p,c))))) (j+1))) ?_ λs k=>Ap.next ⟨j+1,rfl,o!,k⟩ k!
 grind[VN,iL,AP,AA,Aa,List.length_singleton,AB]
theorem ADQ{i k:Type}{f:i->k}{l l2:S k}(h:l.Perm l2):∀m:S i,l2=m.map f->∃d:S i,d.Perm m/\d.map f=l:=by
 induction h with
 |nil=>simp_all
 |cons x h o=>
  intro m c;cases m with
  |nil=>cases c
  |cons a m=>injection c with n j;have⟨d,p,q⟩:=o m j;exact⟨a::d,p.cons a,k!⟩
 |swap x y l=>
  intro m c;match m with
  |a::b::m=>exact⟨b::a::m,.swap a b m,k!⟩
 |trans n j e g=>intro m c;have⟨r,t,q1⟩:=g m c;have⟨s,u,q2⟩:=e r q1.symm;exact⟨s,u.trans t,q2⟩
theorem ACR(h:AR a e):∀L∈DW e,aS L.1:=by have⟨q,b,v,c,d,_,f,g⟩:=tN h.vb h.ds (K7 h.vb) h.dis;grind
def AIM{e}(h:rA d c j l e=V):e.1.2.2.1=c/\∃n,j<n/\n<=l/\e.1.1<=n/\n<=e.1.2.1/\¬(vT d j<=n/\n<=vU d l):=by
 unfold rA at h;simp only[BV,P0,K!,J!]at h;obtain⟨⟨k,b⟩,a⟩:=h;refine⟨k,?_⟩;generalize f:(if e.1.1>j+1 then e.1.1 else j+1)=pa at b a;generalize g:(if e.1.2.1<l then e.1.2.1 else l)=pb at b a;have a1:j<pa/\e.1.1<=pa:=by split at f<;>omega
 have i:pb<=l/\pb<=e.1.2.1:=by split at g<;>omega
 rcases a with(a|a)|a;exact⟨pa,o!⟩;exact⟨pa,o!⟩;exact⟨pb,o!⟩
def AJT{V_ fl:Int}{p:Nat}(S:LI c a)(T:ID a)(r:AR a e)(B:Qk a d)(hr:RC e p)(o:p≤12)(hk:k≤θ a)(hm:(b:Int)=e.2.1)(hn:1≤b∧b≤64)(h8:θ g≤8)(hf:∀f∈g,FI a j b f)(K:0≤l∧l<e.2.1)
  (M:P7 e l m V_) (N:tK (qJ e d m) k fl)  (X:tL a j b g e d l k fl h):∃E:Ψ NE,E.map (·.2)=h.2.2.2.2.1/\θ E<=12/\E.Nodup/\(∀L,L∈E↔L∈DW e/\rA d m h.2.2.1 k L=ζ)/\((vU d k<vT d h.2.2.1/\h.2.2.2.2.2.1=0/\h.2.2.2.2.2.2=0)\/(vT d h.2.2.1<=vU d k/\h.2.2.2.2.2.1=vT d h.2.2.1/\h.2.2.2.2.2.2=vU d k))/\(h.2.2.2.2.2.1=0\/(d.1<=h.2.2.2.2.2.1/\h.2.2.2.2.2.1<=h.2.2.2.2.2.2/\h.2.2.2.2.2.2<=d.1+θ d.2.1-1))/\h.2.2.2.2.1.Pairwise (· <= ·)/\h.2.2.2.2.1.Nodup:=by
 have J:=B.len;obtain⟨h1,h2,h3,⟨z,h4,h5,h6⟩,Q⟩:=X;have q0:=TJ T l z;obtain⟨Y_,W_,P,Z_,O,_,F⟩:=tH (p:=l) (i:=h.2.2.1) (j:=(k:Int)) (CPa 4096) g! S o! o! o! o! r B K;have D:=M.uniq r.vb.1 rfl rfl Z_;subst D;have A:=N.uniq (λ_=>YJ) O;subst A;obtain⟨u,t,u1,v,H⟩:=AD4 r B K hr o M o! o! (F.resolve_left λq=>o!).2;rw[Q]at t;injection t with t;subst t;dsimp only at u1 v H;obtain⟨n,s,I⟩:=ADQ v.1 _ rfl;have R:∀L∈n,L∈DW e/\rA d m h.2.2.1 k L=ζ:=λL U=>BS.1 (s.mem_iff.1 U);have C:θ n=θ h.2.2.2.2.1:=by rw[<-I,BW]
 have y:θ n<=12:=by rw[s.length_eq];refine CK ?_ (CK (hr m) o);rw[show(DW e).filter (rA d m h.2.2.1 k)=((DW e).filter λL=>L.1.2.2.1==m).filter (rA d m h.2.2.1 k) by rw[List.filter_filter];refine List.filter_congr λx _=>?_;unfold rA;cases (x.1.2.2.1==m)<;>simp];exact EM _ _
 have G:n.Nodup:=(s.nodup_iff).2 ((K7 r.vb).filter _);refine⟨n,I,y,G,λL=>by rw[s.mem_iff,BS],H,?_,v.2,(v.1.nodup_iff).2 (((IL.2 ((lz r.vb).imp λw L=>o!)).sublist ((WK).map _)))⟩;rcases H with q|⟨q1,q2,q3⟩;exact .inl q.2.1;refine .inr ⟨?_,o!,?_⟩;rw[q2];unfold vT;split<;>omega;rw[q3];unfold vU;split<;>omega
theorem Ld{a:Type}{l:List a}{i:Nat}(h:i<l.length):l.take (i+1)=l.take i++[l[i]]:=by grind[List.take_add_one]
theorem vQ{x:A0×BU}(h:x.1.2.2.length<=4096):Aj (Gv x) (0,[])=some (x.1.2.2.filter (IF x.2.1 x.2.2.2.1 x.2.2.2.2.1)):=by
 suffices l:Ap (Aj (Gv x) (0,[])) λr=>r=x.1.2.2.filter (IF x.2.1 x.2.2.2.1 x.2.2.2.2.1) by obtain⟨r,hr,rfl⟩:=l;exact hr
 refine Ce (λ(s:Int×List AE)=> ∃j:Nat,s.1=j/\j<=x.1.2.2.length/\s.2=(x.1.2.2.take j).filter (IF x.2.1 x.2.2.2.1 x.2.2.2.2.1)) (λs=>x.1.2.2.length-s.1.toNat) ⟨0,rfl,BR _,rfl⟩ ?_;rintro⟨_,o⟩ ⟨j,rfl,n,b⟩;dsimp only at b;unfold Gv;dsimp[len];refine AC (λk=>?_) (λk=>Ap.done (by rw[BO o!]at b;exact b));have a:j<x.1.2.2.length:=o!
 rw[Ol a,AD,uz,AD,AY (x:=(j:Int)+1)];have c:IF x.2.1 x.2.2.2.1 x.2.2.2.2.1 x.1.2.2[j]=false-> ∃i:Nat,((j:Int)+1,o).1=i/\i<=x.1.2.2.length/\((j:Int)+1,o).2=(x.1.2.2.take i).filter (IF x.2.1 x.2.2.2.1 x.2.2.2.2.1):=λm=>⟨j+1,rfl,a,by rw[Ld a,GO,Mb,m];simpa using b⟩
 have p:o.length<=4096:=k!
 refine AK (λd=>AP (λe=>AC (λf=>?_) (λf=>Ap.next (c ?_) d!)) (λe=>Ap.next (c ?_) d!)) (λd=>Ap.next (c ?_) d!)
 ·refine AA (P:=λr=>r=(x.1.2.2.take (j+1)).filter (IF x.2.1 x.2.2.2.1 x.2.2.2.2.1)) (AC (λg=>?_) (λg=>AB ?_)) λr hr=>Ap.next ⟨j+1,rfl,a,hr⟩ d!
  grind[AA,Aa,List.length_singleton,AB,Ld,IF];grind[Ld,IF]
 grind[IF];grind[IF];grind[IF]
theorem AFv{x:A0×BU}(h:x.1.2.2.length<=4096):N0 x=some (x.1.2.2.filter (IF x.2.1 x.2.2.2.1 x.2.2.2.2.1)):=by grind[N0,vQ]
def nz(s:A0)(e:EN):Bool:=decide (s.1<=e.1)&&decide (e.1<=s.2.1)
theorem AH5{x:A0×A0×BU}(h:a.length<=4096):(Option.bind (Aj (JH x a) 0) λE=>Sum.elim (λv=>bif (v==(-1))then some a else Option.bind (Aj (JI x) ((wi (v+1)),(v,a))) λc=>Option.bind (vp c.2 c.1 (0,(0,(0,(0,(0,(0,((0,(0,((false,[]),(false,[])))),[])))))))) λm=>Option.bind (Xf m 0 c.1) λf=>some f) (λD=>some a) E)=some (a.filter (nz x.2.1)):=by
 suffices I:Ap (Option.bind (Aj (JH x a) 0) λE=>Sum.elim (λv=>bif (v==(-1))then some a else Option.bind (Aj (JI x) ((wi (v+1)),(v,a))) λc=>Option.bind (vp c.2 c.1 (0,(0,(0,(0,(0,(0,((0,(0,((false,[]),(false,[])))),[])))))))) λm=>Option.bind (Xf m 0 c.1) λf=>some f) (λD=>some a) E) λr=>r=a.filter (nz x.2.1) by obtain⟨r,hr,rfl⟩:=I;exact hr
 refine AA (P:=λ(r:Int ⊕ Unit)=>(∃i:Nat,r= .inl (i:Int)/\ ∃C:i<a.length,(a.take i).filter (nz x.2.1)=a.take i/\nz x.2.1 a[i]=false)\/(r= .inr ()/\a.filter (nz x.2.1)=a)) ?_ λr hr=>?_
 ·refine Ce (λ(t:Int)=> ∃i:Nat,t=i/\i<=a.length/\(a.take i).filter (nz x.2.1)=a.take i) (λt=>a.length-t.toNat) ⟨0,rfl,BR _,rfl⟩ ?_;rintro _ ⟨i,rfl,C,j⟩;unfold JH;dsimp[len];refine AC (λA=>?_) (λA=>Ap.done (.inr ⟨rfl,by rwa [BO o!]at j⟩));have e:i<a.length:=o!
  rw[Ol e,AD,AD,AY (x:=(i:Int)+1)];refine AC (λg=>Ap.done (.inl ⟨i,rfl,e,j,?_⟩)) (λH=>AC (λg=>Ap.done (.inl ⟨i,rfl,e,j,?_⟩)) (λo=>Ap.next ⟨i+1,rfl,e,?_⟩ o!));grind[nz];grind[nz];grind[Ld,nz]
 ·rcases hr with⟨i,rfl,C,j,L⟩|⟨rfl,j⟩
  ·apply BB;rw[beq_eq_false_iff_ne.2 o!,cond_false,AY (x:=(i:Int)+1)];refine AA (P:=λ(r:Int×List EN)=> ∃w:Nat,r.1=w/\w<=a.length/\r.2.length=a.length/\r.2.take w=a.filter (nz x.2.1)) ?_ λr hr=>?_
   ·refine Ce (λ(s:Int×(Int×List EN))=> ∃n w:Nat,s.1=n/\s.2.1=w/\n<=a.length/\w<n/\s.2.2.length=a.length/\s.2.2.take w=(a.take n).filter (nz x.2.1)/\s.2.2.drop n=a.drop n) (λs=>a.length-s.1.toNat) ⟨i+1,i,rfl,rfl,C,nD _,rfl,?_,rfl⟩ ?_;grind[Ld];rintro⟨_,_,b⟩ ⟨n,w,rfl,rfl,hn,M,q,u,B⟩;dsimp only at q u B;unfold JI;dsimp[len];refine AC (λA=>?_) (λA=>Ap.done ⟨w,rfl,o!,q,by rw[BO (l:=a) o!]at u;exact u⟩);have d:n<a.length:=o!
    have z:b[n]' o!=a[n]:=by
     have K:b[n]? =a[n]? :=by have:=congrArg (λl=>l[0]?) B;grind
     grind[List.getElem?_eq_getElem,Option.some.inj]
    have k:b.drop (n+1)=a.drop (n+1):=by have:=congrArg (List.drop 1) B;rwa [J5,J5]at this
    rw[Ol (show n<b.length by omega),AD,AD,z,AY (x:=(n:Int)+1)];have F:nz x.2.1 a[n]=false->b.take w=(a.take (n+1)).filter (nz x.2.1):=λj=>by rw[Ld d,GO,Mb,j];simpa using u
    refine AC (λg=>Ap.next ⟨n+1,w,rfl,rfl,d,o!,q,F ?_,k⟩ d!) (λH=>AO (λo=>?_) (λo=>Ap.next ⟨n+1,w,rfl,rfl,d,o!,q,F ?_,k⟩ d!));unfold nz;rw[decide_eq_false o!];rfl
    ·have o:=of_decide_eq_false o;rw[Ol (show w<b.length by omega),AD,AD,AY (x:=(w:Int)+1)];refine Ap.next ⟨n+1,w+1,rfl,rfl,d,o!,by unfold ER;rw[List.length_set];exact q,?_,?_⟩ d!
     unfold ER;dsimp only;rw[CA,Ld (by rw[Oy];omega),List.take_set_of_le (Al _),List.getElem_set_self,u,Ld d,GO,Mb,show nz x.2.1 a[n]=true by unfold nz;rw[decide_eq_true o!,decide_eq_true o!];rfl];rfl;unfold ER;dsimp only;rw[CA,List.drop_set_of_lt o!];exact k
    have o:=of_decide_eq_true o;unfold nz;rw[decide_eq_false (p:=a[n].1<=x.2.1.2.1) o!];simp
   have⟨w,G,N,O,J⟩:=hr;rw[G];unfold vp;rw[if_pos o!,AD,CA];refine AA (Bg (Ae _) o! (by rw[Ac,BQ];omega)) λf y=>AB ?_;rw[y.1];simp[lK,WJ,WG,CA];rw[WD (by rw[BQ];omega),KX,Nat.min_self,J]
  exact Ax (AB j.symm)
theorem AF8(h:a.length<=4096):Fw (a,a)=some true:=by
 suffices b:Ap (Aj (Gw (a,a)) 0) λr=>r= .inr () by obtain⟨r,hr,rfl⟩:=b;grind[Fw]
 refine Ce (λ(t:Int)=> ∃i:Nat,t=i/\i<=a.length) (λt=>a.length-t.toNat) ⟨0,rfl,BR _⟩ ?_;rintro _ ⟨i,rfl,c⟩;unfold Gw;dsimp[len];refine AC (λv=>?_) (λv=>Ap.done rfl);rw[Ol o!,AD,AD,AY (x:=(i:Int)+1)];simp[beq_self_eq_true];exact Ap.next ⟨i+1,rfl,o!⟩ o!
theorem AGO{s t:A0}{z:BU}(a:s.2.2.length<=4096)(b:t.2.2.length<=4096)(h:(s.2.2.filter (IF z.1 z.2.2.1 z.2.2.2.1)).filter (nz t)=(t.2.2.filter (IF z.1 z.2.2.1 z.2.2.2.1)).filter (nz s)):Pc (s,(t,z))=some true:=by unfold Pc;rw[show V0 (s,(t,z))=Gv (s,z)from rfl,vQ a,AD,AH5 (x:=(s,(t,z))) (by grind),AD];rw[show V1 (s,(t,z))=Gv (t,z)from rfl,vQ b,AD];have e: ∀v,V2 (s,(t,z)) v=JH (t,(s,z)) v:=λ_=>rfl;rw[show V3 (s,(t,z))=JI (t,(s,z))from rfl,e,AH5 (x:=(t,(s,z))) (by grind),AD];grind[AF8]
theorem fld(a b:EN):((a.1==b.1)&&((a.2.1==b.2.1)&&((a.2.2.1==b.2.2.1)&&((a.2.2.2.1==b.2.2.2.1)&&((a.2.2.2.2.1==b.2.2.2.2.1)&&((a.2.2.2.2.2.1==b.2.2.2.2.2.1)&&((a.2.2.2.2.2.2.1.1==b.2.2.2.2.2.2.1.1)&&((a.2.2.2.2.2.2.1.2.1==b.2.2.2.2.2.2.1.2.1)&&((a.2.2.2.2.2.2.1.2.2.1.1==b.2.2.2.2.2.2.1.2.2.1.1)&&((a.2.2.2.2.2.2.1.2.2.1.2==b.2.2.2.2.2.2.1.2.2.1.2)&&((a.2.2.2.2.2.2.1.2.2.2.1==b.2.2.2.2.2.2.1.2.2.2.1)&&((a.2.2.2.2.2.2.1.2.2.2.2==b.2.2.2.2.2.2.1.2.2.2.2)&&((a.2.2.2.2.2.2.2==b.2.2.2.2.2.2.2)&&V)))))))))))))=V↔a=b:=k!
def Ord(v:S EN):Prop:=v.Pairwise λx y=>x.1<y.1
theorem AEa{a v:S f}(h:a.drop b=v.drop b)(c:b<=k):a[k]?=v[k]? :=by have:=E! (·[k-b]?) h;grind
theorem AC4{a v:S f}(h:a.drop b=v.drop b)(c:b<=k):a.drop k=v.drop k:=by have:=E! (List.drop (k-b)) h;grind[List.drop_drop]
theorem zk{v:S f}(a:b<U v)(h:b<k):v[b]∈v.take k:=Et.2 ⟨b,k!⟩
def AH9(d:a.Pairwise λx y=>x.1<=y.1){i:Nat}(b:i<U a){e:EN}(v:e∈a.take (i+1)):e.1<=a[i].1:=by obtain⟨j,c,rfl⟩:=List.getElem_of_mem v;rw[BQ]at c;rw[mw];by_cases h:j=i;subst h;exact Ae _;exact Ed.1 d j i o! b o!
theorem AGe(Q:a.length<=1000000)(F:a.Pairwise λx y=>x.1<=y.1)(P: ∀v∈a,∀U∈a,v.1=U.1->v=U)(G:b<a.length)(K:Ord (a.take b))(J: ∀e,e∈a.take b↔e∈a.take (b+1)):Ap (Aj Pb (1,((b:Int),(a,((b:Int),((a.length-b:Nat):Int)))))) λr=> ∃k:Nat,r.1=k/\k<=a.length/\r.2.length=a.length/\Ord (r.2.take k)/\ ∀e,e∈r.2.take k↔e∈a:=by
 refine Ce (λ(s:Int×(Int×(List EN×(Int×Int))))=> ∃j k:Nat,s.1=j/\s.2.1=k/\s.2.2.2.1=b/\s.2.2.2.2=((a.length-b:Nat):Int)/\1<=j/\b+j<=a.length/\k+1<=b+j/\s.2.2.1.length=a.length/\s.2.2.1.drop (b+j-1)=a.drop (b+j-1)/\Ord (s.2.2.1.take k)/\ ∀e,e∈s.2.2.1.take k↔e∈a.take (b+j)) (λs=>a.length-s.1.toNat) ⟨1,b,rfl,rfl,rfl,rfl,Al _,G,Al _,rfl,rfl,K,J⟩ ?_;rintro⟨_,_,U,_,_⟩ ⟨j,k,rfl,rfl,rfl,rfl,R,S,T,o,u,p,d⟩;dsimp only at o u p d;unfold Pb;dsimp only[len];rw[CA,CA];have I:(List.take (a.length-b) (List.drop b U)).length=a.length-b:=by grind[List.length_take,List.length_drop]
 refine AC (λt=>?_) (λt=>Ap.done ⟨k,rfl,o!,o,p,λe=>by rw[d e,BO o!]⟩);have n:b+j<a.length:=o!
 have l: ∀i (E:i<a.length) (D:b+j-1<=i),ix U (i:Int)=some a[i]:=λi E D=>by unfold ix;rw[if_pos o!,CA,AEa u D,As E]
 have B:=l (b+j) n o!;have C:=l (b+j-1) o! (Al _);have z:ix (List.take (a.length-b) (List.drop b U)) (j:Int)=some ((List.take (a.length-b) (List.drop b U))[j]' o!):=Ol o!;have A:ix (List.take (a.length-b) (List.drop b U)) (((j-1:Nat):Int))=some ((List.take (a.length-b) (List.drop b U))[j-1]' o!):=Ol o!;rw[AY (x:=(j:Int)+1),AY (x:=(j:Int)-1),AY (x:=(k:Int)+1),show(b:Int)+(j:Int)=((b+j:Nat):Int) by omega,show(b:Int)+((j:Int)-1)=((b+j-1:Nat):Int) by omega,show(j:Int)-1=((j-1:Nat):Int) by omega,z,AD,B,AD,A,AD,C,AD];have L:a[b+j-1]∈a.take (b+j):=zk o! o!;have g:=AC4 u (show b+j-1<=b+(j+1)-1 by omega);refine AO (λf=>?_) (λm=>?_)
 ·have f:a[b+j]≠a[b+j-1]:=λe=>by rw[(fld _ _).2 e]at f;cases f
  rw[AD,AD,Ol (show k<U.length by omega),AD,AD];have w: ∀e∈a.take (b+j),e.1<a[b+j].1:=λe m=>by have M:=AH9 F (i:=b+j-1) o! (e:=e) (by rwa [show b+j-1+1=b+j by omega]);have N:=Ed.1 F (b+j-1) (b+j) o! n o!;by_cases O:a[b+j].1=a[b+j-1].1<;>grind
  have h:(U.set k a[b+j]).take (k+1)=U.take k++[a[b+j]]:=by rw[Ld (by rw[Oy];omega),List.take_set_of_le (Al _),List.getElem_set_self]
  refine Ap.next ⟨j+1,k+1,rfl,rfl,rfl,rfl,o!,o!,o!,by unfold ER;dsimp only;rw[List.length_set];exact o,?_,?_,?_⟩ d!
  unfold ER;dsimp only;rw[CA,List.drop_set_of_lt o!];exact g;unfold ER;dsimp only;rw[CA,h];unfold Ord;rw[List.pairwise_append];refine⟨p,List.pairwise_singleton _ _,λv H c t=>?_⟩;rw[A9.1 t];exact w v ((d v).1 H);unfold ER;dsimp only;rw[CA,h,<-WE,Ld n];intro e;rw[Am,Am,d e]
 ·have m:=(fld _ _).1 m;refine Ap.next ⟨j+1,k,rfl,rfl,rfl,rfl,o!,o!,o!,o,g,p,λe=>?_⟩ d!
  dsimp only;rw[d e,<-WE,Ld n,Am,A9,m];exact⟨.inl,λq=>q.elim id λq=>q▸L⟩
theorem AIx{v:List EN}(C:v.length<=1000000)(n:v.Pairwise λx y=>x.1<=y.1)(q: ∀a∈v,∀b∈v,a.1=b.1->a=b)(I:2<=v.length):Ap (Aj Pa (1,v)) λr=> ∃w,(r= .inl w\/r= .inr w)/\Ord w/\ ∀e,e∈w↔e∈v:=by
 refine Ce (λ(s:Int×List EN)=> ∃i:Nat,s.1=i/\1<=i/\i<=v.length/\s.2=v/\Ord (v.take i)) (λs=>v.length-s.1.toNat) ⟨1,rfl,Al _,o!,rfl,?_⟩ ?_;rw[Ld (i:=0) o!];exact List.pairwise_singleton _ _;rintro⟨_,b⟩ ⟨i,rfl,L,D,o,h⟩;dsimp only at D h o;unfold Pa;dsimp only[len];rw[o];refine AC (λm=>?_) (λm=>Ap.done ⟨_,.inr rfl,by rwa [BO o!]at h,λe=>YJ⟩);have d:i<v.length:=o!
 rw[AY (x:=(i:Int)+1),AY (x:=(i:Int)-1),show(i:Int)-1=((i-1:Nat):Int) by omega,Ol d,AD,AD,Ol (show i-1<v.length by omega),AD,AD];have B:=Ed.1 n (i-1) i o! d o!;refine AK (λp=>?_) (λf=>?_)
 ·have p:=(fld _ _).1 p;refine AA (Bg o! o! (Ae _)) λE _=>?_;rw[CA,CA];have K:v[i-1]∈v.take i:=zk o! o!;refine AA (AGe C n q d h λe=>?_) λr hr=>?_;grind[Ld,List.mem_singleton]
  ·have⟨k,t,F,G,u,z⟩:=hr;rw[t];unfold vp;rw[if_pos o!,AD,CA];refine AA (Bg (Ae _) o! (by rw[Ac,BQ];omega)) λg l=>Ap.done ⟨g,.inl rfl,?_⟩;have j:g=r.2.take k:=by rw[l.1];simp[lK,WJ,WG,CA];grind[List.length_take,Nat.min_self]
   rw[j];exact⟨u,z⟩
 ·have f:v[i]≠v[i-1]:=λe=>by rw[(fld _ _).2 e]at f;cases f
  refine Ap.next ⟨i+1,rfl,o!,d,rfl,?_⟩ d!
  rw[Ld d];unfold Ord;rw[List.pairwise_append];refine⟨h,List.pairwise_singleton _ _,λa J c m=>?_⟩;rw[A9.1 m];have H:=AH9 n (i:=i-1) o! (e:=a) (by rwa [show i-1+1=i by omega]);by_cases A:v[i].1=v[i-1].1;exact absurd (q _ (GW d) _ (GW o!) A) f;omega
def Ord.inj(h:Ord a):∀T∈a,∀b∈a,T.1=b.1->T=b:=by intro T g b k e;obtain⟨i,d,rfl⟩:=List.getElem_of_mem g;obtain⟨j,f,rfl⟩:=List.getElem_of_mem k;by_cases c:i=j;subst c;rfl;rcases Nat.lt_or_gt_of_ne c with q|q;have:=Ed.1 h i j d f q;omega;have:=Ed.1 h j i f d q;omega
def mu(T:List EN)(P:List A0):List EN:=P.flatMap λs=>T.filter (nz s)
theorem ADq{x:List Aq×AI×AZ×BU}{P:List A0}{b:Bool}{A:AT}(H:P.length<=20)(a: ∀s∈P,s.2.2.length<=4096){T:List EN}(v: ∀s∈P,s.2.2.filter (IF x.2.2.2.1 x.2.2.2.2.2.1 x.2.2.2.2.2.2.1)=T.filter (nz s)):Ap (Aj (K2 x (P,b)) (0,(A,[]))) λr=>r= .inr (A,mu T P)/\(mu T P).length<=81920:=by
 refine Ce (λ(s:Int×AT×List EN)=> ∃i:Nat,s.1=i/\i<=P.length/\s.2.1=A/\s.2.2=mu T (P.take i)/\s.2.2.length<=i*4096) (λs=>P.length-s.1.toNat) ⟨0,rfl,BR _,rfl,rfl,BR _⟩ ?_;rintro⟨_,g,o⟩ ⟨i,rfl,I,y,n,p⟩;dsimp only at y n p;unfold K2;dsimp only[len];refine AC (λw=>?_) (λw=>Ap.done (by rw[BO (by omega)]at n;rw[y,n];rw[n]at p;exact⟨rfl,by omega⟩));have c:i<P.length:=by omega
 have k:=GW c;rw[Ol c,AD,AY (x:=(i:Int)+1) (by omega)];refine AA (Bg (Ae _) (by omega) (by omega)) λh C=>?_;have B:h=P.take i:=by rw[C.1];simp only[lK,WJ,WG,CA]
 refine AA (P:=λr=>r= .inr g) ?_ λr hr=>?_
 ·refine Ce (λ(s:Int×AT)=> ∃j:Nat,s.1=j/\j<=h.length/\s.2=g) (λs=>h.length-s.1.toNat) ⟨0,rfl,BR _,rfl⟩ ?_;rintro⟨_,G⟩ ⟨j,rfl,J,d⟩;dsimp only at d;unfold VH;dsimp only[len];refine AC (λw=>?_) (λw=>Ap.done (by rw[d]));have f:j<h.length:=by omega
  have q: ∀u∈h,u∈P:=λu E=>GY (i:=i) (by rw[<-B];exact E);have m:h[j]∈P:=q _ (GW f);rw[Ol f,AD,AY (x:=(j:Int)+1) (by omega)];rw[AGO (s:=h[j]) (t:=P[i]) (z:=x.2.2.2) (a _ m) (a _ k) (by rw[v _ m,v _ k,List.filter_filter,List.filter_filter];exact List.filter_congr λe _=>Bool.and_comm _ _),v?,AD,B9,cond_false];exact Ap.next ⟨j+1,rfl,f,d⟩ (by dsimp only;omega)
 ·rw[hr];refine Ax ?_;have D:(T.filter (nz P[i])).length<=4096:=by rw[<-v _ k];exact CK (EM _ _) (a _ k)
  rw[AFv (x:=(P[i],x.2.2.2)) (a _ k),AD];dsimp only;rw[v _ k];refine AA (Aa (by omega)) λF l=>Ap.next ⟨i+1,rfl,c,y,?_,?_⟩ (by dsimp only;omega)
  ·dsimp only;rw[l.1,n,Ld c];unfold mu;rw[YM];simp
  ·dsimp only;rw[l.2.1];omega
def ADr{A:Ψ Aq}{g:AT}{P:Ψ A0}{T:Ψ EN}{y:AT×Int}(S:VB e)(Y_:De d)(hz:θ h.2.2.2.2.1≤1000)(R:GP h)(p:Hn (A,h)=δ (g,ζ))(hs:H9 (e,d,h)=δ (P,ζ))(L:Ho (P,h)=δ ζ)
  (U:θ P<=20) (D:∀s∈P,θ s.2.2<=4096) (E:Ord T) (V_:∀s∈P,s.2.2.filter (IF h.1 h.2.2.1 h.2.2.2.1)=T.filter (nz s)) (O:∀z∈T,∃s∈P,nz s z=ζ) (hr:If (g,T)=δ y):EZ (A,e,d,h)=δ y:=by
 suffices W_:Ap (EZ (A,e,d,h)) λr=>r=y by obtain⟨r,f,z⟩:=W_;rw[f,z]
 obtain⟨q,Z_,q1⟩:=Fl S;obtain⟨w,M,w1⟩:=HB Y_;obtain⟨v,hv,v1⟩:=AGL hz;unfold EZ;dsimp only;rw[Z_,q1,AD,B9,A!,M,w1,AD,B9,A!,hv,v1 R,AD,B9,A!,p,AD,hs,AD];dsimp only;rw[B9,A!,A!,L,AD,B9,A!];refine AA (ADq (x:=(A,e,d,h)) U D V_) λr f=>?_;obtain⟨rfl,Q⟩:=f;apply Ax;dsimp only;have l:∀z,z∈mu T P↔z∈T:=λz=>by unfold mu;rw[GX];constructor;rintro⟨s,_,a⟩;exact(BS.1 a).1;intro a;obtain⟨s,B,C⟩:=O z a;exact⟨s,B,BS.2 ⟨a,C⟩⟩
 have t:∀e∈mu T P,∀b∈mu T P,e.1=b.1->e=b:=λe F b p=>E.inj e ((l e).1 F) b ((l b).1 p);generalize I:(mu T P).mergeSort (λe b=>decide (e.1<=b.1))=m;have u:F9 (mu T P) ()=δ m:=by unfold F9 AAH;rw[C! ⟨t,o!⟩,<-I]
 have k:m.Perm (mu T P):=by rw[<-I];exact List.mergeSort_perm _ _
 have K:m.Pairwise λx y=>x.1<=y.1:=by rw[<-I];refine(List.pairwise_mergeSort (le:=λe b:EN=>decide (e.1<=b.1)) ?_ ?_ _).imp λa=>M! a;intro e b c B C;simp only[K!]at*;omega;intro e b;simp only[P0,K!];omega
 have n:∀z,z∈m↔z∈T:=λz=>by rw[k.mem_iff,l]
 have o:∀w:Ψ EN,Ord w->(∀z,z∈w↔z∈m)->w=T:=λw B C=>XF B E λz=>by rw[C z,n z]
 rw[u,AD,k.length_eq,Hk,B!];apply AC<;>intro O;have J:Ord m:=by unfold Ord;rw[Ed];intro i j hi hj X;have H:=k.length_eq;have G:(len (mu T P))=((mu T P).length:Int):=rfl;omega
 rw[o m J λz=>YJ,hr,AD];exact AB rfl;have G:(len (mu T P))=((mu T P).length:Int):=rfl;have H:=k.length_eq;refine AA (AIx (v:=m) o! K (λe F b p=>E.inj e ((n e).1 F) b ((n b).1 p)) o!) λr f=>?_;obtain⟨w,L,J,N⟩:=f;have z:=o w J N;subst z;rcases L with rfl|rfl;apply BB;rw[hr,AD];exact AB rfl;apply Ax;rw[hr,AD];exact AB rfl
def yG(L:Qk a d)(p q k:Int):Ord (a.filter (IF p q k)):=L.sorted.sublist WK
theorem AKa{k}(g:AR a e)(v:Qk a d)(o:P7 e j l c){L:NE}(t:L∈DW e)(b:L.1.2.2.1=l):(nt L).2.2.filter (IF j m k)=(a.filter (IF j m k)).filter (nz (nt L)):=by
 have⟨f,D,q,_,hr,_⟩:=g.mem t;have u:L.1.2.2.2.1=c:=by have⟨i,p,n,A,B⟩:=o;refine Km.uniq g.vb.1 (lo:=l) ?_ ⟨i,p,n⟩;rw[<-b];exact q.2.2.2
 have C:l<=j/\j<=c:=by have⟨i,p,n,A,B⟩:=o;grind
 refine XF ?_ ((yG v j m k).sublist WK) λx=>?_;refine(q.2.2.1.sorted.sublist WK).imp_of_mem λ{x y} w z h=>?_;have r:=(BS.1 w).2;have s:=(BS.1 z).2;unfold IF at r s;grind[ltC];rw[BS,BS,BS];unfold nz nt;rw[(hr.mem x)];constructor;grind;simp_all[BV,IF]
theorem AKG{t:Int}(b:Qk a d)(e:d.1<=m)(g:m<=t)(h:t<=d.1+U d.2.1-1):∀s∈Z1 d m t,U s.2.2<=4096/\s.2.2.filter (IF c j l)=(a.filter (IF c j l)).filter (nz s):=by
 have k:=b.vl.1;intro s p;unfold Z1 at p;rw[D! o!]at p;rw[A9.1 p];rw[(by omega:(t-m+1).toNat=(t-d.1+1).toNat-(m-d.1).toNat)];generalize L:(d.2.1.drop (m-d.1).toNat).take ((t-d.1+1).toNat-(m-d.1).toNat)=v;have q:v.Sublist d.2.1:=by rw[<-L];exact(nB _ _).trans (pr _ _)
 refine⟨CK q.length_le b.vl.2.2.1,XF ((b.vl.sorted.sublist q).sublist WK) ((yG b c j l).sublist WK) λx=>?_⟩;have i:=wj b.vl e g h L.symm x;rw[b.tail x]at i;unfold nz;grind
def AJd{j k:Nat}(f:LI c a)(n:ID a)(L:U a<=4096)(m:k<=U a)(h:Be (a.take j) l<=k)(g:0<=l/\l<64):If (st (a.take j) l,a.filter (IF l (Be (a.take j) l) k))=Z (st (a.take k) l,0):=by have⟨i,b,d,e⟩:=AFm n h;rw[<-d,<-e];have o:=TJ n l i;have p:=aK (n.take i) l;rw[BQ]at p;rw[show Be (a.take i) l=(((Be (a.take i) l).toNat:Nat):Int) by omega,yj n o!,lZ n (j:=i) o! (WZ n),yS (ux n f g o! i k b) (by have:=EM (cC l) ((a.take k).drop i);rw[DB,BQ]at this;omega),<-iW b]
theorem named{L:List EN}{a:AI}{l:AZ}{f q k c:Int}(r:q<c)(s:c<=k)(n:qJ a l f c):(vT l q<=c/\c<=vU l k)\/ ∃e∈DW a,rA l f q k e=true/\e.1.2.2.1=f/\e.1.1<=c/\c<=e.1.2.1:=by
 by_cases b:vT l q<=c/\c<=vU l k
 ·exact .inl b
 ·refine .inr ?_;rcases n with⟨g,h⟩|⟨e,o,d,g,h⟩
  ·exfalso;apply b;unfold vT vU;constructor<;>split<;>omega
  ·refine⟨e,o,?_,d,g,h⟩;unfold rA;rw[d,beq_self_eq_true,YI];generalize t:vT l q=F at b;generalize u:vU l k=T at b;generalize j:(if e.1.1>q+1 then e.1.1 else q+1)=i;generalize m:(if e.1.2.1<k then e.1.2.1 else k)=pb;have a1:i<=c:=by split at j<;>omega
   have p:c<=pb:=by split at m<;>omega
   rw[decide_eq_true (show i<=pb by omega),YI];simp only[P0,decide_eq_true_eq];omega
def sC{U:AZ}{p lo Y_ fl:Int}{L:Nat}{N fs':Ψ Aq}(hL:LI c a)(J:ID a)(y:AR a e)(K:Qk a d)(hr:RC e L)(ad:L≤12)(hk:k≤θ a)(hm:(b:Int)=e.2.1)(hn:1≤b∧b≤64)(h8:θ N≤8)(hf:∀f∈N,FI a j b f)(Z_:0≤p∧p<e.2.1)
  (p1:P7 e p lo Y_) (f1:tK (qJ e d lo) k fl)  (hz:tL a j b N e d p k fl h) (O:De U) {mo:Ψ EN} (e1:U.1=d.1) (e2:U.2.1=d.2.1++mo) (C:θ fs'<=8/\(∀f∈fs',FI a j b f)/\∀x,Wk a j b N (θ N) x->Wk a j b fs' (θ fs') x):EZ (fs',e,U,h)=δ (st (a.take k) p,0):=by
 have R:=K.len;obtain⟨B,x2,a6,a8,o,u3,D,a4,a1⟩:=AJT hL J y K hr ad hk hm hn h8 hf Z_ p1 f1 hz;obtain⟨I,h2,h3,⟨m,h4,h5,X⟩,h7⟩:=hz;have pm:0<=p/\p<b:=⟨Z_.1,o!⟩
 have W_:0<=p/\p<64:=⟨Z_.1,o!⟩
 have q0:=TJ J p m;have a0:θ B=θ h.2.2.2.2.1:=by rw[<-x2,BW]
 have vl:=K.vl;have gp:GP h:=by refine⟨by rw[I];exact W_,?_,o!,λn=>?_,?_,λi Y_=>?_,?_⟩;rcases X with⟨q,_⟩|⟨x,A,H,_⟩;omega;obtain⟨_,_,_,_,q⟩:=A;obtain⟨_,_,t,v,_⟩:=q.2.2.1;rw[<-H];exact⟨YK g! t,v⟩;rcases X with⟨q,rfl⟩|⟨x,A,H,_⟩;rw[h4];rfl;obtain⟨_,_,_,_,q⟩:=A;obtain⟨_,_,t,v,_⟩:=q.2.2.1;rw[H,n]at t;exact N! t g!;refine(a4.and (IL.1 a1)).imp λl=>?_;have h9:=l.1;have a5:=l.2;omega;rw[<-x2]at Y_;obtain⟨n,r,rfl⟩:=Bn.1 Y_;obtain⟨f,ar,_,v,_⟩:=y.mem ((o n).1 r).1;obtain⟨i,ax,rfl⟩:=List.getElem_of_mem ar;have:=y.vb.2.2.2.2.2.2.1 i _ o! (As ax);rw[v];omega;rcases u3 with q|⟨q1,q2,q3⟩;exact .inl q.2;refine .inr ⟨?_,o!⟩;rw[q2];unfold vT;split<;>omega
 obtain⟨V_,hV,v8,hS⟩:=qq J o! hn C.1 (λf q=>.inl (C.2.1 f q));have hb:Hn (fs',h)=δ (st (a.take m) p,ζ):=by
  refine AGQ hV o! (λx A w S n=>Wk.uniq J o! hn ((hS x).1 A) ((hS w).1 S) n) ?_;rw[I];rcases X with⟨i0,rfl⟩|⟨x,A,H,y2,x3⟩;exact .inl ⟨i0,rfl⟩;have⟨_,_,_,_,q⟩:=id A;have⟨_,_,t,v,_⟩:=q.2.2.1;have z0:h.2.1≠0:=λn=>by rw[n]at H;rw[H]at t;exact N! t g!
  refine .inr ⟨z0,x,(hS x).2 (C.2.2 x A),H,?_,by rw[Kb,h4]⟩;rw[x3];exact xQ J o! ⟨t,v⟩ hn pm
 clear X;have a3:Z1 U h.2.2.2.2.2.1 h.2.2.2.2.2.2=Z1 d h.2.2.2.2.2.1 h.2.2.2.2.2.2:=by unfold Z1;split;rfl;rename_i a2;have⟨t,v,g3⟩:=D.resolve_left a2;rw[e1,e2,lM o!,WD (by rw[DB];omega)]
 have u:=xL (z:=h) (E:=B) y O (by rw[I];exact Z_) (by rw[I];exact p1) (λn r=>⟨((o n).1 r).1,(AIM ((o n).1 r).2).1⟩) x2.symm o! (D.imp id λq=>by rw[e1,e2,Ac];omega);rw[a3]at u;have al:(B.map nt++Z1 d h.2.2.2.2.2.1 h.2.2.2.2.2.2).length<=20:=by
  rw[Ac,BW];have:(Z1 d h.2.2.2.2.2.1 h.2.2.2.2.2.2).length<=1:=by unfold Z1;split<;>simp
  omega
 have Q:∀s∈Z1 d h.2.2.2.2.2.1 h.2.2.2.2.2.2,θ s.2.2<=4096/\s.2.2.filter (IF h.1 h.2.2.1 h.2.2.2.1)=(a.filter (IF h.1 h.2.2.1 h.2.2.2.1)).filter (nz s):=by rcases D with q|⟨t,v,g3⟩;intro s u;unfold Z1 at u;rw[C! q]at u;cases u;exact AKG K t v g3
 have M:∀G,h.2.2.1<G->G<=k->cvr (B.map nt++Z1 d h.2.2.2.2.2.1 h.2.2.2.2.2.2) G:=λG n1 n2=>by
  rcases named (L:=a) n1 n2 (f1.2.2.1 G o! n2)with⟨t,v⟩|⟨n,r,hu,_,t,v⟩;rcases u3 with q|⟨_,q2,q3⟩;omega;have ap:h.2.2.2.2.2.1≠0:=by rw[q2];unfold vT;split<;>omega
  refine⟨(h.2.2.2.2.2.1,h.2.2.2.2.2.2,(d.2.1.drop (h.2.2.2.2.2.1-d.1).toNat).take (h.2.2.2.2.2.2-h.2.2.2.2.2.1+1).toNat),NA _ ?_,d!⟩;unfold Z1;rw[D! ap];exact A9.2 rfl;exact⟨nt n,G2 _ (Bn.2 ⟨n,(o n).2 ⟨r,hu⟩,rfl⟩),t,v⟩
 have S:Ho (B.map nt++Z1 d h.2.2.2.2.2.1 h.2.2.2.2.2.2,h)=δ ζ:=by
  have⟨z,ao,S⟩:=AHr (x:=(B.map nt++Z1 d h.2.2.2.2.2.1 h.2.2.2.2.2.2,h)) d! (λs u=>by
   rcases Am.1 u with q|q;obtain⟨n,r,rfl⟩:=Bn.1 q;exact(ACR y n ((o n).1 r).1).2.2.1;unfold Z1 at q;split at q;cases q;rw[A9.1 q];have a7:vU d k<=k:=by unfold vU;split<;>omega
   dsimp only;omega) d! d! d!
  rw[ao,S.2 λG n1 n2=>M G n1 (by dsimp only at n2;omega)]
 refine ADr (g:=st (a.take m) p) (P:=B.map nt++Z1 d h.2.2.2.2.2.1 h.2.2.2.2.2.2) (T:=a.filter (IF h.1 h.2.2.1 h.2.2.2.1)) y.vb O o! gp hb u S al (λs u=>?_) (yG K _ _ _) (λs u=>?_) (λn r=>?_) ?_;rcases Am.1 u with q|q;obtain⟨n,r,rfl⟩:=Bn.1 q;exact(ACR y n ((o n).1 r).1).2.2.2.2.2.2.2.2;exact(Q s q).1;rcases Am.1 u with q|q;obtain⟨n,r,rfl⟩:=Bn.1 q;rw[I];exact AKa y K p1 ((o n).1 r).1 (AIM ((o n).1 r).2).1;exact(Q s q).2;have F:=(BS.1 r).2;unfold IF at F;simp[BV,K!]at F;have⟨s,u,s1,s2⟩:=M n.1 F.2.2.1 o!;exact⟨s,u,by unfold nz;rw[G! s1,G! s2];rfl⟩;rw[I,h2,h4];exact AJd hL J R hk h5 W_
theorem AHB(b:De d)(h:U d.2.1<4096)(m:d.1+U d.2.1-1<1099511627776):Ap (Gq (d,0,8,0,0,0,0,(0,0,(Y,[]),Y,[]),[])) λr=>r.2.2=0:=by
 have j:=b.1;refine AA Bb λn c=>AO (λa=>N! (c.2 b) (by simp[a])) (λ_=>AP (N! · k!) (λ_=>AA Du λg l=>?_));have k:g=d.1+U d.2.1-1:=by rw[l];exact b.last
 refine AP (N! · o!) (λ_=>AA Du λi e=>?_);rw[AY (x:=i+1)];refine AA CC λo f=>AO (λa=>N! (f.2 ?_) (by simp[a])) (λ_=>?_);refine⟨k!,k!,Ae _,k!,Ae _,k!,Ae _,k!,.inr (.inr (.inr (.inl ⟨.inr rfl,rfl,rfl,rfl,rfl,rfl,BR _⟩)))⟩;grind[AA,Aa,AB]
theorem AHC(j:De d)(h:U d.2.1<=4092)(o:d.1+U d.2.1-1<=4096){k:Int}(g:0<=k/\k<=3):Ap (Aj Hm (k,d)) λr=>De r/\r.1=d.1/\∃a,r.2.1=d.2.1++a:=by
 refine Ce (λs=>0<=s.1/\De s.2/\s.2.1=d.1/\∃a:S EN,s.2.2.1=d.2.1++a/\(U a:Int)+s.1<=3) (·.1.toNat) ⟨g.1,j,rfl,[],q!,k!⟩ ?_;rintro⟨i,s⟩ ⟨n,b,c,a,l,f⟩;dsimp only at n b c l f;have m:U s.2.1=U d.2.1+U a:=k!
 unfold Hm;dsimp only;refine AC (λe=>AA (Sn.and (AHB b o! o!)) λr hr=>?_) (λe=>k? ⟨b,c,a,l⟩);grind[AY,y!]
theorem AAX{m:AV}(N:CX m)(M:LI c a)(o:ID a)(K:AR a e)(w:Qk a d)(u:0<=d.2.2/\d.2.2<=a.length)(O:(b:Int)=e.2.1)(hn:1<=b/\b<=64):Ap (Lk m ((b:Int),(e,d))) λr=>CX r.2/\r.1.length<=7/\ ∀f∈r.1,FI a d.2.2 b f:=by
 have y:=w.len;have U:PI a d.2.2 b (1,((b:Int),img [] b)):=⟨0,u.1,k!,k!,rfl⟩
 unfold Lk;rw[AE2 hn.2,AD];refine AA (Ag N g!) λv1 F=>?_;have⟨C,_,_⟩:=F;refine AA (P:=λh=>h.length<=1/\ ∀f∈h,FI a d.2.2 b f) ?_ λv3 G=>?_;refine AC (λ_=>AA (AAU o o! hn U) λf hf=>AB ⟨q!,λg v=>?_⟩) (λ_=>AB ⟨q!,λg v=>by simp at v⟩);grind
 ·refine AA (P:=λr=>CX r.2.1/\r.1.length<=7/\ ∀f∈r.1,FI a d.2.2 b f) ?_ λr hr=>AB hr;refine Ce (λ(s:Int×Int×List Aq×AV×A7)=>0<=s.1/\s.1<=d.2.2/\2<=s.2.1/\s.2.1<=4/\s.2.2.1.length<=s.2.1/\(∀f∈s.2.2.1,FI a d.2.2 b f)/\CX s.2.2.2.1/\1<=s.2.2.2.2.1/\s.2.2.2.2.1<=1073741824/\s.2.2.2.2=(s.2.2.2.2.1,((b:Int),img (a.take s.1.toNat) b))) (λs=>(4-s.2.1).toNat) ⟨Ae _,u.1,k!,k!,k!,G.2,C,k!,k!,rfl⟩ ?_;rintro⟨t,i,h,l,x⟩ ⟨V_,W_,S,T,E,n,q,z,A,B⟩;dsimp only at V_ W_ S T E n q z A B;unfold Sk;dsimp only;refine AA (Ag q g!) λX H=>?_;have⟨p,m5,n5⟩:=H;rw[AY (x:=2+X.1)];refine AC (λhc=>?_) (λ_=>Ap.done ⟨p,k!,n⟩);rw[AY (x:=d.2.2-t),AY (x:=d.2.2-t+1)];refine AA (Ag p o!) λL I=>?_;have⟨D,m6,n6⟩:=I;rw[AY (x:=t+L.1),B];rw[(by omega:t+L.1=(((t+L.1).toNat:Nat):Int))];refine AA (ADu (s:=i) M o K w (j:=t.toNat) (k:=(t+L.1).toNat) o! o! O hn ⟨z,A⟩) λY_ J=>AL (λ_=>Ap.done ⟨D,k!,n⟩) (λR=>?_);have⟨y1,y2,Z_⟩:=J R;have Q:PI a d.2.2 b Y_.1:=⟨(t+L.1).toNat,o!,k!,k!,by rw[Z_]⟩
  refine AA (AAU o o! hn Q) λv8 h8=>AA (Aa w!) λv9 h9=>?_;rw[AY (x:=i+1)];grind[Ap.next,List.length_singleton,Int.toNat_natCast,List.mem_singleton]
theorem ACl{L:Aq}{x}(h:Wk a c b g (U g) x):Wk a c b (g++[L]) (g++[L]).length x:=by have⟨i,f,o,l,d,j,m⟩:=h;refine⟨i,f,k!,k!,d,λk e p n=>?_,m⟩;grind[List.getElem?_append_left]
theorem ADZ(d: ∀b,CX b->Ap (Fm b 25) λr=>r.2.1.2.1.length<=4092){b:AV}(h:CX b):Ap (Li b ()) λr=>1<=r.1/\r.1<=4/\r.2.1.2.1=r.1/\AR r.2.2.2.1.2.1 r.2.1/\RC r.2.1 10/\Qk r.2.2.2.1.2.1 r.2.2.1/\ID r.2.2.2.1.2.1/\r.2.2.1.1+r.2.2.1.2.1.length-1=r.2.2.2.1.2.1.length/\r.2.2.2.1.2.2=r.2.2.2.1.2.1.length/\CX r.2.2.2.2.2/\r.2.2.2.2.1.length<=7/\(∃m:Nat,(m:Int)=r.1/\ ∀f∈r.2.2.2.2.1,FI r.2.2.2.1.2.1 r.2.2.2.1.2.2 m f)/\De r.2.2.2.1/\r.2.2.2.1.1=1/\(∃n,LI n r.2.2.2.1.2.1)/\r.2.2.2.1.2.1.length<=4092:=by
 unfold Li;refine AA ((kT h (x:=25) o!).and ((AAZ h (x:=25) o!).and (d b h))) λa E=>?_;have⟨⟨c0,R,n2,e,n,O⟩,⟨C,D⟩,v⟩:=E;refine AA (AAS (x:=(a.1,a.2.1)) c0 ⟨R,d!⟩ e) λS F=>?_;have⟨z,g,w,⟨kc,K,L⟩,y,o,B,_⟩:=F;dsimp only at g o B;have t:=e.2.2.1;have J:=e.num D;have⟨x1,x2,x3,x4,x5,x6⟩:=id e;have j:RC S.1 10:=λQ=>CK (K Q) o!;have y3:=g.vb.2.1;have y4:=g.vb.2.2.1;have⟨m,u⟩:=Ef (show 0<=a.1 by omega);have X:a.2.1.2.2=a.2.1.2.1.length:=o!
 have N:(m:Int)=a.1:=u.symm;refine AA (P:=λr=>CX r.2/\r.1.length<=7/\ ∀f∈r.1,FI a.2.1.2.1 a.2.1.2.2 m f) (by rw[u];exact AAX z O J g (XP e) o! o! o!) λv2 G=>?_;have⟨A,i8,iF⟩:=G;refine AA (Ag A (x:=2) o!) λv3 p=>AA (P:=λ(r:AV×AZ)=>CX r.1/\Qk a.2.1.2.1 r.2/\r.2.2.2=a.2.1.2.2/\r.2.1+r.2.2.1.length-1=a.2.1.2.1.length) ?_ λv6 I=>?_;refine AP (λ_=>AA (Ag p.1 o!) λT H=>?_) (λ_=>AB ⟨p.1,XP e,rfl,d!⟩);have⟨q1,q2,q3⟩:=H;rw[AY (x:=1+T.1)];refine AA (AJt e C o! o! o!) λk c=>AB ⟨q1,c.1,c.2.2,?_⟩;have U:=c.1.vl.2.2.2.2.1;have V_:=c.2.2;have W_:=c.2.1;have M:k.1.1+k.1.2.1.length-1<=a.2.1.2.1.length:=by by_cases hz:k.1.2.1.length=0;omega;have s:=As (show k.1.2.1.length-1<k.1.2.1.length by omega);have Y_:=(c.1.vl.2.2.2.2.2 _ _ s).1;have⟨i,hi⟩:=C2 ((c.1.tail _).1 (BN s)).1;grind[Cp]
 dsimp only;omega;refine AA (Ag I.1 (x:=3) o!) λv7 q=>AA (P:=λ(r:AV×AI)=>CX r.1/\AR a.2.1.2.1 r.2/\RC r.2 10/\r.2.2.1=a.1) ?_ λv9 Z_=>?_;exact AP (λ_=>AA (ACe g w q.1 y) λv8 l=>AB ⟨l.1,l.2.1,l.2.2.1 10 j,o⟩) (λ_=>AB ⟨q.1,g,j,o⟩);grind[AB]
theorem ADJ(h:b<=64):Fc (c,(b:Int))=some (c,((b:Int),img [] b)):=by
 suffices d:Ap (Fc (c,(b:Int))) λr=>r=(c,((b:Int),img [] b)) by obtain⟨r,hr,rfl⟩:=d;exact hr
 refine AA (P:=λr=>r=(img [] b,(c,(b:Int)))) ?_ λr hr=>AB (by rw[hr]);refine Ce (λ(t:Int×List DX×Int×Int)=>0<=t.1/\t.1<=b/\t.2=(img [] t.1.toNat,(c,(b:Int)))) (λt=>((b:Int)-t.1).toNat) ⟨Ae _,k!,rfl⟩ ?_;rintro⟨i,t⟩ ⟨g,f,m⟩;dsimp only at g f m;subst m;refine AC (λa=>?_) (λa=>Ap.done ?_)
 ·rw[oB,AD];refine AA (Aa (by rw[M8];simp;omega)) λv e=>?_;rw[AY];refine Ap.next ⟨k!,k!,?_⟩ k!
  rw[e.1,show(i+1).toNat=i.toNat+1 by omega,ub,Ih g];rfl
 grind
theorem mm(t: ∀b,CX b->Ap (Fm b 25) λr=>r.2.1.2.1.length<=4092){x:List Int×Int}(h: ∀c∈x.1,0<=c/\c<256)(hx:0<=x.2/\x.2<256):Ap (GR x) λr=>r=true:=by
 unfold GR;rw[AGP,AD,B9,cond_false];refine AA (AEQ h) λv2 J=>AA (ADZ t J) λa Z_=>?_;have⟨s1,s2,s3,E,O,j,F,s8,s9,M,ao,⟨m,V_,d⟩,N,ap,⟨n,K⟩,W_⟩:=Z_;have U:=j.len;have b0:=j.vl.1;refine AA Em λR S=>?_;have S:=S N;rw[AY (x:=R+1),beq_eq_false_iff_ne.2 o!,cond_false];refine AA (Ag M g!) λv5 h5=>?_;have⟨_,c1,c2⟩:=h5;refine AA (AHC j.vl o! o! (k:=v5.1) o!) λv8 h8=>?_;have⟨m1,m2,L,m3⟩:=h8;refine AA (Aa (by rw[Bj];omega)) λv9 h9=>?_;have X:v9=a.2.2.2.2.1:=by rw[h9.1];rfl
 subst X;rw[<-V_,ADJ o!,AD];have e:1<=m/\m<=64:=o!
 have p0:PI a.2.2.2.1.2.1 a.2.2.2.1.2.2 m (50,((m:Int),img [] m)):=⟨0,o!,d!,d!,rfl⟩
 refine AA (AAU F o! e p0) λQ H=>AA (Aa (by rw[WA];omega)) λar I=>?_;have G:=I.1;subst G;obtain⟨k,T⟩: ∃k:Nat,Int.tmod x.2 (R+1)=k:=⟨_,(Ih (pd _ hx.1)).symm⟩
 have al:(k:Int)<R+1:=by rw[<-T];exact pZ _ o!
 rw[AY (x:=x.2),T];have o:k<=a.2.2.2.1.2.1.length:=o!
 have B:=V_.trans s3.symm;have v:=λ(p:Nat) (u:p<m)=>vv K F E j O g! o B e o! (λf q=>.inl (d f q)) (p:=(p:Int)) o!;rw[AJp (m:=m) E.vb j.vl o! B o! (λp u=>by have⟨_,_,_,_,_,q⟩:=v p u;exact q.mono λ_ _=>trivial),AD];generalize hP:VN (λp=>Cc (a.2.2.2.2.1,(a.2.1,(a.2.2.1,(p,(k:Int)))))) m=P;have pl:P.length<=m:=by grind[kv]
 have key: ∀z∈P,∃(p:Nat) (y C fl:Int),p<m/\P7 a.2.1 p y C/\tK (qJ a.2.1 a.2.2.1 y) k fl/\tL a.2.2.2.1.2.1 a.2.2.2.1.2.2 m a.2.2.2.2.1 a.2.1 a.2.2.1 p k fl z:=λz w=>by rw[<-hP]at w;have⟨p,u,r,hr,r0,rz⟩:=sE w;have⟨y,C,fl,D,A,r',g,q⟩:=v p u;rw[hr]at g;injection g with g;subst g;rcases q with q|q;omega;exact⟨p,y,C,fl,u,D,A,rz▸q.2.2⟩
 refine AA (P:=λr=>r= .inr ()) ?_ λr hr=>by rw[hr];exact Ax (AB rfl)
 refine Ce (λ(s:Int)=> ∃i:Nat,s=i/\i<=P.length) (λs=>P.length-s.toNat) ⟨0,rfl,BR _⟩ ?_;rintro _ ⟨i,rfl,C⟩;unfold LL;dsimp[len];refine AC (λhc=>?_) (λ_=>Ap.done rfl);have l:i<P.length:=o!
 have⟨p,y,ad,fl,u,D,A,w⟩:=key P[i] (GW l);have Y_:=sC K F E j O g! o B e o! d (p:=(p:Int)) o! D A w m1 (mo:=L) m2 m3 (fs':=a.2.2.2.2.1++[Q]) ⟨by rw[Ac,WA];omega,λf hf=>by rcases Am.1 hf with q|q;exact d f q;rw[A9.1 q];exact H,λ_ q=>ACl q⟩;rw[Ol l,AD,(sC K F E j O g! o B e o! d (p:=(p:Int)) o! D A w j.vl (mo:=[]) rfl q! (fs':=a.2.2.2.2.1) ⟨o!,d,λ_ q=>q⟩),AD,AD,Y_,AD];dsimp only;rw[bne_self_eq_false,cond_false,cond_false,w9,B9,cond_false,AY (x:=(i:Int)+1)];exact Ap.next ⟨i+1,rfl,l⟩ o!
theorem oE{x:S Int×Int}(h:∀c∈x.1,0<=c/\c<256)(a:0<=x.2/\x.2<256):Ap (GR x) λr=>r=V:=by grind[mm,ADt]
end Go.Pm
namespace Go.Proofs.YtdbincbpjobdpaaGreat
open Go.RowKit Go.Ab Go.Pm
def ABs:∃j,Tryz.prog.info? 301=Z j/\j.size=2:=by
 have h:(Tryz.prog.info? 301).map (·.size)=Z 2:=h!
 exact TU.1 h
def AGU:liesAt Tryz.prog Tryz.prog.depth 301 (2/Tryz.prog.cellsOf 301) 0 301 1=V:=h!
def vX(b:Nat)(w:World)(d:w.cell? ⟨b,0,W⟩=Z (.pointer (Z ⟨b,0,W⟩))):
  Calls Tryz.prog 276 #[.pointer (Z ⟨b,0,W⟩)] w λe c=>e=.returned (.tuple #[])/\c=w:=by
 obtain⟨j,a,_⟩:=ABs;go_enter Tryz.func276,Tryz.ntmps276;go_wp2;rw[Lib.run_neq_ptr_same w _ Tryz.underlying299 a];go_wp2;go_end0;exact⟨rfl,rfl⟩
def jg(b:Nat)(w:World)(h:w.cell? ⟨b,0,W⟩=Z (.pointer W))(a:w.shape? b=Z (301,2))(f:w.frozen? ⟨b,0,W⟩=Y):
  Calls Tryz.prog 276 #[.pointer (Z ⟨b,0,W⟩)] w λe g=>e=.returned (.tuple #[])/\g=w.setCell ⟨b,0,W⟩ (.pointer (Z ⟨b,0,W⟩)):=by
 obtain⟨j,d,c⟩:=ABs;go_enter Tryz.func276,Tryz.ntmps276;go_wp2;rw[Lib.run_to_unsafe w ⟨b,0,W⟩ Tryz.underlying299 Tryz.underlying388 d (by rw[c];decide) a (Nat.zero_lt_succ 1)];simp only[Result.andThen];rw[Oper.upon_value];go_wp2;rw[run_callFunc_extern Tryz.func308 h! h! h! (e:=Extern.AbiNoEscape.same) h!];rw[Lib.run_noEscape];simp only[Result.andThen];rw[Oper.upon_value];go_wp2;rw[Lib.run_from_unsafe w ⟨b,0,W⟩ Tryz.underlying388 Tryz.underlying299 d a AGU];simp only[Result.andThen];rw[Oper.upon_value];go_wp2;go_end0;exact⟨rfl,rfl⟩
def zB(B b:Nat)(bs:S Value)(w:World)(h:Lib.IsBuilderF 301 5 B b bs w):
  Calls Tryz.prog 276 #[.pointer (Z ⟨b,0,W⟩)] w λe a=>e=.returned (.tuple #[])/\Lib.BuilderAtF 301 5 B b (.pointer (Z ⟨b,0,W⟩)) bs a/\Below B w a:=by
 rcases h with h|h;apply (jg b w h.cell0 h.shape h.frozen0).mono;rintro e a ⟨rfl,rfl⟩;exact⟨rfl,h.used _,(Below.refl B w).setCell (p:=⟨b,0,W⟩) h.1 _⟩;apply (vX b w h.cell0).mono;rintro e a ⟨rfl,rfl⟩;exact⟨rfl,h,Below.refl B _⟩
def ABr:∃i,Tryz.prog.info? 5=Z i/\i.zero=Z (.int .u8 0)/\i.size=1/\i.bytes=1:=by
 have h:(Tryz.prog.info? 5).map (λi=>(i.zero,i.size,i.bytes))=Z (Z (.int .u8 0),1,1):=h!
 obtain⟨i,b,a⟩:=TU.1 h;simp only[Ee]at a;exact⟨i,b,a.1,a.2.1,a.2.2⟩
variable {b k:Nat}
def tZ{p}{bs}{w}(h:Lib.BuilderAtF 301 5 k b p bs w):∃v,w.heap[b]?=Z (.cells #[p,v] 301 (0,0))/\w.cell? ⟨b,1,W⟩=Z v/\w.ownsRowF k 5 1 v (U bs) bs/\v.ownBlock≠Z b:=by obtain⟨e,v,a,c,d⟩:=h;exact⟨v,a,by rw[Lib.cell_of_heap a];rfl,c,d⟩
def AIp(B b:Nat)(bs:S Value)(w:World)(h:Lib.IsBuilderF 301 5 B b bs w):
  Calls Tryz.prog 219 #[.pointer (Z ⟨b,0,W⟩)] w λe l=>e=.returned (.int .i64 (U bs))/\l=w:=by
 obtain⟨p,j⟩:∃p,Lib.BuilderAtF 301 5 B b p bs w:=h.elim (λh=>⟨_,h⟩) (λh=>⟨_,h⟩);obtain⟨v,k,m,a,_⟩:=tZ j;obtain⟨d,cap,rfl⟩:∃d cap,v=.slice d (U bs) cap:=by rcases a.2 with⟨c,i⟩|⟨g,cap,f,n,c,_⟩;exact⟨W,0,by rw[c,i]⟩;exact⟨_,_,c⟩
 go_enter Tryz.func219,Tryz.ntmps219
 go_wp2
 go_ret
 exact⟨rfl,rfl⟩
def xc(B b:Nat)(bs:Ψ Value)(c:Int)(w:World)(h:Lib.IsBuilderF 301 5 B b bs w)(C:U bs+1≤140737488355328)(H:B≤w.heap.size):
  Calls Tryz.prog 215 #[.pointer (Z ⟨b,0,W⟩),.int .u8 c] w λe E=>e=.returned .nilIface/\Lib.BuilderAtF 301 5 B b (.pointer (Z ⟨b,0,W⟩)) (bs++[.int .u8 c]) E/\Below B w E:=by
 obtain⟨M,I,t,x,y⟩:=ABr;go_enter Tryz.func215,Tryz.ntmps215;go_wp2_with (go_at_call 276;apply (zB B b bs _ h).mono)
 rintro e F ⟨rfl,m,l⟩;have A:=m.1;have r:=m.lt;have c0:=m.cell0;obtain⟨v,q,z,i,s⟩:=tZ m;have K:=l.size;go_wp2_with (at_builtin;apply wpList_append_ownF _ rfl _ _ 22 rfl B 5 M (.int .u8 0) 1 1 Tryz.underlying22 I t x y rfl g! _ _ _ rfl (i.alloc _) ⟨F.heap.size,0,W⟩ 1 1 [.int .u8 c] rfl rfl ?z ?c2 ?c3 ?c4 ?c5)
 case z=>
  intro j u n;match j,n with
  |0,n=>simp at n;subst n;simp[Addr.add]
 case c2=>intro u D;simp at D;subst D;rfl
 case c3=>unfold maxLen;omega
 case c4=>omega
 case c5=>simp;omega
 intro N o d a _;have f:o.heap[b]?=Z (.cells #[.pointer (Z ⟨b,0,W⟩),v] 301 (0,0)):=by rw[a.block b w! (s ·.symm),Lib.alloc_old F _ b r];exact q
 have O:o.cell? ⟨b,0,W⟩=Z (.pointer (Z ⟨b,0,W⟩)):=by rw[Lib.cell_of_heap f];rfl
 have P:o.cell? ⟨b,1,W⟩=Z v:=by rw[Lib.cell_of_heap f];rfl
 have Q:o.frozen? ⟨b,1,W⟩=Y:=Lib.frozen_of_heap f 1;obtain⟨g,cap,rfl⟩:∃g cap,N=.slice (Z ⟨g,0,W⟩) (U bs+1) cap:=by rcases d.2 with⟨_,S⟩|⟨g,cap,G,R,L,_⟩;omega;exact⟨g,cap,L⟩
 go_wp2
 go_ret
 refine⟨rfl,?_,?_⟩;exact Lib.BuilderAtF.put (T:=301) (e:=5) A f (bs':=bs++[.int .u8 c]) (by simpa using d) g!;exact((l.alloc o! _).grown a w! (λk J=>(i.lt k J).1)).setCell (p:=⟨b,1,W⟩) A _
def Yg(B b:Nat)(bs:S Value)(s:ByteArray)(w:World)(h:Lib.IsBuilderF 301 5 B b bs w)(z:U bs+s.size≤140737488355328)(E:B≤w.heap.size):
  Calls Tryz.prog 214 #[.pointer (Z ⟨b,0,W⟩),.string s] w λe C=>e=.returned (.tuple #[.int .i64 s.size,.nilIface])/\Lib.BuilderAtF 301 5 B b (.pointer (Z ⟨b,0,W⟩)) (bs++Lib.strCells s) C/\Below B w C:=by
 obtain⟨I,F,r,t,u⟩:=ABr;go_enter Tryz.func214,Tryz.ntmps214;go_wp2_with (go_at_call 276;apply (zB B b bs _ h).mono)
 rintro e P ⟨rfl,j,i⟩;have y:=j.1;have n:=j.lt;have c0:=j.cell0;obtain⟨v,m,K,f,o⟩:=tZ j;have H:=i.size;go_wp2_with (at_builtin;apply Lib.wpList_append_own_stringF _ rfl _ _ 22 9 rfl B 5 I Tryz.underlying22 Tryz.underlying9 F r t u _ _ _ rfl f s rfl ?c3 ?c4 ?c5)
 case c3=>unfold maxLen;omega
 case c4=>omega
 case c5=>omega
 intro J l c a _;have d:l.heap[b]?=Z (.cells #[.pointer (Z ⟨b,0,W⟩),v] 301 (0,0)):=by rw[a.block b n (o ·.symm)];exact m
 have L:l.cell? ⟨b,0,W⟩=Z (.pointer (Z ⟨b,0,W⟩)):=by rw[Lib.cell_of_heap d];rfl
 have M:l.cell? ⟨b,1,W⟩=Z v:=by rw[Lib.cell_of_heap d];rfl
 have N:l.frozen? ⟨b,1,W⟩=Y:=Lib.frozen_of_heap d 1;obtain⟨x,A,cap,rfl⟩:∃x A cap,J=.slice x A cap:=by rcases c.2 with⟨q,_⟩|⟨g,cap,D,O,q,_⟩;exact⟨_,_,_,q⟩;exact⟨_,_,_,q⟩
 go_wp2
 go_ret2
 refine⟨rfl,?_,?_⟩;exact Lib.BuilderAtF.put (T:=301) (e:=5) y d (bs':=bs++Lib.strCells s) (by simpa[Lib.strCells_length]using c) g!;exact(i.grown a o! (λk G=>(f.lt k G).1)).setCell (p:=⟨b,1,W⟩) y _
def wJ(B b:Nat)(l:S UInt8)(w:World)(h:Lib.IsBuilderF 301 5 B b (Lib.byteCells l) w)(y:l≠ []):
  Calls Tryz.prog 216 #[.pointer (Z ⟨b,0,W⟩)] w λe z=>e=.returned (.string ⟨l.toArray⟩)/\Lib.IsBuilderF 301 5 B b (Lib.byteCells l) z/\Below B w z:=by
 obtain⟨p,K,k⟩:∃p,(p=.pointer W\/p=.pointer (Z ⟨b,0,W⟩))/\Lib.BuilderAtF 301 5 B b p (Lib.byteCells l) w:=h.elim (λh=>⟨_,.inl rfl,h⟩) (λh=>⟨_,.inr rfl,h⟩);obtain⟨D,v,i,c,t⟩:=k;have s:U l≠0:=by simpa using y
 rw[Lib.byteCells_length]at c;obtain⟨g,cap,a,f,rfl,n,I,H,J,o,G,u⟩:∃g cap a f,v=.slice (Z ⟨g,0,W⟩) (U l) cap/\B<=g/\w.heap[g]?=Z (.cells a 5 f)/\f.2<=U l*1/\U l<=cap/\cap<=maxLen/\a.size=cap*1/\a.toList.take (U l*1)=Lib.byteCells l:=by rcases c.2 with⟨_,N⟩|⟨g,cap,a,f,L,r⟩;exact N! N s;exact⟨g,cap,a,f,L,r⟩
 have A:w.drew.cell? ⟨b,1,W⟩=Z (.slice (Z ⟨g,0,W⟩) (U l) cap):=by have:w.drew.heap[b]?=Z (.cells #[p,.slice (Z ⟨g,0,W⟩) (U l) cap] 301 (0,0)):=i;rw[Lib.cell_of_heap this];rfl
 have E:(Builtin.unsafeSliceData_ #[22] 358 #[.slice (Z ⟨g,0,W⟩) (U l) cap]).run Tryz.prog w.drew=.ok (.pointer (Z ⟨g,0,W⟩)) w.drew:=Lib.run_unsafeSliceData_row _ _ _ _ _ _ o!;have F:(Builtin.unsafeString_ #[358,3] 9 #[.pointer (Z ⟨g,0,W⟩),.int .i64 (U l)]).run Tryz.prog w.drew=.ok (.string ⟨l.toArray⟩) (w.drew.freeze ⟨g,0,W⟩ (U l)):=by apply Lib.run_unsafeString_row w.drew 358 3 9 5 Tryz.underlying358 h! g a.size (by have q:w.drew.heap[g]?=Z (.cells a 5 f):=I;simp[World.shape?,q]) l y o! (by unfold maxLen at o;omega);intro j x M;exact c.cells (g:=g) rfl j (.int .u8 x.toNat) (by simp[Lib.byteCells,M])
 have d:Lib.IsBuilderF 301 5 B b (Lib.byteCells l) (w.drew.freeze ⟨g,0,W⟩ (U l)):=by
  have C:Lib.BuilderAtF 301 5 B b p (Lib.byteCells l) w.drew:=⟨D,_,i,by rw[Lib.byteCells_length];exact c,t⟩
  have m:=C.froze (g:=g) (cap:=cap) (by rw[Lib.byteCells_length];exact A);rw[Lib.byteCells_length]at m;rcases K with rfl|rfl;exact .inl m;exact .inr m
 go_enter Tryz.func216,Tryz.ntmps216
 go_wp2
 go_region
 all_goals (go_wp2;go_ret;exact⟨rfl,d,Lib.below_freeze (Below.drew (Below.refl B w)) (p:=⟨g,0,W⟩) n _⟩)
set_option maxRecDepth 1000000 in
def AEK(B b n:Nat)(w:World)(p:B≤b)(a:w.heap[b]?=Z (.cells #[.pointer (Z ⟨b,0,ε⟩),.slice ε 0 0] 301 (0,0)))(j:B≤w.heap.size)(hn:n≤281474976710656):
  Calls Tryz.prog 279 #[.pointer (Z ⟨b,0,ε⟩),.int .i64 n] w λe o=>e=.returned (.tuple #[])/\Lib.BuilderAt 301 5 B b (.pointer (Z ⟨b,0,ε⟩)) [] o/\Below B w o:=by
 obtain⟨c,h,q,g⟩:=Lib.run_makeNoZero (P:=Tryz.prog) w.drew #[3] 22 5 Tryz.underlying22 n hn;have m:IntKind.i64.wrap (IntKind.i64.wrap 0+(n:Int))=n:=by rw[IntKind.wrap_i64,IntKind.wrap_i64];omega
 have k:(callFunc 309 #[.int .i64 (IntKind.i64.wrap (IntKind.i64.wrap 0+(n:Int)))]).run Tryz.prog w.drew=.ok (.value (.slice (Z ⟨w.drew.heap.size,0,ε⟩) n c.size)) (w.drew.drew.drew.alloc (.cells c 5)):=by rw[m,run_callFunc_extern Tryz.func309 h! h! h! (e:=Extern.BytealgMakeNoZero.makeNoZero #[3] #[22]) h!,h];rfl
 have f:b<w.heap.size:=by rcases Ay b w.heap.size with i|i;exact i;simp[tW i]at a
 have r:w.drew.cell? ⟨b,1,ε⟩=Z (.slice ε 0 0):=by have:w.drew.heap[b]?=_:=a;rw[Lib.cell_of_heap this];rfl
 have s:(w.alloc (.cells c 5)).cell? ⟨b,1,ε⟩=Z (.slice ε 0 0):=by have:(w.alloc (.cells c 5)).heap[b]?=_:=(Lib.alloc_old w _ b f).trans a;rw[Lib.cell_of_heap this];rfl
 have t:(w.alloc (.cells c 5)).frozen? ⟨b,1,ε⟩=Y:=Lib.frozen_of_heap ((Lib.alloc_old w _ b f).trans a) 1;have l:∀W_:World,(Builtin.copy_ #[22,22] 3 #[.slice (Z ⟨w.heap.size,0,ε⟩) 0 c.size,.slice ε 0 0]).run Tryz.prog W_=.ok (goInt 0) W_:=λW_=>run_copy_none W_ 22 22 3 5 _ _ 0 c.size 0 0 Tryz.underlying22 h! rfl;clear m;have d:=Lib.grown_fresh (T:=301) (e:=5) (cs:=c) p a j (g (by unfold maxLen;omega)) g!;rw[World.setCell_alloc_past _ _ _ _ f]at d;go_enter Tryz.func279,Tryz.ntmps279;go_wp2;go_region;all_goals (go_wp2;go_end0;exact⟨rfl,d⟩)
set_option maxRecDepth 1000000 in
def AGT(B b n:Nat)(w:World)(g:B≤b)(c:w.heap[b]?=Z (.cells #[.pointer W,.slice W 0 0] 301 (0,0)))(h:B≤w.heap.size)(hn:n≤281474976710656):
  Calls Tryz.prog 218 #[.pointer (Z ⟨b,0,W⟩),.int .i64 n] w λe f=>e=.returned (.tuple #[])/\Lib.BuilderAt 301 5 B b (.pointer (Z ⟨b,0,W⟩)) [] f/\Below B w f:=by
 have a:(w.setCell ⟨b,0,W⟩ (.pointer (Z ⟨b,0,W⟩))).heap[b]?=Z (.cells #[.pointer (Z ⟨b,0,W⟩),.slice W 0 0] 301 (0,0)):=by simp[World.setCell,cJ,c]
 have i:(w.setCell ⟨b,0,W⟩ (.pointer (Z ⟨b,0,W⟩))).cell? ⟨b,1,W⟩=Z (.slice W 0 0):=by rw[Lib.cell_of_heap a];rfl
 have d:Below B w (w.setCell ⟨b,0,W⟩ (.pointer (Z ⟨b,0,W⟩))):=(Below.refl B w).setCell (p:=⟨b,0,W⟩) g _;have m:Lib.BuilderAt 301 5 B b (.pointer (Z ⟨b,0,W⟩)) [] (w.setCell ⟨b,0,W⟩ (.pointer (Z ⟨b,0,W⟩))):=⟨g,.slice W 0 0,a,World.ownsRow_nil _ _ _ _,by simp[Value.ownBlock]⟩
 have j:(w.setCell ⟨b,0,W⟩ (.pointer (Z ⟨b,0,W⟩))).drew.cell? ⟨b,1,W⟩=Z (.slice W 0 0):=i;go_enter Tryz.func218,Tryz.ntmps218;go_wp2_with (go_at_call 276;apply (jg b w (by rw[Lib.cell_of_heap c];rfl) (by simp[World.shape?,c]) (Lib.frozen_of_heap c 0)).mono;rintro e f ⟨rfl,rfl⟩)
 go_region
 all_goals go_wp2_with (go_at_call 279;apply (AEK B b n (w.setCell ⟨b,0,W⟩ (.pointer (Z ⟨b,0,W⟩))).drew g a (by simpa[World.setCell,World.drew,-World.drew_eq]using h) hn).mono;rintro e f ⟨rfl,k,l⟩)
 all_goals first
  |(go_end0;exact⟨rfl,k,d.drew.trans l⟩)
  |(go_end0;exact⟨rfl,m.drew,d.drew⟩)
end Go.Proofs.YtdbincbpjobdpaaGreat
