/- Texts of wip, joined and shortened by wip/tools/pack.py; nothing is assumed. -/
import Derived.Test.YtdbincbpjobdpaaGreatK13
import Derived.Test.YtdbincbpjobdpaaGreatProg
import Derived.Lib.Builder
import Derived.Lib.FrozenHead
import Derived.Lib.FrozenHead2
import Derived.Lib.AppendStr
import Derived.Lib.UnsafeStr
import Derived.Lib.Repeat
import Derived.Lib.RepeatB
import Derived.Lib.Walk
import Derived.WalkKit
import Derived.Laws.Externs
import Derived.Shelf.RegionOpenPlain
import Derived.Lib.MakeNoZero
import Derived.Laws.IdiomCopy
import Derived.Deep.LoopGhost
import Derived.Deep.DeepCutAuto
import Derived.Deep.DeepFit
import Derived.Deep.CutBlock
noncomputable section
set_option linter.all false
open Option renaming some->δ,none->ε,bind->σ
open Bool renaming true->ζ,false->η
open List renaming length->θ,replicate->ς
open Go.IntKind renaming wrap->ι
open BitVec renaming ofInt->κ,toNat->π
open Sum renaming elim->ν
open Nat renaming beq->ξ
open Int renaming toNat->ο
open Decidable renaming decide->τ
namespace Go.Pm
open Go Go.Ab
set_option maxHeartbeats 400000
variable {a:List EN}{b:Aa}{c:AI}{d j:Nat}{e k:Int}{f:List Aq}{g:BS}{h:Type}{i:List Int}
theorem AFX{C:List EN}{p i k:Int}(h:AR a c)(D:TR a b)(H:0<=p/\p<c.2.1)(r:RC c d)(j:d<=12)(G:HI (c,b,p,i,k)=δ (C,0)):As (H7 (c,b,p,i,k)) λu=>u.2.2.2=0:=by
 unfold H7;dsimp only;rw[G,AD,H!,A!];refine AA (RI D.vl) λV _=>?_;have⟨f,R,t,_⟩:=wa h.vb H;rw[t,AD,CM,A!];obtain⟨q,w,v,M,W,rfl,X,Y⟩:=sU h.vb h.ds (Kl h.vb) h.dis;rw[w,AD];have Q:(v.filter λe=>e.1.2.2.1==f).length<=12:=by rw[(M.filter _).length_eq];exact Ct (r f) j
 refine AA (P:=λl=>θ l<=12) ?_ λJ m=>?_
 ·refine Cp (λ(s:Int×List Int)=>∃k:Nat,s.1=k/\θ s.2<=((v.take k).filter λe=>e.1.2.2.1==f).length/\k<=θ v) (λs=>θ v-s.1.toNat) ⟨0,rfl,Bc _,Bc _⟩ ?_;rintro⟨_,o⟩ ⟨k,rfl,ok,S⟩;dsimp only at ok;unfold Ug;dsimp[len];have F:(v.map (·.1)).length=θ v:=BT _;refine AC (λr=>?_) (λr=>As.done (by rw[BP o!]at ok;omega));have L:k<θ v:=o!
  have I:v.take (k+1)=v.take k++[v[k]]:=by grind[List.take_add_one,List.getElem?_eq_getElem]
  have y:ix (v.map (·.1)) (k:Int)=δ v[k].1:=by unfold ix;rw[C! o!,Int.toNat_natCast,List.getElem?_map,List.getElem?_eq_getElem L];rfl
  have z:ix (v.map (·.2)) (k:Int)=δ v[k].2:=by unfold ix;rw[C! o!,Int.toNat_natCast,List.getElem?_map,List.getElem?_eq_getElem L];rfl
  rw[y,AD,z,AZ (x:=(k:Int)+1)];have E:((v.take k).filter λe=>e.1.2.2.1==f).length<=((v.take (k+1)).filter λe=>e.1.2.2.1==f).length:=by grind[List.length_append]
  have A:As (δ (Step.next ((k:Int)+1,o)):Option (Step (Int×List Int) (List Int))) (Nn (λ(s:Int×List Int)=>∃k:Nat,s.1=k/\θ s.2<=((v.take k).filter λe=>e.1.2.2.1==f).length/\k<=θ v) (λs=>θ v-s.1.toNat) (θ v-k) λl=>θ l<=12):=As.next ⟨k+1,rfl,d!,L⟩ d!
  refine AP (λO=>?_) (λ_=>A);rw[AD];have T:=FF (λe=>e.1.2.2.1==f) (v.take k);have U:=eE k v;have g:As (σ (app o [v[k].2]) λB=>δ (Step.next ((k:Int)+1,B)):Option (Step (Int×List Int) (List Int))) (Nn (λ(s:Int×List Int)=>∃k:Nat,s.1=k/\θ s.2<=((v.take k).filter λe=>e.1.2.2.1==f).length/\k<=θ v) (λs=>θ v-s.1.toNat) (θ v-k) λl=>θ l<=12):=by
   refine AA (Ad w!) λB N=>As.next ⟨k+1,rfl,?_,L⟩ d!
   grind[List.length_append]
  exact AC (λ_=>A) (λ_=>AC (λ_=>g) (λ_=>AC (λ_=>g) (λ_=>AC (λ_=>g) (λ_=>A))))
 refine AA (AGn m) λK n=>?_;rw[bO n,B!];exact AC (λ_=>AB rfl) (λ_=>AB rfl)
def AIY(h:Hs a){p:Int}{j k:Nat}(L:Bd (a.take j) p<=k):∃i:Nat,i<=k/\Bd (a.take i) p=Bd (a.take j) p/\st (a.take i) p=st (a.take j) p:=by have q0:=Uz h p j;have e:=Xp h (p:=p) (k:=j);exact⟨(Bd (a.take j) p).toNat,o!,e,lY h e⟩
theorem AGM{p:Int}{j k:Nat}(h:LI e a)(l:Hs a)(g:AR a c)(d:TR a b)(i:HI (c,b,p,Bd (a.take j) p,(k:Int))=δ (a.filter (LK p (Bd (a.take j) p) k),0))(L:j<=k)(o:k<=θ a)(f:0<=p/\p<64):Jf (st (a.take j) p,c,b,(k:Int))=δ (st (a.take k) p,0):=by have n:=d.len;have q:=Uz l p j;have m:=gj (l.take j) p;rw[BR]at m;unfold Jf;dsimp only;rw[AEb g.vb d.vl,AD,H!,A!,lT ((Ys l f (by omega:θ a<=1099511627776)) j),AD];dsimp only;rw[H!,A!,KB,U3,F! o!,A!,i,AD];dsimp only;rw[H!,A!,show Bd (a.take j) p=(((Bd (a.take j) p).toNat:Nat):Int) by omega,ABt l o!,oC l (j:=j) o! (Xp l),ABg (xK l h f o! j k L) (by have:=FF (cu p) ((a.take k).drop j);rw[C5,BR]at this;omega),<-lZ L];rfl
theorem AJN{p w C fl:Int}{l:Nat}(B:LI e a)(f:Hs a)(L:AR a c)(h:TR a b)(hr:RC c l)(x:l<=12)(J:d<=θ a)(t:0<=p/\p<c.2.1)(n:p<64)(H:QR c p w C)(z:sR (rT c b w) d fl){j:Nat}(v:Bd (a.take j) p<=d):(fl<=Bd (a.take j) p/\Jf (st (a.take j) p,c,b,(d:Int))=δ (st (a.take d) p,0)/\As (H7 (c,b,p,Bd (a.take j) p,(d:Int))) λu=>u.2.2.2=0)\/(¬fl<=Bd (a.take j) p/\As (Jf (st (a.take j) p,c,b,(d:Int))) λr=>r.2≠0):=by have s:=h.len;have⟨i,D,q,y⟩:=AIY f v;have F:=Uz f p i;rw[<-q,<-y];rw[<-q]at v;have⟨G,I,A,o,k,_,r⟩:=sP (p:=p) (i:=Bd (a.take i) p) (j:=(d:Int)) (CPa 4096) g! B o! F o! o! L h t;have m:=H.uniq L.vb.1 rfl rfl o;subst m;have g:=z.uniq (λ_=>Iff.rfl) k;subst g;rcases r with⟨q1,E⟩|⟨q1,E⟩;refine .inr ⟨o!,?_⟩;unfold Jf;dsimp only;rw[AEb L.vb h.vl,AD,H!,A!,lT (Ys f ⟨t.1,n⟩ (by omega:θ a<=1099511627776) i),AD];grind[KB,U3,AL,AB];grind[AGM,AFX]
def AB2{p:Int}{L:Nat}(hL:LI e a)(D:Hs a)(W:AR a c)(M:TR a b)(hr:RC c L)(S:L<=12)(hk:d<=θ a)(hm:(j:Int)=c.2.1)(hn:1<=j/\j<=64)(h8:θ f<=8)(hf:∀n∈f,FB H8 a k j n)(N:0<=p/\p<c.2.1):∃Q X fl,QR c p Q X/\sR (rT c b Q) d fl/\As (Ca (f,c,b,p,(d:Int))) λr=>(r.2.2=49/\fl≠0/\∀x,Yz a k j f (θ f) x->so x p<=d->¬fl<=so x p)\/(r.2.2=0/\r.1=st (a.take d) p/\r.2.1.1=p/\r.2.1.2.2.2.1=d/\(fl=0\/∃x,Yz a k j f (θ f) x/\so x p<=d/\fl<=so x p)):=by
 have ax:=M.len;have ap:0<=p/\p<64:=⟨N.1,o!⟩
 have pm:0<=p/\p<j:=⟨N.1,o!⟩
 obtain⟨Q,X,fl,p1,T,_,_⟩:=sP (p:=p) (i:=0) (j:=(d:Int)) (CPa 4096) g! hL o! (Af _) o! o! W M N;refine⟨Q,X,fl,p1,T,?_⟩;obtain⟨v,hv,rfl⟩:=Fb W.vb;obtain⟨w,hw,rfl⟩:=Gv M.vl;have pg:=λm (hq:Bd (a.take m) p<=d)=>AJN hL D W M hr S hk N ap.2 p1 T (j:=m) hq;obtain⟨V,hV,v8,E⟩:=qK D o! hn h8 hf;have hP:∀x∈V,PI a k j x:=λx hx=>by obtain⟨i,n,_,_,q⟩:=(E x).1 hx;exact q.2.2.1
 unfold Ca;dsimp only;rw[hv,AD,CM,A!,hw,AD,CM,A!,F! o!,A!,F! o!,A!,F! o!,A!,hV,AD];refine AA (xt D o! hn hV v8 hP pm) λl C=>?_;obtain⟨r8,t⟩:=C;refine AA (P:=λ(r:(Int×AS×BS)⊕(AS×BS))=>((∃z,r=.inr z)/\∀y∈l,¬fl<=y.1)\/∃y:BS,r=.inl (0,st (a.take d) p,y)/\y.1=p/\y.2.2.2.1=d/\∃x,Yz a k j f (θ f) x/\so x p<=d/\fl<=so x p) ?_ λr ad=>?_
 ·refine Cp (λ(s:Int×AS×BS)=>0<=s.1/\s.1<=θ l/\∀y∈l.take s.1.toNat,¬fl<=y.1) (λs=>((θ l:Int)-s.1).toNat) ⟨Af _,d!,λy H=>by simp at H⟩ ?_;rintro⟨i,s⟩ ⟨i0,i1,O⟩;dsimp only at i0 i1 O;unfold Rx;dsimp only[len];refine AC (λF=>?_) (λF=>As.done (.inl ⟨⟨_,rfl⟩,by rw[BP o!]at O;exact O⟩));rw[AZ (x:=i+1)];refine AA (AJ i0 F) λv5 h5=>?_;obtain⟨x,R,xk,xe⟩:=(t v5).1 h5.2;obtain⟨m,hj,x1,x2,ex⟩:=hP x R;have a0:so x p=Bd (a.take m) p:=by rw[ex];exact ADc pm
  refine AA (AG9 v8 (y:=v5) ⟨x,R,by rw[xe]⟩) λv9 h9=>?_;obtain⟨g,I,rfl,g0,gx,U⟩:=h9;have ao:I=x:=Yz.uniq D o! hn ((E I).1 (BN gx)) ((E x).1 R) (U.trans (by rw[xe]));subst ao;apply BK;have Y:ix V g=δ I:=by unfold ix;rw[C! g0,gx]
  have h:=wX D (by omega:θ a<=1099511627776) (j:=m) ⟨x1,x2⟩ hn pm;rw[<-ex]at h;rw[Y,AD,h,AD,H!,A!,KB];rcases pg m o! with⟨J,o,K⟩|⟨J,o⟩
  ·rw[o,AD,H!,A!];refine AA K λu hu=>AP (λ_=>As.done (.inr ⟨_,rfl,rfl,rfl,I,(E I).1 R,xk,o!⟩)) (λB=>N! hu B)
  ·refine AA o λar A=>AL (λ_=>As.next ⟨d!,d!,λy H=>?_⟩ d!) (λhz=>N! hz A);dsimp only at H;rw[show(i+1).toNat=i.toNat+1 by omega,Co,h5.1]at H;rcases Ak.1 H with q|q;exact O y q;have q:=BA.1 q;rw[q,xe];dsimp only;omega
 rcases ad with⟨⟨z,rfl⟩,Z⟩|⟨y,rfl,J,o,K⟩;apply A4;have G:∀x,Yz a k j f (θ f) x->so x p<=d->¬fl<=so x p:=λx hx al=>Z _ ((t _).2 ⟨x,(E x).2 hx,al,rfl⟩);have l0:Bd (a.take 0) p=0:=rfl;have f0:=T.1;rw[show DO p=δ (st (a.take 0) p)from rfl,AD,KB];rcases pg 0 (by rw[l0];omega)with⟨J,o,K⟩|⟨J,o⟩;rw[o,AD,H!,A!];exact AA K λu hu=>AP (λ_=>AB (.inr ⟨rfl,rfl,rfl,rfl,.inl o!⟩)) (λB=>N! hu B);exact AA o λar A=>AL (λ_=>AB (.inl ⟨rfl,o!,G⟩)) (λhz=>N! hz A);exact BK (AB (.inr ⟨rfl,rfl,J,o,.inr K⟩))
def AB3{n d:Int}{L:List EN}{p:Int}{k m a:Nat}{fs:List Aq}(o:LI n L)(s:Hs L)(j:AR L c)(x:TR L b)(t:Cov c b k)(hr:RC c a)(l:a<=12)(w:k<=θ L)(y:(m:Int)=c.2.1)(hn:1<=m/\m<=64)(i:θ fs<=8)(u:∀f∈fs,FI L d m f)(z:0<=p/\p<c.2.1):As (Ca (fs,c,b,p,(k:Int))) λr=>r.1=st (L.take k) p/\r.2.2=0:=by obtain⟨B,v,fl,C,⟨D,e,E,g⟩,A⟩:=AB2 o s j x hr l w y hn i (λf q=>.inl (u f q)) z;refine A.mono λr h=>?_;rcases h with⟨_,q,_⟩|⟨q1,q2,_⟩;exact N! (t fl o! e p B v C) (g.resolve_left q);exact⟨q2,q1⟩
set_option maxRecDepth 100000
noncomputable section

end
noncomputable section

end
set_option maxHeartbeats 1000000
def Zn{l:List h}(a:d<θ l):ix l (d:Int)=δ l[d]:=by unfold ix;rw[C! o!,Cz,Ar a]
def Hol(F:Nat->Int)(i j:Nat):Prop:=(∀a b,a<b->b<=i->a≠j->b≠j->F a<=F b)/\∀b,j<b->b<=i->F j<=F b
def lO{l:List Int}(h:d<θ l):l.getD d 0=l[d]:=by rw[Ns,Ar h];rfl
def ACQ{l:List Int}(d:j<θ l)(c:0<j)(a:Nat):((l.set j (l.getD (j-1) 0)).set (j-1) (l.getD j 0)).getD a 0=if a=j-1 then l.getD j 0 else if a=j then l.getD (j-1) 0 else l.getD a 0:=by simp only[Ns,TY,Xz];split;rename_i h;rw[C! o!,C! h.symm];rfl;rename_i h;split;rename_i b;rw[D! o!,C! b.symm];rfl;rename_i b;rw[D! o!,D! o!]
def AH1(I:θ i<=12):As (AAE Ny (λG=>G) i (0,(θ i:Int))) λr=>r.Perm i/\∀a b,a<b->b<θ i->r.getD a 0<=r.getD b 0:=by
 unfold AAE;refine AA (P:=λr=>r.Perm i/\∀a b,a<b->b<θ i->r.getD a 0<=r.getD b 0) ?_ λr hr=>AB hr;refine Cp (λ(s:Int×List Int)=>∃l:Nat,s.1=l/\1<=l/\l<=θ i+1/\s.2.Perm i/\∀a b,a<b->b<l->s.2.getD a 0<=s.2.getD b 0) (λs=>θ i+1-s.1.toNat) ⟨1,by show wi (0+1)=_;rw[AZ];rfl,An _,o!,kv _,λa b c d=>o!⟩ ?_;rintro⟨_,b⟩ ⟨l,rfl,J,K,m,w⟩;dsimp only at m w;have C:=m.length_eq;dsimp only;refine AC (λF=>?_) (λF=>As.done ⟨m,λa b c d=>w a b c o!⟩);refine AA (P:=λr=>r.Perm i/\∀a b,a<b->b<l+1->r.getD a 0<=r.getD b 0) ?_ λr hr=>?_
 ·refine Cp (λ(t:Int×List Int)=>∃j:Nat,t.1=j/\j<=l/\t.2.Perm i/\Hol (λa=>t.2.getD a 0) l j) (λt=>t.1.toNat) ⟨l,rfl,An _,m,λa b c d A B=>w a b c o!,λb c d=>o!⟩ ?_;rintro⟨_,t⟩ ⟨j,rfl,H,o,z⟩;dsimp only at o z;have M:=o.length_eq;unfold AD3;dsimp only;refine AA (P:=λr:Unit⊕Unit=>(r=.inr ()/\0<j/\t.getD j 0<t.getD (j-1) 0)\/(r=.inl ()/\(j=0\/t.getD (j-1) 0<=t.getD j 0))) ?_ λr hr=>?_;refine AC (λg=>?_) (λg=>AB (.inr ⟨rfl,.inl o!⟩));rw[AZ (x:=(j:Int)-1),show(j:Int)-1=((j-1:Nat):Int) by omega,Zn (show j<θ t by omega),AD,AD,Zn (show j-1<θ t by omega),AD,AD];refine AA Vy λN u=>?_;dsimp only at u;rw[lO o!,lO o!];exact AK (λh=>AB (.inl ⟨rfl,o!,u.1 h⟩)) (λh=>AB (.inr ⟨rfl,.inr (Int.not_lt.1 λq=>by rw[u.2 q]at h;cases h)⟩))
  ·rcases hr with⟨rfl,E,v⟩|⟨rfl,hr⟩
   ·apply A4;rw[AZ (x:=(j:Int)-1),show(j:Int)-1=((j-1:Nat):Int) by omega,Zn (show j-1<θ t by omega),AD,AD,Zn (show j<θ t by omega),AD,AD,AD,AD];have L:(Eo t (j:Int) t[j-1]).length=θ t:=og;rw[Zn (show j-1<(Eo t (j:Int) t[j-1]).length by omega),AD,AD];refine As.next ⟨j-1,rfl,o!,?_,?_⟩ d!
    unfold Eo;dsimp only;rw[Cz,Cz];exact(List.set_set_perm o! o!).trans o;unfold Eo;dsimp only;rw[Cz,Cz,<-lO (show j-1<θ t by omega),<-lO (show j<θ t by omega)];have n:=ACQ (l:=t) (show j<θ t by omega) E;obtain⟨f,y⟩:=z;refine⟨λa b c d A B=>?_,λb c d=>?_⟩;dsimp only;rw[n,n,D! A,D! B];split;rename_i e;rw[D! o!];exact f (j-1) b o! d o! o!;rename_i e;split;exact f a (j-1) o! o! e o!;rename_i k;exact f a b c d e k;dsimp only;rw[n,n,C! rfl,D! o!];split;exact Int.le_of_lt v;exact y b o! d
   ·refine BK (As.done ⟨o,λa b c d=>?_⟩);obtain⟨f,y⟩:=z;by_cases p:a=j;subst p;exact y b c o!;by_cases k:b=j;subst k;have hr:=hr.resolve_left o!;by_cases D:a=b-1;subst D;exact hr;exact bX (f a (b-1) o! o! p o!) hr;exact f a b c o! p k
 ·rw[AZ (x:=(l:Int)+1)];exact As.next ⟨l+1,rfl,o!,o!,hr.1,hr.2⟩ d!
theorem AJM{Q:List h->Prop}{f:List h->Int×Int->Option (List h)}{l:List h}(e:As (f l (0,(θ l:Int))) λr=>r.Perm l/\Q r)(a:θ l<=12)(n:Int):As (rU (λ(_:List h×(Int×(Int×Int))->Option (List h)) p=>pdG f p.1 p.2) (l,0,len l,n)) λr=>r.Perm l/\Q r:=by
 have step:As (pdG f l (0,len l,n)) λr=>r.Perm l/\Q r:=by unfold pdG;refine AA (P:=λr=>r.Perm l/\Q r) ?_ λr hr=>AB hr;rw[HG];unfold AIM;dsimp[len];rw[AZ,G! o!,B!];have⟨r,hr,c⟩:=e;have g:=bO c.1;grind
 have⟨r,hr,c⟩:=step;have⟨s,d⟩:=fy (f:=λ(_:List h×(Int×(Int×Int))->Option (List h)) p=>pdG f p.1 p.2) (x:=(l,0,len l,n)) (n:=1) hr;have⟨N,b⟩:=c7 d;refine⟨s,d,?_⟩;cases N with
 |zero=>cases b
 |succ N=>exact step.get b
theorem AJY{Q:List h->Prop}{f:List h->Int×(Int×Int)->Option (List h)}{l:List h}(b:∀n,As (f l (0,len l,n)) λr=>r.Perm l/\Q r)(a:θ l<=12):As (soG f l) λr=>r.Perm l/\Q r:=by unfold soG Sy;obtain⟨n,g,-,-⟩:=AA3 (x:=θ l) o!;have:= @bO;grind[We,AA,AB]
def AGm(h:θ i<=12):As (Lw i ()) λr=>r.Perm i/\r.Pairwise (· <= ·):=(AJY (λn=>AJM (AH1 h) h n) h).mono λr q=>⟨q.1,Gm.2 λl j c b a=>by have:=q.2 l j a (by rw[<-q.1.length_eq];exact b);rwa [lO c,lO b]at this⟩
def zY(l:Aa)(i:Int):Int:=if l.1>i+1 then l.1 else i+1
def xr(l:Aa)(k:Int):Int:=if l.1+θ l.2.1-1<k then l.1+θ l.2.1-1 else k
def rM(l:Aa)(lo i k:Int)(e:NE):Bool:=letI b:=(if e.1.2.1<k then e.1.2.1 else k);letI a:=(if e.1.1>i+1 then e.1.1 else i+1);e.1.2.2.1==lo&&τ (a<=b)&&(τ (zY l i>xr l k)||decide (a<zY l i)||decide (b>xr l k))
theorem ADL{S:List EN}{p i k l hi:Int}(h:AR a c)(hl:TR a b)(hp:0<=p/\p<c.2.1)(B:RC c d)(A:d<=12)(p1:QR c p l hi)(al:0<=i)(ao:i<=1099511627776)(ho:HI (c,b,p,i,k)=δ (S,0)):As (H7 (c,b,p,i,k)) λu=>u.2.2.2=0/\(u.1.Perm (((DZ c).filter (rM b l i k)).map (·.2))/\u.1.Pairwise (· <= ·))/\((xr b k<zY b i/\u.2.1=0/\u.2.2.1=0)\/(zY b i<=xr b k/\u.2.1=zY b i/\u.2.2.1=xr b k)):=by
 unfold H7;dsimp only;rw[ho,AD,H!,A!];refine AA (RI hl.vl) λv1 W=>?_;have⟨ar,ad,E,p2⟩:=wa h.vb hp;have C:=p1.uniq h.vb.1 rfl rfl p2;subst C;rw[E,AD,CM,A!];obtain⟨q,F,v,R,w2,rfl,w4,w5⟩:=sU h.vb h.ds (Kl h.vb) h.dis;rw[F,AD,AZ (x:=i+1)];have Z:(v.filter λe=>e.1.2.2.1==l).length<=12:=by rw[(R.filter _).length_eq];exact Ct (B l) A
 have t:∀j,((v.take j).filter (rM b l i k)).length<=12:=λj=>by
  refine Ct (Ct ((List.take_sublist j v).filter _).length_le ?_) Z;have e:v.filter (rM b l i k)=(v.filter λe=>e.1.2.2.1==l).filter (rM b l i k):=by rw[List.filter_filter];refine List.filter_congr λx _=>?_;unfold rM;cases (x.1.2.2.1==l)<;>simp
  rw[e];exact FF _ _
 have N:v1=b.1+θ b.2.1-1:=W;refine AA (P:=λf=>f=(v.filter (rM b l i k)).map (·.2)) ?_ λK y=>?_
 ·refine Cp (λ(s:Int×List Int)=>∃j:Nat,s.1=j/\s.2=((v.take j).filter (rM b l i k)).map (·.2)/\j<=θ v) (λs=>θ v-s.1.toNat) ⟨0,rfl,rfl,Bc _⟩ ?_;rintro⟨_,o⟩ ⟨j,rfl,ok,hk⟩;dsimp only at ok;unfold Ug;dsimp[len];have ap:(v.map (·.1)).length=θ v:=BT _;refine AC (λB=>?_) (λB=>As.done (by rw[BP o!]at ok;exact ok));have m:j<θ v:=o!
  have z:v.take (j+1)=v.take j++[v[j]]:=by grind[List.take_add_one,List.getElem?_eq_getElem]
  have G:ix (v.map (·.1)) (j:Int)=δ v[j].1:=by unfold ix;rw[C! o!,Int.toNat_natCast,List.getElem?_map,List.getElem?_eq_getElem m];rfl
  have H:ix (v.map (·.2)) (j:Int)=δ v[j].2:=by unfold ix;rw[C! o!,Int.toNat_natCast,List.getElem?_map,List.getElem?_eq_getElem m];rfl
  rw[G,AD,H,AZ (x:=(j:Int)+1)];have J:rM b l i k v[j]=η->As (δ (Step.next ((j:Int)+1,o)):Option (Step (Int×List Int) (List Int))) (Nn (λ(s:Int×List Int)=>∃j:Nat,s.1=j/\s.2=((v.take j).filter (rM b l i k)).map (·.2)/\j<=θ v) (λs=>θ v-s.1.toNat) (θ v-j) λf=>f=(v.filter (rM b l i k)).map (·.2)):=λn=>As.next ⟨j+1,rfl,by dsimp only;rw[z,HY,Q5,n];simpa using ok,m⟩ d!
  have w:rM b l i k v[j]=ζ->As (σ (app o [v[j].2]) λQ=>δ (Step.next ((j:Int)+1,Q)):Option (Step (Int×List Int) (List Int))) (Nn (λ(s:Int×List Int)=>∃j:Nat,s.1=j/\s.2=((v.take j).filter (rM b l i k)).map (·.2)/\j<=θ v) (λs=>θ v-s.1.toNat) (θ v-j) λf=>f=(v.filter (rM b l i k)).map (·.2)):=λn=>by
   have ol:θ o<=12:=by rw[ok,BT];exact t j
   refine AA (Ad w!) λQ X=>As.next ⟨j+1,rfl,?_,m⟩ d!
   dsimp only;rw[X.1,z,HY,Q5,n,ok];simp
  refine AP (λY=>?_) (λD=>J (by unfold rM;rw[beq_eq_false_iff_ne.2 D];rfl));rw[AD,N,AZ (x:=i+1)];have n:rM b l i k v[j]=(τ ((if v[j].1.1>i+1 then v[j].1.1 else i+1)<=(if v[j].1.2.1<k then v[j].1.2.1 else k))&&(τ (zY b i>xr b k)||decide ((if v[j].1.1>i+1 then v[j].1.1 else i+1)<zY b i)||decide ((if v[j].1.2.1<k then v[j].1.2.1 else k)>xr b k))):=by unfold rM;rw[Y,L!,kp]
  refine AC (λg=>J ?_) (λg1=>AC (λg=>w ?_) (λT=>AC (λg=>w ?_) (λU=>AC (λg=>w ?_) (λV=>J ?_))));rw[n,F! o!,o7];rw[n,G! o!,G! (p:=zY b i>xr b k) g];rfl;rw[n,G! o!,G! (p:=(if v[j].1.1>i+1 then v[j].1.1 else i+1)<zY b i) g];simp;rw[n,G! o!,G! (p:=(if v[j].1.2.1<k then v[j].1.2.1 else k)>xr b k) g];simp;rw[n,F! (p:=zY b i>xr b k) T,F! (p:=(if v[j].1.1>i+1 then v[j].1.1 else i+1)<zY b i) U,F! (p:=(if v[j].1.2.1<k then v[j].1.2.1 else k)>xr b k) V];simp
 have I:θ K<=12:=by have:=t (θ v);rw[HT]at this;rw[y,BT];exact this
 refine AA (AGm I) λM L=>?_;have r:=L.2;have L:=L.1;rw[bO L,B!,N];have O:M.Perm (((DZ c).filter (rM b l i k)).map (·.2)):=L.trans (by rw[y];exact(R.filter _).map _);exact AC (λg=>AB ⟨rfl,⟨O,r⟩,.inl ⟨g,rfl,rfl⟩⟩) (λg=>AB ⟨rfl,⟨O,r⟩,.inr ⟨Int.not_lt.1 g,rfl,rfl⟩⟩)
structure sS(L:List EN)(d:Int)(m:Nat)(fs:List Aq)(a:AI)(l:Aa)(p:Int)(k:Nat)(fl:Int)(z:BS):Prop where
 page:z.1=p
 want:z.2.2.2.1=k
 fl:fl<=z.2.2.1
 img:∃j:Nat,z.2.2.1=Bd (L.take j) p/\Bd (L.take j) p<=k/\((z.2.1=0/\j=0)\/∃x,Yz L d m fs (θ fs) x/\x.1=z.2.1/\(j:Int)<=d/\x=(x.1,(m:Int),img (L.take j) m))
 used:H7 (a,l,p,z.2.2.1,(k:Int))=δ (z.2.2.2.2.1,z.2.2.2.2.2.1,z.2.2.2.2.2.2,0)
def vE{n d:Int}{L:List EN}{p:Int}{k m a:Nat}{fs:List Aq}(hL:LI n L)(C:Hs L)(S:AR L c)(I:TR L b)(hr:RC c a)(N:a<=12)(hk:k<=θ L)(hm:(m:Int)=c.2.1)(hn:1<=m/\m<=64)(h8:θ fs<=8)(hf:∀f∈fs,FB H8 L d m f)(J:0<=p/\p<c.2.1):∃K T fl,QR c p K T/\sR (rT c b K) k fl/\As (Ca (fs,c,b,p,(k:Int))) λr=>(r.2.2=49/\r.2.1.2.2.2.2.1=[])\/(r.2.2=0/\r.1=st (L.take k) p/\sS L d m fs c b p k fl r.2.1):=by
 have al:=I.len;have Z:0<=p/\p<64:=⟨J.1,o!⟩
 have pm:0<=p/\p<m:=⟨J.1,o!⟩
 obtain⟨K,T,fl,p1,Q,_,_⟩:=sP (p:=p) (i:=0) (j:=(k:Int)) (CPa 4096) g! hL o! (Af _) o! o! S I J;refine⟨K,T,fl,p1,Q,?_⟩;obtain⟨v,hv,rfl⟩:=Fb S.vb;obtain⟨w,hw,rfl⟩:=Gv I.vl;have pg:=λj (hq:Bd (L.take j) p<=k)=>AJN hL C S I hr N hk J Z.2 p1 Q (j:=j) hq;obtain⟨V,hV,v8,H⟩:=qK C o! hn h8 hf;have hP:∀x∈V,PI L d m x:=λx hx=>by obtain⟨i,f,_,_,q⟩:=(H x).1 hx;exact q.2.2.1
 unfold Ca;dsimp only;rw[hv,AD,CM,A!,hw,AD,CM,A!,F! o!,A!,F! o!,A!,F! o!,A!,hV,AD];refine AA (xt C o! hn hV v8 hP pm) λh t=>?_;obtain⟨r8,E⟩:=t;refine AA (P:=λ(r:(Int×AS×BS)⊕(AS×BS))=>(∃z,r=.inr z)\/∃y:BS,r=.inl (0,st (L.take k) p,y)/\sS L d m fs c b p k fl y) ?_ λr W=>?_
 ·refine Cp (λ(s:Int×AS×BS)=>0<=s.1/\s.1<=θ h) (λs=>((θ h:Int)-s.1).toNat) ⟨Af _,d!⟩ ?_;rintro⟨i,s⟩ ⟨i0,i1⟩;dsimp only at i0 i1;unfold Rx;dsimp only[len];refine AC (λD=>?_) (λD=>As.done (.inl ⟨_,rfl⟩));rw[AZ (x:=i+1)];refine AA (AJ i0 D) λv5 h5=>?_;obtain⟨x,M,xk,xe⟩:=(E v5).1 h5.2;obtain⟨j,hj,x1,x2,O⟩:=hP x M;have ao:so x p=Bd (L.take j) p:=by rw[O];exact ADc pm
  refine AA (AG9 v8 (y:=v5) ⟨x,M,by rw[xe]⟩) λv9 h9=>?_;obtain⟨g,G,rfl,g0,gx,R⟩:=h9;have X:G=x:=Yz.uniq C o! hn ((H G).1 (BN gx)) ((H x).1 M) (R.trans (by rw[xe]));subst X;apply BK;have U:ix V g=δ G:=by unfold ix;rw[C! g0,gx]
  have l:=wX C (by omega:θ L<=1099511627776) (j:=j) ⟨x1,x2⟩ hn pm;rw[<-O]at l;rw[U,AD,l,AD,H!,A!,KB];rcases pg j o! with⟨A,B,e⟩|⟨A,B⟩
  ·rw[B,AD,H!,A!];obtain⟨u,e,F⟩:=e;rw[e,AD,F,L!,B!];exact As.done (.inr ⟨_,rfl,rfl,rfl,A,⟨j,rfl,o!,.inr ⟨G,(H G).1 M,by rw[xe],hj,O⟩⟩,by dsimp only;rw[e,<-F]⟩)
  ·refine AA B λad o=>AL (λ_=>As.next d! d!) (λY=>N! Y o)
 rcases W with⟨z,rfl⟩|⟨y,rfl,A⟩;apply A4;have l0:Bd (L.take 0) p=0:=rfl;have f0:=Q.1;rw[show DO p=δ (st (L.take 0) p)from rfl,AD,KB];rcases pg 0 (by rw[l0];omega)with⟨A,B,e⟩|⟨A,B⟩;rw[B,AD,H!,A!];obtain⟨u,e,F⟩:=e;rw[e,AD,F,L!,B!];exact AB (.inr ⟨rfl,rfl,rfl,rfl,A,⟨0,rfl,by rw[l0];omega,.inl ⟨rfl,rfl⟩⟩,by dsimp only;rw[e,<-F]⟩);exact AA B λad o=>AL (λ_=>AB (.inl ⟨rfl,rfl⟩)) (λY=>N! Y o);exact BK (AB (.inr ⟨rfl,rfl,A⟩))
def cvr(P:List BM)(n:Int):Prop:=∃s∈P,s.1<=n/\n<=s.2.1
def ABs{x:List BM×BS}{s:Int×Bool}(h:θ x.1<=1000):As (Ai (Lv x s) 0) λr=>(∃(i:Nat)(u:BM),r=.inl (i:Int)/\x.1[i]?=δ u/\u.1<=s.1/\s.1<=u.2.1)\/(r=.inr ()/\¬cvr x.1 s.1):=by
 refine Cp (λ(t:Int)=>∃i:Nat,t=i/\i<=θ x.1/\∀u∈x.1.take i,¬(u.1<=s.1/\s.1<=u.2.1)) (λt=>θ x.1-t.toNat) ⟨0,rfl,Bc _,λu b=>by simp at b⟩ ?_;rintro _ ⟨i,rfl,g,b⟩;unfold Lv;dsimp[len];refine AC (λf=>?_) (λf=>As.done (.inr ⟨rfl,?_⟩))
 ·have a:i<θ x.1:=o!
  rw[Zn a,AD,AZ (x:=(i:Int)+1)];have key:¬(x.1[i].1<=s.1/\s.1<=x.1[i].2.1)->∀u∈x.1.take (i+1),¬(u.1<=s.1/\s.1<=u.2.1):=λhn u c=>by rw[Co,Ar a]at c;rcases Ak.1 c with q|q;exact b u q;rw[BA.1 q];exact hn
  exact AC (λd=>AC (λe=>As.done (.inl ⟨i,x.1[i],rfl,Ar a,d,e⟩)) (λe=>As.next ⟨i+1,rfl,a,key λq=>e q.2⟩ o!)) (λd=>As.next ⟨i+1,rfl,a,key λq=>d q.1⟩ o!)
 rintro⟨u,c,q⟩;rw[BP o!]at b;exact b u c q
def AGx{x:List BM×BS}(h:θ x.1<=1000)(o:∀u∈x.1,u.2.1<=1099511627776)(B:0<=x.2.2.2.1)(C:x.2.2.2.1<=1099511627776)(D:x.2.2.2.2.1<=1099511627776):As (JB x) λb=>b=ζ↔∀n,x.2.2.2.1<n->n<=x.2.2.2.2.1->cvr x.1 n:=by
 unfold JB;rw[AZ (x:=x.2.2.2.1+1)];have step:∀{s:Int}{i:Nat}{u:BM},(∀n,x.2.2.2.1<n->n<s->cvr x.1 n)->x.1[i]?=δ u->u.1<=s->s<=u.2.1->∀n,x.2.2.2.1<n->n<u.2.1+1->cvr x.1 n:=λ{s i u} v a g k n d m=>by by_cases hn:n<s;exact v n d hn;exact⟨u,BN a,o!⟩
 refine AC (λc=>?_) (λc=>AB ⟨λ_ n d m=>o!,λ_=>rfl⟩);rw[show Vf x=Lv x (wi (x.2.2.2.1+1),η)from rfl,AZ (x:=x.2.2.2.1+1)];refine AA (ABs h) λr hr=>?_;rcases hr with⟨i,u,rfl,a,g,k⟩|⟨rfl,hn⟩
 ·apply BK;dsimp only at g k;have y:=o u (BN a);rw[G! o!,B!,Zn (EP.1 a).1,AD,(EP.1 a).2,AZ (x:=u.2.1+1)];refine AA (P:=λ(r:Bool⊕Bool)=>(∃b,r=.inl b/\∀n,x.2.2.2.1<n->n<=x.2.2.2.2.1->cvr x.1 n)\/(r=.inr η/\¬ ∀n,x.2.2.2.1<n->n<=x.2.2.2.2.1->cvr x.1 n)) ?_ λr hr=>?_
  ·refine Cp (λ(s:Int×Bool)=>x.2.2.2.1<s.1/\s.1<=1099511627777/\∀n,x.2.2.2.1<n->n<s.1->cvr x.1 n) (λs=>(x.2.2.2.2.1+1-s.1).toNat) ⟨d!,d!,step (s:=x.2.2.2.1+1) (λn d m=>o!) a g k⟩ ?_;rintro⟨s,b⟩ ⟨p,A,l⟩;dsimp only at p A l;unfold Vg;dsimp only;refine AC (λc=>?_) (λc=>As.done (.inl ⟨_,rfl,λn d m=>l n d o!⟩));refine AA (ABs (s:=(s,b)) h) λr hr=>?_;rcases hr with⟨j,w,rfl,f,k1,t⟩|⟨rfl,hn⟩
   ·apply BK;dsimp only at k1 t;have z:=o w (BN f);rw[G! o!,B!,Zn (EP.1 f).1,AD,(EP.1 f).2,AZ (x:=w.2.1+1)];exact As.next ⟨d!,d!,step l f k1 t⟩ d!
   ·exact A4 (As.done (.inr ⟨rfl,λq=>hn (q s p c)⟩))
  rcases hr with⟨b,rfl,q⟩|⟨rfl,q⟩;exact BK (AB ⟨λ_=>q,λ_=>rfl⟩);exact A4 (AB ⟨λe=>by (first|cases e|simp at e),λe=>N! e q⟩)
 refine A4 (AB ⟨λe=>by (first|cases e|simp at e),λq=>N! (q _ o! c) hn⟩)
def AFO(h:θ i<=1000):As (Kh (i,e)) λr=>(r= -1/\e∉i)\/∃d:Nat,r=d/\i[d]?=δ e:=by
 unfold Kh;refine AA (P:=λ(r:Int⊕Unit)=>(∃d:Nat,r=.inl (d:Int)/\i[d]?=δ e)\/(r=.inr ()/\e∉i)) ?_ λr hr=>?_
 ·refine Cp (λ(t:Int)=>∃d:Nat,t=d/\d<=θ i/\e∉i.take d) (λt=>θ i-t.toNat) ⟨0,rfl,Bc _,k!⟩ ?_;rintro _ ⟨d,rfl,j,f⟩;unfold Rq;dsimp[len];refine AC (λg=>?_) (λg=>As.done (.inr ⟨rfl,by rwa [BP o!]at f⟩));have b:d<θ i:=o!
  rw[Zn b,AD,AZ (x:=(d:Int)+1)];refine AP (λa=>As.done (.inl ⟨d,rfl,by rw[a];exact Ar b⟩)) (λa=>As.next ⟨d+1,rfl,b,λc=>?_⟩ o!);rw[Co,Ar b]at c;rcases Ak.1 c with q|q;exact f q;exact a (BA.1 q)
 rcases hr with⟨d,rfl,q⟩|⟨rfl,q⟩;exact BK (AB (.inr ⟨d,rfl,q⟩));exact A4 (AB (.inl ⟨rfl,q⟩))
def zQ(e:NE):BM:=(e.1.1,e.1.2.1,e.1.2.2.2.2.2)
def ue(l:Aa)(f t:Int):List BM:=if f=0 then []else [(f,t,(l.2.1.drop (f-l.1).toNat).take (t-f+1).toNat)]
def wS{z:BS}(h:AR a c)(g:Do b)(N:0≤z.1∧z.1<c.2.1)(V:QR c z.1 e k){E:List NE}(G:∀C∈E,C∈DZ c∧C.1.2.2.1=e)(Q:z.2.2.2.2.1=E.map (·.2))(M:θ E≤1000)
  (K:z.2.2.2.2.2.1=0\/(b.1<=z.2.2.2.2.2.1/\z.2.2.2.2.2.1<=z.2.2.2.2.2.2/\z.2.2.2.2.2.2<=b.1+θ b.2.1-1)):Hm (c,b,z)=δ (E.map zQ++ue b z.2.2.2.2.2.1 z.2.2.2.2.2.2,ζ):=by
 suffices O:As (Hm (c,b,z)) λr=>r=(E.map zQ++ue b z.2.2.2.2.2.1 z.2.2.2.2.2.2,ζ) by obtain⟨r,hr,rfl⟩:=O;exact hr
 have H:=g.1;unfold Hm;dsimp only;have⟨S,l,u,W⟩:=wa h.vb N;have t:=V.uniq h.vb.1 rfl rfl W;subst t;rw[u,AD,CM,A!];obtain⟨q,w,v,D,w2,rfl,w4,w5⟩:=sU h.vb h.ds (Kl h.vb) h.dis;rw[w,AD];have nd:(v.map (·.2)).Nodup:=((D.map (·.2)).nodup_iff).2 (I4.2 ((lW h.vb).imp λh C=>o!));refine AA (P:=λr=>r=.inr (E.map zQ)) ?_ λr hr=>?_
 ·refine Cp (λ(s:Int×List BM)=>∃j:Nat,s.1=j/\s.2=(E.take j).map zQ/\j<=θ E) (λs=>θ E-s.1.toNat) ⟨0,rfl,rfl,Bc _⟩ ?_;rintro⟨_,o⟩ ⟨j,rfl,ok,hk⟩;dsimp only at ok;unfold UD;dsimp only[len];rw[Q];refine AC (λp=>?_) (λp=>As.done (by rw[BT]at p;rw[BP o!]at ok;rw[ok]));rw[BT]at p;have f:j<θ E:=o!
  obtain⟨T,U⟩:=G E[j] (Jl f);rw[Zn (l:=E.map (·.2)) (by rw[BT];exact f),AD,List.getElem_map];refine AA (AFO (by rw[BT];omega)) λr hr=>?_;have B:E[j]∈v:=D.mem_iff.2 T;rcases hr with⟨_,hn⟩|⟨i,rfl,k⟩;exact N! (Bs.2 ⟨_,B,rfl⟩) hn
  ·have d:i<θ v:=by have:=(EP.1 k).1;rwa [BT]at this
   have J:v[i]=E[j]:=by obtain⟨R,l,A⟩:=List.getElem_of_mem B;have:=(pL (l:=v.map (·.2)) (i:=i) (j:=R) (by rw[BT];exact d) nd).1 (by rw[k,CL,Ar l,A];rfl);subst this;exact A
   rw[F! o!,A!,Zn (l:=v.map (·.1)) (by rw[BT];exact d),AD,List.getElem_map,J,U,H!,A!,AD,AD,AD];refine AA (Ad (by rw[ok,BT,BR,X0];omega)) λv9 F=>?_;rw[AZ (x:=(j:Int)+1)];refine As.next ⟨j+1,rfl,?_,f⟩ d!
   rw[F.1,ok,Co,Ar f,J7];rfl
 rw[hr];apply A4;refine AP (λC=>AB (by unfold ue;rw[C! C,List.append_nil])) (λC=>?_);obtain⟨f1,f2,f3⟩:=K.resolve_left C;rw[F! o!,A!];refine AA (RI g) λy L=>?_;have Z:y=b.1+θ b.2.1-1:=L;have hb:=g.2.1;have I:=g.2.2.1;rw[F! o!,A!,AZ (x:=z.2.2.2.2.2.1-b.1),AZ (x:=z.2.2.2.2.2.2-b.1),AZ (x:=z.2.2.2.2.2.2-b.1+1)];refine AA (Bn) λX m=>AA (Ad (by rw[BT,X0];omega)) λY n=>AB ?_;rw[n.1,m.1];unfold ue;rw[D! C,show(z.2.2.2.2.2.2-b.1+1).toNat-(z.2.2.2.2.2.1-b.1).toNat=(z.2.2.2.2.2.2-z.2.2.2.2.2.1+1).toNat by omega]
def AFd{V:List A8}{b:AS}(l:IQ f=δ V)(C:θ V<=1000)(u:∀x∈V,∀y∈V,x.1=y.1->x=y)(h:(g.2.1=0/\DO g.1=δ b)\/(g.2.1≠0/\∃x∈V,x.1=g.2.1/\RG (x,g.1)=δ (b,0)/\b.2.1=g.2.2.1)):HW (f,g)=δ (b,ζ):=by
 unfold HW;dsimp only;rcases h with⟨c,d⟩|⟨c,x,z,k,d,v⟩;rw[c,L!,B!,d];rfl;rw[beq_eq_false_iff_ne.2 c,A!,l,AD];suffices t:As (Ai (Py (f,g) V) (0,0,0,GO.all (η,[]))) λr=>r=.inl (ζ,b) by obtain⟨r,hr,rfl⟩:=t;rw[hr];rfl
 obtain⟨B,p,w⟩:=List.getElem_of_mem z;refine Cp (λ(s:Int×AS)=>∃j:Nat,s.1=j/\j<=θ V/\x∉V.take j) (λs=>θ V-s.1.toNat) ⟨0,rfl,Bc _,k!⟩ ?_;rintro⟨_,o⟩ ⟨j,rfl,A,hn⟩;unfold Py;dsimp only[len];refine AC (λm=>?_) (λm=>N! z (by rwa [BP o!]at hn));have a:j<θ V:=o!
 rw[Zn a,AD];apply AP<;>intro e
 ·have n:V[j]=x:=u _ (Jl a) _ z (by rw[k];exact e);rw[n,d,AD,L!,B!,v,L!];exact As.done rfl
 ·rw[AZ (x:=(j:Int)+1)];refine As.next ⟨j+1,rfl,a,λi=>?_⟩ d!
  rw[Co,Ar a]at i;rcases Ak.1 i with q|q;exact hn q;have q:=BA.1 q;exact e (by rw[<-q,k])
def ACt{b:AU}(h:CX b):As (LP b ()) λr=>1<=r.1/\r.1<=4/\r.2.1.2.1=r.1/\AR r.2.2.2.1.2.1 r.2.1/\RC r.2.1 10/\TR r.2.2.2.1.2.1 r.2.2.1/\Hs r.2.2.2.1.2.1/\r.2.2.1.1+θ r.2.2.1.2.1-1=θ r.2.2.2.1.2.1/\r.2.2.2.1.2.2=θ r.2.2.2.1.2.1/\CX r.2.2.2.2.2/\θ r.2.2.2.2.1<=8/\(∃m:Nat,(m:Int)=r.1/\∀f∈r.2.2.2.2.1,FI r.2.2.2.1.2.1 r.2.2.2.1.2.2 m f)/\Do r.2.2.2.1/\r.2.2.2.1.1=1/\∃n,LI n r.2.2.2.1.2.1:=by
 unfold LP;refine AA ((kG h (x:=25) o!).and (zg h (x:=25) o!)) λa K=>?_;obtain⟨⟨c0,C,V,c,n,B⟩,J,t⟩:=K;refine AA (za (x:=(a.1,a.2.1)) c0 ⟨C,d!⟩ c) λW L=>?_;obtain⟨F,e,D,⟨kc,O,Q⟩,E,s,H,_⟩:=L;dsimp only at e s H;have z:=c.2.2.1;have p:=c.num t;obtain⟨x1,x2,x3,x4,x5,x6⟩:=id c;have g:RC W.1 10:=λU=>Ct (O U) o!;have y3:=e.vb.2.1;have y4:=e.vb.2.2.1;obtain⟨m,A⟩:=EE (show 0<=a.1 by omega);have I:a.2.1.2.2=θ a.2.1.2.1:=o!
 have q:(m:Int)=a.1:=A.symm;refine AA (P:=λr=>CX r.2/\θ r.1<=8/\∀f∈r.1,FI a.2.1.2.1 a.2.1.2.2 m f) (by rw[A];exact ADA F B p e (Wn c) o! o! o!) λv2 M=>?_;obtain⟨G,S,T⟩:=M;refine AA (Ag G (x:=2) o!) λv3 u=>AA (P:=λ(r:AU×Aa)=>CX r.1/\TR a.2.1.2.1 r.2/\r.2.2.2=a.2.1.2.2/\r.2.1+θ r.2.2.1-1=θ a.2.1.2.1) ?_ λv6 l=>?_;refine AP (λ_=>?_) (λ_=>AB ⟨u.1,Wn c,rfl,d!⟩);refine AA (Ag u.1 o!) λX N=>?_;obtain⟨q1,q2,q3⟩:=N;rw[AZ (x:=1+X.1)];refine AA (AIn c J o! o! o!) λj d=>AB ⟨q1,d.1,d.2.2,?_⟩;have Y:=d.1.vl.2.2.2.2.1;have Z:=d.2.2;have e3:=d.2.1;have R:j.1.1+θ j.1.2.1-1<=θ a.2.1.2.1:=by by_cases hz:θ j.1.2.1=0;omega;have w:=Ar (show θ j.1.2.1-1<θ j.1.2.1 by omega);have g1:=(d.1.vl.2.2.2.2.2 _ _ w).1;obtain⟨i,y⟩:=DU ((d.1.tail _).1 (BN w)).1;have g2:=(p i _ y).1;have g3:=C1 y;omega
 dsimp only;omega;refine AA (Ag l.1 (x:=3) o!) λv7 v=>AA (P:=λ(r:AU×AI)=>CX r.1/\AR a.2.1.2.1 r.2/\RC r.2 10/\r.2.2.1=a.1) ?_ λv9 k=>?_;refine AP (λ_=>?_) (λ_=>AB ⟨v.1,e,g,s⟩);exact AA (ABy e D v.1 E) λv8 o=>AB ⟨o.1,o.2.1,o.2.2.1 10 g,s⟩;exact AB ⟨C,V,k.2.2.2,k.2.1,k.2.2.1,l.2.1,p,l.2.2.2,I,k.1,S,⟨m,q,T⟩,c,t,n,B⟩
def AFc:Ih ()=δ ζ:=by
 suffices D:As (Ih ()) λr=>r=ζ by obtain⟨r,hr,rfl⟩:=D;exact hr
 have J:Do ((1,[],0):Aa):=⟨g!,g!,g!,g!,g!,λi e h=>by simp at h⟩
 have hn:Gq ()=δ (1,[],0):=rfl;unfold Ih;refine AA (ADF (L:=[]) (x:=(2,[0])) ⟨g!,g!,g!,g!,rfl,λi a b B n W=>by simp at n W,λa n=>by simp at n;omega⟩) λv h=>?_;obtain⟨l,z2,G,z4,g,z6⟩:=h;dsimp only at g;have o:TR [] ((1,[],0):Aa):=Wn J;rw[hn,AD];obtain⟨lo,B,fl,p1,f1,Z⟩:=vE (fs:=[]) (p:=1) (m:=2) (k:=0) (d:=0) (LI.nil 0) Hs.nil l o G g! (An _) g.symm g! g! (λf y=>by simp at y) ⟨g!,by rw[g];decide⟩;obtain⟨r,e,r1,r2⟩:=AB3 (fs:=[]) (p:=1) (m:=2) (k:=0) (d:=0) (LI.nil 0) Hs.nil l o (ADn (L:=[]) rfl (Bc _)) G g! (An _) g.symm g! g! (λf y=>by simp at y) ⟨g!,by rw[g];decide⟩;obtain⟨r',M,hr⟩:=Z;have t:=e.symm.trans M;injection t with t;subst t;rcases hr with⟨q,_⟩|⟨_,_,V⟩;omega;obtain⟨R,S,h3,⟨j,T,h5,U⟩,I⟩:=V;have N:Ca ([],v.1,(1,[],0),1,0)=δ r:=e;have q0:r.2.1.2.2.1=0:=by rw[T,List.take_nil];rfl
 have i0:r.2.1.2.1=0:=by rcases U with q|⟨x,⟨i,f,B,_⟩,_⟩;exact q.1;exact N! B (Nat.not_lt_zero _)
 rw[q0]at I;obtain⟨ad,Y,Q,K,O,_,C⟩:=sP (p:=1) (i:=0) (j:=((0:Nat):Int)) (CPa 4096) g! (LI.nil 0) g! (Af _) g! g! l o ⟨g!,by rw[g];decide⟩;have P:=O.2.1;obtain⟨u,s,u1,u2,u3⟩:=ADL l o ⟨g!,by rw[g];decide⟩ G g! K (Af _) g! (C.resolve_left λq=>o!).2;rw[I]at s;injection s with s;subst s;have F:r.2.1.2.2.2.2.1=[]:=by refine List.Perm.eq_nil (u2.1.trans ?_);rw[List.filter_eq_nil_iff.2 λx hx=>?_];exact List.Perm.nil;unfold rM;rw[F! (p:=(if x.1.1>0+1 then x.1.1 else 0+1)<=(if x.1.2.1<((0:Nat):Int)then x.1.2.1 else((0:Nat):Int))) (by split<;>split<;>omega)];simp
 have H:r.2.1.2.2.2.2.2.1=0/\r.2.1.2.2.2.2.2.2=0:=by rcases u3 with q|q;exact q.2;exact N! q.1 g!
 have hz:r.2.1=(1,0,0,0,[],0,0):=by refine Ck R (Ck i0 (Ck q0 (Ck S (Ck F (Ck H.1 H.2)))))
 have c:HV (1,0,0,0,[],0,0)=δ ζ:=by unfold HV;rw[HG];rfl
 obtain⟨q,hq,q1⟩:=Fb l.vb;obtain⟨w,hw,w1⟩:=Gv J;have A:Fw ([],v.1,(1,[],0),1,0,0,0,[],0,0)=δ (st (([]:List EN).take 0) 1,0):=by
  unfold Fw;dsimp only;rw[hq,q1,AD,CM,A!,hw,w1,AD,CM,A!,c,AD,CM,A!];rw[show HW (([]:List Aq),((1,0,0,0,[],0,0):BS))=δ (st (([]:List EN).take 0) 1,ζ)from rfl,AD];rw[wS (z:=(1,0,0,0,[],0,0)) (E:=[]) l o.vl ⟨g!,by rw[g];decide⟩ K (λe X=>by simp at X) rfl g! (.inl rfl),AD];dsimp only;rw[CM,A!,A!];rw[show JB (List.map zQ []++ue (1,[],0) 0 0,((1,0,0,0,[],0,0):BS))=δ ζ from rfl,AD,CM,A!];rw[HG,show Uv ([],v.1,(1,[],0),1,0,0,0,[],0,0) (List.map zQ []++ue (1,[],0) 0 0,ζ) (0,(0,0,GO.all (η,[])),[])=δ (.done (.inr ((0,0,GO.all (η,[])),[])))from rfl];dsimp only[Option.bind_some,Sum.elim_inr];have D:JS [] ()=δ []:=by unfold JS ABn;rw[C! ⟨λa n=>by simp at n,g!⟩,List.mergeSort_nil]
  rw[D];dsimp only[Option.bind_some,List.length_nil,len];rw[show ξ 0 0=ζ from rfl,B!,G! g!,B!,ABg (es:=[]) trivial g!];rfl
 unfold LA;rw[N,AD,AD,r2,L!,B!,hz,L!,B!,c,AD,B!,AD];rw[show DO 1=δ (st (([]:List EN).take 0) 1)from rfl,AD];unfold TM;dsimp only;rw[A,AD,L!,B!,ACj];exact AB rfl
structure GP(z:BS):Prop where
 page:0<=z.1/\z.1<64
 img:0<=z.2.1/\z.2.1<=1073741824
 lsn:0<=z.2.2.1/\z.2.2.1<=z.2.2.2.1/\z.2.2.2.1<=1099511627776
 none:z.2.1=0->z.2.2.1=0
 asc:z.2.2.2.2.1.Pairwise (· < ·)
 pos:∀d∈z.2.2.2.2.1,1<=d
 log:(z.2.2.2.2.2.1=0/\z.2.2.2.2.2.2=0)\/(1<=z.2.2.2.2.2.1/\z.2.2.2.2.2.1<=z.2.2.2.2.2.2)
def AFY(h:θ g.2.2.2.2.1<=1000):As (Ai (Iu g) (0,0)) λr=>r=.inr ()\/(r=.inl η/\¬GP g):=by
 refine Cp (λ(s:Int×Int)=>∃j:Nat,s.2=j/\j<=θ g.2.2.2.2.1/\((j=0/\s.1=0)\/∃i,j=i+1/\g.2.2.2.2.1[i]?=δ s.1)) (λs=>θ g.2.2.2.2.1-s.2.toNat) ⟨0,rfl,Bc _,.inl ⟨rfl,rfl⟩⟩ ?_;rintro⟨l,_⟩ ⟨j,rfl,k,d⟩;dsimp only at d;unfold Iu;dsimp only[len];refine AC (λe=>?_) (λe=>As.done (.inl rfl));have a:j<θ g.2.2.2.2.1:=o!
 rw[Zn a,AD,AZ (x:=(j:Int)+1)];refine AC (λc=>As.done (.inr ⟨rfl,λz=>?_⟩)) (λc=>As.next ⟨j+1,rfl,a,.inr ⟨j,rfl,Ar a⟩⟩ d!);rcases d with⟨_,rfl⟩|⟨i,rfl,f⟩;have:=z.pos _ (Jl a);omega;have b:=(EP.1 f)
 have:=Gm.1 z.asc i (i+1) b.1 a o!;rw[b.2]at this;omega
def AFZ(h:θ g.2.2.2.2.1<=1000):As (HV g) λb=>GP g->b=ζ:=by
 have c:As (bif g.2.2.2.2.2.1==0 then bif g.2.2.2.2.2.2==0 then δ ζ else bif τ (g.2.2.2.2.2.1>=1)then δ (τ (g.2.2.2.2.2.1<=g.2.2.2.2.2.2))else δ η else bif τ (g.2.2.2.2.2.1>=1)then δ (τ (g.2.2.2.2.2.1<=g.2.2.2.2.2.2))else δ η) λb=>GP g->b=ζ:=by refine AP (λd=>AP (λ_=>AB λ_=>rfl) (λk=>AC (λ_=>AB λz=>?_) (λ_=>AB λz=>?_))) (λd=>AC (λ_=>AB λz=>?_) (λ_=>AB λz=>?_));have:=z.log;exact G! o!;have:=z.log;omega;have:=z.log;exact G! o!;have:=z.log;omega
 have lp:As (σ (Ai (Iu g) (0,0)) λj=>ν (λi=>δ i) (λl=>bif g.2.2.2.2.2.1==0 then bif g.2.2.2.2.2.2==0 then δ ζ else bif τ (g.2.2.2.2.2.1>=1)then δ (τ (g.2.2.2.2.2.1<=g.2.2.2.2.2.2))else δ η else bif τ (g.2.2.2.2.2.1>=1)then δ (τ (g.2.2.2.2.2.1<=g.2.2.2.2.2.2))else δ η) j) λb=>GP g->b=ζ:=by refine AA (AFY h) λr hr=>?_;rcases hr with rfl|⟨rfl,hn⟩;exact A4 c;exact BK (AB λz=>N! z hn)
 have a:∀{P:Prop},(GP g->¬P)->P->As (δ η) λb=>GP g->b=ζ:=λhn f=>AB λz=>N! f (hn z);unfold HV;refine AC (a λz=>by have:=z.page;omega) λ_=>AC (a λz=>by have:=z.page;omega) λ_=>AC (a λz=>by have:=z.img;omega) λ_=>AC (a λz=>by have:=z.img;omega) λ_=>AC (a λz=>by have:=z.lsn;omega) λ_=>AC (a λz=>by have:=z.lsn;omega) λ_=>AC (a λz=>by have:=z.lsn;omega) λ_=>AP (λe=>AC (a λz=>by have:=z.none e;omega) λ_=>lp) λ_=>lp
def ABw{d:AS}{P:List BM}(e:VB c)(h:Do b)(m:θ g.2.2.2.2.1<=1000)(z:HW (f,g)=δ (d,ζ))(j:Hm (c,b,g)=δ (P,ζ))(k:JB (P,g)=δ η):As (Fw (f,c,b,g)) λr=>r.2=45:=by
 obtain⟨q,i,q1⟩:=Fb e;obtain⟨w,a,n⟩:=Gv h;unfold Fw;dsimp only;rw[i,q1,AD,CM,A!,a,n,AD,CM,A!];refine AA (AFZ m) λl _=>?_;cases l with
 |false=>exact AB rfl
 |true=>rw[CM,A!,z,AD,j,AD];dsimp only;rw[CM,A!,A!,k,AD];exact AB rfl
def S0(R:Int->Option (AS×BS×Int)):Nat->List BS
 |0=>[]
 |j+1=>S0 R j++(match R j with|some r=>if r.2.2=0 then [r.2.1]else []|none=>[])
def gp(R:Int->Option (AS×BS×Int)):Nat->List Int
 |0=>[]
 |j+1=>gp R j++(match R j with|some r=>if r.2.2=0 then []else [(j:Int)]|none=>[])
def kX(R:Int->Option (AS×BS×Int)):∀j,(S0 R j).length<=j/\(gp R j).length<=j
 |0=>⟨An _,An _⟩
 |j+1=>by have⟨a,b⟩:=kX R j;unfold S0 gp;rw[AY,AY];constructor<;>(split;split<;>simp<;>omega;simp;omega)
def rG{R:Int->Option (AS×BS×Int)}{z:BS}:∀{j:Nat},z∈S0 R j->∃i:Nat,i<j/\∃r,R i=δ r/\r.2.2=0/\r.2.1=z
 |0,h=>by cases h
 |j+1,h=>by unfold S0 at h;rcases Ak.1 h with q|q;obtain⟨i,b,k⟩:=rG q;exact⟨i,o!,k⟩;split at q;rename_i r hr;split at q;rename_i a;exact⟨j,o!,r,hr,a,(BA.1 q).symm⟩;cases q;cases q
def AIj{m:Nat}(i:VB c)(u:Do b)(B:0<=k)(C:(m:Int)=c.2.1)(g:m<=64)(n:∀p:Nat,p<m->As (Ca (f,c,b,(p:Int),k)) λ_=>True):OP (f,c,b,k)=δ (S0 (λp=>Ca (f,c,b,p,k)) m,gp (λp=>Ca (f,c,b,p,k)) m,0):=by
 suffices a:As (OP (f,c,b,k)) λr=>r=(S0 (λp=>Ca (f,c,b,p,k)) m,gp (λp=>Ca (f,c,b,p,k)) m,0) by obtain⟨r,hr,rfl⟩:=a;exact hr
 obtain⟨q,y,q1⟩:=Fb i;obtain⟨w,d,z⟩:=Gv u;unfold OP;dsimp only;rw[y,q1,AD,CM,A!,d,z,AD,CM,A!,F! o!,A!];refine AA (P:=λr=>r=(S0 (λp=>Ca (f,c,b,p,k)) m,gp (λp=>Ca (f,c,b,p,k)) m)) ?_ λr hr=>AB (by rw[hr]);refine Cp (λ(s:Int×(List BS×List Int))=>∃j:Nat,s.1=j/\j<=m/\s.2=(S0 (λp=>Ca (f,c,b,p,k)) j,gp (λp=>Ca (f,c,b,p,k)) j)) (λs=>m-s.1.toNat) ⟨0,rfl,Bc _,rfl⟩ ?_;rintro⟨_,o⟩ ⟨j,rfl,A,l⟩;dsimp only at l;subst l;have⟨l1,l2⟩:=kX (λp=>Ca (f,c,b,p,k)) j;unfold XH;dsimp only;refine AC (λt=>?_) (λt=>As.done (by rw[show j=m by omega]));obtain⟨r,hr,_⟩:=n j o!;unfold LA;rw[hr,AD,AD,AZ (x:=(j:Int)+1)];refine AA (P:=λs=>s=(S0 (λp=>Ca (f,c,b,p,k)) (j+1),gp (λp=>Ca (f,c,b,p,k)) (j+1))) ?_ λs a=>As.next ⟨j+1,rfl,o!,a⟩ d!
 simp only[S0,gp];rw[hr];dsimp only;apply AP<;>intro e;rw[C! e,C! e,DN];exact AA (Ad (by rw[X0];omega)) λv h=>AB (by rw[h.1]);rw[D! e,D! e,DN];exact AA (Ad (by rw[X0];omega)) λv h=>AB (by rw[h.1])
def ACi{n:Type}{f:h->n}{l l2:List n}(k:l.Perm l2):∀m:List h,l2=m.map f->∃g:List h,g.Perm m/\g.map f=l:=by
 induction k with
 |nil=>intro m c;exact⟨m,.refl _,c.symm⟩
 |cons x k r=>
  intro m c;cases m with
  |nil=>cases c
  |cons a m=>rw[Bf]at c;injection c with d e;obtain⟨g,p,q⟩:=r m e;exact⟨a::g,p.cons a,by rw[Bf,q,d]⟩
 |swap x y l=>
  intro m c;match m with
  |[]=>cases c
  |[_]=>cases c
  |a::b::m=>rw[Bf,Bf]at c;injection c with d c;injection c with e o;exact⟨b::a::m,.swap a b m,by rw[Bf,Bf,d,e,o]⟩
 |trans d e i j=>intro m c;obtain⟨s,u,q1⟩:=j m c;obtain⟨t,v,q2⟩:=i s q1.symm;exact⟨t,v.trans u,q2⟩
def AGf(h:AR a c):∀e∈DZ c,Zw e.1:=by obtain⟨q,L,v,d,g,_,i,f⟩:=sU h.vb h.ds (Kl h.vb) h.dis;exact λe b=>f e (d.mem_iff.2 b)
def AE7{i:Int}{c:NE}(h:rM b e i k c=ζ):c.1.2.2.1=e/\∃n,i<n/\n<=k/\c.1.1<=n/\n<=c.1.2.1/\¬(zY b i<=n/\n<=xr b k):=by
 unfold rM at h;simp only[BW,TU,K!,J!]at h;obtain⟨⟨d,l⟩,a⟩:=h;refine⟨d,?_⟩;generalize f:(if c.1.1>i+1 then c.1.1 else i+1)=pa at l a;generalize g:(if c.1.2.1<k then c.1.2.1 else k)=pb at l a;have a1:i<pa/\c.1.1<=pa:=by split at f<;>omega
 have j:pb<=k/\pb<=c.1.2.1:=by split at g<;>omega
 rcases a with(a|a)|a;exact⟨pa,o!⟩;exact⟨pa,o!⟩;exact⟨pb,o!⟩
def AEa{p w V fl:Int}{m:Nat}(S:LI e a)(T:Hs a)(r:AR a c)(B:TR a b)(hr:RC c m)(o:m≤12)(hk:d≤θ a)(hm:(j:Int)=c.2.1)(hn:1≤j∧j≤64)(h8:θ f≤8)(hf:∀n∈f,FI a k j n)(K:0≤p∧p<c.2.1)
  (M:QR c p w V) (N:sR (rT c b w) d fl)  (X:sS a k j f c b p d fl g):∃E:List NE,E.map (·.2)=g.2.2.2.2.1/\θ E<=12/\E.Nodup/\(∀l,l∈E↔l∈DZ c/\rM b w g.2.2.1 d l=ζ)/\((xr b d<zY b g.2.2.1/\g.2.2.2.2.2.1=0/\g.2.2.2.2.2.2=0)\/(zY b g.2.2.1<=xr b d/\g.2.2.2.2.2.1=zY b g.2.2.1/\g.2.2.2.2.2.2=xr b d))/\(g.2.2.2.2.2.1=0\/(b.1<=g.2.2.2.2.2.1/\g.2.2.2.2.2.1<=g.2.2.2.2.2.2/\g.2.2.2.2.2.2<=b.1+θ b.2.1-1))/\g.2.2.2.2.1.Pairwise (· <= ·)/\g.2.2.2.2.1.Nodup:=by
 have J:=B.len;obtain⟨h1,h2,h3,⟨z,h4,h5,h6⟩,Q⟩:=X;have q0:=Uz T p z;obtain⟨Y,W,P,Z,O,_,F⟩:=sP (p:=p) (i:=g.2.2.1) (j:=(d:Int)) (CPa 4096) g! S o! o! o! o! r B K;have D:=M.uniq r.vb.1 rfl rfl Z;subst D;have A:=N.uniq (λ_=>Iff.rfl) O;subst A;obtain⟨u,t,u1,v,H⟩:=ADL r B K hr o M o! o! (F.resolve_left λq=>o!).2;rw[Q]at t;injection t with t;subst t;dsimp only at u1 v H;obtain⟨L,s,I⟩:=ACi v.1 _ rfl;have R:∀l∈L,l∈DZ c/\rM b w g.2.2.1 d l=ζ:=λl U=>BU.1 (s.mem_iff.1 U);have C:θ L=θ g.2.2.2.2.1:=by rw[<-I,BT]
 have y:θ L<=12:=by rw[s.length_eq];refine Ct ?_ (Ct (hr w) o);rw[show(DZ c).filter (rM b w g.2.2.1 d)=((DZ c).filter λl=>l.1.2.2.1==w).filter (rM b w g.2.2.1 d) by rw[List.filter_filter];refine List.filter_congr λx _=>?_;unfold rM;cases (x.1.2.2.1==w)<;>simp];exact FF _ _
 have G:L.Nodup:=(s.nodup_iff).2 ((Kl r.vb).filter _);refine⟨L,I,y,G,λl=>by rw[s.mem_iff,BU],H,?_,v.2,(v.1.nodup_iff).2 (((I4.2 ((lW r.vb).imp λh l=>o!)).sublist ((List.filter_sublist).map _)))⟩;rcases H with q|⟨q1,q2,q3⟩;exact .inl q.2.1;refine .inr ⟨?_,o!,?_⟩;rw[q2];unfold zY;split<;>omega;rw[q3];unfold xr;split<;>omega
def AB0{p lo hi fl:Int}{m:Nat}(hL:LI e a)(F:Hs a)(D:AR a c)(A:TR a b)(hr:RC c m)(O:m≤12)(hk:d≤θ a)(W:(j:Int)=c.2.1)(hn:1≤j∧j≤64)(h8:θ f≤8)(hf:∀n∈f,FI a k j n)(hp:0≤p∧p<c.2.1)
  (p1:QR c p lo hi) (f1:sR (rT c b lo) d fl)  (hz:sS a k j f c b p d fl g) {t:Nat} (ht:t<θ g.2.2.2.2.1):As (Fw (f,c,b,g.1,g.2.1,g.2.2.1,g.2.2.2.1,g.2.2.2.2.1.take t++g.2.2.2.2.1.drop (t+1),g.2.2.2.2.2)) λr=>r.2=45:=by
 have ad:=A.len;obtain⟨h,e2,al,I,X,u3,T,_⟩:=AEa hL F D A hr O hk W hn h8 hf hp p1 f1 hz;obtain⟨h1,h2,h3,⟨z,h4,h5,h6⟩,h7⟩:=hz;have pm:0<=p/\p<j:=⟨hp.1,o!⟩
 have q0:=Uz F p z;have i:∀l∈h,l∈DZ c/\rM b lo g.2.2.1 d l=ζ:=λl o=>(X l).1 o;have U:θ h=θ g.2.2.2.2.1:=by rw[<-e2,BT]
 have Z:t<θ h:=o!
 have M:∀l∈h.take t++h.drop (t+1),l∈h:=λl o=>(Ak.1 o).elim GH QU;have Y:h[t]∉h.take t++h.drop (t+1):=λW=>by
  have u:h=h.take t++h[t]::h.drop (t+1):=by rw[List.getElem_cons_drop,Dr]
  rw[u]at I;have:=Oj.1 I;rcases Ak.1 W with q|q;exact this.2.2 _ q _ (I3) rfl;exact(GI.1 this.2.1).1 q
 obtain⟨er,eu⟩:=i _ (Jl Z);obtain⟨el,nn,n1,n2,n3,n4,n5⟩:=AE7 eu;have ap:=A.vl.1;obtain⟨V,hV,v8,P⟩:=qK F o! hn h8 (λn q=>.inl (hf n q));have hb:∀R y,HW (f,g.1,g.2.1,g.2.2.1,g.2.2.2.1,R,y)=δ (st (a.take z) p,ζ):=λR y=>by
  refine AFd hV o! (λx N w H l=>Yz.uniq F o! hn ((P x).1 N) ((P w).1 H) l) ?_;dsimp only;rw[h1];rcases h6 with⟨i0,rfl⟩|⟨x,N,x1,x2,x3⟩;exact .inl ⟨i0,rfl⟩;obtain⟨_,_,_,_,q⟩:=id N;obtain⟨_,_,v,C,_⟩:=q.2.2.1;have z0:g.2.1≠0:=λl=>by rw[l]at x1;rw[x1]at v;exact N! v g!
  refine .inr ⟨z0,x,(P x).2 N,x1,?_,by rw[KB,h4]⟩;rw[x3];exact wX F o! ⟨v,C⟩ hn pm
 have u:=wS (z:=(g.1,g.2.1,g.2.2.1,g.2.2.2.1,g.2.2.2.2.1.take t++g.2.2.2.2.1.drop (t+1),g.2.2.2.2.2)) (E:=h.take t++h.drop (t+1)) D A.vl d! (by dsimp only;rw[h1];exact p1) (λl o=>⟨(i l (M l o)).1,(AE7 (i l (M l o)).2).1⟩) (by dsimp only;rw[J7,mZ,eF,e2]) (by rw[AY,BR,C5];omega) T;dsimp only at u;clear h6;have H:=AGx (x:=((h.take t++h.drop (t+1)).map zQ++ue b g.2.2.2.2.2.1 g.2.2.2.2.2.2,g.1,g.2.1,g.2.2.1,g.2.2.2.1,g.2.2.2.2.1.take t++g.2.2.2.2.1.drop (t+1),g.2.2.2.2.2)) (by
  dsimp only;rw[AY,BT,AY,BR,C5];have:(ue b g.2.2.2.2.2.1 g.2.2.2.2.2.2).length<=1:=by unfold ue;split<;>simp
  omega) (λs u=>by
  rcases Ak.1 u with q|q;obtain⟨l,o,rfl⟩:=Bs.1 q;exact(AGf D l (i l (M l o)).1).2.2.1;unfold ue at q;split at q;cases q;rw[BA.1 q];have:=A.vl.2.1;have ao:xr b d<=d:=by unfold xr;split<;>omega
  dsimp only;omega) d! d! d!
 obtain⟨B,Q,H⟩:=H;have S:B=η:=by
  cases B with
  |false=>rfl
  |true=>exfalso;obtain⟨s,u,J,K⟩:=H.1 rfl nn n1 d!;rcases Ak.1 u with q|q;obtain⟨l,o,rfl⟩:=Bs.1 q;obtain⟨v,C⟩:=i l (M l o);have G:l≠h[t]:=λq=>Y (q▸o);have:=D.dis l v _ er G ((AE7 C).1.trans el.symm);dsimp only[zQ]at J K;omega;unfold ue at q;split at q;cases q;rw[BA.1 q]at J K;dsimp only at J K;rcases u3 with L|⟨_,v,C⟩;omega;rw[v]at J;rw[C]at K;exact n5 ⟨J,K⟩
 subst S;exact ABw D.vb A.vl (by dsimp only;rw[AY,BR,C5];omega) (hb _ _) u Q
def nX{x:List Int×Int}(h:∀c∈x.1,0<=c/\c<256)(hx:0<=x.2/\x.2<256):As (IU x) λr=>r=ζ:=by
 unfold IU;rw[AFc,AD,CM,A!];refine AA (ADg h) λv2 N=>AA (ACt N) λa h3=>?_;obtain⟨s1,s2,G,H,V,A,W,s8,s9,ao,e,⟨m,D,g⟩,U,ap,n,R⟩:=h3;have ad:=A.len;refine AA Fe λY Z=>?_;have Z:=Z U;rw[AZ (x:=Y+1),beq_eq_false_iff_ne.2 o!,A!,AZ (x:=x.2)];obtain⟨k,hk⟩:∃k:Nat,Int.tmod x.2 (Y+1)=k:=⟨_,(I5 (pA _ hx.1)).symm⟩
 have al:(k:Int)<Y+1:=by rw[<-hk];exact o9 _ o!
 rw[hk];have d:k<=θ a.2.2.2.1.2.1:=o!
 have hR:=λ(p:Nat)(j:p<m)=>vE R W H A V g! d (D.trans G.symm) o! e (λf q=>.inl (g f q)) (p:=(p:Int)) o!;rw[AIj (m:=m) H.vb A.vl o! (D.trans G.symm) o! (λp j=>by obtain⟨_,_,_,_,_,q⟩:=hR p j;exact q.mono λ_ _=>O!),AD];dsimp only;generalize hP:S0 (λp=>Ca (a.2.2.2.2.1,a.2.1,a.2.2.1,p,(k:Int))) m=P;have pl:θ P<=m:=by rw[<-hP];exact(kX _ _).1
 have key:∀z∈P,∃(p:Nat)(y C fl:Int),p<m/\QR a.2.1 p y C/\sR (rT a.2.1 a.2.2.1 y) k fl/\sS a.2.2.2.1.2.1 a.2.2.2.1.2.2 m a.2.2.2.2.1 a.2.1 a.2.2.1 p k fl z:=λz w=>by rw[<-hP]at w;obtain⟨p,j,r,hr,r0,rz⟩:=rG w;obtain⟨y,C,fl,F,B,r',b,q⟩:=hR p j;rw[hr]at b;injection b with b;subst b;rcases q with q|q;omega;exact⟨p,y,C,fl,j,F,B,rz▸q.2.2⟩
 refine AA (P:=λr=>r=.inr ()) ?_ λr hr=>by rw[hr];exact A4 (AB rfl)
 refine Cp (λ(s:Int)=>0<=s/\s<=θ P) (λs=>((θ P:Int)-s).toNat) ⟨Af _,o!⟩ (λs O=>?_);obtain⟨i0,i1⟩:=O;obtain⟨i,rfl⟩:=EE i0;unfold Kz;dsimp only[len];refine AC (λQ=>?_) (λ_=>As.done rfl);have u:i<θ P:=o!
 obtain⟨p,y,C,fl,j,F,B,w⟩:=key P[i] (Jl u);rw[AZ (x:=(i:Int)+1)];refine AA (P:=λr=>r=.inr ()) ?_ λr hr=>by rw[hr];exact A4 (As.next o! o!)
 obtain⟨E,S,T,_⟩:=AEa R W H A V g! d (D.trans G.symm) o! e g (p:=(p:Int)) o! F B w;have rl:P[i].2.2.2.2.1.length<=12:=by rw[<-S,BT];exact T
 refine Cp (λ(s:Int)=>0<=s/\s<=P[i].2.2.2.2.1.length) (λs=>((P[i].2.2.2.2.1.length:Int)-s).toNat) ⟨Af _,o!⟩ (λs O=>?_);obtain⟨j0,j1⟩:=O;obtain⟨t,rfl⟩:=EE j0;unfold K0;dsimp only[len];rw[Zn u,AD];refine AC (λQ=>?_) (λ_=>As.done rfl);rw[AD,AZ (x:=(t:Int)+1)];refine AA (Bn (Af _)) λar J=>AA (Bn o! o! (Af _)) λax K=>AA (Ad (by rw[Bb];omega)) λa0 o=>AA (Ad (by have:=o.2.1;rw[Bb]at this;omega)) λX L=>?_;have I:X=P[i].2.2.2.2.1.take t++P[i].2.2.2.2.1.drop (t+1):=by rw[L.1,o.1,J.1,K.1];simp only[Int.toNat_zero,bY,eP,Cz,B4];rw[BP (l:=List.drop _ _) (by rw[C5];omega)];rfl
 rw[I];have v:=AB0 R W H A V g! d (D.trans G.symm) o! e g (p:=(p:Int)) o! F B w (t:=t) o!;exact AA v λa1 M=>AL (λQ=>N! M Q) (λ_=>As.next o! o!)
end Go.Pm
namespace Go.Proofs.YtdbincbpjobdpaaGreat
open Go.RowKit Go.Ab Go.Pm
def ABC:∃j,Tryz.prog.info? 301=δ j/\j.size=2:=by
 have h:(Tryz.prog.info? 301).map (·.size)=δ 2:=by kernel_rfl
 exact S9.1 h
def AFh:liesAt Tryz.prog Tryz.prog.depth 301 (2/Tryz.prog.cellsOf 301) 0 301 1=ζ:=by kernel_rfl
set_option maxHeartbeats 1000000 in
set_option maxRecDepth 100000 in
def uo(b:Nat)(w:World)(d:w.cell? ⟨b,0,ε⟩=δ (.pointer (δ ⟨b,0,ε⟩))):
  Calls Tryz.prog 276 #[.pointer (δ ⟨b,0,ε⟩)] w λe c=>e=.returned (.tuple #[])/\c=w:=by
 obtain⟨j,a,_⟩:=ABC;go_enter Tryz.func276,Tryz.ntmps276;go_wp2;rw[Lib.run_neq_ptr_same w _ Tryz.underlying299 a];go_wp2;go_end0;exact⟨rfl,rfl⟩
set_option maxHeartbeats 1000000 in
set_option maxRecDepth 100000 in
def jS(b:Nat)(w:World)(h:w.cell? ⟨b,0,ε⟩=δ (.pointer ε))(a:w.shape? b=δ (301,2))(f:w.frozen? ⟨b,0,ε⟩=η):
  Calls Tryz.prog 276 #[.pointer (δ ⟨b,0,ε⟩)] w λe g=>e=.returned (.tuple #[])/\g=w.setCell ⟨b,0,ε⟩ (.pointer (δ ⟨b,0,ε⟩)):=by
 obtain⟨j,d,c⟩:=ABC;go_enter Tryz.func276,Tryz.ntmps276;go_wp2;rw[Lib.run_to_unsafe w ⟨b,0,ε⟩ Tryz.underlying299 Tryz.underlying388 d (by rw[c];decide) a (Nat.zero_lt_succ 1)];simp only[Result.andThen];rw[Oper.upon_value];go_wp2;rw[run_callFunc_extern Tryz.func308 (by kernel_rfl) (by kernel_rfl) (by kernel_rfl) (e:=Extern.AbiNoEscape.same) (by kernel_rfl)];rw[Lib.run_noEscape];simp only[Result.andThen];rw[Oper.upon_value];go_wp2;rw[Lib.run_from_unsafe w ⟨b,0,ε⟩ Tryz.underlying388 Tryz.underlying299 d a AFh];simp only[Result.andThen];rw[Oper.upon_value];go_wp2;go_end0;exact⟨rfl,rfl⟩
def yH(B b:Nat)(bs:List Value)(w:World)(h:Lib.IsBuilderF 301 5 B b bs w):
  Calls Tryz.prog 276 #[.pointer (δ ⟨b,0,ε⟩)] w λe a=>e=.returned (.tuple #[])/\Lib.BuilderAtF 301 5 B b (.pointer (δ ⟨b,0,ε⟩)) bs a/\Below B w a:=by
 rcases h with h|h;apply (jS b w h.cell0 h.shape h.frozen0).mono;rintro e a ⟨rfl,rfl⟩;exact⟨rfl,h.used _,(Below.refl B w).setCell (p:=⟨b,0,ε⟩) h.1 _⟩;apply (uo b w h.cell0).mono;rintro e a ⟨rfl,rfl⟩;exact⟨rfl,h,Below.refl B _⟩
def ABB:∃i,Tryz.prog.info? 5=δ i/\i.zero=δ (.int .u8 0)/\i.size=1/\i.bytes=1:=by
 have h:(Tryz.prog.info? 5).map (λi=>(i.zero,i.size,i.bytes))=δ (δ (.int .u8 0),1,1):=by kernel_rfl
 obtain⟨i,b,a⟩:=S9.1 h;simp only[EX]at a;exact⟨i,b,a.1,a.2.1,a.2.2⟩
variable {d j:Nat}
def sm{p:Value}{bs:List Value}{w:World}(h:Lib.BuilderAtF 301 5 d j p bs w):∃v,w.heap[j]?=δ (.cells #[p,v] 301 (0,0))/\w.cell? ⟨j,1,ε⟩=δ v/\w.ownsRowF d 5 1 v (θ bs) bs/\v.ownBlock≠δ j:=by obtain⟨e,v,a,c,B⟩:=h;exact⟨v,a,by rw[Lib.cell_of_heap a];rfl,c,B⟩
set_option maxHeartbeats 1000000 in
set_option maxRecDepth 100000 in
def AHk(B b:Nat)(bs:List Value)(w:World)(h:Lib.IsBuilderF 301 5 B b bs w):
  Calls Tryz.prog 219 #[.pointer (δ ⟨b,0,ε⟩)] w λe l=>e=.returned (.int .i64 (θ bs))/\l=w:=by
 obtain⟨p,j⟩:∃p,Lib.BuilderAtF 301 5 B b p bs w:=h.elim (λh=>⟨_,h⟩) (λh=>⟨_,h⟩);obtain⟨v,k,m,a,_⟩:=sm j;obtain⟨d,cap,rfl⟩:∃d cap,v=.slice d (θ bs) cap:=by rcases a.2 with⟨c,i⟩|⟨g,cap,f,n,c,_⟩;exact⟨ε,0,by rw[c,i]⟩;exact⟨_,_,c⟩
 go_enter Tryz.func219,Tryz.ntmps219
 go_wp2
 go_ret
 exact⟨rfl,rfl⟩
set_option maxHeartbeats 2000000 in
set_option maxRecDepth 100000 in
def wj(B b:Nat)(bs:List Value)(c:Int)(w:World)(h:Lib.IsBuilderF 301 5 B b bs w)(C:θ bs+1≤140737488355328)(H:B≤w.heap.size):
  Calls Tryz.prog 215 #[.pointer (δ ⟨b,0,ε⟩),.int .u8 c] w λe E=>e=.returned .nilIface/\Lib.BuilderAtF 301 5 B b (.pointer (δ ⟨b,0,ε⟩)) (bs++[.int .u8 c]) E/\Below B w E:=by
 obtain⟨M,I,t,x,y⟩:=ABB;go_enter Tryz.func215,Tryz.ntmps215;go_wp2_with (go_at_call 276;apply (yH B b bs _ h).mono)
 rintro e F ⟨rfl,m,l⟩;have A:=m.1;have r:=m.lt;have c0:=m.cell0;obtain⟨v,q,z,i,s⟩:=sm m;have K:=l.size;go_wp2_with (at_builtin;apply wpList_append_ownF _ rfl _ _ 22 rfl B 5 M (.int .u8 0) 1 1 Tryz.underlying22 I t x y rfl g! _ _ _ rfl (i.alloc _) ⟨F.heap.size,0,ε⟩ 1 1 [.int .u8 c] rfl rfl ?z ?c2 ?c3 ?c4 ?c5)
 case z=>
  intro j u n;match j,n with
  |0,n=>simp at n;subst n;simp[Addr.add]
 case c2=>intro u D;simp at D;subst D;rfl
 case c3=>unfold maxLen;omega
 case c4=>omega
 case c5=>simp;omega
 intro N o d a _;have f:o.heap[b]?=δ (.cells #[.pointer (δ ⟨b,0,ε⟩),v] 301 (0,0)):=by rw[a.block b w! (λe=>s e.symm),Lib.alloc_old F _ b r];exact q
 have O:o.cell? ⟨b,0,ε⟩=δ (.pointer (δ ⟨b,0,ε⟩)):=by rw[Lib.cell_of_heap f];rfl
 have P:o.cell? ⟨b,1,ε⟩=δ v:=by rw[Lib.cell_of_heap f];rfl
 have Q:o.frozen? ⟨b,1,ε⟩=η:=Lib.frozen_of_heap f 1;obtain⟨g,cap,rfl⟩:∃g cap,N=.slice (δ ⟨g,0,ε⟩) (θ bs+1) cap:=by rcases d.2 with⟨_,S⟩|⟨g,cap,G,R,L,_⟩;omega;exact⟨g,cap,L⟩
 go_wp2
 go_ret
 refine⟨rfl,?_,?_⟩;exact Lib.BuilderAtF.put (T:=301) (e:=5) A f (bs':=bs++[.int .u8 c]) (by simpa using d) g!;exact((l.alloc o! _).grown a w! (λk J=>(i.lt k J).1)).setCell (p:=⟨b,1,ε⟩) A _
set_option maxHeartbeats 2000000 in
set_option maxRecDepth 100000 in
def X8(B b:Nat)(bs:List Value)(s:ByteArray)(w:World)(h:Lib.IsBuilderF 301 5 B b bs w)(z:θ bs+s.size≤140737488355328)(E:B≤w.heap.size):
  Calls Tryz.prog 214 #[.pointer (δ ⟨b,0,ε⟩),.string s] w λe C=>e=.returned (.tuple #[.int .i64 s.size,.nilIface])/\Lib.BuilderAtF 301 5 B b (.pointer (δ ⟨b,0,ε⟩)) (bs++Lib.strCells s) C/\Below B w C:=by
 obtain⟨I,F,r,t,u⟩:=ABB;go_enter Tryz.func214,Tryz.ntmps214;go_wp2_with (go_at_call 276;apply (yH B b bs _ h).mono)
 rintro e P ⟨rfl,j,i⟩;have y:=j.1;have n:=j.lt;have c0:=j.cell0;obtain⟨v,m,K,f,o⟩:=sm j;have H:=i.size;go_wp2_with (at_builtin;apply Lib.wpList_append_own_stringF _ rfl _ _ 22 9 rfl B 5 I Tryz.underlying22 Tryz.underlying9 F r t u _ _ _ rfl f s rfl ?c3 ?c4 ?c5)
 case c3=>unfold maxLen;omega
 case c4=>omega
 case c5=>omega
 intro J l c a _;have d:l.heap[b]?=δ (.cells #[.pointer (δ ⟨b,0,ε⟩),v] 301 (0,0)):=by rw[a.block b n (λe=>o e.symm)];exact m
 have L:l.cell? ⟨b,0,ε⟩=δ (.pointer (δ ⟨b,0,ε⟩)):=by rw[Lib.cell_of_heap d];rfl
 have M:l.cell? ⟨b,1,ε⟩=δ v:=by rw[Lib.cell_of_heap d];rfl
 have N:l.frozen? ⟨b,1,ε⟩=η:=Lib.frozen_of_heap d 1;obtain⟨x,A,cap,rfl⟩:∃x A cap,J=.slice x A cap:=by rcases c.2 with⟨q,_⟩|⟨g,cap,D,O,q,_⟩;exact⟨_,_,_,q⟩;exact⟨_,_,_,q⟩
 go_wp2
 go_ret2
 refine⟨rfl,?_,?_⟩;exact Lib.BuilderAtF.put (T:=301) (e:=5) y d (bs':=bs++Lib.strCells s) (by simpa[Lib.strCells_length]using c) g!;exact(i.grown a o! (λk G=>(f.lt k G).1)).setCell (p:=⟨b,1,ε⟩) y _
set_option maxHeartbeats 1000000 in
set_option maxRecDepth 100000 in
def vQ(B b:Nat)(l:List UInt8)(w:World)(h:Lib.IsBuilderF 301 5 B b (Lib.byteCells l) w)(y:l≠ []):
  Calls Tryz.prog 216 #[.pointer (δ ⟨b,0,ε⟩)] w λe z=>e=.returned (.string ⟨l.toArray⟩)/\Lib.IsBuilderF 301 5 B b (Lib.byteCells l) z/\Below B w z:=by
 obtain⟨p,K,k⟩:∃p,(p=.pointer ε\/p=.pointer (δ ⟨b,0,ε⟩))/\Lib.BuilderAtF 301 5 B b p (Lib.byteCells l) w:=h.elim (λh=>⟨_,.inl rfl,h⟩) (λh=>⟨_,.inr rfl,h⟩);obtain⟨D,v,i,c,t⟩:=k;have s:θ l≠0:=by simpa using y
 rw[Lib.byteCells_length]at c;obtain⟨g,cap,a,f,rfl,n,I,H,J,o,G,u⟩:∃g cap a f,v=.slice (δ ⟨g,0,ε⟩) (θ l) cap/\B<=g/\w.heap[g]?=δ (.cells a 5 f)/\f.2<=θ l*1/\θ l<=cap/\cap<=maxLen/\a.size=cap*1/\a.toList.take (θ l*1)=Lib.byteCells l:=by rcases c.2 with⟨_,N⟩|⟨g,cap,a,f,L,r⟩;exact N! N s;exact⟨g,cap,a,f,L,r⟩
 have A:w.drew.cell? ⟨b,1,ε⟩=δ (.slice (δ ⟨g,0,ε⟩) (θ l) cap):=by have:w.drew.heap[b]?=δ (.cells #[p,.slice (δ ⟨g,0,ε⟩) (θ l) cap] 301 (0,0)):=i;rw[Lib.cell_of_heap this];rfl
 have E:(Builtin.unsafeSliceData_ #[22] 358 #[.slice (δ ⟨g,0,ε⟩) (θ l) cap]).run Tryz.prog w.drew=.ok (.pointer (δ ⟨g,0,ε⟩)) w.drew:=Lib.run_unsafeSliceData_row _ _ _ _ _ _ o!;have F:(Builtin.unsafeString_ #[358,3] 9 #[.pointer (δ ⟨g,0,ε⟩),.int .i64 (θ l)]).run Tryz.prog w.drew=.ok (.string ⟨l.toArray⟩) (w.drew.freeze ⟨g,0,ε⟩ (θ l)):=by apply Lib.run_unsafeString_row w.drew 358 3 9 5 Tryz.underlying358 (by kernel_rfl) g a.size (by have q:w.drew.heap[g]?=δ (.cells a 5 f):=I;simp[World.shape?,q]) l y o! (by unfold maxLen at o;omega);intro j x M;exact c.cells (g:=g) rfl j (.int .u8 x.toNat) (by simp[Lib.byteCells,M])
 have d:Lib.IsBuilderF 301 5 B b (Lib.byteCells l) (w.drew.freeze ⟨g,0,ε⟩ (θ l)):=by
  have C:Lib.BuilderAtF 301 5 B b p (Lib.byteCells l) w.drew:=⟨D,_,i,by rw[Lib.byteCells_length];exact c,t⟩
  have m:=C.froze (g:=g) (cap:=cap) (by rw[Lib.byteCells_length];exact A);rw[Lib.byteCells_length]at m;rcases K with rfl|rfl;exact .inl m;exact .inr m
 go_enter Tryz.func216,Tryz.ntmps216
 go_wp2
 go_region
 all_goals (go_wp2;go_ret;exact⟨rfl,d,Lib.below_freeze (Below.drew (Below.refl B w)) (p:=⟨g,0,ε⟩) n _⟩)
set_option maxHeartbeats 2000000 in
set_option maxRecDepth 1000000 in
def ADa(B b n:Nat)(w:World)(p:B≤b)(a:w.heap[b]?=δ (.cells #[.pointer (δ ⟨b,0,ε⟩),.slice ε 0 0] 301 (0,0)))(j:B≤w.heap.size)(hn:n≤281474976710656):
  Calls Tryz.prog 279 #[.pointer (δ ⟨b,0,ε⟩),.int .i64 n] w λe o=>e=.returned (.tuple #[])/\Lib.BuilderAt 301 5 B b (.pointer (δ ⟨b,0,ε⟩)) [] o/\Below B w o:=by
 obtain⟨c,h,q,g⟩:=Lib.run_makeNoZero (P:=Tryz.prog) w.drew #[3] 22 5 Tryz.underlying22 n hn;have m:IntKind.i64.wrap (IntKind.i64.wrap 0+(n:Int))=n:=by rw[IntKind.wrap_i64,IntKind.wrap_i64];omega
 have k:(callFunc 309 #[.int .i64 (IntKind.i64.wrap (IntKind.i64.wrap 0+(n:Int)))]).run Tryz.prog w.drew=.ok (.value (.slice (δ ⟨w.drew.heap.size,0,ε⟩) n c.size)) (w.drew.drew.drew.alloc (.cells c 5)):=by rw[m,run_callFunc_extern Tryz.func309 (by kernel_rfl) (by kernel_rfl) (by kernel_rfl) (e:=Extern.BytealgMakeNoZero.makeNoZero #[3] #[22]) (by kernel_rfl),h];rfl
 have f:b<w.heap.size:=by rcases Ax b w.heap.size with i|i;exact i;simp[sh i]at a
 have r:w.drew.cell? ⟨b,1,ε⟩=δ (.slice ε 0 0):=by have:w.drew.heap[b]?=_:=a;rw[Lib.cell_of_heap this];rfl
 have s:(w.alloc (.cells c 5)).cell? ⟨b,1,ε⟩=δ (.slice ε 0 0):=by have:(w.alloc (.cells c 5)).heap[b]?=_:=(Lib.alloc_old w _ b f).trans a;rw[Lib.cell_of_heap this];rfl
 have t:(w.alloc (.cells c 5)).frozen? ⟨b,1,ε⟩=η:=Lib.frozen_of_heap ((Lib.alloc_old w _ b f).trans a) 1;have l:∀W:World,(Builtin.copy_ #[22,22] 3 #[.slice (δ ⟨w.heap.size,0,ε⟩) 0 c.size,.slice ε 0 0]).run Tryz.prog W=.ok (goInt 0) W:=λW=>run_copy_none W 22 22 3 5 _ _ 0 c.size 0 0 Tryz.underlying22 (by kernel_rfl) rfl;clear m;have d:=Lib.grown_fresh (T:=301) (e:=5) (cs:=c) p a j (g (by unfold maxLen;omega)) g!;rw[World.setCell_alloc_past _ _ _ _ f]at d;go_enter Tryz.func279,Tryz.ntmps279;go_wp2;go_region;all_goals (go_wp2;go_end0;exact⟨rfl,d⟩)
set_option maxHeartbeats 2000000 in
set_option maxRecDepth 1000000 in
def AFg(B b n:Nat)(w:World)(g:B≤b)(c:w.heap[b]?=δ (.cells #[.pointer ε,.slice ε 0 0] 301 (0,0)))(h:B≤w.heap.size)(hn:n≤281474976710656):
  Calls Tryz.prog 218 #[.pointer (δ ⟨b,0,ε⟩),.int .i64 n] w λe f=>e=.returned (.tuple #[])/\Lib.BuilderAt 301 5 B b (.pointer (δ ⟨b,0,ε⟩)) [] f/\Below B w f:=by
 have a:(w.setCell ⟨b,0,ε⟩ (.pointer (δ ⟨b,0,ε⟩))).heap[b]?=δ (.cells #[.pointer (δ ⟨b,0,ε⟩),.slice ε 0 0] 301 (0,0)):=by simp[World.setCell,bT,c]
 have i:(w.setCell ⟨b,0,ε⟩ (.pointer (δ ⟨b,0,ε⟩))).cell? ⟨b,1,ε⟩=δ (.slice ε 0 0):=by rw[Lib.cell_of_heap a];rfl
 have d:Below B w (w.setCell ⟨b,0,ε⟩ (.pointer (δ ⟨b,0,ε⟩))):=(Below.refl B w).setCell (p:=⟨b,0,ε⟩) g _;have m:Lib.BuilderAt 301 5 B b (.pointer (δ ⟨b,0,ε⟩)) [] (w.setCell ⟨b,0,ε⟩ (.pointer (δ ⟨b,0,ε⟩))):=⟨g,.slice ε 0 0,a,World.ownsRow_nil _ _ _ _,by simp[Value.ownBlock]⟩
 have j:(w.setCell ⟨b,0,ε⟩ (.pointer (δ ⟨b,0,ε⟩))).drew.cell? ⟨b,1,ε⟩=δ (.slice ε 0 0):=i;go_enter Tryz.func218,Tryz.ntmps218;go_wp2_with (go_at_call 276;apply (jS b w (by rw[Lib.cell_of_heap c];rfl) (by simp[World.shape?,c]) (Lib.frozen_of_heap c 0)).mono;rintro e f ⟨rfl,rfl⟩)
 go_region
 all_goals go_wp2_with (go_at_call 279;apply (ADa B b n (w.setCell ⟨b,0,ε⟩ (.pointer (δ ⟨b,0,ε⟩))).drew g a (by simpa[World.setCell,World.drew,-World.drew_eq]using h) hn).mono;rintro e f ⟨rfl,k,l⟩)
 all_goals first
  |(go_end0;exact⟨rfl,k,d.drew.trans l⟩)
  |(go_end0;exact⟨rfl,m.drew,d.drew⟩)
end Go.Proofs.YtdbincbpjobdpaaGreat
