/- Texts of wip, joined and shortened by wip/tools/pack.py; nothing is assumed. -/
import Derived.Test.YtkgodfhnofpglaaGreatK9
noncomputable section
set_option linter.all false
open Option renaming some->D
open List renaming length->Z
open Go renaming Ψ->E
open Bool renaming false->X
open Bool renaming true->A
open Option renaming none->U
open Go renaming Ω->W
open Option renaming some->δ,none->ε,bind->σ
open Bool renaming true->ζ,false->η
open List renaming length->θ
open Decidable renaming decide->τ
open _root_ renaming Int->Y,Nat->O
namespace Go.Pm
open Go Go.Ab
set_option maxHeartbeats 400000
def yI{a t:Bc}{n k:Y}(h:(Z a:Y)+Z t<=2199023255552)(b:1<=k)(d:k<=8)(e:k<=Z t)(g:t.take k.toNat=DB n k.toNat)(hn:0<=n)(f:n<256^k.toNat)(c:n<9223372036854775808):B5 (a++t,(Z a:Y),k)=D (n,0):=by grind[YN,ABM]
def AIL{A p R:Bc}(h:(Z A:Y)+Z p+Z R<=1099511627776)(a:Z p<=8392):De (A++(HM p++R),(Z A:Y))=D (p,(Z A:Y)+8+Z p,0):=by grind[Ru,n?,DY,jy]
theorem zj{L:List EN}(h:HS L)(E:θ L<=1099511627776){s:Int}{n k:Nat}(T:1<=s/\s<=1073741824)(hn:1<=n/\n<=64):Ex (encI (s,(n:Int),IP (L.take k) n))=δ ((s,(n:Int),IP (L.take k) n),0):=by
 suffices H:An (Ex (encI (s,(n:Int),IP (L.take k) n))) λr=>r=((s,(n:Int),IP (L.take k) n),0) by obtain⟨r,hr,rfl⟩:=H;exact hr
 have g:∀c∈IP (L.take k) n,(nB c).length=258:=λc u=>oz h E hn.2 u;have y:(rq (IP (L.take k) n)).length=266*n:=by rw[aM g,Ix]
 have b:=ic (s,(n:Int),IP (L.take k) n);have G:(encI (s,(n:Int),IP (L.take k) n)).length=20+266*n:=by unfold encI;rw[AV,DY,b,y]
 have u0:De (encI (s,(n:Int),IP (L.take k) n),0)=δ (mm (s,(n:Int),IP (L.take k) n),20,0):=by have:=AIL (A:=[]) (p:=mm (s,(n:Int),IP (L.take k) n)) (R:=rq (IP (L.take k) n)) (by rw[b,y,Be];omega) (by rw[b];decide);rw[b]at this;exact this
 unfold Ex;rw[u0,AD];dsimp only;have D_:mm (s,(n:Int),IP (L.take k) n)=[80,77,73,77]++(DB s 4++(DB (n:Int) 2++DB (n:Int) 2)):=by unfold mm;dsimp only;rw[Ix]
 have W:B5 (mm (s,(n:Int),IP (L.take k) n),4,4)=δ (s,0):=by rw[D_];exact yI (a:=[80,77,73,77]) (t:=DB s 4++(DB (n:Int) 2++DB (n:Int) 2)) (n:=s) (k:=4) (by simp only[AV,A0];decide) g! g! (by simp only[AV,A0];decide) (F6 (A0 _ _)) o! (by simp[Int.reduceToNat];omega) o!
 have X_:B5 (mm (s,(n:Int),IP (L.take k) n),8,2)=δ ((n:Int),0):=by rw[D_,<-A2];exact yI (a:=[80,77,73,77]++DB s 4) (t:=DB (n:Int) 2++DB (n:Int) 2) (n:=n) (k:=2) (by simp only[AV,A0];decide) g! g! (by simp only[AV,A0];decide) (F6 (A0 _ _)) o! (by simp[Int.reduceToNat];omega) o!
 have Y:B5 (mm (s,(n:Int),IP (L.take k) n),10,2)=δ ((n:Int),0):=by rw[D_,<-A2,<-A2];exact yI (a:=[80,77,73,77]++DB s 4++DB (n:Int) 2) (t:=DB (n:Int) 2) (n:=n) (k:=2) (by simp only[AV,A0];decide) g! g! (by simp only[A0];decide) (BN (by rw[A0];decide)) o! (by simp[Int.reduceToNat];omega) o!
 have S:FZ (mm (s,(n:Int),IP (L.take k) n),([80,77,73,77]:List UInt8))=δ ζ:=by obtain⟨v,q,r⟩:=Bx (s:=mm (s,(n:Int),IP (L.take k) n)) (lo:=0) (hi:=4) g! g! (by rw[b];decide);have e:v=[80,77,73,77]:=r.1.trans (by rw[D_];rfl);unfold FZ Ey;rw[G! (by simp only[len,b];decide),B!];show σ (σ (SH (mm (s,(n:Int),IP (L.take k) n)) 0 4) _) _=_;rw[q,e];rfl
 rw[H!,A!,show(len (mm (s,(n:Int),IP (L.take k) n)) !=12)=X by unfold len;rw[b];rfl,A!,S,p?,Bool.not_true,A!,W,p?,X_,p?,Y,p?,F! d!,A!];refine AA (P:=λr=>∃z,r=.inr (20+266*(n:Int),IP (L.take k) n,s,(n:Int),z)) ?_ λr hr=>?_
 ·refine CV (λ(t:Int×Int×List Ck×Int×Int×Aj)=>0<=t.2.1/\t.2.1<=n/\t.1=20+266*t.2.1/\∃z,t.2.2=((IP (L.take k) n).take t.2.1.toNat,s,(n:Int),z)) (λt=>((n:Int)-t.2.1).toNat) ⟨Ag _,d!,d!,_,rfl⟩ ?_;rintro⟨M,i,t⟩ ⟨C,V,o,z,J⟩;dsimp only at C V o J;subst J o;unfold VW;dsimp only;refine AC (λu=>?_) (λu=>An.done ⟨z,by rw[show i=n by omega,BN (l:=IP (L.take k) n) (by rw[Ix];omega)]⟩);have d:=qi (L:=L.take k) (n:=n) (i:=i.toNat) o!;rw[Iz C]at d;have f:=g _ (BP d);have j:IP (L.take k) n=(IP (L.take k) n).take i.toNat++(Ww (st (L.take k) i)::(IP (L.take k) n).drop (i.toNat+1)):=by
   have B:=Ce d;conv=>lhs;rw[<-C4 i.toNat (IP (L.take k) n),KH B]
   rw[Au B]at d;rw[BL d]
  have K:(HM (mm (s,(n:Int),IP (L.take k) n))++rq ((IP (L.take k) n).take i.toNat)).length=20+266*i.toNat:=by rw[AV,DY,b,aM λc u=>g c (EJ u),BU,Ix];omega
  have lr:(rq ((IP (L.take k) n).drop (i.toNat+1))).length<=17024:=by rw[aM λc u=>g c (Nn u),DO,Ix];omega
  have Q:encI (s,(n:Int),IP (L.take k) n)=(HM (mm (s,(n:Int),IP (L.take k) n))++rq ((IP (L.take k) n).take i.toNat))++(HM (nB (Ww (st (L.take k) i)))++rq ((IP (L.take k) n).drop (i.toNat+1))):=by
   conv=>lhs;unfold encI;dsimp only;arg 2;rw[j]
   unfold rq;rw[WY,H8,A2]
  have U_:De (encI (s,(n:Int),IP (L.take k) n),20+266*i)=δ (nB (Ww (st (L.take k) i)),20+266*(i+1),0):=by have:=AIL (A:=HM (mm (s,(n:Int),IP (L.take k) n))++rq ((IP (L.take k) n).take i.toNat)) (p:=nB (Ww (st (L.take k) i))) (R:=rq ((IP (L.take k) n).drop (i.toNat+1))) (by rw[K,f];omega) (by rw[f];decide);rw[<-Q,K,f]at this;rw[show(20+266*i:Int)=((20+266*i.toNat:Nat):Int) by omega,this];refine E! (λw=>D (nB (Ww (st (L.take k) i)),w,(0:Int))) ?_;omega
  have x:(dt (st (L.take k) i)).length=256:=ox (X2 h ⟨C,o!⟩ E k);have I:nB (Ww (st (L.take k) i))=DB i 2++dt (st (L.take k) i):=by unfold nB Ww;rw[Rw]
  have Z:B5 (nB (Ww (st (L.take k) i)),0,2)=D (i,0):=by rw[I];exact yI (a:=[]) (t:=DB i 2++dt (st (L.take k) i)) (n:=i) (k:=2) (by rw[AV,A0,x];decide) g! g! (by rw[AV,A0,x];decide) (F6 (A0 _ _)) C (by simp[Int.reduceToNat];omega) o!
  have m:len (nB (Ww (st (L.take k) i)))=258:=by unfold len;rw[f];rfl
  obtain⟨w1,N,O⟩:=Bx (s:=nB (Ww (st (L.take k) i))) (lo:=2) (hi:=258) g! g! (by rw[f];decide);have w2:w1=dt (st (L.take k) i):=by rw[O.1,I];show List.take 256 (List.drop 2 (DB i 2++dt (st (L.take k) i)))=_;rw[lm (A0 _ _),BN o!]
  have rc:La (nB (Ww (st (L.take k) i)))=D (Ww (st (L.take k) i)):=by unfold La;rw[m,N,AD,Z,AD,w2];dsimp only;rw[uc h E ⟨C,o!⟩];unfold Ww;rw[Rw];rfl
  rw[U_,AD];dsimp only;rw[H!,A!,m,H!,A!,rc,AD];refine AA (Ac (by rw[BU,Ix];simp;omega)) λad F=>?_;rw[Aa];refine y! ⟨d!,d!,rfl,z,?_⟩ d!
  dsimp only;rw[F.1,show(i+1).toNat=i.toNat+1 by omega,Ca,d];rfl
 obtain⟨z,rfl⟩:=hr;apply A3;dsimp only;rw[F! (by unfold len;rw[G];omega),A!,pX h E T hn,p?,Bool.not_true,A!];exact AB rfl
def u5{b:Type}(n k:Y)(v:b):∀m:E (Y×b),LR k (PP n v m)=if k=n then D v else LR k m
 |[]=>by simp only[PP,LR];by_cases h:k=n;rw[C! h,h,L!,B!];rw[D! h,beq_eq_false_iff_ne.2 (Lk h),A!]
 |p::r=>by simp only[PP];by_cases a:p.1=n;rw[beq_iff_eq.2 a,B!];simp only[LR];by_cases h:k=n;rw[C! h,h,L!,B!];rw[D! h,beq_eq_false_iff_ne.2 (Lk h),A!,a,beq_eq_false_iff_ne.2 (Lk h),A!];rw[beq_eq_false_iff_ne.2 a,A!];simp only[LR];rw[u5 n k v r];by_cases h:p.1=k;rw[beq_iff_eq.2 h,B!,B!,D! (by rw[<-h];exact a)];rw[beq_eq_false_iff_ne.2 h,A!,A!]
theorem pW{L}(h:HS L)(c:Z L<=1099511627776){d}{m:O}(hn:1<=m/\m<=64){x}(a:PI L d m x):Ex (encI x)=D (x,0):=by have⟨j,b,e,f,g⟩:=a;grind[zj]
def FB(D:Bc->W (Aj×Y))(L:E EN)(d:Y)(m:O)(f:Ap):Prop:=FI L d m f\/An (D f.2.2) λr=>r.2≠0
def sV(L:E EN)(d:Y)(m:O)(fs:E Ap)(n:O)(f:Ap)(x:Aj):Prop:=f.1=2/\(∀(k:O)(g:Ap),k<n->fs[k]?=D g->g.1=2->g.2.1≠f.2.1)/\PI L d m x/\f.2.2=encI x/\x.1=f.2.1
def Rx(L:E EN)(d:Y)(m:O)(fs:E Ap)(n:O)(x:Aj):Prop:=∃(i:O)(f:Ap),i<n/\fs[i]?=D f/\sV L d m fs i f x
def Rx.step{L}{d}{m}{b:E Ap}{n:O}{f:Ap}(e:b[n]?=D f)(x:Aj):Rx L d m b (n+1) x↔Rx L d m b n x\/sV L d m b n f x:=by constructor;rintro⟨i,g,k,a,c⟩;by_cases j:i=n;subst j;rw[e]at a;cases a;exact .inr c;exact .inl ⟨i,g,o!,a,c⟩;rintro(⟨i,g,k,a⟩|h);exact⟨i,g,o!,a⟩;exact⟨n,f,o!,e,h⟩
theorem Yy{L}(h:HS L)(a:Z L<=1099511627776){d}{m:O}(hn:1<=m/\m<=64){x y}(b:PI L d m x)(c:PI L d m y)(e:encI x=encI y):x=y:=by grind[pW,Prod.ext_iff,Option.some.inj]
def Rx.uniq{L}(h:HS L)(A_:Z L<=1099511627776){d}{m:O}(hn:1<=m/\m<=64){a}{n}{x y}(b:Rx L d m a n x)(c:Rx L d m a n y)(e:x.1=y.1):x=y:=by have⟨i,f,_,w,k,l,o,p,q⟩:=b;have⟨j,g,_,z,r,s,t,u,v⟩:=c;grind[Nat.lt_trichotomy,Yy]
def rM(L:E EN)(d:Y)(m:O)(fs:E Ap)(s:Y×E (Y×Bool)×E Aj):Prop:=∃n:O,s.1=n/\n<=Z fs/\Z s.2.2<=n/\(∀id,Option.getD (LR id s.2.1) X=A↔∃(k:O)(g:Ap),k<n/\fs[k]?=D g/\g.1=2/\g.2.1=id)/\∀x,x∈s.2.2↔Rx L d m fs n x
theorem ADT{L:List EN}(h:HS L)(A_:L.length<=1099511627776){d:Int}{m:Nat}(hn:1<=m/\m<=64){a:List Ap}(h8:a.length<=8)(S: ∀f∈a,FB Ex L d m f):An (Hr a) λr=>θ r<=8/\∀x,x∈r↔Rx L d m a (θ a) x:=by
 unfold Hr;refine AA (P:=λr=>θ r.2<=8/\∀x,x∈r.2↔Rx L d m a (θ a) x) ?_ λv V=>?_
 ·refine CV (rM L d m a) (λs=>((θ a:Int)-s.1).toNat) ⟨0,rfl,BS _,Ao _,λid=>⟨λq=>(by cases q),λ⟨k,g,k0,_⟩=>O! k0 (Nat.not_lt_zero _)⟩,λx=>⟨λq=>(by cases q),λ⟨k,g,k0,_⟩=>O! k0 (Nat.not_lt_zero _)⟩⟩ ?_;rintro⟨_,t,o⟩ ⟨n,rfl,n1,W,E,K⟩;dsimp only at W E K;unfold T5;dsimp[len];refine AC (λO=>?_) (λO=>k? ⟨d!,by rw[show θ a=n by omega];exact K⟩);rw[Aa (x:=(n:Int)+1)];refine AA (AI o! O) λc M=>?_;have l:=M.1;rw[DF]at l;have same:(∀x,¬sV L d m a n c x)->(c.1=2->∃(k:Nat)(g:Ap),k<n/\a[k]?=D g/\g.1=2/\g.2.1=c.2.1)->An (D (Step.next ((n:Int)+1,t,o)):Ω (Step (Int×Ψ (Int×Bool)×Ψ Aj) (Ψ (Int×Bool)×Ψ Aj))) (Jj (rM L d m a) (λs=>((θ a:Int)-s.1).toNat) ((θ a:Int)-n).toNat λr=>θ r.2<=8/\∀x,x∈r.2↔Rx L d m a (θ a) x):=λe U_=>by
   refine y! ⟨n+1,rfl,o!,d!,λid=>?_,λx=>?_⟩ d!
   dsimp only;rw[E id];refine⟨λ⟨k,g,k0,k1⟩=>⟨k,g,o!,k1⟩,λ⟨k,g,k0,k1,u,w⟩=>?_⟩;by_cases p:k=n<;>grind;simp_all[Rx.step]
  refine AK (λz=>same (λx q=>z q.1) λq=>O! q z) (λz=>AM (λF=>?_) (λF=>?_));have⟨k,g,k0,k1,u,w⟩:=(E c.2.1).1 F;exact same (λx q=>q.2.1 k g k0 k1 u w) λ_=>⟨k,g,k0,k1,u,w⟩
  have i:∀(k:Nat)(g:Ap),k<n->a[k]? =some g->g.1=2->g.2.1≠c.2.1:=λk g k0 k1 u w=>by rw[(E c.2.1).2 ⟨k,g,k0,k1,u,w⟩]at F;cases F
  have Q: ∀G,G.length<=n+1->(∀x,x∈G↔x∈o\/sV L d m a n c x)->An (some (Step.next ((n:Int)+1,(PP c.2.1 true t,G))):Option (Step (Int×List (Int×Bool)×List Aj) (List (Int×Bool)×List Aj))) (Jj (rM L d m a) (λs=>((a.length:Int)-s.1).toNat) ((θ a:Int)-n).toNat λr=>θ r.2<=8/\∀x,x∈r.2↔Rx L d m a (θ a) x):=λG H T=>by
   refine y! ⟨n+1,rfl,o!,H,λid=>?_,λx=>?_⟩ d!
   dsimp only;rw[u5];by_cases b:id=c.2.1;rw[C! b];exact⟨λ_=>⟨n,c,o!,l,z,b.symm⟩,λ_=>rfl⟩;rw[D! b,E id];refine⟨λ⟨k,g,k0,k1⟩=>⟨k,g,o!,k1⟩,λ⟨k,g,k0,k1,u,w⟩=>?_⟩;by_cases p:k=n<;>grind
   ·dsimp only;rw[Rx.step l,T x,K x]
  have none:(∀x,¬sV L d m a n c x)->An (some (Step.next ((n:Int)+1,(PP c.2.1 true t,o))):Option (Step (Int×Ψ (Int×Bool)×Ψ Aj) (Ψ (Int×Bool)×Ψ Aj))) (Jj (rM L d m a) (λs=>((θ a:Int)-s.1).toNat) ((θ a:Int)-n).toNat λr=>θ r.2<=8/\ ∀x,x∈r.2↔Rx L d m a a.length x):=λe=>Q o (by omega) λx=>⟨.inl,λq=>q.elim id λq=>absurd q (e x)⟩
  rcases S _ M.2 with⟨x,D_,p⟩|e
  ·have⟨j,hj,Y,Z,xe⟩:=id D_;have C:=ACZ h A_ (k:=j) ⟨Y,Z⟩ hn;rw[c!,<-xe]at C;rw[p,pW h A_ hn D_,AD];dsimp only;rw[beq_self_eq_true,cond_true,C,AD,cond_true];refine AQ (λb=>?_) (λb=>none λy I=>b ?_);refine AA (Ac w!) λX_ N=>Q X_ (by rw[N.1];simp;omega) λy=>?_;rw[N.1,Ah,Ax];refine⟨λq=>q.imp id λq=>by rw[q];exact⟨z,i,D_,p,b⟩,λq=>q.imp id λq=>Yy h A_ hn q.2.2.1 D_ (q.2.2.2.1.symm.trans p)⟩
   ·rw[<-Yy h A_ hn I.2.2.1 D_ (I.2.2.2.1.symm.trans p)];exact I.2.2.2.2
  ·have B: ∀x,¬sV L d m a n c x:=λx q=>by have⟨r,hr,J⟩:=e;rw[q.2.2.2.1,pW h A_ hn q.2.2.1]at hr;cases hr;exact J rfl
   exact AA e λv2 R=>AQ (λJ=>absurd J R) (λ_=>none B)
 ·refine AA (AHr o!) λr hr=>?_;rw[Vp hr,B!];exact AB ⟨by have:=hr.length_eq;omega,λx=>by rw[hr.mem_iff];exact V.2 x⟩
theorem AHP{L:List EN}{s:Y}{m j:O}(n:m<=64){p:Y}(c:0<=p/\p<m):TH ((s,(m:Int),IP (L.take j) m),p)=D (p,A):=by
 suffices k:An (TH ((c! s m L j),p)) λv=>v=(p,A) by obtain⟨r,hr,rfl⟩:=k;exact hr
 unfold TH;dsimp only;rw[(by grind[Ix]:len (IP (L.take j) m)=m)];refine AA (P:=λr=>r=p) ?_ λr hr=>?_
 ·refine CV (λ(t:Int×Int)=>0<=t.1/\t.1<=p/\p<=t.2/\t.2<=m) (λt=>(t.2-t.1).toNat) ⟨Ag _,c.1,d!,Ag _⟩ ?_;rintro⟨a,b⟩ ⟨f,g,i,h⟩;dsimp only at f g i h;unfold eG;dsimp only;rw[AA3];refine AC (λl=>?_) (λ_=>k? o!);rw[cF o! o!,AD,Aa (x:=(a+b)/2+1)];unfold QW;rw[AD,show((Ww (st (L.take j) ((a+b)/2)),p):Ck×Y).1.1=(a+b)/2 from Rw _ _,Aa d!];exact Bk (AC (λe=>y! ⟨d!,by dsimp only at e⊢;omega,i,h⟩ d!) (λd=>y! ⟨f,g,by dsimp only at d⊢;omega,d!⟩ d!))
 rw[hr,G! c.2,B!,cF c.1 c.2,AD];unfold QW;rw[AD,show((Ww (st (L.take j) p),p):Ck×Y).1.1=p from Rw _ _,Int.sub_self];exact AB rfl
def AAN{L}(h:HS L)(a:Z L<=1099511627776){s:Y}{m j:O}(c:1<=s/\s<=1073741824)(hn:1<=m/\m<=64){p:Y}(b:0<=p/\p<m):VX ((c! s m L j),p)=D (Ww (st (L.take j) p),A):=by grind[VX,pX,p?,Bool.not_true,AHP,cF]
def ABj{L}(h:HS L)(a:Z L<=1099511627776){s:Y}{m j:O}(c:1<=s/\s<=1073741824)(hn:1<=m/\m<=64){p:Y}(b:0<=p/\p<m):X6 ((c! s m L j),p)=D (st (L.take j) p,0):=by unfold X6;rw[pX h a c hn,AD,CE,A!,AAN h a c hn b,AD,CE,A!,show Ev ((Ww (st (L.take j) p)).2.2,p)=D (st (L.take j) p,0)from uc h a ⟨b.1,o!⟩,AD]
def aC(x:Aj)(p:Y):Y:=((x.2.2[p.toNat]?).getD (0,0,[])).2.1
theorem yv{L:List EN}{s:Y}{m j:O}{p:Y}(a:0<=p/\p<m):aC (s,(m:Int),IP (L.take j) m) p=Bn (L.take j) p:=by unfold aC;dsimp only;rw[(qi (L:=L.take j) (n:=m) (i:=p.toNat) o!),Iz a.1];exact KB _ _
theorem ADz{L:List EN}(h:HS L)(w:Z L<=1099511627776){d:Int}{m:Nat}(hn:1<=m/\m<=64){f:List Ap}{V:List Aj}(q:Hr f=D V)(G:Z V<=8)(n:∀x∈V,PI L d m x){p k:Y}(A_:0<=p/\p<m):An (M8 (f,p,k)) λr=>Z r<=8/\∀y,y∈r↔∃x∈V,aC x p<=k/\y=(aC x p,x.1,aC x p):=by
 unfold M8;dsimp only;rw[q,AD];refine AA (P:=λr=>Z r<=8/\∀y,y∈r↔ ∃x∈V,aC x p<=k/\y=(aC x p,(x.1,aC x p))) ?_ λr hr=>?_
 ·dsimp[len];rw[Aa];refine CV (λ(s:Int×List Bb)=> -1<=s.1/\s.1<Z V/\(Z s.2:Y)+s.1+1<=Z V/\∀y,y∈s.2↔∃x∈V.drop (s.1+1).toNat,aC x p<=k/\y=(aC x p,x.1,aC x p)) (λs=>(s.1+1).toNat) ⟨d!,d!,k!,λy=>by dsimp only;rw[LZ o!];simp⟩ ?_;rintro⟨i,o⟩ ⟨B,g,C,e⟩;dsimp only at B g C e;unfold T4;dsimp only;refine AC (λt=>?_) (λ_=>k? ⟨o!,by rw[show(i+1).toNat=0 by omega]at e;exact e⟩);rw[Aa];refine AA (AI t g) λb l=>?_;have⟨j,I,D_,E,F⟩:=n b l.2;have a:=AAN h w (j:=j) ⟨D_,E⟩ hn A_;rw[c!,<-F]at a;have H:V.drop (i-1+1).toNat=b::V.drop (i+1).toNat:=by grind[Ce,m?,List.drop_eq_getElem_cons,Option.some.inj]
  rw[a,AD];dsimp only;rw[B!,show(Ww (st (L.take j) p)).2.1=aC b p from(KB _ _).trans (by grind[yv]:aC b p=Bn (L.take j) p).symm];refine AC (λz=>?_) (λu=>y! ⟨d!,d!,d!,λy=>?_⟩ d!)
  ·grind[AA,Ac,y!,a!,List.mem_cons_of_mem,List.mem_cons_self]
  grind[List.mem_cons_of_mem]
 refine AA (AHu o!) λv c=>?_;rw[Vp c,B!];exact AB ⟨by have:=c.length_eq;omega,λy=>by rw[c.mem_iff];exact hr.2 y⟩
def AIB{V:List Aj}(f:Z V<=8){y:Bb}(b:∃x∈V,x.1=y.2.1):An (Ak (Sx V) (0,y)) λr=>∃(i:Y)(x:Aj),r=.inl (i,y)/\0<=i/\V[i.toNat]?=D x/\x.1=y.2.1:=by
 refine CV (λ(s:Int×Bb)=>s.2=y/\0<=s.1/\s.1<=Z V/\∀i:O,i<s.1->∀x,V[i]?=D x->x.1≠y.2.1) (λs=>((Z V:Y)-s.1).toNat) ⟨rfl,Ag _,d!,λi a=>by dsimp only at a;omega⟩ ?_;rintro⟨i,h⟩ ⟨rfl,c,d,e⟩;dsimp only at c d e b;unfold Sx;dsimp[len];apply AC<;>intro g
 ·grind[AA,AI,UB,p?,Aa,AQ,k?,y!,Option.some.inj]
 grind[List.getElem?_of_mem,Ce]
theorem AGZ{L C:List EN}{a}{l}{p i k:Int}{c}(h:AR L a)(D_:Ye L l)(H:0<=p/\p<a.2.1)(r:RC a c)(j:c<=12)(G:EQ (a,l,p,i,k)=D (C,0)):An (Hi (a,l,p,i,k)) λu=>u.2.2.2=0:=by
 unfold Hi;dsimp only;rw[G,AD,H!,A!];refine AA (Oo D_.vl) λV _=>?_;have⟨f,R,t,_⟩:=xM h.vb H;rw[t,AD,CE,A!];obtain⟨q,w,v,M,W,rfl,X_,Y⟩:=xN h.vb h.ds (Nl h.vb) h.dis;rw[w,AD];have Q:(v.filter λe=>e.1.2.2.1==f).length<=12:=by rw[(M.filter _).length_eq];exact C5 (r f) j
 refine AA (P:=λb=>Z b<=12) ?_ λJ m=>?_
 ·refine CV (λ(s:Int×List Int)=>∃k:Nat,s.1=k/\Z s.2<=((v.take k).filter λe=>e.1.2.2.1==f).length/\k<=Z v) (Z v-·.1.toNat) ⟨0,rfl,BS _,BS _⟩ ?_;rintro⟨_,o⟩ ⟨k,rfl,ok,S⟩;dsimp only at ok;unfold Qz;dsimp[len];have F:(v.map (·.1)).length=Z v:=BX _;refine AC (λr=>?_) (λr=>k? (by rw[BN o!]at ok;omega));have d:k<Z v:=o!
  have I:v.take (k+1)=v.take k++[v[k]]:=by grind[List.take_add_one,m?]
  have y:ix (v.map (·.1)) (k:Int)=D v[k].1:=by unfold ix;rw[C! o!,s?,List.getElem?_map,m? d];rfl
  have z:ix (v.map (·.2)) (k:Int)=D v[k].2:=by unfold ix;rw[C! o!,s?,List.getElem?_map,m? d];rfl
  rw[y,AD,z,Aa (x:=(k:Int)+1)];have E:((v.take k).filter λe=>e.1.2.2.1==f).length<=((v.take (k+1)).filter λe=>e.1.2.2.1==f).length:=by grind[n?]
  have A_:An (D (Step.next ((k:Int)+1,o)):Ω (Step (Int×Ψ Int) (Ψ Int))) (Jj (λs=>∃k:Nat,s.1=k/\Z s.2<=((v.take k).filter λe=>e.1.2.2.1==f).length/\k<=Z v) (Z v-·.1.toNat) (Z v-k) λb=>Z b<=12):=y! ⟨k+1,rfl,d!,d⟩ d!
  refine AQ (λO=>?_) (λ_=>A_);rw[AD];have T:=EP (·.1.2.2.1==f) (v.take k);have U_:=WP k v;have g:An (σ (app o [v[k].2]) λB=>D (Step.next ((k:Int)+1,B)):Ω (Step (Int×Ψ Int) (Ψ Int))) (Jj (λs=>∃k:Nat,s.1=k/\Z s.2<=((v.take k).filter λe=>e.1.2.2.1==f).length/\k<=Z v) (Z v-·.1.toNat) (Z v-k) λb=>Z b<=12):=by
   refine AA (Ac w!) λB N=>y! ⟨k+1,rfl,?_,d⟩ d!
   grind[n?]
  exact AC (λ_=>A_) (λ_=>AC (λ_=>g) (λ_=>AC (λ_=>g) (λ_=>AC (λ_=>g) (λ_=>A_))))
 refine AA (AHp m) λK n=>?_;rw[Vp n,B!];exact AC (y? rfl) (y? rfl)
def AJe{L}(h:HS L){p}{j k:O}(a:Bn (L.take j) p<=k):∃i:O,i<=k/\Bn (L.take i) p=Bn (L.take j) p/\st (L.take i) p=st (L.take j) p:=by have b:=YL h p j;have e:=YX h (p:=p) (k:=j);exact⟨(Bn (L.take j) p).toNat,o!,e,mP h e⟩
theorem AHN{n}{L}{a}{l}{p:Y}{j k:O}(h:LI n L)(b:HS L)(g:AR L a)(d:Ye L l)(i:EQ (a,l,p,Bn (L.take j) p,(k:Y))=D (L.filter (GG p (Bn (L.take j) p) k),0))(c:j<=k)(o:k<=Z L)(f:0<=p/\p<64):Ho (st (L.take j) p,a,l,(k:Y))=D (st (L.take k) p,0):=by have e:=d.len;have q:=YL b p j;have m:=ik (b.take j) p;rw[BU]at m;unfold Ho;dsimp only;rw[ABH g.vb d.vl,AD,H!,A!,Ut ((X2 b f (by omega:Z L<=1099511627776)) j),AD];dsimp only;rw[H!,A!,KB,Rw,F! o!,A!,i,AD];dsimp only;rw[H!,A!,show Bn (L.take j) p=(((Bn (L.take j) p).toNat:O):Y) by omega,ACd b o!,o6 b (j:=j) o! (YX b),AHX (xz b h f o! j k c) (by have:=EP (dr p) ((L.take k).drop j);rw[DO,BU]at this;omega),<-mQ c];rfl
def AK9{n}{L}{a}{l}{p x D_ d:Y}{k c:O}(C:LI n L)(g:HS L)(f:AR L a)(m:Ye L l)(hr:RC a c)(y:c<=12)(M:k<=Z L)(v:0<=p/\p<a.2.1)(e:p<64)(I:Yf a p x D_)(A_:ya (uF a l x) k d){j}(w:Bn (L.take j) p<=k):(d<=Bn (L.take j) p/\Ho (st (L.take j) p,a,l,(k:Y))=D (st (L.take k) p,0)/\An (Hi (a,l,p,Bn (L.take j) p,(k:Y))) λu=>u.2.2.2=0)\/(¬d<=Bn (L.take j) p/\An (Ho (st (L.take j) p,a,l,(k:Y))) λr=>r.2≠0):=by have t:=m.len;have⟨i,E,s,z⟩:=AJe g w;have G:=YL g p i;rw[<-s,<-z];rw[<-s]at w;have⟨H,K,B,q,b,_,r⟩:=AD2 (p:=p) (i:=Bn (L.take i) p) (j:=(k:Y)) (CPa 4096) g! C o! G o! o! f m v;have o:=I.uniq f.vb.1 rfl rfl q;subst o;have h:=A_.uniq (λ_=>Iff.rfl) b;subst h;rcases r with⟨J,F⟩|⟨J,F⟩;refine .inr ⟨o!,?_⟩;unfold Ho;dsimp only;rw[ABH f.vb m.vl,AD,H!,A!,Ut (X2 g ⟨v.1,e⟩ (by omega:Z L<=1099511627776) i),AD];grind[KB,Rw,p?,AK,AB];grind[AHN,AGZ]
theorem ACo{n d:Int}{L:List EN}{a:AJ}{l:Ad}{p:Int}{k m c:Nat}{h:List Ap}(hL:LI n L)(E:HS L)(X_:AR L a)(N:Ye L l)(hr:RC a c)(T:c<=12)(hk:k<=θ L)(hm:(m:Int)=a.2.1)(hn:1<=m/\m<=64)(h8:θ h<=8)(hf:∀f∈h,FB Ex L d m f)(O:0<=p/\p<a.2.1): ∃R Y e,Yf a p R Y/\ya (uF a l R) k e/\An (Dz (h,(a,(l,(p,(k:Int)))))) λr=>(r.2.2=49/\e≠0/\ ∀x,Rx L d m h h.length x->aC x p<=k-> ¬e<=aC x p)\/(r.2.2=0/\r.1=st (L.take k) p/\r.2.1.1=p/\r.2.1.2.2.2.1=k/\(e=0\/ ∃x,Rx L d m h (θ h) x/\aC x p<=k/\e<=aC x p)):=by
 have a0:=N.len;have ar:0<=p/\p<64:=⟨O.1,o!⟩
 have pm:0<=p/\p<m:=⟨O.1,o!⟩
 obtain⟨R,Y,e,p1,U_,_,_⟩:=AD2 (p:=p) (i:=0) (j:=(k:Int)) (CPa 4096) g! hL (by omega) (Ag _) (by omega) (by omega) X_ N O;refine⟨R,Y,e,p1,U_,?_⟩;obtain⟨v,hv,rfl⟩:=Gl X_.vb;obtain⟨w,hw,rfl⟩:=Il N.vl;have pg:=λj (hq:Bn (L.take j) p<=k)=>AK9 hL E X_ N hr T hk O ar.2 p1 U_ (j:=j) hq;obtain⟨V,hV,v8,F⟩:=ADT E (by omega) hn h8 hf;have hP: ∀x∈V,PI L d m x:=λx hx=>by obtain⟨i,f,_,_,q⟩:=(F x).1 hx;exact q.2.2.1
 unfold Dz;dsimp only;rw[hv,AD,CE,A!,hw,AD,CE,A!,F! o!,A!,F! o!,A!,F! o!,A!,hV,AD];refine AA (ADz E o! hn hV v8 hP pm) λb D_=>?_;obtain⟨r8,A_⟩:=D_;refine AA (P:=λr=>((∃z,r=.inr z)/\∀y∈b,¬e<=y.1)\/∃y:D4,r=.inl (0,(st (L.take k) p,y))/\y.1=p/\y.2.2.2.1=k/\ ∃x,Rx L d m h h.length x/\aC x p<=k/\e<=aC x p) ?_ λr al=>?_
 ·refine CV (λ(s:Int×AT×D4)=>0<=s.1/\s.1<=b.length/\ ∀y∈b.take s.1.toNat,¬e<=y.1) (λs=>((θ b:Int)-s.1).toNat) ⟨Ag _,d!,λy I=>by simp at I⟩ ?_;rintro⟨i,s⟩ ⟨i0,i1,Q⟩;dsimp only at i0 i1 Q;unfold HJ;dsimp only[len];refine AC (λG=>?_) (λG=>k? (.inl ⟨⟨_,rfl⟩,by rw[BN o!]at Q;exact Q⟩));rw[Aa (x:=i+1)];refine AA (AI i0 G) λv5 h5=>?_;obtain⟨x,S,xk,xe⟩:=(A_ v5).1 h5.2;obtain⟨j,hj,x1,x2,ex⟩:=hP x S;have a1:aC x p=Bn (L.take j) p:=by rw[ex];exact yv pm
  refine AA (AIB v8 (y:=v5) ⟨x,S,by rw[xe]⟩) λv9 h9=>?_;obtain⟨g,J,rfl,g0,gx,W⟩:=h9;have ap:J=x:=Rx.uniq E o! hn ((F J).1 (BP gx)) ((F x).1 S) (W.trans (by rw[xe]));subst ap;refine BC ?_;have Z:ix V g=some J:=by unfold ix;rw[if_pos g0,gx]
  have o:=ABj E (by omega:L.length<=1099511627776) (j:=j) ⟨x1,x2⟩ hn pm;rw[c!,<-ex]at o;rw[Z,AD,o,AD,H!,A!,KB];rcases pg j o! with⟨K,t,M⟩|⟨K,t⟩
  ·rw[t,AD,H!,A!];refine AA M λu hu=>AQ (λ_=>k? (.inr ⟨_,rfl,rfl,rfl,J,(F J).1 S,xk,o!⟩)) (O! hu ·)
  ·refine AA t λax B=>AK (λ_=>y! ⟨d!,d!,λy I=>?_⟩ d!) (O! · B);dsimp only at I;rw[show(i+1).toNat=i.toNat+1 by omega,Ca,h5.1]at I;rcases Ah.1 I with q|q;exact Q y q;have q:=Ax.1 q;rw[q,xe];dsimp only;omega
 rcases al with⟨⟨z,rfl⟩,ad⟩|⟨y,rfl,K,t,M⟩;apply A3;have H:∀x,Rx L d m h (θ h) x->aC x p<=k->¬e<=aC x p:=λx hx ao=>ad _ ((A_ _).2 ⟨x,(F x).2 hx,ao,rfl⟩);have l0:Bn (L.take 0) p=0:=rfl;have f0:=U_.1;rw[show C0 p=D (st (L.take 0) p)from rfl,AD,KB];rcases pg 0 (by rw[l0];omega)with⟨K,t,M⟩|⟨K,t⟩;rw[t,AD,H!,A!];exact AA M λu hu=>AQ (y? (.inr ⟨rfl,rfl,rfl,rfl,.inl o!⟩)) (O! hu ·);exact AA t λax B=>AK (y? (.inl ⟨rfl,o!,H⟩)) (O! · B);exact BC (AB (.inr ⟨rfl,rfl,K,t,.inr M⟩))
def ACp{n d}{L}{a}{l}{p:Y}{k m c:O}{fs:Ψ Ap}(s:LI n L)(t:HS L)(o:AR L a)(y:Ye L l)(u:Cov a l k)(hr:RC a c)(b:c<=12)(x:k<=Z L)(z:(m:Y)=a.2.1)(hn:1<=m/\m<=64)(j:Z fs<=8)(v:∀f∈fs,FI L d m f)(A_:0<=p/\p<a.2.1):An (Dz (fs,a,l,p,(k:Y))) λr=>r.1=st (L.take k) p/\r.2.2=0:=by obtain⟨C,w,i,D_,⟨G,e,H,g⟩,B⟩:=ACo s t o y hr b x z hn j (λf q=>.inl (v f q)) A_;refine B.mono λr h=>?_;rcases h with⟨_,q,_⟩|⟨E,F,_⟩;exact O! (u i o! e p C w D_) (g.resolve_left q);exact⟨F,E⟩
def zo(x:AT):An (Pw x) λr=>r=A->∀i,Fs (x.2.2 i)/\(x.2.1=0->(x.2.2 i).1=X):=by
 unfold Pw;refine AA (P:=λr=>r=.inl X\/(r=.inr ()/\∀i,Fs (x.2.2 i)/\(x.2.1=0->(x.2.2 i).1=X))) ?_ λr hr=>?_
 ·refine CV (λs=>0<=s/\s<=16/\∀i:Fin 16,(i.val:Y)<s->Fs (x.2.2 i)/\(x.2.1=0->(x.2.2 i).1=X)) (λs=>(16-s).toNat) ⟨Ag _,g!,λi g=>o!⟩ (λs f=>?_);have⟨k,n,d⟩:=f;unfold Xi;refine AC (λc=>?_) (λc=>k? (.inr ⟨rfl,λi=>d i (by have:=i.isLt;omega)⟩));refine AA (Ch k c) λv j=>?_;have e:An (D (Step.done (.inl X)):W (Step Y (Bool⊕Unit))) (Jj (λs=>0<=s/\s<=16/\∀i:Fin 16,(i.val:Y)<s->Fs (x.2.2 i)/\(x.2.1=0->(x.2.2 i).1=X)) (λs=>(16-s).toNat) (16-s).toNat λr=>r=.inl X\/(r=.inr ()/\∀i,Fs (x.2.2 i)/\(x.2.1=0->(x.2.2 i).1=X))):=k? (.inl rfl);have l:(Z v.2<=12/\(v.1=A\/v.2=[]))->(x.2.1=0->v.1=X)->An (D (Step.next (wi (s+1))):W (Step Y (Bool⊕Unit))) (Jj (λs=>0<=s/\s<=16/\∀i:Fin 16,(i.val:Y)<s->Fs (x.2.2 i)/\(x.2.1=0->(x.2.2 i).1=X)) (λs=>(16-s).toNat) (16-s).toNat λr=>r=.inl X\/(r=.inr ()/\∀i,Fs (x.2.2 i)/\(x.2.1=0->(x.2.2 i).1=X))):=λa b=>by
   rw[Aa];refine y! ⟨o!,o!,λi g=>?_⟩ o!
   by_cases m:(i.val:Y)=s;have:x.2.2 i=v:=by rw[j,show i=⟨s.toNat,o!⟩from Fin.ext (by show i.val=s.toNat;omega)]
   rw[this];exact⟨a,b⟩;exact d i o!
  refine AC (λ_=>e) (λh=>AP (λa=>AK (λ_=>e) (λb=>?_)) (λa=>?_));rw[a,A!];exact l ⟨(by simp[len]at h;omega),.inr b⟩ λ_=>a;grind[AQ]
 grind[BC,AB,A3]
def ADR(x:AT):An (Gu x) λr=>(r.2=0->Eb x)/\Z r.1<=256:=by by_cases h:Eb x;rw[Ut h];exact AB ⟨λ_=>h,by rw[Yz h];decide⟩;unfold Gu;refine AA (P:=λr=>r=A->0<=x.1/\x.1<64/\0<=x.2.1/\x.2.1<=1099511627776) ?_ λv l=>AP (y? ⟨(λh=>by cases h),BS _⟩) (λe=>AA (zo x) λw m=>AP (y? ⟨(λh=>by cases h),BS _⟩) (λf=>?_));unfold Nu GJ;by_cases g:x.1>=0<;>by_cases i:x.1<64<;>by_cases j:x.2.1>=0<;>by_cases k:x.2.1<=1099511627776<;>simp[g,i,j,k,An]<;>omega;obtain⟨a,b,c,d⟩:=l e;exact O! ⟨a,b,c,d,m f⟩ h
def AHT{s:Bc}(h:Z s=256):An (RZ s) λ_=>True:=by
 have d:∀i k:Y,An (Fu (s,i,k)) λr=>k<=1->0<=r/\r<256:=λi k=>by unfold Fu;refine AA (FC (x:=(s,i,k)) d!) λv f=>AB λl=>?_;by_cases g:v.2=0;obtain⟨_,_,a,b⟩:=f.1 g;exact⟨(a d!).1,b l⟩;rw[f.2 g];decide
 unfold RZ;refine AA (d _ _) λ_ _=>AA (d _ _) λ_ _=>AA (P:=λ_=>True) ?_ λr _=>BA (λ_ _=>AB trivial) (λ_ _=>AB trivial);refine CV (λt=>0<=t.1/\t.1<=16) (λt=>(16-t.1).toNat) ⟨Ag _,u!⟩ ?_;rintro⟨i,y,z⟩ ⟨c,m⟩;dsimp only at c m;unfold Y0;dsimp only;refine AC (λe=>?_) (λ_=>k? trivial);rw[Aa (x:=i*13),Aa (x:=12+i*13),Aa (x:=i+1),Aa (x:=12+i*13+1)];refine AA (d _ _) λn j=>?_;obtain⟨o,p⟩:=j g!;refine AA (P:=λ_=>True) ?_ λr _=>BA (λ_ _=>y! d! d!) (λ_ _=>k? trivial);refine AQ (y? trivial) (λ_=>AC (y? trivial) (λ_=>?_));rw[Aa (x:=12+i*13+1+n)];exact AA (Bx) λ_ _=>AA (Ch c e) λ_ _=>AA (Ch c e) λ_ _=>AB trivial
def ADP{s:Bc}(h:Z s<=1099511627776):An (LV s) λr=>r.2=0->Eb r.1:=by
 have a:∀z:AT,∀k:Y,k≠0->An (D (z,k)) λr:AT×Y=>r.2=0->Eb r.1:=λz k f=>AB λh=>O! h f;unfold LV;refine AK (λ_=>a _ _ g!) (λb=>?_);have b:Z s=256:=by simp only[len]at b;omega
 have c:len s=256:=i!
 rw[c];unfold VZ;rw[yC g!,AD,AD];refine AQ (λ_=>a _ _ g!) (λ_=>AA (Bx g! g! (by rw[b];decide)) λj _=>AA (Bx g! g! (by rw[b];decide)) λl _=>AK (λ_=>a _ _ g!) (λ_=>AA (Bx g! g! (by rw[b];decide)) λm d=>AA (P:=λ_=>True) ?_ λn _=>AA (nE (by have:=d.2;omega)) λo _=>AK (λ_=>a _ _ g!) (λ_=>AA (AHT b) λi _=>AA (ADR i.1) λp e=>AP (λ_=>a _ _ g!) (λ_=>AK (λ_=>a _ _ g!) (λg=>AK (λ_=>a _ _ g!) (y? λ_=>e.1 g))))));unfold Fu;exact AA (FC d!) λ_ _=>AB trivial
def zk{s:Bc}{p:Y}(h:Z s<=1099511627776):An (Ev (s,p)) λr=>r.2=0->Eb r.1/\r.1.1=p:=by have d:∀z:AT,∀k:Y,k≠0->An (D (z,k)) λr:AT×Y=>r.2=0->Eb r.1/\r.1.1=p:=λz k g=>AB λh=>O! h g;unfold Ev;refine AA (P:=λr=>r=A->0<=p/\p<64) ?_ λv j=>AP (λ_=>d _ _ g!) (λc=>?_);unfold GJ;exact AC (λe=>AB λh=>⟨e,N! h⟩) (y? λh=>by cases h);obtain⟨m,n⟩:=j c;refine AA (ADP h) λo f=>AQ (λ_=>?_) (λ_=>AK (d _ _ ·) (λl=>AK (λ_=>d _ _ g!) (λa=>AB λ_=>⟨f l,a⟩)));unfold C0;exact AB λ_=>⟨⟨m,n,u!,u!,λi=>⟨⟨by show 0<=12;decide,.inr rfl⟩,λ_=>rfl⟩⟩,rfl⟩
def AKI{S T R Q:Type}{b1:S->W (Step S R)}{b2:T->W (Step T Q)}(I:S->T->Prop)(J:R->Q->Prop)(g:S->O)(h:∀s t,I s t->(∃a e,b1 s=D (.next a)/\b2 t=D (.next e)/\I a e/\g a<g s)\/∃r q,b1 s=D (.done r)/\b2 t=D (.done q)/\J r q){s:S}{t:T}(i:I s t):∃r q,Ak b1 s=D r/\Ak b2 t=D q/\J r q:=by
 suffices H:∀(m:O)(s:S)(t:T),g s<=m->I s t->∃r q,Ak b1 s=D r/\Ak b2 t=D q/\J r q from H _ s t (Ao _) i
 intro m;induction m with
 |zero=>intro s t l f;rcases h s t f with⟨a,e,_,_,_,k⟩|⟨r,q,b,c,d⟩;omega;exact⟨r,q,by rw[Df,b],by rw[Df,c],d⟩
 |succ m n=>intro s t l f;rcases h s t f with⟨a,e,b,c,j,k⟩|⟨r,q,b,c,d⟩;obtain⟨r,q,o,p,d⟩:=n a e o! j;exact⟨r,q,by rw[Df,b];exact o,by rw[Df,c];exact p,d⟩;exact⟨r,q,by rw[Df,b],by rw[Df,c],d⟩
def AJu(x:AT):Eb x\/∃c:Y,c≠0/\Cm x=D c/\Cn x=D ([],c)/\Gu x=D ([],c):=by
 by_cases m:Eb x;exact .inl m
 refine .inr ?_;obtain⟨a,k,f⟩:=JB (x:=x);obtain⟨b,u,h⟩:=KX (x:=x);obtain⟨w,v,j⟩:=zo x;have d:Nu x=D (τ (0<=x.1/\x.1<64/\0<=x.2.1/\x.2.1<=1099511627776)):=by unfold Nu GJ;by_cases p:x.1>=0<;>by_cases r:x.1<64<;>by_cases s:x.2.1>=0<;>by_cases t:x.2.1<=1099511627776<;>simp[p,r,s,t]<;>omega
 by_cases hn:0<=x.1/\x.1<64/\0<=x.2.1/\x.2.1<=1099511627776
 ·have l:¬ ∀i,Fs (x.2.2 i)/\(x.2.1=0->(x.2.2 i).1=X):=λq=>m ⟨hn.1,hn.2.1,hn.2.2.1,hn.2.2.2,q⟩;have n:b=X:=lV.2 λq=>l (h.1 q);have o:w=X:=lV.2 λq=>l (j q);have g:a=A:=f.2 hn;subst n o g;have e:Cm x=D 22:=by unfold Cm;rw[k,AD,u];rfl
  refine⟨22,g!,e,?_,?_⟩;unfold Cn;rw[e];rfl;unfold Gu;rw[d,G! hn,AD,v];rfl
 ·have g:a=X:=lV.2 λq=>hn (f.1 q);subst g;have e:Cm x=D 1:=by unfold Cm;rw[k];rfl
  refine⟨1,g!,e,?_,?_⟩;unfold Cn;rw[e];rfl;unfold Gu;rw[d,F! hn];rfl
def ACh(x:AT)(c:CZ):Lq (x,c)=GR (x,c):=by have⟨a,f,d⟩:=Ol (x:=c);have⟨b,g,e⟩:=Ow (x:=c);grind[Lq,GR]
def AFa{x}{e}(h:Eb x)(g:KD e):An (LQ (x,e)) λr=>r.2=0->Eb r.1/\r.1.1=x.1:=by have c:∀z:AT,∀k:Y,k≠0->An (D (z,k)) λr:AT×Y=>r.2=0->Eb r.1/\r.1.1=x.1:=λz k j=>AB λh=>O! h j;unfold LQ;refine AA Hs λv _=>AP (λ_=>c _ _ g!) (λ_=>AA aO λw _=>AP (λ_=>c _ _ g!) (λ_=>?_));dsimp only;rw[Ut h,AD,H!,A!];refine AK (λ_=>c _ _ g!) (λp=>AK (λ_=>c _ _ g!) (λq=>AA (P:=λr=>r.2=0->r.1.1=x.1/\∀i,Fs (r.1.2.2 i)) ?_ λr hr=>AK (c _ _ ·) (λt=>AB λ_=>?_)));unfold Lq;dsimp only;have c:∀z:AT,∀k:Y,k≠0->An (D (z,k)) λr:AT×Y=>r.2=0->r.1.1=x.1/\∀i,Fs (r.1.2.2 i):=λz k j=>AB λh=>O! h j;refine AA Ol λv s=>AP (λ_=>c _ _ g!) (λo=>AK (λ_=>c _ _ g!) (λ_=>?_));obtain⟨_,_,d,f,_,m⟩:=s.1 o;refine AA (Ch d f) λ_ _=>AA (Ch d f) λ_ _=>AP (λ_=>c _ _ g!) (λ_=>AA (Ch d f) λ_ _=>AA (Ch d f) λ_ _=>AB λ_=>⟨rfl,λi=>?_⟩);dsimp only[W6];split;exact m;exact(h.2.2.2.2 i).1;obtain⟨a,b⟩:=hr t;exact⟨⟨by dsimp only;rw[a];exact h.1,by dsimp only;rw[a];exact h.2.1,by have:=g.1;dsimp only;omega,g.2.1,λi=>⟨b i,λn=>by have:=g.1;dsimp only at n;omega⟩⟩,a⟩
def AGK{x}{e}(h:Eb x)(g:KD e):∃r,LQ (x,e)=D r/\GV (x,e)=D r/\(r.2=0->Eb r.1/\r.1.1=x.1):=by
 have⟨r,hr,p⟩:=AFa h g;refine⟨r,hr,?_,p⟩;rw[<-hr];have⟨a,l,d⟩:=Hs (x:=e);have⟨b,m,f⟩:=CY (x:=e);have⟨c,n,o⟩:=CA (x:=e);have k:fU e=c:=by grind[fU]
 have i:a=A:=d g;have j:b=A:=f.2 g;subst i j;unfold LQ GV;dsimp only;rw[l,m,Yv,Ut h,oL h,ACh];rfl
def AIk{x}{es:Ψ AE}(v:Eb x)(o:∀e∈es,KD e)(D_:Z es<=16777216):∃r,PN (x,es)=D r/\IN (x,es)=D r/\(r.2=0->Eb r.1/\r.1.1=x.1):=by
 have⟨r,q,j,k,n⟩:=AKI (b1:=Q7 (x,es)) (b2:=Kn (x,es)) (λs t=>s=t/\0<=s.1/\s.1<=Z es/\Eb s.2.1/\s.2.1.1=x.1) (λr q=>r=q/\(∀u,r=.inl u->u.1≠0)/\∀u,r=.inr u->Eb u.1/\u.1.1=x.1) (λs=>((Z es:Y)-s.1).toNat) (λs t p=>by have⟨i,y,z⟩:=s;have⟨rfl,g,w,b,f⟩:=p;dsimp only at g w b f;unfold Q7 Kn;dsimp[len];by_cases c:i<Z es;rw[G! c,B!,B!];have⟨e,l,C,m⟩:=AI g c;rw[l,AD,AD,Aa (x:=i+1)];by_cases a:e.1<=y.2.1;rw[G! a,B!,B!];exact .inl ⟨_,_,rfl,rfl,⟨rfl,d!,d!,b,f⟩,d!⟩;rw[F! a,A!,A!,AD];have⟨r,j,k,E⟩:=AGK b (o e m);grind[p?];rw[F! c,A!,A!];exact .inr ⟨_,_,rfl,rfl,rfl,λu d=>(by cases d),λu d=>(by cases d;exact⟨b,f⟩)⟩) (s:=(0,x,0,0,Ge.all (X,[]))) ⟨rfl,Ag _,d!,v,rfl⟩;have⟨rfl,A_,B⟩:=n;unfold PN IN;rw[j,k,AD];cases r with
 |inl u=>exact⟨_,rfl,rfl,λh=>O! h (A_ u rfl)⟩
 |inr u=>exact⟨_,rfl,rfl,λ_=>B u rfl⟩
def Wo{a:Type}{l:E a}{i:O}(h:i<Z l):ix l (i:Y)=D l[i]:=by unfold ix;grind
def AGb{c:List Y}{d:Y}(h:Z c<=100000)(n:c.Pairwise λx y=>x<y):An (Sw (c,d)) λr=>Z r<=Z c+1/\(r.Pairwise λx y=>x<y)/\∀y,y∈r↔y∈c\/y=d:=by
 refine AA (P:=λ(r:Int)=>∃k:O,r=k/\k<=Z c/\(∀y∈c.take k,y<d)/\∀y,c[k]?=D y->d<=y) ?_ λr hr=>?_
 ·refine CV (λ(t:Int)=>∃k:O,t=k/\k<=Z c/\∀y∈c.take k,y<d) (Z c-·.toNat) ⟨0,rfl,BS _,λy e=>by simp at e⟩ ?_;rintro _ ⟨k,rfl,k1,m⟩;unfold Vi;dsimp[len];refine AC (λf=>?_) (λf=>k? ⟨k,rfl,k1,m,λy e=>by have:=Ce e;omega⟩);rw[Wo o!,AD,Aa (x:=(k:Y)+1)];refine AC (λp=>y! ⟨k+1,rfl,o!,λy e=>?_⟩ o!) (λH=>k? ⟨k,rfl,k1,m,λy e=>?_⟩);rw[Ca,Au o!]at e;rcases Ah.1 e with q|q;exact m y q;rw[show y=c[k] by simpa using q];exact p;rw[Au o!]at e;rw[<-BL e];omega
 obtain⟨k,rfl,k1,m,K⟩:=hr;have i:∀y,y∈c.take k++[d]++c.drop k↔y∈c\/y=d:=λy=>by
  conv=>rhs;rw[<-C4 k c]
  simp only[Ah,Ax];constructor;rintro((q|q)|q);exact .inl (.inl q);exact .inr q;exact .inl (.inr q);rintro((q|q)|q);exact .inl (.inl q);exact .inr q;exact .inl (.inr q)
 have l:(∀y∈c.drop k,d<y)->An (σ (Wp c 0 (k:Y)) λL=>σ (Wp c (k:Y) (len c)) λM=>σ (app [] L) λv=>σ (app v ([d]:Ψ Y)) λw=>σ (app w M) λs=>D s) λr=>Z r<=Z c+1/\(r.Pairwise λx y=>x<y)/\∀y,y∈r↔y∈c\/y=d:=λg=>by
  refine AA (Bd (Ag _)) λa D_=>AA (Bd o! i! i!) λb E=>?_;have A_:a=c.take k:=by rw[D_.1];rfl
  have B:b=c.drop k:=by rw[E.1];exact BN (by rw[DO];simp only[len];omega)
  subst A_ B;have l1:=WP k c;refine AA (Ac w!) λv o=>AA (Ac (by rw[o.1];simp;omega)) λw u=>AA (Ac (by rw[u.1,o.1];simp;omega)) λs C=>AB ?_;have z:s=c.take k++[d]++c.drop k:=by rw[C.1,u.1,o.1];rfl
  rw[z];refine⟨w!,?_,i⟩;rw[A2,List.pairwise_append];refine⟨n.sublist (ff _ _),List.pairwise_cons.2 ⟨g,n.sublist (UH _ _)⟩,λx J y e=>?_⟩;have:=m x J;rcases As.1 e with q|q;omega;have:=g y q;omega
 dsimp only;refine AC (λf=>?_) (λf=>l λy e=>?_);simp only[len]at f;rw[Wo o!,AD];have N:=K _ (Au (by omega:k<Z c));have F:c.drop k=c[k]::c.drop (k+1):=KH o!;refine AQ (λG=>AB ⟨o!,n,λy=>⟨.inl,λq=>q.elim id λq=>?_⟩⟩) (λI=>l λy e=>?_);rw[q,<-G];exact KM _;have j:=n.sublist (UH k c);rw[F]at j e;rcases As.1 e with q|q;omega;have:=(List.pairwise_cons.1 j).1 y q;omega;simp only[len]at f;rw[LZ o!]at e;simp at e
def sq{s t:E Y}(c:s.Pairwise λx y=>x<y)(d:t.Pairwise λx y=>x<y)(h:∀e,e∈s↔e∈t):s=t:=by have nd:∀{u:E Y},(u.Pairwise λx y=>x<y)->u.Nodup:=λf=>F5.2 (f.imp λh e=>o!);exact cX (le:=λa b=>a<b) (λa b _ _ g i=>o!) c d ((WQ (nd c) (nd d)).2 h)
def AFI(a b:Y):(if a>b then a else b)=max a b:=by split<;>omega
def AFE(a b:Y):(if a<b then a else b)=min a b:=by split<;>omega
def Nd(F T i j:Y)(r:AS):Prop:=max r.1 (i+1)<=min r.2.1 j/\(T<F\/max r.1 (i+1)<F\/T<min r.2.1 j)
def AIp{L}{a}{l}{p i j:Int}{c}{r0:List EN×Int}(h:AR L a)(W:Dc l)(hi:0<=i)(bl:i<=1099511627776)(hj:i<=j/\j<=9223372036854775807)(hp:0<=p/\p<a.2.1)(hc:RC a c)(ad:c<=12)(o1:EQ (a,l,p,i,j)=D r0)(o2:EK (a,l,p,i,j)=D r0):∃r,Hi (a,l,p,i,j)=D r/\IL (a,l,p,i,j)=D r/\r.2.2.2=r0.2/\θ r.1<=12:=by
 have bm:=W.1;have bt:=W.2.1;have bz:=W.2.2.1;unfold Hi IL;dsimp only;rw[o1,o2,AD,AD];by_cases X_:r0.2≠0;rw[bne_iff_ne.2 X_,B!,B!];exact⟨_,rfl,rfl,rfl,BS _⟩;have X_:=lW.1 X_;rw[X_,H!,A!,A!];obtain⟨v1,e1,rfl⟩:=Oo W;obtain⟨A_,ap,a4,a3⟩:=xM h.vb hp;obtain⟨q,a5,v,V,w2,rfl,w4,w5⟩:=xN h.vb h.ds (Nl h.vb) h.dis;obtain⟨s1,es,M,b0,hh,N,rfl,bb,hM,hS⟩:=vP (l:=l) h hp;have ax:=a3.uniq h.vb.1 rfl rfl N;subst ax;have a6:∀e∈D8 a,1<=e.1.1/\e.1.1<=e.1.2.1/\e.1.2.1<=1099511627776:=λe I=>by have g:=w5 e (V.mem_iff.2 I);exact⟨g.1,g.2.1,g.2.2.1⟩
 have eL:wi (wi (l.1+len l.2.1)-1)=l.1+θ l.2.1-1:=by simp only[len];rw[Aa (x:=l.1+θ l.2.1),Aa]
 have eI:wi (i+1)=i+1:=Aa;rw[e1,AD,a4,AD,CE,A!,a5,AD,es,AD];simp only[eL,eI,AFI,AFE];obtain⟨F,hF⟩:∃F,max l.1 (i+1)=F:=⟨_,rfl⟩
 obtain⟨T,hT⟩:∃T,min (l.1+θ l.2.1-1) j=T:=⟨_,rfl⟩
 rw[hF,hT];have bN:(v.map (·.1)).length=θ v:=BX _;have a':(v.map (·.2)).length=θ v:=BX _;have R:An (Ak (Qz (a,l,p,i,j) (l.1+θ l.2.1-1) (A_,ap,A) (v.map (·.1),v.map (·.2))) (0,[])) λr=>∃u:Ψ NE,u.Sublist v/\r=u.map (·.2)/\∀e,e∈u↔e∈v/\e.1.2.2.1=A_/\Nd F T i j e.1:=by
  refine CV (λ(s:Int×List Int)=>∃k:Nat,s.1=k/\k<=θ v/\∃u:List NE,u.Sublist (v.take k)/\s.2=u.map (·.2)/\∀e,e∈u↔e∈v.take k/\e.1.2.2.1=A_/\Nd F T i j e.1) (θ v-·.1.toNat) ⟨0,rfl,BS _,[],List.Sublist.slnil,rfl,λe=>k!⟩ ?_;rintro⟨_,_⟩ ⟨k,rfl,hk,u,D_,rfl,E⟩;unfold Qz;dsimp only[len];refine AC (λH=>?_) (λH=>k? ?_)
  ·have z:k<θ v:=o!
   have d:v.take (k+1)=v.take k++[v[k]]:=by grind[List.take_add_one,m?]
   rw[Wo o!,AD,Wo o!,Aa (x:=(k:Int)+1)];simp only[List.getElem_map,eI,AFI,AFE,hF,hT];have ul:=D_.length_le;have b1:=WP k v;have B:¬(v[k].1.2.2.1=A_/\Nd F T i j v[k].1)->∃Y:Nat,(k:Int)+1=Y/\Y<=θ v/\∃u':Ψ NE,u'.Sublist (v.take Y)/\u.map (·.2)=u'.map (·.2)/\∀e,e∈u'↔e∈v.take Y/\e.1.2.2.1=A_/\Nd F T i j e.1:=λhn=>⟨k+1,rfl,z,u,by rw[d];exact D_.trans (List.sublist_append_left _ _),rfl,λe=>by rw[E e,d,Ah,Ax];exact⟨λq=>⟨.inl q.1,q.2⟩,λq=>⟨q.1.elim id λw=>O! (by rw[<-w];exact q.2) hn,q.2⟩⟩⟩
   have G:v[k].1.2.2.1=A_/\Nd F T i j v[k].1->An (σ (app (u.map (·.2)) [v[k].2]) λv7=>D (Step.next ((k:Int)+1,v7)):Ω (Step (Int×Ψ Int) (Ψ Int))) (Jj (λs=>∃k:Nat,s.1=k/\k<=θ v/\∃u:Ψ NE,u.Sublist (v.take k)/\s.2=u.map (·.2)/\∀e,e∈u↔e∈v.take k/\e.1.2.2.1=A_/\Nd F T i j e.1) (θ v-·.1.toNat) (θ v-(k:Int).toNat) λr=>∃u:Ψ NE,u.Sublist v/\r=u.map (·.2)/\∀e,e∈u↔e∈v/\e.1.2.2.1=A_/\Nd F T i j e.1):=λhy=>by
    refine AA (Ac w!) λv7 h7=>y! ⟨k+1,rfl,z,u++[v[k]],by rw[d];exact D_.append (List.Sublist.refl _),by dsimp only;rw[h7.1,Kp];rfl,λe=>?_⟩ d!
    rw[Ah,E e,d,Ah,Ax];constructor;rintro(q|q);exact⟨.inl q.1,q.2⟩;exact⟨.inr q,by rw[q];exact hy⟩;rintro⟨q|q,g⟩;exact .inl ⟨q,g⟩;exact .inr q
   refine AQ (λI=>?_) (λa2=>y! (B λq=>a2 q.1) d!);rw[AD];refine AC (λn=>y! (B λq=>?_) d!) (λn=>AC (λf=>G ⟨I,?_⟩) (λf=>AC (λC=>G ⟨I,?_⟩) (λC=>AC (λq4=>G ⟨I,?_⟩) (λq4=>y! (B λq=>?_) d!))));all_goals unfold Nd at*
   all_goals omega
  rw[BN o!]at D_ E;exact⟨u,D_,rfl,E⟩
 have S:An (Ak (PK (a,l,p,i,j) (M.map (·.1),M.map (·.2),l) (bif τ (F>T)then(0,0)else(F,T))) ([],0)) λr=>(r.Pairwise λx y=>x<y)/\∀y,y∈r↔∃e∈M,Nd F T i j e.1/\e.2=y:=by
  have al:θ M<=256:=by have:=hS.1;rwa [BX]at this
  have a9:(M.map (·.1)).length=θ M:=BX _;have a0:(M.map (·.2)).length=θ M:=BX _;refine CV (λ(s:List Int×Int)=>∃k:Nat,s.2=k/\k<=θ M/\θ s.1<=k/\(s.1.Pairwise λx y=>x<y)/\∀y,y∈s.1↔∃e∈M.take k,Nd F T i j e.1/\e.2=y) (θ M-·.2.toNat) ⟨0,rfl,BS _,Ao _,List.Pairwise.nil,λy=>k!⟩ ?_;rintro⟨o,_⟩ ⟨k,rfl,hk,ol,os,U_⟩;dsimp only at ol os U_;unfold PK;dsimp only[len];refine AC (λH=>?_) (λH=>k? ⟨os,by rw[BN o!]at U_;exact U_⟩);have z:k<θ M:=o!
  have d:M.take (k+1)=M.take k++[M[k]]:=by grind[List.take_add_one,m?]
  have bG:=a6 _ ((hM _).1 (KM z)).1;rw[Wo o!,AD,Wo o!,Aa (x:=(k:Int)+1)];simp only[List.getElem_map,eI,AFI,AFE];refine AA (P:=λb:Bool=>b=A↔Nd F T i j M[k].1) ?_ λb hb=>?_;have eF:wi (F-1)=F-1:=Aa;have eT:wi (T+1)=T+1:=Aa;by_cases t:F>T;rw[G! t,B!];refine AC n! (y? ?_);rw[K!];unfold Nd;omega;rw[F! t,A!];dsimp only;refine AC (λm=>?_) (O! · o!);simp only[eF,eT];refine AC (λq=>AB ⟨λ_=>?_,λ_=>rfl⟩) (λq=>AB ?_);unfold Nd;omega;rw[K!];unfold Nd;omega
  ·refine AA (P:=λr:Ψ Int=>θ r<=k+1/\(r.Pairwise λx y=>x<y)/\∀y,y∈r↔∃e∈M.take (k+1),Nd F T i j e.1/\e.2=y) ?_ λr hr=>y! ⟨k+1,rfl,z,hr.1,hr.2.1,hr.2.2⟩ d!
   refine AM (λao=>?_) (λK=>AB ⟨o!,os,λy=>?_⟩);rw[AD];refine AA (AGb o! os) λr hr=>AB ⟨by have:=hr.1;omega,hr.2.1,λy=>?_⟩;rw[hr.2.2 y,U_ y,d];constructor;rintro(⟨e,n,f⟩|q);exact⟨e,F4 _ n,f⟩;exact⟨M[k],Kq _ (Ax.2 rfl),hb.1 ao,q.symm⟩;rintro⟨e,n,f,C⟩;rcases Ah.1 n with q|q;exact .inl ⟨e,q,f,C⟩;exact .inr (by rw[<-C,Ax.1 q]);rw[U_ y,d];constructor;rintro⟨e,n,f⟩;exact⟨e,F4 _ n,f⟩;rintro⟨e,n,f,C⟩;rcases Ah.1 n with q|q;exact⟨e,q,f,C⟩;rw[Ax.1 q]at f;rw[hb.2 f]at K;cases K
 obtain⟨_,k1,u,D_,rfl,E⟩:=R;obtain⟨a7,Z,s2,m2⟩:=S;have Q:θ u<=12:=by have h1:u.filter (·.1.2.2.1==A_)=u:=List.filter_eq_self.2 λe I=>beq_iff_eq.2 ((E e).1 I).2.1;have h2:=(D_.filter (·.1.2.2.1==A_)).length_le;rw[h1,(V.filter _).length_eq]at h2;exact C5 (C5 h2 (hc A_)) ad
 have a1:(u.map (·.2)).Nodup:=by have h0:((D8 a).map (·.2)).Nodup:=F5.2 ((rI h.vb).imp λh e=>o!);exact((V.map (·.2)).nodup_iff.2 h0).sublist (D_.map _)
 obtain⟨so,k3,J,a8⟩:=AHo (l:=u.map (·.2)) (by rw[BX];exact Q) a1;have ar:so=a7:=sq a8 s2 λy=>by rw[J.mem_iff,m2 y,BY];constructor;rintro⟨e,n,f⟩;have⟨g1,g2,g3⟩:=(E e).1 n;exact⟨e,(hM e).2 ⟨V.mem_iff.1 g1,g2⟩,g3,f⟩;rintro⟨e,n,f,C⟩;have⟨g1,g2⟩:=(hM e).1 n;exact⟨e,(E e).2 ⟨V.mem_iff.2 g1,g2,f⟩,C⟩
 subst ar;have O:θ so<=12:=by rw[J.length_eq,BX];exact Q
 rw[k1,AD,k3,AD,Vp J,B!];by_cases t:F>T;rw[G! t,B!]at Z⊢;rw[B!,AD,Z];exact⟨_,rfl,rfl,rfl,O⟩;rw[F! t,A!]at Z⊢;rw[A!,AD,Z];exact⟨_,rfl,rfl,rfl,O⟩
def AEC{L}{a}{l}{x:AT}{k:Y}(B:Uq L)(h:AR L a)(e:Dc l)(C:k<=9223372036854775807):∃r,Ho (x,a,l,k)=D r/\Gs (x,a,l,k)=D r/\(r.2=0->Eb r.1/\r.1.1=x.1/\Eb x/\x.1<a.2.1/\x.2.1<=k/\∃f,EQ (a,l,x.1,x.2.1,k)=D (f,0)/\EK (a,l,x.1,x.2.1,k)=D (f,0)):=by
 have⟨S,t,z⟩:=NC (x:=a);have⟨T,u,A_⟩:=BZ (x:=l);have J:=z.2 h.vb;have K:=A_.2 e;subst J K;unfold Ho Gs;dsimp only;rw[ABH h.vb e,AD,H!,A!,t,AD,CE,A!,u,AD,CE,A!];rcases AJu x with b|⟨c,c0,O,o,s⟩;rw[Ut b,Yc b,AD,AD];dsimp only;rw[H!,A!,A!];by_cases g:x.2.1>k;rw[G! g,B!,B!];exact⟨_,rfl,rfl,n!⟩;rw[F! g,A!,A!];by_cases m:x.1<a.2.1;have⟨r,G,H,I⟩:=AIY (p:=x.1) (i:=x.2.1) (j:=k) B h e b.2.2.1 b.2.2.2.1 o! C ⟨b.1,m⟩;rw[G,H,AD,AD];by_cases d:r.2=0;rw[d,H!,A!,A!];have⟨R,y⟩:=I d;have⟨w,M,N,n⟩:=AIk (es:=r.1) b y o!;rw[M,N];exact⟨_,rfl,rfl,λq=>⟨(n q).1,(n q).2,b,m,o!,r.1,by rw[<-d],by rw[<-d]⟩⟩;rw[bne_iff_ne.2 d,B!,B!];exact⟨_,rfl,rfl,λh=>O! h d⟩;have D_:=b.1;have E:EQ (a,l,x.1,x.2.1,k)=D ([],1):=by obtain⟨v,P,rfl⟩:=Gl h.vb;obtain⟨w,Q,rfl⟩:=Il e;grind[EQ,M9,Bool.not_true]
 have F:EK (a,l,x.1,x.2.1,k)=D ([],1):=by grind[EK,Hf,Bool.not_true]
 rw[E,F];exact⟨_,rfl,rfl,n!⟩;rw[o,s,AD,AD];dsimp only;rw[bne_iff_ne.2 c0,B!,B!];exact⟨_,rfl,rfl,λh=>O! h c0⟩
def CD(cs:E Ck):Prop:=∀c∈cs,Z c.2.2<=1099511627776
def AFd{x:Aj}(j:Z x.2.2<=16777216)(g:CD x.2.2):An (Ia x) λ_=>True:=by unfold Ia;refine AC (y? trivial) (λ_=>AC (y? trivial) (λ_=>AC (y? trivial) (λ_=>AC (y? trivial) (λ_=>AC (y? trivial) (λ_=>AA (P:=λ_=>True) ?_ λr _=>BA (λ_ _=>AB trivial) (λ_ _=>AB trivial))))));refine CV (λ(s:Int)=>0<=s/\s<=Z x.2.2) (λs=>((Z x.2.2:Y)-s).toNat) ⟨Ag _,o!⟩ (λi e=>?_);obtain⟨h,l⟩:=e;unfold Wi;dsimp only[len];refine AC (λf=>?_) (λ_=>k? trivial);rw[Aa (x:=i+1)];refine AA (AI h f) λa d=>AC (λ_=>k? trivial) (λ_=>?_);have b:An (σ (Ev (a.2.2,a.1)) λc=>bif c.2 !=0 then D (Step.done (.inl X))else bif c.1.2.1 !=a.2.1 then D (Step.done (.inl X))else D (Step.next (i+1)):W (Step Y (Bool⊕Unit))) (Jj (λs=>0<=s/\s<=Z x.2.2) (λs=>((Z x.2.2:Y)-s).toNat) ((Z x.2.2:Y)-i).toNat λ_=>True):=AA (zk (g _ d.2)) λ_ _=>AK (λ_=>k? trivial) (λ_=>AK (λ_=>k? trivial) (λ_=>y! o! o!));refine AC (λk=>?_) (λ_=>b);rw[Aa (x:=i-1)];exact AA (AI) λm _=>AC (λ_=>k? trivial) (λ_=>b)
def ABN{s:Bc}(h:Z s=258):An (La s) λc=>Z c.2.2<=1099511627776:=by unfold La;rw[show len s=258 by simp only[len];omega];refine AA (Bx g! g!) λb a=>AA (FC d!) λd _=>?_;have:=a.2;exact AA (zk o!) λe _=>AB d!
end Go.Pm
