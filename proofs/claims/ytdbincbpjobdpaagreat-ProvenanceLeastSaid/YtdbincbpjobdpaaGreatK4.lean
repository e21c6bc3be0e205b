/- Texts of wip, joined and shortened by wip/tools/pack.py; nothing is assumed. -/
import Derived.Test.YtdbincbpjobdpaaGreatK3
noncomputable section
set_option linter.all false
open Option renaming some->δ,none->ε,bind->σ
open Bool renaming true->ζ,false->η
open List renaming length->θ,replicate->ς
open Go.IntKind renaming wrap->ι
open BitVec renaming ofInt->κ,toNat->π
open Sum renaming elim->ν
open Nat renaming beq->ξ
open Int renaming toNat->ο
open Decidable renaming decide->τ
namespace Go.Ab
def KM(S:List Nat):Nat->Ap->Ap
 |_,[]=>[]
 |j,e::r=>(match JF j S with|true=>e|false=>e.lock)::KM S (j+1) r
theorem JD{S:List Nat}:∀(H:Ap)(i j:Nat),(KM S i H)[j]?=(H[j]?).map λe=>match JF (i+j) S with|true=>e|false=>e.lock
 |[],i,j=>by simp[KM]
 |e::r,i,0=>by simp[KM]
 |e::r,i,j+1=>by simp only[KM,k9];rw[JD r (i+1) j];grind
def IP{S:List Nat}:∀(H:Ap)(i:Nat),(KM S i H).length=θ H
 |[],_=>rfl
 |e::r,i=>by simp[KM,IP r]
theorem qA{S:List Nat}:∀(H:Ap)(i:Nat),BJ (KM S i H)=BJ H
 |[],_=>rfl
 |e::r,i=>by have:=qA (S:=S) r (i+1);grind[BJ,KM,oe]
variable {b v:List Nat}{N q y:Nat}{c I:Code}{d A:Ap}{R:Type}{e:List QJ}{f:List Oper}{g J M:BZ}{k:R2}{l:Env}{n L:TypeId}{p:Exit→Act→World→Prop}{s:Ac}{P:Program}{t:List Ac}{u:FuncId}{x:TV}{z:Bool}{B:Option Nat}{D:Ty}{E:Bv}{F:Operand}{G:List TV}{o:Oper}{K:Exit}
theorem nL(h:Sp d N q D y):Sp (KM b 0 d) N q D y:=by
 refine⟨by rw[IP];exact h.1,λro r l p f a=>?_⟩;rw[JD]at a;cases H:d[N]? with
 |none=>grind
 |some e=>
  rw[H]at a;simp at a;split at a;subst a;exact h.2 _ _ _ _ _ H;cases e with
  |dead=>cases a
  |live c k=>cases a
  |lp=>cases a
  |mp=>cases a
  |buf c s o S u=>injection a with _ g m i j;subst g i j;exact h.2 _ _ _ _ _ H
def qB{S:List Nat}(h:E.ok d):E.ok (KM S 0 d):=by
 cases E with
 |own id a t n=>exact nL h
 |_=>trivial
theorem kS{S:List Nat}(ok:No g d):No g (KM S 0 d):=by
 refine⟨λp o x q=>qB (ok.env p o x q),λe m=>?_⟩;obtain⟨j,a⟩:=FG.1 m;rw[JD]at a;cases i:d[j]? with
 |none=>grind
 |some c=>
  rw[i]at a;simp at a;have H:=ok.heap c (BN i);have f:c.ok (KM S 0 d):=by
   cases c with
   |dead=>trivial
   |live b k=>exact λx q=>qB (H x q)
   |buf b t l n h=>exact H
   |lp=>exact H
   |mp=>exact H
  split at a;grind;subst a;cases c with
  |dead=>trivial
  |live b k=>exact f
  |buf b t l n h=>exact f
  |lp=>exact f
  |mp=>exact f
def vv{j:Nat}:∀{l:List Nat},JF j l=ζ->j∈l
 |i::r,h=>by simp only[JF]at h;split at h;rename_i a;exact Aw.2 (.inl (DA a).symm);exact Ce _ (vv h)
def RQ(S:List Nat):Nat->Ap->Ap->Ap
 |j,e::r,e'::r'=>(match JF j S with|true=>e'|false=>e)::RQ S (j+1) r r'
 |_,_,H'=>H'
def vN{S:List Nat}:∀{H a:Ap}(i j:Nat),θ H<=θ a->(RQ S i H a)[j]?=match τ (j<θ H)&& !JF (i+j) S with|true=>H[j]? |false=>a[j]?
 |[],a,i,j,_=>by simp[RQ]
 |e::r,[],i,j,h=>by simp at h
 |e::r,e'::r',i,0,h=>by simp only[RQ,Ol,ba,Ba,Nat.zero_lt_succ,decide_true,kp];cases JF i S<;>rfl
 |e::r,e'::r',i,j+1,h=>by
  simp only[RQ,k9];rw[vN (i+1) j (by simpa using h),show i+1+j=i+(j+1) by omega];have:τ (j+1<(e::r).length)=τ (j<θ r):=k!
  rw[this]
def vO{S:List Nat}:∀{H a:Ap}(i:Nat),θ H<=θ a->(RQ S i H a).length=θ a
 |[],a,i,_=>by simp[RQ]
 |e::r,[],i,h=>by simp at h
 |e::r,e'::r',i,h=>by simp[RQ,vO (i+1) (show θ r<=θ r' by simpa using h)]
theorem ADX{S:List Nat}(V:∀e∈A,e.ok A)(st:CD (KM S 0 A) d)(Q:∀e∈d,e.ok d):
  (∀v:TV,v.ok d->v.ok (RQ S 0 A d))/\(∀e∈RQ S 0 A d,e.ok (RQ S 0 A d))/\CD A (RQ S 0 A d)/\Frame S A (RQ S 0 A d)/\∀x:Cx,S3 x x (BJ d) (BJ (RQ S 0 A d)):=by
 have P:A.length<=d.length:=by simpa[IP]using st.len
 have z:=vO (S:=S) 0 P;have C:=λj=>vN (S:=S) 0 j P;have o:∀j,j<A.length->JF j S=false->(RQ S 0 A d)[j]?=A[j]? :=λj k c=>by rw[C,DT,c,decide_eq_true k];rfl
 have u:∀j,(A.length<=j\/JF j S=true)->(RQ S 0 A d)[j]?=d[j]? :=λj k=>by rw[C,DT];rcases k with h|h;rw[decide_eq_false o!];rfl;rw[h,CM,Bool.and_false]
 have T:∀j,JF j S=true->(KM S 0 A)[j]?=A[j]? :=λj k=>by rw[JD,DT,k];cases A[j]? <;>rfl
 have keep:∀(j:Nat)(e:Dv),JF j S=false->A[j]?=some e->e≠.dead->d[j]?=some e.lock:=λj e c k R=>by apply st.ro j e.lock (by rw[JD,k,DT,c];rfl);cases e<;>first|rfl|exact(R rfl).elim
 have f:∀j,(j<A.length/\JF j S=false)\/(A.length<=j\/JF j S=true):=λj=>by
  rcases Ax j A.length with h|h;cases c:JF j S with
  |false=>exact .inl ⟨h,rfl⟩
  |true=>exact .inr (.inr rfl)
  exact .inr (.inl h)
 have K:∀id w t n,Sp d id w t n->Sp (RQ S 0 A d) id w t n:=λid w t n q=>by refine⟨by rw[z];exact q.1,λro Z l Y N p=>?_⟩;rcases f id with⟨h,c⟩|h;rw[o id h c]at p;exact q.2 _ _ _ _ _ (keep id _ c p k!);rw[u id h]at p;exact q.2 _ _ _ _ _ p
 have H:∀x:Bv,x.ok d->x.ok (RQ S 0 A d):=λx M=>by
  cases x with
  |own id w t n=>exact K _ _ _ _ M
  |_=>trivial
 have L:CD A (RQ S 0 A d):=by refine⟨by rw[z];exact P,λid w t n q=>⟨by rw[z];exact DB q.1 P,λro Z l Y N p=>?_⟩,λid e p hr=>?_,λid G h=>?_,λid G ro F n env ps a b s h=>?_⟩;rcases f id with⟨h,c⟩|h;rw[o id h c]at p;exact q.2 _ _ _ _ _ p;rw[u id h]at p;exact(st.refs id w t n (nL q)).2 _ _ _ _ _ p;have W:=(EP.1 p).1;rcases f id with⟨h,c⟩|h;rw[o id h c];exact p;have c:=h.resolve_left o!;rw[u id h];exact st.ro id e (by rw[T id c];exact p) hr;rcases f id with⟨B,c⟩|B;rw[o id B c];exact h;have c:=B.resolve_left o!;rw[u id B];exact st.nb id (by rw[IP];exact G) (by rw[T id c];exact h);rcases f id with⟨B,c⟩|B;rw[o id B c]at h;exact⟨_,_,h⟩;have c:=B.resolve_left o!;rw[u id B]at h;obtain⟨r1,s1,q⟩:=st.lp id (by rw[IP];exact G) _ _ _ _ _ _ _ _ h;rw[T id c]at q;exact⟨_,_,q⟩
 refine⟨λv X x M=>H x (X x M),λe p=>?_,L,λj k hn=>o j k (by
  cases c:JF j S with
  |false=>rfl
  |true=>exact absurd (vv c) hn),λx=>⟨by rw[CW,CW,z],λj e' k=>?_⟩⟩
 obtain⟨j,k⟩:=FG.1 p;rcases f j with⟨h,c⟩|h;rw[o j h c]at k;exact L.ent (V e (BN k));rw[u j h]at k;have O:=Q e (BN k);cases e with
 |dead=>trivial
 |live b D=>exact λx M=>H x (O x M)
 |buf=>exact O
 |lp=>exact O
 |mp=>exact O
 rw[EJ]at k;cases J:(RQ S 0 A d)[j]? with
 |none=>grind
 |some y=>
  rw[J]at k;simp at k;subst k;have same:(BJ d)[j]?=some y.enc->y.enc=.dead\/(∃g D E,(BJ d)[j]?=some (.live g D)/\y.enc=.live g E/\E.length=D.length/\∀(i:Nat)(I:Ac),E[i]?=some I->∃v,D[i]?=some v/\Conv x x v I)\/((BJ d)[j]?=some y.enc/\∀g D,y.enc≠.live g D):=λh=>by
   cases y with
   |dead=>exact .inl rfl
   |live b D=>exact .inr (.inl ⟨_,_,_,h,rfl,rfl,λi I h=>⟨I,h,λ_ r=>r⟩⟩)
   |buf b t l m w=>exact .inr (.inl ⟨_,_,_,h,rfl,rfl,λi I h=>⟨I,h,λ_ r=>r⟩⟩)
   |lp=>exact .inr (.inr ⟨h,λ_ _ h=>by cases h⟩)
   |mp=>exact .inr (.inr ⟨h,λ_ _ h=>by cases h⟩)
  rcases f j with⟨h,c⟩|h;rw[o j h c]at J;by_cases U:y=.dead;subst U;exact .inl rfl;exact same (by rw[EJ,keep j y c J U];simp[oe]);rw[u j h]at J;exact same (by rw[EJ,J];rfl)
def isLen:Op->Bool
 |.call {callee:=.builtin .len,.. }=>ζ
 |.move _=>ζ
 |.assign _=>ζ
 |.extract _ _=>ζ
 |_=>η
def rdT(env:BZ)(op:Op):List Nat:=match isLen op with|true=>[]|false=>op.operands.toList.flatMap λx=>idT (JW env x)
def WY(o:Oper)(env:BZ):BZ:=(tmpsOf o).filterMap λt=>match env.get t with|.c (.raw .any)=>ε|v=>δ (t,v)
def kW(ids:List Nat):Nat->Ap->List Nat
 |_,[]=>[]
 |j,.live η cs::r=>match (LF cs).any λi=>JF i ids with|true=>j::kW ids (j+1) r|false=>kW ids (j+1) r
 |j,_::r=>kW ids (j+1) r
def AEZ:Bv->Bool
 |.own .. =>η
 |.raw _=>η
 |_=>ζ
def wg:List TV->Option (List Nat)
 |[]=>δ []
 |v::r=>
  match wg r with
  |none=>ε
  |some ids=>
   match v with
   |.c (.own id _ _ _)=>δ (id::ids)
   |.c x=>match AEZ x with|true=>δ ids|false=>ε
   |.g cs=>match cs.all AEZ with|true=>δ ids|false=>ε
   |_=>ε
section
variable {R:Type}
def quD(P:Program)(env:BZ)(H:Ap)(op:Op)(k:TV->Option R):Option R:=
 match op with
 |.buildSlice t len parts=>qY P env t len parts k
 |op=>quT P env H op k
def tL(P:Program)(cs:List QJ)(call:R2)(env:BZ)(H:Ap)(op:Op)(k:TV->Ap->Option R):Option R:=
 match op with
 |.box _ x=>AFf H (JW env x) k
 |.store t a v=>storeT P H t (JW env a) (JW env v) k
 |.makeSlice t x y=>gq P H t (JW env x) (JW env y) k
 |.buildSlice t len parts=>ZZ P env H t len parts k
 |.call c=>
  match Ze env (.call c)with
  |some (F,vs)=>
   match Enters P F with
   |true=>
    match oG cs F vs with
    |some ct=>ABD ct vs H k
    |none=>match wg vs with|some ids=>call (.fn F) vs (KM ids 0 H) λv H'=>k v (RQ ids 0 H H')|none=>call (.fn F) vs H k
   |false=>ε
  |none=>
   match ul env c with
   |some (id,vs)=>call (.yd id) vs H k
   |none=>
    match c with
    |{callee:=.builtin .append,args:=⟨[s,x]⟩,argTypes:=⟨[t,t']⟩}=>match ξ t t' with|true=>rf P H t (JW env s) (JW env x) k|false=>ε
    |_=>ε
 |_=>ε
def AIy(P:Program)(cs:List QJ)(call:R2)(env:BZ)(H:Ap)(op:Op)(k:TV->Ap->Option R):Option R:=
 match IT (mS cs env H op) env H with
 |(ef,hf)=>tL P cs call ef hf op k
def uv(cs:List QJ)(env:BZ)(H:Ap)(op:Op):List Nat:=
 match op with
 |.call c=>
  match Ze env (.call c)with
  |some (F,vs)=>match oG cs F vs with|some _=>tM cs env H (.call c)|none=>match wg vs with|some ids=>ids|none=>tM cs env H (.call c)
  |none=>tM cs env H (.call c)
 |op=>tM cs env H op
def yR(cs:List QJ)(env:BZ)(H:Ap)(op:Op):List Nat:=
 match mS cs env H op with
 |[]=>uv cs env H op
 |ids=>ids++kW ids 0 H++(match IT ids env H with|(ef,hf)=>uv cs ef hf op)
def AI7:Op->Bool
 |.buildSlice .. =>ζ
 |_=>η
def AAp(P:Program)(cs:List QJ)(call:R2)(ops:Array Oper)(m:List Nat)(gs:List Nat)(ow:Bool):List Nat->List (Nat×List Nat)->BZ->Ap->(BZ->Ap->Option R)->Option R
 |[],_,env,H,k=>k env H
 |i::r,pend,env,H,k=>
  match ops[i]? with
  |none=>ε
  |some o=>
   match o.op with
   |.alloc t=>
    match um P t with
    |some z=>
     match o.guard.isNone&&r.all (λj=>PM m i j||IJ ops j)with
     |true=>AAp P cs call ops m gs ow r pend (env.putO o.dst (.c (.raw (.ptr (θ H) 0 0)))) (H++[.live η z]) k
     |false=>ε
    |none=>ε
   |op=>
    match gh ops o.guard env with
    |some η=>AAp P cs call ops m gs ow r ((i,[])::pend) (env.putO o.dst (.tup [])) H k
    |some ζ=>
     match dq op&& !(ow&&AI7 op)with
     |true=>
      match (rdT env op).all λid=>Nat.blt id (θ H) with
      |true=>quD P env H op λv=>force (JF i gs) v λv'=>AAp P cs call ops m gs ow r ((i,rdT env op)::pend) (env.putO o.dst v') H k
      |false=>ε
     |false=>
      match r.all (λj=>PM m i j||IJ ops j)&&pend.all (λp=>PM m p.1 i||p.2.all λid=>!JF id (yR cs (WY o env) H op))with
      |true=>AIy P cs call (WY o env) H op λv H'=>force (JF i gs) v λv'=>AAp P cs call ops m gs ow r pend (env.putO o.dst v') H' k
      |false=>ε
    |none=>ε
variable {P:Program}{N:Nat}{o:Oper}{env:BZ}{H:Ap}{r:R}
def ABi(env:BZ)(b:Op)(h:isLen b=η):∀id∈AAf (Bz env) b,id∈rdT env b:=by intro id a;unfold AAf at a;unfold rdT;rw[h];obtain⟨x,c,d⟩:=Gl.1 a;refine Gl.2 ⟨x,c,AGA _ _ ?_⟩;rwa [<-LN]
def ZX.mono{H:Au}{v:Ac}{a b:List Nat}(h:ZX P N o l H a v)(s:∀id∈a,id∈b):ZX P N o l H b v:=λ_ _ d e=>h _ _ d λid c=>e id (s id c)
theorem ZX.len{env:Env}{H:Au}{v:Ac}(b:isLen o.op=ζ)(e:Cd P env H o.op=δ v):ZX P N o env H [] v:=by
 intro c f d _;refine Ds (v:=v) ?_ ⟨rfl,rfl⟩;rw[wI (fx d),<-e];generalize o.op=op at b;unfold isLen at b;split at b;rename_i args a;obtain⟨args⟩:=args;obtain⟨a⟩:=a;match args,a with
 |[x],[t]=>rfl
 |[],_=>rfl
 |_::_::_,_=>rfl
 |[_],[]=>rfl
 |[_],_::_::_=>rfl
 rfl;rfl;rfl;cases b
theorem ACm{k:TV->Option R}(ok:No env H)(h:quD P env H o.op k=δ r):∃v,ZX P N o (Bz env) (BJ H) (rdT env o.op) v.enc/\k v=δ r/\v.ok H:=by
 have main:quT P env H o.op k=δ r->∃v,ZX P N o (Bz env) (BJ H) (rdT env o.op) v.enc/\k v=δ r/\v.ok H:=λh=>by
  obtain⟨v,i,j,l⟩:=wJ ok h;refine⟨v,?_,j,l⟩;cases z:isLen o.op with
  |true=>grind[rdT,ZX.len]
  |false=>exact(XE i).mono (ABi _ _ z)
 generalize d:o.op=op at h;unfold quD at h;split at h;rename_i t len b;unfold qY at h;split at h;rename_i q m;split at h;rename_i f;split at h;rename_i F e;have E:=uV m f;refine⟨_,?_,h,Ji trivial⟩;rw[<-d];refine ZX.mono (a:=AAf (Bz env) o.op) ?_ (ABi _ _ (by rw[d];rfl));have y:ww P (Bz env) (BJ H) o.op=δ (.vs q.sz ((b.toList.map λp=>JW env p.2).map TV.enc)):=by grind[ww]
 have A:=kB (N:=N) y;intro x n i j;have l:=A x n i j;refine JV.after (v:=.vs q.sz ((b.toList.map λp:Nat×Operand=>JW env p.2).map TV.enc)) (H1:=n) l λX g w s=>⟨S3.refl _ _,λc D=>AGv (nD e) (jv e) (λv C=>?_) _ _ D⟩
 unfold gw at f;simp only[BW]at f;obtain⟨u,B,rfl⟩:=Bs.1 C;have:=GA.1 f.1.1.2 u B;split at this;simp_all[Yv,dz];cases this;cases h;cases h;cases h;grind
theorem yQ{d:List QJ}(u: ∀c∈d,c.Ok P){call:R2}(n:V8 P call){k:TV->Ap->Option R}(ok:No env H)(h:tL P d call env H o.op k=some r):mV P N o env H (uv d env H o.op) k r:=by
 have b: ∀j,o.op=j->qj P d call env H j k=some r->uv d env H j=tM d env H j->mV P N o env H (uv d env H o.op) k r:=λj a e f=>by subst a;rw[f];exact ql u n ok e
 generalize a:o.op=j at h;rw[<-a];cases j with
 |call c=>
  cases l:Ze env (.call c)with
  |none=>exact b _ a (by unfold tL at h;unfold qj;grind) (by simp only[uv,l])
  |some p=>
   obtain⟨F,m⟩:=p;cases s:oG d F m with
   |some M=>exact b _ a (by unfold tL at h;unfold qj;grind) (by simp only[uv,l,s])
   |none=>
    cases q:wg m with
    |none=>
     have hn:isNil m=false:=by cases m<;>first|rfl|cases q
     exact b _ a (by unfold tL at h;unfold qj;grind) (by simp only[uv,l,s,q])
    |some i=>
     obtain⟨E,G⟩:=nw l;simp only[tL,l,s,q]at h;split at h;rename_i I;have L:=kS (S:=i) ok;obtain⟨v,t,q1,q2,q3,q4,q5⟩:=n (.fn F) m (KM i 0 H) _ r (λv J x K=>qB (G H ok.env v J x K)) L.heap h;obtain⟨z,A,B,C,D⟩:=ADX ok.heap q5 q4;have y:Ea P F (m.map TV.enc) (BJ H) (DQ v.enc (BJ t)):=by have:=q1;rw[xv,qA]at this;exact this
     refine⟨v,RQ i 0 H t,JV.after (kV (by rw[a];exact E) I y) λX g w _=>?_,q2,z v q3,A,B,?_⟩;have hr:=(D (cx X g (BJ t) w)).onto;exact⟨hr,λc r=>r.later hr.later⟩;rw[a];simp only[uv,l,s,q];exact C;cases h
 |_=>exact b _ a (by unfold tL at h;unfold qj;grind) rfl
theorem wE{p:Nat×TV}(h:p∈WY o g):p.1∈tmpsOf o/\p.2=g.get p.1/\p.2≠.c (.raw .any):=by obtain⟨t,b,a⟩:=Oi.1 h;grind
theorem AF3(h:x.enc=.any):x=.c (.raw .any):=by
 cases x with
 |c v=>
  cases v with
  |ar n t a=>cases h
  |_=>grind[TV.enc,Bv.one]
 |vw id b t n d m=>simp only[TV.enc,vwE]at h;split at h;split at h<;>cases h;cases h
 |_=>simp[TV.enc]at h
theorem mQ{t:Nat}:∀{l:BZ},(∀p∈l,p.1≠t)->BZ.get l t=VD
 |[],_=>rfl
 |(k,u)::r,h=>by simp only[BZ.get,beq_false (h (k,u) k!)];exact mQ λp a=>h p (by simp[a])
theorem vu{j:Nat}:∀{l:List Nat},j∈l->JF j l=ζ
 |i::r,h=>by simp only[JF];rcases Aw.1 h with rfl|h;rw[Hy];rw[vu h];split<;>rfl
def AG1(ids:List Nat)(H:Ap)(j:Nat):Prop:=∀cs,H[j]?=δ (.live η cs)->∀i∈LF cs,i∉ids
theorem qy{ids:List Nat}:∀{H:Ap}{i j:Nat},i+j∉kW ids i H->AG1 ids H j
 |e::r,i,0,hn,c,h=>by grind[kW,vu]
 |e::r,i,j+1,hn,c,h=>by
  have d:(i+1)+j∉kW ids (i+1) r:=by
   have f:i+1+j=i+(j+1):=o!
   rw[f];intro a;apply hn;cases e with
   |live b c=>cases b<;>grind[kW]
   |dead=>exact a
   |buf=>exact a
   |lp=>exact a
   |mp=>exact a
  exact qy (ids:=ids) d c h
def nN{id b:Nat}{t:Ty}{l:List t.D}:∀{a:List Bv},id∉LF a->a.map (NZ id b t l)=a
 |[],_=>rfl
 |x::r,h=>by
  cases x with
  |own d c e n=>simp only[LF,Aw,not_or]at h;simp only[Bf,NZ,beq_false h.1,o7,nN h.2]
  |_=>simp only[LF]at h;simp only[Bf,NZ,nN h]
def gA:∀(a:List Nat){env:BZ}{H:Ap}{j:Nat},j∉a->AG1 a H j->(IT a env H).2[j]?=H[j]?
 |[],_,_,_,_,_=>rfl
 |id::r,env,H,j,hj,hn=>by
  simp at hj;simp only[IT];split;rename_i e h d;have m:h[j]?=H[j]? :=by
   unfold frz at d;split at d;rename_i t l n q s;simp at d;rw[<-d.2,DW (λe=>hj.1 e.symm),CL];cases p:H[j]? with
   |none=>rfl
   |some o=>
    simp;cases o with
    |live b c=>
     cases b with
     |false=>simp only[Qe];rw[nN λf=>hn c p id f I3]
     |true=>rfl
    |_=>rfl
   cases d
  rw[gA r hj.2 λc g i k f=>hn c (m▸g) i k (Ce _ f),m];exact gA r hj.2 λc g i k f=>hn c g i k (Ce _ f)
theorem zy(l:∀c∈e,c.Ok P)(g:V8 P k){f:TV→Ap→Option R}(ok:No env H)(h:AIy P e k (WY o env) H o.op f=δ r):
  ∃v d,Eff P N o (Bz env) (BJ H) (yR e (WY o env) H o.op) (DQ v.enc (BJ d))/\f v d=δ r/\v.ok d/\(∀b∈d,b.ok d)/\CD H d:=by
 have n:No (WY o env) H:=⟨λp m=>by rw[(wE m).2.1];exact kN ok.env _,ok.heap⟩
 obtain⟨s,u,A⟩:=RF (mS e (WY o env) H o.op) n;have w:=λj=>gA (mS e (WY o env) H o.op) (env:=WY o env) (H:=H) (j:=j);have x:∀id,id∉yR e (WY o env) H o.op->id∉uv e (IT (mS e (WY o env) H o.op) (WY o env) H).1 (IT (mS e (WY o env) H o.op) (WY o env) H).2 o.op/\(IT (mS e (WY o env) H o.op) (WY o env) H).2[id]?=H[id]? :=by intro id a;unfold yR at a;split at a;rename_i z;rw[z];exact⟨a,rfl⟩;simp only[Ak,not_or]at a;refine⟨a.2,w id a.1.1 (qy (i:=0) q!)⟩
 obtain⟨v,d,q1,q2,q3,q4,q5,q6⟩:=yQ (N:=N) l g s h;refine⟨v,d,⟨λt G=>JV.before (FU.subset λq y=>?_) (JV.before (A N) q1),?_⟩,q2,q3,q4,u.step.trans q5⟩;obtain⟨p,m,rfl⟩:=Bs.1 y;obtain⟨D,E,F⟩:=wE m;grind[UZ,Nv,AF3];rintro _ _ ⟨rfl,rfl⟩ id a hn;rw[CW]at a;obtain⟨B,C⟩:=x id hn;rw[EJ,EJ,q6 id (DB a u.step.len) B,C]
def UE{j:Nat}:∀{l:List Nat},JF j l=η->j∉l
 |i::r,h=>by simp only[JF]at h;split at h;cases h;rename_i b;intro a;rcases Aw.1 a with rfl|a;rw[Hy]at b;cases b;exact UE h a
 |[],_=>λh=>by cases h
def uu(ops:Array Oper)(l:List Nat):List Nat:=l.filterMap λi=>(ops[i]?).bind (·.dst)
theorem Yq{L:List QJ}(u:∀c∈L,c.Ok P){w:R2}(s:V8 P w){b:Array Oper}{X:List Nat}{ow:Bool}:∀(l:List Nat)(n:List (Nat×List Nat))(env:BZ)(H:Ap)(k:BZ→Ap→Option R)(r:R),No env H→
  AAp P L w b (IR b.toList []) X ow l n env H k=δ r->
  ∃a q,RA P N b l n (Bz env) (BJ H) (λe h=>e=Bz a/\h=BJ q)/\k a q=δ r/\No a q/\EH (uu b l) env H a q
 |[],n,env,H,k,r,ok,h=>⟨env,H,⟨rfl,rfl⟩,h,ok,EH.refl _ _ _⟩
 |i::l,n,env,H,k,r,ok,h=>by
  simp only[AAp]at h;simp only[RA];cases J:b[i]? with
  |none=>rw[J]at h;cases h
  |some o=>
   rw[J]at h;simp only at h⊢;have m:∀{e:BZ}{h:Ap}{v:TV},EH (uu b [i]) e h (e.putO o.dst v) h:=by
    intro e h v;refine⟨CD.refl h,λt T _=>?_⟩;cases hd:o.dst with
    |none=>rfl
    |some d=>refine ov λe=>T ?_;simp[uu,J,hd,e]
   have g:∀t,t∈uu b [i]++uu b l->t∈uu b (i::l):=by grind[uu]
   split at h;rename_i t Q;split at h;rename_i z hz;split at h;rename_i F;simp only[BW]at F;obtain⟨z1,z2⟩:=Yy hz;have I:=CD.push H (.live η z);have f:No (env.putO o.dst (.c (.raw (.ptr (θ H) 0 0)))) (H++[.live η z]):=⟨bK (I.env ok.env) (Ji trivial),Pe ok.heap (z2 _)⟩
   obtain⟨a,q,x,C,D,E⟩:=Yq u s l _ _ _ _ _ f h;have G:o.guard=ε:=by simpa using F.1
   refine⟨a,q,?_,C,D,?_⟩;rw[G];refine .inr (.inr ⟨t,lvs z,Q,z1,λj V=>?_,?_⟩);grind[List.all_eq_true];have M:Bz (env.putO o.dst (.c (.raw (.ptr (θ H) 0 0))))=(Bz env).putO o.dst (.ptr (BJ H).length 0 0):=by rw[Xo,CW];rfl
   have W:BJ (H++[.live η z])=BJ H++[.live 0 (lvs z)]:=RD _ _;rw[M,W]at x;exact x;have U:EH (uu b [i]) env H (env.putO o.dst (.c (.raw (.ptr (θ H) 0 0)))) (H++[.live η z]):=⟨I,(m (h:=H)).same⟩
   exact(EH.trans ok.env U E).mono g;cases h;cases h;rename_i O;have y:IJ b i=η:=by
    cases Z:IJ b i with
    |false=>rfl
    |true=>obtain⟨t,T⟩:=(WV J).1 Z;exact(O t T).elim
   split at h;rename_i G;have f:No (env.putO o.dst (.tup [])) H:=⟨bK ok.env (RM λv hv=>by cases hv),ok.heap⟩
   obtain⟨a,q,x,C,D,E⟩:=Yq u s l _ _ _ _ _ f h;have M:(Bz env).putO o.dst (.tup [])=Bz (env.putO o.dst (.tup [])):=by rw[Xo];rfl
   exact⟨a,q,oW G ⟨y,by rw[M];exact x⟩,C,D,(EH.trans ok.env m E).mono g⟩;rename_i G;split at h;split at h;rename_i S;obtain⟨v,q1,q2,q3⟩:=ACm (N:=N) ok h;have B:=nG q2;have f:No (env.putO o.dst v) H:=⟨bK ok.env q3,ok.heap⟩
   obtain⟨a,q,x,C,D,E⟩:=Yq u s l _ _ _ _ _ f B;refine⟨a,q,kO G (.inl ⟨y,v.enc,rdT env o.op,q1,λid A=>?_,by rw[<-Xo];exact x⟩),C,D,(EH.trans ok.env m E).mono g⟩;have:=GA.1 S id A;rw[CW];exact Om this;cases h;split at h;rename_i F;simp only[BW]at F;obtain⟨v,K,q1,q2,q3,q4,q5⟩:=zy (N:=N) u s ok h;have B:=nG q2;have f:No (env.putO o.dst v) K:=⟨bK (q5.env ok.env) q3,q4⟩
   obtain⟨a,q,x,C,D,E⟩:=Yq u s l _ _ _ _ _ f B;refine⟨a,q,kO G (.inr (.inl ⟨y,yR L (WY o env) H o.op,λj V=>by simpa using List.all_eq_true.1 F.1 j V,λp hp=>?_,DQ v.enc (BJ K),q1,?_,?_⟩)),C,D,?_⟩;have:=GA.1 F.2 p hp;simp only[TU,GA,Vp]at this;exact this.imp id λY id A=>UE (Y id A);rintro _ _ ⟨rfl,rfl⟩;rw[CW,CW];exact q5.len;rintro _ _ ⟨rfl,rfl⟩;rw[<-Xo];exact x;have U:EH (uu b [i]) env H (env.putO o.dst v) K:=⟨q5,(m (h:=H)).same⟩
   exact(EH.trans ok.env U E).mono g;cases h;cases h
end
abbrev DV:=(t:Ty)×t.D
def dvs:(ts:List Ty)->DL ts->List DV
 |[],_=>[]
 |[t],x=>[⟨t,x⟩]
 |t::u::r,x=>⟨t,x.1⟩::dvs (u::r) x.2
def AAP:(ts:List Ty)->List DV->Option (DL ts)
 |[],[]=>δ ()
 |[t],[⟨t',x⟩]=>if h:t'.beq t=ζ then δ (Ty.cast h x)else ε
 |t::u::r,⟨t',x⟩::ds=>if h:t'.beq t=ζ then match AAP (u::r) ds with|some y=>δ (Ty.cast h x,y)|none=>ε else ε
 |_,_=>ε
def ABN{a:Ty}(h:a.beq D=ζ)(x:a.D):(⟨D,Ty.cast h x⟩:DV)=⟨a,x⟩:=by have e:=Ty.beq_eq a D h;subst e;rfl
theorem qF:∀{b:List Ty}{a:List DV}{s:DL b},AAP b a=δ s->dvs b s=a
 |[],[],s,_=>rfl
 |[],_::_,s,h=>by cases h
 |[t],[],s,h=>by cases h
 |[t],[⟨t',x⟩],s,h=>by simp only[AAP]at h;split at h;rename_i c;injection h with h;subst h;simp only[dvs,ABN];cases h
 |[t],_::_::_,s,h=>by simp[AAP]at h
 |t::u::r,[],s,h=>by cases h
 |t::u::r,⟨t',x⟩::a,s,h=>by simp only[AAP]at h;split at h;rename_i c;split at h;rename_i y d;injection h with h;subst h;simp only[dvs,ABN,qF d];cases h;cases h
inductive Part where
 |d (t:Ty)
 |o (id:Nat)
inductive Ob where
 |t (tmp:Nat) (ty:Ty)
 |g (tmp id:Nat)
 |p (id:Nat) (ps:List Part)
 |u (id:Nat) (ty:Ty)
 |x (id:Nat)
 |k (tmp:Nat) (v:Ac)
 |y (id:Nat) (s:LS)
 |m (id:Nat) (k:IntKind) (t:Ty)
 |w (tmp id:Nat)
def AIV:Ac->Ac->Bool
 |.ptr a b c,.ptr a' b' c'=>ξ a a'&&(ξ b b'&&ξ c c')
 |.nilp,.nilp=>ζ
 |.nilf,.nilf=>ζ
 |_,_=>η
def AGZ{w:Ac}(h:AIV s w=ζ):s=w:=by unfold AIV at h;split at h<;>simp_all
def LH:List Ob->List Nat
 |[]=>[]
 |.p id _::r=>id::LH r
 |.u id _::r=>id::LH r
 |.x id::r=>id::LH r
 |.y id _::r=>id::LH r
 |.m id _ _::r=>id::LH r
 |_::r=>LH r
def Vi:List Ob->List Nat
 |[]=>[]
 |.t tmp _::r=>tmp::Vi r
 |.g tmp _::r=>tmp::Vi r
 |.k tmp _::r=>tmp::Vi r
 |.w tmp _::r=>tmp::Vi r
 |_::r=>Vi r
def AIO:List Part->List Ty
 |[]=>[]
 |.d t::r=>t::AIO r
 |_::r=>AIO r
def dv:List Ob->List Ty
 |[]=>[]
 |.t _ t::r=>t::dv r
 |.p _ ps::r=>AIO ps++dv r
 |.u _ t::r=>.list t::dv r
 |.m _ k t::r=>.list (.prod (.cons (.int k) (.one t)))::dv r
 |.w _ _::r=>.int .i64:: .int .i64::dv r
 |_::r=>dv r
def tJ(H:Ap)(id:Nat):Bv->Bool
 |.own id' ver _ _=>match ξ id id' with
  |true=>match H[id]? with|some (.buf _ _ _ _ ver')=>ξ ver ver'|_=>η
  |false=>η
 |_=>η
def qe(H:Ap)(rest:List Nat):List Part->List Bv->Option (List DV)
 |[],[]=>δ []
 |.d t::ps,cs=>
  match t.mk cs with
  |some (x,cs')=>match qe H rest ps cs' with|some ds=>δ (⟨t,x⟩::ds)|none=>ε
  |none=>ε
 |.o id::ps,c::cs=>
  match tJ H id c&& !JF id rest with
  |true=>qe H rest ps cs
  |false=>ε
 |_,_=>ε
def YE(env:BZ)(H:Ap):List Ob->Option (List DV)
 |[]=>δ []
 |.t tmp ty::r=>
  match ty.data (env.get tmp),YE env H r with
  |some x,δ ds=>δ (⟨ty,x⟩::ds)
  |_,_=>ε
 |.g tmp id::r=>
  match env.get tmp with
  |.c x=>match tJ H id x&& !JF id (LH r)with|true=>YE env H r|false=>ε
  |_=>ε
 |.p id ps::r=>
  match H[id]? with
  |some (.live _ cs)=>
   match qe H (id::LH r) ps cs,YE env H r with
   |some a,δ b=>δ (a++b)
   |_,_=>ε
  |_=>ε
 |.u id ty::r=>
  match H[id]? with
  |some (.buf _ t l _ _)=>match t.beq ty,YE env H r with|true,δ ds=>δ (⟨.list t,l⟩::ds)|_,_=>ε
  |_=>ε
 |.x _::r=>YE env H r
 |.k tmp v::r=>
  match env.get tmp with
  |.c (.raw w)=>match AIV v w with|true=>YE env H r|false=>ε
  |_=>ε
 |.y id s::r=>
  match H[id]? with
  |some (.lp _ _ _ _ _ _ _ s')=>match s.beq s' with|true=>YE env H r|false=>ε
  |_=>ε
 |.m id k t::r=>
  match H[id]? with
  |some (.mp _ k' t' es)=>match τ (k'=k)&&t'.beq t,YE env H r with|true,δ ds=>δ (⟨.list (.prod (.cons (.int k') (.one t'))),es⟩::ds)|_,_=>ε
  |_=>ε
 |.w tmp id::r=>
  match env.get tmp with
  |.vw id' ver te n lo m=>match tJ H id (.own id' ver te n)&& !JF id (LH r),YE env H r with|true,δ ds=>δ (⟨.int .i64,(lo:Int)⟩::⟨.int .i64,(m:Int)⟩::ds)|_,_=>ε
  |_=>ε
def uB(H:Ap):List Part->List DV->Option (List Bv×List DV)
 |[],ds=>δ ([],ds)
 |.d _::ps,⟨t,x⟩::ds=>match uB H ps ds with|some (cs,r)=>δ (t.lvs x++cs,r)|none=>ε
 |.o id::ps,ds=>
  match H[id]? with
  |some (.buf _ t _ n ver)=>match uB H ps ds with|some (cs,r)=>δ (.own id ver t n::cs,r)|none=>ε
  |_=>ε
 |_,_=>ε
def V3:List Ob->List DV->BZ->Ap->Option (BZ×Ap)
 |[],[],env,H=>δ (env,H)
 |.t tmp _::r,⟨t,x⟩::ds,env,H=>V3 r ds ((tmp,t.tv x)::env) H
 |.g tmp id::r,ds,env,H=>
  match H[id]? with
  |some (.buf _ t _ n ver)=>V3 r ds ((tmp,.c (.own id ver t n))::env) H
  |_=>ε
 |.p id ps::r,ds,env,H=>
  match H[id]? with
  |some (.live η _)=>match uB H ps ds with|some (cs,ds')=>V3 r ds' env (H.set id (.live η cs))|none=>ε
  |_=>ε
 |.u id _::r,⟨.list t,l⟩::ds,env,H=>
  match H[id]? with
  |some (.buf η t' _ _ ver)=>match t'.beq t with|true=>V3 r ds env (H.set id (.buf η t l (θ l) (ver+1)))|false=>ε
  |_=>ε
 |.x id::r,ds,env,H=>
  match H[id]? with
  |some e=>match e.ro||e.isLp with|false=>V3 r ds env (H.set id .dead)|true=>ε
  |none=>ε
 |.k tmp v::r,ds,env,H=>V3 r ds ((tmp,.c (.raw v))::env) H
 |.y id s::r,ds,env,H=>
  match H[id]? with
  |some (.lp η F n e ps a b _)=>V3 r ds env (H.set id (.lp η F n e ps a b s))
  |_=>ε
 |.m id _ _::r,⟨.list (.prod (.cons (.int k) (.one t))),es⟩::ds,env,H=>
  match H[id]? with
  |some (.mp η k' t' _)=>match τ (k'=k)&&t'.beq t with|true=>V3 r ds env (H.set id (.mp η k t es))|false=>ε
  |_=>ε
 |.w tmp id::r,⟨.int _,lo⟩::⟨.int _,m⟩::ds,env,H=>
  match H[id]? with
  |some (.buf _ t _ n ver)=>V3 r ds ((tmp,.vw id ver t n (ο lo) (ο m))::env) H
  |_=>ε
 |_,_,_,_=>ε
def AHb(e e':Dv):Prop:=e'=.dead\/(∃b cs b' cs',e=.live b cs/\e'=.live b' cs'/\Dl (lvs cs) (lvs cs'))\/(∃b t l n v b' v',e=.buf b t l n v/\e'=.buf b' t l n v')\/(∃ro ro' F n env ps a b s,e=.lp ro F n env ps a b s/\e'=.lp ro' F n env ps a b s)\/(∃b b' k t es,e=.mp b k t es/\e'=.mp b' k t es)
def HR(H1 H:Ap)(rest:List Nat):Prop:=∀(j:Nat)(e':Dv),JF j rest=η->H[j]?=δ e'->∃e,H1[j]?=δ e/\AHb e e'
theorem Pn:JF N (q::b)=η↔N≠q/\JF N b=η:=by simp[JF];by_cases h:N=q;simp_all;grind[beq_false]
theorem jt(j:E.ok d)(h:tJ d N E=ζ):∃b t l n a,E=.own N a t n/\d[N]?=δ (.buf b t l n a):=by unfold tJ at h;split at h;rename_i k a t n;split at h;rename_i i;have e:=DA i;subst e;split at h;rename_i b o l m H g;have f:=DA h;subst f;have⟨rfl,rfl⟩:=(j.2 _ _ _ _ _ g).2 rfl;grind;cases h;cases h;cases h
theorem V7{b:Bool}{l:List D.D}(h:d[N]?=δ (.buf b D l y q)):Sp d N q D y:=by refine⟨?_,λro g e f c H=>?_⟩;grind;grind
theorem nB{q H:Ap}{i:List Nat}(hr:HR q H i):∀{p:List Part}{m:List Bv}{a b j:List DV}{f:List Bv},lok q m→qe q i p m=δ a→uB H p (a++b)=δ (f,j)→
  j=b/\Dl (lvs m) (lvs f)/\lok H f
 |[],[],a,b,j,f,ok,h,k=>by grind[qe,Option.some.injEq,uB,Prod.mk.injEq,Dl.refl,AGH]
 |[],_::_,a,b,j,f,ok,h,k=>by simp[qe]at h
 |.d t::p,m,a,b,j,f,ok,h,k=>by simp[qe]at h;split at h;rename_i x R z;split at h;rename_i S u;cases h;obtain⟨Q,rfl,M⟩:=t.mk_spec _ _ _ z;simp[EO,uB]at k;split at k;rename_i E r v;obtain⟨rfl,rfl⟩:=k;have⟨q1,q2,q3⟩:=nB hr (JE.1 ok).2 u v;refine⟨q1,?_,JE.2 ⟨t.lvs_ok x,q3⟩⟩;rw[Gs,Gs,t.lvs_enc];exact M.append q2;cases k;cases h;cases h
 |.o id::p,c::m,a,b,j,f,ok,h,k=>by
  simp[qe]at h;split at h
  ·rename_i s;simp[BW,Vp]at s;obtain⟨O,t,l,n,N,rfl,L⟩:=jt (ok c k!) s.1;simp[uB]at k;split at k
   ·rename_i P t2 l2 Z D B;split at k
    ·rename_i E r v;obtain⟨rfl,rfl⟩:=k;have⟨q1,q2,q3⟩:=nB hr (λx z=>ok x (by simp[z])) h v;have⟨e,C,w⟩:=hr id _ s.2 B;rw[L]at C;cases C;rcases w with g|⟨_,_,_,_,g,_⟩|⟨_,_,_,_,_,_,_,g,K⟩|⟨_,_,_,_,_,_,_,_,_,g,_⟩|⟨_,_,_,_,_,g,_⟩;cases g;cases g;rotate_left;cases g;cases g;injection g with T F U G V;injection K with W I X J Y;subst F G I J;refine⟨q1,?_,λy A=>?_⟩;rw[Hn,Hn];exact(Dl.refl _).append q2;rcases Aw.1 A with rfl|A;exact V7 B;exact q3 y A
    cases k
   cases k
  cases h
structure IS(env1:BZ)(H1:Ap)(slots:List Ob)(env:BZ)(H:Ap)(env2:BZ)(H2:Ap):Prop where
 get:∀t,JF t (Vi slots)=η->env2.get t=env.get t
 ok:No env2 H2
 env:∀p∈env2,∃v,(p.1,v)∈env1/\Wf v.enc p.2.enc
 hr:HR H1 H2 []
 step:CD H H2
 len:θ H2=θ H
 same:∀j,JF j (LH slots)=η->H2[j]?=H[j]?
def Yu{t:Nat}{v:TV}:∀{env:BZ},env.get t=v->v≠VD->(t,v)∈env
 |[],h,hv=>N! h.symm hv
 |(k,u)::r,h,hv=>by simp only[BZ.get]at h;split at h;simp_all;exact Ce _ (Yu h hv)
def heap_set{e:Dv}(b:CD d (d.set N e))(ok:∀x∈d,x.ok d)(a:e.ok (d.set N e)):∀x∈d.set N e,x.ok (d.set N e):=by intro x c;rcases QV c with h|rfl;exact b.ent (ok x h);exact a
theorem HR.set{a H:Ap}{id:Nat}{e d:Dv}(h:HR a H (id::b))(g:a[id]?=δ e)(hr:AHb e d):HR a (H.set id d) b:=by intro j x f c;rw[TY]at c;split at c;grind;rename_i r;exact h j x (Pn.2 ⟨λq=>r q.symm,f⟩) c
theorem LpS.set{H c:Ap}{id:Nat}{i:Dv}(h:LpS H c)(l:id<θ H)(p:∀ro F n env f a b s,c[id]?=δ (.lp ro F n env f a b s)->∃g o,i=.lp g F n env f a b o):LpS (H.set id i) c:=by intro j k ro F n env f a b s m;rw[Xz]at k;by_cases d:j=id;grind;rw[DW λe=>d e.symm];exact h j k _ _ _ _ _ _ _ _ m
variable {j:List Ob}
theorem qu(id:Nat){f:Ap}{e:Dv}(c:A[id]?=δ e)(a:(e.ro||e.isLp)=η)(l:θ A≤θ d)(lp:LpS A d)
  (hr:HR d A (id::LH j)) (ok:No J A) (q0:No J (A.set id .dead)->LpS (A.set id .dead) d->HR d (A.set id .dead) (LH j)->IS g d j J (A.set id .dead) M f):IS g d (.x id::j) J A M f:=by
 have b:e.isLp=η:=q!
 have st:CD A (A.set id .dead):=CD.set c q! λ_ _ _ _ _ e=>by cases e
 have r:id<θ d:=q!
 have q:=q0 ⟨st.env ok.env,heap_set st ok.heap trivial⟩ (lp.set (G7 c) λ_ _ _ _ _ _ _ _ i=>by have⟨k,m,q⟩:=lp id (G7 c) _ _ _ _ _ _ _ _ i;rw[c]at q;injection q with q;rw[q]at b;cases b) (HR.set hr (Ar r) (.inl rfl));refine⟨q.get,q.ok,q.env,q.hr,st.trans q.step,by simpa using q.len,λH h=>?_⟩;have:=Pn.1 h;rw[q.same H this.2,DW λe=>this.1 e.symm]
def MO{env1:BZ}{J:Ap}(z:No env1 J):∀{slots:List Ob}{B:List DV}{env:BZ}{H:Ap}{env2:BZ}{E:Ap},YE env1 J slots=δ B→V3 slots B env H=δ (env2,E)→No env H→
  θ H<=θ J->(∀p∈env,∃v,(p.1,v)∈env1/\Wf v.enc p.2.enc)->HR J H (LH slots)->LpS H J->IS env1 J slots env H env2 E
 |[],B,env,H,env2,E,h,k,ok,hl,he,hr,lp=>by simp only[YE,Ao]at h;subst h;simp only[V3,Ao,EX]at k;obtain⟨rfl,rfl⟩:=k;exact⟨λ_ _=>rfl,ok,he,hr,CD.refl _,rfl,λ_ _=>rfl⟩
 |.t tmp ty::r,B,env,H,env2,E,h,k,ok,hl,he,hr,lp=>by
  simp[YE]at h;split at h;rename_i x d I R;cases h;simp[V3]at k;have f:No ((tmp,ty.tv x)::env) H:=⟨λp o=>by rcases Aw.1 o with rfl|o;exact ty.tv_ok x;exact ok.env p o,ok.heap⟩
  have q:=MO z R k f hl (λp o=>by rcases Aw.1 o with rfl|o;refine⟨env1.get tmp,Yu rfl λe=>?_,?_⟩;rw[e]at I;cases ty<;>cases I;simp[ty.tv_enc];exact MS I;exact he p o) hr lp;refine⟨λt G=>?_,q.ok,q.env,q.hr,q.step,q.len,q.same⟩;have:=Pn.1 G;rw[q.get t this.2];simp[BZ.get,beq_false λe=>this.1 e.symm];cases h
 |.g tmp id::r,B,env,H,env2,E,h,k,ok,hl,he,hr,lp=>by
  simp[YE]at h;split at h
  ·rename_i x I;split at h
   ·rename_i D;simp[BW,Vp]at D;have V:x.ok J:=kN z.env tmp x (by rw[I];simp[TV.refs]);obtain⟨b1,t,l,n,ad,rfl,C⟩:=jt V D.1;simp[V3]at k;split at k
    ·rename_i b2 O l2 n2 N h2;have⟨e,L,T⟩:=hr id _ D.2 h2;rw[C]at L;cases L;rcases T with i|⟨_,_,_,_,i,_⟩|⟨_,_,_,_,_,_,_,i,h1⟩|⟨_,_,_,_,_,_,_,_,_,i,_⟩|⟨_,_,_,_,_,i,_⟩;cases i;cases i;rotate_left;cases i;cases i;injection i with e1 Z e3 e4 e5;injection h1 with f1 f2 f3 f4 f5;subst Z e4 f2 f4;have f:No ((tmp,.c (.own id N O n2))::env) H:=⟨λp o=>by rcases Aw.1 o with rfl|o;exact Ji (V7 h2);exact ok.env p o,ok.heap⟩
     have q:=MO z h k f hl (λp o=>by rcases Aw.1 o with rfl|o;exact⟨_,Yu I (λe=>by cases e),Wf.refl _⟩;exact he p o) hr lp;refine⟨λt G=>?_,q.ok,q.env,q.hr,q.step,q.len,q.same⟩;have:=Pn.1 G;rw[q.get t this.2];simp[BZ.get,beq_false λe=>this.1 e.symm]
    cases k
   cases h
  cases h
 |.p id Y::r,B,env,H,env2,E,h,k,ok,hl,he,hr,lp=>by
  simp[YE]at h;split at h;rename_i b cs C;split at h;rename_i a b1 ha D;cases h;simp[V3]at k;split at k;rename_i ap i;split at k;rename_i P Q hi;have ao:lok J cs:=by simpa only[Dv.ok]using z.heap _ (BN C)
  have⟨rfl,q2,q3⟩:=nB hr ao ha hi;have st:CD H (H.set id (.live η P)):=CD.set i rfl λ_ _ _ _ _ e=>by cases e
  have A:HR J (H.set id (.live η P)) (LH r):=HR.set hr C (.inr (.inl ⟨_,_,_,_,rfl,rfl,q2⟩));have f:No env (H.set id (.live η P)):=⟨st.env ok.env,heap_set st ok.heap (by simpa only[Dv.ok]using st.lok q3)⟩
  have q:=MO z D k f (by simpa using hl) he A (lp.set (G7 i) λ_ _ _ _ _ _ _ _ K=>by rw[C]at K;cases K);refine⟨q.get,q.ok,q.env,q.hr,st.trans q.step,by simpa using q.len,λj S=>?_⟩;have:=Pn.1 S;rw[q.same j this.2,DW λe=>this.1 e.symm];cases k;cases k;cases h;cases h
 |.u id ty::r,B,env,H,env2,E,h,k,ok,hl,he,hr,lp=>by
  simp[YE]at h;split at h;rename_i b t l n ad C;split at h;rename_i Q D R;cases h;simp[V3]at k;split at k;rename_i t' l0 n0 M i;split at k;rename_i G;have e:=Ty.beq_eq _ _ G;subst e;have hn:n=θ l:=by simpa only[Dv.ok]using z.heap _ (BN C)
  have st:CD H (H.set id (.buf η t' l (θ l) (M+1))):=CD.set i rfl λro O l2 n2 v2 e=>by cases e;exact⟨_,_,_,_,rfl,.inl o!⟩
  have A:HR J (H.set id (.buf η t' l (θ l) (M+1))) (LH r):=HR.set hr C (.inr (.inr (.inl ⟨_,_,_,_,_,_,_,rfl,by rw[hn]⟩)));have f:No env (H.set id (.buf η t' l (θ l) (M+1))):=⟨st.env ok.env,heap_set st ok.heap rfl⟩
  have q:=MO z R k f (by simpa using hl) he A (lp.set (G7 i) λ_ _ _ _ _ _ _ _ K=>by rw[C]at K;cases K);refine⟨q.get,q.ok,q.env,q.hr,st.trans q.step,by simpa using q.len,λj S=>?_⟩;have:=Pn.1 S;rw[q.same j this.2,DW λe=>this.1 e.symm];cases k;cases k;cases h;cases h
 |.x id::r,B,env,H,env2,E,h,k,ok,hl,he,hr,lp=>by
  simp[YE]at h;cases B with
  |nil=>simp[V3]at k;split at k;rename_i e i;split at k;rename_i U;exact qu id i U hl lp hr ok λf X A=>MO z h k f (by simpa using hl) he A X;cases k;cases k
  |cons d B=>simp[V3]at k;split at k;rename_i e i;split at k;rename_i U;exact qu id i U hl lp hr ok λf X A=>MO z h k f (by simpa using hl) he A X;cases k;cases k
 |.k tmp w::r,B,env,H,env2,E,h,k,ok,hl,he,hr,lp=>by
  have k':V3 r B ((tmp,.c (.raw w))::env) H=δ (env2,E):=by cases B<;>simpa only[V3]using k
  simp[YE]at h;split at h;rename_i w' I;split at h;rename_i D;have e:=AGZ D;subst e;have f:No ((tmp,.c (.raw w))::env) H:=⟨λp o=>by rcases Aw.1 o with rfl|o;exact Ji trivial;exact ok.env p o,ok.heap⟩
  have hw:w≠.any:=by rintro rfl;cases D
  have q:=MO z h k' f hl (λp o=>by rcases Aw.1 o with rfl|o;refine⟨_,Yu I (λe=>?_),Wf.refl _⟩;injection e with e;injection e with e;exact hw e;exact he p o) hr lp;refine⟨λt G=>?_,q.ok,q.env,q.hr,q.step,q.len,q.same⟩;have:=Pn.1 G;rw[q.get t this.2];simp[BZ.get,beq_false λe=>this.1 e.symm];cases h;cases h
 |.y id s::r,B,env,H,env2,E,h,k,ok,hl,he,hr,lp=>by
  simp[YE]at h;split at h;rename_i ax F1 n1 e1 p1 a1 b1 s1 C;split at h;rename_i D;have e0:=LS.beq_eq D;subst e0;obtain⟨F,n,e,Y,a,b,s0,i,k'⟩:∃F n e Y a b s0,H[id]?=δ (.lp η F n e Y a b s0)/\V3 r B env (H.set id (.lp η F n e Y a b s))=δ (env2,E):=by cases B<;>simp[V3]at k<;>split at k<;>first|exact⟨_,_,_,_,_,_,_,‹_›,k⟩|cases k
  have⟨a0,s2,q⟩:=lp id (G7 i) _ _ _ _ _ _ _ _ C;rw[i]at q;injection q with q;injection q with _ q2 q3 q4 q5 q6 q7 _;subst q2 q3 q4 q5 q6 q7;have st:CD H (H.set id (.lp η F n e Y a b s)):=CD.set i rfl (λ_ _ _ _ _ e=>by cases e) λ_ _ _ _ _ _ _ _ e=>by cases e;exact⟨_,_,rfl⟩
  have A:HR J (H.set id (.lp η F n e Y a b s)) (LH r):=HR.set hr C (.inr (.inr (.inr (.inl ⟨_,_,_,_,_,_,_,_,_,rfl,rfl⟩))));have f:No env (H.set id (.lp η F n e Y a b s)):=⟨st.env ok.env,heap_set st ok.heap (by have:=ok.heap _ (BN i);simpa only[Dv.ok]using this)⟩
  have q:=MO z h k' f (by simpa using hl) he A (lp.set (G7 i) λ_ _ _ _ _ _ _ _ K=>by rw[C]at K;injection K with K;cases K;exact⟨_,_,rfl⟩);refine⟨q.get,q.ok,q.env,q.hr,st.trans q.step,by simpa using q.len,λj S=>?_⟩;have:=Pn.1 S;rw[q.same j this.2,DW λe=>this.1 e.symm];cases h;cases h
 |.m id kk ty::r,B,env,H,env2,E,h,k,ok,hl,he,hr,lp=>by
  simp[YE]at h;split at h;rename_i b k1 t1 es C;split at h;rename_i Q D R;cases h;simp[V3]at k;split at k;rename_i k2 O ar i;split at k;rename_i G;simp[BW,K!]at G;have⟨rfl,G⟩:=G;have e:=Ty.beq_eq _ _ G;subst e;have st:CD H (H.set id (.mp η k2 O es)):=CD.set i rfl λ_ _ _ _ _ e=>by cases e
  have A:HR J (H.set id (.mp η k2 O es)) (LH r):=HR.set hr C (.inr (.inr (.inr (.inr ⟨_,_,_,_,_,rfl,rfl⟩))));have f:No env (H.set id (.mp η k2 O es)):=⟨st.env ok.env,heap_set st ok.heap trivial⟩
  have q:=MO z R k f (by simpa using hl) he A (lp.set (G7 i) λ_ _ _ _ _ _ _ _ K=>by rw[C]at K;cases K);refine⟨q.get,q.ok,q.env,q.hr,st.trans q.step,by simpa using q.len,λj S=>?_⟩;have:=Pn.1 S;rw[q.same j this.2,DW λe=>this.1 e.symm];cases k;cases k;cases h;cases h
 |.w tmp id::r,B,env,H,env2,E,h,k,ok,hl,he,hr,lp=>by
  simp[YE]at h;split at h
  ·rename_i W al te n1 lo m I;split at h
   ·rename_i Q D R;cases h;simp[BW,Vp]at D;have V:(Bv.own W al te n1).ok J:=kN z.env tmp _ (by rw[I];simp[TV.refs]);obtain⟨b1,t,l,n,ad,e0,C⟩:=jt V D.1;injection e0 with e1 Z e3 e4;subst e1 Z e3 e4;simp[V3]at k;split at k
    ·rename_i b2 O l2 n2 N h2;have⟨e,L,T⟩:=hr W _ D.2 h2;rw[C]at L;cases L;rcases T with i|⟨_,_,_,_,i,_⟩|⟨_,_,_,_,_,_,_,i,h1⟩|⟨_,_,_,_,_,_,_,_,_,i,_⟩|⟨_,_,_,_,_,i,_⟩;cases i;cases i;rotate_left;cases i;cases i;injection i with e1 Z e3 e4 e5;injection h1 with f1 f2 f3 f4 f5;subst Z e4 f2 f4;have f:No ((tmp,.vw W N O n2 lo m)::env) H:=⟨λp o=>by rcases Aw.1 o with rfl|o;intro x I;simp only[TV.refs,BA]at I;subst I;exact V7 h2;exact ok.env p o,ok.heap⟩
     have q:=MO z R k f hl (λp o=>by rcases Aw.1 o with rfl|o;exact⟨_,Yu I (λe=>by cases e),Wf.refl _⟩;exact he p o) hr lp;refine⟨λt G=>?_,q.ok,q.env,q.hr,q.step,q.len,q.same⟩;have:=Pn.1 G;rw[q.get t this.2];simp[BZ.get,beq_false λe=>this.1 e.symm]
    cases k
   cases h
  cases h
def aR(n:Nat):List Bv->Bool
 |[]=>ζ
 |.own id _ _ _::r=>Nat.blt id n&&aR n r
 |.raw v::r=>v.idsAll (λid=>Nat.blt id n)&&aR n r
 |_::r=>aR n r
mutual
def vT(n:Nat):TV->Bool
 |.c x=>aR n [x]
 |.g cs=>aR n cs
 |.aptr id .. =>Nat.blt id n
 |.bptr id .. =>Nat.blt id n
 |.vw id .. =>Nat.blt id n
 |.vptr cs post=>aR n cs&&Ac.idsAllL (λid=>Nat.blt id n) post
 |.tup vs=>wo n vs
def wo(n:Nat):List TV->Bool
 |[]=>ζ
 |v::r=>vT n v&&wo n r
end
def ut(n:Nat):BZ->Bool
 |[]=>ζ
 |(_,v)::r=>vT n v&&ut n r
def ly(n:Nat):Ap->Bool
 |[]=>ζ
 |.live _ cs::r=>aR n cs&&ly n r
 |.lp _ _ _ env _ _ _ _::r=>ut n env&&ly n r
 |_::r=>ly n r
def lF(h:Nat.blt q N=ζ):τ (q<N)=ζ:=t!
def kY(h:Pure s)(n:Nat):(s.idsAll λid=>decide (id<n))=ζ:=Q1 (λ_ h=>by cases h) s h
def yo:∀{x:Bv},aR N [x]=ζ->(∀v∈x.enc,(v.idsAll λid=>decide (id<N))=ζ)/\(x.one.idsAll λid=>decide (id<N))=ζ
 |.bl _,_=>⟨λv b=>by simp only[Bv.enc,BA]at b;subst b;rfl,rfl⟩
 |.it _ _,_=>⟨λv b=>by simp only[Bv.enc,BA]at b;subst b;rfl,rfl⟩
 |.st _,_=>⟨λv b=>by simp only[Bv.enc,BA]at b;subst b;rfl,rfl⟩
 |.ls t l,_=>⟨λv b=>by simp only[Bv.enc,BA]at b;subst b;exact kY ((Ty.list t).enc_pure l) N,kY ((Ty.list t).enc_pure l) N⟩
 |.ar m t a,_=>by have h:=kY ((Ty.arr m t).enc_pure a) N;refine⟨λv b=>?_,h⟩;exact((Dt _ _).1 h) v b
 |.own id ver t m,h=>by simp only[aR,Q3]at h;have:=lF h;exact⟨λv b=>by simp only[Bv.enc,BA]at b;subst b;exact this,this⟩
 |.nil,_=>⟨λv b=>by simp only[Bv.enc,BA]at b;subst b;rfl,rfl⟩
 |.raw v,h=>by simp only[aR,Q3]at h;have:=Q1 (λ_ h=>lF h) v h;exact⟨λu c=>by simp only[Bv.enc,BA]at c;subst c;exact this,this⟩
def vS{r:List Bv}(h:aR N (E::r)=ζ):aR N [E]=ζ/\aR N r=ζ:=by cases E<;>simp only[aR,Q3,BW]at h⊢ <;>first|exact h|exact⟨O!,h⟩
def lJ{n:Nat}:∀{b:List Bv},aR n b=ζ->Ac.idsAllL (λid=>decide (id<n)) (lvs b)=ζ
 |[],_=>rfl
 |x::r,h=>by obtain⟨c,d⟩:=vS h;rw[Hn,Dt];intro v a;rcases Ak.1 a with a|a;exact(yo c).1 v a;exact((Dt _ _).1 (lJ d)) v a
mutual
theorem fq{n:Nat}:∀{v:TV},vT n v=ζ->(v.enc.idsAll λid=>decide (id<n))=ζ
 |.c x,h=>(yo h).2
 |.g cs,h=>lJ h
 |.aptr ..,h=>lF h
 |.bptr ..,h=>lF h
 |.vw id ver t k lo m,h=>by have b:=lF h;show((vwE id k t.sz lo m).idsAll λid=>decide (id<n))=ζ;unfold vwE;split;split;exact b;rfl;exact b
 |.vptr cs post,h=>by simp only[vT,BW]at h;simp only[TV.enc,Ac.idsAll];rw[Dt];intro v a;rcases Ak.1 a with a|a;exact((Dt _ _).1 (lJ h.1)) v a;exact((Dt _ _).1 (JT (λ_ h=>lF h) post h.2)) v a
 |.tup vs,h=>by simp only[vT]at h;simp only[TV.enc,Ac.idsAll];exact qd h
theorem qd{n:Nat}:∀{a:List TV},wo n a=ζ->Ac.idsAllL (λid=>decide (id<n)) (TV.encL a)=ζ
 |[],_=>rfl
 |v::r,h=>by simp only[wo,BW]at h;simp only[TV.encL,Ac.idsAllL,BW];exact⟨fq h.1,qd h.2⟩
end
def lH{n:Nat}:∀{env:BZ},ut n env=ζ->∀p∈env,vT n p.2=ζ
 |[],_,p,a=>by cases a
 |(t,v)::r,h,p,a=>by simp only[ut,BW]at h;rcases Aw.1 a with rfl|a;exact h.1;exact lH h.2 p a
def lI{n:Nat}:∀{H:Ap},ly n H=ζ->∀e∈BJ H,(e.idsAll λid=>decide (id<n))=ζ
 |x::r,h,e,c=>by
  have g:ly n r=ζ:=by cases x<;>simp only[ly,BW]at h<;>first|exact h|exact h.2
  simp only[BJ,Bf,Aw]at c;rcases c with rfl|c;cases x with
  |dead=>rfl
  |live b o=>simp only[ly,BW]at h;exact lJ h.1
  |buf b t l m k=>simp only[Dv.enc,Fk.idsAll];rw[Dt];intro v d;obtain⟨u,j,d⟩:=Gl.1 d;obtain⟨y,_,rfl⟩:=Bs.1 j;have h:=kY (t.E.pure y) n;cases q:t.E.f y<;>simp_all[Ac.idsAll,Dt,Ac.cells]
  |mp=>rfl
  |lp ro F m env w a b s=>simp only[ly,BW]at h;simp only[Dv.enc,Fk.idsAll,Bz,List.all_map,GA];exact λp i=>fq (lH h.1 p i)
  exact lI g e c
def FU.cut{N n0:Nat}{env:Env}{H:Au}(hn:n0≤θ H)(d:∀t v,(t,v)∈env→(v.idsAll λid=>decide (id<n0))=ζ)
  (c:∀e∈H.take n0,(e.idsAll λid=>decide (id<n0))=ζ):FU N n0 env H env (H.take n0):=
 ⟨w!,λX g a w s=>⟨g,⟨s.sim.trunc hn c,λt v m=>⟨(s.env t v m).1,(s.env t v m).2.trunc hn (d t v m)⟩,s.size⟩,λ_ _=>⟨rfl,rfl,rfl⟩,λB b=>gv b⟩⟩
theorem vW{e:Fk}(h:(BJ d)[N]?=δ e):∃x,d[N]?=δ x/\e=x.enc:=by grind[BJ]
theorem HR.rel(o:θ A<=θ d)(hr:HR d A [])(x:Cx):S3 x x (BJ d) (BJ A++(BJ d).drop (θ A)):=by
 refine⟨by simp[BJ];omega,λj w z=>?_⟩;have same:∀{y:Dv},d[j]?=δ y->w=y.enc->w=.dead\/(∃g p c,(BJ d)[j]?=δ (.live g p)/\w=.live g c/\θ c=θ p/\∀(i:Nat)(f:Ac),c[i]?=δ f->∃v,p[i]?=δ v/\Conv x x v f)\/((BJ d)[j]?=δ w/\∀g p,w≠.live g p):=by
  intro y D q;have u:(BJ d)[j]?=δ y.enc:=by grind[BJ]
  subst q;cases y with
  |dead=>exact .inl rfl
  |live b p=>exact .inr (.inl ⟨_,_,_,u,rfl,rfl,λi f h=>⟨f,h,λ_ r=>r⟩⟩)
  |buf b t l m H=>exact .inr (.inl ⟨_,_,_,u,rfl,rfl,λi f h=>⟨f,h,λ_ r=>r⟩⟩)
  |lp=>exact .inr (.inr ⟨u,λ_ _ h=>by cases h⟩)
  |mp=>exact .inr (.inr ⟨u,λ_ _ h=>by cases h⟩)
 rcases Ax j (θ A) with h|h;rw[CT (by rw[CW];exact h)]at z;obtain⟨y,D,rfl⟩:=vW z;obtain⟨e,q,B⟩:=hr j y rfl D;rcases B with rfl|⟨b,p,C,c,rfl,rfl,o⟩|⟨b,t,l,m,v,C,f,rfl,rfl⟩|⟨ro,G,F,n,env,J,a,b,s,rfl,rfl⟩|⟨b,C,k,t,I,rfl,rfl⟩;exact .inl rfl;refine .inr (.inl ⟨0,lvs p,lvs c,by simp only[BJ,CL,q,Bt,Dv.enc],rfl,o.1,λi f E=>?_⟩);obtain⟨v,q1,q2⟩:=o.2 i f E;exact⟨v,q1,q2 x⟩;exact same q rfl;exact same q rfl;exact same q rfl;rw[Ci (by rw[CW];exact h),Km]at z;rw[CW]at z;grind[vW]
def IS.weak{N:Nat}{b:Ap}{H:Ap}(s:IS g b j J H M d)(k:θ H≤θ b)(n:ut (θ H) M=ζ)(o:ly (θ H) d=ζ):
  FU N (θ H) (Bz g) (BJ b) (Bz M) (BJ d):=by
 have a:θ d<=θ b:=by rw[s.len];exact k
 have x:FU N (BJ b).length (Bz g) (BJ b) (Bz M) (BJ d++(BJ b).drop (θ d)):=by refine WA (by simp[BJ];omega) λX h w _=>?_;have q:=(HR.rel a s.hr (cx X h (BJ b) w)).onto;refine⟨q,λt z m=>?_⟩;obtain⟨p,B,e⟩:=Bs.1 m;injection e with A f;subst A f;obtain⟨v,u,i⟩:=s.env p B;exact⟨v.enc,Bs.2 ⟨_,u,rfl⟩,λc r=>(i _ c r).later q.later⟩
 have l:(BJ d++(BJ b).drop (θ d)).take (θ H)=BJ d:=by rw[<-s.len,<-CW d,Gn];rfl
 have y:FU N (θ H) (Bz M) (BJ d++(BJ b).drop (θ d)) (Bz M) (BJ d):=by have:=FU.cut (N:=N) (n0:=θ H) (env:=Bz M) (H:=BJ d++(BJ b).drop (θ d)) (by simp[BJ,s.len]) (λt v m=>by obtain⟨p,B,e⟩:=Bs.1 m;injection e with A f;subst A f;exact fq (lH n p B)) (by rw[l];exact lI o);rwa [l]at this
 exact(x.of_le (by rw[CW];exact k)).trans y
def vY:Exit->Exit->Bool
 |.normal,.normal=>ζ
 |.exit a,.exit b=>ξ a b
 |.ret,.ret=>ζ
 |_,_=>η
def tQ{b:Exit}(h:vY K b=ζ):K=b:=by cases K<;>cases b<;>simp only[vY]at h<;>first|rfl|cases h|exact E! _ (DA h)
structure Hint where
 kind:Nat
 key:Nat
 virt:List (Nat×Ty)
 virtC:List (Nat×Nat×Ty)
 kill:List Nat
 drop:List Nat
 slots:List Ob
 exits:List (Exit×List Ob)
def vC(n id:Nat):Nat:=match Nat.ble 100 id with|true=>id+n-150|false=>id
def Part.rel(n:Nat):Part->Part
 |.o id=>.o (vC n id)
 |p=>p
def Ob.rel(n:Nat):Ob->Ob
 |.g tmp id=>.g tmp (vC n id)
 |.p id ps=>.p (vC n id) (ps.map (Part.rel n))
 |.u id ty=>.u (vC n id) ty
 |.x id=>.x (vC n id)
 |.y id st=>.y (vC n id) st
 |.m id kk ty=>.m (vC n id) kk ty
 |.w tmp id=>.w tmp (vC n id)
 |z=>z
def Hint.rel(n:Nat)(h:Hint):Hint:=⟨h.kind,h.key,h.virt,h.virtC.map λp=>(vC n p.1,p.2),h.kill.map (vC n),h.drop,h.slots.map (Ob.rel n),h.exits.map λp=>(p.1,p.2.map (Ob.rel n))⟩
def Hint.tmps(h:Hint):List Nat:=h.drop++h.virt.map (·.1)++Vi h.slots++h.exits.flatMap λp=>Vi p.2
def wT(n:Nat):∀l:List Ob,Vi (l.map (Ob.rel n))=Vi l
 |[]=>rfl
 |s::r=>by cases s<;>simp[Vi,Ob.rel,wT n r]
def TG(n:Nat)(h:Hint):(h.rel n).tmps=h.tmps:=by simp[Hint.tmps,Hint.rel,wT,List.flatMap_map]
def mO(kind key:Nat):List Hint->Option Hint
 |[]=>ε
 |h::r=>match ξ kind h.kind&&ξ key h.key with|true=>δ h|false=>mO kind key r
def yX:Code->Option Nat
 |.region id _ _=>δ id
 |.seq a b=>match yX a with|some x=>δ x|none=>yX b
 |.cond _ a b=>match yX a with|some x=>δ x|none=>yX b
 |.block _ b=>yX b
 |.loop b=>yX b
 |_=>ε
def tk:Code->Bool
 |.seq a _=>tk a
 |.block _ b=>tk b
 |.loop _=>ζ
 |_=>η
def AI3(b:Code)(r:Nat)(hs:List Hint):Option Hint:=
 match tk b with
 |true=>(match mO 5 r hs with|some h=>δ h|none=>mO 0 r hs)
 |false=>mO 0 r hs
def hintOf(hs:List Hint):Code->Option Hint
 |.loop b=>match yX b with|some r=>(match mO 8 r hs with|some h=>δ h|none=>AI3 b r hs)|none=>ε
 |.block id _=>mO 1 id hs
 |.cond _ a b=>match yX (.seq a b)with|some r=>mO 2 r hs|none=>ε
 |.region id _ _=>mO 6 id hs
 |_=>ε
def qq(hs:List Hint)(c:Code):List Nat:=
 match hintOf hs c with
 |some h=>h.tmps
 |none=>[]
def sG(hs:List Hint):Code->Code->Option Hint
 |.region id _ _,.cond _ _ _=>mO 4 id hs
 |_,_=>ε
def uf(hs:List Hint)(a b:Code):List Nat:=
 match sG hs a b with
 |some h=>h.tmps
 |none=>[]
def Oo(hs:List Hint):Code->List Nat
 |.region id ops d=>oD ops.toList++qq hs (.region id ops d)
 |.seq a b=>(Oo hs a++Oo hs b)++uf hs a b
 |.cond c a b=>Oo hs a++Oo hs b++qq hs (.cond c a b)
 |.block id b=>Oo hs b++qq hs (.block id b)
 |.loop b=>Oo hs b++qq hs (.loop b)
 |_=>[]
def xz:TV->Bool
 |.c (.raw .any)=>ζ
 |_=>η
def ADR(h:xz x=η):x≠VD:=by rintro rfl;cases h
def w8(H:Ap)(id:Nat):Bool:=match H[id]? with|some (.buf η _ _ _ _)=>ζ|_=>η
def iL(A S:List Nat)(H:Ap)(t:Nat)(v:TV):Bool:=
 match JF t A with
 |true=>η
 |false=>match xz v with
  |true=>η
  |false=>(LF v.refs).all λid=>!(JF id S&&w8 H id)
def Qa(A S:List Nat)(H:Ap):BZ->BZ
 |[]=>[]
 |(t,v)::r=>match iL A S H t v with|true=>(t,v)::Qa A S H r|false=>Qa A S H r
def qG:BZ->Bool
 |[]=>ζ
 |(t,_)::r=>!JF t (r.map (·.1))&&qG r
theorem V4(h:N∉b):JF N b=η:=by
 cases a:JF N b with
 |false=>rfl
 |true=>induction b<;>grind[JF,Nat.eq_of_beq_eq_true]
def Zp:∀{env:BZ},qG env=ζ->(env.map (·.1)).Nodup
 |[],_=>QW
 |(t,v)::r,h=>by simp only[qG,BW,Vp]at h;exact GI.2 ⟨UE h.1,Zp h.2⟩
theorem lD{A S:List Nat}{H:Ap}:∀{env:BZ},(env.map (·.1)).Nodup->∀t,iL A S H t (env.get t)=ζ->(Qa A S H env).get t=env.get t
 |[],_,t,_=>rfl
 |(u,v)::r,nd,t,h=>by have a:=GI.1 nd;simp only[BZ.get]at h⊢;by_cases b:u=t;grind[Nat.beq_refl,Qa,BZ.get];rw[beq_false b]at h⊢;have c:=lD a.2 t h;grind[Qa,BZ.get,beq_false]
theorem Q7{A S:List Nat}{H:Ap}:∀{env:BZ},(env.map (·.1)).Nodup->∀p∈Qa A S H env,env.get p.1=p.2/\iL A S H p.1 p.2=ζ/\p∈env
 |(u,v)::r,nd,p,h=>by
  have a:=GI.1 nd;have tail:p∈Qa A S H r->BZ.get ((u,v)::r) p.1=p.2/\iL A S H p.1 p.2=ζ/\p∈(u,v)::r:=λh=>by obtain⟨q1,q2,q3⟩:=Q7 a.2 p h;grind[BZ.get,beq_false]
  grind[Qa,BZ.get,Nat.beq_refl]
theorem AGG(H:Ap):LpS (KM b 0 H) H:=by intro id c ro F n env d a S s h;rw[JD,h];split;grind;exact⟨_,_,rfl⟩
theorem AEA(H:Ap):LpS H (KM b 0 H):=by
 intro id d ro F n env f a S s h;rw[JD]at h;cases c:H[id]? with
 |none=>grind
 |some e=>
  rw[c]at h;simp at h;split at h;grind;cases e with
  |lp=>injection h with _ q2 q3 q4 q5 q6 q7 _;grind
  |_=>cases h
def nO{id a n:Nat}{t:Ty}:∀{b:List Bv},Bv.own id a t n∈b->id∈LF b
 |x::r,h=>by rcases Aw.1 h with rfl|h;exact I3;have:=nO h;cases x<;>simp only[LF]<;>first|exact this|exact Ce _ this
def ym(h:iL b v d N x=ζ)(m:x.ok d)(st:CD (KM v 0 d) A):oY A x:=by
 intro id o r n g;unfold iL at h;split at h;cases h;split at h;cases h;have H:=GA.1 h id (nO g);have S:id<θ d:=(m _ g).1;refine st.nb id (by rw[IP];exact S) λq l p i a=>?_;rw[JD,DT]at a;cases c:d[id]? with
 |none=>rw[c]at a;cases a
 |some e=>rw[c]at a;simp only[Bt,Ao]at a;split at a;rename_i k;subst a;simp only[k,w8,c]at H;cases H;cases e<;>simp only[Dv.lock]at a<;>first|cases a|(injection a with j;cases j)
theorem AD8(g:JF N b=η)(i:xz x=η)(j:oY d x):iL b v d N x=ζ:=by
 unfold iL;rw[g,i];refine GA.2 λid e=>?_;have:∃S f n,Bv.own id S f n∈x.refs:=by
  generalize x.refs=cs at e;induction cs with
  |nil=>cases e
  |cons A r m=>
   cases A with
   |own l S f n=>grind[LF]
   |_=>obtain⟨a,H,c,h⟩:=m e;grind
 obtain⟨S,f,n,k⟩:=this;have:=j id S f n k;grind[w8]
def AH8:List Part->List Nat
 |[]=>[]
 |.o id::r=>id::AH8 r
 |_::r=>AH8 r
def mU(env:BZ)(H:Ap):List Ob->List Nat
 |[]=>[]
 |.t tmp _::r=>LF (env.get tmp).refs++mU env H r
 |.p id ps::r=>(match H[id]? with|some (.live _ cs)=>(LF cs).filter λi=>!JF i (AH8 ps)|_=>[])++mU env H r
 |_::r=>mU env H r
def yJ(sl:List Ob)(env:BZ)(H:Ap):Option (DL (dv sl)):=
 match IT (mU env H sl) env H with
 |(e,h)=>match YE e h sl with|some ds=>AAP (dv sl) ds|none=>ε
def xM:List (Exit×List Ob)->Type
 |[]=>Unit
 |[p]=>DL (dv p.2)
 |p::q::r=>DL (dv p.2)⊕xM (q::r)
def AAV:(xs:List (Exit×List Ob))->Exit->BZ->Ap->Option (xM xs)
 |[],_,_,_=>ε
 |[p],x,env,H=>match vY p.1 x with|true=>yJ p.2 env H|false=>ε
 |p::q::r,x,env,H=>
  match vY p.1 x with
  |true=>(match yJ p.2 env H with|some s=>δ (.inl s)|none=>ε)
  |false=>(match AAV (q::r) x env H with|some s=>δ (.inr s)|none=>ε)
def AIF{R:Type}:(xs:List (Exit×List Ob))->xM xs->(Exit->List Ob->List DV->Option R)->Option R
 |[],_,_=>ε
 |[p],s,k=>k p.1 p.2 (dvs (dv p.2) s)
 |p::q::r,o,k=>ν (λs=>k p.1 p.2 (dvs (dv p.2) s)) (λs=>AIF (q::r) s k) o
def xN:(xs:List (Exit×List Ob))->xM xs->Exit×List Ob×List DV
 |[],_=>(.normal,[],[])
 |[p],s=>(p.1,p.2,dvs (dv p.2) s)
 |p::q::r,.inl s=>(p.1,p.2,dvs (dv p.2) s)
 |p::q::r,.inr s=>xN (q::r) s
def wF{R:Type}:∀{xs:List (Exit×List Ob)}{o:xM xs}{k:Exit->List Ob->List DV->Option R}{r:R},AIF xs o k=δ r->k (xN xs o).1 (xN xs o).2.1 (xN xs o).2.2=δ r
 |[],_,_,_,h=>by cases h
 |[p],s,k,r,h=>h
 |p::q::t,.inl s,k,r,h=>h
 |p::q::t,.inr s,k,r,h=>wF (xs:=q::t) h
def AFL(sl:List Ob)(ds:List DV)(env:BZ)(H:Ap):Prop:=YE (IT (mU env H sl) env H).1 (IT (mU env H sl) env H).2 sl=δ ds
theorem nA{s:DL (dv j)}(h:yJ j g d=δ s):AFL j (dvs (dv j) s) g d:=by grind[yJ,AFL,qF]
def wG:∀{xs:List (Exit×List Ob)}{x:Exit}{env:BZ}{H:Ap}{o:xM xs},AAV xs x env H=δ o→
  (xN xs o).1=x/\AFL (xN xs o).2.1 (xN xs o).2.2 env H/\∃p∈xs,(xN xs o).2.1=p.2
 |[p],x,env,H,o,h=>by simp only[AAV]at h;split at h;rename_i a;exact⟨tQ a,nA h,p,k!,rfl⟩;cases h
 |p::q::r,x,env,H,o,h=>by simp only[AAV]at h;split at h;rename_i a;split at h;rename_i s b;injection h with h;subst h;exact⟨tQ a,nA b,p,k!,rfl⟩;cases h;split at h;rename_i s b;injection h with h;subst h;obtain⟨q1,q2,c,q3,q4⟩:=wG (xs:=q::r) b;exact⟨q1,q2,c,Ce _ q3,q4⟩;cases h
structure ze(A S:List Nat)(env0:BZ)(H0:Ap)(e2:BZ)(h2:Ap):Prop where
 ok:No e2 h2
 step:CD (KM S 0 H0) h2
 len:θ h2=θ H0
 same:∀j,JF j S=η->h2[j]?=(KM S 0 H0)[j]?
 get:∀p∈Qa A S H0 env0,e2.get p.1=p.2
theorem AA9{A B S:List Nat}{env0:BZ}{a:Ap}{L:BZ}{s:Ap}(m:No env0 a)(nd:(env0.map (·.1)).Nodup)(g:ze A S env0 a L s)
  {env1:BZ}{d:Ap} (G:No env1 d) (st:EH B L s env1 d) (U:∀t,t∈B->t∈A) {o:List Ob}{K:List DV} (W:AFL o K env1 d)
  {Hx:Ap} (J:∀e∈Hx,e.ok Hx) (y:Hx.length=a.length) (F:LpS Hx (KM S 0 a)) (rx:∀id c t n,Sp a id c t n->Sp Hx id c t n) (E:∀(j:Nat)(i:Dv),JF j (LH o)=false->Hx[j]?=some i->i=.dead\/∃e,JF j S=false/\(KM S 0 a)[j]?=some e/\e.ro=true/\AHb e i)
  {r:BZ}{f:Ap} (Y:V3 o K (Qa A S a env0) Hx=some (r,f)) (ce:ut a.length r=true) (ch:ly a.length f=true) (N:Nat):
  FU N a.length (Bz env1) (BJ d) (Bz r) (BJ f)/\∃P V,IS P V o (Qa A S a env0) Hx r f:=by
 obtain⟨I,z,wf⟩:=RF (mU env1 d o) G;have u:a.length<=d.length:=by rw[<-g.len];exact st.step.len
 have b:=EH.trans g.ok.env st z;have H:∀p∈Qa A S a env0,p.2.ok Hx:=λp v x E=>by
  have:=m.env p (Q7 nd p v).2.2 x E;cases x with
  |own id c t n=>exact rx _ _ _ _ this
  |_=>trivial
 have q:=MO I W Y ⟨H,J⟩ (by rw[y];exact Ct u z.step.len) (λp v=>by
  obtain⟨b1,M,O⟩:=Q7 nd p v;have hk:=ym M (m.env p O) g.step;have T:JF p.1 A=false:=by grind[iL]
  have k:xz p.2=false:=by grind[iL]
  have X:=g.get p v;have:=b.same p.1 (λh=>by rw[DN]at h;exact UE T (U _ h)) q!;rw[X]at this;exact⟨p.2,Yu this (ADR k),Wf.refl _⟩) (λj i Z C=>by
   have D:j<a.length:=q!
   rcases E j i Z C with rfl|⟨e,Q,s,f,R⟩;exact⟨_,Ar (DB D (Ct u z.step.len)),.inl rfl⟩;exact⟨e,b.step.ro j e (by rw[g.same j Q];exact s) f,R⟩) (λid l _ _ _ _ _ _ _ _ hq=>by
  obtain⟨ad,s1,q1⟩:=(g.step.trans b.step).lp id (by rw[IP,<-y];exact l) _ _ _ _ _ _ _ _ hq;exact F id l _ _ _ _ _ _ _ _ q1)
 have w:=q.weak (N:=N) (by rw[y];exact Ct u z.step.len) q! q!;rw[y]at w;exact⟨((wf N).of_le (by rw[CW];exact u)).trans w,_,_,q⟩
open Classical in
noncomputable def uW{α:Type}(g:List α->Unit->Option (List α))(l:List α):Option (List α):=if∀m,l.Perm m->g m ()=g l ()then g l ()else ε
theorem AAa{g:List R->Unit->Option (List R)}{l s:List R}(h:uW g l=δ s):∀m,l.Perm m->g m ()=δ s:=by grind[uW]
def xP:List Oper->Option (Nat×Nat×Nat×TypeId×TypeId)
 |[⟨δ a1,.load ty1 (.tmp c0),_,_,_,ε⟩,⟨δ a2,.range ty2 (.tmp b1),_,_,_,ε⟩]=>match ξ a1 b1 with|true=>δ (c0,a1,a2,ty1,ty2)|false=>ε
 |_=>ε
def uR:List Oper->Option (Nat×Nat×Nat)
 |[⟨δ a3,.next (.tmp a2) η,_,_,_,ε⟩,⟨δ a4,.extract (.tmp b3) 0,_,_,_,ε⟩]=>match ξ a3 b3 with|true=>δ (a2,a3,a4)|false=>ε
 |_=>ε
def uS:List Oper->Option (Nat×Nat×Nat×Nat×TypeId×TypeId)
 |[⟨δ a5,.entry (.tmp a2),_,_,_,ε⟩,⟨δ a6,.extract (.tmp b5) 1,_,_,_,ε⟩,⟨δ a7,.alloc te1,_,_,_,ε⟩,⟨ε,.store te2 (.tmp b7) (.tmp b6),_,_,_,ε⟩]=>
  match ξ a5 b5&&(ξ a6 b6&&ξ a7 b7)with|true=>δ (a2,a5,a6,a7,te1,te2)|false=>ε
 |_=>ε
def uT:List Oper->Option (Nat×Nat×Nat×Nat×Nat×Nat×TypeId×TypeId×TypeId)
 |[⟨δ a8,.move (.tmp out),_,_,_,ε⟩,⟨δ a9,.load te3 (.tmp a7),_,_,_,ε⟩,⟨δ a10,.buildSlice ts1 1 ⟨[(0,.tmp b9)]⟩,_,_,_,ε⟩,
   ⟨δ a11,.call {callee:=.builtin .append,args:=⟨[.tmp b8,.tmp b10]⟩,argTypes:=⟨[ts2,ts3]⟩},_,_,_,ε⟩,⟨δ out2,.assign (.tmp b11),_,_,_,ε⟩]=>
  match ξ a8 b8&&(ξ a9 b9&&(ξ a10 b10&&(ξ a11 b11&&(ξ out out2&&ξ ts2 ts3))))with|true=>δ (out,a7,a8,a9,a10,a11,te3,ts1,ts2)|false=>ε
 |_=>ε
def xQ:List Oper->Option (Nat×Nat×Nat×FuncId×FuncId)
 |[⟨δ a12,.move (.tmp out),_,_,_,ε⟩,⟨δ a13,.call {callee:=.value (.func F),args:=⟨[.tmp b12,.func G]⟩,.. },_,_,_,ε⟩]=>match ξ a12 b12 with|true=>δ (out,a12,a13,F,G)|false=>ε
 |_=>ε
def qz(h:xP f=δ (N,q,y,n,L)):
  ∃e c a l d b,f=[⟨δ q,.load n (.tmp N),e,c,a,ε⟩,⟨δ y,.range L (.tmp q),l,d,b,ε⟩]:=by
 unfold xP at h;split at h;split at h<;>simp_all;cases h
def rA(h:uR f=δ (N,q,y)):
  ∃e c a l d b,f=[⟨δ q,.next (.tmp N) η,e,c,a,ε⟩,⟨δ y,.extract (.tmp q) 0,l,d,b,ε⟩]:=by
 unfold uR at h;split at h;split at h<;>simp_all;cases h
def rC{a7:Nat}(h:uS f=δ (N,q,y,a7,n,L)):
  ∃j e a k l b m g c o i d,f=[⟨δ q,.entry (.tmp N),j,e,a,ε⟩,⟨δ y,.extract (.tmp q) 1,k,l,b,ε⟩,⟨δ a7,.alloc n,m,g,c,ε⟩,⟨ε,.store L (.tmp a7) (.tmp y),o,i,d,ε⟩]:=by
 unfold uS at h;split at h;split at h<;>simp_all;cases h
def rD{a9 a10 a11:Nat}{ts2:TypeId}(h:uT f=δ (N,q,y,a9,a10,a11,n,L,ts2)):
  ∃m r a s g b o i c p j d l k e,f=[⟨δ y,.move (.tmp N),m,r,a,ε⟩,⟨δ a9,.load n (.tmp q),s,g,b,ε⟩,⟨δ a10,.buildSlice L 1 #[(0,.tmp a9)],o,i,c,ε⟩,⟨δ a11,.call {callee:=.builtin .append,args:= #[.tmp y,.tmp a10],argTypes:= #[ts2,ts2]},p,j,d,ε⟩,⟨δ N,.assign (.tmp a11),l,k,e,ε⟩]:=by
 unfold uT at h;split at h;split at h<;>simp_all;cases h
def rE{G:FuncId}(h:xQ f=δ (N,q,y,u,G)):
  ∃l d b a g e c,f=[⟨δ q,.move (.tmp N),l,d,b,ε⟩,⟨δ y,.call {callee:=.value (.func u),args:= #[.tmp q,.func G],argTypes:=a},g,e,c,ε⟩]:=by
 unfold xQ at h;split at h;split at h<;>simp_all;cases h
structure Xv where
 c0:Nat
 a1:Nat
 a2:Nat
 a3:Nat
 a4:Nat
 a5:Nat
 a6:Nat
 a7:Nat
 a8:Nat
 a9:Nat
 a10:Nat
 a11:Nat
 a12:Nat
 a13:Nat
 out:Nat
 ty1:TypeId
 ty2:TypeId
 te1:TypeId
 te2:TypeId
 te3:TypeId
 ts1:TypeId
 ts2:TypeId
 F:FuncId
 G:FuncId
def xJ:List Nat->Bool
 |[]=>ζ
 |t::r=>!JF t r&&xJ r
def qx:∀{l:List Nat},xJ l=ζ->l.Nodup
 |[],_=>QW
 |t::r,h=>by simp only[xJ,BW,Vp]at h;exact GI.2 ⟨UE h.1,qx h.2⟩
def nz:Code->Code->Option Xv
 |.seq (.region _ o1 η) (.block b1 (.loop (.seq (.region _ o2 η) (.seq (.cond (.tmp x4) .skip (.exit b2)) (.block _ (.seq (.region _ o3 η) (.region _ o4 η))))))),.region _ o5 η=>
  match xP o1.toList,uR o2.toList,uS o3.toList,uT o4.toList,xQ o5.toList with
  |some (c0,a1,a2,ty1,ty2),δ (x2,a3,a4),δ (y2,a5,a6,a7,te1,te2),δ (out,x7,a8,a9,a10,a11,te3,ts1,ts2),δ (out2,a12,a13,F,G)=>
   match (ξ b1 b2&&(ξ a4 x4&&(ξ a2 x2&&(ξ a2 y2&&(ξ a7 x7&&ξ out out2)))))&&xJ [out,a1,a2,a3,a4,a5,a6,a7,a8,a9,a10,a11,a12,a13]with
   |true=>δ ⟨c0,a1,a2,a3,a4,a5,a6,a7,a8,a9,a10,a11,a12,a13,out,ty1,ty2,te1,te2,te3,ts1,ts2,F,G⟩
   |false=>ε
  |_,_,_,_,_=>ε
 |_,_=>ε
def Xv.tmps(p:Xv):List Nat:=[p.out,p.a1,p.a2,p.a3,p.a4,p.a5,p.a6,p.a7,p.a8,p.a9,p.a10,p.a11,p.a12,p.a13]
def Zg(A:List Nat):BZ->BZ
 |[]=>[]
 |(t,v)::r=>match JF t A with|true=>Zg A r|false=>(t,v)::Zg A r
def Vw{A:List Nat}:∀{env:BZ}{q:Nat×TV},q∈Zg A env->q∈env/\q.1∉A
 |[],_,h=>by cases h
 |(t,v)::r,q,h=>by simp only[Zg]at h;split at h;exact⟨Ce _ (Vw h).1,(Vw h).2⟩;rename_i a;rcases Aw.1 h with rfl|h;exact⟨I3,UE a⟩;exact⟨Ce _ (Vw h).1,(Vw h).2⟩
theorem pY{A:List Nat}{u:Nat}(a:u∉A):∀env:BZ,(Zg A env).get u=env.get u
 |[]=>rfl
 |(t,v)::r=>by
  simp only[Zg,BZ.get];split;rename_i b;have:t≠u:=λe=>by grind[V4]
  rw[beq_false this];exact pY a r;simp[BZ.get,pY a r]
noncomputable def ADh(P:Program)(N:Nat)(cs:List QJ)(p:Xv)(env:BZ)(H:Ap){R:Type}(k:BZ->Ap->Option R):Option R:=
 match env.get p.c0,env.get p.out with
 |.c (.raw (.ptr c 0 0)),.c .nil=>
  match H[c]? with
  |some (.live _ [.raw (.mp id)])=>
   match H[id]?,ve cs p.F,Enters P p.F with
   |some (.mp _ kk ty es),δ (.c2 _ te [] [] [.fn (.func G) [] []] g),ζ=>
    if h:(Ty.list ty).beq (Ty.list te)=ζ then
     match tI P p.ty1,P.underlying p.ty2,tI P p.te2,tI P p.te3,Yw P p.te1,eI P p.ts1,eI P p.ts2 with
     |some (η,_),δ (.map kt _),δ (_,n2),δ (tr3,n3),δ z,δ (ε,e1,s1),δ (ε,e2,s2)=>
      match (ξ G p.G&&(te.isAgg&&(ξ n2 te.sz&&(tr3&&(ξ n3 te.sz&&(ξ (θ z) te.sz&&(ξ s1 te.sz&&(ξ s2 te.sz&&(Rz P e1&&(Rz P e2&&Nat.ble te.sz 4096))))))))))&&
        ((match P.underlying kt with|some (.int k2)=>decide (k2=kk)|_=>η)&&(ut (θ H) (Zg p.tmps env)&&(ly (θ H) H&&p.tmps.all λt=>Nat.blt t N)))with
      |true=>cond (τ (((θ es:Nat):Int)≤16777216))
        ((uW g (Ty.cast h (es.map (·.2)))).bind λs=>cond (ξ (θ s) (θ es)) (k ((p.out,.c (.own (θ H) 0 te (θ s)))::Zg p.tmps env) (H++[.buf η te s (θ s) 0,.dead])) ε) ε
      |false=>ε
     |_,_,_,_,_,_,_=>ε
    else ε
   |_,_,_=>ε
  |_=>ε
 |_,_=>ε
theorem FA{q:Nat×Ac}{v:Ac}(h:q∈l)(a:q.1≠N):q∈l.put N v:=Ce _ (BU.2 ⟨h,q!⟩)
def xY:(N,s)∈l.put N s:=I3
def oV{v:Ac}:Env.get ((N,v)::l) N=v:=C! rfl
def yZ{v:Ac}(h:N≠q):Env.get ((N,v)::l) q=l.get q:=D! h
def iO(vals:List R)(seen:List Nat):List R:=seen.filterMap (vals[·]?)
theorem AAr{a:List R}{x:R}(h:a[N]?=δ x):iO a (b++[N])=iO a b++[x]:=by grind[iO]
theorem zF{b:Type}:∀a:List b,(List.range (θ a)).filterMap (a[·]?)=a
 |[]=>rfl
 |x::r=>by
  rw[Ba,List.range_succ_eq_map,List.filterMap_cons];simp;have:((λi=>(x::r)[i]?)∘Nat.succ)=(r[·]?):=q!
  rw[this,zF r]
def AAq{a:List R}(hn:v.Nodup)(c:∀j∈v,j<θ a)(b:∀j,j<θ a->j∈v):a.Perm (iO a v):=by have:=((ma List.nodup_range hn).2 λj=>⟨λh=>b j (Hw.1 h),λh=>Hw.2 (c j h)⟩).filterMap (a[·]?);rwa [zF]at this
section
variable {P:Program}{N:Nat}{env:Env}{H:Au}{Q:Env->Au->Prop}{ops:Array Oper}
def Wg.nil(h:Q env H):Wg P N ops [] env H Q:=⟨_,_,FU.refl _ _ _,h⟩
def Wg.cons(b:o.guard=ε)(h:JV P N o env H λv a=>Wg P N ops f (env.putO o.dst v) a Q):Wg P N ops (o::f) env H Q:=by refine⟨_,_,FU.refl _ _ _,?_⟩;rw[b];exact h
end
variable {m:Hint}{C:Xv}
section
variable {P:Program}{N:Nat}
theorem wm(t:Ty)(l:List t.D):∀v∈t.E.cl l,Pure v:=by intro v a;have⟨u,b,a⟩:=Gl.1 a;obtain⟨y,_,rfl⟩:=Bs.1 b;exact Uy (t.enc_pure y) v a
theorem AEc(h:Pure s)(p:Nat->Bool):s.idsAll p=ζ:=Q1 (λ_ h=>by cases h) s h
theorem ADu{p q:Nat->Bool}(h:∀id,p id=ζ->q id=ζ)(e:Fk)(k:e.idsAll p=ζ):e.idsAll q=ζ:=by cases e<;>grind[JT,Fk.idsAll,List.all_eq_true,Q1]
theorem AHp(t:Ty)(g:Nat)(l:List t.D)(p:Nat->Bool):(Fk.live g (t.E.cl l)).idsAll p=ζ:=by grind[Fk.idsAll,Dt,AEc,wm]
theorem flt{a:Type}(p q:a->Bool)(b:∀x,q x=ζ->p x=ζ)(e:a)(d:p e=ζ)(f:q e=η):∀l:List a,e∈l->(l.filter q).length<(l.filter p).length
 |x::l,he=>by
  have c:∀l:List a,(l.filter q).length<=(l.filter p).length:=by intro l;induction l<;>grind
  rcases Aw.1 he with rfl|h;grind;have:=flt p q b e d f l h;grind
theorem AHE(h:v.Nodup){i j a b:Nat}(d:v[i]?=δ a)(e:v[j]?=δ b)(c:i≠j):a≠b:=by grind[List.getElem?_inj]
set_option maxHeartbeats 1000000 in
def ACG{te:Ty}{kk:IntKind}{es:List (Int×te.D)}{Hb:Au}{base:Env}{id a2 a3 a4 a5 a6 a7 a8 a9 a10 a11 out:Nat}{b1 b2:Nat}{i2 i3 i4:Nat}{o2 o3 o4:Array Oper}{te1 te2 te3 ts1 ts2:TypeId}{z:List Ac}{e1 e2:TypeId}{bb:Bool}
  (h2:uR o2.toList=δ (a2,a3,a4)) (h3:uS o3.toList=δ (a2,a5,a6,a7,te1,te2)) (h4:uT o4.toList=δ (out,a7,a8,a9,a10,a11,te3,ts1,ts2))
  (bG:[out,a2,a3,a4,a5,a6,a7,a8,a9,a10,a11].Nodup) (hN:∀t∈[out,a2,a3,a4,a5,a6,a7,a8,a9,a10,a11],t<N) (hb:∀q∈base,q.1∉ [out,a2,a3,a4,a5,a6,a7,a8,a9,a10,a11])
  (ax:∀q∈base,(q.2.idsAll λj=>decide (j<θ Hb))=ζ) (ap:∀e∈Hb,(e.idsAll λj=>decide (j<θ Hb))=ζ)
  (he:Hb[id]?=δ (.mp kk (es.map λp=>(p.1,te.enc p.2)))) (ar:te.isAgg=ζ) (hz:Yw P te1=δ z) (Z:θ z=te.sz) (b4:tI P te2=δ (bb,te.sz)) (b5:tI P te3=δ (ζ,te.sz))
  (bN:eI P ts1=δ (ε,e1,te.sz)) (b0:eI P ts2=δ (ε,e2,te.sz)) (bt:Rz P e1=ζ) (bz:Rz P e2=ζ) (b3:te.sz<=4096) (b6:θ es<=16777216):
  ∀(n:Nat)(seen:List Nat),seen.Nodup->(∀j∈seen,j<θ es)->((List.range (θ es)).filter λj=>! τ (j∈seen)).length<=n->(iO (es.map (·.2)) seen).length+((List.range (θ es)).filter λj=>! τ (j∈seen)).length<=θ es->
   Ht P N (.seq (.region i2 o2 η) (.seq (.cond (.tmp a4) .skip (.exit b1)) (.block b2 (.seq (.region i3 o3 η) (.region i4 o4 η)))))
    ((out,.sl (θ Hb) (iO (es.map (·.2)) seen).length te.sz 0 (iO (es.map (·.2)) seen).length)::(a2,.itp (θ Hb+1) id)::base)
    (Hb++[.live (iO (es.map (·.2)) seen).length (te.E.cl (iO (es.map (·.2)) seen)),.it (θ es) seen])
    λe E h=>e=.exit b1/\∃s,(es.map (·.2)).Perm s/\(∀q∈(out,Ac.sl (θ Hb) (θ s) te.sz 0 (θ s))::base,q∈E)/\θ h=θ Hb+2/\(∀j,j<θ Hb->h[j]?=Hb[j]?)/\h[θ Hb]?=δ (.live (θ s) (te.E.cl s)):=by
 obtain⟨t1,p1,x1,t2,p2,x2,l2⟩:=rA h2;obtain⟨t3,p3,x3,t4,p4,x4,t5,p5,x5,t6,p6,x6,l3⟩:=rC h3;obtain⟨t7,p7,x7,t8,p8,x8,t9,p9,x9,b9,b7,ca,b',b8,cb,l4⟩:=rD h4;have D:=λ(i j a b:Nat)=>AHE (i:=i) (j:=j) (a:=a) (b:=b) bG;simp only[Aw,List.not_mem_nil,or_false,forall_eq_or_imp,forall_eq]at hN;have d2:Oz N o2.toList=ζ:=by rw[l2];simp[Oz,hN]
 have d3:Oz N o3.toList=ζ:=by rw[l3];simp[Oz,hN]
 have d4:Oz N o4.toList=ζ:=by rw[l4];simp[Oz,hN]
 have a0:id<θ Hb:=by rcases Ax id (θ Hb) with h|h;exact h;rw[Cn h]at he;cases he
 have s0:∀(A B C:Fk),(Hb++[A,B]).set (θ Hb+1) C=Hb++[A,C]:=λA B C=>by rw[S6 _ _ o!,show θ Hb+1-θ Hb=1 by omega];rfl
 have s1:∀(A B C D:Fk),(Hb++[A,B,C]).set (θ Hb+2) D=Hb++[A,B,D]:=λA B C D=>by rw[S6 _ _ o!,show θ Hb+2-θ Hb=2 by omega];rfl
 have s2:∀(A B C D:Fk),(Hb++[A,B,C]).set (θ Hb) D=Hb++[D,B,C]:=λA B C D=>by rw[S6 _ _ (An _),Gp];rfl
 have g0:∀(A:Fk)(r:List Fk),(Hb++A::r)[θ Hb]?=δ A:=λA r=>by rw[Ci (An _),Gp];rfl
 have g1:∀(A B:Fk)(r:List Fk),(Hb++A::B::r)[θ Hb+1]?=δ B:=λA B r=>by rw[Ci o!,show θ Hb+1-θ Hb=1 by omega];rfl
 have g2:∀(A B C:Fk)(r:List Fk),(Hb++A::B::C::r)[θ Hb+2]?=δ C:=λA B C r=>by rw[Ci o!,show θ Hb+2-θ Hb=2 by omega];rfl
 have gm:∀(r:List Fk),(Hb++r)[id]?=δ (.mp kk (es.map λp=>(p.1,te.enc p.2))):=λr=>by rw[CT a0];exact he
 have Y:(es.map (·.2)).length=θ es:=BT _;have J:0<te.sz:=te.sz_pos;intro n;induction n using Nat.strongRecOn with
 |ind n ih=>
  intro seen hn hl hr hm;obtain⟨L,hL⟩:∃L,L=iO (es.map (·.2)) seen:=⟨_,rfl⟩
  rw[<-hL]at hm⊢;refine Ht.unroll (Jg.seq (Fp d2 ?_));rw[l2];apply Wg.cons rfl;have d:(es.map λp=>(p.1,te.enc p.2)).length=θ es:=BT _;have ad:out≠a2:=D 0 1 _ _ rfl rfl g!;refine JV.next (x:=.tmp a2) (id:=θ Hb+1) (m:=id) (k:=kk) (es:=es.map λp=>(p.1,te.enc p.2)) (seen:=seen) rfl ?_ ?_ (gm _) ?_ ?_
  show Env.get _ a2=_;rw[yZ ad,oV];rw[d];exact g1 _ _ _;intro G;refine Wg.cons rfl (Ds (v:=.bool η) ?_ (Wg.nil ?_));show Cd _ _ _ (.extract (.tmp a3) 0)=_;simp only[Cd,BO,Env.putO,GF,if_true];rfl;refine Jg.seq (Jg.cond (b:=η) ?_ (λh=>by cases h) (λ_=>Jg.exit ?_));simp only[BO,Env.putO,GF,if_true];refine⟨rfl,L,?_,λq o=>?_,k!,λj hj=>CT hj,g0 _ _⟩;rw[hL];exact AAq hn (by rw[Y];exact hl) (by rw[Y];rw[d]at G;exact G);have al:out≠a3:=D 0 2 _ _ rfl rfl g!;have ao:out≠a4:=D 0 3 _ _ rfl rfl g!;rcases Aw.1 o with rfl|o;exact FA (FA I3 al) ao;have:=hb q o;simp only[Aw,not_or]at this;exact FA (FA (Ce _ (Ce _ o)) this.2.2.1) this.2.2.2.1;intro j p hj S;rw[CL]at hj;obtain⟨q,o,e⟩:=S9.1 hj;subst e;rw[d,s0];refine Wg.cons rfl (Ds (v:=.bool ζ) ?_ (Wg.nil ?_));show Cd _ _ _ (.extract (.tmp a3) 0)=_;simp only[Cd,BO,Env.putO,GF,if_true];rfl;have k2:∀(m:Nat)(v w:Ac),Env.get (Env.put (Env.put ((out,Ac.sl (θ Hb) m te.sz 0 m)::(a2,Ac.itp (θ Hb+1) id)::base) a3 v) a4 w) a2=.itp (θ Hb+1) id:=λm v w=>by rw[GF,D! (D 1 3 _ _ rfl rfl g!),GF,D! (D 1 2 _ _ rfl rfl g!),yZ ad,oV]
  have ko:∀(m:Nat)(v w:Ac),Env.get (Env.put (Env.put ((out,Ac.sl (θ Hb) m te.sz 0 m)::(a2,Ac.itp (θ Hb+1) id)::base) a3 v) a4 w) out=.sl (θ Hb) m te.sz 0 m:=λm v w=>by rw[GF,D! (D 0 3 _ _ rfl rfl g!),GF,D! (D 0 2 _ _ rfl rfl g!),oV]
  have kb:∀(m:Nat)(v w:Ac),∀q∈base,q∈Env.put (Env.put ((out,Ac.sl (θ Hb) m te.sz 0 m)::(a2,Ac.itp (θ Hb+1) id)::base) a3 v) a4 w:=λm v w q o=>by have:=hb q o;simp only[Aw,not_or]at this;exact FA (FA (Ce _ (Ce _ o)) this.2.2.1) this.2.2.2.1
  have ki:∀(m:Nat)(v w:Ac),(a2,Ac.itp (θ Hb+1) id)∈Env.put (Env.put ((out,Ac.sl (θ Hb) m te.sz 0 m)::(a2,Ac.itp (θ Hb+1) id)::base) a3 v) a4 w:=λm v w=>FA (FA (Ce _ I3) (D 1 2 _ _ rfl rfl g!)) (D 1 3 _ _ rfl rfl g!);refine Jg.seq (Jg.cond (b:=ζ) ?_ (λ_=>Jg.skip ?_) (λh=>by cases h));simp only[BO,Env.putO,GF,if_true];dsimp only[dy];refine Jg.block (Jg.seq (Fp d3 ?_));rw[l3];generalize K:Env.putO (Env.putO ((out,Ac.sl (θ Hb) (θ L) te.sz 0 (θ L))::(a2,Ac.itp (θ Hb+1) id)::base) (δ a3) (.tup [.bool ζ,.int kk q.1,te.enc q.2])) (δ a4) (.bool ζ)=E;have k2:Env.get E a2=.itp (θ Hb+1) id:=by rw[<-K];exact k2 _ _ _
  have ko:Env.get E out=.sl (θ Hb) (θ L) te.sz 0 (θ L):=by rw[<-K];exact ko _ _ _
  have kb:∀q∈base,q∈E:=by rw[<-K];exact kb _ _ _
  have ki:(a2,Ac.itp (θ Hb+1) id)∈E:=by rw[<-K];exact ki _ _ _
  clear K;refine Wg.cons rfl (JV.entry (x:=.tmp a2) (id:=θ Hb+1) (m:=id) (j:=j) (k:=kk) (es:=es.map λp=>(p.1,te.enc p.2)) (seen:=seen) (p:=(q.1,te.enc q.2)) rfl k2 ?_ (gm _) (by rw[CL,o];rfl) ?_);rw[d];exact g1 _ _ _;have f:te.enc q.2=.agg (te.enc q.2).cells:=Ty.agg_enc ar q.2;have l:(te.enc q.2).cells.length=te.sz:=te.enc_len q.2;have U:(te.enc q.2).solid=ζ:=by rw[f];rfl
  refine Wg.cons rfl (Ds (v:=te.enc q.2) ?_ (Wg.cons rfl (JV.alloc rfl hz ?_)));show Cd _ _ _ (.extract (.tmp a5) 1)=_;simp only[Cd,BO,Env.putO,GF,if_true];rfl;have a1:(Hb++[Fk.live (θ L) (te.E.cl L),Fk.it (θ es) (seen++[j])]).length=θ Hb+2:=k!
  rw[a1,A5];show Wg P N o3 _ _ (Hb++[Fk.live (θ L) (te.E.cl L),Fk.it (θ es) (seen++[j]),Fk.live 0 z]) _;refine Wg.cons rfl (JV.store (id:=θ Hb+2) (g:=0) (off:=0) (v:=te.enc q.2) (cs:=z) (b:=bb) rfl ?_ ?_ U (g2 _ _ _ _) (by rw[l];exact b4) (by rw[l,Z];omega) (Wg.nil ?_));simp only[BO,Env.putO,GF,if_true];simp only[BO,Env.putO,GF];rw[D! (D 5 6 _ _ rfl rfl g!),C! trivial];have T:Wa z 0 (te.enc q.2).cells=(te.enc q.2).cells:=by unfold Wa;rw[List.take_zero,B4,l,<-Z,DT,List.drop_length,DN]
  rw[T,s1];simp only[Env.putO];generalize F:Env.put (Env.put (Env.put E a5 (.tup [.int kk q.1,te.enc q.2])) a6 (te.enc q.2)) a7 (.ptr (θ Hb+2) 0 0)=E1;have j7:Env.get E1 a7=.ptr (θ Hb+2) 0 0:=by rw[<-F,GF,C! rfl]
  have jo:Env.get E1 out=.sl (θ Hb) (θ L) te.sz 0 (θ L):=by rw[<-F,GF,D! (D 0 6 _ _ rfl rfl g!),GF,D! (D 0 5 _ _ rfl rfl g!),GF,D! (D 0 4 _ _ rfl rfl g!),ko]
  have jb:∀q∈base,q∈E1:=λu I=>by have:=hb u I;simp only[Aw,not_or]at this;rw[<-F];exact FA (FA (FA (kb u I) this.2.2.2.2.1) this.2.2.2.2.2.1) this.2.2.2.2.2.2.1
  have ji:(a2,Ac.itp (θ Hb+1) id)∈E1:=by rw[<-F];exact FA (FA (FA ki (D 1 4 _ _ rfl rfl g!)) (D 1 5 _ _ rfl rfl g!)) (D 1 6 _ _ rfl rfl g!)
  clear F;apply Fp d4;rw[l4];refine Wg.cons rfl (Ds (v:=.sl (θ Hb) (θ L) te.sz 0 (θ L)) (E! δ jo) (Wg.cons rfl (Ds (v:=te.enc q.2) ?_ (Wg.cons rfl (VQ (sz:=te.sz) (vs:=[te.enc q.2]) rfl ?_ (Wg.cons rfl ?_))))));show iM P te3 _ (BO _ (.tmp a7))=_;simp only[BO,Env.putO,GF];rw[D! (D 6 7 _ _ rfl rfl g!),j7];simp only[iM,b5,P1,g2];rw[C! ⟨O!,by rw[l];omega⟩,bY,<-l,HT];exact E! δ f.symm;simp only[Sr,bN];rw[C!];simp only[BO,Env.putO,GF,if_true,Bf,HQ];refine⟨J,bt,rfl,?_,g!,b3⟩;simp only[BO,Env.putO,GF,if_true,Bf,HQ,pD,pE,U,l,decide_true,Xk];have R:j<θ es:=by rcases Ax j (θ es) with h|h;exact h;rw[Cn h]at o;cases o
  have bm:((List.range (θ es)).filter λi=>! τ (i∈seen++[j])).length<((List.range (θ es)).filter λi=>! τ (i∈seen)).length:=flt (λi=>! τ (i∈seen)) (λi=>! τ (i∈seen++[j])) (λx f=>by simp at f⊢;exact f.1) j (by simpa using S) k! _ (Hw.2 R);have O:iO (es.map (·.2)) (seen++[j])=L++[q.2]:=by rw[hL];exact AAr (by rw[CL,o];rfl)
  refine Rv (sx:=.tmp a8) (xx:=.tmp a10) (t:=ts2) (e:=e2) (id:=θ Hb) (g:=θ L) (g':=θ L+1) (n:=θ L) (sz:=te.sz) (m:=1) (cs:=te.E.cl L) (news:=(te.enc q.2).cells) rfl b0 J bz ?_ (g0 _ _) (te.E.clen L) ?_ o! (.inl o!) ?_;show Env.get _ a8=_;simp only[Env.putO,GF];rw[D! (D 7 9 _ _ rfl rfl g!),D! (D 7 8 _ _ rfl rfl g!),C! trivial];simp only[BO,Env.putO,GF,if_true,J6,Ba,Bb,I7,pJ,DN];rw[s2];refine Wg.cons rfl (Ds (v:=.sl (θ Hb) (θ L+1) te.sz 0 (θ L+1)) ?_ (Wg.nil ?_));show δ (Env.get _ a11)=_;simp only[Env.putO,GF,if_true];have Q:te.E.cl L++(te.enc q.2).cells=te.E.cl (L++[q.2]):=by simp[R3.cl];rfl
  rw[Q];have bl:(L++[q.2]).length=θ L+1:=k!
  show∃env2 H2,FU N _ _ _ env2 H2/\_;refine⟨_,_,?_,ih _ (DB bm hr) (seen++[j]) ?_ ?_ (An _) (by rw[O];omega)⟩;rw[O,bl];generalize M:Env.putO _ (δ out) _=E3;have V:∀u∈(out,Ac.sl (θ Hb) (θ L+1) te.sz 0 (θ L+1))::(a2,Ac.itp (θ Hb+1) id)::base,u∈E3:=by intro u I;rw[<-M];simp only[Env.putO];rcases Aw.1 I with rfl|I;exact xY;rcases Aw.1 I with rfl|I;exact FA (FA (FA (FA (FA ji (D 1 7 _ _ rfl rfl g!)) (D 1 8 _ _ rfl rfl g!)) (D 1 9 _ _ rfl rfl g!)) (D 1 10 _ _ rfl rfl g!)) (D 1 0 _ _ rfl rfl g!);have:=hb u I;simp only[Aw,not_or]at this;exact FA (FA (FA (FA (FA (jb u I) this.2.2.2.2.2.2.2.1) this.2.2.2.2.2.2.2.2.1) this.2.2.2.2.2.2.2.2.2.1) this.2.2.2.2.2.2.2.2.2.2.1) this.1
  clear M;have w1:=FU.subset (N:=N) (H:=Hb++[Fk.live (θ L+1) (te.E.cl (L++[q.2])),Fk.it (θ es) (seen++[j]),Fk.live 0 (te.enc q.2).cells]) V;have W:(Hb++[Fk.live (θ L+1) (te.E.cl (L++[q.2])),Fk.it (θ es) (seen++[j]),Fk.live 0 (te.enc q.2).cells]).take (θ Hb+2)=Hb++[Fk.live (θ L+1) (te.E.cl (L++[q.2])),Fk.it (θ es) (seen++[j])]:=by rw[eK,BP o!,show θ Hb+2-θ Hb=2 by omega];rfl
  have w2:=FU.cut (N:=N) (n0:=θ Hb+2) (env:=(out,Ac.sl (θ Hb) (θ L+1) te.sz 0 (θ L+1))::(a2,Ac.itp (θ Hb+1) id)::base) (H:=Hb++[Fk.live (θ L+1) (te.E.cl (L++[q.2])),Fk.it (θ es) (seen++[j]),Fk.live 0 (te.enc q.2).cells]) k! (λt v X=>by
   rcases Aw.1 X with e|X;injection e with _ e;subst e;exact G! o!;rcases Aw.1 X with e|X;injection e with _ e;subst e;simp only[Ac.idsAll,BW,K!];omega;exact Q1 (λi hi=>G! (by have:=M! hi;omega)) v (ax _ X)) (by
   rw[W];intro e c;rcases Ak.1 c with c|c;exact ADu (λi hi=>G! (by have:=M! hi;omega)) e (ap e c);rcases Aw.1 c with rfl|c;exact AHp te _ _ _;simp only[BA]at c;subst c;rfl)
  rw[W]at w2;have a':(Hb++[Fk.live (θ L) (te.E.cl L),Fk.it (θ es) seen]).length=θ Hb+2:=k!
  rw[a'];exact(w1.of_le k!).trans w2;refine Oj.2 ⟨hn,k!,λx f y hy=>?_⟩;simp only[BA]at hy;subst hy;rintro rfl;exact S f;intro x f;rcases Ak.1 f with f|f;exact hl x f;simp only[BA]at f;subst f;exact R
def oA(h:nz c I=δ C):∃x k i y l r z n A o B q,
  c=.seq (.region x k η) (.block i (.loop (.seq (.region y l η) (.seq (.cond (.tmp C.a4) .skip (.exit i)) (.block r (.seq (.region z n η) (.region A o η)))))))/\I=.region B q η/\
  xP k.toList=δ (C.c0,C.a1,C.a2,C.ty1,C.ty2)/\uR l.toList=δ (C.a2,C.a3,C.a4)/\uS n.toList=δ (C.a2,C.a5,C.a6,C.a7,C.te1,C.te2)/\
  uT o.toList=δ (C.out,C.a7,C.a8,C.a9,C.a10,C.a11,C.te3,C.ts1,C.ts2)/\xQ q.toList=δ (C.out,C.a12,C.a13,C.F,C.G)/\C.tmps.Nodup:=by
 unfold nz at h;split at h;split at h;rename_i s t u v w;split at h;rename_i j;simp only[BW]at j;have⟨⟨b,a,d,e,f,g⟩,hn⟩:=j;have b:=DA b;have a:=DA a;have d:=DA d;have e:=DA e;have f:=DA f;have g:=DA g;subst b a d e f g;cases h;exact⟨_,_,_,_,_,_,_,_,_,_,_,_,rfl,rfl,s,t,u,v,w,qx hn⟩;cases h;cases h;cases h
set_option maxHeartbeats 1000000 in
def ADi{cs:List QJ}(co:∀c∈cs,c.Ok P){a m:Code}{p:Xv}(hp:nz a m=δ p){env:BZ}{H:Ap}{R:Type}{k:BZ→Ap→Option R}{r:R}(ok:No env H)(o:ADh P N cs p env H k=δ r):
  ∃A H',Jg P N a (Bz env) (BJ H) (dy (λE h=>Jg P N m E h (Ub .normal (Bz A) (BJ H'))) (λ_ _ _=>False))/\k A H'=δ r/\No A H'/\EH p.tmps env H A H':=by
 obtain⟨i1,o1,T,i2,o2,J,i3,o3,i4,o4,i5,o5,rfl,rfl,p1,p2,p3,p4,p5,b3⟩:=oA hp;unfold ADh at o;split at o;rename_i c ci b4;split at o;rename_i ro id hc;split at o;rename_i c3 kk n I F te G g a1 hF hE;split at o;rename_i cG;split at o;rename_i y1 kt et b9 n2 c4 n3 z e1 s1 e2 s2 t1 t2 t3 t4 t5 t6 t7;split at o;rename_i hb;have cS:n=te:=by have:=Ty.beq_eq _ _ cG;injection this
 subst cS;simp only[BW]at hb;obtain⟨⟨bG,b8,V,cd,W,bz,Y,Z,cb,cc,ad⟩,U,b',ca,bN⟩:=hb;have bG:=DA bG;have V:=DA V;have W:=DA W;have bz:=DA bz;have Y:=DA Y;have Z:=DA Z;have ad:=Om ad;subst V W Y Z cd;have c2:P.underlying kt=δ (.int kk):=by split at U;rename_i k2 e;rw[e,M! U];cases U
 cases ao:τ (((θ I:Nat):Int)<=16777216)with
 |false=>rw[ao]at o;cases o
 |true=>
  have bm:θ I<=16777216:=by have:=M! ao;omega
  rw[ao]at o;obtain⟨s,hs,o⟩:=Dj.1 (show σ _ _=δ r from o);have hs:=AAa hs;cases L:ξ (θ s) (θ I) with
  |false=>rw[L]at o;cases o
  |true=>
   rw[L]at o;have o:k ((p.out,.c (.own (θ H) 0 n (θ s)))::Zg p.tmps env) (H++[.buf η n s (θ s) 0,.dead])=δ r:=o;have L:=DA L;obtain⟨c5,q1,x1,c6,q2,x2,l1⟩:=qz p1;obtain⟨c8,q3,x3,cW,c9,q4,x4,l5⟩:=rE p5;have D:=λ(i j a b:Nat)=>AHE (i:=i) (j:=j) (a:=a) (b:=b) b3;have hN:∀t∈p.tmps,t<N:=λt ht=>Om (GA.1 bN t ht);have d1:Oz N o1.toList=ζ:=by rw[l1];simp[Oz,pD,pE,Q3,BW,K!];exact⟨hN _ (by simp[Xv.tmps]),hN _ (by simp[Xv.tmps])⟩
   have d5:Oz N o5.toList=ζ:=by rw[l5];simp[Oz,pD,pE,Q3,BW,K!];exact⟨hN _ (by simp[Xv.tmps]),hN _ (by simp[Xv.tmps])⟩
   have M:(Bz env).get p.out=.nils:=by rw[UZ,b4];rfl
   have al:(Bz env).get p.c0=.ptr c 0 0:=by rw[UZ,ci];rfl
   have cn:p.c0≠p.out:=λe=>by rw[e,M]at al;cases al
   have cm:c<θ H:=G7 hc;have a':id<θ H:=G7 a1;have d:(BJ H).length=θ H:=CW H;have ce:(BJ H)[c]?=δ (.live 0 [.mp id]):=by rw[EJ,hc];rfl
   have O:(BJ H)[id]?=δ (.mp kk (I.map λp=>(p.1,n.enc p.2))):=by rw[EJ,a1];rfl
   have x:∀q∈Bz (Zg p.tmps env),q∈Bz env/\q.1∉p.tmps:=λq y=>by obtain⟨u,hu,rfl⟩:=Bs.1 y;exact⟨Bs.2 ⟨u,(Vw hu).1,rfl⟩,(Vw hu).2⟩
   have ch:∀q∈Bz (Zg p.tmps env),(q.2.idsAll λj=>decide (j<(BJ H).length))=ζ:=λq y=>by obtain⟨u,hu,rfl⟩:=Bs.1 y;rw[d];exact fq (lH b' u hu)
   have cf:∀e∈BJ H,(e.idsAll λj=>decide (j<(BJ H).length))=ζ:=by rw[d];exact lI ca
   have step:CD H (H++[.buf η n s (θ s) 0,.dead]):=by have:=(CD.push H (.buf η n s (θ s) 0)).trans (CD.push _ .dead);rwa [A5]at this
   have b5:(Bv.own (θ H) 0 n (θ s)).ok (H++[.buf η n s (θ s) 0,.dead]):=by apply V7 (b:=η) (l:=s);rw[Ci (An _),Gp];rfl
   refine⟨(p.out,.c (.own (θ H) 0 n (θ s)))::Zg p.tmps env,H++[.buf η n s (θ s) 0,.dead],?_,o,⟨λq y=>?_,?_⟩,step,λu hu _=>?_⟩;refine Jg.weak (FU.virt (t:=p.out) (sz:=n.sz) M) (Jg.seq (Fp d1 ?_));rw[l1];have cB:Cd P ((Bz env).put p.out (.sl (BJ H).length 0 n.sz 0 0)) (BJ H++[.live 0 []]) (.load p.ty1 (.tmp p.c0))=δ (.mp id):=by simp[Cd,BO,GF];rw[D! cn,al];simp[iM,t1,P1];rw[CT (by rw[d];exact cm),ce];rfl
   have bl:(BJ H++[Fk.live 0 []])[id]?=δ (.mp kk (I.map λp=>(p.1,n.enc p.2))):=by rw[CT (by rw[d];exact a'),O]
   refine Wg.cons rfl (Ds cB (Wg.cons rfl (JV.range (id:=id) (k:=kk) (es:=I.map λp=>(p.1,n.enc p.2)) rfl ?_ t2 bl (Wg.nil ?_))));simp[BO,Env.putO,GF,if_true];rw[BT,AY,A5];dsimp[dy,Env.putO];refine Jg.block (Jg.of_loopW ?_);have ax:[p.out,p.a2,p.a3,p.a4,p.a5,p.a6,p.a7,p.a8,p.a9,p.a10,p.a11].Sublist p.tmps:=.cons₂ _ (.cons _ (.cons₂ _ (.cons₂ _ (.cons₂ _ (.cons₂ _ (.cons₂ _ (.cons₂ _ (.cons₂ _ (.cons₂ _ (.cons₂ _ (.cons₂ _ (.cons _ (.cons _ .slnil)))))))))))));have b7:=ACG (P:=P) (N:=N) (te:=n) (kk:=kk) (es:=I) (Hb:=BJ H) (base:=Bz (Zg p.tmps env)) (id:=id) (out:=p.out) (a2:=p.a2) (a3:=p.a3) (a4:=p.a4) (a5:=p.a5) (a6:=p.a6) (a7:=p.a7) (a8:=p.a8) (a9:=p.a9) (a10:=p.a10) (a11:=p.a11)
    (b1:=T) (b2:=J) (i2:=i2) (i3:=i3) (i4:=i4) (bb:=b9) p2 p3 p4 ?_ ?_ ?_ ch cf O b8 t5 bz t3 t4 t6 t7 cb cc ad bm (θ I) [] QW (λj B=>by cases B) (by simpa using List.length_filter_le _ (List.range (θ I))) (by have:=FF (λj=>! τ (j∈([]:List Nat))) (List.range (θ I));simpa[iO]using this)
   refine Ht.mono (Ht.weak ?_ b7) ?_;refine FU.subset (N:=N) (H:=BJ H++[Fk.live 0 [],Fk.it (θ I) []]) λq y=>?_;rcases Aw.1 y with rfl|y;exact FA (FA xY (D 0 1 _ _ rfl rfl g!)) (D 0 2 _ _ rfl rfl g!);rcases Aw.1 y with rfl|y;exact xY;obtain⟨T,J⟩:=x q y;simp[Xv.tmps,Aw,not_or]at J;exact FA (FA (FA T J.1) J.2.1) J.2.2.1;rintro e E h ⟨rfl,C,K,b6,Q,ar,ap⟩;show pO T _ (.exit T) E h;simp[pO,if_true,dy];refine Jg.weak (FU.subset b6) (Jg.after (Fp d5 ?_));rw[l5];obtain⟨b0,hf⟩:=tU hF;have a0:θ s=θ C:=by rw[L,<-K.length_eq,BT]
   have hA:=co _ b0 C () s (hs C K) a0 h (BJ H).length ap;simp[QJ.f]at hf;rw[hf]at hA;refine Wg.cons rfl (Ds (v:=.sl (BJ H).length (θ C) n.sz 0 (θ C)) (E! δ oV) (Wg.cons rfl (JV.mono (kV (F:=p.F) (vs:=[.sl (BJ H).length (θ C) n.sz 0 (θ C),.fn (.func G) [] []]) ?_ hE hA) ?_)));show δ (Sum.inl (p.F,[]++[Env.get _ p.a12,Ac.fn (.func p.G) [] []]++[]))=_;simp only[Env.putO,GF,if_true,bG];rfl;rintro _ _ ⟨rfl,rfl⟩;refine Wg.nil ⟨_,_,?_,rfl,rfl,rfl⟩;have cv:(h.set (BJ H).length (.live (θ C) (n.E.cl s))).length=θ h:=k!
   rw[<-cv];refine WA (by simp[BJ];rw[Q,d]) λX g' w _=>?_;have hr:S3 (cx X g' (h.set (BJ H).length (.live (θ C) (n.E.cl s))) w) (cx X g' (h.set (BJ H).length (.live (θ C) (n.E.cl s))) w) (h.set (BJ H).length (.live (θ C) (n.E.cl s))) (BJ (H++[.buf η n s (θ s) 0,.dead])):=by
    refine⟨by simp[BJ];rw[Q,d],λj e' B=>?_⟩;have same:(h.set (BJ H).length (.live (θ C) (n.E.cl s)))[j]?=δ e'->e'=.dead\/_:=λhh=>(S3.refl (cx X g' (h.set (BJ H).length (.live (θ C) (n.E.cl s))) w) (h.set (BJ H).length (.live (θ C) (n.E.cl s)))).2 j e' hh;have ct:BJ (H++[.buf η n s (θ s) 0,.dead])=BJ H++[Fk.live (θ s) (n.E.cl s),Fk.dead]:=by simp[BJ,Dv.enc]
    rw[ct]at B;rcases QX j (BJ H).length with bt|rfl|c1;rw[CT bt]at B;exact same (by rw[DW o!,ar j bt];exact B);rw[Ci (An _),Gp]at B;exact same (by rw[Gy o!,<-a0];exact B);rw[Ci o!]at B;rcases QX (j-(BJ H).length) 1 with q|q|q;omega;rw[q]at B;injection B with B;exact .inl B.symm;rw[Cn w!]at B;cases B
   refine⟨hr.onto,λt v' S=>⟨v',?_,λc r=>r.later hr.later⟩⟩;simp[Env.putO];have S:(t,v')∈(p.out,Ac.sl (BJ H).length (θ s) n.sz 0 (θ s))::Bz (Zg p.tmps env):=by rw[d];exact S
   rcases Aw.1 S with e|S;cases e;rw[a0];exact FA (FA I3 (D 0 12 _ _ rfl rfl g!)) (D 0 13 _ _ rfl rfl g!);obtain⟨T,J⟩:=x _ S;simp only[Xv.tmps,Aw,not_or]at J;exact FA (FA (Ce _ S) J.2.2.2.2.2.2.2.2.2.2.2.2.1) J.2.2.2.2.2.2.2.2.2.2.2.2.2.1;exact b3.sublist ax;exact λt ht=>hN t (ax.subset ht);exact λq y S=>(x q y).2 (ax.subset S);rcases Aw.1 y with rfl|y;exact Ji b5;exact step.tv (ok.env q (Vw y).1);intro e he;rcases Ak.1 he with he|he;exact step.ent (ok.heap e he);simp[Aw,List.not_mem_nil,or_false]at he;rcases he with rfl|rfl;rfl;trivial;show BZ.get _ u=_;have:p.out≠u:=λe=>hu (by rw[<-e];simp[Xv.tmps]);simp[BZ.get,beq_false this];exact pY hu env
 cases o;cases o;cases o;cases o;cases o;cases o
end
abbrev Sem:=∀{R:Type},BZ->Ap->(Exit->BZ->Ap->Option R)->Option R
def ox:List (Nat×Ty)->BZ->Ap->Option (BZ×Ap)
 |[],env,H=>δ (env,H)
 |(t,ty)::r,env,H=>
  match env.get t with
  |.c .nil=>ox r (env.put t (.c (.own (θ H) 0 ty 0))) (H++[.buf η ty [] 0 0])
  |_=>ε
def tK:Nat->List Bv->Option (List Bv×List Bv)
 |0,.nil::r=>δ ([],r)
 |n+1,x::r=>match tK n r with|some (a,b)=>δ (x::a,b)|none=>ε
 |_,_=>ε
def kg:List (Nat×Nat×Ty)->Ap->Option Ap
 |[],H=>δ H
 |(b,i,ty)::r,H=>
  match H[b]? with
  |some (.live η cs)=>
   match tK i cs with
   |some (x,y)=>kg r (H.set b (.live η (x++ .own (θ H) 0 ty 0::y))++[.buf η ty [] 0 0])
   |none=>ε
  |_=>ε
def AGV(h:Hint)(env:BZ)(H:Ap):Option (BZ×Ap):=
 match ox h.virt env H with
 |some (e,H1)=>match kg h.virtC H1 with|some H2=>δ (e,H2)|none=>ε
 |none=>ε
def AGK(h:Hint)(n:Nat)(eb:BZ)(H0:Ap)(S:List Nat)(k:Exit->BZ->Ap->Option R)(o:xM h.exits):Option R:=
 AIF h.exits o λx sl ds=>
  match V3 sl ds eb H0 with
  |some (e,hh)=>match ut n e&&(ly n hh&&S.all λj=>JF j (LH sl))with|true=>k x e hh|false=>ε
  |none=>ε
def AD6(h:Hint)(A:List Nat)(run:Sem):Sem:=λenv H k=>
 match AGV h env H with
 |none=>ε
 |some (env0,H0)=>
  match qG env0 with
  |false=>ε
  |true=>(run env0 (KM (LH h.slots) 0 H0) λx e1 h1=>AAV h.exits x e1 h1).bind λo=>AGK h (θ H0) (Qa A (LH h.slots) H0 env0) H0 (LH h.slots) k o
def ABU(h:Hint)(x:Exit)(env:BZ)(H:Ap):Option (Step (DL (dv h.slots)) (xM h.exits)):=
 match vY .normal x with
 |true=>match yJ h.slots env H with|some s=>δ (.next s)|none=>ε
 |false=>match AAV h.exits x env H with|some o=>δ (.done o)|none=>ε
noncomputable def vt(h:Hint)(A:List Nat)(run:Sem):Sem:=λenv H k=>
 match AGV h env H with
 |none=>ε
 |some (env1,H1)=>
  match IT (h.kill++mU env1 H1 h.slots) env1 H1 with
  |(env0,H0)=>
   match qG env0,YE env0 H0 h.slots with
   |true,δ ds=>
    match AAP (dv h.slots) ds with
    |some s0=>(Ai (λs=>
      match V3 h.slots (dvs (dv h.slots) s) (Qa A (LH h.slots) H0 env0) (KM (LH h.slots) 0 H0)with
      |some (e,hh)=>match ut (θ H0) e&&ly (θ H0) hh with|true=>run e hh λx e1 h1=>ABU h x e1 h1|false=>ε
      |none=>ε) s0).bind λo=>AGK h (θ H0) (Qa A (LH h.slots) H0 env0) H0 (LH h.slots) k o
    |none=>ε
   |_,_=>ε
def ABJ(c:Operand)(ra rb:Sem):Sem:=λenv H k=>
 match JW env c with
 |.c (.bl v)=>cond v (ra env H k) (rb env H k)
 |_=>ε
def zo(id:Nat)(r:Sem):Sem:=λenv H k=>r env H λe env' H'=>
 match e with
 |.exit id'=>match ξ id' id with|true=>k .normal env' H'|false=>k (.exit id') env' H'
 |e=>k e env' H'
def vp(o:Option Hint)(A:List Nat)(run:Sem):Sem:=
 match o with
 |some h=>λenv H k=>AD6 (h.rel (θ H)) A run env H k
 |none=>run
section
variable {R:Type}
def mv1(t n:Nat)(env:BZ)(H:Ap)(k:BZ->Ap->Option R):Option R:=
 match env.get t with
 |.c (.own m ver te _)=>
  match ξ m n with
  |true=>k env H
  |false=>
   match H[n]?,H[m]? with
   |some (.buf η t1 _ n1 v1),δ (.buf η t2 l2 n2 v2)=>
    match ξ ver v2,(Ty.list t1).beq (Ty.list t2)&&(Ty.list te).beq (Ty.list t2)with
    |true,ζ=>bif τ (n1<n2)then k (env.put t (.c (.own n (v1+1) t2 n2))) ((H.set n (.buf η t2 l2 n2 (v1+1))).set m .dead)else ε
    |_,_=>ε
   |_,_=>k env H
 |_=>k env H
def mvs:List Ob->BZ->Ap->(BZ->Ap->Option R)->Option R
 |[],e,h,k=>k e h
 |.g t n::r,e,h,k=>mv1 t n e h λe h=>mvs r e h k
 |_::r,e,h,k=>mvs r e h k
end
def AEL(ss:List Ob)(run:Sem):Sem:=λenv H k=>run env H λx e1 h1=>
 match vY .normal x with
 |true=>mvs ss e1 h1 λe2 h2=>k x e2 h2
 |false=>k x e1 h1
structure ADJ where
 main:Sem
 pre:Sem
 suf:Sem
def Pd:Sem:=λ_ _ _=>ε
def AEt(a b:Sem):Sem:=λenv H k=>a env H λe env' H'=>match e with|.normal=>b env' H' k|e=>k e env' H'
noncomputable def ABc(h:Hint)(A:List Nat)(s:ADJ):Sem:=λenv H k=>s.pre env H λx e1 h1=>match x with|.normal=>vt h A (AEt s.suf s.pre) e1 h1 k|x=>k x e1 h1
noncomputable def uJ(o:Option Hint)(A:List Nat)(s:ADJ):Sem:=
 match o with
 |some h=>λenv H k=>match ξ h.kind 8 with|true=>ABc (h.rel (θ H)) A s env H k|false=>vt (h.rel (θ H)) A (AEL (h.rel (θ H)).slots s.main) env H k
 |none=>Pd
def gu:BZ->BZ
 |[]=>[]
 |(t,v)::r=>match LF v.refs with|[]=>(t,v)::gu r|_=>gu r
def AAe(P:Program)(call:R2)(N:Nat)(me:FuncId)(f:Operand)(ps:Array Tmp)(a b:Code):Sem:=λenv H k=>
 match JW env f with
 |.c (.raw (.fn (.func G) first caps))=>
  match Enters P G with
  |true=>call (.fn G) (first.map tvA++[.c (.raw (.yf (θ H)))]++caps.map tvA) (H++[.lp η me N (gu env) ps a b .ready]) λ_ H'=>
   match H'[θ H]? with
   |some (.lp η _ _ _ _ _ _ .ready)=>k .normal env (H'.set (θ H) .dead)
   |some (.lp η _ _ _ _ _ _ .ret)=>k .ret env (H'.set (θ H) .dead)
   |some (.lp η _ _ _ _ _ _ (.exit x))=>k (.exit x) env (H'.set (θ H) .dead)
   |_=>ε
  |false=>ε
 |_=>ε
noncomputable def du(P:Program)(cs:List QJ)(call:R2)(N:Nat)(me:FuncId)(hs:List Hint):Code->ADJ
 |.skip=>⟨λenv H k=>k .normal env H,Pd,Pd⟩
 |.ret=>⟨λenv H k=>k .ret env H,Pd,Pd⟩
 |.exit id=>⟨λenv H k=>k (.exit id) env H,Pd,Pd⟩
 |.seq a (.seq m r)=>⟨λenv H k=>
  match nz a m with
  |some p=>ADh P N cs p env H λenv' H'=>(du P cs call N me hs r).main env' H' k
  |none=>AEt (du P cs call N me hs a).main (du P cs call N me hs (.seq m r)).main env H k,
  AEt (du P cs call N me hs a).main (du P cs call N me hs (.seq m r)).pre,(du P cs call N me hs (.seq m r)).suf⟩
 |.seq a b=>⟨vp (sG hs a b) (Oo hs (.seq a b)) (AEt (du P cs call N me hs a).main (du P cs call N me hs b).main),(du P cs call N me hs a).main,(du P cs call N me hs b).main⟩
 |.cond c a b=>⟨vp (hintOf hs (.cond c a b)) (Oo hs (.cond c a b)) (ABJ c (du P cs call N me hs a).main (du P cs call N me hs b).main),Pd,Pd⟩
 |.block id b=>⟨vp (hintOf hs (.block id b)) (Oo hs (.block id b)) (zo id (du P cs call N me hs b).main),Pd,Pd⟩
 |.loop b=>⟨uJ (hintOf hs (.loop b)) (Oo hs (.loop b)) (du P cs call N me hs b),Pd,Pd⟩
 |.region id ops η=>⟨vp (hintOf hs (.region id ops η)) (Oo hs (.region id ops η)) λenv H k=>
  match Oz N ops.toList with
  |true=>zJ P cs call ops (guards ops) η ops.toList 0 env H λenv' H'=>k .normal env' H'
  |false=>ε,Pd,Pd⟩
 |.region id ops ζ=>⟨λenv H k=>
  match P.follows .mixedOrders&&ABj ops N (AAb ops)&&V9 P ops&&qG env with
  |true=>AAp P cs call ops (IR ops.toList []) (guards ops) (match mO 3 id hs with|some _=>ζ|none=>η) (AAb ops) [] env H λenv' H'=>k .normal env' H'
  |false=>ε,Pd,Pd⟩
 |.rangeFunc f ps a b=>⟨AAe P call N me f ps a b,Pd,Pd⟩
 |_=>⟨Pd,Pd,Pd⟩
noncomputable def rZ(P:Program)(cs:List QJ)(call:R2)(N:Nat)(me:FuncId)(hs:List Hint)(c:Code):Sem:=(du P cs call N me hs c).main
def AGj{f:List Hint}(j:∀m r,I≠.seq m r)(env:BZ)(H:Ap)(g:Exit→BZ→Ap→Option R):
  rZ P e k N u f (.seq c I) env H g=vp (sG f c I) (Oo f (.seq c I)) (λenv H g=>rZ P e k N u f c env H λh d i=>match h with|.normal=>rZ P e k N u f I d i g|h=>g h d i) env H g:=by
 cases I<;>first|rfl|exact N! rfl (j _ _)
def Jj(P:Program)(N:Nat)(A:List Nat)(c:Code)(run:Sem):Prop:=∀{R:Type}(env:BZ)(H:Ap)(k:Exit->BZ->Ap->Option R)(r:R),No env H->run env H k=δ r->
 ∃e env' H',sK P N c (Bz env) (BJ H) (Ub e (Bz env') (BJ H'))/\k e env' H'=δ r/\No env' H'/\EH A env H env' H'
theorem ABr:∀{l:List (Nat×Ty)}{env:BZ}{H:Ap}{a:BZ}{b:Ap},No env H→ox l env H=δ (a,b)→
  No a b/\EH (l.map (·.1)) env H a b/\∀N,FU N (θ H) (Bz env) (BJ H) (Bz a) (BJ b)
 |[],env,H,a,b,ok,h=>by grind[ox,EH.refl,FU.refl,CW]
 |(t,ty)::r,env,H,a,b,ok,h=>by
  simp only[ox]at h;split at h;rename_i m;have st:CD H (H++[.buf η ty [] 0 0]):=CD.push H _;have g:(H++[Dv.buf η ty [] 0 0])[θ H]?=δ (.buf η ty [] 0 0):=k!
  have i:No (env.put t (.c (.own (θ H) 0 ty 0))) (H++[.buf η ty [] 0 0]):=by refine⟨bK (d:=δ t) (st.env ok.env) (Ji (V7 g)),λe f=>?_⟩;rcases Ak.1 f with f|f;exact st.ent (ok.heap e f);rw[BA.1 f];rfl
  obtain⟨q1,q2,q3⟩:=ABr i h;refine⟨q1,?_,λN=>?_⟩;have o:EH [t] env H (env.put t (.c (.own (θ H) 0 ty 0))) (H++[.buf η ty [] 0 0]):=⟨st,λu n _=>ov λe=>n (by simp[e])⟩
  exact EH.trans ok.env o q2;have w:=FU.virt (N:=N) (env:=Bz env) (H:=BJ H) (t:=t) (sz:=ty.sz) (by rw[UZ,m];rfl);have j:=(q3 N).of_le (n0:=θ H) k!;rw[jy]at j;have k:BJ (H++[.buf η ty [] 0 0])=BJ H++[.live 0 []]:=by simp[BJ,Dv.enc,R3.cl]
  rw[k]at j;rw[CW]at w;exact w.trans j;cases h
def qf:∀{n:Nat}{e x y:List Bv},tK n e=δ (x,y)->e=x++ .nil::y
 |0,[],_,_,h=>by cases h
 |0,z::r,x,y,h=>by
  cases z<;>simp only[tK]at h<;>try (cases h;done)
  injection h with h;injection h with c d;subst c d;rfl
 |n+1,[],_,_,h=>by cases h
 |n+1,z::r,x,y,h=>by simp only[tK]at h;split at h;rename_i a b hr;injection h with h;injection h with c d;subst c d;rw[qf hr];rfl;cases h
theorem zT{env:BZ}:∀{l:List (Nat×Nat×Ty)}{H c:Ap},No env H→kg l H=δ c→
  No env c/\CD H c/\∀N,FU N (θ H) (Bz env) (BJ H) (Bz env) (BJ c)
 |[],H,c,ok,h=>by grind[kg,Option.some.injEq,CD.refl,FU.refl,Bz,BJ,CW]
 |(b,i,ty)::r,H,c,ok,h=>by
  simp only[kg]at h;split at h;rename_i E v;split at h;rename_i x y B;have m:=qf B;subst m;have D:b<θ H:=q!
  have f:CD H (H++[Dv.buf η ty [] 0 0]):=CD.push H _;have a:H.set b (Dv.live η (x++Bv.own (θ H) 0 ty 0::y))++[Dv.buf η ty [] 0 0]=(H++[Dv.buf η ty [] 0 0]).set b (Dv.live η (x++Bv.own (θ H) 0 ty 0::y)):=q!
  have j:(H++[Dv.buf η ty [] 0 0])[b]?=δ (Dv.live η (x++Bv.nil::y)):=q!
  have g:CD (H++[Dv.buf η ty [] 0 0]) ((H++[Dv.buf η ty [] 0 0]).set b (Dv.live η (x++Bv.own (θ H) 0 ty 0::y))):=CD.set j rfl λ_ _ _ _ _ e=>by cases e
  have n:(H++[Dv.buf η ty [] 0 0])[θ H]?=δ (.buf η ty [] 0 0):=k!
  have t:lok H (x++Bv.nil::y):=ok.heap _ (BN v);have s:∀e∈H++[Dv.buf η ty [] 0 0],e.ok (H++[Dv.buf η ty [] 0 0]):=λe d=>by rcases Ak.1 d with d|d;exact f.ent (ok.heap e d);rw[BA.1 d];rfl
  have u:lok (H++[Dv.buf η ty [] 0 0]) (x++Bv.own (θ H) 0 ty 0::y):=by have q:=JE.1 (f.lok t);refine JE.2 ⟨q.1,λz o=>?_⟩;rcases Aw.1 o with rfl|o;exact V7 n;exact q.2 z (Ce _ o)
  rw[a]at h;have p:No env ((H++[Dv.buf η ty [] 0 0]).set b (Dv.live η (x++Bv.own (θ H) 0 ty 0::y))):=⟨g.env (f.env ok.env),heap_set g s (g.lok u)⟩
  obtain⟨q1,q2,q3⟩:=zT p h;refine⟨q1,(f.trans g).trans q2,λN=>?_⟩;have k:(BJ H)[b]?=δ (.live 0 (lvs (x++Bv.nil::y))):=by rw[EJ,v];rfl
  have C:(lvs (x++Bv.nil::y))[(lvs x).length]?=δ .nils:=by grind[Gs,Hn,Bv.enc]
  have w:=FU.virtC (N:=N) (env:=Bz env) (sz:=ty.sz) k C;have A:BJ ((H++[Dv.buf η ty [] 0 0]).set b (Dv.live η (x++Bv.own (θ H) 0 ty 0::y)))=(BJ H).set b (.live 0 ((lvs (x++Bv.nil::y)).set (lvs x).length (.sl (BJ H).length 0 ty.sz 0 0)))++[.live 0 []]:=by
   rw[<-a];have:(lvs (x++Bv.nil::y)).set (lvs x).length (.sl (BJ H).length 0 ty.sz 0 0)=lvs (x++Bv.own (θ H) 0 ty 0::y):=by grind[Gs,Hn,CW,Bv.enc]
   grind[BJ,Dv.enc,R3.cl,List.map_set]
  rw[<-A,CW]at w;exact w.trans ((q3 N).of_le k!);cases h;cases h
theorem ABf(ok:No g d)(b:AGV m g d=δ (J,A)):
  No J A/\EH (m.virt.map (·.1)) g d J A/\∀N,FU N (θ d) (Bz g) (BJ d) (Bz J) (BJ A):=by
 unfold AGV at b;split at b;rename_i e H n;obtain⟨a1,a2,a3⟩:=ABr ok n;split at b;rename_i f a;injection b with b;injection b with k l;subst k l;obtain⟨h,i,j⟩:=zT a1 a;have o:EH [] e H e f:=⟨i,λ_ _ _=>rfl⟩
 exact⟨h,(EH.trans ok.env a2 o).mono λt p=>q!,λN=>(a3 N).trans ((j N).of_le a2.step.len)⟩;cases b;cases b
theorem vP{A S:List Nat}{H:Ap}:∀{env:BZ},(env.map (·.1)).Nodup->∀t,env.get t=VD->(Qa A S H env).get t=VD
 |[],_,_,_=>rfl
 |(u,v)::r,nd,t,h=>by have a:=GI.1 nd;simp only[BZ.get]at h;by_cases b:u=t;subst b;have hn:∀p∈Qa A S H r,p.1≠u:=λp c e=>a.1 (Bs.2 ⟨p,(Q7 a.2 p c).2.2,e⟩);grind[Qa,BZ.get,mQ];rw[beq_false b]at h;have d:=vP (A:=A) (S:=S) (H:=H) a.2 t h;grind[Qa,BZ.get,beq_false]
theorem ABP{h:Hint}{A B:List Nat}{env0:BZ}{e:Ap}{D:BZ}{E:Ap}(m:No env0 e)(nd:(env0.map (·.1)).Nodup)(M:ze A (LH h.slots) env0 e D E)
  {env1:BZ}{u:Ap} (C:No env1 u) (st:EH B D E env1 u) (K:∀t,t∈B->t∈A) (J:∀t,t∈h.tmps->t∈A) {x:Exit}{o:xM h.exits} (Q:AAV h.exits x env1 u=δ o)
  {R:Type}{k:Exit->BZ->Ap->Option R}{r:R} (f:AGK h (θ e) (Qa A (LH h.slots) e env0) e (LH h.slots) k o=δ r) (N:Nat):
  ∃g i,FU N (θ e) (Bz env1) (BJ u) (Bz g) (BJ i)/\k x g i=δ r/\No g i/\EH A env0 e g i:=by
 obtain⟨rfl,L,p,S,y⟩:=wG Q;have f:=wF f;split at f;rename_i g i O;split at f;rename_i v;simp at v;have sub:∀j,JF j (LH (xN h.exits o).2.1)=η->JF j (LH h.slots)=η:=λj d=>V4 λG=>q!
 obtain⟨w,W,Y,z⟩:=AA9 m nd M C st K L m.heap rfl (AEA e) (λ_ _ _ _ q=>q) (λj H d c=>by
  cases H with
  |dead=>grind
  |live b V=>exact .inr ⟨_,sub j d,by rw[JD,c,DT,sub j d];rfl,rfl,.inr (.inl ⟨_,_,_,_,rfl,rfl,Dl.refl _⟩)⟩
  |buf b t l n U=>exact .inr ⟨_,sub j d,by rw[JD,c,DT,sub j d];rfl,rfl,.inr (.inr (.inl ⟨_,_,_,_,_,_,_,rfl,rfl⟩))⟩
  |mp b k t X=>exact .inr ⟨_,sub j d,by rw[JD,c,DT,sub j d];rfl,rfl,.inr (.inr (.inr (.inr ⟨_,_,_,_,_,rfl,rfl⟩)))⟩
  |lp ro F n env Z a b s=>exact .inr ⟨_,sub j d,by rw[JD,c,DT,sub j d];rfl,rfl,.inr (.inr (.inr (.inl ⟨_,_,_,_,_,_,_,_,_,rfl,rfl⟩)))⟩) O v.1 v.2.1 N
 refine⟨g,i,w,f,z.ok,z.step,λt T P=>?_⟩;have I:=V4 λG=>T (J t (by refine Ak.2 (.inr (Gl.2 ⟨p,S,?_⟩));rw[<-y];exact G));rw[z.get t I];grind[xz,VD,vP,lD,AD8,V4];cases f;cases f
def mP:Code->Code
 |.seq _ (.seq m r)=>mP (.seq m r)
 |.seq _ b=>b
 |c=>c
section
variable {P:Program}{N:Nat}{env:Env}{H:Au}{Q:Exit->Env->Au->Prop}{X:Nat->Prop}{h:Gh}{a:Act}{w:World}
def Zu(P:Program)(N:Nat):Code->Env->Au->(Exit->Env->Au->Prop)->Prop
 |.seq a (.seq m r),env,H,Q=>Jg P N a env H (dy (λe h=>Zu P N (.seq m r) e h Q) Q)
 |.seq a _,env,H,Q=>Jg P N a env H Q
 |_,_,_,_=>False
def Zu.mono{i:Exit->Env->Au->Prop}(l:∀e d g,Q e d g->i e d g):∀{c:Code}{env:Env}{H:Au},Zu P N c env H Q->Zu P N c env H i:=by
 intro c;induction c with
 |seq a b _ f=>
  intro env H h;by_cases j:∃m r,b=.seq m r;obtain⟨m,r,rfl⟩:=j;refine Jg.mono (show Jg P N a env H _ from h) λe E h k=>?_;cases e with
  |normal=>exact f k
  |_=>exact l _ _ _ k
  have e:∀Q,Zu P N (.seq a b) env H Q=Jg P N a env H Q:=λQ=>by cases b<;>first|rfl|exact N! ⟨_,_,rfl⟩ j
  rw[e]at h⊢;exact Jg.mono h l
 |_=>intro env H h;exact h.elim
def Zu.run:∀{c:Code}{env:Env}{H:Au}{h:Gh}{a:Act}{w:World},Zu P N c env H Q→St X h N env H a w→ZY B w→
  (∀e g d i b f,Q e b f->St X i N b f g d->G8 h H w i f d->Vj a w g d->Exit.then (λa w=>(mP c).wpIn (FR B) 0 P p a w) p e g d)->c.wpIn (FR B) 0 P p a w:=by
 intro c;induction c with
 |seq x y _ u=>
  intro env H h a w K s k o;by_cases t:∃m B,y=.seq m B;obtain⟨m,y,rfl⟩:=t;refine wpIn_seq (wpIn_mono ((show Jg P N x env H _ from K) B X h a w s k) ?_);rintro e g d ⟨i,b,f,q,l,j,n⟩;cases e with
  |normal=>exact u q l (k.later j) λe a2 F D env2 z q2 E v A=>o e a2 F D env2 z q2 E (j.trans v) (n.trans l.sim j v A)
  |_=>exact o _ g d i b f q l j n
  have r:Zu P N (.seq x y) env H Q=Jg P N x env H Q:=by cases y<;>first|rfl|exact N! ⟨_,_,rfl⟩ t
  have C:mP (.seq x y)=y:=by cases y<;>first|rfl|exact N! ⟨_,_,rfl⟩ t
  rw[r]at K;rw[C]at o;refine wpIn_seq (wpIn_mono (K B X h a w s k) ?_);rintro e g d ⟨i,b,f,q,l,j,n⟩;exact o e g d i b f q l j n
 |_=>intro env H h a w K;exact K.elim
def jO(P:Program)(N:Nat)(c:Code)(env:Env)(H:Au)(Q:Exit->Env->Au->Prop):Prop:=
 ∀(r:Option Nat)(X:Nat->Prop)(h:Gh)(a:Act)(w:World)(K:Exit->Act->World->Prop),St X h N env H a w->ZY r w->
  (∀e a' w' h' env' H',Q e env' H'->St X h' N env' H' a' w'->G8 h H w h' H' w'->Vj a w a' w'->K e a' w')->
  (mP c).wpIn (FR r) 0 P (Exit.then (λa w=>kT (FR r) 0 P c K a w) K) a w
def Zu.loop(hn:θ H=y)(K:Zu P N c env H (dy (λenv2 l=>∃d m,FU N y env2 l d m∧jO P N c d m Q) Q))(s:St X h N env H a w)(k:ZY B w)
  (v:∀e i f j b g,Q e b g->St X j N b g i f->G8 h H w j g f->Vj a w i f->p e i f):kT (FR B) 0 P c p a w:=by
 refine bI (Zu.run K s k λe a2 n u env2 l q z C t=>?_);cases e with
 |normal=>obtain⟨d,m,x,G⟩:=q;obtain⟨E,A,F,I⟩:=x.2 X u a2 n z;have o:=FU.ext hn x.1 F I C;exact G B X E a2 n p A (k.later o) λe i f j b g J L r D=>v e i f j b g J L (o.trans r) (t.trans A.sim o r D)
 |_=>exact v _ a2 n u env2 l q z C t
def dA(p:Zu P N c env H (dy (λenv2 i=>∃b f,FU N (θ H) env2 i b f/\jO P N c b f Q) Q)):Ht P N c env H Q:=λr X g a w s k=>Zu.loop rfl p s k λe o t l d h q m n j=>⟨l,d,h,q,m,n,j⟩
def jO.unroll(p:Jg P N (mP c) env H (dy (λenv1 j=>Zu P N c env1 j (dy (λenv2 l=>∃b m,FU N (θ H) env2 l b m/\jO P N c b m Q) Q)) Q)):jO P N c env H Q:=by
 intro r X g a w K s k n;apply wpIn_mono (p r X g a w s k);rintro e a1 V ⟨J,env1,j,q,o,i,v⟩;cases e with
 |normal=>
  refine bI (Zu.run q o (k.later i) λe a2 t x env2 l q z C G=>?_);have h:=i.trans C;have d:=v.trans o.sim i C G;cases e with
  |normal=>obtain⟨b,m,y,O⟩:=q;obtain⟨L,A,M,R⟩:=y.2 X x a2 t z;have u:=FU.ext rfl y.1 M R h;exact O r X L a2 t K A (k.later u) λe E U I f D S T B F=>n e E U I f D S T (u.trans B) (d.trans A.sim u B F)
  |_=>exact n _ a2 t x env2 l q z h d
 |_=>exact n _ a1 V J env1 j q o i v
def jO.after(p:jO P N c env H (λe b f=>∃env2 d,FU N (θ H) b f env2 d/\Q e env2 d)):jO P N c env H Q:=by intro r X g a w K s k o;refine p r X g a w K s k λe h j m b f ⟨env2,d,i,q⟩ v y l=>?_;obtain⟨n,x,t,u⟩:=i.2 X m h j v;exact o e h j n env2 d q x (FU.ext rfl i.1 t u y) l
end
variable {P:Program}{N:Nat}
variable {i:Sem}{O:ADJ}
theorem yl{h:Hint}(hr:Jj P N v c i)(n:∀t,t∈v->t∈b)(m:∀t,t∈h.tmps->t∈b):Jj P N b c (AD6 h b i):=by
 intro R env H k r ok a;unfold AD6 at a;dsimp only at a;split at a;cases a;rename_i env0 f A;split at a;cases a;rename_i hn;obtain⟨o,s,a⟩:=bnd a;obtain⟨B,x,y⟩:=ABf ok A;have nd:=Zp hn;obtain⟨e,env1,z,a1,k1,g,d⟩:=hr env0 (KM (LH h.slots) 0 f) _ o (kS B) s;have q:ze b (LH h.slots) env0 f env0 (KM (LH h.slots) 0 f):=⟨kS B,CD.refl _,IP _ _,λ_ _=>rfl,λp u=>(Q7 nd p u).1⟩
 obtain⟨j,l,w,q1,q2,q3⟩:=ABP B nd q g d n m k1 a N;refine⟨e,j,l,?_,q1,q2,?_⟩;rw[qA]at a1;refine sK.weak (by rw[CW];exact y N) (sK.after (a1.mono ?_));rintro _ _ _ ⟨rfl,rfl,rfl⟩;exact⟨_,_,by rw[CW];exact w,rfl,rfl,rfl⟩;exact(EH.trans ok.env x q3).mono λt C=>by grind[Hint.tmps]
def AG3(L0:Env->Au->(Exit->Env->Au->Prop)->Prop)(A:List Nat)(run:Sem):Prop:=∀{R:Type}(env:BZ)(H:Ap)(k:Exit->BZ->Ap->Option R)(r:R),No env H->run env H k=δ r->
 ∃e env' H',L0 (Bz env) (BJ H) (Ub e (Bz env') (BJ H'))/\k e env' H'=δ r/\No env' H'/\EH A env H env' H'
theorem yr{L0 L:Env→Au→(Exit→Env→Au→Prop)→Prop}(V:∀{env:Env}{H:Au}{Q Q':Exit→Env→Au→Prop},(∀e f U,Q e f U→Q' e f U)→L0 env H Q→L0 env H Q')
  (hu:∀{env:Env}{H:Au}{Q:Exit->Env->Au->Prop},L0 env H (dy (λf U=>∃env2 J,FU N (θ H) f U env2 J/\L env2 J Q) Q)->L env H Q)
  (ha:∀{env:Env}{H:Au}{Q:Exit->Env->Au->Prop},L env H (λe f U=>∃env2 J,FU N (θ H) f U env2 J/\Q e env2 J)->L env H Q)
  {A B:List Nat}{h:Hint}{run:Sem} (hr:AG3 L0 B run) (hB:∀t,t∈B->t∈A) (hA:∀t,t∈h.tmps->t∈A) {R:Type} (env:BZ) (H:Ap) (k:Exit->BZ->Ap->Option R) (r:R) (ok:No env H) (m:vt h A run env H k=δ r):
  ∃i g x u v,FU N (θ H) (Bz env) (BJ H) (Bz i) (BJ g)/\L (Bz i) (BJ g) (Ub x (Bz u) (BJ v))/\k x u v=δ r/\No u v/\EH A env H u v:=by
 unfold vt at m;dsimp only at m;split at m;cases m
 ·rename_i G Hv hv;obtain⟨bb,sv,wv⟩:=ABf ok hv;obtain⟨y,sf,wf⟩:=RF (h.kill++mU G Hv h.slots) bb;generalize IT (h.kill++mU G Hv h.slots) G Hv=fz at m y sf wf;obtain⟨env0,d⟩:=fz;simp only at m y sf wf;split at m
  ·rename_i ds hn hc;split at m
   ·rename_i s0 a7;obtain⟨o,ho,m⟩:=bnd m;have nd:=Zp hn;have z:∀e∈KM (LH h.slots) 0 d,e.ok (KM (LH h.slots) 0 d):=(kS y).heap;have hC:=AAK (C:=λs o=>∀r,AGK h (θ d) (Qa A (LH h.slots) d env0) d (LH h.slots) k o=δ r->
     ∃i g,V3 h.slots (dvs (dv h.slots) s) (Qa A (LH h.slots) d env0) (KM (LH h.slots) 0 d)=δ (i,g)/\ut (θ d) i=ζ/\ly (θ d) g=ζ/\(ze A (LH h.slots) env0 d i g->∃x u v,L (Bz i) (BJ g) (Ub x (Bz u) (BJ v))/\k x u v=δ r/\No u v/\EH A env0 d u v)) (λs q Y=>by
     split at Y
     ·rename_i i g hi;split at Y
      ·rename_i I;simp only[BW]at I;have body:∀D:ze A (LH h.slots) env0 d i g,∃e env1 K,L0 (Bz i) (BJ g) (Ub e (Bz env1) (BJ K))/\ABU h e env1 K=δ q/\No env1 K/\EH B i g env1 K:=λD=>hr i g _ q D.ok Y;cases q with
       |next s'=>
        intro o ih r m;obtain⟨ad,ap,i1,i2,i3,i4⟩:=ih r m;refine⟨i,g,hi,I.1,I.2,λD=>?_⟩;obtain⟨e,env1,K,a1,k1,S,T⟩:=body D;unfold ABU at k1;split at k1;rename_i hx;have:=tQ hx;subst this;split at k1;rename_i s1 a8;injection k1 with k1;injection k1 with k1;subst k1;have a2:=nA a8;obtain⟨w,ea,ha,E⟩:=AA9 (Hx:=KM (LH h.slots) 0 d) y nd D S T hB a2 z (IP _ _) (.refl _) (λ_ _ _ _ q=>nL q) (λj e' O c=>by
         cases hH:d[j]? with
         |none=>grind[JD]
         |some Z=>
          have hl:=c;rw[JD,hH,DT,O]at c;simp only[Bt,Ao]at c;subst c;cases Z with
          |dead=>exact .inl rfl
          |live b cs=>exact .inr ⟨_,O,hl,rfl,.inr (.inl ⟨_,_,_,_,rfl,rfl,Dl.refl _⟩)⟩
          |buf b t l n bl=>exact .inr ⟨_,O,hl,rfl,.inr (.inr (.inl ⟨_,_,_,_,_,_,_,rfl,rfl⟩))⟩
          |mp b k t es=>exact .inr ⟨_,O,hl,rfl,.inr (.inr (.inr (.inr ⟨_,_,_,_,_,rfl,rfl⟩)))⟩
          |lp ro F n env ps a b s=>exact .inr ⟨_,O,hl,rfl,.inr (.inr (.inr (.inl ⟨_,_,_,_,_,_,_,_,_,rfl,rfl⟩)))⟩) i1 i2 i3 N
        have a3:ze A (LH h.slots) env0 d ad ap:=⟨E.ok,E.step,by rw[E.len,IP],E.same,λp P=>by
         obtain⟨X,b2,b3⟩:=Q7 nd p P;have M:JF p.1 A=η:=by grind[iL,JF]
         rw[E.get p.1 (V4 λV=>UE M (hA _ (by unfold Hint.tmps;simp only[List.mem_append];exact .inl (.inr V))))];rw[lD nd p.1 (by rw[X];exact b2)];exact X⟩
        obtain⟨x,u,v,l1,l2,l3,l4⟩:=i4 a3;refine⟨x,u,v,hu (V ?_ a1),l2,l3,l4⟩;rintro _ _ _ ⟨rfl,rfl,rfl⟩;exact⟨_,_,by rw[CW,D.len];exact w,l1⟩;cases k1;split at k1<;>grind
       |done o=>
        intro r m;refine⟨i,g,hi,I.1,I.2,λD=>?_⟩;obtain⟨e,env1,K,a1,k1,S,T⟩:=body D;unfold ABU at k1;split at k1;split at k1<;>grind;rename_i hx;split at k1;rename_i o1 a6;injection k1 with k1;injection k1 with k1;subst k1;obtain⟨u,v,w,q1,q2,q3⟩:=ABP y nd D S T hB hA a6 m N;have a5:e≠.normal:=by rintro rfl;cases hx
        refine⟨e,u,v,ha (hu (V ?_ a1)),q1,q2,q3⟩;intro e1 al bm a9;obtain⟨ar,ax,a0⟩:=a9;subst ar ax a0;have ao:∃env2 J,FU N (BJ g).length (Bz env1) (BJ K) env2 J/\Ub e1 (Bz u) (BJ v) e1 env2 J:=⟨_,_,by rw[CW,D.len];exact w,rfl,rfl,rfl⟩
        cases e1 with
        |normal=>exact(a5 rfl).elim
        |_=>exact ao
        cases k1
      cases Y
     cases Y) ho
    obtain⟨i,g,i1,i2,i3,i4⟩:=hC r m;have a4:=qF a7;rw[a4]at i1;have a':No (Qa A (LH h.slots) d env0) (KM (LH h.slots) 0 d):=⟨λp P=>(kS y).env p (Q7 nd p P).2.2,z⟩
    have E:=MO y hc i1 a' (by rw[IP];exact An _) (λp P=>⟨p.2,(Q7 nd p P).2.2,Wf.refl _⟩) (λj e' O c=>by
     rw[JD]at c;cases hH:d[j]? with
     |none=>rw[hH]at c;cases c
     |some Z=>
      rw[hH,DT,O]at c;simp only[Bt,Ao]at c;subst c;refine⟨Z,rfl,?_⟩;cases Z with
      |dead=>exact .inl rfl
      |live b cs=>exact .inr (.inl ⟨_,_,_,_,rfl,rfl,Dl.refl _⟩)
      |buf b t l n bl=>exact .inr (.inr (.inl ⟨_,_,_,_,_,_,_,rfl,rfl⟩))
      |mp b k t es=>exact .inr (.inr (.inr (.inr ⟨_,_,_,_,_,rfl,rfl⟩)))
      |lp ro F n env ps a b s=>exact .inr (.inr (.inr (.inl ⟨_,_,_,_,_,_,_,_,_,rfl,rfl⟩)))) (AGG d)
    have w:=E.weak (N:=N) (by rw[IP];exact An _) (by rw[IP];exact i2) (by rw[IP];exact i3);rw[IP]at w;have D:ze A (LH h.slots) env0 d i g:=⟨E.ok,E.step,by rw[E.len,IP],E.same,λp P=>by
     obtain⟨X,b2,b3⟩:=Q7 nd p P;have M:JF p.1 A=η:=by grind[iL,JF]
     rw[E.get p.1 (V4 λV=>UE M (hA _ (by unfold Hint.tmps;simp only[List.mem_append];exact .inl (.inr V))))];rw[lD nd p.1 (by rw[X];exact b2)];exact X⟩
    obtain⟨x,u,v,l1,l2,l3,l4⟩:=i4 D;have w3:FU N (θ H) (Bz env) (BJ H) (Bz i) (BJ g):=((wv N).trans ((wf N).of_le (by rw[CW];exact sv.step.len))).trans (w.of_le (Ct sv.step.len sf.step.len));refine⟨_,_,x,u,v,w3,l1,l2,l3,?_⟩;exact(EH.trans ok.env (EH.trans ok.env sv sf) l4).mono λt W=>by rcases Ak.1 W with W|W;rw[DN]at W;exact hA t (by unfold Hint.tmps;simp only[List.mem_append];exact .inl (.inl (.inr W)));exact W
   cases m
  cases m
def AEC(hr:Jj P N v c i)(B:∀t,t∈v->t∈b)(l:∀t,t∈m.tmps->t∈b):Jj P N b (.loop c) (vt m b i):=by
 intro R env H k r ok f;obtain⟨s,u,x,A,j,w,l1,l2,o,p⟩:=yr (N:=N) (L0:=λenv H Q=>Jg P N c env H Q) (L:=λenv H Q=>Ht P N c env H Q) (λn a=>a.mono n) (λa=>Ht.unroll a) (λa=>Ht.after a)
  (λenv H k r ok f=>by obtain⟨e,h,g,a,q⟩:=hr env H k r ok f;exact⟨e,h,g,a.awp,q⟩) B l env H k r ok f
 exact⟨x,A,j,sK.weak (by rw[CW];exact w) l1,l2,o,p⟩
def AA5(P:Program)(N:Nat)(A:List Nat)(c:Code)(run:Sem):Prop:=AG3 (Zu P N c) A run
def AEE(n:AA5 P N v c O.pre)(y:Jj P N v (mP c) O.suf)(i:∀t,t∈v->t∈b)(h:∀t,t∈m.tmps->t∈b):Jj P N b (.loop c) (ABc m b O):=by
 intro R env H k r ok g;unfold ABc at g;obtain⟨e,env1,f,a1,k1,B,d⟩:=n env H _ r ok g;cases e with
 |normal=>
  obtain⟨A,I,x,q,u,w,l1,l2,D,F⟩:=yr (N:=N) (L0:=λenv H Q=>Jg P N (mP c) env H (dy (λe m=>Zu P N c e m Q) Q)) (L:=λenv H Q=>jO P N c env H Q)
   (λo a=>a.mono λe E m z=>by
    cases e with
    |normal=>exact Zu.mono o z
    |_=>exact o _ _ _ z) (λ{env H Q} a=>jO.unroll (a.mono λe E m z=>by
    cases e<;>exact z)) (λa=>jO.after a)
   (B:=v) (run:=AEt O.suf O.pre) (λenv H k r ok g=>by
    obtain⟨e,env1,f,a1,k1,B,d⟩:=y env H _ r ok g;cases e with
    |normal=>obtain⟨A,env2,p,a2,C,l,G⟩:=n env1 f k r B k1;refine⟨A,env2,p,a1.awp.mono ?_,C,l,(EH.trans ok.env d G).mono λt j=>(Ak.1 j).elim id id⟩;rintro _ _ _ ⟨rfl,rfl,rfl⟩;exact a2
    |_=>refine⟨_,env1,f,a1.awp.mono ?_,k1,B,d⟩;rintro _ _ _ ⟨rfl,rfl,rfl⟩;exact⟨rfl,rfl,rfl⟩) i h env1 f k r B k1
  refine⟨x,q,u,dA (Zu.mono ?_ a1),l2,D,(EH.trans ok.env d F).mono λt j=>(Ak.1 j).elim (i t) id⟩;rintro _ _ _ ⟨rfl,rfl,rfl⟩;exact⟨_,_,w.of_le (by rw[CW];exact d.step.len),l1⟩
 |_=>refine⟨_,env1,f,dA (Zu.mono ?_ a1),k1,B,d.mono i⟩;rintro _ _ _ ⟨rfl,rfl,rfl⟩;exact⟨rfl,rfl,rfl⟩
def ADk{A B:List Nat}{j:Sem}(l:Jj P N A c i)(m:Jj P N B I j):Jj P N (A++B) (.cond F c I) (ABJ F i j):=by
 intro R env H k r ok f;unfold ABJ at f;dsimp only at f;split at f;rename_i v n;have a:BO (Bz env) F=.bool v:=by have:=LN env F;rw[n]at this;exact this
 cases v with
 |true=>obtain⟨e,d,g,a1,q1,q2,q3⟩:=l env H k r ok f;exact⟨e,d,g,EF (λ_ e=>by cases e) (Jg.cond a (λ_=>a1.awp) (λe=>by cases e)),q1,q2,q3.mono λt h=>Ak.2 (.inl h)⟩
 |false=>obtain⟨e,d,g,a1,q1,q2,q3⟩:=m env H k r ok f;exact⟨e,d,g,EF (λ_ e=>by cases e) (Jg.cond a (λe=>by cases e) (λ_=>a1.awp)),q1,q2,q3.mono λt h=>Ak.2 (.inr h)⟩
 cases f
def AB9{A:List Nat}(hr:Jj P N A c i):Jj P N A (.block q c) (zo q i):=by
 intro R env H k r ok d;obtain⟨e,a,f,a1,q1,q2,q3⟩:=hr env H _ r ok d;cases e with
 |exit b=>
  simp only at q1;split at q1;rename_i h;have:=DA h;refine⟨.normal,a,f,EF (λ_ e=>by cases e) (Jg.block (a1.awp.mono ?_)),q1,q2,q3⟩;rintro _ _ _ ⟨rfl,rfl,rfl⟩;simp only[pO,C! this];exact⟨rfl,rfl,rfl⟩;rename_i h;have g:b≠q:=λe=>t!
  refine⟨.exit b,a,f,EF (λ_ e=>by cases e) (Jg.block (a1.awp.mono ?_)),q1,q2,q3⟩;rintro _ _ _ ⟨rfl,rfl,rfl⟩;simp only[pO,D! g];exact⟨rfl,rfl,rfl⟩
 |_=>refine⟨_,a,f,EF (λ_ e=>by cases e) (Jg.block (a1.awp.mono ?_)),q1,q2,q3⟩;rintro _ _ _ ⟨rfl,rfl,rfl⟩;exact⟨rfl,rfl,rfl⟩
end Go.Ab
namespace Go.Ab
variable {b v:List Nat}{N q y:Nat}{c I:Code}{d A:Ap}{R:Type}{e:List QJ}{g J M:BZ}{i:Sem}{j:List Ob}{k:R2}{l:Env}{s:Ac}{P:Program}{t:List Ac}{u:FuncId}{z:Bool}{C:Xv}{F:Operand}{G:List TV}{O:ADJ}
section
variable {P:Program}{N:Nat}{env:Env}{H:Au}{Q:Exit->Env->Au->Prop}{X:Nat->Prop}{h:Gh}{w:World}
def zW(N:Nat)(env:Env)(H:Au)(env2:Env)(H2:Au):Prop:=
 ∀(X:Nat->Prop)(h:Gh)(a:Act)(w:World),St X h N env H a w->∃h2,St X h2 N env2 H2 a w/\G8 h H w h2 H2 w
def Jg.afterG(h:Jg P N c env H (λe b f=>∃env2 d,zW N b f env2 d/\Q e env2 d)):Jg P N c env H Q:=by intro r X g a w s k;apply wpIn_mono (h r X g a w s k);rintro e i t ⟨l,b,f,⟨env2,d,n,q⟩,o,u,j⟩;obtain⟨m,p,v⟩:=n X l i t o;exact⟨m,env2,d,q,p,u.trans v,j⟩
def Ht.afterG(h:Ht P N c env H (λe b f=>∃env2 d,zW N b f env2 d/\Q e env2 d)):Ht P N c env H Q:=by intro r X g a w s k;apply WW (h r X g a w s k);rintro e i t ⟨l,b,f,⟨env2,d,n,q⟩,o,u,j⟩;obtain⟨m,p,v⟩:=n X l i t o;exact⟨m,env2,d,q,p,u.trans v,j⟩
def sK.afterG(h:sK P N c env H (λe a d=>∃env2 b,zW N a d env2 b/\Q e env2 b)):sK P N c env H Q:=by
 cases c with
 |loop x=>exact Ht.afterG h
 |_=>exact Jg.afterG h
def mvH(H:Au)(n m:Nat)(e:Fk):Au:=(H.set n e).set m .dead
def gr{e f:Fk}(g:N≠q)(hn:N<θ H)(a:(mvH H N q f)[y]?=δ e)(d:e≠.dead):(y=N/\e=f)\/(y≠N/\y≠q/\H[y]?=δ e):=by unfold mvH at a;by_cases b:y=q;subst b;rw[TY]at a;rw[C! rfl]at a;split at a;injection a with a;exact N! a.symm d;cases a;rw[DW (λn=>b n.symm)]at a;by_cases c:y=N;subst c;rw[Gy hn]at a;injection a with a;exact .inl ⟨rfl,a.symm⟩;rw[DW (λn=>c n.symm)]at a;exact .inr ⟨c,b,a⟩
def G8.mv{n m gn b:Nat}{cn d:List Ac}(s:I1 X h H w)(hn:H[n]?=δ (.live gn cn))(j:H[m]?=δ (.live b d))(f:n≠m)(v:gn<b):G8 h H w (h.at_ n (h.io m) (h.gen m) (h.cap m)) (mvH H n m (.live b d)) w:=by have i:h.gen n=gn:=(s.live n gn cn hn).1;have g:h.gen m=b:=(s.live m b d j).1;have p:n<θ H:=(EP.1 hn).1;refine⟨rfl,rfl,rfl,An _,λ_ _ _=>rfl,by simp[mvH],λid _=>?_,λid _ e=>?_,λB t=>?_,λ_ r hr=>⟨r,hr⟩⟩;simp only[Gh.at_];split;rename_i q;rw[q,i,g];omega;exact An _;simp only[Gh.at_]at e⊢;split at e;rename_i q;rw[q,i,g]at e;omega;rename_i q;simp[q];obtain⟨id,e,o,c,a⟩:=t;rcases gr f p o c with⟨rfl,rfl⟩|⟨k,u,l⟩;simp only[Gh.at_,if_true]at a;exact .inl ⟨m,_,j,k!,a⟩;simp only[Gh.at_,D! k]at a;exact .inl ⟨id,e,l,c,a⟩
def I1.mv{n m gn Q:Nat}{cn Y:List Ac}(s:I1 X h H w)(hn:H[n]?=some (.live gn cn))(O:H[m]?=some (.live Q Y))(d:n≠m)(hg:gn<Q):I1 X (h.at_ n (h.io m) (h.gen m) (h.cap m)) (mvH H n m (.live Q Y)) w:=by
 have hx:=G8.mv s hn O d hg;have E:=hx.later X;have F:n<H.length:=(EP.1 hn).1;refine⟨λB U=>⟨(s.out B U).1,λho=>?_⟩,λid g Z A=>?_,λid L A=>?_,λid M e e' B A K D i o c=>?_,λid e A V=>?_⟩;rcases hx.fresh B ho with q|q;exact(s.out B U).2 q;have:=(s.out B U).1;omega;rcases gr d F A k! with⟨rfl,q⟩|⟨l,N,y⟩;injection q with q1 q2;subst q1 q2;obtain⟨a,b⟩:=s.live m g Z O;refine⟨by simp[cx,Gh.at_];exact a,?_⟩;rcases b with⟨p,u⟩|⟨B,z,T,P,f,p,u,G,I,J,x⟩;exact .inl ⟨by simp only[cx,Gh.at_,if_true];exact p,u⟩;exact .inr ⟨B,z,T,P,f,by simp only[cx,Gh.at_,if_true];exact p,u,by simp only[cx,Gh.at_,if_true];exact G,I,J,λj v C=>⟨(x j v C).1,(x j v C).2.1,(x j v C).2.2.later E⟩⟩;obtain⟨a,b⟩:=s.live id g Z y;refine⟨by simp only[cx,Gh.at_,if_neg l];exact a,?_⟩;rcases b with⟨p,u⟩|⟨B,z,T,P,f,p,u,G,I,J,x⟩;exact .inl ⟨by simp only[cx,Gh.at_,if_neg l];exact p,u⟩;exact .inr ⟨B,z,T,P,f,by simp only[cx,Gh.at_,if_neg l];exact p,u,by simp only[cx,Gh.at_,if_neg l];exact G,I,J,λj v C=>⟨(x j v C).1,(x j v C).2.1,(x j v C).2.2.later E⟩⟩;rcases gr d F A k! with⟨rfl,q⟩|⟨l,N,y⟩;cases q;obtain⟨a,B,r,p,u,G,I,J,x,b7,b8,W⟩:=s.lp id L y;exact⟨by simp only[cx,Gh.at_,if_neg l];exact a,B,r,by simp only[cx,Gh.at_,if_neg l];exact p,u,G,I,J,x,b7,b8,λt v hv=>⟨(W t v hv).1,(W t v hv).2.later E⟩⟩;rcases gr d F A D with⟨q1,q2⟩|⟨l,N,y⟩;rcases gr d F K i with⟨q3,q4⟩|⟨R,h5,S⟩;rw[q1,q3];subst q1;simp only[Gh.at_,if_true]at o;simp only[Gh.at_,if_neg R]at c;exact absurd (s.inj m M _ _ B O S k! i o c).symm h5;rcases gr d F K i with⟨q3,q4⟩|⟨R,h5,S⟩;subst q3;simp only[Gh.at_,if_true]at c;simp only[Gh.at_,if_neg l]at o;exact absurd (s.inj id m _ _ B y O D k! o c) N;simp only[Gh.at_,if_neg l]at o;simp only[Gh.at_,if_neg R]at c;exact s.inj id M e e' B y S D i o c;rcases gr d F A (by rintro rfl;cases V)with⟨rfl,q⟩|⟨l,N,y⟩;subst q;cases V;have b:=s.bld id e y V;cases e with
 |mp k es=>simpa only[BAt,Gh.at_,if_neg l]using b
 |it k sn=>simpa only[BAt,Gh.at_,if_neg l]using b
 |_=>trivial
def zW.mv{n m gn b:Nat}{cn f:List Ac}(hn:H[n]?=δ (.live gn cn))(i:H[m]?=δ (.live b f))(e:n≠m)(C:gn<b)
  (A:∀t v,(t,v)∈l->(t,v)∈env\/∃sz d len,v=.sl n b sz d len/\(t,Ac.sl m b sz d len)∈env):zW N env H l (mvH H n m (.live b f)):=by
 intro X h a w s;have o:=G8.mv s.sim hn i e C;have j:h.gen m=b:=(s.sim.live m b f i).1;have y:n<θ H:=(EP.1 hn).1;refine⟨_,⟨s.sim.mv hn i e C,λt v z=>?_,s.size⟩,o⟩;rcases A t v z with q|⟨sz,d,len,rfl,q⟩;exact⟨(s.env t v q).1,(s.env t v q).2.later (o.later X)⟩;obtain⟨p,k⟩:=s.env t _ q;refine⟨p,?_⟩;generalize a.tmps.getD t undef=c at k;cases k with
 |sl x u g r=>refine .sl (by simp[cx,mvH];exact y) (by simp only[cx,Gh.at_,if_true];rw[j];exact An _) g λ_=>?_;rcases r j with q|⟨B,cap,q1,q2,q3,q4⟩;exact .inl ⟨by simp only[cx,Gh.at_,if_true];exact q.1,q.2⟩;exact .inr ⟨B,cap,by simp only[cx,Gh.at_,if_true];exact q1,q2,by simp only[cx,Gh.at_,if_true];exact q3,q4⟩
end
section
variable {R:Type}{P:Program}{N:Nat}
def zW.refl(N:Nat)(env:Env)(H:Au):zW N env H env H:=λ_ h _ w s=>⟨h,s,G8.refl h H w⟩
def zW.trans{N:Nat}{f g i:Env}{c d e:Au}(a:zW N f c g d)(b:zW N g d i e):zW N f c i e:=λX h x w s=>by obtain⟨j,l,n⟩:=a X h x w s;obtain⟨k,m,o⟩:=b X j x w l;exact⟨k,m,n.trans o⟩
def AH5{k:BZ->Ap->Option R}{r:R}(ok:No g d)(h:mv1 q y g d k=δ r):∃a E,zW N (Bz g) (BJ d) (Bz a) (BJ E)/\k a E=δ r/\No a E/\EH [q] g d a E:=by
 have same:k g d=δ r->∃a E,zW N (Bz g) (BJ d) (Bz a) (BJ E)/\k a E=δ r/\No a E/\EH [q] g d a E:=λH=>⟨g,d,.refl _ _ _,H,ok,⟨.refl d,λ_ _ _=>rfl⟩⟩
 unfold mv1 at h;split at h;rename_i m j e J I;split at h;exact same h;rename_i b;have b:m≠y:=λH=>by rw[H,Hy]at b;cases b
 split at h;rename_i U l1 F l V l2 c W hn w;split at h;rename_i D z;have D:=DA D;subst D;simp only[BW]at z;have x:=Ty.beq_eq _ _ z.1;have n:=Ty.beq_eq _ _ z.2;injection x with x;injection n with n;subst x n;cases f:τ (F<c)with
 |false=>rw[f]at h;cases h
 |true=>
  rw[f,B!]at h;have f:F<c:=M! f;have hr:Sp d m j e J:=by have:=kN ok.env q;rw[I]at this;exact this (.own m j e J) (by simp[TV.refs])
  obtain⟨_,A⟩:=hr.2 _ _ _ _ _ w;obtain⟨_,A⟩:=A rfl;subst A;have K:CD d (d.set y (.buf η e l2 c (l+1))):=CD.set hn rfl λ_ _ _ _ _ H=>by cases H;exact⟨_,_,_,_,rfl,.inl (Nat.lt_succ_self _)⟩
  have B:(d.set y (.buf η e l2 c (l+1)))[m]?=δ (.buf η e l2 c j):=by rw[DW (λH=>b H.symm)];exact w
  have L:CD (d.set y (.buf η e l2 c (l+1))) ((d.set y (.buf η e l2 c (l+1))).set m .dead):=CD.set B rfl λ_ _ _ _ _ H=>by cases H
  have st:=K.trans L;have C:c=θ l2:=ok.heap _ (BN w);have i:y<θ d:=(EP.1 hn).1;have o:=RN K ok.heap (show Dv.ok _ (.buf η e l2 c (l+1))from C);refine⟨_,_,?_,h,⟨bK (d:=δ q) (st.env ok.env) ?_,RN L o trivial⟩,⟨st,λu p _=>?_⟩⟩;have O:BJ ((d.set y (.buf η e l2 c (l+1))).set m .dead)=mvH (BJ d) y m (.live c (e.E.cl l2)):=by rw[Kx,Kx];rfl
  rw[O];refine zW.mv (gn:=F) (cn:=e.E.cl l1) (by rw[EJ,hn];rfl) (by rw[EJ,w];rfl) (λH=>b H.symm) f (λu v p=>?_);rw[jy]at p;unfold Env.put at p;rcases Aw.1 p with H|H;injection H with q1 q2;subst q1 q2;refine .inr ⟨e.sz,0,c,rfl,?_⟩;exact Bs.2 ⟨_,Yu I (λH=>by cases H),rfl⟩;exact .inl (BU.1 H).1;refine Ji ⟨by simpa using i,λP T Q S M G=>?_⟩;rw[DW b,Gy i]at G;cases G;exact⟨An _,λ_=>⟨rfl,rfl⟩⟩;have s:u≠q:=λH=>p (by simp[H]);unfold BZ.put;simp only[BZ.get];rw[beq_false (λH=>s H.symm)];exact rp s g
 cases h;exact same h;exact same h
def AAR:∀{j:List Ob}{env:BZ}{H:Ap}{k:BZ->Ap->Option R}{r:R},No env H->mvs j env H k=δ r->∃f i,zW N (Bz env) (BJ H) (Bz f) (BJ i)/\k f i=δ r/\No f i/\EH (Vi j) env H f i
 |[],env,H,k,r,ok,h=>⟨env,H,.refl _ _ _,h,ok,⟨.refl H,λ_ _ _=>rfl⟩⟩
 |s::j,env,H,k,r,ok,h=>by
  have l:mvs j env H k=δ r->(∀t,t∈Vi j->t∈Vi (s::j))->∃f i,zW N (Bz env) (BJ H) (Bz f) (BJ i)/\k f i=δ r/\No f i/\EH (Vi (s::j)) env H f i:=λq A=>by obtain⟨e,i,a,b,c,d⟩:=AAR ok q;exact⟨e,i,a,b,c,d.mono A⟩
  cases s with
  |g t n=>simp only[mvs]at h;obtain⟨E,D,a1,o,v,x⟩:=AH5 (N:=N) ok h;obtain⟨z,m,a2,p,w,y⟩:=AAR v o;exact⟨z,m,a1.trans a2,p,w,(x.trans ok.env y).mono λu C=>by simpa[Vi]using C⟩
  |_=>exact l h λt B=>by simp[Vi,B]
def AEM(hr:Jj P N v c i)(A:∀t,t∈v->t∈b)(o:∀t,t∈Vi j->t∈b):Jj P N b c (AEL j i):=by intro R env H k r ok p;obtain⟨e,env1,l,a1,k1,a,d⟩:=hr env H _ r ok p;split at k1;obtain⟨n,m,g,s,f,h⟩:=AAR (N:=N) a k1;refine⟨e,n,m,sK.afterG (a1.mono ?_),s,f,(d.trans ok.env h).mono λt q=>(Ak.1 q).elim (A t) (o t)⟩;rintro x u B ⟨rfl,rfl,rfl⟩;exact⟨_,_,g,rfl,rfl,rfl⟩;exact⟨e,env1,l,a1,k1,a,d.mono A⟩
end
variable {P:Program}{N:Nat}
def Jj.mono(h:Jj P N b c i)(f:∀t,t∈b->t∈v):Jj P N v c i:=λenv H k r ok g=>by obtain⟨e,a,d,q1,q2,q3,q4⟩:=h env H k r ok g;exact⟨e,a,d,q1,q2,q3,q4.mono f⟩
def uD{hs:List Hint}{A B:List Nat}(hr:Jj P N B c i)(d:∀t,t∈B->t∈A)(b:∀t,t∈qq hs c->t∈A):Jj P N A c (vp (hintOf hs c) A i):=by
 unfold qq at b;generalize hintOf hs c=o at b⊢;cases o with
 |none=>exact hr.mono d
 |some h=>exact λenv H k r ok f=>yl hr d (h:=h.rel (θ H)) (λt e=>b t (by rw[TG]at e;exact e)) env H k r ok f
def AED{hs:List Hint}{A B:List Nat}(hr:Jj P N B c O.main)(i:AA5 P N B c O.pre)(g:Jj P N B (mP c) O.suf)(e:∀t,t∈B->t∈A)(b:∀t,t∈qq hs (.loop c)->t∈A):Jj P N A (.loop c) (uJ (hintOf hs (.loop c)) A O):=by
 unfold qq at b;generalize hintOf hs (.loop c)=o at b⊢;cases o with
 |none=>exact λenv H k r ok a=>by cases a
 |some h=>
  intro R env H k r ok a;have a:uJ (δ h) A O env H k=δ r:=a;have b:∀t,t∈(h.rel (θ H)).tmps->t∈A:=λt d=>b t (by rw[TG]at d;exact d);cases f:ξ h.kind 8 with
  |true=>rw[show uJ (δ h) A O env H k=ABc (h.rel (θ H)) A O env H k by simp only[uJ,f]]at a;exact AEE i g e b env H k r ok a
  |false=>rw[show uJ (δ h) A O env H k=vt (h.rel (θ H)) A (AEL (h.rel (θ H)).slots O.main) env H k by simp only[uJ,f]]at a;exact AEC (AEM hr e λt d=>b t (by unfold Hint.tmps;simp only[List.mem_append];exact .inl (.inr d))) (λ_ q=>q) b env H k r ok a
def V5:∀{env:BZ}{p:Nat×TV},p∈gu env->p∈env/\LF p.2.refs=[]
 |(t,v)::r,p,h=>by simp only[gu]at h;split at h;rename_i a;rcases Aw.1 h with rfl|h;exact⟨I3,a⟩;exact⟨Ce _ (V5 h).1,(V5 h).2⟩;exact⟨Ce _ (V5 h).1,(V5 h).2⟩
theorem ACo(Q:V8 P k){B:Array Tmp}:Jj P N b (.rangeFunc F B c I) (AAe P k N u F B c I):=by
 intro R env H f r ok q;unfold AAe at q;dsimp only at q;split at q;rename_i G first m hf
 split at q;rename_i Z;have Y:BO (Bz env) F=.fn (.func G) first m:=by rw[LN,hf];rfl
 have E:(Dv.lp η u N (gu env) B c I .ready).ok (H++[.lp η u N (gu env) B c I .ready]):=λp S id al t n hm=>by have:=nO hm;rw[(V5 S).2]at this;cases this
 have U:CD H (H++[.lp η u N (gu env) B c I .ready]):=CD.push H _;obtain⟨v,i,q1,q2,q3,q4,q5⟩:=Q (.fn G) _ _ _ r (λv X=>by simp only[Ak,Bs,BA]at X;rcases X with(⟨O,_,rfl⟩|rfl)|⟨O,_,rfl⟩;exact kf O;exact Ji trivial;exact kf O) (Pe ok.heap E) q
 have y:∀{ro:Bool}{w n e p A d}{s:LS}{x:Exit},i[θ H]?=δ (.lp ro w n e p A d s)→ro=η→(∀L:mH,L.state=s.st→L.pending=s.pend→AEk P N (Bz env) (θ H) (Ub x (Bz env) (BJ (i.set (θ H) .dead))) ((BJ i).set (θ H) (.lp L)))→f x env (i.set (θ H) .dead)=δ r→
   ∃V g M,sK P N (.rangeFunc F B c I) (Bz env) (BJ H) (Ub V (Bz g) (BJ M))/\f V g M=δ r/\No g M/\EH b env H g M:=by
  intro ro w n e p A d s x o T hq q;subst T;have K:CD i (i.set (θ H) .dead):=CD.set o rfl λ_ _ _ _ _ h=>by cases h
  have st:=(U.trans q5).trans K;refine⟨x,env,_,EF (λ_ e=>by cases e) (lz (Bz (gu env)) (λp S=>?_) Y Z ?_),q,⟨st.env ok.env,RN K q4 trivial⟩,st,λ_ _ _=>rfl⟩;obtain⟨O,hu,rfl⟩:=Bs.1 S;exact Bs.2 ⟨O,(V5 hu).1,rfl⟩;have J:Ea P G _ _ _:=q1;have z:(first.map tvA++[TV.c (.raw (.yf (θ H)))]++m.map tvA).map TV.enc=first++[.yf (BJ H).length]++m:=by
   have W:∀l:List Ac,(l.map tvA).map TV.enc=l:=by
    intro l;rw[Og];conv=>rhs;rw[<-eG l]
    grind[List.map_congr_left,iE]
   rw[J7,J7,W,W,CW];rfl
  rw[z,RD]at J;apply J.mono;rintro _ _ ⟨rfl,rfl⟩;rw[CW];have a:BJ i=(BJ i).set (θ H) (.lp ⟨n,Bz e,p,A,d,s.st,s.pend⟩):=by
   have hg:(BJ i)[θ H]?=δ (.lp ⟨n,Bz e,p,A,d,s.st,s.pend⟩):=by rw[EJ,o];rfl
   apply I6;intro j;by_cases ad:j=θ H<;>grind
  rw[a];exact hq _ rfl rfl
 have look:∀L:mH,θ H<θ i->((BJ i).set (θ H) (.lp L))[θ H]?=δ (.lp L):=λL h=>by grind[List.getElem?_set_self,CW]
 have dead:∀L:mH,((BJ i).set (θ H) (.lp L)).set (θ H) .dead=BJ (i.set (θ H) .dead):=λL=>by rw[X1,Kx];rfl
 split at q2;rename_i o;refine y o rfl (λL C D=>⟨L,look L (G7 o),by rw[C];simp[LS.st],?_⟩) q2;rw[D,dead];exact⟨rfl,rfl,rfl⟩;rename_i o;refine y o rfl (λL C D=>⟨L,look L (G7 o),by rw[C];simp[LS.st],?_⟩) q2;rw[D,dead];exact Jg.ret ⟨rfl,rfl,rfl⟩;rename_i x o;refine y o rfl (λL C D=>⟨L,look L (G7 o),by rw[C];simp[LS.st],?_⟩) q2;rw[D,dead];exact Jg.exit ⟨rfl,rfl,rfl⟩;cases q2;cases q;cases q
theorem ADj{hs:List Hint}(h:nz c I=δ C):∀t∈C.tmps,t∈Oo hs c++Oo hs I:=by obtain⟨o,v,l,q,w,n,r,x,s,y,u,z,rfl,rfl,f,g,i,j,k,_⟩:=oA h;obtain⟨_,_,_,_,_,_,l1⟩:=qz f;obtain⟨_,_,_,_,_,_,l2⟩:=rA g;obtain⟨_,_,_,_,_,_,_,_,_,_,_,_,a⟩:=rC i;obtain⟨_,_,_,_,_,_,_,_,_,_,_,_,_,_,_,d⟩:=rD j;obtain⟨_,_,_,_,_,_,_,e⟩:=rE k;intro t b;simp only[Oo,l1,l2,a,d,e,oD,Ak];simp only[Xv.tmps]at b;grind
theorem AGi(S:∀c∈e,c.Ok P)(O:V8 P k)(y:FuncId)(d:List Hint):∀c:Code,Jj P N (Oo d c) c (rZ P e k N y d c)/\(∀m r,c=.seq m r->Jj P N (Oo d r) r (rZ P e k N y d r))/\AA5 P N (Oo d c) c (du P e k N y d c).pre/\Jj P N (Oo d c) (mP c) (du P e k N y d c).suf:=by
 have L:∀(A:List Nat)(c:Code),Jj P N A c Pd:=λA c R env H g r ok j=>by cases j
 have u:∀(A:List Nat)(c:Code),AA5 P N A c Pd:=λA c R env H g r ok j=>by cases j
 intro c;induction c with
 |skip=>exact⟨λenv H g r ok j=>⟨.normal,env,H,EF (λ_ x=>by cases x) (Jg.skip ⟨rfl,rfl,rfl⟩),j,ok,EH.refl _ _ _⟩,λ_ _ x=>(by cases x),u _ _,L _ _⟩
 |ret=>exact⟨λenv H g r ok j=>⟨.ret,env,H,EF (λ_ x=>by cases x) (Jg.ret ⟨rfl,rfl,rfl⟩),j,ok,EH.refl _ _ _⟩,λ_ _ x=>(by cases x),u _ _,L _ _⟩
 |exit id=>exact⟨λenv H g r ok j=>⟨.exit id,env,H,EF (λ_ x=>by cases x) (Jg.exit ⟨rfl,rfl,rfl⟩),j,ok,EH.refl _ _ _⟩,λ_ _ x=>(by cases x),u _ _,L _ _⟩
 |seq a b D w=>
  refine⟨?_,λm r x=>(by injection x with V C;subst V C;exact w.1),?_,?_⟩;rotate_left;by_cases I:∃m z,b=.seq m z;obtain⟨m,z,rfl⟩:=I;intro env H g r ok j;obtain⟨x,env1,J,a1,k1,v,M⟩:=D.1 env H _ r ok (show rZ P e k N y d a env H _=δ r from j);cases x with
  |normal=>obtain⟨C,env2,K,a2,Y,F,Z⟩:=w.2.2.1 env1 J g r v k1;refine⟨C,env2,K,Jg.mono a1.awp ?_,Y,F,(EH.trans ok.env M Z).mono λt l=>Ak.2 (.inl l)⟩;rintro _ _ _ ⟨rfl,rfl,rfl⟩;exact a2
  |_=>refine⟨_,env1,J,Jg.mono a1.awp ?_,k1,v,M.mono λt l=>Ak.2 (.inl (Ak.2 (.inl l)))⟩;rintro _ _ _ ⟨rfl,rfl,rfl⟩;exact⟨rfl,rfl,rfl⟩
  intro env H g r ok j;have j:rZ P e k N y d a env H g=δ r:=by cases b<;>first|exact j|exact N! ⟨_,_,rfl⟩ I
  obtain⟨x,env1,J,a1,k1,v,M⟩:=D.1 env H g r ok j;have C:∀Q,Zu P N (.seq a b) (Bz env) (BJ H) Q=Jg P N a (Bz env) (BJ H) Q:=λQ=>by cases b<;>first|rfl|exact N! ⟨_,_,rfl⟩ I
  exact⟨x,env1,J,by rw[C];exact a1.awp,k1,v,M.mono λt l=>Ak.2 (.inl (Ak.2 (.inl l)))⟩;have mo:∀t,t∈Oo d b->t∈Oo d (.seq a b):=λt l=>Ak.2 (.inl (Ak.2 (.inr l)));intro R env H g r ok j;by_cases I:∃m z,b=.seq m z;obtain⟨m,z,rfl⟩:=I;exact Jj.mono w.2.2.2 mo env H g r ok j;have q:Jj P N (Oo d (.seq a b)) b (rZ P e k N y d b):=Jj.mono w.1 mo;have j:rZ P e k N y d b env H g=δ r:=by cases b<;>first|exact j|exact N! ⟨_,_,rfl⟩ I
  have C:mP (.seq a b)=b:=by cases b<;>first|rfl|exact N! ⟨_,_,rfl⟩ I
  rw[C];exact q env H g r ok j;have U:Jj P N (Oo d a++Oo d b) (.seq a b) (λenv H g=>rZ P e k N y d a env H λx n G=>match x with|.normal=>rZ P e k N y d b n G g|x=>g x n G):=by
   intro R env H g r ok j;obtain⟨x,env1,J,a1,k1,v,M⟩:=D.1 env H _ r ok j;cases x with
   |normal=>obtain⟨C,env2,K,a2,Y,F,Z⟩:=w.1 env1 J g r v k1;refine⟨C,env2,K,EF (λ_ x=>by cases x) (Jg.seq (a1.awp.mono ?_)),Y,F,EH.trans ok.env M Z⟩;rintro _ _ _ ⟨rfl,rfl,rfl⟩;exact a2.awp
   |_=>refine⟨_,env1,J,EF (λ_ x=>by cases x) (Jg.seq (a1.awp.mono ?_)),k1,v,M.mono λt l=>Ak.2 (.inl l)⟩;rintro _ _ _ ⟨rfl,rfl,rfl⟩;exact⟨rfl,rfl,rfl⟩
  intro R env H g r ok j;by_cases I:∃m z,b=.seq m z;obtain⟨m,z,rfl⟩:=I;simp only[rZ,du]at j;split at j;rename_i p hp;obtain⟨env1,J,a1,k1,v,M⟩:=ADi S hp ok j;obtain⟨C,env2,K,a2,Y,F,Z⟩:=w.2.1 m z rfl env1 J g r v k1;refine⟨C,env2,K,EF (λ_ x=>by cases x) (Jg.seq (a1.mono ?_)),Y,F,(EH.trans ok.env M Z).mono λt l=>?_⟩;intro x E h hx;cases x with
  |normal=>exact Jg.seq (hx.mono (by rintro _ _ _ ⟨rfl,rfl,rfl⟩;exact a2.awp))
  |_=>exact hx.elim
  show t∈(Oo d a++((Oo d m++Oo d z)++uf d m z))++uf d a (.seq m z);rcases Ak.1 l with l|l;rcases Ak.1 (ADj (hs:=d) hp t l)with h|h<;>simp[h];simp[l];exact U.mono (λt l=>Ak.2 (.inl l)) env H g r ok j;have j:rZ P e k N y d (.seq a b) env H g=δ r:=j;rw[AGj λm r x=>I ⟨m,r,x⟩]at j;have hA:∀t,t∈uf d a b->t∈Oo d (.seq a b):=λt l=>Ak.2 (.inr l);have hB:∀t,t∈Oo d a++Oo d b->t∈Oo d (.seq a b):=λt l=>Ak.2 (.inl l);unfold uf at hA;generalize sG d a b=o at j hA;cases o with
  |none=>exact U.mono hB env H g r ok j
  |some h=>exact yl U hB (h:=h.rel (θ H)) (λt l=>hA t (by rw[TG]at l;exact l)) env H g r ok j
 |cond c a b D w=>have W:Jj P N (Oo d a++Oo d b) (.cond c a b) (ABJ c (rZ P e k N y d a) (rZ P e k N y d b)):=ADk D.1 w.1;refine⟨?_,λ_ _ x=>(by cases x),u _ _,L _ _⟩;intro R;exact uD (hs:=d) (A:=Oo d (.cond c a b)) W (λt l=>Ak.2 (.inl l)) (λt l=>Ak.2 (.inr l))
 |block id b X=>have W:Jj P N (Oo d b) (.block id b) (zo id (rZ P e k N y d b)):=AB9 X.1;refine⟨?_,λ_ _ x=>(by cases x),u _ _,L _ _⟩;intro R;exact uD (hs:=d) (A:=Oo d (.block id b)) W (λt l=>Ak.2 (.inl l)) (λt l=>Ak.2 (.inr l))
 |loop b X=>exact⟨AED (hs:=d) (A:=Oo d (.loop b)) X.1 X.2.2.1 X.2.2.2 (λt l=>Ak.2 (.inl l)) (λt l=>Ak.2 (.inr l)),λ_ _ x=>(by cases x),u _ _,L _ _⟩
 |region id s B=>
  refine⟨?_,λ_ _ x=>(by cases x),(by cases B<;>exact u _ _),(by cases B<;>exact L _ _)⟩;cases B with
  |false=>
   have W:Jj P N (oD s.toList) (.region id s η) (λenv H g=>match Oz N s.toList with
    |true=>zJ P e k s (guards s) η s.toList 0 env H λn G=>g .normal n G
    |false=>ε):=by
    intro R env H g r ok j;dsimp only at j;split at j;rename_i T;obtain⟨n,G,r1,r2,r3,r4⟩:=gy (N:=N) S O _ _ _ _ _ _ ok j;refine⟨.normal,n,G,EF (λ_ x=>by cases x) (Fp T ?_),r2,r3,r4⟩;show Wg P N s s.toList (Bz env) (BJ H) (λV K=>Exit.normal=Exit.normal/\V=Bz n/\K=BJ G);simpa using r1;cases j
   intro R;exact uD (hs:=d) (A:=Oo d (.region id s η)) W (λt l=>Ak.2 (.inl l)) (λt l=>Ak.2 (.inr l))
  |true=>
   intro R env H g r ok j;simp only[rZ,du]at j;split at j;rename_i T;simp only[BW]at T;obtain⟨n,G,r1,r2,r3,r4⟩:=Yq (N:=N) S O _ _ _ _ _ _ ok j;refine⟨.normal,n,G,EF (λ_ x=>by cases x) (j9 T.1.1.1 _ T.1.1.2 T.1.2 ?_ ?_),r2,r3,r4.mono λt l=>Ak.2 (.inl ?_)⟩;have:=Zp T.2;rw[Bz,Og];exact this;show RA P N s (AAb s) [] (Bz env) (BJ H) (λV K=>Exit.normal=Exit.normal/\V=Bz n/\K=BJ G);simpa using r1;unfold uu at l;obtain⟨i,_,hi⟩:=Oi.1 l;cases ho:s[i]? with
   |none=>rw[ho]at hi;cases hi
   |some o=>
    rw[ho]at hi;refine Oi.2 ⟨o,?_,hi⟩;have:s.toList[i]?=δ o:=by simpa using ho
    exact BN this
   cases j
 |rangeFunc f ps a b _ _=>exact⟨ACo O,λ_ _ x=>(by cases x),u _ _,L _ _⟩
 |_=>exact⟨λenv H g r ok j=>(by simp only[rZ,du,Pd]at j;cases j),λ_ _ x=>(by cases x),u _ _,L _ _⟩
theorem qR(f:∀c∈e,c.Ok P)(b:V8 P k)(g:FuncId)(d:List Hint)(c:Code):Jj P N (Oo d c) c (rZ P e k N g d c):=by grind[AGi]
end Go.Ab
namespace Go.Ab
def cy:Nat->List TV->BZ
 |_,[]=>[]
 |i,v::r=>(i,v)::cy (i+1) r
def nQ(P:Program)(env:BZ)(H:Ap):List ResultVar->Option (List TV)
 |[]=>δ []
 |.tmp t::r=>match nQ P env H r with|some vs=>δ (env.get t::vs)|none=>ε
 |.cell a t::r=>match nQ P env H r with|some vs=>loadT P H t (env.get a) λv=>δ (v::vs)|none=>ε
def yj:Exit->Bool
 |.normal=>ζ
 |.ret=>ζ
 |_=>η
variable {N q y:Nat}{d A:Ap}{R:Type}{g J M:BZ}{s:Ac}{P:Program}{t:List Ac}{z:Bool}{G:List TV}
def AI2(P:Program)(fn:Func)(k:TV->Ap->Option R):Exit->BZ->Ap->Option R:=λe env H=>
 match yj e with
 |true=>match nQ P env H fn.results.toList with|some vs=>k (one vs) H|none=>ε
 |false=>ε
def zL:BZ->List Tmp->List TV->BZ
 |env,t::ts,v::vs=>zL (env.put t v) ts vs
 |env,_,_=>env
def AEp(id:Nat)(k:TV->Ap->Option R):Exit->BZ->Ap->Option R:=λe _ H=>
 match H[id]? with
 |some (.lp η F n env ps a b _)=>
  match e with
  |.normal=>k (.c (.bl ζ)) (H.set id (.lp η F n env ps a b .ready))
  |.ret=>k (.c (.bl η)) (H.set id (.lp η F n env ps a b .ret))
  |.exit x=>k (.c (.bl η)) (H.set id (.lp η F n env ps a b (.exit x)))
  |_=>ε
 |_=>ε
noncomputable def AAn(P:Program)(cs:List QJ)(call:R2)(hs:FuncId->List Hint)(id:Nat)(vs:List TV)(H:Ap){R:Type}(k:TV->Ap->Option R):Option R:=
 match H[id]? with
 |some (.lp η F n env ps a b .ready)=>
  match ξ (θ vs) ps.size&&ps.toList.all λt=>Nat.blt t n with
  |true=>rZ P cs call n F (hs F) a (zL env ps.toList vs) H λe env1 H1=>
   match e with
   |.normal=>
    match H1[id]? with
    |some (.lp η F1 n1 e1 ps1 a1 b1 .ready)=>rZ P cs call n F (hs F) b env1 (H1.set id (.lp η F1 n1 e1 ps1 a1 b1 .busy)) (AEp id k)
    |_=>ε
   |_=>ε
  |false=>ε
 |_=>ε
noncomputable def qZ(P:Program)(cs:List QJ)(hs:FuncId->List Hint):Nat->R2
 |0=>λ_ _ _ _=>ε
 |n+1=>λtg vs H k=>
  match tg with
  |.fn F=>
   match P.funcs[F]? with
   |some fn=>
    match fn.body with
    |some c=>match Nat.ble (θ vs) fn.ntmps with|true=>rZ P cs (qZ P cs hs n) fn.ntmps F (hs F) c (cy 0 vs) H (AI2 P fn k)|false=>ε
    |none=>ε
   |none=>ε
  |.yd id=>AAn P cs (qZ P cs hs n) hs id vs H k
def uC(bt:Ty):(rs:List Ty)->DL rs->bt.D->DL (rs++[bt])
 |[],_,b=>b
 |[_],y,b=>(y,b)
 |_::u::r,y,b=>(y.1,uC bt (u::r) y.2 b)
def qO(vs:List TV):List Nat:=vs.flatMap λv=>LF v.refs
def AIz(P:Program)(fn:Func)(rs:List Ty):Exit->BZ->Ap->Option (DL rs):=λe env H=>
 match yj e with
 |true=>
  match nQ P env H fn.results.toList with
  |some vs0=>match IT (qO vs0) env H with|(ef,hf)=>match nQ P ef hf fn.results.toList with|some vs=>inp rs vs|none=>ε
  |none=>ε
 |false=>ε
def AI0(P:Program)(fn:Func)(bt:Ty)(rs:List Ty):Exit->BZ->Ap->Option (DL (rs++[bt])):=λe env H=>
 match yj e with
 |true=>
  match nQ P env H fn.results.toList with
  |some vs0=>
   match IT (qO vs0++(match (H[0]? :Option Dv)with|some (.live _ cs)=>LF cs|_=>[])) env H with
   |(ef,hf)=>
    match nQ P ef hf fn.results.toList,(hf[0]? :Option Dv)with
    |some vs,δ (.live _ cs)=>match inp rs vs,bt.all cs with|some y,δ b=>δ (uC bt rs y b)|_,_=>ε
    |_,_=>ε
  |none=>ε
 |false=>ε
def uA:Nat->TV->List TV->List TV
 |0,v,l=>v::l
 |n+1,v,x::l=>x::uA n v l
 |_+1,v,[]=>[v]
noncomputable def ABA(P:Program)(cs:List QJ)(hs:FuncId->List Hint)(n:Nat)(F:FuncId)(ds rs:List Ty)(x:DL ds):Option (DL rs):=
 match P.funcs[F]? with
 |some fn=>
  match fn.body with
  |some c=>match Nat.ble (xj ds x).length fn.ntmps with|true=>rZ P cs (qZ P cs hs n) fn.ntmps F (hs F) c (cy 0 (xj ds x)) [] (AIz P fn rs)|false=>ε
  |none=>ε
 |none=>ε
noncomputable def ADY(P:Program)(cs:List QJ)(hs:FuncId->List Hint)(n:Nat)(F:FuncId)(pos:Nat)(bt:Ty)(ds rs:List Ty)(b:bt.D)(x:DL ds):Option (DL (rs++[bt])):=
 match P.funcs[F]? with
 |some fn=>
  match fn.body with
  |some c=>
   match Nat.ble (uA pos (.c (.raw (.ptr 0 0 0))) (xj ds x)).length fn.ntmps with
   |true=>rZ P cs (qZ P cs hs n) fn.ntmps F (hs F) c (cy 0 (uA pos (.c (.raw (.ptr 0 0 0))) (xj ds x))) [.live η (bt.lvs b)] (AI0 P fn bt rs)
   |false=>ε
  |none=>ε
 |none=>ε
theorem cz:∀(l:List TV)(i:Nat),Bz (cy i l)=env0 i (l.map TV.enc)
 |[],_=>rfl
 |v::r,i=>by have:=cz r (i+1);grind[Bz,cy,env0]
def jz{H:Ap}:∀{l:List TV}{i:Nat},(∀v∈l,v.ok H)->∀p∈cy i l,p.2.ok H
 |[],_,_,p,a=>by cases a
 |v::r,i,h,p,a=>by simp only[cy]at a;rcases Aw.1 a with rfl|a;exact h v k!;exact jz (λw b=>h w (by simp[b])) p a
theorem lV{P:Program}{env:BZ}{H:Ap}(d:∀p∈env,p.2.ok H)(c:∀e∈H,e.ok H):∀{l:List ResultVar}{b:List TV},nQ P env H l=δ b->S1 P (Bz env) (BJ H) l=δ (b.map TV.enc)/\∀v∈b,v.ok H
 |[],b,h=>by simp only[nQ,Ao]at h;subst h;exact⟨rfl,λv g=>by cases g⟩
 |.tmp t::r,b,h=>by simp only[nQ]at h;split at h;rename_i i f;obtain⟨q1,q2⟩:=lV d c f;grind[S1,nR,UZ,kN];cases h
 |.cell a t::r,b,h=>by simp only[nQ]at h;split at h;rename_i i f;obtain⟨q1,q2⟩:=lV d c f;obtain⟨u,j,k,m⟩:=qw c (kN d a) h;grind[S1,nR,UZ];cases h
def uZ{b:Func}(H:∀p∈g,p.2.ok d)(c:∀e∈d,e.ok d)(h:nQ P g d b.results.toList=δ G):iN P b (Bz g) (BJ d)=δ (qJ (G.map TV.enc)):=by
 unfold iN;rw[(lV H c h).1];cases G with
 |nil=>rfl
 |cons v r=>
  cases r with
  |nil=>rfl
  |cons u r=>rfl
def wQ:∀(a:List Tmp)(b:List TV)(env:BZ),RP (Bz env) a (b.map TV.enc)=Bz (zL env a b)
 |[],_,_=>rfl
 |_::_,[],_=>rfl
 |t::a,v::b,env=>by simp only[Bf,RP,zL];rw[<-jy];exact wQ a b (env.put t v)
def zM{H:Ap}:∀(b:List Tmp)(a:List TV)(env:BZ),(∀p∈env,p.2.ok H)->(∀v∈a,v.ok H)->∀p∈zL env b a,p.2.ok H
 |[],_,_,h,_=>h
 |_::_,[],_,h,_=>h
 |t::b,v::a,env,h,hv=>zM b a (env.put t v) (bK (d:=δ t) h (hv v k!)) λu c=>hv u (by simp[c])
def AHB{c:Bool}{F n env ps a b}{s e:LS}(h:(Dv.lp z F n env ps a b s).ok A):(Dv.lp c F n env ps a b e).ok d:=h
theorem ABd{F n env ps a b}{s s':LS}(h:d[N]?=δ (.lp η F n env ps a b s)):CD d (d.set N (.lp η F n env ps a b s')):=CD.set h rfl (λ_ _ _ _ _ h=>by cases h) λ_ _ _ _ _ _ _ _ e=>q!
def AAL{F n env ps a b}{s:LS}(h:d[N]?=δ (.lp z F n env ps a b s)):(BJ d)[N]?=δ (.lp ⟨n,Bz env,ps,a,b,s.st,s.pend⟩):=by rw[EJ,h];rfl
theorem ACs{P:Program}{cs:List QJ}(K:∀c∈cs,c.Ok P){hs:FuncId→List Hint}{g:R2}(J:V8 P g){R:Type}{id:Nat}{S:List TV}{H:Ap}{k:TV→Ap→Option R}{r:R}(hv:∀v∈S,v.ok H)(hH:∀e∈H,e.ok H)
  (h:AAn P cs g hs id S H k=some r):∃v d,xv P (S.map TV.enc) (BJ H) v.enc (BJ d) (.yd id)/\k v d=some r/\v.ok d/\(∀e∈d,e.ok d)/\CD H d:=by
 unfold AAn at h;split at h;rename_i F n env ps a b he;split at h;rename_i hb;simp only[BW]at hb;have M:∀p∈env,p.2.ok H:=λp hp x hx=>by
  have:=(hH _ (BN he)) p hp;cases x with
  |own i v t m=>grind
  |_=>trivial
 obtain⟨e,env1,T,a1,k1,w,s1⟩:=qR (N:=n) K J F (hs F) a _ H _ r ⟨zM ps.toList S env M hv,hH⟩ h;split at k1;split at k1;rename_i F1 n1 Y z U V s;have B:CD T _:=ABd (s':=.busy) s;obtain⟨x,env2,D,a2,j,O,s2⟩:=qR (N:=n) K J F (hs F) b _ _ _ r ⟨B.env w.env,RN B w.heap (AHB (w.heap _ (BN s)))⟩ k1;unfold AEp at j;split at j;rename_i F2 n2 Z A W X s0 u
 have l:∀(v:Bool)(C:LS),k (.c (.bl v)) (D.set id (.lp false F2 n2 Z A W X C))=some r→(∀L:mH,(BJ D)[id]?=some (.lp L)→L=⟨n2,Bz Z,A,W,X,s0.st,s0.pend⟩→AEq id (DQ (.bool v) (BJ (D.set id (.lp false F2 n2 Z A W X C)))) x (Bz env2) (BJ D))→
   ∃v d,xv P (S.map TV.enc) (BJ H) v.enc (BJ d) (.yd id)/\k v d=some r/\v.ok d/\(∀e∈d,e.ok d)/\CD H d:=by
  intro v C hk hq;have Q:CD D _:=ABd (s':=C) u;refine⟨.c (.bl v),_,?_,hk,Ji trivial,RN Q O.heap (AHB (O.heap _ (BN u))),((s1.step.trans B).trans s2.step).trans Q⟩;intro N o c f env0 ho I hf q;apply JV.yield ho I hf (AAL he);grind[List.length,List.length_map,Array.length_toList,Nat.eq_of_beq_eq_true];simp_all;show Jg P n a (RP (Bz env) ps.toList (c.args.toList.map (BO env0))) (BJ H) _;rw[q,wQ];apply a1.awp.mono;rintro _ _ _ ⟨rfl,rfl,rfl⟩;refine⟨rfl,_,AAL s,rfl,?_⟩;have e3:(BJ T).set id (.lp ⟨n1,Bz Y,z,U,V,.busy,LS.pend .ready⟩)=BJ (T.set id (.lp false F1 n1 Y z U V .busy)):=by rw[Kx];rfl
  show Jg P n b (Bz env1) ((BJ T).set id (.lp ⟨n1,Bz Y,z,U,V,.busy,LS.pend .ready⟩)) _;rw[e3];apply a2.awp.mono;rintro _ _ _ ⟨rfl,rfl,rfl⟩;exact hq _ (AAL u) rfl
 split at j;refine l true .ready j λL G E=>⟨L,G,rfl,?_⟩
 subst E;rw[Kx];rfl;refine l false .ret j λL G E=>⟨L,G,rfl,?_⟩
 subst E;rw[Kx];rfl;rename_i y;refine l false (.exit y) j λL G E=>⟨L,G,rfl,?_⟩
 subst E;rw[Kx];rfl;cases j;cases j;cases k1;cases k1;cases h;cases h
theorem jr{P:Program}{j:List QJ}(b:∀c∈j,c.Ok P){m:FuncId->List Hint}:∀n,V8 P (qZ P j m n)
 |0=>by grind[qZ]
 |n+1=>by
  intro z A H k r p l h;cases z with
  |yd id=>exact ACs b (jr b n) p l h
  |fn F=>
  simp only[qZ]at h;split at h;rename_i fn y;split at h;rename_i c w;split at h;rename_i hn;obtain⟨e,d,f,a1,k1,a,q⟩:=qR (N:=fn.ntmps) b (jr b n) F (m F) c (cy 0 A) H _ r ⟨jz p,l⟩ h;unfold AI2 at k1;split at k1;rename_i x;split at k1;rename_i s o;refine⟨one s,f,KD y w t! ?_,k1,xL (lV a.env a.heap o).2,a.heap,q.step⟩;rw[<-cz];apply a1.awp.mono;rintro _ _ _ ⟨rfl,rfl,rfl⟩;have g:∃v t i,iN P fn (Bz d) (BJ f)=δ v/\Oa (BJ H).length v (BJ f) t i/\DQ (one s).enc (BJ f) t i:=⟨_,_,_,uZ a.env a.heap o,Oa.refl _ _ (by rw[CW,CW];exact q.step.len),by rw[sC],rfl⟩
  rename_i u;cases u<;>first|exact g|cases x
  cases k1;cases k1;cases h;cases h;cases h
def Dl.tup{b a:List Ac}(h:Dl b a):Wf (.tup b) (.tup a):=by
 intro x c r;cases r with
 |tup g hr=>refine .tup (by rw[g,h.1]) λj i d f e=>?_;obtain⟨v,q1,q2⟩:=h.2 j i f;exact q2 _ _ (hr j v d q1 e)
def Wm{b:List Ac}(h:Dl t b):Wf (qJ t) (qJ b):=by
 match t,b,h with
 |[],[],h=>exact Wf.refl _
 |[v],[w],h=>obtain⟨u,q1,q2⟩:=h.2 0 w rfl;simp at q1;subst q1;exact q2
 |v::u::r,w::x::s,h=>exact Dl.tup h
def PO:∀(a:List Ty)(x:DL a),∀v∈mm a x,Pure v
 |[],_,v,h=>by cases h
 |[t],x,v,h=>by simp only[mm,BA]at h;subst h;exact t.enc_pure x
 |t::u::r,x,v,h=>by simp only[mm]at h;rcases Aw.1 h with rfl|h;exact t.enc_pure x.1;exact PO (u::r) x.2 v h
def Xr(h:∀v∈t,Pure v):Pure (qJ t):=by
 match t,h with
 |[],_=>rfl
 |[v],h=>exact h v k!
 |v::u::r,h=>exact(Dt _ _).2 h
theorem ub{a H2:Ap}(j:θ H2<=θ a)(hr:HR a H2 [])(i:ly (θ H2) H2=ζ){d:Ac}(l:Wf s d)(k:Pure d):Oa (θ H2) s (BJ a) d (BJ H2):=by
 refine⟨by rw[CW];exact An _,λX h w c v r=>?_⟩;have q:=(HR.rel j hr (cx X h (BJ a) w)).onto;have n:=v.rel q;have m:=(l _ c r).later q.later;have e:(BJ H2++(BJ a).drop (θ H2)).take (θ H2)=BJ H2:=by grind[CW]
 have b:θ H2<=(BJ H2++(BJ a).drop (θ H2)).length:=by simp[BJ]
 have g:=n.trunc b (by rw[e];exact lI i);have f:=m.trunc b (kY k _);rw[e]at g f;exact⟨h,g,f,λ_ _=>⟨rfl,rfl,rfl⟩,λB o=>q.own B (gv (n0:=θ H2) q!)⟩
end Go.Ab
