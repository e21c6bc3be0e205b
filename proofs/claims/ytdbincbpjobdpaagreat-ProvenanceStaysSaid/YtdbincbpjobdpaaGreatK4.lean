/- Texts of wip, joined and shortened by wip/tools/pack.py; nothing is assumed. -/
import Derived.Test.YtdbincbpjobdpaaGreatK3
noncomputable section
set_option linter.all false
set_option maxHeartbeats 1000000
open Option renaming some->Z
open List renaming length->U
open Go renaming Ψ->S
open Bool renaming false->Y
open Bool renaming true->V
open Option renaming none->W
open Go renaming Ω->T
open Option renaming some->δ,none->ε,bind->σ
open Bool renaming true->ζ,false->η
open List renaming length->θ
open Sum renaming elim->ν
open Nat renaming beq->ξ
open Int renaming toNat->ο
open Decidable renaming decide->τ
namespace Go.Ab
def Kl(S:Ψ Nat):Nat->Ar->Ar
 |_,[]=>[]
 |j,e::r=>(match Ja j S with|true=>e|false=>e.lock)::Kl S (j+1) r
theorem JY{S:Ψ Nat}:∀(H:Ar)(i j:Nat),(Kl S i H)[j]?=(H[j]?).map λe=>match Ja (i+j) S with|true=>e|false=>e.lock
 |[],i,j=>by simp[Kl]
 |e::r,i,0=>by simp[Kl]
 |e::r,i,j+1=>by simp only[Kl,lQ];rw[JY r (i+1) j];grind
def Im{S:Ψ Nat}:∀(H:Ar)(i:Nat),(Kl S i H).length=U H
 |[],_=>rfl
 |e::r,i=>by simp[Kl,Im r]
theorem qd{S}:∀(H:Ar)(i:Nat),BK (Kl S i H)=BK H
 |[],_=>rfl
 |e::r,i=>by have:=qd (S:=S) r (i+1);grind[BK,Kl,pH]
variable {b v:S Nat}{N q y:Nat}{c I:Code}{d A:Ar}{R:Type}{e:S Qd}{f:S Oper}{g J M:Bf}{k:SN}{l:Env}{n L:TypeId}{p:Exit→Act→World→Prop}{s:Ad}{P:Program}{t:S Ad}{u:FuncId}{x:TV}{z:Bool}{B:T Nat}{D:Ty}{E:Bu}{F:Operand}{G:S TV}{o:Oper}{K:Exit}
theorem nj(h:S9 d N q D y):S9 (Kl b 0 d) N q D y:=by
 refine⟨by rw[Im];exact h.1,λro r l p f a=>?_⟩;rw[JY]at a;cases S:d[N]? with
 |none=>grind
 |some e=>
  rw[S]at a;simp at a;split at a;subst a;exact h.2 _ _ _ _ _ S;cases e with
  |dead=>cases a
  |live H k=>cases a
  |lp=>cases a
  |mp=>cases a
  |buf H s o c u=>injection a with _ g m i j;subst g i j;exact h.2 _ _ _ _ _ S
def qe{S:List Nat}(h:E.ok d):E.ok (Kl S 0 d):=by
 cases E with
 |own id a t n=>exact nj h
 |_=>trivial
theorem kj{S:List Nat}(ok:N3 g d):N3 g (Kl S 0 d):=by
 refine⟨λp o x H=>qe (ok.env p o x H),λe m=>?_⟩;obtain⟨j,a⟩:=Et.1 m;rw[JY]at a;cases i:d[j]? with
 |none=>grind
 |some c=>
  rw[i]at a;simp at a;have q:=ok.heap c (BN i);have f:c.ok (Kl S 0 d):=by
   cases c with
   |dead=>trivial
   |live b k=>exact λx H=>qe (q x H)
   |buf b t l n h=>exact q
   |lp=>exact q
   |mp=>exact q
  split at a;grind;subst a;cases c with
  |dead=>trivial
  |live b k=>exact f
  |buf b t l n h=>exact f
  |lp=>exact f
  |mp=>exact f
def wm{j:Nat}:∀{l:S Nat},Ja j l=V->j∈l
 |i::r,h=>by simp only[Ja]at h;split at h;rename_i a;exact Aw.2 (.inl (DD a).symm);exact Ch _ (wm h)
def Rj(S:Ψ Nat):Nat->Ar->Ar->Ar
 |j,e::r,e'::r'=>(match Ja j S with|true=>e'|false=>e)::Rj S (j+1) r r'
 |_,_,H'=>H'
def wG{S}:∀{H a:Ar}(i j:Nat),U H<=U a->(Rj S i H a)[j]?=match τ (j<U H)&& !Ja (i+j) S with|true=>H[j]? |false=>a[j]?
 |[],a,i,j,_=>by simp[Rj]
 |e::r,[],i,j,h=>by simp at h
 |e::r,e'::r',i,0,h=>by simp only[Rj,O1,cN,BY,Nat.zero_lt_succ,decide_true,YI];cases Ja i S<;>rfl
 |e::r,e'::r',i,j+1,h=>by
  simp only[Rj,lQ];rw[wG (i+1) j (by simpa using h),show i+1+j=i+(j+1) by omega];have:τ (j+1<(e::r).length)=τ (j<U r):=q!
  rw[this]
def wH{S:Ψ Nat}:∀{H a:Ar}(i:Nat),U H<=U a->(Rj S i H a).length=U a
 |[],a,i,_=>by simp[Rj]
 |e::r,[],i,h=>by simp at h
 |e::r,e'::r',i,h=>by simp[Rj,wH (i+1) (show U r<=U r' by simpa using h)]
theorem AEH{S:List Nat}(V_: ∀e∈A,e.ok A)(st:CE (Kl S 0 A) d)(Q: ∀e∈d,e.ok d):
  (∀v:TV,v.ok d->v.ok (Rj S 0 A d))/\(∀e∈Rj S 0 A d,e.ok (Rj S 0 A d))/\CE A (Rj S 0 A d)/\Frame S A (Rj S 0 A d)/\ ∀x:Cx,TM x x (BK d) (BK (Rj S 0 A d)):=by
 have P:A.length<=d.length:=by simpa[Im]using st.len
 have z:=wH (S:=S) 0 P;have C:=λj=>wG (S:=S) 0 j P;have o: ∀j,j<A.length->Ja j S=false->(Rj S 0 A d)[j]? =A[j]? :=λj k c=>by rw[C,DZ,c,decide_eq_true k];rfl
 have u: ∀j,(A.length<=j\/Ja j S=true)->(Rj S 0 A d)[j]? =d[j]? :=λj k=>by rw[C,DZ];rcases k with h|h;rw[decide_eq_false o!];rfl;rw[h,B9,Bool.and_false]
 have T: ∀j,Ja j S=true->(Kl S 0 A)[j]? =A[j]? :=λj k=>by rw[JY,DZ,k];cases A[j]? <;>rfl
 have keep: ∀(j:Nat) (e:D0),Ja j S=false->A[j]? =some e->e≠ .dead->d[j]? =some e.lock:=λj e c k R=>by apply st.ro j e.lock (by rw[JY,k,DZ,c];rfl);cases e<;>first|rfl|exact(R rfl).elim
 have f: ∀j,(j<A.length/\Ja j S=false)\/(A.length<=j\/Ja j S=true):=λj=>by
  rcases Ay j A.length with h|h;cases c:Ja j S with
  |false=>exact .inl ⟨h,rfl⟩
  |true=>exact .inr (.inr rfl)
  exact .inr (.inl h)
 have K: ∀id w t n,S9 d id w t n->S9 (Rj S 0 A d) id w t n:=λid w t n q=>by refine⟨by rw[z];exact q.1,λro Z_ l Y_ N p=>?_⟩;rcases f id with⟨h,c⟩|h;rw[o id h c]at p;exact q.2 _ _ _ _ _ (keep id _ c p q!);rw[u id h]at p;exact q.2 _ _ _ _ _ p
 have H: ∀x:Bu,x.ok d->x.ok (Rj S 0 A d):=λx M=>by
  cases x with
  |own id w t n=>exact K _ _ _ _ M
  |_=>trivial
 have L:CE A (Rj S 0 A d):=by refine⟨by rw[z];exact P,λid w t n q=>⟨by rw[z];exact DE q.1 P,λro Z_ l Y_ N p=>?_⟩,λid e p hr=>?_,λid G h=>?_,λid G ro F n env ps a b s h=>?_⟩;rcases f id with⟨h,c⟩|h;rw[o id h c]at p;exact q.2 _ _ _ _ _ p;rw[u id h]at p;exact(st.refs id w t n (nj q)).2 _ _ _ _ _ p;have W_:=(EU.1 p).1;rcases f id with⟨h,c⟩|h;rw[o id h c];exact p;have c:=h.resolve_left o!;rw[u id h];exact st.ro id e (by rw[T id c];exact p) hr;rcases f id with⟨B,c⟩|B;rw[o id B c];exact h;have c:=B.resolve_left o!;rw[u id B];exact st.nb id (by rw[Im];exact G) (by rw[T id c];exact h);rcases f id with⟨B,c⟩|B;rw[o id B c]at h;exact⟨_,_,h⟩;have c:=B.resolve_left o!;rw[u id B]at h;obtain⟨r1,s1,q⟩:=st.lp id (by rw[Im];exact G) _ _ _ _ _ _ _ _ h;rw[T id c]at q;exact⟨_,_,q⟩
 refine⟨λv X x M=>H x (X x M),λe p=>?_,L,λj k hn=>o j k (by
  cases c:Ja j S with
  |false=>rfl
  |true=>exact absurd (wm c) hn),λx=>⟨by rw[CZ,CZ,z],λj e' k=>?_⟩⟩
 obtain⟨j,k⟩:=Et.1 p;rcases f j with⟨h,c⟩|h;rw[o j h c]at k;exact L.ent (V_ e (BN k));rw[u j h]at k;have O:=Q e (BN k);cases e with
 |dead=>trivial
 |live b D=>exact λx M=>H x (O x M)
 |buf=>exact O
 |lp=>exact O
 |mp=>exact O
 rw[EO]at k;cases J:(Rj S 0 A d)[j]? with
 |none=>grind
 |some y=>
  rw[J]at k;simp at k;subst k;have same:(BK d)[j]? =some y.enc->y.enc= .dead\/(∃g D E,(BK d)[j]? =some (.live g D)/\y.enc= .live g E/\E.length=D.length/\ ∀(i:Nat) (I:Ad),E[i]? =some I-> ∃v,D[i]? =some v/\Conv x x v I)\/((BK d)[j]? =some y.enc/\ ∀g D,y.enc≠ .live g D):=λh=>by
   cases y with
   |dead=>exact .inl rfl
   |live b D=>exact .inr (.inl ⟨_,_,_,h,rfl,rfl,λi I h=>⟨I,h,λ_ r=>r⟩⟩)
   |buf b t l m w=>exact .inr (.inl ⟨_,_,_,h,rfl,rfl,λi I h=>⟨I,h,λ_ r=>r⟩⟩)
   |lp=>exact .inr (.inr ⟨h,λ_ _ h=>by cases h⟩)
   |mp=>exact .inr (.inr ⟨h,λ_ _ h=>by cases h⟩)
  rcases f j with⟨h,c⟩|h;rw[o j h c]at J;by_cases U:y= .dead;subst U;exact .inl rfl;exact same (by rw[EO,keep j y c J U];simp[pH]);rw[u j h]at J;exact same (by rw[EO,J];rfl)
def isLen:Op->Bool
 |.call {callee:=.builtin .len,.. }=>V
 |.move _=>V
 |.assign _=>V
 |.extract _ _=>V
 |_=>Y
def rdT(env:Bf)(op:Op):S Nat:=match isLen op with|true=>[]|false=>op.operands.toList.flatMap λx=>idT (Jr env x)
def XA(o:Oper)(env:Bf):Bf:=(tmpsOf o).filterMap λt=>match env.get t with|.c (.raw .any)=>W|v=>Z (t,v)
def ku(ids:S Nat):Nat->Ar->S Nat
 |_,[]=>[]
 |j,.live Y cs::r=>match (LZ cs).any λi=>Ja i ids with|true=>j::ku ids (j+1) r|false=>ku ids (j+1) r
 |j,_::r=>ku ids (j+1) r
def AFK:Bu->Bool
 |.own .. =>Y
 |.raw _=>Y
 |_=>V
def xZ:S TV->T (S Nat)
 |[]=>Z []
 |v::r=>
  match xZ r with
  |none=>W
  |some ids=>
   match v with
   |.c (.own id _ _ _)=>Z (id::ids)
   |.c x=>match AFK x with|true=>Z ids|false=>W
   |.g cs=>match cs.all AFK with|true=>Z ids|false=>W
   |_=>W
section
variable {R:Type}
def quD(P:Program)(env:Bf)(H:Ar)(op:Op)(k:TV->T R):T R:=
 match op with
 |.buildSlice t len parts=>rI P env t len parts k
 |op=>quT P env H op k
def uE(P:Program)(cs:S Qd)(call:SN)(env:Bf)(H:Ar)(op:Op)(k:TV->Ar->T R):T R:=
 match op with
 |.box _ x=>AGS H (Jr env x) k
 |.store t a v=>storeT P H t (Jr env a) (Jr env v) k
 |.makeSlice t x y=>iM P H t (Jr env x) (Jr env y) k
 |.buildSlice t len parts=>Z5 P env H t len parts k
 |.call c=>
  match aA env (.call c)with
  |some (F,vs)=>
   match Enters P F with
   |true=>
    match oi cs F vs with
    |some ct=>ABt ct vs H k
    |none=>match xZ vs with|some ids=>call (.fn F) vs (Kl ids 0 H) λv H'=>k v (Rj ids 0 H H')|none=>call (.fn F) vs H k
   |false=>W
  |none=>
   match vR env c with
   |some (id,vs)=>call (.yd id) vs H k
   |none=>
    match c with
    |{callee:=.builtin .append,args:=⟨[s,x]⟩,argTypes:=⟨[t,t']⟩}=>match ξ t t' with|true=>sX P H t (Jr env s) (Jr env x) k|false=>W
    |_=>W
 |_=>W
def AJ4(P:Program)(cs:S Qd)(call:SN)(env:Bf)(H:Ar)(op:Op)(k:TV->Ar->T R):T R:=
 match Iq (mh cs env H op) env H with
 |(ef,hf)=>uE P cs call ef hf op k
def vd(cs:S Qd)(env:Bf)(H:Ar)(op:Op):S Nat:=
 match op with
 |.call c=>
  match aA env (.call c)with
  |some (F,vs)=>match oi cs F vs with|some _=>uF cs env H (.call c)|none=>match xZ vs with|some ids=>ids|none=>uF cs env H (.call c)
  |none=>uF cs env H (.call c)
 |op=>uF cs env H op
def zL(cs:S Qd)(env:Bf)(H:Ar)(op:Op):S Nat:=
 match mh cs env H op with
 |[]=>vd cs env H op
 |ids=>ids++ku ids 0 H++(match Iq ids env H with|(ef,hf)=>vd cs ef hf op)
def AKD:Op->Bool
 |.buildSlice .. =>V
 |_=>Y
def ABX(P:Program)(cs:S Qd)(call:SN)(ops:Array Oper)(m:S Nat)(gs:S Nat)(ow:Bool):S Nat->S (Nat×S Nat)->Bf->Ar->(Bf->Ar->T R)->T R
 |[],_,env,H,k=>k env H
 |i::r,pend,env,H,k=>
  match ops[i]? with
  |none=>W
  |some o=>
   match o.op with
   |.alloc t=>
    match vS P t with
    |some z=>
     match o.guard.isNone&&r.all (λj=>Pf m i j||Ig ops j)with
     |true=>ABX P cs call ops m gs ow r pend (env.putO o.dst (.c (.raw (.ptr (U H) 0 0)))) (H++[.live Y z]) k
     |false=>W
    |none=>W
   |op=>
    match iI ops o.guard env with
    |some Y=>ABX P cs call ops m gs ow r ((i,[])::pend) (env.putO o.dst (.tup [])) H k
    |some V=>
     match dq op&& !(ow&&AKD op)with
     |true=>
      match (rdT env op).all λid=>Nat.blt id (U H) with
      |true=>quD P env H op λv=>force (Ja i gs) v λv'=>ABX P cs call ops m gs ow r ((i,rdT env op)::pend) (env.putO o.dst v') H k
      |false=>W
     |false=>
      match r.all (λj=>Pf m i j||Ig ops j)&&pend.all (λp=>Pf m p.1 i||p.2.all λid=>!Ja id (zL cs (XA o env) H op))with
      |true=>AJ4 P cs call (XA o env) H op λv H'=>force (Ja i gs) v λv'=>ABX P cs call ops m gs ow r pend (env.putO o.dst v') H' k
      |false=>W
    |none=>W
variable {P:Program}{N:Nat}{o:Oper}{env:Bf}{H:Ar}{r:R}
def ACP(env:Bf)(b:Op)(h:isLen b=Y):∀id∈ABN (By env) b,id∈rdT env b:=by intro id a;unfold ABN at a;unfold rdT;rw[h];obtain⟨x,c,d⟩:=GX.1 a;refine GX.2 ⟨x,c,AG1 _ _ ?_⟩;rwa [<-Lg]
def Z3.mono{H}{v}{a b:S Nat}(h:Z3 P N o l H a v)(s:∀id∈a,id∈b):Z3 P N o l H b v:=λ_ _ d e=>h _ _ d λid c=>e id (s id c)
theorem Z3.len{env}{H}{v:Ad}(b:isLen o.op=V)(e:Cg P env H o.op=Z v):Z3 P N o env H [] v:=by
 intro c f d _;refine Dw (v:=v) ?_ ⟨rfl,rfl⟩;rw[xB (gX d),<-e];generalize o.op=op at b;unfold isLen at b;split at b;rename_i args a;obtain⟨args⟩:=args;obtain⟨a⟩:=a;match args,a with
 |[x],[t]=>rfl
 |[],_=>rfl
 |_::_::_,_=>rfl
 |[_],[]=>rfl
 |[_],_::_::_=>rfl
 rfl;rfl;rfl;cases b
theorem ADT{k:TV->T R}(ok:N3 env H)(h:quD P env H o.op k=Z r):∃v,Z3 P N o (By env) (BK H) (rdT env o.op) v.enc/\k v=Z r/\v.ok H:=by
 have main:quT P env H o.op k=Z r->∃v,Z3 P N o (By env) (BK H) (rdT env o.op) v.enc/\k v=Z r/\v.ok H:=λh=>by
  obtain⟨v,i,j,l⟩:=xC ok h;refine⟨v,?_,j,l⟩;cases z:isLen o.op with
  |true=>grind[rdT,Z3.len]
  |false=>exact(Xm i).mono (ACP _ _ z)
 generalize d:o.op=op at h;unfold quD at h;split at h;rename_i t len b;unfold rI at h;split at h;rename_i q m;split at h;rename_i f;split at h;rename_i F e;have E:=vC m f;refine⟨_,?_,h,J3 trivial⟩;rw[<-d];refine Z3.mono (a:=ABN (By env) o.op) ?_ (ACP _ _ (by rw[d];rfl));have y:xl P (By env) (BK H) o.op=Z (.vs q.sz ((b.toList.map λp=>Jr env p.2).map TV.enc)):=by grind[xl]
 have A:=kO (N:=N) y;intro x n i j;have l:=A x n i j;refine Jq.after (v:=.vs q.sz ((b.toList.map λp:Nat×Operand=>Jr env p.2).map TV.enc)) (H1:=n) l λX g w s=>⟨TM.refl _ _,λc D=>AHp (nW e) (kG e) (λv C=>?_) _ _ D⟩
 unfold iQ at f;simp only[BV]at f;obtain⟨u,B,rfl⟩:=Bn.1 C;have:=GN.1 f.1.1.2 u B;split at this;simp_all[ZT,fD];cases this;cases h;cases h;cases h;grind
theorem zK{d:List Qd}(u: ∀c∈d,c.Ok P){call:SN}(n:We P call){k:TV->Ar->Option R}(ok:N3 env H)(h:uE P d call env H o.op k=some r):ml P N o env H (vd d env H o.op) k r:=by
 have b: ∀j,o.op=j->rR P d call env H j k=some r->vd d env H j=uF d env H j->ml P N o env H (vd d env H o.op) k r:=λj a e f=>by subst a;rw[f];exact rS u n ok e
 generalize a:o.op=j at h;rw[<-a];cases j with
 |call c=>
  cases l:aA env (.call c)with
  |none=>exact b _ a (by unfold uE at h;unfold rR;grind) (by simp only[vd,l])
  |some p=>
   obtain⟨F,m⟩:=p;cases s:oi d F m with
   |some M=>exact b _ a (by unfold uE at h;unfold rR;grind) (by simp only[vd,l,s])
   |none=>
    cases q:xZ m with
    |none=>
     have hn:isNil m=false:=by cases m<;>first|rfl|cases q
     exact b _ a (by unfold uE at h;unfold rR;grind) (by simp only[vd,l,s,q])
    |some i=>
     obtain⟨E,G⟩:=oW l;simp only[uE,l,s,q]at h;split at h
     ·rename_i I;have L:=kj (S:=i) ok;obtain⟨v,t,q1,q2,q3,q4,q5⟩:=n (.fn F) m (Kl i 0 H) _ r (λv J x K=>qe (G H ok.env v J x K)) L.heap h;obtain⟨z,A,B,C,D⟩:=AEH ok.heap q5 q4;have y:Ei P F (m.map TV.enc) (BK H) (DT v.enc (BK t)):=by have:=q1;rw[yr,qd]at this;exact this
      refine⟨v,Rj i 0 H t,Jq.after (kq (by rw[a];exact E) I y) λX g w _=>?_,q2,z v q3,A,B,?_⟩
      ·have hr:=(D (cx X g (BK t) w)).onto;exact⟨hr,λc r=>r.later hr.later⟩
      ·rw[a];simp only[vd,l,s,q];exact C
     ·cases h
 |_=>exact b _ a (by unfold uE at h;unfold rR;grind) rfl
theorem w6{p:Nat×TV}(h:p∈XA o g):p.1∈tmpsOf o/\p.2=g.get p.1/\p.2≠.c (.raw .any):=by obtain⟨t,b,a⟩:=O0.1 h;grind
theorem AGt(h:x.enc=.any):x=.c (.raw .any):=by
 cases x with
 |c v=>
  cases v with
  |ar n t a=>cases h
  |_=>grind[TV.enc,Bu.one]
 |vw id b t n d m=>simp only[TV.enc,vwE]at h;split at h;split at h<;>cases h;cases h
 |_=>simp[TV.enc]at h
theorem mf{t:Nat}:∀{l:Bf},(∀p∈l,p.1≠t)->Bf.get l t=VZ
 |[],_=>rfl
 |(k,u)::r,h=>by simp only[Bf.get,beq_false (h (k,u) q!)];exact mf λp a=>h p (by simp[a])
theorem wl{j:Nat}:∀{l:S Nat},j∈l->Ja j l=V
 |i::r,h=>by simp only[Ja];rcases Aw.1 h with rfl|h;rw[Hk];rw[wl h];split<;>rfl
def AHv(ids:S Nat)(H:Ar)(j:Nat):Prop:=∀cs,H[j]?=Z (.live Y cs)->∀i∈LZ cs,i∉ids
theorem rj{ids:S Nat}:∀{H:Ar}{i j:Nat},i+j∉ku ids i H->AHv ids H j
 |e::r,i,0,hn,c,h=>by grind[ku,wl]
 |e::r,i,j+1,hn,c,h=>by
  have d:(i+1)+j∉ku ids (i+1) r:=by
   have f:i+1+j=i+(j+1):=o!
   rw[f];intro a;apply hn;cases e with
   |live b c=>cases b<;>grind[ku]
   |dead=>exact a
   |buf=>exact a
   |lp=>exact a
   |mp=>exact a
  exact rj (ids:=ids) d c h
def nl{id b:Nat}{t:Ty}{l:S t.D}:∀{a:S Bu},id∉LZ a->a.map (Nq id b t l)=a
 |[],_=>rfl
 |x::r,h=>by
  cases x with
  |own d c e n=>simp only[LZ,Aw,not_or]at h;simp only[CQ,Nq,beq_false h.1,pX,nl h.2]
  |_=>simp only[LZ]at h;simp only[CQ,Nq,nl h]
def gZ:∀(a:S Nat){env:Bf}{H:Ar}{j:Nat},j∉a->AHv a H j->(Iq a env H).2[j]?=H[j]?
 |[],_,_,_,_,_=>rfl
 |id::r,env,H,j,hj,hn=>by
  simp at hj;simp only[Iq];split;rename_i e h d;have m:h[j]?=H[j]? :=by
   unfold frz at d;split at d;rename_i t l n q s;simp at d;rw[<-d.2,Db (hj.1 ·.symm),CR];cases p:H[j]? with
   |none=>rfl
   |some o=>
    simp;cases o with
    |live b c=>
     cases b with
     |false=>simp only[Qx];rw[nl λf=>hn c p id f KW]
     |true=>rfl
    |_=>rfl
   cases d
  rw[gZ r hj.2 λc g i k f=>hn c (m▸g) i k (Ch _ f),m];exact gZ r hj.2 λc g i k f=>hn c g i k (Ch _ f)
theorem AAr(l:∀c∈e,c.Ok P)(g:We P k){b:TV→Ar→T R}(ok:N3 env H)(h:AJ4 P e k (XA o env) H o.op b=Z r):
  ∃v d,Eff P N o (By env) (BK H) (zL e (XA o env) H o.op) (DT v.enc (BK d))/\b v d=Z r/\v.ok d/\(∀f∈d,f.ok d)/\CE H d:=by
 have n:N3 (XA o env) H:=⟨λp m=>by rw[(w6 m).2.1];exact ka ok.env _,ok.heap⟩
 obtain⟨s,u,A⟩:=RZ (mh e (XA o env) H o.op) n;have w:=λj=>gZ (mh e (XA o env) H o.op) (env:=XA o env) (H:=H) (j:=j);have x:∀id,id∉zL e (XA o env) H o.op->id∉vd e (Iq (mh e (XA o env) H o.op) (XA o env) H).1 (Iq (mh e (XA o env) H o.op) (XA o env) H).2 o.op/\(Iq (mh e (XA o env) H o.op) (XA o env) H).2[id]?=H[id]? :=by intro id a;unfold zL at a;split at a;rename_i z;rw[z];exact⟨a,rfl⟩;simp only[Am,not_or]at a;refine⟨a.2,w id a.1.1 (rj (i:=0) k!)⟩
 obtain⟨v,d,q1,q2,q3,q4,q5,q6⟩:=zK (N:=N) l g s h;refine⟨v,d,⟨λt G=>Jq.before (Fb.subset λq y=>?_) (Jq.before (A N) q1),?_⟩,q2,q3,q4,u.step.trans q5⟩;obtain⟨p,m,rfl⟩:=Bn.1 y;obtain⟨D,E,F⟩:=w6 m;grind[Uu,N9,AGt];rintro _ _ ⟨rfl,rfl⟩ id a hn;rw[CZ]at a;obtain⟨B,C⟩:=x id hn;rw[EO,EO,q6 id (DE a u.step.len) B,C]
def UY{j:Nat}:∀{l:S Nat},Ja j l=Y->j∉l
 |i::r,h=>by simp only[Ja]at h;split at h;cases h;rename_i b;intro a;rcases Aw.1 a with rfl|a;rw[Hk]at b;cases b;exact UY h a
 |[],_=>λh=>by cases h
def vc(ops:Array Oper)(l:S Nat):S Nat:=l.filterMap λi=>(ops[i]?).bind (·.dst)
theorem ZN{L:Ψ Qd}(u:∀c∈L,c.Ok P){w}(s:We P w){b}{X}{ow}:∀(l:Ψ Nat)(n:Ψ (Nat×Ψ Nat))(env:Bf)(H:Ar)(k:Bf→Ar→Ω R)(r:R),N3 env H→
  ABX P L w b (Ip b.toList []) X ow l n env H k=δ r->
  ∃a q,RA P N b l n (By env) (BK H) (λe h=>e=By a/\h=BK q)/\k a q=δ r/\N3 a q/\EL (vc b l) env H a q
 |[],n,env,H,k,r,ok,h=>⟨env,H,⟨rfl,rfl⟩,h,ok,EL.refl _ _ _⟩
 |i::l,n,env,H,k,r,ok,h=>by
  simp only[ABX]at h;simp only[RA];cases J:b[i]? with
  |none=>rw[J]at h;cases h
  |some o=>
   rw[J]at h;simp only at h⊢;have m:∀{e:Bf}{h:Ar}{v:TV},EL (vc b [i]) e h (e.putO o.dst v) h:=by
    intro e h v;refine⟨CE.refl h,λt T _=>?_⟩;cases hd:o.dst with
    |none=>rfl
    |some d=>refine pP λe=>T ?_;simp[vc,J,hd,e]
   have g:∀t,t∈vc b [i]++vc b l->t∈vc b (i::l):=by grind[vc]
   split at h;rename_i t Q;split at h;rename_i z hz;split at h;rename_i F;simp only[BV]at F;obtain⟨z1,z2⟩:=ZW hz;have I:=CE.push H (.live η z);have f:N3 (env.putO o.dst (.c (.raw (.ptr (θ H) 0 0)))) (H++[.live η z]):=⟨bv (I.env ok.env) (J3 trivial),Py ok.heap (z2 _)⟩
   obtain⟨a,q,x,C,D,E⟩:=ZN u s l _ _ _ _ _ f h;have G:o.guard=ε:=by simpa using F.1
   refine⟨a,q,?_,C,D,?_⟩;rw[G];refine .inr (.inr ⟨t,lvs z,Q,z1,λj V_=>?_,?_⟩);grind[List.all_eq_true];have M:By (env.putO o.dst (.c (.raw (.ptr (θ H) 0 0))))=(By env).putO o.dst (.ptr (BK H).length 0 0):=by rw[YP,CZ];rfl
   have W_:BK (H++[.live η z])=BK H++[.live 0 (lvs z)]:=RX _ _;rw[M,W_]at x;exact x;have U:EL (vc b [i]) env H (env.putO o.dst (.c (.raw (.ptr (θ H) 0 0)))) (H++[.live η z]):=⟨I,(m (h:=H)).same⟩
   exact(EL.trans ok.env U E).mono g;cases h;cases h;rename_i O;have y:Ig b i=η:=by
    cases Z_:Ig b i with
    |false=>rfl
    |true=>obtain⟨t,T⟩:=(W7 J).1 Z_;exact(O t T).elim
   split at h;rename_i G;have f:N3 (env.putO o.dst (.tup [])) H:=⟨bv ok.env (Rf λv hv=>by cases hv),ok.heap⟩
   obtain⟨a,q,x,C,D,E⟩:=ZN u s l _ _ _ _ _ f h;have M:(By env).putO o.dst (.tup [])=By (env.putO o.dst (.tup [])):=by rw[YP];rfl
   exact⟨a,q,pC G ⟨y,by rw[M];exact x⟩,C,D,(EL.trans ok.env m E).mono g⟩;rename_i G;split at h;split at h;rename_i S;obtain⟨v,q1,q2,q3⟩:=ADT (N:=N) ok h;have B:=nZ q2;have f:N3 (env.putO o.dst v) H:=⟨bv ok.env q3,ok.heap⟩
   obtain⟨a,q,x,C,D,E⟩:=ZN u s l _ _ _ _ _ f B;refine⟨a,q,ke G (.inl ⟨y,v.enc,rdT env o.op,q1,λid A=>?_,by rw[<-YP];exact x⟩),C,D,(EL.trans ok.env m E).mono g⟩;have:=GN.1 S id A;rw[CZ];exact O2 this;cases h;split at h;rename_i F;simp only[BV]at F;obtain⟨v,K,q1,q2,q3,q4,q5⟩:=AAr (N:=N) u s ok h;have B:=nZ q2;have f:N3 (env.putO o.dst v) K:=⟨bv (q5.env ok.env) q3,q4⟩
   obtain⟨a,q,x,C,D,E⟩:=ZN u s l _ _ _ _ _ f B;refine⟨a,q,ke G (.inr (.inl ⟨y,zL L (XA o env) H o.op,λj V_=>by simpa using List.all_eq_true.1 F.1 j V_,λp hp=>?_,DT v.enc (BK K),q1,?_,?_⟩)),C,D,?_⟩;have:=GN.1 F.2 p hp;simp only[P0,GN,WH]at this;exact this.imp id λY_ id A=>UY (Y_ id A);rintro _ _ ⟨rfl,rfl⟩;rw[CZ,CZ];exact q5.len;rintro _ _ ⟨rfl,rfl⟩;rw[<-YP];exact x;have U:EL (vc b [i]) env H (env.putO o.dst v) K:=⟨q5,(m (h:=H)).same⟩
   exact(EL.trans ok.env U E).mono g;cases h;cases h
end
abbrev DV:=(t:Ty)×t.D
def dvs:(ts:S Ty)->DL ts->S DV
 |[],_=>[]
 |[t],x=>[⟨t,x⟩]
 |t::u::r,x=>⟨t,x.1⟩::dvs (u::r) x.2
def AA8:(ts:S Ty)->S DV->T (DL ts)
 |[],[]=>Z ()
 |[t],[⟨t',x⟩]=>if h:t'.beq t=V then Z (Ty.cast h x)else W
 |t::u::r,⟨t',x⟩::ds=>if h:t'.beq t=V then match AA8 (u::r) ds with|some y=>Z (Ty.cast h x,y)|none=>W else W
 |_,_=>W
def AB3{a:Ty}(h:a.beq D=V)(x:a.D):(⟨D,Ty.cast h x⟩:DV)=⟨a,x⟩:=by have e:=Ty.beq_eq a D h;subst e;rfl
theorem qj:∀{b:S Ty}{a:S DV}{s:DL b},AA8 b a=Z s->dvs b s=a
 |[],[],s,_=>rfl
 |[],_::_,s,h=>by cases h
 |[t],[],s,h=>by cases h
 |[t],[⟨t',x⟩],s,h=>by simp only[AA8]at h;split at h;rename_i c;injection h with h;subst h;simp only[dvs,AB3];cases h
 |[t],_::_::_,s,h=>by simp[AA8]at h
 |t::u::r,[],s,h=>by cases h
 |t::u::r,⟨t',x⟩::a,s,h=>by simp only[AA8]at h;split at h;rename_i c;split at h;rename_i y d;injection h with h;subst h;simp only[dvs,AB3,qj d];cases h;cases h
inductive Part where
 |d (t:Ty)
 |o (id:Nat)
inductive Ot where
 |t (tmp:Nat) (ty:Ty)
 |g (tmp id:Nat)
 |p (id:Nat) (ps:List Part)
 |u (id:Nat) (ty:Ty)
 |x (id:Nat)
 |k (tmp:Nat) (v:Ad)
 |y (id:Nat) (s:LS)
 |m (id:Nat) (k:IntKind) (t:Ty)
 |w (tmp id:Nat)
def AJb:Ad->Ad->Bool
 |.ptr a b c,.ptr a' b' c'=>ξ a a'&&(ξ b b'&&ξ c c')
 |.nilp,.nilp=>V
 |.nilf,.nilf=>V
 |_,_=>Y
def AHU{w}(h:AJb s w=V):s=w:=by unfold AJb at h;split at h<;>simp_all
def Lb:S Ot->S Nat
 |[]=>[]
 |.p id _::r=>id::Lb r
 |.u id _::r=>id::Lb r
 |.x id::r=>id::Lb r
 |.y id _::r=>id::Lb r
 |.m id _ _::r=>id::Lb r
 |_::r=>Lb r
def V7:S Ot->S Nat
 |[]=>[]
 |.t tmp _::r=>tmp::V7 r
 |.g tmp _::r=>tmp::V7 r
 |.k tmp _::r=>tmp::V7 r
 |.w tmp _::r=>tmp::V7 r
 |_::r=>V7 r
def AJU:S Part->S Ty
 |[]=>[]
 |.d t::r=>t::AJU r
 |_::r=>AJU r
def eu:S Ot->S Ty
 |[]=>[]
 |.t _ t::r=>t::eu r
 |.p _ ps::r=>AJU ps++eu r
 |.u _ t::r=>.list t::eu r
 |.m _ k t::r=>.list (.prod (.cons (.int k) (.one t)))::eu r
 |.w _ _::r=>.int .i64:: .int .i64::eu r
 |_::r=>eu r
def uC(H:Ar)(id:Nat):Bu->Bool
 |.own id' ver _ _=>match ξ id id' with
  |true=>match H[id]? with|some (.buf _ _ _ _ ver')=>ξ ver ver'|_=>Y
  |false=>Y
 |_=>Y
def rN(H:Ar)(rest:S Nat):S Part->S Bu->T (S DV)
 |[],[]=>Z []
 |.d t::ps,cs=>
  match t.mk cs with
  |some (x,cs')=>match rN H rest ps cs' with|some ds=>Z (⟨t,x⟩::ds)|none=>W
  |none=>W
 |.o id::ps,c::cs=>
  match uC H id c&& !Ja id rest with
  |true=>rN H rest ps cs
  |false=>W
 |_,_=>W
def Ym(env:Bf)(H:Ar):S Ot->T (S DV)
 |[]=>Z []
 |.t tmp ty::r=>
  match ty.data (env.get tmp),Ym env H r with
  |some x,Z ds=>Z (⟨ty,x⟩::ds)
  |_,_=>W
 |.g tmp id::r=>
  match env.get tmp with
  |.c x=>match uC H id x&& !Ja id (Lb r)with|true=>Ym env H r|false=>W
  |_=>W
 |.p id ps::r=>
  match H[id]? with
  |some (.live _ cs)=>
   match rN H (id::Lb r) ps cs,Ym env H r with
   |some a,Z b=>Z (a++b)
   |_,_=>W
  |_=>W
 |.u id ty::r=>
  match H[id]? with
  |some (.buf _ t l _ _)=>match t.beq ty,Ym env H r with|true,Z ds=>Z (⟨.list t,l⟩::ds)|_,_=>W
  |_=>W
 |.x _::r=>Ym env H r
 |.k tmp v::r=>
  match env.get tmp with
  |.c (.raw w)=>match AJb v w with|true=>Ym env H r|false=>W
  |_=>W
 |.y id s::r=>
  match H[id]? with
  |some (.lp _ _ _ _ _ _ _ s')=>match s.beq s' with|true=>Ym env H r|false=>W
  |_=>W
 |.m id k t::r=>
  match H[id]? with
  |some (.mp _ k' t' es)=>match τ (k'=k)&&t'.beq t,Ym env H r with|true,Z ds=>Z (⟨.list (.prod (.cons (.int k') (.one t'))),es⟩::ds)|_,_=>W
  |_=>W
 |.w tmp id::r=>
  match env.get tmp with
  |.vw id' ver te n lo m=>match uC H id (.own id' ver te n)&& !Ja id (Lb r),Ym env H r with|true,Z ds=>Z (⟨.int .i64,(lo:Int)⟩::⟨.int .i64,(m:Int)⟩::ds)|_,_=>W
  |_=>W
def uf(H:Ar):S Part->S DV->T (S Bu×S DV)
 |[],ds=>Z ([],ds)
 |.d _::ps,⟨t,x⟩::ds=>match uf H ps ds with|some (cs,r)=>Z (t.lvs x++cs,r)|none=>W
 |.o id::ps,ds=>
  match H[id]? with
  |some (.buf _ t _ n ver)=>match uf H ps ds with|some (cs,r)=>Z (.own id ver t n::cs,r)|none=>W
  |_=>W
 |_,_=>W
def WY:S Ot->S DV->Bf->Ar->T (Bf×Ar)
 |[],[],env,H=>Z (env,H)
 |.t tmp _::r,⟨t,x⟩::ds,env,H=>WY r ds ((tmp,t.tv x)::env) H
 |.g tmp id::r,ds,env,H=>
  match H[id]? with
  |some (.buf _ t _ n ver)=>WY r ds ((tmp,.c (.own id ver t n))::env) H
  |_=>W
 |.p id ps::r,ds,env,H=>
  match H[id]? with
  |some (.live Y _)=>match uf H ps ds with|some (cs,ds')=>WY r ds' env (H.set id (.live Y cs))|none=>W
  |_=>W
 |.u id _::r,⟨.list t,l⟩::ds,env,H=>
  match H[id]? with
  |some (.buf Y t' _ _ ver)=>match t'.beq t with|true=>WY r ds env (H.set id (.buf Y t l (U l) (ver+1)))|false=>W
  |_=>W
 |.x id::r,ds,env,H=>
  match H[id]? with
  |some e=>match e.ro||e.isLp with|false=>WY r ds env (H.set id .dead)|true=>W
  |none=>W
 |.k tmp v::r,ds,env,H=>WY r ds ((tmp,.c (.raw v))::env) H
 |.y id s::r,ds,env,H=>
  match H[id]? with
  |some (.lp Y F n e ps a b _)=>WY r ds env (H.set id (.lp Y F n e ps a b s))
  |_=>W
 |.m id _ _::r,⟨.list (.prod (.cons (.int k) (.one t))),es⟩::ds,env,H=>
  match H[id]? with
  |some (.mp Y k' t' _)=>match τ (k'=k)&&t'.beq t with|true=>WY r ds env (H.set id (.mp Y k t es))|false=>W
  |_=>W
 |.w tmp id::r,⟨.int _,lo⟩::⟨.int _,m⟩::ds,env,H=>
  match H[id]? with
  |some (.buf _ t _ n ver)=>WY r ds ((tmp,.vw id ver t n (ο lo) (ο m))::env) H
  |_=>W
 |_,_,_,_=>W
def AIf(e e':D0):Prop:=e'=.dead\/(∃b cs b' cs',e=.live b cs/\e'=.live b' cs'/\Dq (lvs cs) (lvs cs'))\/(∃b t l n v b' v',e=.buf b t l n v/\e'=.buf b' t l n v')\/(∃ro ro' F n env ps a b s,e=.lp ro F n env ps a b s/\e'=.lp ro' F n env ps a b s)\/(∃b b' k t es,e=.mp b k t es/\e'=.mp b' k t es)
def HR(H1 H:Ar)(rest:S Nat):Prop:=∀(j:Nat)(e':D0),Ja j rest=Y->H[j]?=Z e'->∃e,H1[j]?=Z e/\AIf e e'
theorem P5:Ja N (q::b)=Y↔N≠q/\Ja N b=Y:=by simp[Ja];by_cases h:N=q;simp_all;grind[beq_false]
theorem kE(j:E.ok d)(h:uC d N E=V):∃b t l n a,E=.own N a t n/\d[N]?=Z (.buf b t l n a):=by unfold uC at h;split at h;rename_i k a t n;split at h;rename_i i;have e:=DD i;subst e;split at h;rename_i b o l m H g;have f:=DD h;subst f;have⟨rfl,rfl⟩:=(j.2 _ _ _ _ _ g).2 rfl;grind;cases h;cases h;cases h
theorem Wd{b:Bool}{l:S D.D}(h:d[N]?=Z (.buf b D l y q)):S9 d N q D y:=by refine⟨?_,λro g e f c H=>?_⟩;grind;grind
theorem nT{q H}{i}(hr:HR q H i):∀{p:Ψ Part}{m:Ψ Bu}{a b j:Ψ DV}{f:Ψ Bu},lok q m→rN q i p m=δ a→uf H p (a++b)=δ (f,j)→
  j=b/\Dq (lvs m) (lvs f)/\lok H f
 |[],[],a,b,j,f,ok,h,k=>by grind[rN,Option.some.injEq,uf,Prod.mk.injEq,Dq.refl,AG8]
 |[],_::_,a,b,j,f,ok,h,k=>by simp[rN]at h
 |.d t::p,m,a,b,j,f,ok,h,k=>by simp[rN]at h;split at h;rename_i x R z;split at h;rename_i S u;cases h;obtain⟨Q,rfl,M⟩:=t.mk_spec _ _ _ z;simp[ET,uf]at k;split at k;rename_i E r v;obtain⟨rfl,rfl⟩:=k;have⟨q1,q2,q3⟩:=nT hr (JZ.1 ok).2 u v;refine⟨q1,?_,JZ.2 ⟨t.lvs_ok x,q3⟩⟩;rw[G8,G8,t.lvs_enc];exact M.append q2;cases k;cases h;cases h
 |.o id::p,c::m,a,b,j,f,ok,h,k=>by
  simp[rN]at h;split at h
  ·rename_i s;simp[BV,WH]at s;obtain⟨O,t,l,n,N,rfl,L⟩:=kE (ok c q!) s.1;simp[uf]at k;split at k
   ·rename_i P t2 l2 Z_ D B;split at k
    ·rename_i E r v;obtain⟨rfl,rfl⟩:=k;have⟨q1,q2,q3⟩:=nT hr (λx z=>ok x (by simp[z])) h v;have⟨e,C,w⟩:=hr id _ s.2 B;rw[L]at C;cases C;rcases w with g|⟨_,_,_,_,g,_⟩|⟨_,_,_,_,_,_,_,g,K⟩|⟨_,_,_,_,_,_,_,_,_,g,_⟩|⟨_,_,_,_,_,g,_⟩;cases g;cases g;rotate_left;cases g;cases g;injection g with T F U G V_;injection K with W_ I X J Y_;subst F G I J;refine⟨q1,?_,λy A=>?_⟩;rw[IA,IA];exact(Dq.refl _).append q2;rcases Aw.1 A with rfl|A;exact Wd B;exact q3 y A
    cases k
   cases k
  cases h
structure IS(env1:Bf)(H1:Ar)(slots:List Ot)(env:Bf)(H:Ar)(env2:Bf)(H2:Ar):Prop where
 get:∀t,Ja t (V7 slots)=Y->env2.get t=env.get t
 ok:N3 env2 H2
 env:∀p∈env2,∃v,(p.1,v)∈env1/\XI v.enc p.2.enc
 hr:HR H1 H2 []
 step:CE H H2
 len:U H2=U H
 same:∀j,Ja j (Lb slots)=Y->H2[j]?=H[j]?
def ZS{t:Nat}{v:TV}:∀{env:Bf},env.get t=v->v≠VZ->(t,v)∈env
 |[],h,hv=>N! h.symm hv
 |(k,u)::r,h,hv=>by simp only[Bf.get]at h;split at h;simp_all;exact Ch _ (ZS h hv)
def heap_set{e}(b:CE d (d.set N e))(ok:∀x∈d,x.ok d)(a:e.ok (d.set N e)):∀x∈d.set N e,x.ok (d.set N e):=by intro x c;rcases Qo c with h|rfl;exact b.ent (ok x h);exact a
theorem HR.set{a H}{id:Nat}{e d:D0}(h:HR a H (id::b))(g:a[id]?=Z e)(hr:AIf e d):HR a (H.set id d) b:=by intro j x f c;rw[Tr]at c;split at c;grind;rename_i r;exact h j x (P5.2 ⟨λq=>r q.symm,f⟩) c
theorem LpS.set{H c}{id:Nat}{i:D0}(h:LpS H c)(l:id<U H)(p:∀ro F n env f a b s,c[id]?=Z (.lp ro F n env f a b s)->∃g o,i=.lp g F n env f a b o):LpS (H.set id i) c:=by intro j k ro F n env f a b s m;rw[Oy]at k;by_cases d:j=id;grind;rw[Db λe=>d e.symm];exact h j k _ _ _ _ _ _ _ _ m
variable {j:S Ot}
theorem rY(id:Nat){f:Ar}{e:D0}(c:A[id]?=Z e)(a:(e.ro||e.isLp)=Y)(l:U A≤U d)(lp:LpS A d)
  (hr:HR d A (id::Lb j)) (ok:N3 J A) (q0:N3 J (A.set id .dead)->LpS (A.set id .dead) d->HR d (A.set id .dead) (Lb j)->IS g d j J (A.set id .dead) M f):IS g d (.x id::j) J A M f:=by
 have b:e.isLp=Y:=k!
 have st:CE A (A.set id .dead):=CE.set c k! λ_ _ _ _ _ e=>by cases e
 have r:id<U d:=k!
 have q:=q0 ⟨st.env ok.env,heap_set st ok.heap trivial⟩ (lp.set (HM c) λ_ _ _ _ _ _ _ _ i=>by have⟨k,m,q⟩:=lp id (HM c) _ _ _ _ _ _ _ _ i;rw[c]at q;injection q with q;rw[q]at b;cases b) (HR.set hr (As r) (.inl rfl));refine⟨q.get,q.ok,q.env,q.hr,st.trans q.step,by simpa using q.len,λH h=>?_⟩;have:=P5.1 h;rw[q.same H this.2,Db λe=>this.1 e.symm]
def Me{env1}{J}(z:N3 env1 J):∀{slots:Ψ Ot}{B:Ψ DV}{env:Bf}{H:Ar}{env2:Bf}{E:Ar},Ym env1 J slots=δ B→WY slots B env H=δ (env2,E)→N3 env H→
  θ H<=θ J->(∀p∈env,∃v,(p.1,v)∈env1/\XI v.enc p.2.enc)->HR J H (Lb slots)->LpS H J->IS env1 J slots env H env2 E
 |[],B,env,H,env2,E,h,k,ok,hl,he,hr,lp=>by simp only[Ym,Ao]at h;subst h;simp only[WY,Ao,Ee]at k;obtain⟨rfl,rfl⟩:=k;exact⟨λ_ _=>rfl,ok,he,hr,CE.refl _,rfl,λ_ _=>rfl⟩
 |.t tmp ty::r,B,env,H,env2,E,h,k,ok,hl,he,hr,lp=>by
  simp[Ym]at h;split at h;rename_i x d I R;cases h;simp[WY]at k;have f:N3 ((tmp,ty.tv x)::env) H:=⟨λp o=>by rcases Aw.1 o with rfl|o;exact ty.tv_ok x;exact ok.env p o,ok.heap⟩
  have q:=Me z R k f hl (λp o=>by rcases Aw.1 o with rfl|o;refine⟨env1.get tmp,ZS rfl λe=>?_,?_⟩;rw[e]at I;cases ty<;>cases I;simp[ty.tv_enc];exact Mi I;exact he p o) hr lp;refine⟨λt G=>?_,q.ok,q.env,q.hr,q.step,q.len,q.same⟩;have:=P5.1 G;rw[q.get t this.2];simp[Bf.get,beq_false λe=>this.1 e.symm];cases h
 |.g tmp id::r,B,env,H,env2,E,h,k,ok,hl,he,hr,lp=>by
  simp[Ym]at h;split at h
  ·rename_i x I;split at h
   ·rename_i D;simp[BV,WH]at D;have V_:x.ok J:=ka z.env tmp x (by rw[I];simp[TV.refs]);obtain⟨b1,t,l,n,ad,rfl,C⟩:=kE V_ D.1;simp[WY]at k;split at k
    ·rename_i b2 O l2 n2 N h2;have⟨e,L,T⟩:=hr id _ D.2 h2;rw[C]at L;cases L;rcases T with i|⟨_,_,_,_,i,_⟩|⟨_,_,_,_,_,_,_,i,h1⟩|⟨_,_,_,_,_,_,_,_,_,i,_⟩|⟨_,_,_,_,_,i,_⟩;cases i;cases i;rotate_left;cases i;cases i;injection i with e1 Z_ e3 e4 e5;injection h1 with f1 f2 f3 f4 f5;subst Z_ e4 f2 f4;have f:N3 ((tmp,.c (.own id N O n2))::env) H:=⟨λp o=>by rcases Aw.1 o with rfl|o;exact J3 (Wd h2);exact ok.env p o,ok.heap⟩
     have q:=Me z h k f hl (λp o=>by rcases Aw.1 o with rfl|o;exact⟨_,ZS I (λe=>by cases e),XI.refl _⟩;exact he p o) hr lp;refine⟨λt G=>?_,q.ok,q.env,q.hr,q.step,q.len,q.same⟩;have:=P5.1 G;rw[q.get t this.2];simp[Bf.get,beq_false λe=>this.1 e.symm]
    cases k
   cases h
  cases h
 |.p id Y_::r,B,env,H,env2,E,h,k,ok,hl,he,hr,lp=>by
  simp[Ym]at h;split at h;rename_i b cs C;split at h;rename_i a b1 ha D;cases h;simp[WY]at k;split at k;rename_i ap i;split at k;rename_i P Q hi;have ao:lok J cs:=by simpa only[D0.ok]using z.heap _ (BN C)
  have⟨rfl,q2,q3⟩:=nT hr ao ha hi;have st:CE H (H.set id (.live η P)):=CE.set i rfl λ_ _ _ _ _ e=>by cases e
  have A:HR J (H.set id (.live η P)) (Lb r):=HR.set hr C (.inr (.inl ⟨_,_,_,_,rfl,rfl,q2⟩));have f:N3 env (H.set id (.live η P)):=⟨st.env ok.env,heap_set st ok.heap (by simpa only[D0.ok]using st.lok q3)⟩
  have q:=Me z D k f (by simpa using hl) he A (lp.set (HM i) λ_ _ _ _ _ _ _ _ K=>by rw[C]at K;cases K);refine⟨q.get,q.ok,q.env,q.hr,st.trans q.step,by simpa using q.len,λj S=>?_⟩;have:=P5.1 S;rw[q.same j this.2,Db λe=>this.1 e.symm];cases k;cases k;cases h;cases h
 |.u id ty::r,B,env,H,env2,E,h,k,ok,hl,he,hr,lp=>by
  simp[Ym]at h;split at h;rename_i b t l n ad C;split at h;rename_i Q D R;cases h;simp[WY]at k;split at k;rename_i t' l0 n0 M i;split at k;rename_i G;have e:=Ty.beq_eq _ _ G;subst e;have hn:n=θ l:=by simpa only[D0.ok]using z.heap _ (BN C)
  have st:CE H (H.set id (.buf η t' l (θ l) (M+1))):=CE.set i rfl λro O l2 n2 v2 e=>by cases e;exact⟨_,_,_,_,rfl,.inl o!⟩
  have A:HR J (H.set id (.buf η t' l (θ l) (M+1))) (Lb r):=HR.set hr C (.inr (.inr (.inl ⟨_,_,_,_,_,_,_,rfl,by rw[hn]⟩)));have f:N3 env (H.set id (.buf η t' l (θ l) (M+1))):=⟨st.env ok.env,heap_set st ok.heap rfl⟩
  have q:=Me z R k f (by simpa using hl) he A (lp.set (HM i) λ_ _ _ _ _ _ _ _ K=>by rw[C]at K;cases K);refine⟨q.get,q.ok,q.env,q.hr,st.trans q.step,by simpa using q.len,λj S=>?_⟩;have:=P5.1 S;rw[q.same j this.2,Db λe=>this.1 e.symm];cases k;cases k;cases h;cases h
 |.x id::r,B,env,H,env2,E,h,k,ok,hl,he,hr,lp=>by
  simp[Ym]at h;cases B with
  |nil=>simp[WY]at k;split at k;rename_i e i;split at k;rename_i U;exact rY id i U hl lp hr ok λf X A=>Me z h k f (by simpa using hl) he A X;cases k;cases k
  |cons d B=>simp[WY]at k;split at k;rename_i e i;split at k;rename_i U;exact rY id i U hl lp hr ok λf X A=>Me z h k f (by simpa using hl) he A X;cases k;cases k
 |.k tmp w::r,B,env,H,env2,E,h,k,ok,hl,he,hr,lp=>by
  have k':WY r B ((tmp,.c (.raw w))::env) H=δ (env2,E):=by cases B<;>simpa only[WY]using k
  simp[Ym]at h;split at h;rename_i w' I;split at h;rename_i D;have e:=AHU D;subst e;have f:N3 ((tmp,.c (.raw w))::env) H:=⟨λp o=>by rcases Aw.1 o with rfl|o;exact J3 trivial;exact ok.env p o,ok.heap⟩
  have hw:w≠.any:=by rintro rfl;cases D
  have q:=Me z h k' f hl (λp o=>by rcases Aw.1 o with rfl|o;refine⟨_,ZS I (λe=>?_),XI.refl _⟩;injection e with e;injection e with e;exact hw e;exact he p o) hr lp;refine⟨λt G=>?_,q.ok,q.env,q.hr,q.step,q.len,q.same⟩;have:=P5.1 G;rw[q.get t this.2];simp[Bf.get,beq_false λe=>this.1 e.symm];cases h;cases h
 |.y id s::r,B,env,H,env2,E,h,k,ok,hl,he,hr,lp=>by
  simp[Ym]at h;split at h;rename_i ax F1 n1 e1 p1 a1 b1 s1 C;split at h;rename_i D;have e0:=LS.beq_eq D;subst e0;obtain⟨F,n,e,Y_,a,b,s0,i,k'⟩:∃F n e Y_ a b s0,H[id]?=δ (.lp η F n e Y_ a b s0)/\WY r B env (H.set id (.lp η F n e Y_ a b s))=δ (env2,E):=by cases B<;>simp[WY]at k<;>split at k<;>first|exact⟨_,_,_,_,_,_,_,‹_›,k⟩|cases k
  have⟨a0,s2,q⟩:=lp id (HM i) _ _ _ _ _ _ _ _ C;rw[i]at q;injection q with q;injection q with _ q2 q3 q4 q5 q6 q7 _;subst q2 q3 q4 q5 q6 q7;have st:CE H (H.set id (.lp η F n e Y_ a b s)):=CE.set i rfl (λ_ _ _ _ _ e=>by cases e) λ_ _ _ _ _ _ _ _ e=>by cases e;exact⟨_,_,rfl⟩
  have A:HR J (H.set id (.lp η F n e Y_ a b s)) (Lb r):=HR.set hr C (.inr (.inr (.inr (.inl ⟨_,_,_,_,_,_,_,_,_,rfl,rfl⟩))));have f:N3 env (H.set id (.lp η F n e Y_ a b s)):=⟨st.env ok.env,heap_set st ok.heap (by have:=ok.heap _ (BN i);simpa only[D0.ok]using this)⟩
  have q:=Me z h k' f (by simpa using hl) he A (lp.set (HM i) λ_ _ _ _ _ _ _ _ K=>by rw[C]at K;injection K with K;cases K;exact⟨_,_,rfl⟩);refine⟨q.get,q.ok,q.env,q.hr,st.trans q.step,by simpa using q.len,λj S=>?_⟩;have:=P5.1 S;rw[q.same j this.2,Db λe=>this.1 e.symm];cases h;cases h
 |.m id kk ty::r,B,env,H,env2,E,h,k,ok,hl,he,hr,lp=>by
  simp[Ym]at h;split at h;rename_i b k1 t1 es C;split at h;rename_i Q D R;cases h;simp[WY]at k;split at k;rename_i k2 O ar i;split at k;rename_i G;simp[BV,K!]at G;have⟨rfl,G⟩:=G;have e:=Ty.beq_eq _ _ G;subst e;have st:CE H (H.set id (.mp η k2 O es)):=CE.set i rfl λ_ _ _ _ _ e=>by cases e
  have A:HR J (H.set id (.mp η k2 O es)) (Lb r):=HR.set hr C (.inr (.inr (.inr (.inr ⟨_,_,_,_,_,rfl,rfl⟩))));have f:N3 env (H.set id (.mp η k2 O es)):=⟨st.env ok.env,heap_set st ok.heap trivial⟩
  have q:=Me z R k f (by simpa using hl) he A (lp.set (HM i) λ_ _ _ _ _ _ _ _ K=>by rw[C]at K;cases K);refine⟨q.get,q.ok,q.env,q.hr,st.trans q.step,by simpa using q.len,λj S=>?_⟩;have:=P5.1 S;rw[q.same j this.2,Db λe=>this.1 e.symm];cases k;cases k;cases h;cases h
 |.w tmp id::r,B,env,H,env2,E,h,k,ok,hl,he,hr,lp=>by
  simp[Ym]at h;split at h
  ·rename_i W_ al te n1 lo m I;split at h
   ·rename_i Q D R;cases h;simp[BV,WH]at D;have V_:(Bu.own W_ al te n1).ok J:=ka z.env tmp _ (by rw[I];simp[TV.refs]);obtain⟨b1,t,l,n,ad,e0,C⟩:=kE V_ D.1;injection e0 with e1 Z_ e3 e4;subst e1 Z_ e3 e4;simp[WY]at k;split at k
    ·rename_i b2 O l2 n2 N h2;have⟨e,L,T⟩:=hr W_ _ D.2 h2;rw[C]at L;cases L;rcases T with i|⟨_,_,_,_,i,_⟩|⟨_,_,_,_,_,_,_,i,h1⟩|⟨_,_,_,_,_,_,_,_,_,i,_⟩|⟨_,_,_,_,_,i,_⟩;cases i;cases i;rotate_left;cases i;cases i;injection i with e1 Z_ e3 e4 e5;injection h1 with f1 f2 f3 f4 f5;subst Z_ e4 f2 f4;have f:N3 ((tmp,.vw W_ N O n2 lo m)::env) H:=⟨λp o=>by rcases Aw.1 o with rfl|o;intro x I;simp only[TV.refs,A9]at I;subst I;exact Wd h2;exact ok.env p o,ok.heap⟩
     have q:=Me z R k f hl (λp o=>by rcases Aw.1 o with rfl|o;exact⟨_,ZS I (λe=>by cases e),XI.refl _⟩;exact he p o) hr lp;refine⟨λt G=>?_,q.ok,q.env,q.hr,q.step,q.len,q.same⟩;have:=P5.1 G;rw[q.get t this.2];simp[Bf.get,beq_false λe=>this.1 e.symm]
    cases k
   cases h
  cases h
def bE(n:Nat):S Bu->Bool
 |[]=>V
 |.own id _ _ _::r=>Nat.blt id n&&bE n r
 |.raw v::r=>v.idsAll (Nat.blt · n)&&bE n r
 |_::r=>bE n r
mutual
def wM(n:Nat):TV->Bool
 |.c x=>bE n [x]
 |.g cs=>bE n cs
 |.aptr id .. =>Nat.blt id n
 |.bptr id .. =>Nat.blt id n
 |.vw id .. =>Nat.blt id n
 |.vptr cs post=>bE n cs&&Ad.idsAllL (Nat.blt · n) post
 |.tup vs=>xh n vs
def xh(n:Nat):S TV->Bool
 |[]=>V
 |v::r=>wM n v&&xh n r
end
def vZ(n:Nat):Bf->Bool
 |[]=>V
 |(_,v)::r=>wM n v&&vZ n r
def mL(n:Nat):Ar->Bool
 |[]=>V
 |.live _ cs::r=>bE n cs&&mL n r
 |.lp _ _ _ env _ _ _ _::r=>vZ n env&&mL n r
 |_::r=>mL n r
def lT(h:Nat.blt q N=V):τ (q<N)=V:=t!
def kw(h:Pure s)(n:Nat):(s.idsAll λid=>decide (id<n))=V:=RO (λ_ h=>by cases h) s h
def ze:∀{x:Bu},bE N [x]=V->(∀v∈x.enc,(v.idsAll λid=>decide (id<N))=V)/\(x.one.idsAll λid=>decide (id<N))=V
 |.bl _,_=>⟨λv b=>by simp only[Bu.enc,A9]at b;subst b;rfl,rfl⟩
 |.it _ _,_=>⟨λv b=>by simp only[Bu.enc,A9]at b;subst b;rfl,rfl⟩
 |.st _,_=>⟨λv b=>by simp only[Bu.enc,A9]at b;subst b;rfl,rfl⟩
 |.ls t l,_=>⟨λv b=>by simp only[Bu.enc,A9]at b;subst b;exact kw ((Ty.list t).enc_pure l) N,kw ((Ty.list t).enc_pure l) N⟩
 |.ar m t a,_=>by have h:=kw ((Ty.arr m t).enc_pure a) N;refine⟨λv b=>?_,h⟩;exact((Dy _ _).1 h) v b
 |.own id ver t m,h=>by simp only[bE,RQ]at h;have:=lT h;exact⟨λv b=>by simp only[Bu.enc,A9]at b;subst b;exact this,this⟩
 |.nil,_=>⟨λv b=>by simp only[Bu.enc,A9]at b;subst b;rfl,rfl⟩
 |.raw v,h=>by simp only[bE,RQ]at h;have:=RO (λ_ h=>lT h) v h;exact⟨λu c=>by simp only[Bu.enc,A9]at c;subst c;exact this,this⟩
def wL{r:S Bu}(h:bE N (E::r)=V):bE N [E]=V/\bE N r=V:=by cases E<;>simp only[bE,RQ,BV]at h⊢ <;>first|exact h|exact⟨O!,h⟩
def lX{n}:∀{b:S Bu},bE n b=V->Ad.idsAllL (λid=>decide (id<n)) (lvs b)=V
 |[],_=>rfl
 |x::r,h=>by obtain⟨c,d⟩:=wL h;rw[IA,Dy];intro v a;rcases Am.1 a with a|a;exact(ze c).1 v a;exact((Dy _ _).1 (lX d)) v a
mutual
theorem gU{n}:∀{v:TV},wM n v=V->(v.enc.idsAll λid=>decide (id<n))=V
 |.c x,h=>(ze h).2
 |.g cs,h=>lX h
 |.aptr ..,h=>lT h
 |.bptr ..,h=>lT h
 |.vw id ver t k lo m,h=>by have b:=lT h;show((vwE id k t.sz lo m).idsAll λid=>decide (id<n))=V;unfold vwE;split;split;exact b;rfl;exact b
 |.vptr cs post,h=>by simp only[wM,BV]at h;simp only[TV.enc,Ad.idsAll];rw[Dy];intro v a;rcases Am.1 a with a|a;exact((Dy _ _).1 (lX h.1)) v a;exact((Dy _ _).1 (Jo (λ_ h=>lT h) post h.2)) v a
 |.tup vs,h=>by simp only[wM]at h;simp only[TV.enc,Ad.idsAll];exact rM h
theorem rM{n:Nat}:∀{a:S TV},xh n a=V->Ad.idsAllL (λid=>decide (id<n)) (TV.encL a)=V
 |[],_=>rfl
 |v::r,h=>by simp only[xh,BV]at h;simp only[TV.encL,Ad.idsAllL,BV];exact⟨gU h.1,rM h.2⟩
end
def lV{n:Nat}:∀{env:Bf},vZ n env=V->∀p∈env,wM n p.2=V
 |[],_,p,a=>by cases a
 |(t,v)::r,h,p,a=>by simp only[vZ,BV]at h;rcases Aw.1 a with rfl|a;exact h.1;exact lV h.2 p a
def lW{n}:∀{H:Ar},mL n H=V->∀e∈BK H,(e.idsAll λid=>decide (id<n))=V
 |x::r,h,e,c=>by
  have g:mL n r=V:=by cases x<;>simp only[mL,BV]at h<;>first|exact h|exact h.2
  simp only[BK,CQ,Aw]at c;rcases c with rfl|c;cases x with
  |dead=>rfl
  |live b o=>simp only[mL,BV]at h;exact lX h.1
  |buf b t l m k=>simp only[D0.enc,Fx.idsAll];rw[Dy];intro v d;obtain⟨u,j,d⟩:=GX.1 d;obtain⟨y,_,rfl⟩:=Bn.1 j;have h:=kw (t.E.pure y) n;cases q:t.E.f y<;>simp_all[Ad.idsAll,Dy,Ad.cells]
  |mp=>rfl
  |lp ro F m env w a b s=>simp only[mL,BV]at h;simp only[D0.enc,Fx.idsAll,By,List.all_map,GN];exact λp i=>gU (lV h.1 p i)
  exact lW g e c
def Fb.cut{N n0:Nat}{env:Env}{H:Au}(hn:n0≤U H)(d:∀t v,(t,v)∈env→(v.idsAll λid=>decide (id<n0))=V)
  (c:∀e∈H.take n0,(e.idsAll λid=>decide (id<n0))=V):Fb N n0 env H env (H.take n0):=
 ⟨w!,λX g a w s=>⟨g,⟨s.sim.trunc hn c,λt v m=>⟨(s.env t v m).1,(s.env t v m).2.trunc hn (d t v m)⟩,s.size⟩,λ_ _=>⟨rfl,rfl,rfl⟩,λB b=>iP b⟩⟩
theorem wP{e:Fx}(h:(BK d)[N]?=Z e):∃x,d[N]?=Z x/\e=x.enc:=by grind[BK]
theorem HR.rel(u:U A<=U d)(hr:HR d A [])(x:Cx):TM x x (BK d) (BK A++(BK d).drop (U A)):=by
 refine⟨by simp[BK];omega,λj w z=>?_⟩;have same:∀{y:D0},d[j]?=Z y->w=y.enc->w=.dead\/(∃g p c,(BK d)[j]?=Z (.live g p)/\w=.live g c/\U c=U p/\∀(i:Nat)(f:Ad),c[i]?=Z f->∃v,p[i]?=Z v/\Conv x x v f)\/((BK d)[j]?=Z w/\∀g p,w≠.live g p):=by
  intro y D q;have o:(BK d)[j]?=Z y.enc:=by grind[BK]
  subst q;cases y with
  |dead=>exact .inl rfl
  |live b p=>exact .inr (.inl ⟨_,_,_,o,rfl,rfl,λi f h=>⟨f,h,λ_ r=>r⟩⟩)
  |buf b t l m H=>exact .inr (.inl ⟨_,_,_,o,rfl,rfl,λi f h=>⟨f,h,λ_ r=>r⟩⟩)
  |lp=>exact .inr (.inr ⟨o,λ_ _ h=>by cases h⟩)
  |mp=>exact .inr (.inr ⟨o,λ_ _ h=>by cases h⟩)
 rcases Ay j (U A) with h|h;rw[CW (by rw[CZ];exact h)]at z;obtain⟨y,D,rfl⟩:=wP z;obtain⟨e,q,B⟩:=hr j y rfl D;rcases B with rfl|⟨b,p,C,c,rfl,rfl,u⟩|⟨b,t,l,m,v,C,f,rfl,rfl⟩|⟨ro,G,F,n,env,J,a,b,s,rfl,rfl⟩|⟨b,C,k,t,I,rfl,rfl⟩;exact .inl rfl;refine .inr (.inl ⟨0,lvs p,lvs c,by simp only[BK,CR,q,Bs,D0.enc],rfl,u.1,λi f E=>?_⟩);obtain⟨v,q1,q2⟩:=u.2 i f E;exact⟨v,q1,q2 x⟩;exact same q rfl;exact same q rfl;exact same q rfl;rw[Cl (by rw[CZ];exact h),J6]at z;rw[CZ]at z;grind[wP]
def IS.weak{N}{b}{H}(s:IS g b j J H M d)(k:U H≤U b)(n:vZ (U H) M=V)(o:mL (U H) d=V):
  Fb N (U H) (By g) (BK b) (By M) (BK d):=by
 have a:U d<=U b:=by rw[s.len];exact k
 have x:Fb N (BK b).length (By g) (BK b) (By M) (BK d++(BK b).drop (U d)):=by refine Wg (by simp[BK];omega) λX h w _=>?_;have q:=(HR.rel a s.hr (cx X h (BK b) w)).onto;refine⟨q,λt z m=>?_⟩;obtain⟨p,B,e⟩:=Bn.1 m;injection e with A f;subst A f;obtain⟨v,u,i⟩:=s.env p B;exact⟨v.enc,Bn.2 ⟨_,u,rfl⟩,λc r=>(i _ c r).later q.later⟩
 have l:(BK d++(BK b).drop (U d)).take (U H)=BK d:=by rw[<-s.len,<-CZ d,G4];rfl
 have y:Fb N (U H) (By M) (BK d++(BK b).drop (U d)) (By M) (BK d):=by have:=Fb.cut (N:=N) (n0:=U H) (env:=By M) (H:=BK d++(BK b).drop (U d)) (by simp[BK,s.len]) (λt v m=>by obtain⟨p,B,e⟩:=Bn.1 m;injection e with A f;subst A f;exact gU (lV n p B)) (by rw[l];exact lW o);rwa [l]at this
 exact(x.of_le (by rw[CZ];exact k)).trans y
def wR:Exit->Exit->Bool
 |.normal,.normal=>V
 |.exit a,.exit b=>ξ a b
 |.ret,.ret=>V
 |_,_=>Y
def uJ{b}(h:wR K b=V):K=b:=by cases K<;>cases b<;>simp only[wR]at h<;>first|rfl|cases h|exact E! _ (DD h)
structure Hint where
 kind:Nat
 key:Nat
 virt:List (Nat×Ty)
 virtC:List (Nat×Nat×Ty)
 kill:List Nat
 drop:List Nat
 slots:List Ot
 exits:List (Exit×List Ot)
def vr(n id:Nat):Nat:=match Nat.ble 100 id with|true=>id+n-150|false=>id
def Part.rel(n:Nat):Part->Part
 |.o id=>.o (vr n id)
 |p=>p
def Ot.rel(n:Nat):Ot->Ot
 |.g tmp id=>.g tmp (vr n id)
 |.p id ps=>.p (vr n id) (ps.map (Part.rel n))
 |.u id ty=>.u (vr n id) ty
 |.x id=>.x (vr n id)
 |.y id st=>.y (vr n id) st
 |.m id kk ty=>.m (vr n id) kk ty
 |.w tmp id=>.w tmp (vr n id)
 |z=>z
def Hint.rel(n:Nat)(h:Hint):Hint:=⟨h.kind,h.key,h.virt,h.virtC.map λp=>(vr n p.1,p.2),h.kill.map (vr n),h.drop,h.slots.map (Ot.rel n),h.exits.map λp=>(p.1,p.2.map (Ot.rel n))⟩
def Hint.tmps(h:Hint):S Nat:=h.drop++h.virt.map (·.1)++V7 h.slots++h.exits.flatMap λp=>V7 p.2
def xM(n:Nat):∀l:S Ot,V7 (l.map (Ot.rel n))=V7 l
 |[]=>rfl
 |s::r=>by cases s<;>simp[V7,Ot.rel,xM n r]
def Td(n:Nat)(h:Hint):(h.rel n).tmps=h.tmps:=by simp[Hint.tmps,Hint.rel,xM,List.flatMap_map]
def mb(kind key:Nat):S Hint->T Hint
 |[]=>W
 |h::r=>match ξ kind h.kind&&ξ key h.key with|true=>Z h|false=>mb kind key r
def zR:Code->T Nat
 |.region id _ _=>Z id
 |.seq a b=>match zR a with|some x=>Z x|none=>zR b
 |.cond _ a b=>match zR a with|some x=>Z x|none=>zR b
 |.block _ b=>zR b
 |.loop b=>zR b
 |_=>W
def uY:Code->Bool
 |.seq a _=>uY a
 |.block _ b=>uY b
 |.loop _=>V
 |_=>Y
def AJ9(b:Code)(r:Nat)(hs:S Hint):T Hint:=
 match uY b with
 |true=>(match mb 5 r hs with|some h=>Z h|none=>mb 0 r hs)
 |false=>mb 0 r hs
def hintOf(hs:S Hint):Code->T Hint
 |.loop b=>match zR b with|some r=>(match mb 8 r hs with|some h=>Z h|none=>AJ9 b r hs)|none=>W
 |.block id _=>mb 1 id hs
 |.cond _ a b=>match zR (.seq a b)with|some r=>mb 2 r hs|none=>W
 |.region id _ _=>mb 6 id hs
 |_=>W
def rW(hs:S Hint)(c:Code):S Nat:=
 match hintOf hs c with
 |some h=>h.tmps
 |none=>[]
def su(hs:S Hint):Code->Code->T Hint
 |.region id _ _,.cond _ _ _=>mb 4 id hs
 |_,_=>W
def vL(hs:S Hint)(a b:Code):S Nat:=
 match su hs a b with
 |some h=>h.tmps
 |none=>[]
def O4(hs:S Hint):Code->S Nat
 |.region id ops d=>oe ops.toList++rW hs (.region id ops d)
 |.seq a b=>(O4 hs a++O4 hs b)++vL hs a b
 |.cond c a b=>O4 hs a++O4 hs b++rW hs (.cond c a b)
 |.block id b=>O4 hs b++rW hs (.block id b)
 |.loop b=>O4 hs b++rW hs (.loop b)
 |_=>[]
def yw:TV->Bool
 |.c (.raw .any)=>V
 |_=>Y
def AEB(h:yw x=Y):x≠VZ:=by rintro rfl;cases h
def xr(H:Ar)(id:Nat):Bool:=match H[id]? with|some (.buf Y _ _ _ _)=>V|_=>Y
def iq(A S:Ψ Nat)(H:Ar)(t:Nat)(v:TV):Bool:=
 match Ja t A with
 |true=>Y
 |false=>match yw v with
  |true=>Y
  |false=>(LZ v.refs).all λid=>!(Ja id S&&xr H id)
def Qu(A S:Ψ Nat)(H:Ar):Bf->Bf
 |[]=>[]
 |(t,v)::r=>match iq A S H t v with|true=>(t,v)::Qu A S H r|false=>Qu A S H r
def ql:Bf->Bool
 |[]=>V
 |(t,_)::r=>!Ja t (r.map (·.1))&&ql r
theorem Wa(h:N∉b):Ja N b=Y:=by
 cases a:Ja N b with
 |false=>rfl
 |true=>induction b<;>grind[Ja,Nat.eq_of_beq_eq_true]
def aL:∀{env:Bf},ql env=V->(env.map (·.1)).Nodup
 |[],_=>Qq
 |(t,v)::r,h=>by simp only[ql,BV,WH]at h;exact G3.2 ⟨UY h.1,aL h.2⟩
theorem lR{A S}{H}:∀{env:Bf},(env.map (·.1)).Nodup->∀t,iq A S H t (env.get t)=V->(Qu A S H env).get t=env.get t
 |[],_,t,_=>rfl
 |(u,v)::r,nd,t,h=>by have a:=G3.1 nd;simp only[Bf.get]at h⊢;by_cases b:u=t;grind[Nat.beq_refl,Qu,Bf.get];rw[beq_false b]at h⊢;have c:=lR a.2 t h;grind[Qu,Bf.get,beq_false]
theorem RU{A S:Ψ Nat}{H:Ar}:∀{env:Bf},(env.map (·.1)).Nodup->∀p∈Qu A S H env,env.get p.1=p.2/\iq A S H p.1 p.2=V/\p∈env
 |(u,v)::r,nd,p,h=>by
  have a:=G3.1 nd;have tail:p∈Qu A S H r->Bf.get ((u,v)::r) p.1=p.2/\iq A S H p.1 p.2=V/\p∈(u,v)::r:=λh=>by obtain⟨q1,q2,q3⟩:=RU a.2 p h;grind[Bf.get,beq_false]
  grind[Qu,Bf.get,Nat.beq_refl]
theorem AG7(H:Ar):LpS (Kl b 0 H) H:=by intro id c ro F n env d a S s h;rw[JY,h];split;grind;exact⟨_,_,rfl⟩
theorem AEv(H:Ar):LpS H (Kl b 0 H):=by
 intro id d ro F n env f a S s h;rw[JY]at h;cases c:H[id]? with
 |none=>grind
 |some e=>
  rw[c]at h;simp at h;split at h;grind;cases e with
  |lp=>injection h with _ q2 q3 q4 q5 q6 q7 _;grind
  |_=>cases h
def nm{id a n}{t}:∀{b:S Bu},Bu.own id a t n∈b->id∈LZ b
 |x::r,h=>by rcases Aw.1 h with rfl|h;exact KW;have:=nm h;cases x<;>simp only[LZ]<;>first|exact this|exact Ch _ this
def zb(h:iq b v d N x=V)(m:x.ok d)(st:CE (Kl v 0 d) A):pE A x:=by
 intro id o r n g;unfold iq at h;split at h;cases h;split at h;cases h;have H:=GN.1 h id (nm g);have S:id<U d:=(m _ g).1;refine st.nb id (by rw[Im];exact S) λq l p i a=>?_;rw[JY,DZ]at a;cases c:d[id]? with
 |none=>rw[c]at a;cases a
 |some e=>rw[c]at a;simp only[Bs,Ao]at a;split at a;rename_i k;subst a;simp only[k,xr,c]at H;cases H;cases e<;>simp only[D0.lock]at a<;>first|cases a|(injection a with j;cases j)
theorem AEt(g:Ja N b=Y)(i:yw x=Y)(j:pE d x):iq b v d N x=V:=by
 unfold iq;rw[g,i];refine GN.2 λid e=>?_;have:∃S f n,Bu.own id S f n∈x.refs:=by
  generalize x.refs=cs at e;induction cs with
  |nil=>cases e
  |cons A r m=>
   cases A with
   |own l S f n=>grind[LZ]
   |_=>obtain⟨a,H,c,h⟩:=m e;grind
 obtain⟨S,f,n,k⟩:=this;have:=j id S f n k;grind[xr]
def AJD:S Part->S Nat
 |[]=>[]
 |.o id::r=>id::AJD r
 |_::r=>AJD r
def mj(env:Bf)(H:Ar):S Ot->S Nat
 |[]=>[]
 |.t tmp _::r=>LZ (env.get tmp).refs++mj env H r
 |.p id ps::r=>(match H[id]? with|some (.live _ cs)=>(LZ cs).filter λi=>!Ja i (AJD ps)|_=>[])++mj env H r
 |_::r=>mj env H r
def zD(sl:S Ot)(env:Bf)(H:Ar):T (DL (eu sl)):=
 match Iq (mj env H sl) env H with
 |(e,h)=>match Ym e h sl with|some ds=>AA8 (eu sl) ds|none=>W
def yH:S (Exit×S Ot)->Type
 |[]=>Unit
 |[p]=>DL (eu p.2)
 |p::q::r=>DL (eu p.2)⊕yH (q::r)
def ABE:(xs:S (Exit×S Ot))->Exit->Bf->Ar->T (yH xs)
 |[],_,_,_=>W
 |[p],x,env,H=>match wR p.1 x with|true=>zD p.2 env H|false=>W
 |p::q::r,x,env,H=>
  match wR p.1 x with
  |true=>(match zD p.2 env H with|some s=>Z (.inl s)|none=>W)
  |false=>(match ABE (q::r) x env H with|some s=>Z (.inr s)|none=>W)
def AJK{R:Type}:(xs:S (Exit×S Ot))->yH xs->(Exit->S Ot->S DV->T R)->T R
 |[],_,_=>W
 |[p],s,k=>k p.1 p.2 (dvs (eu p.2) s)
 |p::q::r,o,k=>ν (λs=>k p.1 p.2 (dvs (eu p.2) s)) (AJK (q::r) · k) o
def yI:(xs:S (Exit×S Ot))->yH xs->Exit×S Ot×S DV
 |[],_=>(.normal,[],[])
 |[p],s=>(p.1,p.2,dvs (eu p.2) s)
 |p::q::r,.inl s=>(p.1,p.2,dvs (eu p.2) s)
 |p::q::r,.inr s=>yI (q::r) s
def w7{R:Type}:∀{xs:S (Exit×S Ot)}{o:yH xs}{k:Exit->S Ot->S DV->T R}{r:R},AJK xs o k=Z r->k (yI xs o).1 (yI xs o).2.1 (yI xs o).2.2=Z r
 |[],_,_,_,h=>by cases h
 |[p],s,k,r,h=>h
 |p::q::t,.inl s,k,r,h=>h
 |p::q::t,.inr s,k,r,h=>w7 (xs:=q::t) h
def AF6(sl:S Ot)(ds:S DV)(env:Bf)(H:Ar):Prop:=Ym (Iq (mj env H sl) env H).1 (Iq (mj env H sl) env H).2 sl=Z ds
theorem nS{s:DL (eu j)}(h:zD j g d=Z s):AF6 j (dvs (eu j) s) g d:=by grind[zD,AF6,qj]
def w8:∀{xs:S (Exit×S Ot)}{x:Exit}{env:Bf}{H:Ar}{o:yH xs},ABE xs x env H=Z o→
  (yI xs o).1=x/\AF6 (yI xs o).2.1 (yI xs o).2.2 env H/\∃p∈xs,(yI xs o).2.1=p.2
 |[p],x,env,H,o,h=>by simp only[ABE]at h;split at h;rename_i a;exact⟨uJ a,nS h,p,q!,rfl⟩;cases h
 |p::q::r,x,env,H,o,h=>by simp only[ABE]at h;split at h;rename_i a;split at h;rename_i s b;injection h with h;subst h;exact⟨uJ a,nS b,p,q!,rfl⟩;cases h;split at h;rename_i s b;injection h with h;subst h;obtain⟨q1,q2,c,q3,q4⟩:=w8 (xs:=q::r) b;exact⟨q1,q2,c,Ch _ q3,q4⟩;cases h
structure AAW(A S:List Nat)(env0:Bf)(H0:Ar)(e2:Bf)(h2:Ar):Prop where
 ok:N3 e2 h2
 step:CE (Kl S 0 H0) h2
 len:U h2=U H0
 same:∀j,Ja j S=Y->h2[j]?=(Kl S 0 H0)[j]?
 get:∀p∈Qu A S H0 env0,e2.get p.1=p.2
theorem ABp{A B S:List Nat}{env0:Bf}{a:Ar}{L:Bf}{s:Ar}(m:N3 env0 a)(nd:(env0.map (·.1)).Nodup)(g:AAW A S env0 a L s)
  {env1:Bf} {d:Ar} (G:N3 env1 d) (st:EL B L s env1 d) (U: ∀t,t∈B->t∈A) {o:List Ot} {K:List DV} (W_:AF6 o K env1 d)
  {Hx:Ar} (J: ∀e∈Hx,e.ok Hx) (y:Hx.length=a.length) (F:LpS Hx (Kl S 0 a)) (rx: ∀id c t n,S9 a id c t n->S9 Hx id c t n) (E: ∀(j:Nat) (i:D0),Ja j (Lb o)=false->Hx[j]? =some i->i= .dead\/ ∃e,Ja j S=false/\(Kl S 0 a)[j]? =some e/\e.ro=true/\AIf e i)
  {r:Bf} {f:Ar} (Y_:WY o K (Qu A S a env0) Hx=some (r,f)) (ce:vZ a.length r=true) (ch:mL a.length f=true) (N:Nat):
  Fb N a.length (By env1) (BK d) (By r) (BK f)/\ ∃P V_,IS P V_ o (Qu A S a env0) Hx r f:=by
 obtain⟨I,z,wf⟩:=RZ (mj env1 d o) G;have u:a.length<=d.length:=by rw[<-g.len];exact st.step.len
 have b:=EL.trans g.ok.env st z;have H: ∀p∈Qu A S a env0,p.2.ok Hx:=λp v x E=>by
  have:=m.env p (RU nd p v).2.2 x E;cases x with
  |own id c t n=>exact rx _ _ _ _ this
  |_=>trivial
 have q:=Me I W_ Y_ ⟨H,J⟩ (by rw[y];exact CK u z.step.len) (λp v=>by
  obtain⟨b1,M,O⟩:=RU nd p v;have hk:=zb M (m.env p O) g.step;have T:Ja p.1 A=false:=by grind[iq]
  have k:yw p.2=false:=by grind[iq]
  have X:=g.get p v;have:=b.same p.1 (λh=>by rw[Do]at h;exact UY T (U _ h)) k!;rw[X]at this;exact⟨p.2,ZS this (AEB k),XI.refl _⟩) (λj i Z_ C=>by
   have D:j<a.length:=k!
   rcases E j i Z_ C with rfl|⟨e,Q,s,f,R⟩;exact⟨_,As (DE D (CK u z.step.len)),.inl rfl⟩;exact⟨e,b.step.ro j e (by rw[g.same j Q];exact s) f,R⟩) (λid l _ _ _ _ _ _ _ _ hq=>by
  obtain⟨ad,s1,q1⟩:=(g.step.trans b.step).lp id (by rw[Im,<-y];exact l) _ _ _ _ _ _ _ _ hq;exact F id l _ _ _ _ _ _ _ _ q1)
 have w:=q.weak (N:=N) (by rw[y];exact CK u z.step.len) k! k!;rw[y]at w;exact⟨((wf N).of_le (by rw[CZ];exact u)).trans w,_,_,q⟩
open Classical in
noncomputable def vD{α:Type}(g:S α->Unit->T (S α))(l:S α):T (S α):=if∀m,l.Perm m->g m ()=g l ()then g l ()else W
theorem ABI{g:S R->Unit->T (S R)}{l s:S R}(h:vD g l=Z s):∀m,l.Perm m->g m ()=Z s:=by grind[vD]
def yK:S Oper->T (Nat×Nat×Nat×TypeId×TypeId)
 |[⟨Z a1,.load ty1 (.tmp c0),_,_,_,W⟩,⟨Z a2,.range ty2 (.tmp b1),_,_,_,W⟩]=>match ξ a1 b1 with|true=>Z (c0,a1,a2,ty1,ty2)|false=>W
 |_=>W
def u6:S Oper->T (Nat×Nat×Nat)
 |[⟨Z a3,.next (.tmp a2) Y,_,_,_,W⟩,⟨Z a4,.extract (.tmp b3) 0,_,_,_,W⟩]=>match ξ a3 b3 with|true=>Z (a2,a3,a4)|false=>W
 |_=>W
def u7:S Oper->T (Nat×Nat×Nat×Nat×TypeId×TypeId)
 |[⟨Z a5,.entry (.tmp a2),_,_,_,W⟩,⟨Z a6,.extract (.tmp b5) 1,_,_,_,W⟩,⟨Z a7,.alloc te1,_,_,_,W⟩,⟨W,.store te2 (.tmp b7) (.tmp b6),_,_,_,W⟩]=>
  match ξ a5 b5&&(ξ a6 b6&&ξ a7 b7)with|true=>Z (a2,a5,a6,a7,te1,te2)|false=>W
 |_=>W
def vA:S Oper->T (Nat×Nat×Nat×Nat×Nat×Nat×TypeId×TypeId×TypeId)
 |[⟨Z a8,.move (.tmp out),_,_,_,W⟩,⟨Z a9,.load te3 (.tmp a7),_,_,_,W⟩,⟨Z a10,.buildSlice ts1 1 ⟨[(0,.tmp b9)]⟩,_,_,_,W⟩,
   ⟨Z a11,.call {callee:=.builtin .append,args:=⟨[.tmp b8,.tmp b10]⟩,argTypes:=⟨[ts2,ts3]⟩},_,_,_,W⟩,⟨Z out2,.assign (.tmp b11),_,_,_,W⟩]=>
  match ξ a8 b8&&(ξ a9 b9&&(ξ a10 b10&&(ξ a11 b11&&(ξ out out2&&ξ ts2 ts3))))with|true=>Z (out,a7,a8,a9,a10,a11,te3,ts1,ts2)|false=>W
 |_=>W
def yL:S Oper->T (Nat×Nat×Nat×FuncId×FuncId)
 |[⟨Z a12,.move (.tmp out),_,_,_,W⟩,⟨Z a13,.call {callee:=.value (.func F),args:=⟨[.tmp b12,.func G]⟩,.. },_,_,_,W⟩]=>match ξ a12 b12 with|true=>Z (out,a12,a13,F,G)|false=>W
 |_=>W
def rk(h:yK f=Z (N,q,y,n,L)):
  ∃e c a l d b,f=[⟨Z q,.load n (.tmp N),e,c,a,W⟩,⟨Z y,.range L (.tmp q),l,d,b,W⟩]:=by
 unfold yK at h;split at h;split at h<;>simp_all;cases h
def rl(h:u6 f=Z (N,q,y)):
  ∃e c a l d b,f=[⟨Z q,.next (.tmp N) Y,e,c,a,W⟩,⟨Z y,.extract (.tmp q) 0,l,d,b,W⟩]:=by
 unfold u6 at h;split at h;split at h<;>simp_all;cases h
def rp{a7:Nat}(h:u7 f=Z (N,q,y,a7,n,L)):
  ∃j e a k l b m g c o i d,f=[⟨Z q,.entry (.tmp N),j,e,a,W⟩,⟨Z y,.extract (.tmp q) 1,k,l,b,W⟩,⟨Z a7,.alloc n,m,g,c,W⟩,⟨W,.store L (.tmp a7) (.tmp y),o,i,d,W⟩]:=by
 unfold u7 at h;split at h;split at h<;>simp_all;cases h
def rq{a9 a10 a11:Nat}{ts2:TypeId}(h:vA f=Z (N,q,y,a9,a10,a11,n,L,ts2)):
  ∃m l a s g b o i c p j d r k e,f=[⟨Z y,.move (.tmp N),m,l,a,W⟩,⟨Z a9,.load n (.tmp q),s,g,b,W⟩,⟨Z a10,.buildSlice L 1 #[(0,.tmp a9)],o,i,c,W⟩,⟨Z a11,.call {callee:=.builtin .append,args:= #[.tmp y,.tmp a10],argTypes:= #[ts2,ts2]},p,j,d,W⟩,⟨Z N,.assign (.tmp a11),r,k,e,W⟩]:=by
 unfold vA at h;split at h;split at h<;>simp_all;cases h
def sA{G:FuncId}(h:yL f=Z (N,q,y,u,G)):
  ∃l d b a g e c,f=[⟨Z q,.move (.tmp N),l,d,b,W⟩,⟨Z y,.call {callee:=.value (.func u),args:= #[.tmp q,.func G],argTypes:=a},g,e,c,W⟩]:=by
 unfold yL at h;split at h;split at h<;>simp_all;cases h
structure YU where
 c0:Nat
 a1:Nat
 a2:Nat
 a3:Nat
 a4:Nat
 a5:Nat
 a6:Nat
 a7:Nat
 a8:Nat
 a9:Nat
 a10:Nat
 a11:Nat
 a12:Nat
 a13:Nat
 out:Nat
 ty1:TypeId
 ty2:TypeId
 te1:TypeId
 te2:TypeId
 te3:TypeId
 ts1:TypeId
 ts2:TypeId
 F:FuncId
 G:FuncId
def yE:S Nat->Bool
 |[]=>V
 |t::r=>!Ja t r&&yE r
def rf:∀{l:S Nat},yE l=V->l.Nodup
 |[],_=>Qq
 |t::r,h=>by simp only[yE,BV,WH]at h;exact G3.2 ⟨UY h.1,rf h.2⟩
def oY:Code->Code->T YU
 |.seq (.region _ o1 Y) (.block b1 (.loop (.seq (.region _ o2 Y) (.seq (.cond (.tmp x4) .skip (.exit b2)) (.block _ (.seq (.region _ o3 Y) (.region _ o4 Y))))))),.region _ o5 Y=>
  match yK o1.toList,u6 o2.toList,u7 o3.toList,vA o4.toList,yL o5.toList with
  |some (c0,a1,a2,ty1,ty2),Z (x2,a3,a4),Z (y2,a5,a6,a7,te1,te2),Z (out,x7,a8,a9,a10,a11,te3,ts1,ts2),Z (out2,a12,a13,F,G)=>
   match (ξ b1 b2&&(ξ a4 x4&&(ξ a2 x2&&(ξ a2 y2&&(ξ a7 x7&&ξ out out2)))))&&yE [out,a1,a2,a3,a4,a5,a6,a7,a8,a9,a10,a11,a12,a13]with
   |true=>Z ⟨c0,a1,a2,a3,a4,a5,a6,a7,a8,a9,a10,a11,a12,a13,out,ty1,ty2,te1,te2,te3,ts1,ts2,F,G⟩
   |false=>W
  |_,_,_,_,_=>W
 |_,_=>W
def YU.tmps(p:YU):S Nat:=[p.out,p.a1,p.a2,p.a3,p.a4,p.a5,p.a6,p.a7,p.a8,p.a9,p.a10,p.a11,p.a12,p.a13]
def aC(A:S Nat):Bf->Bf
 |[]=>[]
 |(t,v)::r=>match Ja t A with|true=>aC A r|false=>(t,v)::aC A r
def WQ{A:S Nat}:∀{env:Bf}{q:Nat×TV},q∈aC A env->q∈env/\q.1∉A
 |[],_,h=>by cases h
 |(t,v)::r,q,h=>by simp only[aC]at h;split at h;exact⟨Ch _ (WQ h).1,(WQ h).2⟩;rename_i a;rcases Aw.1 h with rfl|h;exact⟨KW,UY a⟩;exact⟨Ch _ (WQ h).1,(WQ h).2⟩
theorem qL{A:S Nat}{u:Nat}(a:u∉A):∀env:Bf,(aC A env).get u=env.get u
 |[]=>rfl
 |(t,v)::r=>by
  simp only[aC,Bf.get];split;rename_i b;have:t≠u:=λe=>by grind[Wa]
  rw[beq_false this];exact qL a r;simp[Bf.get,qL a r]
noncomputable def AER(P:Program)(N:Nat)(cs:S Qd)(p:YU)(env:Bf)(H:Ar){R:Type}(k:Bf->Ar->T R):T R:=
 match env.get p.c0,env.get p.out with
 |.c (.raw (.ptr c 0 0)),.c .nil=>
  match H[c]? with
  |some (.live _ [.raw (.mp id)])=>
   match H[id]?,wV cs p.F,Enters P p.F with
   |some (.mp _ kk ty es),Z (.c2 _ te [] [] [.fn (.func G) [] []] g),V=>
    if h:(Ty.list ty).beq (Ty.list te)=V then
     match tI P p.ty1,P.underlying p.ty2,tI P p.te2,tI P p.te3,ZU P p.te1,eI P p.ts1,eI P p.ts2 with
     |some (Y,_),Z (.map kt _),Z (_,n2),Z (tr3,n3),Z z,Z (W,e1,s1),Z (W,e2,s2)=>
      match (ξ G p.G&&(te.isAgg&&(ξ n2 te.sz&&(tr3&&(ξ n3 te.sz&&(ξ (U z) te.sz&&(ξ s1 te.sz&&(ξ s2 te.sz&&(SJ P e1&&(SJ P e2&&Nat.ble te.sz 4096))))))))))&&
        ((match P.underlying kt with|some (.int k2)=>decide (k2=kk)|_=>Y)&&(vZ (U H) (aC p.tmps env)&&(mL (U H) H&&p.tmps.all λt=>Nat.blt t N)))with
      |true=>cond (τ (((U es:Nat):Int)≤16777216))
        ((vD g (Ty.cast h (es.map (·.2)))).bind λs=>cond (ξ (U s) (U es)) (k ((p.out,.c (.own (U H) 0 te (U s)))::aC p.tmps env) (H++[.buf Y te s (U s) 0,.dead])) W) W
      |false=>W
     |_,_,_,_,_,_,_=>W
    else W
   |_,_,_=>W
  |_=>W
 |_,_=>W
theorem FN{q:Nat×Ad}{v:Ad}(h:q∈l)(a:q.1≠N):q∈l.put N v:=Ch _ (BS.2 ⟨h,k!⟩)
def yT:(N,s)∈l.put N s:=KW
def pB{v:Ad}:Env.get ((N,v)::l) N=v:=C! rfl
def zT{v:Ad}(h:N≠q):Env.get ((N,v)::l) q=l.get q:=D! h
def iw(vals:S R)(seen:S Nat):S R:=seen.filterMap (vals[·]?)
theorem ABZ{a:S R}{x:R}(h:a[N]?=Z x):iw a (b++[N])=iw a b++[x]:=by grind[iw]
theorem zz{b:Type}:∀a:S b,(List.range (U a)).filterMap (a[·]?)=a
 |[]=>rfl
 |x::r=>by
  rw[BY,List.range_succ_eq_map,List.filterMap_cons];simp;have:((λi=>(x::r)[i]?)∘Nat.succ)=(r[·]?):=k!
  rw[this,zz r]
def ABY{a:S R}(hn:v.Nodup)(c:∀j∈v,j<U a)(b:∀j,j<U a->j∈v):a.Perm (iw a v):=by have:=((mz List.nodup_range hn).2 λj=>⟨λh=>b j (IK.1 h),λh=>IK.2 (c j h)⟩).filterMap (a[·]?);rwa [zz]at this
section
variable {P:Program}{N:Nat}{env:Env}{H:Au}{Q:Env->Au->Prop}{ops:Array Oper}
def XJ.nil(h:Q env H):XJ P N ops [] env H Q:=⟨_,_,Fb.refl _ _ _,h⟩
def XJ.cons(b:o.guard=W)(h:Jq P N o env H λv a=>XJ P N ops f (env.putO o.dst v) a Q):XJ P N ops (o::f) env H Q:=by refine⟨_,_,Fb.refl _ _ _,?_⟩;rw[b];exact h
end
variable {m:Hint}{C:YU}
section
variable {P:Program}{N:Nat}
theorem xg(t:Ty)(l:S t.D):∀v∈t.E.cl l,Pure v:=by intro v a;have⟨u,b,a⟩:=GX.1 a;obtain⟨y,_,rfl⟩:=Bn.1 b;exact VL (t.enc_pure y) v a
theorem AFM(h:Pure s)(p:Nat->Bool):s.idsAll p=V:=RO (λ_ h=>by cases h) s h
theorem AEf{p q:Nat->Bool}(h:∀id,p id=V->q id=V)(e:Fx)(k:e.idsAll p=V):e.idsAll q=V:=by cases e<;>grind[Jo,Fx.idsAll,List.all_eq_true,RO]
theorem AIu(t:Ty)(g:Nat)(l:S t.D)(p:Nat->Bool):(Fx.live g (t.E.cl l)).idsAll p=V:=by grind[Fx.idsAll,Dy,AFM,xg]
theorem flt{a:Type}(p q:a->Bool)(b:∀x,q x=V->p x=V)(e:a)(d:p e=V)(f:q e=Y):∀l:S a,e∈l->(l.filter q).length<(l.filter p).length
 |x::l,he=>by
  have c:∀l:S a,(l.filter q).length<=(l.filter p).length:=by intro l;induction l<;>grind
  rcases Aw.1 he with rfl|h;grind;have:=flt p q b e d f l h;grind
theorem AID(h:v.Nodup){i j a b:Nat}(d:v[i]?=Z a)(e:v[j]?=Z b)(c:i≠j):a≠b:=by grind[List.getElem?_inj]
def ACy{te:Ty}{kk:IntKind}{es:Ψ (Int×te.D)}{Hb:Au}{base:Env}{id a2 a3 a4 a5 a6 a7 a8 a9 a10 a11 out:Nat}{b1 b2:Nat}{i2 i3 i4:Nat}{o2 o3 o4:Array Oper}{te1 te2 te3 ts1 ts2:TypeId}{z:Ψ Ad}{e1 e2:TypeId}{bb:Bool}
  (h2:u6 o2.toList=δ (a2,a3,a4)) (h3:u7 o3.toList=δ (a2,a5,a6,a7,te1,te2)) (h4:vA o4.toList=δ (out,a7,a8,a9,a10,a11,te3,ts1,ts2))
  (bz:[out,a2,a3,a4,a5,a6,a7,a8,a9,a10,a11].Nodup) (hN:∀t∈[out,a2,a3,a4,a5,a6,a7,a8,a9,a10,a11],t<N) (hb:∀q∈base,q.1∉ [out,a2,a3,a4,a5,a6,a7,a8,a9,a10,a11])
  (ax:∀q∈base,(q.2.idsAll λj=>decide (j<θ Hb))=ζ) (ap:∀e∈Hb,(e.idsAll λj=>decide (j<θ Hb))=ζ)
  (he:Hb[id]?=δ (.mp kk (es.map λp=>(p.1,te.enc p.2)))) (ar:te.isAgg=ζ) (hz:ZU P te1=δ z) (Z_:θ z=te.sz) (b3:tI P te2=δ (bb,te.sz)) (b4:tI P te3=δ (ζ,te.sz))
  (bG:eI P ts1=δ (ε,e1,te.sz)) (bN:eI P ts2=δ (ε,e2,te.sz)) (bm:SJ P e1=ζ) (bt:SJ P e2=ζ) (b0:te.sz<=4096) (b5:θ es<=16777216):
  ∀(n:Nat)(seen:Ψ Nat),seen.Nodup->(∀j∈seen,j<θ es)->((List.range (θ es)).filter λj=>! τ (j∈seen)).length<=n->(iw (es.map (·.2)) seen).length+((List.range (θ es)).filter λj=>! τ (j∈seen)).length<=θ es->
   IH P N (.seq (.region i2 o2 η) (.seq (.cond (.tmp a4) .skip (.exit b1)) (.block b2 (.seq (.region i3 o3 η) (.region i4 o4 η)))))
    ((out,.sl (θ Hb) (iw (es.map (·.2)) seen).length te.sz 0 (iw (es.map (·.2)) seen).length)::(a2,.itp (θ Hb+1) id)::base)
    (Hb++[.live (iw (es.map (·.2)) seen).length (te.E.cl (iw (es.map (·.2)) seen)),.it (θ es) seen])
    λe E h=>e=.exit b1/\∃s,(es.map (·.2)).Perm s/\(∀q∈(out,Ad.sl (θ Hb) (θ s) te.sz 0 (θ s))::base,q∈E)/\θ h=θ Hb+2/\(∀j,j<θ Hb->h[j]?=Hb[j]?)/\h[θ Hb]?=δ (.live (θ s) (te.E.cl s)):=by
 obtain⟨t1,p1,x1,t2,p2,x2,l2⟩:=rl h2;obtain⟨t3,p3,x3,t4,p4,x4,t5,p5,x5,t6,p6,x6,l3⟩:=rp h3;obtain⟨t7,p7,x7,t8,p8,x8,t9,p9,x9,b8,b6,b',b9,b7,ca,l4⟩:=rq h4;have D:=λ(i j a b:Nat)=>AID (i:=i) (j:=j) (a:=a) (b:=b) bz;simp only[Aw,List.not_mem_nil,or_false,forall_eq_or_imp,forall_eq]at hN;have d2:PC N o2.toList=ζ:=by rw[l2];simp[PC,hN]
 have d3:PC N o3.toList=ζ:=by rw[l3];simp[PC,hN]
 have d4:PC N o4.toList=ζ:=by rw[l4];simp[PC,hN]
 have a0:id<θ Hb:=by rcases Ay id (θ Hb) with h|h;exact h;rw[Cq h]at he;cases he
 have s0:∀(A B C:Fx),(Hb++[A,B]).set (θ Hb+1) C=Hb++[A,C]:=λA B C=>by rw[TR _ _ o!,show θ Hb+1-θ Hb=1 by omega];rfl
 have s1:∀(A B C D:Fx),(Hb++[A,B,C]).set (θ Hb+2) D=Hb++[A,B,D]:=λA B C D=>by rw[TR _ _ o!,show θ Hb+2-θ Hb=2 by omega];rfl
 have s2:∀(A B C D:Fx),(Hb++[A,B,C]).set (θ Hb) D=Hb++[D,B,C]:=λA B C D=>by rw[TR _ _ (Al _),G5];rfl
 have g0:∀(A:Fx)(r:Ψ Fx),(Hb++A::r)[θ Hb]?=δ A:=λA r=>by rw[Cl (Al _),G5];rfl
 have g1:∀(A B:Fx)(r:Ψ Fx),(Hb++A::B::r)[θ Hb+1]?=δ B:=λA B r=>by rw[Cl o!,show θ Hb+1-θ Hb=1 by omega];rfl
 have g2:∀(A B C:Fx)(r:Ψ Fx),(Hb++A::B::C::r)[θ Hb+2]?=δ C:=λA B C r=>by rw[Cl o!,show θ Hb+2-θ Hb=2 by omega];rfl
 have gm:∀(r:Ψ Fx),(Hb++r)[id]?=δ (.mp kk (es.map λp=>(p.1,te.enc p.2))):=λr=>by rw[CW a0];exact he
 have Y_:(es.map (·.2)).length=θ es:=BW _;have J:0<te.sz:=te.sz_pos;intro n;induction n using Nat.strongRecOn with
 |ind n ih=>
  intro seen hn hl hr hm;obtain⟨L,hL⟩:∃L,L=iw (es.map (·.2)) seen:=⟨_,rfl⟩
  rw[<-hL]at hm⊢;refine IH.unroll (J1.seq (F4 d2 ?_));rw[l2];apply XJ.cons rfl;have d:(es.map λp=>(p.1,te.enc p.2)).length=θ es:=BW _;have ad:out≠a2:=D 0 1 _ _ rfl rfl g!;refine Jq.next (x:=.tmp a2) (id:=θ Hb+1) (m:=id) (k:=kk) (es:=es.map λp=>(p.1,te.enc p.2)) (seen:=seen) rfl ?_ ?_ (gm _) ?_ ?_
  show Env.get _ a2=_;rw[zT ad,pB];rw[d];exact g1 _ _ _;intro G;refine XJ.cons rfl (Dw (v:=.bool η) ?_ (XJ.nil ?_));show Cg _ _ _ (.extract (.tmp a3) 0)=_;simp only[Cg,BP,Env.putO,GU,if_true];rfl;refine J1.seq (J1.cond (b:=η) ?_ (λh=>by cases h) (λ_=>J1.exit ?_));simp only[BP,Env.putO,GU,if_true];refine⟨rfl,L,?_,λq o=>?_,q!,λj hj=>CW hj,g0 _ _⟩;rw[hL];exact ABY hn (by rw[Y_];exact hl) (by rw[Y_];rw[d]at G;exact G);have al:out≠a3:=D 0 2 _ _ rfl rfl g!;have ao:out≠a4:=D 0 3 _ _ rfl rfl g!;rcases Aw.1 o with rfl|o;exact FN (FN KW al) ao;have:=hb q o;simp only[Aw,not_or]at this;exact FN (FN (Ch _ (Ch _ o)) this.2.2.1) this.2.2.2.1;intro j p hj S;rw[CR]at hj;obtain⟨q,o,e⟩:=TU.1 hj;subst e;rw[d,s0];refine XJ.cons rfl (Dw (v:=.bool ζ) ?_ (XJ.nil ?_));show Cg _ _ _ (.extract (.tmp a3) 0)=_;simp only[Cg,BP,Env.putO,GU,if_true];rfl;have k2:∀(m:Nat)(v w:Ad),Env.get (Env.put (Env.put ((out,Ad.sl (θ Hb) m te.sz 0 m)::(a2,Ad.itp (θ Hb+1) id)::base) a3 v) a4 w) a2=.itp (θ Hb+1) id:=λm v w=>by rw[GU,D! (D 1 3 _ _ rfl rfl g!),GU,D! (D 1 2 _ _ rfl rfl g!),zT ad,pB]
  have ko:∀(m:Nat)(v w:Ad),Env.get (Env.put (Env.put ((out,Ad.sl (θ Hb) m te.sz 0 m)::(a2,Ad.itp (θ Hb+1) id)::base) a3 v) a4 w) out=.sl (θ Hb) m te.sz 0 m:=λm v w=>by rw[GU,D! (D 0 3 _ _ rfl rfl g!),GU,D! (D 0 2 _ _ rfl rfl g!),pB]
  have kb:∀(m:Nat)(v w:Ad),∀q∈base,q∈Env.put (Env.put ((out,Ad.sl (θ Hb) m te.sz 0 m)::(a2,Ad.itp (θ Hb+1) id)::base) a3 v) a4 w:=λm v w q o=>by have:=hb q o;simp only[Aw,not_or]at this;exact FN (FN (Ch _ (Ch _ o)) this.2.2.1) this.2.2.2.1
  have ki:∀(m:Nat)(v w:Ad),(a2,Ad.itp (θ Hb+1) id)∈Env.put (Env.put ((out,Ad.sl (θ Hb) m te.sz 0 m)::(a2,Ad.itp (θ Hb+1) id)::base) a3 v) a4 w:=λm v w=>FN (FN (Ch _ KW) (D 1 2 _ _ rfl rfl g!)) (D 1 3 _ _ rfl rfl g!);refine J1.seq (J1.cond (b:=ζ) ?_ (λ_=>J1.skip ?_) (λh=>by cases h));simp only[BP,Env.putO,GU,if_true];dsimp only[fC];refine J1.block (J1.seq (F4 d3 ?_));rw[l3];generalize K:Env.putO (Env.putO ((out,Ad.sl (θ Hb) (θ L) te.sz 0 (θ L))::(a2,Ad.itp (θ Hb+1) id)::base) (δ a3) (.tup [.bool ζ,.int kk q.1,te.enc q.2])) (δ a4) (.bool ζ)=E;have k2:Env.get E a2=.itp (θ Hb+1) id:=by rw[<-K];exact k2 _ _ _
  have ko:Env.get E out=.sl (θ Hb) (θ L) te.sz 0 (θ L):=by rw[<-K];exact ko _ _ _
  have kb:∀q∈base,q∈E:=by rw[<-K];exact kb _ _ _
  have ki:(a2,Ad.itp (θ Hb+1) id)∈E:=by rw[<-K];exact ki _ _ _
  clear K;refine XJ.cons rfl (Jq.entry (x:=.tmp a2) (id:=θ Hb+1) (m:=id) (j:=j) (k:=kk) (es:=es.map λp=>(p.1,te.enc p.2)) (seen:=seen) (p:=(q.1,te.enc q.2)) rfl k2 ?_ (gm _) (by rw[CR,o];rfl) ?_);rw[d];exact g1 _ _ _;have f:te.enc q.2=.agg (te.enc q.2).cells:=Ty.agg_enc ar q.2;have l:(te.enc q.2).cells.length=te.sz:=te.enc_len q.2;have U:(te.enc q.2).solid=ζ:=by rw[f];rfl
  refine XJ.cons rfl (Dw (v:=te.enc q.2) ?_ (XJ.cons rfl (Jq.alloc rfl hz ?_)));show Cg _ _ _ (.extract (.tmp a5) 1)=_;simp only[Cg,BP,Env.putO,GU,if_true];rfl;have a1:(Hb++[Fx.live (θ L) (te.E.cl L),Fx.it (θ es) (seen++[j])]).length=θ Hb+2:=q!
  rw[a1,A6];show XJ P N o3 _ _ (Hb++[Fx.live (θ L) (te.E.cl L),Fx.it (θ es) (seen++[j]),Fx.live 0 z]) _;refine XJ.cons rfl (Jq.store (id:=θ Hb+2) (g:=0) (off:=0) (v:=te.enc q.2) (cs:=z) (b:=bb) rfl ?_ ?_ U (g2 _ _ _ _) (by rw[l];exact b3) (by rw[l,Z_];omega) (XJ.nil ?_));simp only[BP,Env.putO,GU,if_true];simp only[BP,Env.putO,GU];rw[D! (D 5 6 _ _ rfl rfl g!),C! trivial];have T:XC z 0 (te.enc q.2).cells=(te.enc q.2).cells:=by unfold XC;rw[List.take_zero,CG,l,<-Z_,DZ,List.drop_length,Do]
  rw[T,s1];simp only[Env.putO];generalize F:Env.put (Env.put (Env.put E a5 (.tup [.int kk q.1,te.enc q.2])) a6 (te.enc q.2)) a7 (.ptr (θ Hb+2) 0 0)=E1;have j7:Env.get E1 a7=.ptr (θ Hb+2) 0 0:=by rw[<-F,GU,C! rfl]
  have jo:Env.get E1 out=.sl (θ Hb) (θ L) te.sz 0 (θ L):=by rw[<-F,GU,D! (D 0 6 _ _ rfl rfl g!),GU,D! (D 0 5 _ _ rfl rfl g!),GU,D! (D 0 4 _ _ rfl rfl g!),ko]
  have jb:∀q∈base,q∈E1:=λu I=>by have:=hb u I;simp only[Aw,not_or]at this;rw[<-F];exact FN (FN (FN (kb u I) this.2.2.2.2.1) this.2.2.2.2.2.1) this.2.2.2.2.2.2.1
  have ji:(a2,Ad.itp (θ Hb+1) id)∈E1:=by rw[<-F];exact FN (FN (FN ki (D 1 4 _ _ rfl rfl g!)) (D 1 5 _ _ rfl rfl g!)) (D 1 6 _ _ rfl rfl g!)
  clear F;apply F4 d4;rw[l4];refine XJ.cons rfl (Dw (v:=.sl (θ Hb) (θ L) te.sz 0 (θ L)) (E! δ jo) (XJ.cons rfl (Dw (v:=te.enc q.2) ?_ (XJ.cons rfl (Vm (sz:=te.sz) (vs:=[te.enc q.2]) rfl ?_ (XJ.cons rfl ?_))))));show iu P te3 _ (BP _ (.tmp a7))=_;simp only[BP,Env.putO,GU];rw[D! (D 6 7 _ _ rfl rfl g!),j7];simp only[iu,b4,QK,g2];rw[C! ⟨O!,by rw[l];omega⟩,WJ,<-l,Hj];exact E! δ f.symm;simp only[TB,bG];rw[C!];simp only[BP,Env.putO,GU,if_true,CQ,Hi];refine⟨J,bm,rfl,?_,g!,b0⟩;simp only[BP,Env.putO,GU,if_true,CQ,Hi,pk,pn,U,l,decide_true,YH];have R:j<θ es:=by rcases Ay j (θ es) with h|h;exact h;rw[Cq h]at o;cases o
  have bl:((List.range (θ es)).filter λi=>! τ (i∈seen++[j])).length<((List.range (θ es)).filter λi=>! τ (i∈seen)).length:=flt (λi=>! τ (i∈seen)) (λi=>! τ (i∈seen++[j])) (λx f=>by simp at f⊢;exact f.1) j (by simpa using S) q! _ (IK.2 R);have O:iw (es.map (·.2)) (seen++[j])=L++[q.2]:=by rw[hL];exact ABZ (by rw[CR,o];rfl)
  refine SE (sx:=.tmp a8) (xx:=.tmp a10) (t:=ts2) (e:=e2) (id:=θ Hb) (g:=θ L) (g':=θ L+1) (n:=θ L) (sz:=te.sz) (m:=1) (cs:=te.E.cl L) (news:=(te.enc q.2).cells) rfl bN J bt ?_ (g0 _ _) (te.E.clen L) ?_ o! (.inl o!) ?_;show Env.get _ a8=_;simp only[Env.putO,GU];rw[D! (D 7 9 _ _ rfl rfl g!),D! (D 7 8 _ _ rfl rfl g!),C! trivial];simp only[BP,Env.putO,GU,if_true,KV,BY,Bj,JS,pu,Do];rw[s2];refine XJ.cons rfl (Dw (v:=.sl (θ Hb) (θ L+1) te.sz 0 (θ L+1)) ?_ (XJ.nil ?_));show δ (Env.get _ a11)=_;simp only[Env.putO,GU,if_true];have Q:te.E.cl L++(te.enc q.2).cells=te.E.cl (L++[q.2]):=by simp[SO.cl];rfl
  rw[Q];have bd:(L++[q.2]).length=θ L+1:=q!
  show∃env2 H2,Fb N _ _ _ env2 H2/\_;refine⟨_,_,?_,ih _ (DE bl hr) (seen++[j]) ?_ ?_ (Al _) (by rw[O];omega)⟩;rw[O,bd];generalize M:Env.putO _ (δ out) _=E3;have V_:∀u∈(out,Ad.sl (θ Hb) (θ L+1) te.sz 0 (θ L+1))::(a2,Ad.itp (θ Hb+1) id)::base,u∈E3:=by intro u I;rw[<-M];simp only[Env.putO];rcases Aw.1 I with rfl|I;exact yT;rcases Aw.1 I with rfl|I;exact FN (FN (FN (FN (FN ji (D 1 7 _ _ rfl rfl g!)) (D 1 8 _ _ rfl rfl g!)) (D 1 9 _ _ rfl rfl g!)) (D 1 10 _ _ rfl rfl g!)) (D 1 0 _ _ rfl rfl g!);have:=hb u I;simp only[Aw,not_or]at this;exact FN (FN (FN (FN (FN (jb u I) this.2.2.2.2.2.2.2.1) this.2.2.2.2.2.2.2.2.1) this.2.2.2.2.2.2.2.2.2.1) this.2.2.2.2.2.2.2.2.2.2.1) this.1
  clear M;have w1:=Fb.subset (N:=N) (H:=Hb++[Fx.live (θ L+1) (te.E.cl (L++[q.2])),Fx.it (θ es) (seen++[j]),Fx.live 0 (te.enc q.2).cells]) V_;have W_:(Hb++[Fx.live (θ L+1) (te.E.cl (L++[q.2])),Fx.it (θ es) (seen++[j]),Fx.live 0 (te.enc q.2).cells]).take (θ Hb+2)=Hb++[Fx.live (θ L+1) (te.E.cl (L++[q.2])),Fx.it (θ es) (seen++[j])]:=by rw[fL,BO o!,show θ Hb+2-θ Hb=2 by omega];rfl
  have w2:=Fb.cut (N:=N) (n0:=θ Hb+2) (env:=(out,Ad.sl (θ Hb) (θ L+1) te.sz 0 (θ L+1))::(a2,Ad.itp (θ Hb+1) id)::base) (H:=Hb++[Fx.live (θ L+1) (te.E.cl (L++[q.2])),Fx.it (θ es) (seen++[j]),Fx.live 0 (te.enc q.2).cells]) q! (λt v X=>by
   rcases Aw.1 X with e|X;injection e with _ e;subst e;exact G! o!;rcases Aw.1 X with e|X;injection e with _ e;subst e;simp only[Ad.idsAll,BV,K!];omega;exact RO (λi hi=>G! (by have:=M! hi;omega)) v (ax _ X)) (by
   rw[W_];intro e c;rcases Am.1 c with c|c;exact AEf (λi hi=>G! (by have:=M! hi;omega)) e (ap e c);rcases Aw.1 c with rfl|c;exact AIu te _ _ _;simp only[A9]at c;subst c;rfl)
  rw[W_]at w2;have a':(Hb++[Fx.live (θ L) (te.E.cl L),Fx.it (θ es) seen]).length=θ Hb+2:=q!
  rw[a'];exact(w1.of_le q!).trans w2;refine Qp.2 ⟨hn,q!,λx f y hy=>?_⟩;simp only[A9]at hy;subst hy;rintro rfl;exact S f;intro x f;rcases Am.1 f with f|f;exact hl x f;simp only[A9]at f;subst f;exact R
def oZ(h:oY c I=Z C):∃x k i y l r z n A o B q,
  c=.seq (.region x k Y) (.block i (.loop (.seq (.region y l Y) (.seq (.cond (.tmp C.a4) .skip (.exit i)) (.block r (.seq (.region z n Y) (.region A o Y)))))))/\I=.region B q Y/\
  yK k.toList=Z (C.c0,C.a1,C.a2,C.ty1,C.ty2)/\u6 l.toList=Z (C.a2,C.a3,C.a4)/\u7 n.toList=Z (C.a2,C.a5,C.a6,C.a7,C.te1,C.te2)/\
  vA o.toList=Z (C.out,C.a7,C.a8,C.a9,C.a10,C.a11,C.te3,C.ts1,C.ts2)/\yL q.toList=Z (C.out,C.a12,C.a13,C.F,C.G)/\C.tmps.Nodup:=by
 unfold oY at h;split at h;split at h;rename_i s t u v w;split at h;rename_i j;simp only[BV]at j;have⟨⟨b,a,d,e,f,g⟩,hn⟩:=j;have b:=DD b;have a:=DD a;have d:=DD d;have e:=DD e;have f:=DD f;have g:=DD g;subst b a d e f g;cases h;exact⟨_,_,_,_,_,_,_,_,_,_,_,_,rfl,rfl,s,t,u,v,w,rf hn⟩;cases h;cases h;cases h
def AES{cs:Ψ Qd}(cn:∀c∈cs,c.Ok P){a m}{p:YU}(hp:oY a m=δ p){env}{H}{R:Type}{k:Bf→Ar→Ω R}{r:R}(ok:N3 env H)(o:AER P N cs p env H k=δ r):
  ∃A H',J1 P N a (By env) (BK H) (fC (λE h=>J1 P N m E h (Uw .normal (By A) (BK H'))) (λ_ _ _=>False))/\k A H'=δ r/\N3 A H'/\EL p.tmps env H A H':=by
 obtain⟨i1,o1,T,i2,o2,J,i3,o3,i4,o4,i5,o5,rfl,rfl,p1,p2,p3,p4,p5,b0⟩:=oZ hp;unfold AER at o;split at o;rename_i c ch b3;split at o;rename_i ro id hc;split at o;rename_i c2 kk n I F te G g a1 hF hE;split at o;rename_i cB;split at o;rename_i y1 kt et b8 n2 c3 n3 z e1 s1 e2 s2 t1 t2 t3 t4 t5 t6 t7;split at o;rename_i hb;have cG:n=te:=by have:=Ty.beq_eq _ _ cB;injection this
 subst cG;simp only[BV]at hb;obtain⟨⟨bG,b7,V_,cc,W_,bz,Y_,Z_,ca,cb,ad⟩,U,b9,b',bN⟩:=hb;have bG:=DD bG;have V_:=DD V_;have W_:=DD W_;have bz:=DD bz;have Y_:=DD Y_;have Z_:=DD Z_;have ad:=O2 ad;subst V_ W_ Y_ Z_ cc;have c1:P.underlying kt=δ (.int kk):=by split at U;rename_i k2 e;rw[e,M! U];cases U
 cases ao:τ (((θ I:Nat):Int)<=16777216)with
 |false=>rw[ao]at o;cases o
 |true=>
  have bl:θ I<=16777216:=by have:=M! ao;omega
  rw[ao]at o;obtain⟨s,hs,o⟩:=Dn.1 (show σ _ _=δ r from o);have hs:=ABI hs;cases L:ξ (θ s) (θ I) with
  |false=>rw[L]at o;cases o
  |true=>
   rw[L]at o;have o:k ((p.out,.c (.own (θ H) 0 n (θ s)))::aC p.tmps env) (H++[.buf η n s (θ s) 0,.dead])=δ r:=o;have L:=DD L;obtain⟨c4,q1,x1,c5,q2,x2,l1⟩:=rk p1;obtain⟨c6,q3,x3,cS,c8,q4,x4,l5⟩:=sA p5;have D:=λ(i j a b:Nat)=>AID (i:=i) (j:=j) (a:=a) (b:=b) b0;have hN:∀t∈p.tmps,t<N:=λt ht=>O2 (GN.1 bN t ht);have d1:PC N o1.toList=ζ:=by rw[l1];simp[PC,pk,pn,RQ,BV,K!];exact⟨hN _ (by simp[YU.tmps]),hN _ (by simp[YU.tmps])⟩
   have d5:PC N o5.toList=ζ:=by rw[l5];simp[PC,pk,pn,RQ,BV,K!];exact⟨hN _ (by simp[YU.tmps]),hN _ (by simp[YU.tmps])⟩
   have M:(By env).get p.out=.nils:=by rw[Uu,b3];rfl
   have al:(By env).get p.c0=.ptr c 0 0:=by rw[Uu,ch];rfl
   have cm:p.c0≠p.out:=λe=>by rw[e,M]at al;cases al
   have ci:c<θ H:=HM hc;have a':id<θ H:=HM a1;have d:(BK H).length=θ H:=CZ H;have cd:(BK H)[c]?=δ (.live 0 [.mp id]):=by rw[EO,hc];rfl
   have O:(BK H)[id]?=δ (.mp kk (I.map λp=>(p.1,n.enc p.2))):=by rw[EO,a1];rfl
   have x:∀q∈By (aC p.tmps env),q∈By env/\q.1∉p.tmps:=λq y=>by obtain⟨u,hu,rfl⟩:=Bn.1 y;exact⟨Bn.2 ⟨u,(WQ hu).1,rfl⟩,(WQ hu).2⟩
   have cf:∀q∈By (aC p.tmps env),(q.2.idsAll λj=>decide (j<(BK H).length))=ζ:=λq y=>by obtain⟨u,hu,rfl⟩:=Bn.1 y;rw[d];exact gU (lV b9 u hu)
   have ce:∀e∈BK H,(e.idsAll λj=>decide (j<(BK H).length))=ζ:=by rw[d];exact lW b'
   have step:CE H (H++[.buf η n s (θ s) 0,.dead]):=by have:=(CE.push H (.buf η n s (θ s) 0)).trans (CE.push _ .dead);rwa [A6]at this
   have b4:(Bu.own (θ H) 0 n (θ s)).ok (H++[.buf η n s (θ s) 0,.dead]):=by apply Wd (b:=η) (l:=s);rw[Cl (Al _),G5];rfl
   refine⟨(p.out,.c (.own (θ H) 0 n (θ s)))::aC p.tmps env,H++[.buf η n s (θ s) 0,.dead],?_,o,⟨λq y=>?_,?_⟩,step,λu hu _=>?_⟩;refine J1.weak (Fb.virt (t:=p.out) (sz:=n.sz) M) (J1.seq (F4 d1 ?_));rw[l1];have cv:Cg P ((By env).put p.out (.sl (BK H).length 0 n.sz 0 0)) (BK H++[.live 0 []]) (.load p.ty1 (.tmp p.c0))=δ (.mp id):=by simp[Cg,BP,GU];rw[D! cm,al];simp[iu,t1,QK];rw[CW (by rw[d];exact ci),cd];rfl
   have bd:(BK H++[Fx.live 0 []])[id]?=δ (.mp kk (I.map λp=>(p.1,n.enc p.2))):=by rw[CW (by rw[d];exact a'),O]
   refine XJ.cons rfl (Dw cv (XJ.cons rfl (Jq.range (id:=id) (k:=kk) (es:=I.map λp=>(p.1,n.enc p.2)) rfl ?_ t2 bd (XJ.nil ?_))));simp[BP,Env.putO,GU,if_true];rw[BW,Ac,A6];dsimp[fC,Env.putO];refine J1.block (J1.of_loopW ?_);have ax:[p.out,p.a2,p.a3,p.a4,p.a5,p.a6,p.a7,p.a8,p.a9,p.a10,p.a11].Sublist p.tmps:=.cons₂ _ (.cons _ (.cons₂ _ (.cons₂ _ (.cons₂ _ (.cons₂ _ (.cons₂ _ (.cons₂ _ (.cons₂ _ (.cons₂ _ (.cons₂ _ (.cons₂ _ (.cons _ (.cons _ .slnil)))))))))))));have b6:=ACy (P:=P) (N:=N) (te:=n) (kk:=kk) (es:=I) (Hb:=BK H) (base:=By (aC p.tmps env)) (id:=id) (out:=p.out) (a2:=p.a2) (a3:=p.a3) (a4:=p.a4) (a5:=p.a5) (a6:=p.a6) (a7:=p.a7) (a8:=p.a8) (a9:=p.a9) (a10:=p.a10) (a11:=p.a11)
    (b1:=T) (b2:=J) (i2:=i2) (i3:=i3) (i4:=i4) (bb:=b8) p2 p3 p4 ?_ ?_ ?_ cf ce O b7 t5 bz t3 t4 t6 t7 ca cb ad bl (θ I) [] Qq (λj B=>by cases B) (by simpa using List.length_filter_le _ (List.range (θ I))) (by have:=EM (λj=>! τ (j∈([]:Ψ Nat))) (List.range (θ I));simpa[iw]using this)
   refine IH.mono (IH.weak ?_ b6) ?_;refine Fb.subset (N:=N) (H:=BK H++[Fx.live 0 [],Fx.it (θ I) []]) λq y=>?_;rcases Aw.1 y with rfl|y;exact FN (FN yT (D 0 1 _ _ rfl rfl g!)) (D 0 2 _ _ rfl rfl g!);rcases Aw.1 y with rfl|y;exact yT;obtain⟨T,J⟩:=x q y;simp[YU.tmps,Aw,not_or]at J;exact FN (FN (FN T J.1) J.2.1) J.2.2.1;rintro e E h ⟨rfl,C,K,b5,Q,ar,ap⟩;show qA T _ (.exit T) E h;simp[qA,if_true,fC];refine J1.weak (Fb.subset b5) (J1.after (F4 d5 ?_));rw[l5];obtain⟨bt,hf⟩:=uN hF;have a0:θ s=θ C:=by rw[L,<-K.length_eq,BW]
   have hA:=cn _ bt C () s (hs C K) a0 h (BK H).length ap;simp[Qd.f]at hf;rw[hf]at hA;refine XJ.cons rfl (Dw (v:=.sl (BK H).length (θ C) n.sz 0 (θ C)) (E! δ pB) (XJ.cons rfl (Jq.mono (kq (F:=p.F) (vs:=[.sl (BK H).length (θ C) n.sz 0 (θ C),.fn (.func G) [] []]) ?_ hE hA) ?_)));show δ (Sum.inl (p.F,[]++[Env.get _ p.a12,Ad.fn (.func p.G) [] []]++[]))=_;simp only[Env.putO,GU,if_true,bG];rfl;rintro _ _ ⟨rfl,rfl⟩;refine XJ.nil ⟨_,_,?_,rfl,rfl,rfl⟩;have ct:(h.set (BK H).length (.live (θ C) (n.E.cl s))).length=θ h:=q!
   rw[<-ct];refine Wg (by simp[BK];rw[Q,d]) λX g' w _=>?_;have hr:TM (cx X g' (h.set (BK H).length (.live (θ C) (n.E.cl s))) w) (cx X g' (h.set (BK H).length (.live (θ C) (n.E.cl s))) w) (h.set (BK H).length (.live (θ C) (n.E.cl s))) (BK (H++[.buf η n s (θ s) 0,.dead])):=by
    refine⟨by simp[BK];rw[Q,d],λj e' B=>?_⟩;have same:(h.set (BK H).length (.live (θ C) (n.E.cl s)))[j]?=δ e'->e'=.dead\/_:=λhh=>(TM.refl (cx X g' (h.set (BK H).length (.live (θ C) (n.E.cl s))) w) (h.set (BK H).length (.live (θ C) (n.E.cl s)))).2 j e' hh;have co:BK (H++[.buf η n s (θ s) 0,.dead])=BK H++[Fx.live (θ s) (n.E.cl s),Fx.dead]:=by simp[BK,D0.enc]
    rw[co]at B;rcases Qr j (BK H).length with bm|rfl|cW;rw[CW bm]at B;exact same (by rw[Db o!,ar j bm];exact B);rw[Cl (Al _),G5]at B;exact same (by rw[Hq o!,<-a0];exact B);rw[Cl o!]at B;rcases Qr (j-(BK H).length) 1 with q|q|q;omega;rw[q]at B;injection B with B;exact .inl B.symm;rw[Cq w!]at B;cases B
   refine⟨hr.onto,λt v' S=>⟨v',?_,λc r=>r.later hr.later⟩⟩;simp[Env.putO];have S:(t,v')∈(p.out,Ad.sl (BK H).length (θ s) n.sz 0 (θ s))::By (aC p.tmps env):=by rw[d];exact S
   rcases Aw.1 S with e|S;cases e;rw[a0];exact FN (FN KW (D 0 12 _ _ rfl rfl g!)) (D 0 13 _ _ rfl rfl g!);obtain⟨T,J⟩:=x _ S;simp only[YU.tmps,Aw,not_or]at J;exact FN (FN (Ch _ S) J.2.2.2.2.2.2.2.2.2.2.2.2.1) J.2.2.2.2.2.2.2.2.2.2.2.2.2.1;exact b0.sublist ax;exact λt ht=>hN t (ax.subset ht);exact λq y S=>(x q y).2 (ax.subset S);rcases Aw.1 y with rfl|y;exact J3 b4;exact step.tv (ok.env q (WQ y).1);intro e he;rcases Am.1 he with he|he;exact step.ent (ok.heap e he);simp[Aw,List.not_mem_nil,or_false]at he;rcases he with rfl|rfl;rfl;trivial;show Bf.get _ u=_;have:p.out≠u:=λe=>hu (by rw[<-e];simp[YU.tmps]);simp[Bf.get,beq_false this];exact qL hu env
 cases o;cases o;cases o;cases o;cases o;cases o
end
abbrev Sem:=∀{R:Type},Bf->Ar->(Exit->Bf->Ar->T R)->T R
def pQ:S (Nat×Ty)->Bf->Ar->T (Bf×Ar)
 |[],env,H=>Z (env,H)
 |(t,ty)::r,env,H=>
  match env.get t with
  |.c .nil=>pQ r (env.put t (.c (.own (U H) 0 ty 0))) (H++[.buf Y ty [] 0 0])
  |_=>W
def uD:Nat->S Bu->T (S Bu×S Bu)
 |0,.nil::r=>Z ([],r)
 |n+1,x::r=>match uD n r with|some (a,b)=>Z (x::a,b)|none=>W
 |_,_=>W
def lE:S (Nat×Nat×Ty)->Ar->T Ar
 |[],H=>Z H
 |(b,i,ty)::r,H=>
  match H[b]? with
  |some (.live Y cs)=>
   match uD i cs with
   |some (x,y)=>lE r (H.set b (.live Y (x++ .own (U H) 0 ty 0::y))++[.buf Y ty [] 0 0])
   |none=>W
  |_=>W
def AHQ(h:Hint)(env:Bf)(H:Ar):T (Bf×Ar):=
 match pQ h.virt env H with
 |some (e,H1)=>match lE h.virtC H1 with|some H2=>Z (e,H2)|none=>W
 |none=>W
def AHD(h:Hint)(n:Nat)(eb:Bf)(H0:Ar)(S:Ψ Nat)(k:Exit->Bf->Ar->T R)(o:yH h.exits):T R:=
 AJK h.exits o λx sl ds=>
  match WY sl ds eb H0 with
  |some (e,hh)=>match vZ n e&&(mL n hh&&S.all λj=>Ja j (Lb sl))with|true=>k x e hh|false=>W
  |none=>W
def AEr(h:Hint)(A:S Nat)(run:Sem):Sem:=λenv H k=>
 match AHQ h env H with
 |none=>W
 |some (env0,H0)=>
  match ql env0 with
  |false=>W
  |true=>(run env0 (Kl (Lb h.slots) 0 H0) λx e1 h1=>ABE h.exits x e1 h1).bind λo=>AHD h (U H0) (Qu A (Lb h.slots) H0 env0) H0 (Lb h.slots) k o
def ACA(h:Hint)(x:Exit)(env:Bf)(H:Ar):T (Step (DL (eu h.slots)) (yH h.exits)):=
 match wR .normal x with
 |true=>match zD h.slots env H with|some s=>Z (.next s)|none=>W
 |false=>match ABE h.exits x env H with|some o=>Z (.done o)|none=>W
noncomputable def wk(h:Hint)(A:S Nat)(run:Sem):Sem:=λenv H k=>
 match AHQ h env H with
 |none=>W
 |some (env1,H1)=>
  match Iq (h.kill++mj env1 H1 h.slots) env1 H1 with
  |(env0,H0)=>
   match ql env0,Ym env0 H0 h.slots with
   |true,Z ds=>
    match AA8 (eu h.slots) ds with
    |some s0=>(Aj (λs=>
      match WY h.slots (dvs (eu h.slots) s) (Qu A (Lb h.slots) H0 env0) (Kl (Lb h.slots) 0 H0)with
      |some (e,hh)=>match vZ (U H0) e&&mL (U H0) hh with|true=>run e hh λx e1 h1=>ACA h x e1 h1|false=>W
      |none=>W) s0).bind λo=>AHD h (U H0) (Qu A (Lb h.slots) H0 env0) H0 (Lb h.slots) k o
    |none=>W
   |_,_=>W
def ABz(c:Operand)(ra rb:Sem):Sem:=λenv H k=>
 match Jr env c with
 |.c (.bl v)=>cond v (ra env H k) (rb env H k)
 |_=>W
def AAj(id:Nat)(r:Sem):Sem:=λenv H k=>r env H λe env' H'=>
 match e with
 |.exit id'=>match ξ id' id with|true=>k .normal env' H'|false=>k (.exit id') env' H'
 |e=>k e env' H'
def we(o:T Hint)(A:S Nat)(run:Sem):Sem:=
 match o with
 |some h=>λenv H k=>AEr (h.rel (U H)) A run env H k
 |none=>run
structure AD2 where
 main:Sem
 pre:Sem
 suf:Sem
def Px:Sem:=λ_ _ _=>W
def AFd(a b:Sem):Sem:=λenv H k=>a env H λe env' H'=>match e with|.normal=>b env' H' k|e=>k e env' H'
noncomputable def ACI(h:Hint)(A:S Nat)(s:AD2):Sem:=λenv H k=>s.pre env H λx e1 h1=>match x with|.normal=>wk h A (AFd s.suf s.pre) e1 h1 k|x=>k x e1 h1
noncomputable def uo(o:T Hint)(A:S Nat)(s:AD2):Sem:=
 match o with
 |some h=>λenv H k=>match ξ h.kind 8 with|true=>ACI (h.rel (U H)) A s env H k|false=>wk (h.rel (U H)) A s.main env H k
 |none=>Px
def iO:Bf->Bf
 |[]=>[]
 |(t,v)::r=>match LZ v.refs with|[]=>(t,v)::iO r|_=>iO r
def ABM(P:Program)(call:SN)(N:Nat)(me:FuncId)(f:Operand)(ps:Array Tmp)(a b:Code):Sem:=λenv H k=>
 match Jr env f with
 |.c (.raw (.fn (.func G) first caps))=>
  match Enters P G with
  |true=>call (.fn G) (first.map tvA++[.c (.raw (.yf (U H)))]++caps.map tvA) (H++[.lp Y me N (iO env) ps a b .ready]) λ_ H'=>
   match H'[U H]? with
   |some (.lp Y _ _ _ _ _ _ .ready)=>k .normal env (H'.set (U H) .dead)
   |some (.lp Y _ _ _ _ _ _ .ret)=>k .ret env (H'.set (U H) .dead)
   |some (.lp Y _ _ _ _ _ _ (.exit x))=>k (.exit x) env (H'.set (U H) .dead)
   |_=>W
  |false=>W
 |_=>W
noncomputable def ej(P:Program)(cs:S Qd)(call:SN)(N:Nat)(me:FuncId)(hs:S Hint):Code->AD2
 |.skip=>⟨λenv H k=>k .normal env H,Px,Px⟩
 |.ret=>⟨λenv H k=>k .ret env H,Px,Px⟩
 |.exit id=>⟨λenv H k=>k (.exit id) env H,Px,Px⟩
 |.seq a (.seq m r)=>⟨λenv H k=>
  match oY a m with
  |some p=>AER P N cs p env H λenv' H'=>(ej P cs call N me hs r).main env' H' k
  |none=>AFd (ej P cs call N me hs a).main (ej P cs call N me hs (.seq m r)).main env H k,
  AFd (ej P cs call N me hs a).main (ej P cs call N me hs (.seq m r)).pre,(ej P cs call N me hs (.seq m r)).suf⟩
 |.seq a b=>⟨we (su hs a b) (O4 hs (.seq a b)) (AFd (ej P cs call N me hs a).main (ej P cs call N me hs b).main),(ej P cs call N me hs a).main,(ej P cs call N me hs b).main⟩
 |.cond c a b=>⟨we (hintOf hs (.cond c a b)) (O4 hs (.cond c a b)) (ABz c (ej P cs call N me hs a).main (ej P cs call N me hs b).main),Px,Px⟩
 |.block id b=>⟨we (hintOf hs (.block id b)) (O4 hs (.block id b)) (AAj id (ej P cs call N me hs b).main),Px,Px⟩
 |.loop b=>⟨uo (hintOf hs (.loop b)) (O4 hs (.loop b)) (ej P cs call N me hs b),Px,Px⟩
 |.region id ops Y=>⟨we (hintOf hs (.region id ops Y)) (O4 hs (.region id ops Y)) λenv H k=>
  match PC N ops.toList with
  |true=>AAC P cs call ops (guards ops) Y ops.toList 0 env H λenv' H'=>k .normal env' H'
  |false=>W,Px,Px⟩
 |.region id ops V=>⟨λenv H k=>
  match P.follows .mixedOrders&&ACQ ops N (ABJ ops)&&Wf P ops&&ql env with
  |true=>ABX P cs call ops (Ip ops.toList []) (guards ops) (match mb 3 id hs with|some _=>V|none=>Y) (ABJ ops) [] env H λenv' H'=>k .normal env' H'
  |false=>W,Px,Px⟩
 |.rangeFunc f ps a b=>⟨ABM P call N me f ps a b,Px,Px⟩
 |_=>⟨Px,Px,Px⟩
noncomputable def sV(P:Program)(cs:S Qd)(call:SN)(N:Nat)(me:FuncId)(hs:S Hint)(c:Code):Sem:=(ej P cs call N me hs c).main
def AHd{f}(j:∀m r,I≠.seq m r)(env:Bf)(H:Ar)(h:Exit→Bf→Ar→T R):
  sV P e k N u f (.seq c I) env H h=we (su f c I) (O4 f (.seq c I)) (λenv H h=>sV P e k N u f c env H λg d i=>match g with|.normal=>sV P e k N u f I d i h|g=>h g d i) env H h:=by
 cases I<;>first|rfl|exact N! rfl (j _ _)
def J4(P:Program)(N:Nat)(A:S Nat)(c:Code)(run:Sem):Prop:=∀{R:Type}(env:Bf)(H:Ar)(k:Exit->Bf->Ar->T R)(r:R),N3 env H->run env H k=Z r->
 ∃e env' H',tC P N c (By env) (BK H) (Uw e (By env') (BK H'))/\k e env' H'=Z r/\N3 env' H'/\EL A env H env' H'
theorem ACY:∀{l:S (Nat×Ty)}{env:Bf}{H:Ar}{a:Bf}{b:Ar},N3 env H→pQ l env H=Z (a,b)→
  N3 a b/\EL (l.map (·.1)) env H a b/\∀N,Fb N (U H) (By env) (BK H) (By a) (BK b)
 |[],env,H,a,b,ok,h=>by grind[pQ,EL.refl,Fb.refl,CZ]
 |(t,ty)::r,env,H,a,b,ok,h=>by
  simp only[pQ]at h;split at h;rename_i m;have st:CE H (H++[.buf Y ty [] 0 0]):=CE.push H _;have g:(H++[D0.buf Y ty [] 0 0])[U H]?=Z (.buf Y ty [] 0 0):=q!
  have i:N3 (env.put t (.c (.own (U H) 0 ty 0))) (H++[.buf Y ty [] 0 0]):=by refine⟨bv (d:=Z t) (st.env ok.env) (J3 (Wd g)),λe f=>?_⟩;rcases Am.1 f with f|f;exact st.ent (ok.heap e f);rw[A9.1 f];rfl
  obtain⟨q1,q2,q3⟩:=ACY i h;refine⟨q1,?_,λN=>?_⟩;have o:EL [t] env H (env.put t (.c (.own (U H) 0 ty 0))) (H++[.buf Y ty [] 0 0]):=⟨st,λu n _=>pP λe=>n (by simp[e])⟩
  exact EL.trans ok.env o q2;have w:=Fb.virt (N:=N) (env:=By env) (H:=BK H) (t:=t) (sz:=ty.sz) (by rw[Uu,m];rfl);have j:=(q3 N).of_le (n0:=U H) q!;rw[kJ]at j;have k:BK (H++[.buf Y ty [] 0 0])=BK H++[.live 0 []]:=by simp[BK,D0.enc,SO.cl]
  rw[k]at j;rw[CZ]at w;exact w.trans j;cases h
def rO:∀{n:Nat}{e x y:S Bu},uD n e=Z (x,y)->e=x++ .nil::y
 |0,[],_,_,h=>by cases h
 |0,z::r,x,y,h=>by
  cases z<;>simp only[uD]at h<;>try (cases h;done)
  injection h with h;injection h with c d;subst c d;rfl
 |n+1,[],_,_,h=>by cases h
 |n+1,z::r,x,y,h=>by simp only[uD]at h;split at h;rename_i a b hr;injection h with h;injection h with c d;subst c d;rw[rO hr];rfl;cases h
theorem AAM{env}:∀{l:S (Nat×Nat×Ty)}{H c:Ar},N3 env H→lE l H=Z c→
  N3 env c/\CE H c/\∀N,Fb N (U H) (By env) (BK H) (By env) (BK c)
 |[],H,c,ok,h=>by grind[lE,Option.some.injEq,CE.refl,Fb.refl,By,BK,CZ]
 |(b,i,ty)::r,H,c,ok,h=>by
  simp only[lE]at h;split at h;rename_i E v;split at h;rename_i x y B;have m:=rO B;subst m;have D:b<U H:=k!
  have f:CE H (H++[D0.buf Y ty [] 0 0]):=CE.push H _;have a:H.set b (D0.live Y (x++Bu.own (U H) 0 ty 0::y))++[D0.buf Y ty [] 0 0]=(H++[D0.buf Y ty [] 0 0]).set b (D0.live Y (x++Bu.own (U H) 0 ty 0::y)):=k!
  have j:(H++[D0.buf Y ty [] 0 0])[b]?=Z (D0.live Y (x++Bu.nil::y)):=k!
  have g:CE (H++[D0.buf Y ty [] 0 0]) ((H++[D0.buf Y ty [] 0 0]).set b (D0.live Y (x++Bu.own (U H) 0 ty 0::y))):=CE.set j rfl λ_ _ _ _ _ e=>by cases e
  have n:(H++[D0.buf Y ty [] 0 0])[U H]?=Z (.buf Y ty [] 0 0):=q!
  have t:lok H (x++Bu.nil::y):=ok.heap _ (BN v);have s:∀e∈H++[D0.buf Y ty [] 0 0],e.ok (H++[D0.buf Y ty [] 0 0]):=λe d=>by rcases Am.1 d with d|d;exact f.ent (ok.heap e d);rw[A9.1 d];rfl
  have u:lok (H++[D0.buf Y ty [] 0 0]) (x++Bu.own (U H) 0 ty 0::y):=by have q:=JZ.1 (f.lok t);refine JZ.2 ⟨q.1,λz o=>?_⟩;rcases Aw.1 o with rfl|o;exact Wd n;exact q.2 z (Ch _ o)
  rw[a]at h;have p:N3 env ((H++[D0.buf Y ty [] 0 0]).set b (D0.live Y (x++Bu.own (U H) 0 ty 0::y))):=⟨g.env (f.env ok.env),heap_set g s (g.lok u)⟩
  obtain⟨q1,q2,q3⟩:=AAM p h;refine⟨q1,(f.trans g).trans q2,λN=>?_⟩;have k:(BK H)[b]?=Z (.live 0 (lvs (x++Bu.nil::y))):=by rw[EO,v];rfl
  have C:(lvs (x++Bu.nil::y))[(lvs x).length]?=Z .nils:=by grind[G8,IA,Bu.enc]
  have w:=Fb.virtC (N:=N) (env:=By env) (sz:=ty.sz) k C;have A:BK ((H++[D0.buf Y ty [] 0 0]).set b (D0.live Y (x++Bu.own (U H) 0 ty 0::y)))=(BK H).set b (.live 0 ((lvs (x++Bu.nil::y)).set (lvs x).length (.sl (BK H).length 0 ty.sz 0 0)))++[.live 0 []]:=by
   rw[<-a];have:(lvs (x++Bu.nil::y)).set (lvs x).length (.sl (BK H).length 0 ty.sz 0 0)=lvs (x++Bu.own (U H) 0 ty 0::y):=by grind[G8,IA,CZ,Bu.enc]
   grind[BK,D0.enc,SO.cl,List.map_set]
  rw[<-A,CZ]at w;exact w.trans ((q3 N).of_le q!);cases h;cases h
theorem ACN(ok:N3 g d)(b:AHQ m g d=Z (J,A)):
  N3 J A/\EL (m.virt.map (·.1)) g d J A/\∀N,Fb N (U d) (By g) (BK d) (By J) (BK A):=by
 unfold AHQ at b;split at b;rename_i e a n;obtain⟨a1,a2,a3⟩:=ACY ok n;split at b;rename_i f H;injection b with b;injection b with k l;subst k l;obtain⟨h,i,j⟩:=AAM a1 H;have o:EL [] e a e f:=⟨i,λ_ _ _=>rfl⟩
 exact⟨h,(EL.trans ok.env a2 o).mono λt p=>k!,λN=>(a3 N).trans ((j N).of_le a2.step.len)⟩;cases b;cases b
theorem wI{A S}{H}:∀{env:Bf},(env.map (·.1)).Nodup->∀t,env.get t=VZ->(Qu A S H env).get t=VZ
 |[],_,_,_=>rfl
 |(u,v)::r,nd,t,h=>by have a:=G3.1 nd;simp only[Bf.get]at h;by_cases b:u=t;subst b;have hn:∀p∈Qu A S H r,p.1≠u:=λp c e=>a.1 (Bn.2 ⟨p,(RU a.2 p c).2.2,e⟩);grind[Qu,Bf.get,mf];rw[beq_false b]at h;have d:=wI (A:=A) (S:=S) (H:=H) a.2 t h;grind[Qu,Bf.get,beq_false]
theorem AB5{h:Hint}{A B:Ψ Nat}{env0:Bf}{e:Ar}{D:Bf}{E:Ar}(m:N3 env0 e)(nd:(env0.map (·.1)).Nodup)(M:AAW A (Lb h.slots) env0 e D E)
  {env1:Bf}{u:Ar} (C:N3 env1 u) (st:EL B D E env1 u) (K:∀t,t∈B->t∈A) (J:∀t,t∈h.tmps->t∈A) {x:Exit}{o:yH h.exits} (Q:ABE h.exits x env1 u=δ o)
  {R:Type}{k:Exit->Bf->Ar->Ω R}{r:R} (f:AHD h (θ e) (Qu A (Lb h.slots) e env0) e (Lb h.slots) k o=δ r) (N:Nat):
  ∃g i,Fb N (θ e) (By env1) (BK u) (By g) (BK i)/\k x g i=δ r/\N3 g i/\EL A env0 e g i:=by
 obtain⟨rfl,L,p,S,y⟩:=w8 Q;have f:=w7 f;split at f;rename_i g i O;split at f;rename_i v;simp at v;have sub:∀j,Ja j (Lb (yI h.exits o).2.1)=η->Ja j (Lb h.slots)=η:=λj d=>Wa λG=>k!
 obtain⟨w,W_,Y_,z⟩:=ABp m nd M C st K L m.heap rfl (AEv e) (λ_ _ _ _ q=>q) (λj H d c=>by
  cases H with
  |dead=>grind
  |live b V_=>exact .inr ⟨_,sub j d,by rw[JY,c,DZ,sub j d];rfl,rfl,.inr (.inl ⟨_,_,_,_,rfl,rfl,Dq.refl _⟩)⟩
  |buf b t l n U=>exact .inr ⟨_,sub j d,by rw[JY,c,DZ,sub j d];rfl,rfl,.inr (.inr (.inl ⟨_,_,_,_,_,_,_,rfl,rfl⟩))⟩
  |mp b k t X=>exact .inr ⟨_,sub j d,by rw[JY,c,DZ,sub j d];rfl,rfl,.inr (.inr (.inr (.inr ⟨_,_,_,_,_,rfl,rfl⟩)))⟩
  |lp ro F n env Z_ a b s=>exact .inr ⟨_,sub j d,by rw[JY,c,DZ,sub j d];rfl,rfl,.inr (.inr (.inr (.inl ⟨_,_,_,_,_,_,_,_,_,rfl,rfl⟩)))⟩) O v.1 v.2.1 N
 refine⟨g,i,w,f,z.ok,z.step,λt T P=>?_⟩;have I:=Wa λG=>T (J t (by refine Am.2 (.inr (GX.2 ⟨p,S,?_⟩));rw[<-y];exact G));rw[z.get t I];grind[yw,VZ,wI,lR,AEt,Wa];cases f;cases f
def mc:Code->Code
 |.seq _ (.seq m r)=>mc (.seq m r)
 |.seq _ b=>b
 |c=>c
section
variable {P:Program}{N:Nat}{env:Env}{H:Au}{Q:Exit->Env->Au->Prop}{X:Nat->Prop}{h:Gh}{a:Act}{w:World}
def aQ(P:Program)(N:Nat):Code->Env->Au->(Exit->Env->Au->Prop)->Prop
 |.seq a (.seq m r),env,H,Q=>J1 P N a env H (fC (λe h=>aQ P N (.seq m r) e h Q) Q)
 |.seq a _,env,H,Q=>J1 P N a env H Q
 |_,_,_,_=>False
def aQ.mono{i:Exit->Env->Au->Prop}(l:∀e d g,Q e d g->i e d g):∀{c:Code}{env:Env}{H:Au},aQ P N c env H Q->aQ P N c env H i:=by
 intro c;induction c with
 |seq a b _ f=>
  intro env H h;by_cases j:∃m r,b=.seq m r;obtain⟨m,r,rfl⟩:=j;refine J1.mono (show J1 P N a env H _ from h) λe E h k=>?_;cases e with
  |normal=>exact f k
  |_=>exact l _ _ _ k
  have e:∀Q,aQ P N (.seq a b) env H Q=J1 P N a env H Q:=λQ=>by cases b<;>first|rfl|exact N! ⟨_,_,rfl⟩ j
  rw[e]at h⊢;exact J1.mono h l
 |_=>intro env H h;exact h.elim
def aQ.run:∀{c:Code}{env:Env}{H:Au}{h:Gh}{a:Act}{w:World},aQ P N c env H Q→St X h N env H a w→Z4 B w→
  (∀e g d i b f,Q e b f->St X i N b f g d->HN h H w i f d->V8 a w g d->Exit.then (λa w=>(mc c).wpIn (FR B) 0 P p a w) p e g d)->c.wpIn (FR B) 0 P p a w:=by
 intro c;induction c with
 |seq x y _ u=>
  intro env H h a w K s k o;by_cases t:∃m B,y=.seq m B;obtain⟨m,y,rfl⟩:=t;refine wpIn_seq (wpIn_mono ((show J1 P N x env H _ from K) B X h a w s k) ?_);rintro e g d ⟨i,b,f,q,l,j,n⟩;cases e with
  |normal=>exact u q l (k.later j) λe a2 F D env2 z q2 E v A=>o e a2 F D env2 z q2 E (j.trans v) (n.trans l.sim j v A)
  |_=>exact o _ g d i b f q l j n
  have r:aQ P N (.seq x y) env H Q=J1 P N x env H Q:=by cases y<;>first|rfl|exact N! ⟨_,_,rfl⟩ t
  have C:mc (.seq x y)=y:=by cases y<;>first|rfl|exact N! ⟨_,_,rfl⟩ t
  rw[r]at K;rw[C]at o;refine wpIn_seq (wpIn_mono (K B X h a w s k) ?_);rintro e g d ⟨i,b,f,q,l,j,n⟩;exact o e g d i b f q l j n
 |_=>intro env H h a w K;exact K.elim
def jd(P:Program)(N:Nat)(c:Code)(env:Env)(H:Au)(Q:Exit->Env->Au->Prop):Prop:=
 ∀(r:T Nat)(X:Nat->Prop)(h:Gh)(a:Act)(w:World)(K:Exit->Act->World->Prop),St X h N env H a w->Z4 r w->
  (∀e a' w' h' env' H',Q e env' H'->St X h' N env' H' a' w'->HN h H w h' H' w'->V8 a w a' w'->K e a' w')->
  (mc c).wpIn (FR r) 0 P (Exit.then (λa w=>km (FR r) 0 P c K a w) K) a w
def aQ.loop(hn:U H=y)(r:aQ P N c env H (fC (λenv2 l=>∃d m,Fb N y env2 l d m∧jd P N c d m Q) Q))(s:St X h N env H a w)(k:Z4 B w)
  (v:∀e i f j b g,Q e b g->St X j N b g i f->HN h H w j g f->V8 a w i f->p e i f):km (FR B) 0 P c p a w:=by
 refine br (aQ.run r s k λe a2 n u env2 l q z C t=>?_);cases e with
 |normal=>obtain⟨d,m,x,G⟩:=q;obtain⟨E,A,F,I⟩:=x.2 X u a2 n z;have o:=Fb.ext hn x.1 F I C;exact G B X E a2 n p A (k.later o) λe i f j b g J L K D=>v e i f j b g J L (o.trans K) (t.trans A.sim o K D)
 |_=>exact v _ a2 n u env2 l q z C t
def dd(p:aQ P N c env H (fC (λenv2 i=>∃b f,Fb N (U H) env2 i b f/\jd P N c b f Q) Q)):IH P N c env H Q:=λr X g a w s k=>aQ.loop rfl p s k λe o t l d h q m n j=>⟨l,d,h,q,m,n,j⟩
def jd.unroll(p:J1 P N (mc c) env H (fC (λenv1 j=>aQ P N c env1 j (fC (λenv2 l=>∃b m,Fb N (θ H) env2 l b m/\jd P N c b m Q) Q)) Q)):jd P N c env H Q:=by
 intro r X g a w K s k n;apply wpIn_mono (p r X g a w s k);rintro e a1 V_ ⟨J,env1,j,q,o,i,v⟩;cases e with
 |normal=>
  refine br (aQ.run q o (k.later i) λe a2 t x env2 l q z C G=>?_);have h:=i.trans C;have d:=v.trans o.sim i C G;cases e with
  |normal=>obtain⟨b,m,y,O⟩:=q;obtain⟨L,A,M,R⟩:=y.2 X x a2 t z;have u:=Fb.ext rfl y.1 M R h;exact O r X L a2 t K A (k.later u) λe E U I f D S T B F=>n e E U I f D S T (u.trans B) (d.trans A.sim u B F)
  |_=>exact n _ a2 t x env2 l q z h d
 |_=>exact n _ a1 V_ J env1 j q o i v
def jd.after(p:jd P N c env H (λe b f=>∃env2 d,Fb N (U H) b f env2 d/\Q e env2 d)):jd P N c env H Q:=by intro r X g a w K s k o;refine p r X g a w K s k λe h j m b f ⟨env2,d,i,q⟩ v y l=>?_;obtain⟨n,x,t,u⟩:=i.2 X m h j v;exact o e h j n env2 d q x (Fb.ext rfl i.1 t u y) l
end
variable {P:Program}{N:Nat}
variable {i:Sem}{O:AD2}
theorem za{h:Hint}(hr:J4 P N v c i)(n:∀t,t∈v->t∈b)(m:∀t,t∈h.tmps->t∈b):J4 P N b c (AEr h b i):=by
 intro R env H k r ok a;unfold AEr at a;dsimp only at a;split at a;cases a;rename_i env0 f A;split at a;cases a;rename_i hn;obtain⟨o,s,a⟩:=bnd a;obtain⟨d,x,y⟩:=ACN ok A;have nd:=aL hn;obtain⟨e,env1,z,a1,k1,g,B⟩:=hr env0 (Kl (Lb h.slots) 0 f) _ o (kj d) s;have q:AAW b (Lb h.slots) env0 f env0 (Kl (Lb h.slots) 0 f):=⟨kj d,CE.refl _,Im _ _,λ_ _=>rfl,λp u=>(RU nd p u).1⟩
 obtain⟨j,l,w,q1,q2,q3⟩:=AB5 d nd q g B n m k1 a N;refine⟨e,j,l,?_,q1,q2,?_⟩;rw[qd]at a1;refine tC.weak (by rw[CZ];exact y N) (tC.after (a1.mono ?_));rintro _ _ _ ⟨rfl,rfl,rfl⟩;exact⟨_,_,by rw[CZ];exact w,rfl,rfl,rfl⟩;exact(EL.trans ok.env x q3).mono λt C=>by grind[Hint.tmps]
def AHy(L0:Env->Au->(Exit->Env->Au->Prop)->Prop)(A:S Nat)(run:Sem):Prop:=∀{R:Type}(env:Bf)(H:Ar)(k:Exit->Bf->Ar->T R)(r:R),N3 env H->run env H k=Z r->
 ∃e env' H',L0 (By env) (BK H) (Uw e (By env') (BK H'))/\k e env' H'=Z r/\N3 env' H'/\EL A env H env' H'
theorem zh{L0 L:Env→Au→(Exit→Env→Au→Prop)→Prop}(V_:∀{env:Env}{H:Au}{Q Q':Exit→Env→Au→Prop},(∀e f U,Q e f U→Q' e f U)→L0 env H Q→L0 env H Q')
  (hu:∀{env:Env}{H:Au}{Q:Exit->Env->Au->Prop},L0 env H (fC (λf U=>∃env2 J,Fb N (θ H) f U env2 J/\L env2 J Q) Q)->L env H Q)
  (ha:∀{env:Env}{H:Au}{Q:Exit->Env->Au->Prop},L env H (λe f U=>∃env2 J,Fb N (θ H) f U env2 J/\Q e env2 J)->L env H Q)
  {A B:Ψ Nat}{h:Hint}{run:Sem} (hr:AHy L0 B run) (hB:∀t,t∈B->t∈A) (hA:∀t,t∈h.tmps->t∈A) {R:Type} (env:Bf) (H:Ar) (k:Exit->Bf->Ar->Ω R) (r:R) (ok:N3 env H) (m:wk h A run env H k=δ r):
  ∃i g x u v,Fb N (θ H) (By env) (BK H) (By i) (BK g)/\L (By i) (BK g) (Uw x (By u) (BK v))/\k x u v=δ r/\N3 u v/\EL A env H u v:=by
 unfold wk at m;dsimp only at m;split at m;cases m
 ·rename_i G Hv hv;obtain⟨bb,sv,wv⟩:=ACN ok hv;obtain⟨y,sf,wf⟩:=RZ (h.kill++mj G Hv h.slots) bb;generalize Iq (h.kill++mj G Hv h.slots) G Hv=fz at m y sf wf;obtain⟨env0,d⟩:=fz;simp only at m y sf wf;split at m
  ·rename_i ds hn hc;split at m
   ·rename_i s0 a7;obtain⟨o,ho,m⟩:=bnd m;have nd:=aL hn;have z:∀e∈Kl (Lb h.slots) 0 d,e.ok (Kl (Lb h.slots) 0 d):=(kj y).heap;have hC:=AA4 (C:=λs o=>∀r,AHD h (θ d) (Qu A (Lb h.slots) d env0) d (Lb h.slots) k o=δ r->
     ∃i g,WY h.slots (dvs (eu h.slots) s) (Qu A (Lb h.slots) d env0) (Kl (Lb h.slots) 0 d)=δ (i,g)/\vZ (θ d) i=ζ/\mL (θ d) g=ζ/\(AAW A (Lb h.slots) env0 d i g->∃x u v,L (By i) (BK g) (Uw x (By u) (BK v))/\k x u v=δ r/\N3 u v/\EL A env0 d u v)) (λs q Y_=>by
     split at Y_
     ·rename_i i g hi;split at Y_
      ·rename_i I;simp only[BV]at I;have body:∀D:AAW A (Lb h.slots) env0 d i g,∃e env1 K,L0 (By i) (BK g) (Uw e (By env1) (BK K))/\ACA h e env1 K=δ q/\N3 env1 K/\EL B i g env1 K:=λD=>hr i g _ q D.ok Y_;cases q with
       |next s'=>
        intro o ih r m;obtain⟨ad,ap,i1,i2,i3,i4⟩:=ih r m;refine⟨i,g,hi,I.1,I.2,λD=>?_⟩;obtain⟨e,env1,K,a1,k1,S,T⟩:=body D;unfold ACA at k1;split at k1;rename_i hx;have:=uJ hx;subst this;split at k1;rename_i s1 a8;injection k1 with k1;injection k1 with k1;subst k1;have a2:=nS a8;obtain⟨w,ea,ha,E⟩:=ABp (Hx:=Kl (Lb h.slots) 0 d) y nd D S T hB a2 z (Im _ _) (.refl _) (λ_ _ _ _ q=>nj q) (λj e' O c=>by
         cases hH:d[j]? with
         |none=>grind[JY]
         |some Z_=>
          have hl:=c;rw[JY,hH,DZ,O]at c;simp only[Bs,Ao]at c;subst c;cases Z_ with
          |dead=>exact .inl rfl
          |live b cs=>exact .inr ⟨_,O,hl,rfl,.inr (.inl ⟨_,_,_,_,rfl,rfl,Dq.refl _⟩)⟩
          |buf b t l n bd=>exact .inr ⟨_,O,hl,rfl,.inr (.inr (.inl ⟨_,_,_,_,_,_,_,rfl,rfl⟩))⟩
          |mp b k t es=>exact .inr ⟨_,O,hl,rfl,.inr (.inr (.inr (.inr ⟨_,_,_,_,_,rfl,rfl⟩)))⟩
          |lp ro F n env ps a b s=>exact .inr ⟨_,O,hl,rfl,.inr (.inr (.inr (.inl ⟨_,_,_,_,_,_,_,_,_,rfl,rfl⟩)))⟩) i1 i2 i3 N
        have a3:AAW A (Lb h.slots) env0 d ad ap:=⟨E.ok,E.step,by rw[E.len,Im],E.same,λp P=>by
         obtain⟨X,b2,b3⟩:=RU nd p P;have M:Ja p.1 A=η:=by grind[iq,Ja]
         rw[E.get p.1 (Wa λV_=>UY M (hA _ (by unfold Hint.tmps;simp only[List.mem_append];exact .inl (.inr V_))))];rw[lR nd p.1 (by rw[X];exact b2)];exact X⟩
        obtain⟨x,u,v,l1,l2,l3,l4⟩:=i4 a3;refine⟨x,u,v,hu (V_ ?_ a1),l2,l3,l4⟩;rintro _ _ _ ⟨rfl,rfl,rfl⟩;exact⟨_,_,by rw[CZ,D.len];exact w,l1⟩;cases k1;split at k1<;>grind
       |done o=>
        intro r m;refine⟨i,g,hi,I.1,I.2,λD=>?_⟩;obtain⟨e,env1,K,a1,k1,S,T⟩:=body D;unfold ACA at k1;split at k1;split at k1<;>grind;rename_i hx;split at k1;rename_i o1 a6;injection k1 with k1;injection k1 with k1;subst k1;obtain⟨u,v,w,q1,q2,q3⟩:=AB5 y nd D S T hB hA a6 m N;have a5:e≠.normal:=by rintro rfl;cases hx
        refine⟨e,u,v,ha (hu (V_ ?_ a1)),q1,q2,q3⟩;intro e1 al bl a9;obtain⟨ar,ax,a0⟩:=a9;subst ar ax a0;have ao:∃env2 J,Fb N (BK g).length (By env1) (BK K) env2 J/\Uw e1 (By u) (BK v) e1 env2 J:=⟨_,_,by rw[CZ,D.len];exact w,rfl,rfl,rfl⟩
        cases e1 with
        |normal=>exact(a5 rfl).elim
        |_=>exact ao
        cases k1
      cases Y_
     cases Y_) ho
    obtain⟨i,g,i1,i2,i3,i4⟩:=hC r m;have a4:=qj a7;rw[a4]at i1;have a':N3 (Qu A (Lb h.slots) d env0) (Kl (Lb h.slots) 0 d):=⟨λp P=>(kj y).env p (RU nd p P).2.2,z⟩
    have E:=Me y hc i1 a' (by rw[Im];exact Al _) (λp P=>⟨p.2,(RU nd p P).2.2,XI.refl _⟩) (λj e' O c=>by
     rw[JY]at c;cases hH:d[j]? with
     |none=>rw[hH]at c;cases c
     |some Z_=>
      rw[hH,DZ,O]at c;simp only[Bs,Ao]at c;subst c;refine⟨Z_,rfl,?_⟩;cases Z_ with
      |dead=>exact .inl rfl
      |live b cs=>exact .inr (.inl ⟨_,_,_,_,rfl,rfl,Dq.refl _⟩)
      |buf b t l n bd=>exact .inr (.inr (.inl ⟨_,_,_,_,_,_,_,rfl,rfl⟩))
      |mp b k t es=>exact .inr (.inr (.inr (.inr ⟨_,_,_,_,_,rfl,rfl⟩)))
      |lp ro F n env ps a b s=>exact .inr (.inr (.inr (.inl ⟨_,_,_,_,_,_,_,_,_,rfl,rfl⟩)))) (AG7 d)
    have w:=E.weak (N:=N) (by rw[Im];exact Al _) (by rw[Im];exact i2) (by rw[Im];exact i3);rw[Im]at w;have D:AAW A (Lb h.slots) env0 d i g:=⟨E.ok,E.step,by rw[E.len,Im],E.same,λp P=>by
     obtain⟨X,b2,b3⟩:=RU nd p P;have M:Ja p.1 A=η:=by grind[iq,Ja]
     rw[E.get p.1 (Wa λV_=>UY M (hA _ (by unfold Hint.tmps;simp only[List.mem_append];exact .inl (.inr V_))))];rw[lR nd p.1 (by rw[X];exact b2)];exact X⟩
    obtain⟨x,u,v,l1,l2,l3,l4⟩:=i4 D;have w3:Fb N (θ H) (By env) (BK H) (By i) (BK g):=((wv N).trans ((wf N).of_le (by rw[CZ];exact sv.step.len))).trans (w.of_le (CK sv.step.len sf.step.len));refine⟨_,_,x,u,v,w3,l1,l2,l3,?_⟩;exact(EL.trans ok.env (EL.trans ok.env sv sf) l4).mono λt W_=>by rcases Am.1 W_ with W_|W_;rw[Do]at W_;exact hA t (by unfold Hint.tmps;simp only[List.mem_append];exact .inl (.inl (.inr W_)));exact W_
   cases m
  cases m
def AEx(hr:J4 P N v c i)(B:∀t,t∈v->t∈b)(l:∀t,t∈m.tmps->t∈b):J4 P N b (.loop c) (wk m b i):=by
 intro R env H k r ok f;obtain⟨s,u,x,A,j,w,l1,l2,o,p⟩:=zh (N:=N) (L0:=λenv H Q=>J1 P N c env H Q) (L:=λenv H Q=>IH P N c env H Q) (λn a=>a.mono n) (IH.unroll ·) (IH.after ·)
  (λenv H k r ok f=>by obtain⟨e,h,g,a,q⟩:=hr env H k r ok f;exact⟨e,h,g,a.awp,q⟩) B l env H k r ok f
 exact⟨x,A,j,tC.weak (by rw[CZ];exact w) l1,l2,o,p⟩
def ABl(P:Program)(N:Nat)(A:S Nat)(c:Code)(run:Sem):Prop:=AHy (aQ P N c) A run
def AEz(n:ABl P N v c O.pre)(y:J4 P N v (mc c) O.suf)(i:∀t,t∈v->t∈b)(h:∀t,t∈m.tmps->t∈b):J4 P N b (.loop c) (ACI m b O):=by
 intro R env H k r ok g;unfold ACI at g;obtain⟨e,env1,f,a1,k1,B,d⟩:=n env H _ r ok g;cases e with
 |normal=>
  obtain⟨A,I,x,q,u,w,l1,l2,D,F⟩:=zh (N:=N) (L0:=λenv H Q=>J1 P N (mc c) env H (fC (λe m=>aQ P N c e m Q) Q)) (L:=λenv H Q=>jd P N c env H Q)
   (λo a=>a.mono λe E m z=>by
    cases e with
    |normal=>exact aQ.mono o z
    |_=>exact o _ _ _ z) (λ{env H Q} a=>jd.unroll (a.mono λe E m z=>by
    cases e<;>exact z)) (jd.after ·)
   (B:=v) (run:=AFd O.suf O.pre) (λenv H k r ok g=>by
    obtain⟨e,env1,f,a1,k1,B,d⟩:=y env H _ r ok g;cases e with
    |normal=>obtain⟨A,env2,p,a2,C,l,G⟩:=n env1 f k r B k1;refine⟨A,env2,p,a1.awp.mono ?_,C,l,(EL.trans ok.env d G).mono λt j=>(Am.1 j).elim id id⟩;rintro _ _ _ ⟨rfl,rfl,rfl⟩;exact a2
    |_=>refine⟨_,env1,f,a1.awp.mono ?_,k1,B,d⟩;rintro _ _ _ ⟨rfl,rfl,rfl⟩;exact⟨rfl,rfl,rfl⟩) i h env1 f k r B k1
  refine⟨x,q,u,dd (aQ.mono ?_ a1),l2,D,(EL.trans ok.env d F).mono λt j=>(Am.1 j).elim (i t) id⟩;rintro _ _ _ ⟨rfl,rfl,rfl⟩;exact⟨_,_,w.of_le (by rw[CZ];exact d.step.len),l1⟩
 |_=>refine⟨_,env1,f,dd (aQ.mono ?_ a1),k1,B,d.mono i⟩;rintro _ _ _ ⟨rfl,rfl,rfl⟩;exact⟨rfl,rfl,rfl⟩
def AEU{A B}{j}(l:J4 P N A c i)(m:J4 P N B I j):J4 P N (A++B) (.cond F c I) (ABz F i j):=by
 intro R env H k r ok f;unfold ABz at f;dsimp only at f;split at f;rename_i v n;have a:BP (By env) F=.bool v:=by have:=Lg env F;rw[n]at this;exact this
 cases v with
 |true=>obtain⟨e,d,g,a1,q1,q2,q3⟩:=l env H k r ok f;exact⟨e,d,g,EJ (λ_ e=>by cases e) (J1.cond a (λ_=>a1.awp) (λe=>by cases e)),q1,q2,q3.mono λt h=>Am.2 (.inl h)⟩
 |false=>obtain⟨e,d,g,a1,q1,q2,q3⟩:=m env H k r ok f;exact⟨e,d,g,EJ (λ_ e=>by cases e) (J1.cond a (λe=>by cases e) (λ_=>a1.awp)),q1,q2,q3.mono λt h=>Am.2 (.inr h)⟩
 cases f
def ACr{A}(hr:J4 P N A c i):J4 P N A (.block q c) (AAj q i):=by
 intro R env H k r ok b;obtain⟨e,a,f,a1,q1,q2,q3⟩:=hr env H _ r ok b;cases e with
 |exit d=>
  simp only at q1;split at q1;rename_i h;have:=DD h;refine⟨.normal,a,f,EJ (λ_ e=>by cases e) (J1.block (a1.awp.mono ?_)),q1,q2,q3⟩;rintro _ _ _ ⟨rfl,rfl,rfl⟩;simp only[qA,C! this];exact⟨rfl,rfl,rfl⟩;rename_i h;have g:d≠q:=λe=>t!
  refine⟨.exit d,a,f,EJ (λ_ e=>by cases e) (J1.block (a1.awp.mono ?_)),q1,q2,q3⟩;rintro _ _ _ ⟨rfl,rfl,rfl⟩;simp only[qA,D! g];exact⟨rfl,rfl,rfl⟩
 |_=>refine⟨_,a,f,EJ (λ_ e=>by cases e) (J1.block (a1.awp.mono ?_)),q1,q2,q3⟩;rintro _ _ _ ⟨rfl,rfl,rfl⟩;exact⟨rfl,rfl,rfl⟩
end Go.Ab
namespace Go.Ab
variable {b v:S Nat}{N q y:Nat}{c I:Code}{d A:Ar}{R:Type}{e:S Qd}{g J M:Bf}{i:Sem}{j:S Ot}{k:SN}{l:Env}{s:Ad}{P:Program}{t:S Ad}{u:FuncId}{z:Bool}{C:YU}{F:Operand}{G:S TV}{O:AD2}
variable {P:Program}{N:Nat}
def J4.mono(h:J4 P N b c i)(f:∀t,t∈b->t∈v):J4 P N v c i:=λenv H k r ok g=>by obtain⟨e,a,d,q1,q2,q3,q4⟩:=h env H k r ok g;exact⟨e,a,d,q1,q2,q3,q4.mono f⟩
def ui{hs:S Hint}{A B:S Nat}(hr:J4 P N B c i)(d:∀t,t∈B->t∈A)(b:∀t,t∈rW hs c->t∈A):J4 P N A c (we (hintOf hs c) A i):=by
 unfold rW at b;generalize hintOf hs c=o at b⊢;cases o with
 |none=>exact hr.mono d
 |some h=>exact λenv H k r ok f=>za hr d (h:=h.rel (U H)) (λt e=>b t (by rw[Td]at e;exact e)) env H k r ok f
def AEy{hs:S Hint}{A B:S Nat}(hr:J4 P N B c O.main)(i:ABl P N B c O.pre)(g:J4 P N B (mc c) O.suf)(e:∀t,t∈B->t∈A)(b:∀t,t∈rW hs (.loop c)->t∈A):J4 P N A (.loop c) (uo (hintOf hs (.loop c)) A O):=by
 unfold rW at b;generalize hintOf hs (.loop c)=o at b⊢;cases o with
 |none=>exact λenv H k r ok a=>by cases a
 |some h=>
  intro R env H k r ok a;have a:uo (Z h) A O env H k=Z r:=a;have b:∀t,t∈(h.rel (U H)).tmps->t∈A:=λt d=>b t (by rw[Td]at d;exact d);cases f:ξ h.kind 8 with
  |true=>rw[show uo (Z h) A O env H k=ACI (h.rel (U H)) A O env H k by simp only[uo,f]]at a;exact AEz i g e b env H k r ok a
  |false=>rw[show uo (Z h) A O env H k=wk (h.rel (U H)) A O.main env H k by simp only[uo,f]]at a;exact AEx hr e b env H k r ok a
def Wb:∀{env:Bf}{p:Nat×TV},p∈iO env->p∈env/\LZ p.2.refs=[]
 |(t,v)::r,p,h=>by simp only[iO]at h;split at h;rename_i a;rcases Aw.1 h with rfl|h;exact⟨KW,a⟩;exact⟨Ch _ (Wb h).1,(Wb h).2⟩;exact⟨Ch _ (Wb h).1,(Wb h).2⟩
theorem ADV(Q:We P k){B:Array Tmp}:J4 P N b (.rangeFunc F B c I) (ABM P k N u F B c I):=by
 intro R env H O r ok q;unfold ABM at q;dsimp only at q;split at q;rename_i G first m hf
 split at q;rename_i Z_;have Y_:BP (By env) F=.fn (.func G) first m:=by rw[Lg,hf];rfl
 have E:(D0.lp η u N (iO env) B c I .ready).ok (H++[.lp η u N (iO env) B c I .ready]):=λp S id al t n hm=>by have:=nm hm;rw[(Wb S).2]at this;cases this
 have U:CE H (H++[.lp η u N (iO env) B c I .ready]):=CE.push H _;obtain⟨v,i,q1,q2,q3,q4,q5⟩:=Q (.fn G) _ _ _ r (λv X=>by simp only[Am,Bn,A9]at X;rcases X with(⟨A,_,rfl⟩|rfl)|⟨A,_,rfl⟩;exact lD A;exact J3 trivial;exact lD A) (Py ok.heap E) q
 have y:∀{ro:Bool}{f n e p a d}{s:LS}{x:Exit},i[θ H]?=δ (.lp ro f n e p a d s)→ro=η→(∀L:mU,L.state=s.st→L.pending=s.pend→AFU P N (By env) (θ H) (Uw x (By env) (BK (i.set (θ H) .dead))) ((BK i).set (θ H) (.lp L)))→O x env (i.set (θ H) .dead)=δ r→
   ∃V_ g M,tC P N (.rangeFunc F B c I) (By env) (BK H) (Uw V_ (By g) (BK M))/\O V_ g M=δ r/\N3 g M/\EL b env H g M:=by
  intro ro f n e p a d s x o T hq q;subst T;have K:CE i (i.set (θ H) .dead):=CE.set o rfl λ_ _ _ _ _ h=>by cases h
  have st:=(U.trans q5).trans K;refine⟨x,env,_,EJ (λ_ e=>by cases e) (mM (By (iO env)) (λp S=>?_) Y_ Z_ ?_),q,⟨st.env ok.env,Rg K q4 trivial⟩,st,λ_ _ _=>rfl⟩;obtain⟨A,hu,rfl⟩:=Bn.1 S;exact Bn.2 ⟨A,(Wb hu).1,rfl⟩;have J:Ei P G _ _ _:=q1;have z:(first.map tvA++[TV.c (.raw (.yf (θ H)))]++m.map tvA).map TV.enc=first++[.yf (BK H).length]++m:=by
   have W_:∀l:Ψ Ad,(l.map tvA).map TV.enc=l:=by
    intro l;rw[Oz];conv=>rhs;rw[<-fJ l]
    grind[List.map_congr_left,iZ]
   rw[LD,LD,W_,W_,CZ];rfl
  rw[z,RX]at J;apply J.mono;rintro _ _ ⟨rfl,rfl⟩;rw[CZ];have w:BK i=(BK i).set (θ H) (.lp ⟨n,By e,p,a,d,s.st,s.pend⟩):=by
   have hg:(BK i)[θ H]?=δ (.lp ⟨n,By e,p,a,d,s.st,s.pend⟩):=by rw[EO,o];rfl
   apply JR;intro j;by_cases ad:j=θ H<;>grind
  rw[w];exact hq _ rfl rfl
 have look:∀L:mU,θ H<θ i->((BK i).set (θ H) (.lp L))[θ H]?=δ (.lp L):=λL h=>by grind[List.getElem?_set_self,CZ]
 have dead:∀L:mU,((BK i).set (θ H) (.lp L)).set (θ H) .dead=BK (i.set (θ H) .dead):=λL=>by rw[YZ,LJ];rfl
 split at q2;rename_i o;refine y o rfl (λL C D=>⟨L,look L (HM o),by rw[C];simp[LS.st],?_⟩) q2;rw[D,dead];exact⟨rfl,rfl,rfl⟩;rename_i o;refine y o rfl (λL C D=>⟨L,look L (HM o),by rw[C];simp[LS.st],?_⟩) q2;rw[D,dead];exact J1.ret ⟨rfl,rfl,rfl⟩;rename_i x o;refine y o rfl (λL C D=>⟨L,look L (HM o),by rw[C];simp[LS.st],?_⟩) q2;rw[D,dead];exact J1.exit ⟨rfl,rfl,rfl⟩;cases q2;cases q;cases q
theorem AET{hs:S Hint}(h:oY c I=Z C):∀t∈C.tmps,t∈O4 hs c++O4 hs I:=by obtain⟨o,v,l,q,w,n,r,x,s,y,u,z,rfl,rfl,f,g,i,j,k,_⟩:=oZ h;obtain⟨_,_,_,_,_,_,l1⟩:=rk f;obtain⟨_,_,_,_,_,_,l2⟩:=rl g;obtain⟨_,_,_,_,_,_,_,_,_,_,_,_,a⟩:=rp i;obtain⟨_,_,_,_,_,_,_,_,_,_,_,_,_,_,_,d⟩:=rq j;obtain⟨_,_,_,_,_,_,_,e⟩:=sA k;intro t b;simp only[O4,l1,l2,a,d,e,oe,Am];simp only[YU.tmps]at b;grind
theorem AHc(S:∀c∈e,c.Ok P)(O:We P k)(y:FuncId)(d:Ψ Hint):∀c:Code,J4 P N (O4 d c) c (sV P e k N y d c)/\(∀m r,c=.seq m r->J4 P N (O4 d r) r (sV P e k N y d r))/\ABl P N (O4 d c) c (ej P e k N y d c).pre/\J4 P N (O4 d c) (mc c) (ej P e k N y d c).suf:=by
 have L:∀(A:Ψ Nat)(c:Code),J4 P N A c Px:=λA c R env H x r ok j=>by cases j
 have u:∀(A:Ψ Nat)(c:Code),ABl P N A c Px:=λA c R env H x r ok j=>by cases j
 intro c;induction c with
 |skip=>exact⟨λenv H x r ok j=>⟨.normal,env,H,EJ (λ_ g=>by cases g) (J1.skip ⟨rfl,rfl,rfl⟩),j,ok,EL.refl _ _ _⟩,λ_ _ g=>(by cases g),u _ _,L _ _⟩
 |ret=>exact⟨λenv H x r ok j=>⟨.ret,env,H,EJ (λ_ g=>by cases g) (J1.ret ⟨rfl,rfl,rfl⟩),j,ok,EL.refl _ _ _⟩,λ_ _ g=>(by cases g),u _ _,L _ _⟩
 |exit id=>exact⟨λenv H x r ok j=>⟨.exit id,env,H,EJ (λ_ g=>by cases g) (J1.exit ⟨rfl,rfl,rfl⟩),j,ok,EL.refl _ _ _⟩,λ_ _ g=>(by cases g),u _ _,L _ _⟩
 |seq a b D w=>
  refine⟨?_,λm r g=>(by injection g with V_ C;subst V_ C;exact w.1),?_,?_⟩;rotate_left;by_cases I:∃m z,b=.seq m z;obtain⟨m,z,rfl⟩:=I;intro env H x r ok j;obtain⟨g,env1,J,a1,k1,v,M⟩:=D.1 env H _ r ok (show sV P e k N y d a env H _=δ r from j);cases g with
  |normal=>obtain⟨C,env2,K,a2,Y_,F,Z_⟩:=w.2.2.1 env1 J x r v k1;refine⟨C,env2,K,J1.mono a1.awp ?_,Y_,F,(EL.trans ok.env M Z_).mono λt l=>Am.2 (.inl l)⟩;rintro _ _ _ ⟨rfl,rfl,rfl⟩;exact a2
  |_=>refine⟨_,env1,J,J1.mono a1.awp ?_,k1,v,M.mono λt l=>Am.2 (.inl (Am.2 (.inl l)))⟩;rintro _ _ _ ⟨rfl,rfl,rfl⟩;exact⟨rfl,rfl,rfl⟩
  intro env H x r ok j;have j:sV P e k N y d a env H x=δ r:=by cases b<;>first|exact j|exact N! ⟨_,_,rfl⟩ I
  obtain⟨g,env1,J,a1,k1,v,M⟩:=D.1 env H x r ok j;have C:∀Q,aQ P N (.seq a b) (By env) (BK H) Q=J1 P N a (By env) (BK H) Q:=λQ=>by cases b<;>first|rfl|exact N! ⟨_,_,rfl⟩ I
  exact⟨g,env1,J,by rw[C];exact a1.awp,k1,v,M.mono λt l=>Am.2 (.inl (Am.2 (.inl l)))⟩;have mo:∀t,t∈O4 d b->t∈O4 d (.seq a b):=λt l=>Am.2 (.inl (Am.2 (.inr l)));intro R env H x r ok j;by_cases I:∃m z,b=.seq m z;obtain⟨m,z,rfl⟩:=I;exact J4.mono w.2.2.2 mo env H x r ok j;have q:J4 P N (O4 d (.seq a b)) b (sV P e k N y d b):=J4.mono w.1 mo;have j:sV P e k N y d b env H x=δ r:=by cases b<;>first|exact j|exact N! ⟨_,_,rfl⟩ I
  have C:mc (.seq a b)=b:=by cases b<;>first|rfl|exact N! ⟨_,_,rfl⟩ I
  rw[C];exact q env H x r ok j;have U:J4 P N (O4 d a++O4 d b) (.seq a b) (λenv H x=>sV P e k N y d a env H λg n G=>match g with|.normal=>sV P e k N y d b n G x|g=>x g n G):=by
   intro R env H x r ok j;obtain⟨g,env1,J,a1,k1,v,M⟩:=D.1 env H _ r ok j;cases g with
   |normal=>obtain⟨C,env2,K,a2,Y_,F,Z_⟩:=w.1 env1 J x r v k1;refine⟨C,env2,K,EJ (λ_ g=>by cases g) (J1.seq (a1.awp.mono ?_)),Y_,F,EL.trans ok.env M Z_⟩;rintro _ _ _ ⟨rfl,rfl,rfl⟩;exact a2.awp
   |_=>refine⟨_,env1,J,EJ (λ_ g=>by cases g) (J1.seq (a1.awp.mono ?_)),k1,v,M.mono λt l=>Am.2 (.inl l)⟩;rintro _ _ _ ⟨rfl,rfl,rfl⟩;exact⟨rfl,rfl,rfl⟩
  intro R env H x r ok j;by_cases I:∃m z,b=.seq m z;obtain⟨m,z,rfl⟩:=I;simp only[sV,ej]at j;split at j;rename_i p hp;obtain⟨env1,J,a1,k1,v,M⟩:=AES S hp ok j;obtain⟨C,env2,K,a2,Y_,F,Z_⟩:=w.2.1 m z rfl env1 J x r v k1;refine⟨C,env2,K,EJ (λ_ g=>by cases g) (J1.seq (a1.mono ?_)),Y_,F,(EL.trans ok.env M Z_).mono λt l=>?_⟩;intro g E h hx;cases g with
  |normal=>exact J1.seq (hx.mono (by rintro _ _ _ ⟨rfl,rfl,rfl⟩;exact a2.awp))
  |_=>exact hx.elim
  show t∈(O4 d a++((O4 d m++O4 d z)++vL d m z))++vL d a (.seq m z);rcases Am.1 l with l|l;rcases Am.1 (AET (hs:=d) hp t l)with h|h<;>simp[h];simp[l];exact U.mono (λt l=>Am.2 (.inl l)) env H x r ok j;have j:sV P e k N y d (.seq a b) env H x=δ r:=j;rw[AHd λm r g=>I ⟨m,r,g⟩]at j;have hA:∀t,t∈vL d a b->t∈O4 d (.seq a b):=λt l=>Am.2 (.inr l);have hB:∀t,t∈O4 d a++O4 d b->t∈O4 d (.seq a b):=λt l=>Am.2 (.inl l);unfold vL at hA;generalize su d a b=o at j hA;cases o with
  |none=>exact U.mono hB env H x r ok j
  |some h=>exact za U hB (h:=h.rel (θ H)) (λt l=>hA t (by rw[Td]at l;exact l)) env H x r ok j
 |cond c a b D w=>have W_:J4 P N (O4 d a++O4 d b) (.cond c a b) (ABz c (sV P e k N y d a) (sV P e k N y d b)):=AEU D.1 w.1;refine⟨?_,λ_ _ g=>(by cases g),u _ _,L _ _⟩;intro R;exact ui (hs:=d) (A:=O4 d (.cond c a b)) W_ (λt l=>Am.2 (.inl l)) (λt l=>Am.2 (.inr l))
 |block id b X=>have W_:J4 P N (O4 d b) (.block id b) (AAj id (sV P e k N y d b)):=ACr X.1;refine⟨?_,λ_ _ g=>(by cases g),u _ _,L _ _⟩;intro R;exact ui (hs:=d) (A:=O4 d (.block id b)) W_ (λt l=>Am.2 (.inl l)) (λt l=>Am.2 (.inr l))
 |loop b X=>exact⟨AEy (hs:=d) (A:=O4 d (.loop b)) X.1 X.2.2.1 X.2.2.2 (λt l=>Am.2 (.inl l)) (λt l=>Am.2 (.inr l)),λ_ _ g=>(by cases g),u _ _,L _ _⟩
 |region id s B=>
  refine⟨?_,λ_ _ g=>(by cases g),(by cases B<;>exact u _ _),(by cases B<;>exact L _ _)⟩;cases B with
  |false=>
   have W_:J4 P N (oe s.toList) (.region id s η) (λenv H x=>match PC N s.toList with
    |true=>AAC P e k s (guards s) η s.toList 0 env H λn G=>x .normal n G
    |false=>ε):=by
    intro R env H x r ok j;dsimp only at j;split at j;rename_i T;obtain⟨n,G,r1,r2,r3,r4⟩:=iR (N:=N) S O _ _ _ _ _ _ ok j;refine⟨.normal,n,G,EJ (λ_ g=>by cases g) (F4 T ?_),r2,r3,r4⟩;show XJ P N s s.toList (By env) (BK H) (λV_ K=>Exit.normal=Exit.normal/\V_=By n/\K=BK G);simpa using r1;cases j
   intro R;exact ui (hs:=d) (A:=O4 d (.region id s η)) W_ (λt l=>Am.2 (.inl l)) (λt l=>Am.2 (.inr l))
  |true=>
   intro R env H x r ok j;simp only[sV,ej]at j;split at j;rename_i T;simp only[BV]at T;obtain⟨n,G,r1,r2,r3,r4⟩:=ZN (N:=N) S O _ _ _ _ _ _ ok j;refine⟨.normal,n,G,EJ (λ_ g=>by cases g) (kM T.1.1.1 _ T.1.1.2 T.1.2 ?_ ?_),r2,r3,r4.mono λt l=>Am.2 (.inl ?_)⟩;have:=aL T.2;rw[By,Oz];exact this;show RA P N s (ABJ s) [] (By env) (BK H) (λV_ K=>Exit.normal=Exit.normal/\V_=By n/\K=BK G);simpa using r1;unfold vc at l;obtain⟨i,_,hi⟩:=O0.1 l;cases ho:s[i]? with
   |none=>rw[ho]at hi;cases hi
   |some o=>
    rw[ho]at hi;refine O0.2 ⟨o,?_,hi⟩;have:s.toList[i]?=δ o:=by simpa using ho
    exact BN this
   cases j
 |rangeFunc f ps a b _ _=>exact⟨ADV O,λ_ _ g=>(by cases g),u _ _,L _ _⟩
 |_=>exact⟨λenv H x r ok j=>(by simp only[sV,ej,Px]at j;cases j),λ_ _ g=>(by cases g),u _ _,L _ _⟩
theorem qz(f:∀c∈e,c.Ok P)(b:We P k)(g:FuncId)(d:S Hint)(c:Code):J4 P N (O4 d c) c (sV P e k N g d c):=by grind[AHc]
end Go.Ab
namespace Go.Ab
def da:Nat->S TV->Bf
 |_,[]=>[]
 |i,v::r=>(i,v)::da (i+1) r
def nq(P:Program)(env:Bf)(H:Ar):S ResultVar->T (S TV)
 |[]=>Z []
 |.tmp t::r=>match nq P env H r with|some vs=>Z (env.get t::vs)|none=>W
 |.cell a t::r=>match nq P env H r with|some vs=>loadT P H t (env.get a) λv=>Z (v::vs)|none=>W
def zY:Exit->Bool
 |.normal=>V
 |.ret=>V
 |_=>Y
variable {N q y:Nat}{d A:Ar}{R:Type}{g J M:Bf}{s:Ad}{P:Program}{t:S Ad}{z:Bool}{G:S TV}
def AJ8(P:Program)(fn:Func)(k:TV->Ar->T R):Exit->Bf->Ar->T R:=λe env H=>
 match zY e with
 |true=>match nq P env H fn.results.toList with|some vs=>k (one vs) H|none=>W
 |false=>W
def AAE:Bf->S Tmp->S TV->Bf
 |env,t::ts,v::vs=>AAE (env.put t v) ts vs
 |env,_,_=>env
def AFZ(id:Nat)(k:TV->Ar->T R):Exit->Bf->Ar->T R:=λe _ H=>
 match H[id]? with
 |some (.lp Y F n env ps a b _)=>
  match e with
  |.normal=>k (.c (.bl V)) (H.set id (.lp Y F n env ps a b .ready))
  |.ret=>k (.c (.bl Y)) (H.set id (.lp Y F n env ps a b .ret))
  |.exit x=>k (.c (.bl Y)) (H.set id (.lp Y F n env ps a b (.exit x)))
  |_=>W
 |_=>W
noncomputable def ABV(P:Program)(cs:S Qd)(call:SN)(hs:FuncId->S Hint)(id:Nat)(vs:S TV)(H:Ar){R:Type}(k:TV->Ar->T R):T R:=
 match H[id]? with
 |some (.lp Y F n env ps a b .ready)=>
  match ξ (U vs) ps.size&&ps.toList.all λt=>Nat.blt t n with
  |true=>sV P cs call n F (hs F) a (AAE env ps.toList vs) H λe env1 H1=>
   match e with
   |.normal=>
    match H1[id]? with
    |some (.lp Y F1 n1 e1 ps1 a1 b1 .ready)=>sV P cs call n F (hs F) b env1 (H1.set id (.lp Y F1 n1 e1 ps1 a1 b1 .busy)) (AFZ id k)
    |_=>W
   |_=>W
  |false=>W
 |_=>W
noncomputable def rJ(P:Program)(cs:S Qd)(hs:FuncId->S Hint):Nat->SN
 |0=>λ_ _ _ _=>W
 |n+1=>λtg vs H k=>
  match tg with
  |.fn F=>
   match P.funcs[F]? with
   |some fn=>
    match fn.body with
    |some c=>match Nat.ble (U vs) fn.ntmps with|true=>sV P cs (rJ P cs hs n) fn.ntmps F (hs F) c (da 0 vs) H (AJ8 P fn k)|false=>W
    |none=>W
   |none=>W
  |.yd id=>ABV P cs (rJ P cs hs n) hs id vs H k
def uh(bt:Ty):(rs:S Ty)->DL rs->bt.D->DL (rs++[bt])
 |[],_,b=>b
 |[_],y,b=>(y,b)
 |_::u::r,y,b=>(y.1,uh bt (u::r) y.2 b)
def qw(vs:S TV):S Nat:=vs.flatMap λv=>LZ v.refs
def AJ5(P:Program)(fn:Func)(rs:S Ty):Exit->Bf->Ar->T (DL rs):=λe env H=>
 match zY e with
 |true=>
  match nq P env H fn.results.toList with
  |some vs0=>match Iq (qw vs0) env H with|(ef,hf)=>match nq P ef hf fn.results.toList with|some vs=>inp rs vs|none=>W
  |none=>W
 |false=>W
def AJ6(P:Program)(fn:Func)(bt:Ty)(rs:S Ty):Exit->Bf->Ar->T (DL (rs++[bt])):=λe env H=>
 match zY e with
 |true=>
  match nq P env H fn.results.toList with
  |some vs0=>
   match Iq (qw vs0++(match (H[0]? :T D0)with|some (.live _ cs)=>LZ cs|_=>[])) env H with
   |(ef,hf)=>
    match nq P ef hf fn.results.toList,(hf[0]? :T D0)with
    |some vs,Z (.live _ cs)=>match inp rs vs,bt.all cs with|some y,Z b=>Z (uh bt rs y b)|_,_=>W
    |_,_=>W
  |none=>W
 |false=>W
def ue:Nat->TV->S TV->S TV
 |0,v,l=>v::l
 |n+1,v,x::l=>x::ue n v l
 |_+1,v,[]=>[v]
noncomputable def ABq(P:Program)(cs:S Qd)(hs:FuncId->S Hint)(n:Nat)(F:FuncId)(ds rs:S Ty)(x:DL ds):T (DL rs):=
 match P.funcs[F]? with
 |some fn=>
  match fn.body with
  |some c=>match Nat.ble (yh ds x).length fn.ntmps with|true=>sV P cs (rJ P cs hs n) fn.ntmps F (hs F) c (da 0 (yh ds x)) [] (AJ5 P fn rs)|false=>W
  |none=>W
 |none=>W
noncomputable def AEI(P:Program)(cs:S Qd)(hs:FuncId->S Hint)(n:Nat)(F:FuncId)(pos:Nat)(bt:Ty)(ds rs:S Ty)(b:bt.D)(x:DL ds):T (DL (rs++[bt])):=
 match P.funcs[F]? with
 |some fn=>
  match fn.body with
  |some c=>
   match Nat.ble (ue pos (.c (.raw (.ptr 0 0 0))) (yh ds x)).length fn.ntmps with
   |true=>sV P cs (rJ P cs hs n) fn.ntmps F (hs F) c (da 0 (ue pos (.c (.raw (.ptr 0 0 0))) (yh ds x))) [.live Y (bt.lvs b)] (AJ6 P fn bt rs)
   |false=>W
  |none=>W
 |none=>W
theorem db:∀(l:S TV)(i:Nat),By (da i l)=env0 i (l.map TV.enc)
 |[],_=>rfl
 |v::r,i=>by have:=db r (i+1);grind[By,da,env0]
def kK{H:Ar}:∀{l:S TV}{i:Nat},(∀v∈l,v.ok H)->∀p∈da i l,p.2.ok H
 |[],_,_,p,a=>by cases a
 |v::r,i,h,p,a=>by simp only[da]at a;rcases Aw.1 a with rfl|a;exact h v q!;exact kK (λw b=>h w (by simp[b])) p a
theorem ly{P}{env:Bf}{H:Ar}(d:∀p∈env,p.2.ok H)(c:∀e∈H,e.ok H):∀{l:S ResultVar}{b:S TV},nq P env H l=Z b->TK P (By env) (BK H) l=Z (b.map TV.enc)/\∀v∈b,v.ok H
 |[],b,h=>by simp only[nq,Ao]at h;subst h;exact⟨rfl,λv g=>by cases g⟩
 |.tmp t::r,b,h=>by simp only[nq]at h;split at h;rename_i i f;obtain⟨q1,q2⟩:=ly d c f;grind[TK,nr,Uu,ka];cases h
 |.cell a t::r,b,h=>by simp only[nq]at h;split at h;rename_i i f;obtain⟨q1,q2⟩:=ly d c f;obtain⟨u,j,k,m⟩:=re c (ka d a) h;grind[TK,nr,Uu];cases h
def vG{b:Func}(H:∀p∈g,p.2.ok d)(c:∀e∈d,e.ok d)(h:nq P g d b.results.toList=Z G):iv P b (By g) (BK d)=Z (qp (G.map TV.enc)):=by
 unfold iv;rw[(ly H c h).1];cases G with
 |nil=>rfl
 |cons v r=>
  cases r with
  |nil=>rfl
  |cons u r=>rfl
def xJ:∀(a:S Tmp)(b:S TV)(env:Bf),Ri (By env) a (b.map TV.enc)=By (AAE env a b)
 |[],_,_=>rfl
 |_::_,[],_=>rfl
 |t::a,v::b,env=>by simp only[CQ,Ri,AAE];rw[<-kJ];exact xJ a b (env.put t v)
def AAF{H:Ar}:∀(b:S Tmp)(a:S TV)(env:Bf),(∀p∈env,p.2.ok H)->(∀v∈a,v.ok H)->∀p∈AAE env b a,p.2.ok H
 |[],_,_,h,_=>h
 |_::_,[],_,h,_=>h
 |t::b,v::a,env,h,hv=>AAF b a (env.put t v) (bv (d:=Z t) h (hv v q!)) λu c=>hv u (by simp[c])
def AIA{c}{F n env ps a b}{s e}(h:(D0.lp z F n env ps a b s).ok A):(D0.lp c F n env ps a b e).ok d:=h
theorem ACJ{F n env ps a b}{s s':LS}(h:d[N]?=Z (.lp Y F n env ps a b s)):CE d (d.set N (.lp Y F n env ps a b s')):=CE.set h rfl (λ_ _ _ _ _ h=>by cases h) λ_ _ _ _ _ _ _ _ e=>k!
def AA5{F n env ps a b}{s:LS}(h:d[N]?=Z (.lp z F n env ps a b s)):(BK d)[N]?=Z (.lp ⟨n,By env,ps,a,b,s.st,s.pend⟩):=by rw[EO,h];rfl
theorem ADY{P:Program}{cs:List Qd}(K: ∀c∈cs,c.Ok P){hs:FuncId→List Hint}{g:SN}(J:We P g){R:Type}{id:Nat}{S:List TV}{H:Ar}{k:TV→Ar→Option R}{r:R}(hv: ∀v∈S,v.ok H)(hH: ∀e∈H,e.ok H)
  (h:ABV P cs g hs id S H k=some r): ∃v d,yr P (S.map TV.enc) (BK H) v.enc (BK d) (.yd id)/\k v d=some r/\v.ok d/\(∀e∈d,e.ok d)/\CE H d:=by
 unfold ABV at h;split at h;rename_i F n env ps a b he;split at h;rename_i hb;simp only[BV]at hb;have M: ∀p∈env,p.2.ok H:=λp hp x hx=>by
  have:=(hH _ (BN he)) p hp;cases x with
  |own i v t m=>grind
  |_=>trivial
 obtain⟨e,env1,T,a1,k1,w,s1⟩:=qz (N:=n) K J F (hs F) a _ H _ r ⟨AAF ps.toList S env M hv,hH⟩ h;split at k1;split at k1;rename_i F1 n1 Y_ z U V_ s;have B:CE T _:=ACJ (s':=.busy) s;obtain⟨x,env2,D,a2,j,O,s2⟩:=qz (N:=n) K J F (hs F) b _ _ _ r ⟨B.env w.env,Rg B w.heap (AIA (w.heap _ (BN s)))⟩ k1;unfold AFZ at j;split at j;rename_i F2 n2 Z_ A W_ X s0 u
 have l: ∀(v:Bool) (C:LS),k (.c (.bl v)) (D.set id (.lp false F2 n2 Z_ A W_ X C))=some r→(∀L:mU,(BK D)[id]? =some (.lp L)→L=⟨n2,By Z_,A,W_,X,s0.st,s0.pend⟩→AFa id (DT (.bool v) (BK (D.set id (.lp false F2 n2 Z_ A W_ X C)))) x (By env2) (BK D))→
   ∃v d,yr P (S.map TV.enc) (BK H) v.enc (BK d) (.yd id)/\k v d=some r/\v.ok d/\(∀e∈d,e.ok d)/\CE H d:=by
  intro v C hk hq;have Q:CE D _:=ACJ (s':=C) u;refine⟨.c (.bl v),_,?_,hk,J3 trivial,Rg Q O.heap (AIA (O.heap _ (BN u))),((s1.step.trans B).trans s2.step).trans Q⟩;intro N o c f env0 ho I hf q;apply Jq.yield ho I hf (AA5 he);grind[List.length,List.length_map,Array.length_toList,Nat.eq_of_beq_eq_true];simp_all;show J1 P n a (Ri (By env) ps.toList (c.args.toList.map (BP env0))) (BK H) _;rw[q,xJ];apply a1.awp.mono;rintro _ _ _ ⟨rfl,rfl,rfl⟩;refine⟨rfl,_,AA5 s,rfl,?_⟩;have e3:(BK T).set id (.lp ⟨n1,By Y_,z,U,V_,.busy,LS.pend .ready⟩)=BK (T.set id (.lp false F1 n1 Y_ z U V_ .busy)):=by rw[LJ];rfl
  show J1 P n b (By env1) ((BK T).set id (.lp ⟨n1,By Y_,z,U,V_,.busy,LS.pend .ready⟩)) _;rw[e3];apply a2.awp.mono;rintro _ _ _ ⟨rfl,rfl,rfl⟩;exact hq _ (AA5 u) rfl
 split at j;refine l true .ready j λL G E=>⟨L,G,rfl,?_⟩
 subst E;rw[LJ];rfl;refine l false .ret j λL G E=>⟨L,G,rfl,?_⟩
 subst E;rw[LJ];rfl;rename_i y;refine l false (.exit y) j λL G E=>⟨L,G,rfl,?_⟩
 subst E;rw[LJ];rfl;cases j;cases j;cases k1;cases k1;cases h;cases h
theorem kC{P}{j:S Qd}(b:∀c∈j,c.Ok P){m:FuncId->S Hint}:∀n,We P (rJ P j m n)
 |0=>by grind[rJ]
 |n+1=>by
  intro z A H k r p l h;cases z with
  |yd id=>exact ADY b (kC b n) p l h
  |fn F=>
  simp only[rJ]at h;split at h;rename_i fn y;split at h;rename_i c w;split at h;rename_i hn;obtain⟨e,d,f,a1,k1,a,q⟩:=qz (N:=fn.ntmps) b (kC b n) F (m F) c (da 0 A) H _ r ⟨kK p,l⟩ h;unfold AJ8 at k1;split at k1;rename_i x;split at k1;rename_i s o;refine⟨one s,f,Ke y w t! ?_,k1,yF (ly a.env a.heap o).2,a.heap,q.step⟩;rw[<-db];apply a1.awp.mono;rintro _ _ _ ⟨rfl,rfl,rfl⟩;have g:∃v t i,iv P fn (By d) (BK f)=Z v/\Oq (BK H).length v (BK f) t i/\DT (one s).enc (BK f) t i:=⟨_,_,_,vG a.env a.heap o,Oq.refl _ _ (by rw[CZ,CZ];exact q.step.len),by rw[sm],rfl⟩
  rename_i u;cases u<;>first|exact g|cases x
  cases k1;cases k1;cases h;cases h;cases h
def Dq.tup{b a}(h:Dq b a):XI (.tup b) (.tup a):=by
 intro x c r;cases r with
 |tup g hr=>refine .tup (by rw[g,h.1]) λj i d f e=>?_;obtain⟨v,q1,q2⟩:=h.2 j i f;exact q2 _ _ (hr j v d q1 e)
def XO{b}(h:Dq t b):XI (qp t) (qp b):=by
 match t,b,h with
 |[],[],h=>exact XI.refl _
 |[v],[w],h=>obtain⟨u,q1,q2⟩:=h.2 0 w rfl;simp at q1;subst q1;exact q2
 |v::u::r,w::x::s,h=>exact Dq.tup h
def Ph:∀(a:S Ty)(x:DL a),∀v∈nK a x,Pure v
 |[],_,v,h=>by cases h
 |[t],x,v,h=>by simp only[nK,A9]at h;subst h;exact t.enc_pure x
 |t::u::r,x,v,h=>by simp only[nK]at h;rcases Aw.1 h with rfl|h;exact t.enc_pure x.1;exact Ph (u::r) x.2 v h
def YR(h:∀v∈t,Pure v):Pure (qp t):=by
 match t,h with
 |[],_=>rfl
 |[v],h=>exact h v q!
 |v::u::r,h=>exact(Dy _ _).2 h
theorem vI{a H2:Ar}(j:U H2<=U a)(hr:HR a H2 [])(i:mL (U H2) H2=V){d}(l:XI s d)(k:Pure d):Oq (U H2) s (BK a) d (BK H2):=by
 refine⟨by rw[CZ];exact Al _,λX h w c v r=>?_⟩;have q:=(HR.rel j hr (cx X h (BK a) w)).onto;have n:=v.rel q;have m:=(l _ c r).later q.later;have e:(BK H2++(BK a).drop (U H2)).take (U H2)=BK H2:=by grind[CZ]
 have b:U H2<=(BK H2++(BK a).drop (U H2)).length:=by simp[BK]
 have g:=n.trunc b (by rw[e];exact lW i);have f:=m.trunc b (kw k _);rw[e]at g f;exact⟨h,g,f,λ_ _=>⟨rfl,rfl,rfl⟩,λB o=>q.own B (iP (n0:=U H2) k!)⟩
end Go.Ab
