/- Texts of wip, joined and shortened by wip/tools/pack.py; nothing is assumed. -/
import Derived.Test.YtkgodfhnofpglaaGreatK2
import Derived.KernelRfl
import Derived.ProofKit
noncomputable section
set_option linter.all false
set_option maxHeartbeats 1000000
open Option renaming some->δ,none->ε,bind->σ
open Bool renaming true->ζ,false->η
open List renaming length->θ,replicate->ς
open Go.IntKind renaming wrap->ι
open Sum renaming elim->ν
open Nat renaming beq->ξ
open Int renaming toNat->ο
open Decidable renaming decide->τ
namespace Go.Ab
inductive Tgt where
 |fn (F:FuncId)
 |yd (id:Nat)
abbrev S0:=∀{R:Type},Tgt->Ψ TV->Aw->(TV->Aw->Ω R)->Ω R
def ia(ops:Array Oper)(g:Ω (Nat×Bool))(env:Bi):Ω Bool:=
 match g with
 |none=>δ ζ
 |some (j,want)=>
  match (ops[j]?).bind (·.dst)with
  |some d=>match env.get d with|.c (.bl b)=>δ (b==want)|.tup []=>δ η|_=>ε
  |none=>ε
def MB:Ψ B0->Ψ Nat
 |[]=>[]
 |.own id _ _ _::r=>id::MB r
 |_::r=>MB r
def behind(H:Aw)(v:TV):Ψ Nat:=
 match v with
 |.c (.raw (.ptr id 0 0))=>match H[id]? with|some (.live η cs)=>MB cs|_=>[]
 |v=>MB v.refs
def I7:Ψ Nat->Bi->Aw->Bi×Aw
 |[],env,H=>(env,H)
 |id::r,env,H=>match frz id env H with|some (e,h)=>I7 r e h|none=>I7 r env H
def wV:Ψ RI->FuncId->Ω RI
 |[],_=>ε
 |c::r,F=>match ξ c.f F with|true=>δ c|false=>wV r F
def AHQ:Ψ Af->Ψ TV->Bool
 |[.fn (.func C) _ _],vs=>match vs.getLast? with|some (.c (.raw (.fn (.func D) _ _)))=>ξ C D|_=>ζ
 |_,_=>ζ
def AKB:RI->Ψ TV->Bool
 |.c2 _ _ _ _ post _,.c (.own _ _ _ _)::r=>AHQ post r
 |.c2 _ _ _ _ _ _,_=>η
 |_,_=>ζ
def pA:Ψ RI->FuncId->Ψ TV->Ω RI
 |[],_,_=>ε
 |c::r,F,vs=>match ξ c.f F&&AKB c vs with|true=>δ c|false=>pA r F vs
def aI(env:Bi)(op:Op):Ω (FuncId×Ψ TV):=
 match op with
 |.call c=>
  match c.callee with
  |.value f=>match Jz env f with|.c (.raw (.fn (.func F) first caps))=>δ (F,first.map tvA++c.args.toList.map (Jz env)++caps.map tvA)|_=>ε
  |_=>ε
 |_=>ε
def vW(env:Bi)(c:Call):Ω (Nat×Ψ TV):=
 match c.callee with
 |.value f=>match Jz env f with|.c (.raw (.yf id))=>δ (id,c.args.toList.map (Jz env))|_=>ε
 |_=>ε
def AIS:FuncId:=1152921504606846976
def AKf:RI:=.c0 AIS [] [] λ_=>ε
variable {N n G:Nat}{R K:Type}{b E:Ψ Nat}{c D:Aw}{d S:Code}{e L Y:Bi}{f:Ψ RI}{F:FuncId}{P:Program}{g:Ψ Oper}{i W:TypeId}{k:Bool}{l:Af}{m:Ω (Nat×Bool)}{p:Ψ TV}{s:Ψ Af}{t:TV}{u:S0}{v:Array Oper}{o:Oper}{x:Ty}{y:Env}{z:Operand}{B:Exit→Act→World→Prop}{C:Int}{I:B0}{J:Exit}{M:Ω Nat}{T:Value}{U:Prop}{V:Func}
def AF7:AKf.Ok P:=λ_ _ h=>by cases h
def AJj:FuncId:=1152921504606846977
def nI(cs:Ψ RI)(env:Bi)(H:Aw)(op:Op):Ψ Nat:=
 match op with
 |.call c=>
  match aI env (.call c)with
  |some (F,vs)=>match pA cs F vs with|some ct=>(AK0 ct vs).flatMap (behind H)|none=>[]
  |none=>[]
 |.buildSlice _ _ parts=>parts.toList.flatMap λp=>MB (Jz env p.2).refs
 |.store _ a v=>match Jz env a with|.aptr .. =>MB (Jz env v).refs|.bptr .. =>MB (Jz env v).refs|_=>[]
 |.slice _ x lo _ _=>match wV cs AIS with|some _=>[]|none=>match lo,wV cs AJj with|some _,δ _=>[]|_,_=>MB (Jz env x).refs
 |_=>[]
def Xv(H H':Aw):Aw:=H++H'.drop (θ H)
def isNil:Ψ R->Bool
 |[]=>ζ
 |_=>η
section
variable {R:Type}
def uK(cs:Ψ RI)(env:Bi)(H:Aw)(op:Op):Ψ Nat:=
 match op with
 |.store _ a _=>idT (Jz env a)
 |.mapUpdate .. =>List.range (θ H)
 |.call c=>
  match aI env (.call c)with
  |some (F,vs)=>match pA cs F vs with|some ct=>AGu ct vs|none=>(match isNil vs with|true=>[]|false=>List.range (θ H))
  |none=>
   match vW env c with
   |some _=>List.range (θ H)
   |none=>match c with|{callee:=.builtin .append,args:=⟨[s,_]⟩,.. }=>idT (Jz env s)|_=>[]
 |_=>[]
def rj(P:Program)(cs:Ψ RI)(call:S0)(env:Bi)(H:Aw)(op:Op)(k:TV->Aw->Ω R):Ω R:=
 match op with
 |.alloc t=>AAX P H t k
 |.box _ x=>AGf H (Jz env x) k
 |.store t a v=>storeT P H t (Jz env a) (Jz env v) k
 |.buildSlice t len parts=>aB P env H t len parts k
 |.makeSlice t x y=>im P H t (Jz env x) (Jz env y) k
 |.makeMap t ε=>uw P H t k
 |.mapUpdate t m x y=>oC P H t (Jz env m) (Jz env x) (Jz env y) k
 |.lookup t m x g=>xu P H t g (Jz env m) (Jz env x) k
 |.convert s d x=>
  match kd P d with
  |.bytes=>vU P H s d (Jz env x) k
  |_=>quT P env H (.convert s d x) λv=>k v H
 |.call c=>
  match aI env (.call c)with
  |some (F,vs)=>
   match Enters P F with
   |true=>
    match pA cs F vs with
    |some ct=>ABt ct vs H k
    |none=>match isNil vs with|true=>call (.fn F) [] (H.map D9.lock) λv H'=>k v (Xv H H')|false=>call (.fn F) vs H k
   |false=>ε
  |none=>
   match vW env c with
   |some (id,vs)=>call (.yd id) vs H k
   |none=>
    match c with
    |{callee:=.builtin .append,args:=⟨[s,x]⟩,argTypes:=⟨[t,t']⟩}=>match ξ t t' with|true=>tA P H t (Jz env s) (Jz env x) k|false=>ε
    |c=>quT P env H (.call c) λv=>k v H
 |op=>quT P env H op λv=>k v H
def force(f:Bool)(v:TV)(k:TV->Ω R):Ω R:=
 match f with
 |true=>match v with|.c (.bl b)=>cond b (k (.c (.bl ζ))) (k (.c (.bl η)))|v=>k v
 |false=>k v
def guards(ops:Array Oper):Ψ Nat:=ops.toList.filterMap λo=>o.guard.map (·.1)
def Ji(j:Nat):Ψ Nat->Bool
 |[]=>η
 |i::r=>match ξ i j with|true=>ζ|false=>Ji j r
def AJB{α:Type}(l:Ψ α)(i:Int)(z:α):Ω (Ψ α):=if 0<=i/\i<=(θ l:Int)then δ (l.take (ο i)++ς (θ l-ο i) z)else ε
def ABy(o1 o2:Oper):Ω (Nat×TypeId×Operand×Operand):=
 match o1.dst,o1.op,o1.guard,o2.dst,o2.op,o2.guard with
 |some d,.slice t x (δ lo) ε ε,ε,ε,.call {callee:=.builtin .clear,args:=⟨[.tmp d']⟩,argTypes:=⟨[t']⟩},ε=>match ξ d d'&&ξ t t' with|true=>δ (d,t,x,lo)|false=>ε
 |_,_,_,_,_,_=>ε
def AI1(P:Program)(H:Aw)(t:TypeId)(x lo:TV)(k:Aw->Ω R):Ω R:=
 match x,lo with
 |.c (.own id ver _ _),.c (.it _ i)=>
  match H[id]? with
  |some (.buf η t2 l n2 ver2)=>
   match ξ ver ver2,elT P t,eI P t with
   |true,δ te,δ (ε,e,_)=>
    if h:(Ty.list t2).beq (Ty.list te)=ζ then
     match vX P e with
     |some z=>match te.all z with|some zd=>(AJB (α:=te.D) (Ty.cast h l) i zd).bind λl'=>k (H.set id (.buf η te l' n2 ver2))|none=>ε
     |none=>ε
    else ε
   |_,_,_=>ε
  |_=>ε
 |_,_=>ε
def AGp(o:Oper):Ψ Oper->Ω (Nat×TypeId×Operand×Operand)
 |o2::_=>ABy o o2
 |[]=>ε
def zy(P:Program)(cs:Ψ RI)(call:S0)(ops:Array Oper)(gs:Ψ Nat)(sk:Bool):Ψ Oper->Nat->Bi->Aw->(Bi->Aw->Ω R)->Ω R
 |[],_,env,H,k=>k env H
 |o::r,j,env,H,k=>
  match sk with
  |true=>zy P cs call ops gs η r (j+1) env H k
  |false=>
   match AGp o r with
   |some (d,t,x,lo)=>AI1 P H t (Jz env x) (Jz env lo) λH'=>zy P cs call ops gs ζ r (j+1) (env.put d Vy) H' k
   |none=>
    match ia ops o.guard env with
    |some ζ=>
     match I7 (nI cs env H o.op) env H with
     |(env1,H1)=>rj P cs call env1 H1 o.op λv H'=>force (Ji j gs) v λv'=>zy P cs call ops gs η r (j+1) (env1.putO o.dst v') H' k
    |some η=>zy P cs call ops gs η r (j+1) (env.putO o.dst (.tup [])) H k
    |none=>ε
end
def pP(H:Aw)(v:TV):Prop:=∀id ver t n,B0.own id ver t n∈v.refs->∀t' l n' ver',H[id]? ≠δ (.buf η t' l n' ver')
structure Ea(A:List Nat)(env:Bi)(H:Aw)(env':Bi)(H':Aw):Prop where
 step:CN H H'
 same:∀t,t∉A->pP H (env.get t)->env'.get t=env.get t
def pP.step(h:CN c D)(d:t.ok c)(k:pP c t):pP D t:=by intro id a b n H;have hr:=d (.own id a b n) H;exact h.nb id hr.1 (k id a b n H)
theorem Ea.refl(A:Ψ Nat)(env:Bi)(H:Aw):Ea A env H env H:=⟨CN.refl H,λ_ _ _=>rfl⟩
def Ea.trans{A B}{d g i:Bi}{c e f:Aw}(ok:∀p∈d,p.2.ok c)(a:Ea A d c g e)(b:Ea B g e i f):Ea (A++B) d c i f:=by refine⟨a.step.trans b.step,λt l k=>?_⟩;have j:=a.same t (λh=>l (F4 _ h)) k;rw[b.same t (λh=>l (Kq _ h)) (by rw[j];exact k.step a.step (kw ok t)),j]
def Ea.mono(a:Ea b L D e c)(h:∀t,t∈b->t∈E):Ea E L D e c:=⟨a.step,λt g f=>a.same t (λq=>g (h t q)) f⟩
def tC{t u:Nat}(h:u≠t):∀env:Bi,(Bi.del t env).get u=env.get u
 |[]=>rfl
 |(k,v)::r=>by simp only[Bi.del];by_cases a:k=t;subst a;rw[H6];simp only[Bi.get,beq_false (Lk h)];exact tC h r;rw[beq_false a];simp only[Bi.get];rw[tC h r]
def pe(h:n≠N):(e.put N t).get n=e.get n:=by simp_all[Bi.put,Bi.get,beq_false,Lk,tC]
theorem xv{p:Nat×TV}{t:Nat}:∀{env},p∈Bi.del t env->p∈env
 |(k,v)::r,h=>by simp only[Bi.del]at h;split at h;exact CU _ (xv h);rcases As.1 h with rfl|h;simp;exact CU _ (xv h)
theorem cJ{d:Ω Nat}(h:∀p∈e,p.2.ok c)(b:t.ok c):∀p∈e.putO d t,p.2.ok c:=by
 cases d with
 |none=>exact h
 |some H=>intro p a;rcases As.1 a with rfl|a;exact b;grind[xv]
def pH{l:Ψ x.D}(g:c[N]?=δ (.buf η x l n G))(j:∀a f e d,I=.own a f e d->∀i l2 h H,c[a]? ≠δ (.buf η i l2 h H)):OR N G x l I=I:=by
 cases I with
 |own a f e d=>simp only[OR];split<;>simp_all
 |_=>rfl
mutual
theorem uY{H:Aw}{id n k:Nat}{t:Ty}{l:Ψ t.D}(d:H[id]?=δ (.buf η t l n k)):∀{v},pP H v->pI id k t l v=v
 |.c z,h=>by simp only[pI];rw[pH d λa j i f e=>h a j i f (by simp[TV.refs,e])]
 |.g b,h=>by
  simp only[pI,TV.g.injEq];have:∀b:Ψ B0,(∀a j i f,B0.own a j i f∈b->∀s l2 q m,H[a]? ≠δ (.buf η s l2 q m))->b.map (OR id k t l)=b:=by
   intro b;induction b with
   |nil=>intro _;rfl
   |cons z r p=>intro h;rw[Bs,p λa j i f o=>h a j i f (by simp[o]),pH d λa j i f e=>h a j i f (by simp[e])]
  exact this b h
 |.tup vs,h=>by simp only[pI];rw[sB d (vs:=vs) h]
 |.aptr ..,_=>rfl
 |.bptr ..,_=>rfl
 |.vw ..,_=>rfl
 |.vptr ..,_=>rfl
theorem sB{H:Aw}{id n c:Nat}{t:Ty}{l:Ψ t.D}(b:H[id]?=δ (.buf η t l n c)):∀{vs},pP H (.tup vs)->gz id c t l vs=vs
 |[],_=>rfl
 |v::r,h=>by simp only[gz];rw[uY b (v:=v) λa g f e d=>h a g f e (by simp only[TV.refs,TV.refsL,Ah];exact .inl d),sB b (vs:=r) λa g f e d=>h a g f e (by simp only[TV.refs,TV.refsL,Ah]at d⊢;exact .inr d)]
end
def ACA{f:TV->TV}(a:f Vy=Vy)(t:Nat):∀env:Bi,Bi.get (env.map λp=>(p.1,f p.2)) t=f (env.get t)
 |[]=>a.symm
 |(k,v)::r=>by simp only[Bs,Bi.get];split;rfl;exact ACA a t r
def AEs(h:frz N e D=δ (L,c))(t:Nat)(d:pP D (e.get t)):L.get t=e.get t:=by unfold frz at h;split at h;rename_i H l n b a;obtain⟨rfl,rfl⟩:=h;rw[ACA (f:=pI N b H l) rfl];exact uY a d;cases h
def R8:∀a{env}{H},Ob env H→Ob (I7 a env H).1 (I7 a env H).2∧Ea [] env H (I7 a env H).1 (I7 a env H).2∧
  ∀N,Fp N (BH H).length (B6 env) (BH H) (B6 (I7 a env H).1) (BH (I7 a env H).2)
 |[],env,H,ok=>⟨ok,Ea.refl _ _ _,λN=>Fp.refl N _ _⟩
 |id::r,env,H,ok=>by simp only[I7];split;rename_i e h b;obtain⟨f,c,j⟩:=AI8 ok b;obtain⟨g,i,k⟩:=R8 r f;refine⟨g,(Ea.trans (A:=[]) (B:=[]) ok.env ⟨c,λt _ d=>AEs b t d⟩ i),λN=>(j N).trans ((k N).of_le (by rw[Cf,Cf];exact c.len))⟩;exact R8 r ok
section
variable {P:Program}{N:Nat}{R:Type}
def yi(P:Program)(args:Ψ Af)(H:Ay)(v:Af)(H':Ay):Tgt->Prop
 |.fn F=>E8 P F args H (DN v H')
 |.yd id=>∀N(o:Oper)c f env,o.op=.call c->c.callee=.value f->BR env f=.yf id->c.args.toList.map (BR env)=args->Jy P N o env H (DN v H')
def Wu(P:Program)(call:S0):Prop:=∀{R:Type} tg vs H (k:TV->Aw->Ω R) r,(∀v∈vs,v.ok H)->(∀e∈H,e.ok H)->call tg vs H k=δ r->
 ∃v H',yi P (vs.map TV.enc) (BH H) v.enc (BH H') tg/\k v H'=δ r/\v.ok H'/\(∀e∈H',e.ok H')/\CN H H'
theorem kz(h:ia v m e=δ ζ){B:Prop}(a:U):Yd v m (B6 e) U B:=by unfold ia at h;grind[Yd,XM,VM,TV.enc,B0.one]
theorem pN(h:ia v m e=δ η){B:Prop}(b:B):Yd v m (B6 e) U B:=by unfold ia at h;unfold Yd;split at h;cases h;rename_i j c;unfold XM;split at h;rename_i d f;simp only[f,VM];split at h;grind[TV.enc,B0.one];rename_i a;simp[a];exact b;cases h;cases h
theorem xm(a:∀d b,e.get d=.c (.bl b)->L.get d=.c (.bl b))(h:ia v m e=δ ζ):ia v m L=δ ζ:=by cases m<;>grind[ia]
theorem uR:∀{a}{F}{c:RI},wV a F=δ c->c∈a/\c.f=F
 |d::r,F,c,h=>by simp only[wV]at h;split at h;simp_all;obtain⟨b,e⟩:=uR h;grind
theorem uS:∀{a}{F}{b}{c:RI},pA a F b=δ c->c∈a/\c.f=F
 |d::r,F,b,c,h=>by simp only[pA]at h;split at h;simp_all;obtain⟨e,g⟩:=uS h;grind
theorem oo{b}(h:aI e b=δ (F,p)):Go.Ab.callT (BR (B6 e)) b=δ (.inl (F,p.map TV.enc))/\∀H,(∀n∈e,n.2.ok H)->∀v∈p,v.ok H:=by
 unfold aI at h;split at h;rename_i c;split at h;rename_i f d;split at h;rename_i G first a g
 simp at h;obtain⟨rfl,rfl⟩:=h;have j:BR (B6 e) f=.fn (.func G) first a:=by rw[MH,g];rfl
 have k:∀l:Ψ Af,(l.map tvA).map TV.enc=l:=by
  intro l;conv=>rhs;rw[<-fZ l]
  grind[List.map_congr_left,jG]
 refine⟨?_,λH m v i=>?_⟩;simp_all[Go.Ab.callT,MH];simp at i;grind[lP,gu];cases h;cases h;cases h
theorem AAH{c}(h:vW e c=δ (N,p)):(∃f,c.callee=.value f/\BR (B6 e) f=.yf N/\c.args.toList.map (BR (B6 e))=p.map TV.enc)/\∀H,(∀l∈e,l.2.ok H)->∀v∈p,v.ok H:=by unfold vW at h;split at h;rename_i f a;split at h;rename_i i g;injection h with h;injection h with d b;subst d b;refine⟨⟨f,a,by rw[MH,g];rfl,?_⟩,λH j v k=>?_⟩;grind[List.map_congr_left,MH];grind[gu];cases h;cases h
def AJX{k:TV->Aw->Ω R}{r:R}(ok:Ob e c)(h:quT P e c o.op (k · c)=δ r):∀F,nM P N o e c F k r:=by intro F;obtain⟨v,a,b,H⟩:=w7 ok h;exact⟨v,c,D5 a ⟨rfl,rfl⟩,b,H,ok.heap,CN.refl c,Frame.refl F c⟩
theorem vj(H:Aw):BH (H.map D9.lock)=BH H:=by grind[BH,List.map_congr_left,pS]
theorem zc(h: ∀e∈c,e.ok c): ∀e∈c.map D9.lock,e.ok (c.map D9.lock):=by
 have f: ∀id a t n,Sp c id a t n->Sp (c.map D9.lock) id a t n:=λid a t n q=>by
  refine⟨by simpa using q.1,λro y l w k H=>?_⟩;rw[CO]at H;cases j:c[id]? with
  |none=>grind
  |some e=>
   rw[j]at H;simp at H;cases e<;>simp only[D9.lock]at H<;>first|(cases H;done)|skip
   injection H with _ m v o p;subst m o p;exact q.2 _ _ _ _ _ j
 have d: ∀x:B0,x.ok c->x.ok (c.map D9.lock):=λx i=>by
  cases x with
  |own id a t n=>exact f _ _ _ _ i
  |_=>trivial
 intro e H;obtain⟨u,r,rfl⟩:=BY.1 H;have g:=h u r;cases u with
 |dead=>trivial
 |live b s=>exact λx i=>d x (g x i)
 |buf=>exact g
 |lp=>exact g
 |mp=>exact g
theorem AEQ{H a:Aw}(L: ∀e∈H,e.ok H)(st:CN (H.map D9.lock) a)(F: ∀e∈a,e.ok a):
  (∀v:TV,v.ok a->v.ok (Xv H a))/\(∀e∈Xv H a,e.ok (Xv H a))/\CN H (Xv H a)/\ ∀x:Cx,To x x (BH a) (BH (Xv H a)):=by
 have K:H.length<=a.length:=by simpa using st.len
 have c:(Xv H a).length=a.length:=by grind[Xv,List.length_append,List.length_drop]
 have o: ∀j,j<H.length->(Xv H a)[j]? =H[j]? :=λj p=>Cb p;have I: ∀j,H.length<=j->(Xv H a)[j]? =a[j]? :=λj p=>by grind[Xv]
 have keep: ∀(j:Nat) (e:D9),H[j]? =some e->e≠ .dead->a[j]? =some e.lock:=λj e p G=>by refine st.ro j e.lock (by rw[CO,p];rfl) ?_;cases e<;>first|rfl|exact(G rfl).elim
 have A: ∀id f t n,Sp a id f t n->Sp (Xv H a) id f t n:=λid f t n q=>by
  refine⟨by rw[c];exact q.1,λro P l O D d=>?_⟩;rcases A1 id H.length with h|h
  ·rw[o id h]at d;exact q.2 _ _ _ _ _ (keep id _ d (by simp))
  ·rw[I id h]at d;exact q.2 _ _ _ _ _ d
 have k: ∀x:B0,x.ok a->x.ok (Xv H a):=λx C=>by
  cases x with
  |own id f t n=>exact A _ _ _ _ C
  |_=>trivial
 have B:CN H (Xv H a):=by
  refine⟨by rw[c];exact K,λid f t n q=>⟨by rw[c];exact DX q.1 K,λro P l O D d=>?_⟩,λid e d _=>?_,λid w h=>by rw[o id w];exact h,λid w _ _ _ _ _ _ _ _ h=>by rw[o id w]at h;exact⟨_,_,h⟩⟩
  ·rw[o id q.1]at d;exact q.2 _ _ _ _ _ d
  ·grind
 refine⟨λv N x C=>k x (N x C),λe d=>?_,B,λx=>⟨by rw[Cf,Cf,c],λj Q p=>?_⟩⟩
 ·rcases Ah.1 d with d|d
  ·exact B.ent (L e d)
  ·have E:=F e (Nn d);cases e with
   |dead=>trivial
   |live b s=>exact λx C=>k x (E x C)
   |buf=>exact E
   |lp=>exact E
   |mp=>exact E
 ·rw[EV]at p;cases J:(Xv H a)[j]? with
  |none=>grind
  |some y=>
   rw[J]at p;simp at p;subst p;have same:(BH a)[j]? =some y.enc->y.enc= .dead\/(∃g s u,(BH a)[j]? =some (.live g s)/\y.enc= .live g u/\u.length=s.length/\ ∀(i:Nat) (z:Af),u[i]? =some z-> ∃v,s[i]? =some v/\Conv x x v z)\/((BH a)[j]? =some y.enc/\ ∀g s,y.enc≠ .live g s):=λh=>by
    cases y with
    |dead=>exact .inl rfl
    |live b s=>exact .inr (.inl ⟨_,_,_,h,rfl,rfl,λi z h=>⟨z,h,λ_ r=>r⟩⟩)
    |buf b t l m f=>exact .inr (.inl ⟨_,_,_,h,rfl,rfl,λi z h=>⟨z,h,λ_ r=>r⟩⟩)
    |lp=>exact .inr (.inr ⟨h,λ_ _ h=>by cases h⟩)
    |mp=>exact .inr (.inr ⟨h,λ_ _ h=>by cases h⟩)
   rcases A1 j H.length with h|h
   ·rw[o j h]at J;by_cases M:y= .dead
    ·subst M;exact .inl rfl
    ·grind[EV,pS]
   ·grind[EV]
theorem rk{B:Ψ RI}(D:∀c∈B,c.Ok P){i}(l:Wu P i){o:Oper}{env}{H}{k:TV->Aw->Ω R}{r:R}(ok:Ob env H)(h:rj P B i env H o.op k=δ r):nM P N o env H (uK B env H o.op) k r:=by
 have z:∀A,o.op=A->quT P env H A (k · H)=δ r->∀F,nM P N o env H F k r:=λA e h=>AJX ok q!;generalize a:o.op=A at h;unfold rj at h;split at h;exact xQ ok a h;exact AAe ok a h;exact yS ok a h;exact oS ok a h;exact qq ok a h;grind[ux];exact qt ok a h;grind[vt];split at h;exact vV ok a h;grind;rename_i c;split at h;rename_i F y t;obtain⟨S,J⟩:=oo t;split at h;rename_i C;split at h;rename_i T u;obtain⟨U,V⟩:=uS u;obtain⟨v,d,m,n,p,q,s,Y⟩:=yw (D T U) (J H ok.env) ok.heap h;rw[V]at m;exact⟨v,d,lH q! C m,n,p,q,s,by simp only[uK,t,u];exact Y⟩;rename_i u;split at h;rename_i b;have G:y=[]:=by cases y<;>first|rfl|cases b
 subst G;obtain⟨v,d,m,n,p,q,s⟩:=l (.fn F) [] (H.map D9.lock) _ r (λv W=>by cases W) (zc ok.heap) h;obtain⟨L,M,O,Q⟩:=AEQ ok.heap s q;have I:E8 P F [] (BH H) (DN v.enc (BH d)):=by grind[yi,vj]
 refine⟨v,Xv H d,Jy.after (lH q! C I) λX g w _=>?_,n,L v p,M,O,?_⟩;have hr:=(Q (cx X g (BH d) w)).onto;exact⟨hr,λc r=>r.later hr.later⟩;simp only[uK,t,u];exact λj x _=>Cb x;rename_i b;obtain⟨v,d,m,n,p,q,s⟩:=l (.fn F) y H k r (J H ok.env) ok.heap h;have E:=b;exact⟨v,d,lH (by rw[a];exact S) C m,n,p,q,s,by simp only[uK,t,u,E];exact λj x hn=>(hn (Ie.2 x)).elim⟩;cases h;rename_i t;split at h;rename_i id y K;obtain⟨⟨f,Z,y2,y3⟩,y4⟩:=AAH K;obtain⟨v,d,m,n,p,q,s⟩:=l (.yd id) y H k r (y4 H ok.env) ok.heap h;exact⟨v,d,m N o c f (B6 env) a Z y2 y3,n,p,q,s,by simp only[uK,t,K];exact λj x hn=>(hn (Ie.2 x)).elim⟩;grind[vc,Nat.eq_of_beq_eq_true,uK];grind
theorem nu{f:TV->Ω R}{r:R}(h:force k t f=δ r):f t=δ r:=by unfold force at h;grind
def o7(ops:Ψ Oper):Ψ Nat:=ops.filterMap (·.dst)
def uE{b}{d:Nat}{c:Operand}(h:ABy o b=δ (d,i,z,c)):o.dst=δ d/\o.op=.slice i z (δ c) ε ε/\o.guard=ε/\b.dst=ε/\b.op=.call {callee:=.builtin .clear,args:= #[.tmp d],argTypes:= #[i]}/\b.guard=ε:=by unfold ABy at h;split at h;rename_i e f g a j k;split at h<;>simp_all;cases h
def wW{a:Ty}{z:Ψ Af}{b:a.D}(h:D0 z (a.enc b).cells):∀n:Nat,D0 (ς n z).flatten (a.E.cl (ς n b))
 |0=>D0.refl _
 |n+1=>by exact D0.append h (wW h n)
theorem AAi{o2}{d:Nat}{lo:Operand}{k:Aw→Ω R}{r:R}(ok:Ob e c)(hc:ABy o o2=δ (d,i,z,lo))(h:AI1 P c i (Jz e z) (Jz e lo) k=δ r):
  ∃v G,Jy P N o (B6 e) (BH c) (DN v (BH c))/\Jy P N o2 ((B6 e).put d v) (BH c) (DN (.tup []) (BH G))/\k G=δ r/\(∀E∈G,E.ok G)/\CN c G:=by
 obtain⟨_,c2,_,c4,U,_⟩:=uE hc;unfold AI1 at h;split at h;rename_i id D t0 n0 kk H hx Z;split at h;rename_i a l b ap y;split at h;rename_i te E ax hb al F;split at h;rename_i S;split at h;rename_i x hz;split at h;rename_i zd ao;obtain⟨w,t,h⟩:=Dh.1 h;have T:=DQ hb;subst T;have u:=Ty.beq_eq _ _ S;injection u with u;subst u;have B:(Ty.cast S l:Ψ a.D)=l:=rfl;rw[B]at t;have hr:Sp c id D t0 n0:=by have:=gu ok.env z;rw[hx]at this;exact this (.own id D t0 n0) (by simp[TV.refs])
 obtain⟨_,q⟩:=hr.2 _ _ _ _ _ y;obtain⟨rfl,rfl⟩:=q rfl;have hn:b=θ l:=ok.heap _ (BP y);obtain⟨e',I,M⟩:=kS al;rw[I]at F;injection F with F;injection F with _ F;injection F with X Y;subst X Y;obtain⟨z1,z2⟩:=Zc hz;have p:=GL ao;have C:(lvs x).length=a.sz:=by rw[<-p.1,a.enc_len]
 unfold AJB at t;split at t;rename_i hi;injection t with t;have O:CN c (c.set id (.buf η a w b D)):=CN.set y rfl λ_ _ _ _ _ E=>q!
 have J:D9.ok (c.set id (.buf η a w b D)) (.buf η a w b D):=by show b=θ w;grind
 have m:(BH c)[id]?=δ (.live b (a.E.cl l)):=by rw[EV,y];rfl
 have A:id<(BH c).length:=q!
 have ex:BR (B6 e) z=.sl id b a.sz 0 b:=by rw[MH,hx];rfl
 have el:BR (B6 e) lo=.int kk H:=by rw[MH,Z];rfl
 have W:UD (BH c) id b=ζ:=by simp[UD,m]
 have s:∀v,BR ((B6 e).put d v) (.tmp d)=v:=λv=>by simp[BR,Env.put,Env.get]
 have j:=a.E.clen l;have Q:a.E.sz=a.sz:=rfl;rw[Q]at j;have ad:Cp P (B6 e) (BH c) o.op=δ (if H.toNat=0 then .sl id b a.sz 0 b else if H.toNat=b then .vs a.sz []else .sl id b a.sz (0+H.toNat*a.sz) (b-H.toNat)):=by
  rw[c2];have b1:XZ 0 (δ (Af.int kk H))=δ H.toNat:=by grind[XZ,u6]
  have b2:∀n,XZ n ε=δ n:=λ_=>rfl;simp only[Cp,ex,el,Bw,nW,jC,b1,b2,I];rw[C! ⟨P!,a.sz_pos,o!,Ao _,Ao _,W,k!⟩];grind
 have g:∀V,a.E.cl l=V->(BH c).set id (.live b V)=BH c:=λV ar=>by apply Jc;grind
 have f:D0 (XS (a.E.cl l) (H.toNat*a.sz) (ς (b-H.toNat) (lvs x)).flatten) (a.E.cl w):=by
  have e1:a.E.cl w=a.E.cl (l.take H.toNat)++a.E.cl (ς (b-H.toNat) zd):=by grind[S1.cl]
  have e2:(a.E.cl l).take (H.toNat*a.sz)=a.E.cl (l.take H.toNat):=by
   have e3:a.E.cl l=a.E.cl (l.take H.toNat)++a.E.cl (l.drop H.toNat):=by grind[List.take_append_drop,S1.cl]
   have e4:(a.E.cl (l.take H.toNat)).length=H.toNat*a.sz:=by rw[a.E.clen,BU,Q];grind
   grind
  have e5:(a.E.cl l).drop (H.toNat*a.sz+(ς (b-H.toNat) (lvs x)).flatten.length)=[]:=by apply lj;simp[C];rw[<-Ec];grind
  unfold XS;rw[e1,e2,e5,DR];exact(D0.refl _).append (wW p _)
 have L:Jy P N o2 ((B6 e).put d (if H.toNat=0 then .sl id b a.sz 0 b else if H.toNat=b then .vs a.sz []else .sl id b a.sz (0+H.toNat*a.sz) (b-H.toNat))) (BH c) (DN (.tup []) (BH (c.set id (.buf η a w b D)))):=by
  have e6:BH (c.set id (.buf η a w b D))=(BH c).set id (.live b (a.E.cl w)):=by rw[Lo];rfl
  rw[e6];by_cases h0:H.toNat=0;rw[C! h0];refine Jy.set_less A ?_ f;have:=Jy.clear (N:=N) (K:=DN (.tup []) _) U c4 I M z1 C (s (.sl id b a.sz 0 b)) m (by rw[j,hn];omega) ⟨rfl,rfl⟩;grind;rw[D! h0];by_cases h1:H.toNat=b;rw[C! h1];have e7:w=l:=t!
  rw[e7,g _ rfl];exact si U (RV I).1 (s _) ⟨rfl,rfl⟩;rw[D! h1];refine Jy.set_less A ?_ f;have:=Jy.clear (N:=N) (K:=DN (.tup []) _) U c4 I M z1 C (s (.sl id b a.sz (0+H.toNat*a.sz) (b-H.toNat))) m (by rw[j,<-hn,Dg,<-Ec];apply Lj;omega) ⟨rfl,rfl⟩;grind
 exact⟨_,_,D5 ad ⟨rfl,rfl⟩,L,h,SD O ok.heap J,O⟩;grind;cases h;cases h;cases h;cases h;cases h;cases h
def AF9:Fp N (BH c).length ((B6 e).put n l) (BH c) (B6 (e.put n Vy)) (BH c):=by
 refine Wy rfl λX g w s=>⟨To.refl _ _,λt f m=>?_⟩
 rw[kU]at m;rcases As.1 m with d|m;injection d with a b;subst a b;exact⟨l,Gj,λH _=>.any H⟩;exact⟨f,CU _ m,λ_ r=>r⟩
theorem iy{J:Ψ RI}(m:∀c∈J,c.Ok P){p}(l:Wu P p){D:Array Oper}{gs:Ψ Nat}:∀os j env H k(r:R),Ob env H→zy P J p D gs η os j env H k=δ r→
  ∃f i,XY P N D os (B6 env) (BH H) (λe h=>e=B6 f/\h=BH i)/\k f i=δ r/\Ob f i/\Ea (o7 os) env H f i
 |[],j,env,H,k,r,ok,h=>⟨env,H,⟨_,_,Fp.refl _ _ _,rfl,rfl⟩,h,ok,Ea.refl _ _ _⟩
 |o::os,j,env,H,k,r,ok,h=>by
  simp only[zy]at h;have B:∀{e}{h}{v},Ea (o7 [o]) e h (e.putO o.dst v) h:=by
   intro e h v;refine⟨CN.refl h,λt U _=>?_⟩;cases hd:o.dst with
   |none=>rfl
   |some d=>refine pe λe=>U ?_;simp[o7,hd,e]
  have z:∀t,t∈o7 [o]++o7 os->t∈o7 (o::os):=by grind[o7]
  split at h;rename_i d t x lo y;cases os with
  |nil=>cases y
  |cons o2 E=>
   have hc:=y;obtain⟨c1,c2,c3,c4,c5,c6⟩:=uE hc;obtain⟨v,C,M,w2,T,W,st⟩:=AAi (N:=N) ok hc h;have g:Ob (env.put d Vy) C:=⟨cJ (d:=δ d) (st.env ok.env) jF,W⟩
   obtain⟨f,i,L,Y,F,G⟩:=iy m l E (j+1+1) _ C k r g T;refine⟨f,i,⟨B6 env,BH H,Fp.refl N _ _,?_⟩,Y,F,?_⟩;rw[c3];apply Jy.mono M;rintro u _ ⟨rfl,rfl⟩;rw[c1];refine⟨(B6 env).put d u,BH H,Fp.refl N _ _,?_⟩;rw[c6];apply Jy.mono w2;rintro _ _ ⟨rfl,rfl⟩;rw[c4];exact XY.weak AF9 L;have Z:Ea (o7 [o]) env H (env.put d Vy) C:=by exact⟨st,λu hu _=>pe λe=>hu (by simp[o7,c1,e])⟩
   refine(Ea.trans ok.env Z G).mono λu hu=>?_;grind[o7,List.mem_cons_of_mem]
  split at h;rename_i S;obtain⟨K,t1,M⟩:=R8 (nI J env H o.op) ok;generalize I7 (nI J env H o.op) env H=q at h K t1 M;obtain⟨env1,C⟩:=q;obtain⟨v,I,e1,e2,e3,e4,e5,_⟩:=rk (N:=N) m l K h;have O:=nu e2;have g:Ob (env1.putO o.dst v) I:=⟨cJ (e5.env K.env) e3,e4⟩
  obtain⟨f,i,L,E,F,G⟩:=iy m l os (j+1) _ I k r g O;refine⟨f,i,?_,E,F,?_⟩;refine⟨B6 env1,BH C,M N,kz ?_ ?_⟩;exact xm (λd b hb=>by rw[t1.same d (λh=>by cases h) (by rw[hb];intro id al t n hm;simp[TV.refs]at hm),hb]) S;exact λrr X h0 a w s Q=>Ws (e1 rr X h0 a w s Q) (by rintro a' w' ⟨c,u,h',ad,ha,⟨rfl,rfl⟩,V,hs,hx⟩;exact⟨c,_,h',_,ha,by show XY P N D os ((B6 env1).putO o.dst v.enc) (BH I) _;rw[<-YW];exact L,V,hs,hx⟩);have Z:Ea (o7 [o]) env1 C (env1.putO o.dst v) I:=by exact⟨e5,λt U T=>(B (h:=C)).same t U T⟩
  have:=(Ea.trans (A:=[]) ok.env t1 (Ea.trans K.env Z G))
  exact this.mono z;rename_i S;have g:Ob (env.putO o.dst (.tup [])) H:=⟨cJ ok.env (SC λv V=>by cases V),ok.heap⟩
  obtain⟨f,i,L,E,F,G⟩:=iy m l os (j+1) _ H k r g h;refine⟨f,i,⟨B6 env,BH H,Fp.refl N _ _,pN S ?_⟩,E,F,(Ea.trans ok.env B G).mono z⟩;have:(B6 env).putO o.dst (.tup [])=B6 (env.putO o.dst (.tup [])):=by rw[YW];rfl
  grind;cases h
end
def K1(S:Ψ Nat):Nat->Aw->Aw
 |_,[]=>[]
 |j,e::r=>(match Ji j S with|true=>e|false=>e.lock)::K1 S (j+1) r
theorem Jg{S:Ψ Nat}:∀H(i j:Nat),(K1 S i H)[j]?=(H[j]?).map λe=>match Ji (i+j) S with|true=>e|false=>e.lock
 |[],i,j=>by simp[K1]
 |e::r,i,0=>by simp[K1]
 |e::r,i,j+1=>by simp only[K1,lu];rw[Jg r (i+1) j];grind
def I4{S:Ψ Nat}:∀H i,(K1 S i H).length=θ H
 |[],_=>rfl
 |e::r,i=>by simp[K1,I4 r]
theorem qm{S}:∀H i,BH (K1 S i H)=BH H
 |[],_=>rfl
 |e::r,i=>by have:=qm (S:=S) r (i+1);grind[BH,K1,pS]
theorem oB(h:Sp c N n x G):Sp (K1 b 0 c) N n x G:=by
 refine⟨by rw[I4];exact h.1,λro r l p f a=>?_⟩;rw[Jg]at a;cases d:c[N]? with
 |none=>grind
 |some e=>
  rw[d]at a;simp at a;split at a;subst a;exact h.2 _ _ _ _ _ d;cases e with
  |dead=>cases a
  |live S k=>cases a
  |lp=>cases a
  |mp=>cases a
  |buf S s o q u=>injection a with _ g m i j;subst g i j;exact h.2 _ _ _ _ _ d
theorem qo{S:List Nat}{H:Aw}{x:B0}(h:x.ok H):x.ok (K1 S 0 H):=by
 cases x with
 |own id a t n=>exact oB h
 |_=>trivial
theorem lE{S:List Nat}{env:Bi}{H:Aw}(ok:Ob env H):Ob env (K1 S 0 H):=by
 refine⟨λp o x g=>qo (ok.env p o x g),λe m=>?_⟩;obtain⟨j,a⟩:=Eo.1 m;rw[Jg]at a;cases i:H[j]? with
 |none=>grind
 |some c=>
  rw[i]at a;simp at a;have d:=ok.heap c (BP i);have f:c.ok (K1 S 0 H):=by
   cases c with
   |dead=>trivial
   |live b k=>exact λx g=>qo (d x g)
   |buf b t l n h=>exact d
   |lp=>exact d
   |mp=>exact d
  split at a
  ·grind
  ·subst a;cases c with
   |dead=>trivial
   |live b k=>exact f
   |buf b t l n h=>exact f
   |lp=>exact f
   |mp=>exact f
def wl{j:Nat}:∀{l},Ji j l=ζ->j∈l
 |i::r,h=>by simp only[Ji]at h;split at h;rename_i a;exact As.2 (.inl (DQ a).symm);exact CU _ (wl h)
def SJ(S:Ψ Nat):Nat->Aw->Aw->Aw
 |j,e::r,e'::r'=>(match Ji j S with|true=>e'|false=>e)::SJ S (j+1) r r'
 |_,_,H'=>H'
def wG{S}:∀{H a:Aw}(i j:Nat),θ H<=θ a->(SJ S i H a)[j]?=match τ (j<θ H)&& !Ji (i+j) S with|true=>H[j]? |false=>a[j]?
 |[],a,i,j,_=>by simp[SJ]
 |e::r,[],i,j,h=>by simp at h
 |e::r,e'::r',i,0,h=>by simp only[SJ,No,cY,BW,Nat.zero_lt_succ,decide_true,pu];cases Ji i S<;>rfl
 |e::r,e'::r',i,j+1,h=>by
  simp only[SJ,lu];rw[wG (i+1) j (by simpa using h),show i+1+j=i+(j+1) by omega];have:τ (j+1<(e::r).length)=τ (j<θ r):=k!
  rw[this]
def wH{S:Ψ Nat}:∀{H a:Aw}i,θ H<=θ a->(SJ S i H a).length=θ a
 |[],a,i,_=>by simp[SJ]
 |e::r,[],i,h=>by simp at h
 |e::r,e'::r',i,h=>by simp[SJ,wH (i+1) (show θ r<=θ r' by simpa using h)]
theorem AER{S:List Nat}{H d:Aw}(V: ∀e∈H,e.ok H)(st:CN (K1 S 0 H) d)(Q: ∀e∈d,e.ok d):
  (∀v:TV,v.ok d->v.ok (SJ S 0 H d))/\(∀e∈SJ S 0 H d,e.ok (SJ S 0 H d))/\CN H (SJ S 0 H d)/\Frame S H (SJ S 0 H d)/\ ∀x:Cx,To x x (BH d) (BH (SJ S 0 H d)):=by
 have P:H.length<=d.length:=by simpa[I4]using st.len
 have z:=wH (S:=S) 0 P;have C:=λj=>wG (S:=S) 0 j P;have o: ∀j,j<H.length->Ji j S=false->(SJ S 0 H d)[j]? =H[j]? :=λj k c=>by rw[C,Dg,c,decide_eq_true k];rfl
 have u: ∀j,(H.length<=j\/Ji j S=true)->(SJ S 0 H d)[j]? =d[j]? :=λj k=>by
  rw[C,Dg];rcases k with h|h
  ·rw[decide_eq_false (by omega)];rfl
  ·rw[h,CE,Bool.and_false]
 have T: ∀j,Ji j S=true->(K1 S 0 H)[j]? =H[j]? :=λj k=>by rw[Jg,Dg,k];cases H[j]? <;>rfl
 have keep: ∀(j:Nat) (e:D9),Ji j S=false->H[j]? =some e->e≠ .dead->d[j]? =some e.lock:=λj e c k R=>by refine st.ro j e.lock (by rw[Jg,k,Dg,c];rfl) ?_;cases e<;>first|rfl|exact(R rfl).elim
 have f: ∀j,(j<H.length/\Ji j S=false)\/(H.length<=j\/Ji j S=true):=λj=>by
  rcases A1 j H.length with h|h
  ·cases c:Ji j S with
   |false=>exact .inl ⟨h,rfl⟩
   |true=>exact .inr (.inr rfl)
  ·exact .inr (.inl h)
 have K: ∀id w t n,Sp d id w t n->Sp (SJ S 0 H d) id w t n:=λid w t n q=>by
  refine⟨by rw[z];exact q.1,λro Z l Y N p=>?_⟩;rcases f id with⟨h,c⟩|h
  ·rw[o id h c]at p;exact q.2 _ _ _ _ _ (keep id _ c p (by simp))
  ·rw[u id h]at p;exact q.2 _ _ _ _ _ p
 have A: ∀x:B0,x.ok d->x.ok (SJ S 0 H d):=λx M=>by
  cases x with
  |own id w t n=>exact K _ _ _ _ M
  |_=>trivial
 have L:CN H (SJ S 0 H d):=by
  refine⟨by rw[z];exact P,λid w t n q=>⟨by rw[z];exact DX q.1 P,λro Z l Y N p=>?_⟩,λid e p hr=>?_,λid G h=>?_,λid G ro F n env ps a b s h=>?_⟩
  ·rcases f id with⟨h,c⟩|h
   ·rw[o id h c]at p;exact q.2 _ _ _ _ _ p
   ·rw[u id h]at p;exact(st.refs id w t n (oB q)).2 _ _ _ _ _ p
  ·have W:=(Gb.1 p).1;rcases f id with⟨h,c⟩|h
   ·rw[o id h c];exact p
   ·have c:=h.resolve_left (by omega);rw[u id h];exact st.ro id e (by rw[T id c];exact p) hr
  ·rcases f id with⟨B,c⟩|B
   ·rw[o id B c];exact h
   ·have c:=B.resolve_left (by omega);rw[u id B];exact st.nb id (by rw[I4];exact G) (by rw[T id c];exact h)
  ·rcases f id with⟨B,c⟩|B
   ·rw[o id B c]at h;exact⟨_,_,h⟩
   ·have c:=B.resolve_left (by omega);rw[u id B]at h;obtain⟨r1,s1,q⟩:=st.lp id (by rw[I4];exact G) _ _ _ _ _ _ _ _ h;rw[T id c]at q;exact⟨_,_,q⟩
 refine⟨λv X x M=>A x (X x M),λe p=>?_,L,λj k hn=>o j k (by
  cases c:Ji j S with
  |false=>rfl
  |true=>exact absurd (wl c) hn),λx=>⟨by rw[Cf,Cf,z],λj e' k=>?_⟩⟩
 ·obtain⟨j,k⟩:=Eo.1 p;rcases f j with⟨h,c⟩|h
  ·rw[o j h c]at k;exact L.ent (V e (BP k))
  ·rw[u j h]at k;have O:=Q e (BP k);cases e with
   |dead=>trivial
   |live b D=>exact λx M=>A x (O x M)
   |buf=>exact O
   |lp=>exact O
   |mp=>exact O
 ·rw[EV]at k;cases J:(SJ S 0 H d)[j]? with
  |none=>grind
  |some y=>
   rw[J]at k;simp at k;subst k;have same:(BH d)[j]? =some y.enc->y.enc= .dead\/(∃g D E,(BH d)[j]? =some (.live g D)/\y.enc= .live g E/\E.length=D.length/\ ∀(i:Nat) (I:Af),E[i]? =some I-> ∃v,D[i]? =some v/\Conv x x v I)\/((BH d)[j]? =some y.enc/\ ∀g D,y.enc≠ .live g D):=λh=>by
    cases y with
    |dead=>exact .inl rfl
    |live b D=>exact .inr (.inl ⟨_,_,_,h,rfl,rfl,λi I h=>⟨I,h,λ_ r=>r⟩⟩)
    |buf b t l m w=>exact .inr (.inl ⟨_,_,_,h,rfl,rfl,λi I h=>⟨I,h,λ_ r=>r⟩⟩)
    |lp=>exact .inr (.inr ⟨h,λ_ _ h=>by cases h⟩)
    |mp=>exact .inr (.inr ⟨h,λ_ _ h=>by cases h⟩)
   rcases f j with⟨h,c⟩|h
   ·rw[o j h c]at J;by_cases U:y= .dead
    ·subst U;exact .inl rfl
    ·exact same (by rw[EV,keep j y c J U];simp[pS])
   ·rw[u j h]at J;exact same (by rw[EV,J];rfl)
def isLen:Op->Bool
 |.call {callee:=.builtin .len,.. }=>ζ
 |.move _=>ζ
 |.assign _=>ζ
 |.extract _ _=>ζ
 |_=>η
def rdT(env:Bi)(op:Op):Ψ Nat:=match isLen op with|true=>[]|false=>op.operands.toList.flatMap λx=>idT (Jz env x)
def XQ(o:Oper)(env:Bi):Bi:=(tmpsOf o).filterMap λt=>match env.get t with|.c (.raw .any)=>ε|v=>δ (t,v)
def lI(ids:Ψ Nat):Nat->Aw->Ψ Nat
 |_,[]=>[]
 |j,.live η cs::r=>match (MB cs).any λi=>Ji i ids with|true=>j::lI ids (j+1) r|false=>lI ids (j+1) r
 |j,_::r=>lI ids (j+1) r
def AFZ:B0->Bool
 |.own .. =>η
 |.raw _=>η
 |_=>ζ
def xR:Ψ TV->Ω (Ψ Nat)
 |[]=>δ []
 |v::r=>
  match xR r with
  |none=>ε
  |some ids=>
   match v with
   |.c (.own id _ _ _)=>δ (id::ids)
   |.c x=>match AFZ x with|true=>δ ids|false=>ε
   |.g cs=>match cs.all AFZ with|true=>δ ids|false=>ε
   |_=>ε
section
variable {R:Type}
def quD(P:Program)(env:Bi)(H:Aw)(op:Op)(k:TV->Ω R):Ω R:=
 match op with
 |.buildSlice t len parts=>rS P env t len parts k
 |op=>quT P env H op k
def uJ(P:Program)(cs:Ψ RI)(call:S0)(env:Bi)(H:Aw)(op:Op)(k:TV->Aw->Ω R):Ω R:=
 match op with
 |.box _ x=>AGf H (Jz env x) k
 |.store t a v=>storeT P H t (Jz env a) (Jz env v) k
 |.makeSlice t x y=>im P H t (Jz env x) (Jz env y) k
 |.buildSlice t len parts=>aB P env H t len parts k
 |.call c=>
  match aI env (.call c)with
  |some (F,vs)=>
   match Enters P F with
   |true=>
    match pA cs F vs with
    |some ct=>ABt ct vs H k
    |none=>match xR vs with|some ids=>call (.fn F) vs (K1 ids 0 H) λv H'=>k v (SJ ids 0 H H')|none=>call (.fn F) vs H k
   |false=>ε
  |none=>
   match vW env c with
   |some (id,vs)=>call (.yd id) vs H k
   |none=>
    match c with
    |{callee:=.builtin .append,args:=⟨[s,x]⟩,argTypes:=⟨[t,t']⟩}=>match ξ t t' with|true=>tA P H t (Jz env s) (Jz env x) k|false=>ε
    |_=>ε
 |_=>ε
def AJ5(P:Program)(cs:Ψ RI)(call:S0)(env:Bi)(H:Aw)(op:Op)(k:TV->Aw->Ω R):Ω R:=
 match I7 (nI cs env H op) env H with
 |(ef,hf)=>uJ P cs call ef hf op k
def vi(cs:Ψ RI)(env:Bi)(H:Aw)(op:Op):Ψ Nat:=
 match op with
 |.call c=>
  match aI env (.call c)with
  |some (F,vs)=>match pA cs F vs with|some _=>uK cs env H (.call c)|none=>match xR vs with|some ids=>ids|none=>uK cs env H (.call c)
  |none=>uK cs env H (.call c)
 |op=>uK cs env H op
def zB(cs:Ψ RI)(env:Bi)(H:Aw)(op:Op):Ψ Nat:=
 match nI cs env H op with
 |[]=>vi cs env H op
 |ids=>ids++lI ids 0 H++(match I7 ids env H with|(ef,hf)=>vi cs ef hf op)
def AKF:Op->Bool
 |.buildSlice .. =>ζ
 |_=>η
def ABV(P:Program)(cs:Ψ RI)(call:S0)(ops:Array Oper)(m:Ψ Nat)(gs:Ψ Nat)(ow:Bool):Ψ Nat->Ψ (Nat×Ψ Nat)->Bi->Aw->(Bi->Aw->Ω R)->Ω R
 |[],_,env,H,k=>k env H
 |i::r,pend,env,H,k=>
  match ops[i]? with
  |none=>ε
  |some o=>
   match o.op with
   |.alloc t=>
    match vX P t with
    |some z=>
     match o.guard.isNone&&r.all (λj=>QH m i j||Iy ops j)with
     |true=>ABV P cs call ops m gs ow r pend (env.putO o.dst (.c (.raw (.ptr (θ H) 0 0)))) (H++[.live η z]) k
     |false=>ε
    |none=>ε
   |op=>
    match ia ops o.guard env with
    |some η=>ABV P cs call ops m gs ow r ((i,[])::pend) (env.putO o.dst (.tup [])) H k
    |some ζ=>
     match dq op&& !(ow&&AKF op)with
     |true=>
      match (rdT env op).all λid=>Nat.blt id (θ H)with
      |true=>quD P env H op λv=>force (Ji i gs) v λv'=>ABV P cs call ops m gs ow r ((i,rdT env op)::pend) (env.putO o.dst v') H k
      |false=>ε
     |false=>
      match r.all (λj=>QH m i j||Iy ops j)&&pend.all (λp=>QH m p.1 i||p.2.all λid=>!Ji id (zB cs (XQ o env) H op))with
      |true=>AJ5 P cs call (XQ o env) H op λv H'=>force (Ji i gs) v λv'=>ABV P cs call ops m gs ow r pend (env.putO o.dst v') H' k
      |false=>ε
    |none=>ε
variable {P:Program}{N:Nat}{o:Oper}{env:Bi}{H:Aw}{r:R}
def ACQ(env:Bi)(b:Op)(h:isLen b=η):∀id∈ABK (B6 env) b,id∈rdT env b:=by intro id a;unfold ABK at a;unfold rdT;rw[h];obtain⟨x,c,d⟩:=En.1 a;refine En.2 ⟨x,c,AHB _ _ ?_⟩;rwa[<-MH]
def Z9.mono{H}{v}{a b:Ψ Nat}(h:Z9 P N o y H a v)(s:∀id∈a,id∈b):Z9 P N o y H b v:=λ_ _ d e=>h _ _ d λid c=>e id (s id c)
theorem Z9.len{env}{H}{v:Af}(b:isLen o.op=ζ)(e:Cp P env H o.op=δ v):Z9 P N o env H [] v:=by
 intro c f d _;refine D5 (v:=v) ?_ ⟨rfl,rfl⟩;rw[w6 (gv d),<-e];generalize o.op=op at b;unfold isLen at b;split at b;rename_i args a;obtain⟨args⟩:=args;obtain⟨a⟩:=a;match args,a with
 |[x],[t]=>rfl
 |[],_=>rfl
 |_::_::_,_=>rfl
 |[_],[]=>rfl
 |[_],_::_::_=>rfl
 rfl;rfl;rfl;cases b
theorem ADb{k:TV->Ω R}(ok:Ob env H)(h:quD P env H o.op k=δ r):∃v,Z9 P N o (B6 env) (BH H) (rdT env o.op) v.enc/\k v=δ r/\v.ok H:=by
 have main:quT P env H o.op k=δ r->∃v,Z9 P N o (B6 env) (BH H) (rdT env o.op) v.enc/\k v=δ r/\v.ok H:=λh=>by
  obtain⟨v,i,j,l⟩:=w7 ok h;refine⟨v,?_,j,l⟩;cases z:isLen o.op with
  |true=>grind[rdT,Z9.len]
  |false=>exact(Xz i).mono (ACQ _ _ z)
 generalize d:o.op=op at h;unfold quD at h;split at h;rename_i t len b;unfold rS at h;split at h;rename_i q m;split at h;rename_i f;split at h;rename_i F e;have E:=vG m f;refine⟨_,?_,h,KF trivial⟩;rw[<-d];refine Z9.mono (a:=ABK (B6 env) o.op) ?_ (ACQ _ _ (by rw[d];rfl));have y:xc P (B6 env) (BH H) o.op=δ (.vs q.sz ((b.toList.map λp=>Jz env p.2).map TV.enc)):=by grind[xc]
 have A:=kZ (N:=N) y;intro x n i j;have l:=A x n i j;refine Jy.after (v:=.vs q.sz ((b.toList.map λp:Nat×Operand=>Jz env p.2).map TV.enc)) (H1:=n) l λX g w s=>⟨To.refl _ _,λc D=>AHy (nq e) (kR e) (λv C=>?_) _ _ D⟩
 unfold iw at f;simp only[BQ]at f;obtain⟨u,B,rfl⟩:=BY.1 C;have:=Ga.1 f.1.1.2 u B;split at this;simp_all[ZZ,fS];cases this;cases h;cases h;cases h;grind
theorem zA{d:List RI}(u: ∀c∈d,c.Ok P){call:S0}(n:Wu P call){k:TV->Aw->Option R}(ok:Ob env H)(h:uJ P d call env H o.op k=some r):nM P N o env H (vi d env H o.op) k r:=by
 have b: ∀j,o.op=j->rj P d call env H j k=some r->vi d env H j=uK d env H j->nM P N o env H (vi d env H o.op) k r:=λj a e f=>by subst a;rw[f];exact rk u n ok e
 generalize a:o.op=j at h;rw[<-a];cases j with
 |call c=>
  cases l:aI env (.call c)with
  |none=>exact b _ a (by unfold uJ at h;unfold rj;grind) (by simp only[vi,l])
  |some p=>
   obtain⟨F,m⟩:=p;cases s:pA d F m with
   |some V=>exact b _ a (by unfold uJ at h;unfold rj;grind) (by simp only[vi,l,s])
   |none=>
    cases q:xR m with
    |none=>
     have hn:isNil m=false:=by cases m<;>first|rfl|cases q
     exact b _ a (by unfold uJ at h;unfold rj;grind) (by simp only[vi,l,s,q])
    |some i=>
     obtain⟨E,G⟩:=oo l;simp only[uJ,l,s,q]at h;split at h
     ·rename_i I;have L:=lE (S:=i) ok;obtain⟨v,t,M,O,Q,T,U⟩:=n (.fn F) m (K1 i 0 H) _ r (λv J x K=>qo (G H ok.env v J x K)) L.heap h;obtain⟨z,A,B,C,D⟩:=AER ok.heap U T;have y:E8 P F (m.map TV.enc) (BH H) (DN v.enc (BH t)):=by have:=M;rw[yi,qm]at this;exact this
      refine⟨v,SJ i 0 H t,Jy.after (lH (by rw[a];exact E) I y) λX g w _=>?_,O,z v Q,A,B,?_⟩
      ·have hr:=(D (cx X g (BH t) w)).onto;exact⟨hr,λc r=>r.later hr.later⟩
      ·rw[a];simp only[vi,l,s,q];exact C
     ·cases h
 |_=>exact b _ a (by unfold uJ at h;unfold rj;grind) rfl
theorem wu{p:Nat×TV}(h:p∈XQ o e):p.1∈tmpsOf o/\p.2=e.get p.1/\p.2≠.c (.raw .any):=by obtain⟨t,b,a⟩:=Pg.1 h;grind
theorem AG4(h:t.enc=.any):t=.c (.raw .any):=by
 cases t with
 |c x=>
  cases x with
  |ar n v a=>cases h
  |_=>grind[TV.enc,B0.one]
 |vw id b v n d m=>simp only[TV.enc,vwE]at h;split at h;split at h<;>cases h;cases h
 |_=>simp[TV.enc]at h
theorem nG{t:Nat}:∀{l:Bi},(∀p∈l,p.1≠t)->Bi.get l t=Vy
 |[],_=>rfl
 |(k,u)::r,h=>by simp only[Bi.get,beq_false (h (k,u) k!)];exact nG λp a=>h p (by simp[a])
theorem wk{j:Nat}:∀{l:Ψ Nat},j∈l->Ji j l=ζ
 |i::r,h=>by simp only[Ji];rcases As.1 h with rfl|h;rw[H6];rw[wk h];split<;>rfl
def AH2(ids:Ψ Nat)(H:Aw)(j:Nat):Prop:=∀cs,H[j]?=δ (.live η cs)->∀i∈MB cs,i∉ids
theorem sK{ids:Ψ Nat}:∀{H}{i j:Nat},i+j∉lI ids i H->AH2 ids H j
 |e::r,i,0,hn,c,h=>by grind[lI,wk]
 |e::r,i,j+1,hn,c,h=>by
  have d:(i+1)+j∉lI ids (i+1) r:=by
   have f:i+1+j=i+(j+1):=o!
   rw[f];intro a;apply hn;cases e with
   |live b c=>cases b<;>grind[lI]
   |dead=>exact a
   |buf=>exact a
   |lp=>exact a
   |mp=>exact a
  exact sK (ids:=ids) d c h
def oD{id b:Nat}{t:Ty}{l:Ψ t.D}:∀{a},id∉MB a->a.map (OR id b t l)=a
 |[],_=>rfl
 |x::r,h=>by
  cases x with
  |own d c e n=>simp only[MB,As,not_or]at h;simp only[Bs,OR,beq_false h.1,Bool.false_and,oD h.2]
  |_=>simp only[MB]at h;simp only[Bs,OR,oD h]
def gy:∀(a:Ψ Nat){env}{H}{j:Nat},j∉a->AH2 a H j->(I7 a env H).2[j]?=H[j]?
 |[],_,_,_,_,_=>rfl
 |id::r,env,H,j,hj,hn=>by
  simp at hj;simp only[I7];split;rename_i e h d;have m:h[j]?=H[j]? :=by
   unfold frz at d;split at d;rename_i t l n q s;simp at d;rw[<-d.2,Dl (hj.1 ·.symm),CO];cases p:H[j]? with
   |none=>rfl
   |some o=>
    simp;cases o with
    |live b c=>
     cases b with
     |false=>simp only[RW];rw[oD λf=>hn c p id f Gj]
     |true=>rfl
    |_=>rfl
   cases d
  rw[gy r hj.2 λc g i k f=>hn c (m▸g) i k (CU _ f),m];exact gy r hj.2 λc g i k f=>hn c g i k (CU _ f)
theorem AAl(l:∀c∈f,c.Ok P)(g:Wu P u){k:TV→Aw→Ω R}(ok:Ob env H)(h:AJ5 P f u (XQ o env) H o.op k=δ r):
  ∃v d,Eff P N o (B6 env) (BH H) (zB f (XQ o env) H o.op) (DN v.enc (BH d))/\k v d=δ r/\v.ok d/\(∀e∈d,e.ok d)/\CN H d:=by
 have n:Ob (XQ o env) H:=⟨λp m=>by rw[(wu m).2.1];exact kw ok.env _,ok.heap⟩
 obtain⟨s,b,G⟩:=R8 (nI f (XQ o env) H o.op) n;have w:=λj=>gy (nI f (XQ o env) H o.op) (env:=XQ o env) (H:=H) (j:=j);have x:∀id,id∉zB f (XQ o env) H o.op->id∉vi f (I7 (nI f (XQ o env) H o.op) (XQ o env) H).1 (I7 (nI f (XQ o env) H o.op) (XQ o env) H).2 o.op/\(I7 (nI f (XQ o env) H o.op) (XQ o env) H).2[id]?=H[id]? :=by intro id a;unfold zB at a;split at a;rename_i z;rw[z];exact⟨a,rfl⟩;simp only[Ah,not_or]at a;refine⟨a.2,w id a.1.1 (sK (i:=0) q!)⟩
 obtain⟨v,d,A,B,C,D,E,F⟩:=zA (N:=N) l g s h;refine⟨v,d,⟨λt O=>Jy.before (Fp.subset λq y=>?_) (Jy.before (G N) A),?_⟩,B,C,D,b.step.trans E⟩;obtain⟨p,m,rfl⟩:=BY.1 y;obtain⟨K,L,M⟩:=wu m;grind[VM,Oh,AG4];rintro _ _ ⟨rfl,rfl⟩ id a hn;rw[Cf]at a;obtain⟨I,J⟩:=x id hn;rw[EV,EV,F id (DX a b.step.len) I,J]
def Us{j:Nat}:∀{l},Ji j l=η->j∉l
 |i::r,h=>by simp only[Ji]at h;split at h;cases h;rename_i b;intro a;rcases As.1 a with rfl|a;rw[H6]at b;cases b;exact Us h a
 |[],_=>λh=>by cases h
def vg(ops:Array Oper)(l:Ψ Nat):Ψ Nat:=l.filterMap λi=>(ops[i]?).bind (·.dst)
theorem ZV{L:Ψ RI}(u:∀c∈L,c.Ok P){w}(s:Wu P w){b}{gs}{ow}:∀l n env H k(r:R),Ob env H→
  ABV P L w b (I5 b.toList []) gs ow l n env H k=δ r->
  ∃a q,RA P N b l n (B6 env) (BH H) (λe h=>e=B6 a/\h=BH q)/\k a q=δ r/\Ob a q/\Ea (vg b l) env H a q
 |[],n,env,H,k,r,ok,h=>⟨env,H,⟨rfl,rfl⟩,h,ok,Ea.refl _ _ _⟩
 |i::l,n,env,H,k,r,ok,h=>by
  simp only[ABV]at h;simp only[RA];cases J:b[i]? with
  |none=>rw[J]at h;cases h
  |some o=>
   rw[J]at h;simp only at h⊢;have m:∀{e}{h}{v},Ea (vg b [i]) e h (e.putO o.dst v) h:=by
    intro e h v;refine⟨CN.refl h,λt T _=>?_⟩;cases hd:o.dst with
    |none=>rfl
    |some d=>refine pe λe=>T ?_;simp[vg,J,hd,e]
   have g:∀t,t∈vg b [i]++vg b l->t∈vg b (i::l):=by grind[vg]
   split at h;rename_i t Q;split at h;rename_i z hz;split at h;rename_i F;simp only[BQ]at F;obtain⟨z1,z2⟩:=Zc hz;have I:=CN.push H (.live η z);have f:Ob (env.putO o.dst (.c (.raw (.ptr (θ H) 0 0)))) (H++[.live η z]):=⟨cJ (I.env ok.env) (KF trivial),Qa ok.heap (z2 _)⟩
   obtain⟨a,q,x,C,D,E⟩:=ZV u s l _ _ _ _ _ f h;have G:o.guard=ε:=by simpa using F.1
   refine⟨a,q,?_,C,D,?_⟩;rw[G];refine .inr (.inr ⟨t,lvs z,Q,z1,λj Z=>?_,?_⟩);grind[List.all_eq_true];have M:B6 (env.putO o.dst (.c (.raw (.ptr (θ H) 0 0))))=(B6 env).putO o.dst (.ptr (BH H).length 0 0):=by rw[YW,Cf];rfl
   have e2:BH (H++[.live η z])=BH H++[.live 0 (lvs z)]:=R6 _ _;rw[M,e2]at x;exact x;have Y:Ea (vg b [i]) env H (env.putO o.dst (.c (.raw (.ptr (θ H) 0 0)))) (H++[.live η z]):=⟨I,(m (h:=H)).same⟩
   exact(Ea.trans ok.env Y E).mono g;cases h;cases h;rename_i O;have y:Iy b i=η:=by
    cases hb:Iy b i with
    |false=>rfl
    |true=>obtain⟨t,T⟩:=(XN J).1 hb;exact(O t T).elim
   split at h;rename_i G;have f:Ob (env.putO o.dst (.tup [])) H:=⟨cJ ok.env (SC λv hv=>by cases hv),ok.heap⟩
   obtain⟨a,q,x,C,D,E⟩:=ZV u s l _ _ _ _ _ f h;have M:(B6 env).putO o.dst (.tup [])=B6 (env.putO o.dst (.tup [])):=by rw[YW];rfl
   exact⟨a,q,pN G ⟨y,by rw[M];exact x⟩,C,D,(Ea.trans ok.env m E).mono g⟩;rename_i G;split at h;split at h;rename_i S;obtain⟨v,U,V,W⟩:=ADb (N:=N) ok h;have B:=nu V;have f:Ob (env.putO o.dst v) H:=⟨cJ ok.env W,ok.heap⟩
   obtain⟨a,q,x,C,D,E⟩:=ZV u s l _ _ _ _ _ f B;refine⟨a,q,kz G (.inl ⟨y,v.enc,rdT env o.op,U,λid A=>?_,by rw[<-YW];exact x⟩),C,D,(Ea.trans ok.env m E).mono g⟩;have:=Ga.1 S id A;rw[Cf];exact Pk this;cases h;split at h;rename_i F;simp only[BQ]at F;obtain⟨v,K,U,V,W,q4,X⟩:=AAl (N:=N) u s ok h;have B:=nu V;have f:Ob (env.putO o.dst v) K:=⟨cJ (X.env ok.env) W,q4⟩
   obtain⟨a,q,x,C,D,E⟩:=ZV u s l _ _ _ _ _ f B;refine⟨a,q,kz G (.inr (.inl ⟨y,zB L (XQ o env) H o.op,λj Z=>by simpa using List.all_eq_true.1 F.1 j Z,λp hp=>?_,DN v.enc (BH K),U,?_,?_⟩)),C,D,?_⟩;have:=Ga.1 F.2 p hp;simp only[WX,Ga,WW]at this;exact this.imp id λh3 id A=>Us (h3 id A);rintro _ _ ⟨rfl,rfl⟩;rw[Cf,Cf];exact X.len;rintro _ _ ⟨rfl,rfl⟩;rw[<-YW];exact x;have Y:Ea (vg b [i]) env H (env.putO o.dst v) K:=⟨X,(m (h:=H)).same⟩
   exact(Ea.trans ok.env Y E).mono g;cases h;cases h
end
abbrev DV:=(t:Ty)×t.D
def dvs:(ts:Ψ Ty)->DL ts->Ψ DV
 |[],_=>[]
 |[t],x=>[⟨t,x⟩]
 |t::u::r,x=>⟨t,x.1⟩::dvs (u::r) x.2
def AA4:(ts:Ψ Ty)->Ψ DV->Ω (DL ts)
 |[],[]=>δ ()
 |[t],[⟨t',x⟩]=>if h:t'.beq t=ζ then δ (Ty.cast h x)else ε
 |t::u::r,⟨t',x⟩::ds=>if h:t'.beq t=ζ then match AA4 (u::r) ds with|some y=>δ (Ty.cast h x,y)|none=>ε else ε
 |_,_=>ε
def AB3{a:Ty}(h:a.beq x=ζ)(t:a.D):(⟨x,Ty.cast h t⟩:DV)=⟨a,t⟩:=by have e:=Ty.beq_eq a x h;subst e;rfl
theorem qv:∀{b}{a}{s:DL b},AA4 b a=δ s->dvs b s=a
 |[],[],s,_=>rfl
 |[],_::_,s,h=>by cases h
 |[t],[],s,h=>by cases h
 |[t],[⟨t',x⟩],s,h=>by simp only[AA4]at h;split at h;rename_i c;injection h with h;subst h;simp only[dvs,AB3];cases h
 |[t],_::_::_,s,h=>by simp[AA4]at h
 |t::u::r,[],s,h=>by cases h
 |t::u::r,⟨t',x⟩::a,s,h=>by simp only[AA4]at h;split at h;rename_i c;split at h;rename_i y d;injection h with h;subst h;simp only[dvs,AB3,qv d];cases h;cases h
inductive Part where
 |d (t:Ty)
 |o (id:Nat)
inductive Pa where
 |t (tmp:Nat) (ty:Ty)
 |g (tmp id:Nat)
 |p (id:Nat) (ps:List Part)
 |u (id:Nat) (ty:Ty)
 |x (id:Nat)
 |k (tmp:Nat) (v:Af)
 |y (id:Nat) (s:LS)
 |m (id:Nat) (k:IntKind) (t:Ty)
 |w (tmp id:Nat)
def AJb:Af->Af->Bool
 |.ptr a b c,.ptr a' b' c'=>ξ a a'&&(ξ b b'&&ξ c c')
 |.nilp,.nilp=>ζ
 |.nilf,.nilf=>ζ
 |_,_=>η
def AHb{w}(h:AJb l w=ζ):l=w:=by unfold AJb at h;split at h<;>simp_all
def MD:Ψ Pa->Ψ Nat
 |[]=>[]
 |.p id _::r=>id::MD r
 |.u id _::r=>id::MD r
 |.x id::r=>id::MD r
 |.y id _::r=>id::MD r
 |.m id _ _::r=>id::MD r
 |_::r=>MD r
def WN:Ψ Pa->Ψ Nat
 |[]=>[]
 |.t tmp _::r=>tmp::WN r
 |.g tmp _::r=>tmp::WN r
 |.k tmp _::r=>tmp::WN r
 |.w tmp _::r=>tmp::WN r
 |_::r=>WN r
def AJV:Ψ Part->Ψ Ty
 |[]=>[]
 |.d t::r=>t::AJV r
 |_::r=>AJV r
def fO:Ψ Pa->Ψ Ty
 |[]=>[]
 |.t _ t::r=>t::fO r
 |.p _ ps::r=>AJV ps++fO r
 |.u _ t::r=>.list t::fO r
 |.m _ k t::r=>.list (.prod (.cons (.int k) (.one t)))::fO r
 |.w _ _::r=>.int .i64:: .int .i64::fO r
 |_::r=>fO r
def uH(H:Aw)(id:Nat):B0->Bool
 |.own id' ver _ _=>match ξ id id' with
  |true=>match H[id]? with|some (.buf _ _ _ _ ver')=>ξ ver ver'|_=>η
  |false=>η
 |_=>η
def rX(H:Aw)(rest:Ψ Nat):Ψ Part->Ψ B0->Ω (Ψ DV)
 |[],[]=>δ []
 |.d t::ps,cs=>
  match t.mk cs with
  |some (x,cs')=>match rX H rest ps cs' with|some ds=>δ (⟨t,x⟩::ds)|none=>ε
  |none=>ε
 |.o id::ps,c::cs=>
  match uH H id c&& !Ji id rest with
  |true=>rX H rest ps cs
  |false=>ε
 |_,_=>ε
def Yw(env:Bi)(H:Aw):Ψ Pa->Ω (Ψ DV)
 |[]=>δ []
 |.t tmp ty::r=>
  match ty.data (env.get tmp),Yw env H r with
  |some x,δ ds=>δ (⟨ty,x⟩::ds)
  |_,_=>ε
 |.g tmp id::r=>
  match env.get tmp with
  |.c x=>match uH H id x&& !Ji id (MD r)with|true=>Yw env H r|false=>ε
  |_=>ε
 |.p id ps::r=>
  match H[id]? with
  |some (.live _ cs)=>
   match rX H (id::MD r) ps cs,Yw env H r with
   |some a,δ b=>δ (a++b)
   |_,_=>ε
  |_=>ε
 |.u id ty::r=>
  match H[id]? with
  |some (.buf _ t l _ _)=>match t.beq ty,Yw env H r with|true,δ ds=>δ (⟨.list t,l⟩::ds)|_,_=>ε
  |_=>ε
 |.x _::r=>Yw env H r
 |.k tmp v::r=>
  match env.get tmp with
  |.c (.raw w)=>match AJb v w with|true=>Yw env H r|false=>ε
  |_=>ε
 |.y id s::r=>
  match H[id]? with
  |some (.lp _ _ _ _ _ _ _ s')=>match s.beq s' with|true=>Yw env H r|false=>ε
  |_=>ε
 |.m id k t::r=>
  match H[id]? with
  |some (.mp _ k' t' es)=>match τ (k'=k)&&t'.beq t,Yw env H r with|true,δ ds=>δ (⟨.list (.prod (.cons (.int k') (.one t'))),es⟩::ds)|_,_=>ε
  |_=>ε
 |.w tmp id::r=>
  match env.get tmp with
  |.vw id' ver te n lo m=>match uH H id (.own id' ver te n)&& !Ji id (MD r),Yw env H r with|true,δ ds=>δ (⟨.int .i64,(lo:Int)⟩::⟨.int .i64,(m:Int)⟩::ds)|_,_=>ε
  |_=>ε
def uh(H:Aw):Ψ Part->Ψ DV->Ω (Ψ B0×Ψ DV)
 |[],ds=>δ ([],ds)
 |.d _::ps,⟨t,x⟩::ds=>match uh H ps ds with|some (cs,r)=>δ (t.lvs x++cs,r)|none=>ε
 |.o id::ps,ds=>
  match H[id]? with
  |some (.buf _ t _ n ver)=>match uh H ps ds with|some (cs,r)=>δ (.own id ver t n::cs,r)|none=>ε
  |_=>ε
 |_,_=>ε
def Wn:Ψ Pa->Ψ DV->Bi->Aw->Ω (Bi×Aw)
 |[],[],env,H=>δ (env,H)
 |.t tmp _::r,⟨t,x⟩::ds,env,H=>Wn r ds ((tmp,t.tv x)::env) H
 |.g tmp id::r,ds,env,H=>
  match H[id]? with
  |some (.buf _ t _ n ver)=>Wn r ds ((tmp,.c (.own id ver t n))::env) H
  |_=>ε
 |.p id ps::r,ds,env,H=>
  match H[id]? with
  |some (.live η _)=>match uh H ps ds with|some (cs,ds')=>Wn r ds' env (H.set id (.live η cs))|none=>ε
  |_=>ε
 |.u id _::r,⟨.list t,l⟩::ds,env,H=>
  match H[id]? with
  |some (.buf η t' _ _ ver)=>match t'.beq t with|true=>Wn r ds env (H.set id (.buf η t l (θ l) (ver+1)))|false=>ε
  |_=>ε
 |.x id::r,ds,env,H=>
  match H[id]? with
  |some e=>match e.ro||e.isLp with|false=>Wn r ds env (H.set id .dead)|true=>ε
  |none=>ε
 |.k tmp v::r,ds,env,H=>Wn r ds ((tmp,.c (.raw v))::env) H
 |.y id s::r,ds,env,H=>
  match H[id]? with
  |some (.lp η F n e ps a b _)=>Wn r ds env (H.set id (.lp η F n e ps a b s))
  |_=>ε
 |.m id _ _::r,⟨.list (.prod (.cons (.int k) (.one t))),es⟩::ds,env,H=>
  match H[id]? with
  |some (.mp η k' t' _)=>match τ (k'=k)&&t'.beq t with|true=>Wn r ds env (H.set id (.mp η k t es))|false=>ε
  |_=>ε
 |.w tmp id::r,⟨.int _,lo⟩::⟨.int _,m⟩::ds,env,H=>
  match H[id]? with
  |some (.buf _ t _ n ver)=>Wn r ds ((tmp,.vw id ver t n (ο lo) (ο m))::env) H
  |_=>ε
 |_,_,_,_=>ε
def AIj(e e':D9):Prop:=e'=.dead\/(∃b cs b' cs',e=.live b cs/\e'=.live b' cs'/\D0 (lvs cs) (lvs cs'))\/(∃b t l n v b' v',e=.buf b t l n v/\e'=.buf b' t l n v')\/(∃ro ro' F n env ps a b s,e=.lp ro F n env ps a b s/\e'=.lp ro' F n env ps a b s)\/(∃b b' k t es,e=.mp b k t es/\e'=.mp b' k t es)
def HR(H1 H:Aw)(rest:Ψ Nat):Prop:=∀j(e':D9),Ji j rest=η->H[j]?=δ e'->∃e,H1[j]?=δ e/\AIj e e'
theorem Qi:Ji N (n::b)=η↔N≠n/\Ji N b=η:=by simp[Ji];by_cases h:N=n;simp_all;grind[beq_false]
theorem kP(j:I.ok c)(h:uH c N I=ζ):∃b t l n a,I=.own N a t n/\c[N]?=δ (.buf b t l n a):=by unfold uH at h;split at h;rename_i k a t n;split at h;rename_i i;have e:=DQ i;subst e;split at h;rename_i b o l m d g;have f:=DQ h;subst f;have⟨rfl,rfl⟩:=(j.2 _ _ _ _ _ g).2 rfl;grind;cases h;cases h;cases h
theorem Wt{b:Bool}{l:Ψ x.D}(h:c[N]?=δ (.buf b x l n G)):Sp c N G x n:=by refine⟨?_,λro g e f H d=>?_⟩;grind;grind
theorem nl{q H}{i}(hr:HR q H i):∀{p}{m}{a b j:Ψ DV}{f:Ψ B0},lok q m→rX q i p m=δ a→uh H p (a++b)=δ (f,j)→
  j=b/\D0 (lvs m) (lvs f)/\lok H f
 |[],[],a,b,j,f,ok,h,k=>by grind[rX,Option.some.injEq,uh,Prod.mk.injEq,D0.refl,AHH]
 |[],_::_,a,b,j,f,ok,h,k=>by simp[rX]at h
 |.d t::p,m,a,b,j,f,ok,h,k=>by simp[rX]at h;split at h;rename_i x U z;split at h;rename_i V u;cases h;obtain⟨T,rfl,P⟩:=t.mk_spec _ _ _ z;simp[Dx,uh]at k;split at k;rename_i I r v;obtain⟨rfl,rfl⟩:=k;have⟨B,C,D⟩:=nl hr (Jh.1 ok).2 u v;refine⟨B,?_,Jh.2 ⟨t.lvs_ok x,D⟩⟩;rw[HK,HK,t.lvs_enc];exact P.append C;cases k;cases h;cases h
 |.o id::p,c::m,a,b,j,f,ok,h,k=>by
  simp[rX]at h;split at h
  ·rename_i s;simp[BQ,WW]at s;obtain⟨R,t,l,n,Q,rfl,O⟩:=kP (ok c k!) s.1;simp[uh]at k;split at k
   ·rename_i S t2 l2 n2 G E;split at k
    ·rename_i I r v;obtain⟨rfl,rfl⟩:=k;have⟨B,C,D⟩:=nl hr (λx z=>ok x (by simp[z])) h v;have⟨e,F,w⟩:=hr id _ s.2 E;rw[O]at F;cases F;rcases w with g|⟨_,_,_,_,g,_⟩|⟨_,_,_,_,_,_,_,g,N⟩|⟨_,_,_,_,_,_,_,_,_,g,_⟩|⟨_,_,_,_,_,g,_⟩;cases g;cases g;rotate_left;cases g;cases g;injection g with W J X K Y;injection N with Z L f3 M f5;subst J K L M;refine⟨B,?_,λy A=>?_⟩;rw[IQ,IQ];exact(D0.refl _).append C;rcases As.1 A with rfl|A;exact Wt E;exact D y A
    cases k
   cases k
  cases h
structure IS(env1:Bi)(H1:Aw)(slots:List Pa)(env:Bi)(H:Aw)(env2:Bi)(H2:Aw):Prop where
 get:∀t,Ji t (WN slots)=false->env2.get t=env.get t
 ok:Ob env2 H2
 env:∀p∈env2,∃v,(p.1,v)∈env1/\XX v.enc p.2.enc
 hr:HR H1 H2 []
 step:CN H H2
 len:H2.length=H.length
 same:∀j,Ji j (MD slots)=false->H2[j]?=H[j]?
def ZY{t:Nat}{v:TV}:∀{env:Bi},env.get t=v->v≠Vy->(t,v)∈env
 |[],h,hv=>O! h.symm hv
 |(k,u)::r,h,hv=>by simp only[Bi.get]at h;split at h;simp_all;exact CU _ (ZY h hv)
def heap_set{e}(b:CN c (c.set N e))(ok:∀x∈c,x.ok c)(a:e.ok (c.set N e)):∀x∈c.set N e,x.ok (c.set N e):=by intro x H;rcases Ph H with h|rfl;exact b.ent (ok x h);exact a
theorem HR.set{a H}{id:Nat}{e d:D9}(h:HR a H (id::b))(g:a[id]?=δ e)(hr:AIj e d):HR a (H.set id d) b:=by intro j x f c;rw[R2]at c;split at c;grind;rename_i r;exact h j x (Qi.2 ⟨λq=>r q.symm,f⟩) c
theorem LpS.set{H c}{id:Nat}{i:D9}(h:LpS H c)(l:id<θ H)(p:∀ro F n env f a b s,c[id]?=δ (.lp ro F n env f a b s)->∃g o,i=.lp g F n env f a b o):LpS (H.set id i) c:=by intro j k ro F n env f a b s m;rw[Yj]at k;by_cases d:j=id;grind;rw[Dl λe=>d e.symm];exact h j k _ _ _ _ _ _ _ _ m
variable {q:Ψ Pa}
theorem sG(id:Nat){f:Aw}{H:D9}(r:D[id]?=δ H)(g:(H.ro||H.isLp)=η)(m:θ D≤θ c)(lp:LpS D c)
  (hr:HR c D (id::MD q)) (ok:Ob L D) (k:Ob L (D.set id .dead)->LpS (D.set id .dead) c->HR c (D.set id .dead) (MD q)->IS e c q L (D.set id .dead) Y f):IS e c (.x id::q) L D Y f:=by
 have b:H.isLp=η:=q!
 have st:CN D (D.set id .dead):=CN.set r q! λ_ _ _ _ _ H=>by cases H
 have d:id<θ c:=q!
 have a:=k ⟨st.env ok.env,heap_set st ok.heap trivial⟩ (lp.set (Hg r) λ_ _ _ _ _ _ _ _ i=>by have⟨l,n,a⟩:=lp id (Hg r) _ _ _ _ _ _ _ _ i;rw[r]at a;injection a with a;rw[a]at b;cases b) (HR.set hr (Au d) (.inl rfl));refine⟨a.get,a.ok,a.env,a.hr,st.trans a.step,by simpa using a.len,λj h=>?_⟩;have:=Qi.1 h;rw[a.same j this.2,Dl λH=>this.1 H.symm]
def NB{env1}{J}(z:Ob env1 J):∀{slots}{B:Ψ DV}{env}{H}{env2:Bi}{E:Aw},Yw env1 J slots=δ B→Wn slots B env H=δ (env2,E)→Ob env H→
  θ H<=θ J->(∀p∈env,∃v,(p.1,v)∈env1/\XX v.enc p.2.enc)->HR J H (MD slots)->LpS H J->IS env1 J slots env H env2 E
 |[],B,env,H,env2,E,h,k,ok,hl,he,hr,lp=>by simp only[Yw,Av]at h;subst h;simp only[Wn,Av,Ep]at k;obtain⟨rfl,rfl⟩:=k;exact⟨λ_ _=>rfl,ok,he,hr,CN.refl _,rfl,λ_ _=>rfl⟩
 |.t tmp ty::r,B,env,H,env2,E,h,k,ok,hl,he,hr,lp=>by
  simp[Yw]at h;split at h;rename_i x d I R;cases h;simp[Wn]at k;have f:Ob ((tmp,ty.tv x)::env) H:=⟨λp o=>by rcases As.1 o with rfl|o;exact ty.tv_ok x;exact ok.env p o,ok.heap⟩
  have q:=NB z R k f hl (λp o=>by rcases As.1 o with rfl|o;refine⟨env1.get tmp,ZY rfl λe=>?_,?_⟩;rw[e]at I;cases ty<;>cases I;simp[ty.tv_enc];exact KV I;exact he p o) hr lp;refine⟨λt G=>?_,q.ok,q.env,q.hr,q.step,q.len,q.same⟩;have:=Qi.1 G;rw[q.get t this.2];simp[Bi.get,beq_false λe=>this.1 e.symm];cases h
 |.g tmp id::r,B,env,H,env2,E,h,k,ok,hl,he,hr,lp=>by
  simp[Yw]at h;split at h
  ·rename_i x I;split at h
   ·rename_i D;simp[BQ,WW]at D;have V:x.ok J:=kw z.env tmp x (by rw[I];simp[TV.refs]);obtain⟨b1,t,l,n,ad,rfl,C⟩:=kP V D.1;simp[Wn]at k;split at k
    ·rename_i b2 O l2 n2 N h2;have⟨e,L,T⟩:=hr id _ D.2 h2;rw[C]at L;cases L;rcases T with i|⟨_,_,_,_,i,_⟩|⟨_,_,_,_,_,_,_,i,h1⟩|⟨_,_,_,_,_,_,_,_,_,i,_⟩|⟨_,_,_,_,_,i,_⟩;cases i;cases i;rotate_left;cases i;cases i;injection i with e1 Z e3 e4 e5;injection h1 with f1 f2 f3 f4 f5;subst Z e4 f2 f4;have f:Ob ((tmp,.c (.own id N O n2))::env) H:=⟨λp o=>by rcases As.1 o with rfl|o;exact KF (Wt h2);exact ok.env p o,ok.heap⟩
     have q:=NB z h k f hl (λp o=>by rcases As.1 o with rfl|o;exact⟨_,ZY I (λe=>by cases e),XX.refl _⟩;exact he p o) hr lp;refine⟨λt G=>?_,q.ok,q.env,q.hr,q.step,q.len,q.same⟩;have:=Qi.1 G;rw[q.get t this.2];simp[Bi.get,beq_false λe=>this.1 e.symm]
    cases k
   cases h
  cases h
 |.p id Y::r,B,env,H,env2,E,h,k,ok,hl,he,hr,lp=>by
  simp[Yw]at h;split at h;rename_i b cs C;split at h;rename_i a b1 ha D;cases h;simp[Wn]at k;split at k;rename_i ap i;split at k;rename_i P Q hi;have ao:lok J cs:=by simpa only[D9.ok]using z.heap _ (BP C)
  have⟨rfl,q2,q3⟩:=nl hr ao ha hi;have st:CN H (H.set id (.live η P)):=CN.set i rfl λ_ _ _ _ _ e=>by cases e
  have A:HR J (H.set id (.live η P)) (MD r):=HR.set hr C (.inr (.inl ⟨_,_,_,_,rfl,rfl,q2⟩));have f:Ob env (H.set id (.live η P)):=⟨st.env ok.env,heap_set st ok.heap (by simpa only[D9.ok]using st.lok q3)⟩
  have q:=NB z D k f (by simpa using hl) he A (lp.set (Hg i) λ_ _ _ _ _ _ _ _ K=>by rw[C]at K;cases K);refine⟨q.get,q.ok,q.env,q.hr,st.trans q.step,by simpa using q.len,λj S=>?_⟩;have:=Qi.1 S;rw[q.same j this.2,Dl λe=>this.1 e.symm];cases k;cases k;cases h;cases h
 |.u id ty::r,B,env,H,env2,E,h,k,ok,hl,he,hr,lp=>by
  simp[Yw]at h;split at h;rename_i b t l n ad C;split at h;rename_i Q D R;cases h;simp[Wn]at k;split at k;rename_i t' l0 n0 M i;split at k;rename_i G;have e:=Ty.beq_eq _ _ G;subst e;have hn:n=θ l:=by simpa only[D9.ok]using z.heap _ (BP C)
  have st:CN H (H.set id (.buf η t' l (θ l) (M+1))):=CN.set i rfl λro O l2 n2 v2 e=>by cases e;exact⟨_,_,_,_,rfl,.inl o!⟩
  have A:HR J (H.set id (.buf η t' l (θ l) (M+1))) (MD r):=HR.set hr C (.inr (.inr (.inl ⟨_,_,_,_,_,_,_,rfl,by rw[hn]⟩)));have f:Ob env (H.set id (.buf η t' l (θ l) (M+1))):=⟨st.env ok.env,heap_set st ok.heap rfl⟩
  have q:=NB z R k f (by simpa using hl) he A (lp.set (Hg i) λ_ _ _ _ _ _ _ _ K=>by rw[C]at K;cases K);refine⟨q.get,q.ok,q.env,q.hr,st.trans q.step,by simpa using q.len,λj S=>?_⟩;have:=Qi.1 S;rw[q.same j this.2,Dl λe=>this.1 e.symm];cases k;cases k;cases h;cases h
 |.x id::r,B,env,H,env2,E,h,k,ok,hl,he,hr,lp=>by
  simp[Yw]at h;cases B with
  |nil=>simp[Wn]at k;split at k;rename_i e i;split at k;rename_i U;exact sG id i U hl lp hr ok λf X A=>NB z h k f (by simpa using hl) he A X;cases k;cases k
  |cons d B=>simp[Wn]at k;split at k;rename_i e i;split at k;rename_i U;exact sG id i U hl lp hr ok λf X A=>NB z h k f (by simpa using hl) he A X;cases k;cases k
 |.k tmp w::r,B,env,H,env2,E,h,k,ok,hl,he,hr,lp=>by
  have k':Wn r B ((tmp,.c (.raw w))::env) H=δ (env2,E):=by cases B<;>simpa only[Wn]using k
  simp[Yw]at h;split at h;rename_i w' I;split at h;rename_i D;have e:=AHb D;subst e;have f:Ob ((tmp,.c (.raw w))::env) H:=⟨λp o=>by rcases As.1 o with rfl|o;exact KF trivial;exact ok.env p o,ok.heap⟩
  have hw:w≠.any:=by rintro rfl;cases D
  have q:=NB z h k' f hl (λp o=>by rcases As.1 o with rfl|o;refine⟨_,ZY I (λe=>?_),XX.refl _⟩;injection e with e;injection e with e;exact hw e;exact he p o) hr lp;refine⟨λt G=>?_,q.ok,q.env,q.hr,q.step,q.len,q.same⟩;have:=Qi.1 G;rw[q.get t this.2];simp[Bi.get,beq_false λe=>this.1 e.symm];cases h;cases h
 |.y id s::r,B,env,H,env2,E,h,k,ok,hl,he,hr,lp=>by
  simp[Yw]at h;split at h;rename_i ax F1 n1 e1 p1 a1 b1 s1 C;split at h;rename_i D;have e0:=LS.beq_eq D;subst e0;obtain⟨F,n,e,Y,a,b,s0,i,k'⟩:∃F n e Y a b s0,H[id]?=δ (.lp η F n e Y a b s0)/\Wn r B env (H.set id (.lp η F n e Y a b s))=δ (env2,E):=by cases B<;>simp[Wn]at k<;>split at k<;>first|exact⟨_,_,_,_,_,_,_,‹_›,k⟩|cases k
  have⟨a0,s2,q⟩:=lp id (Hg i) _ _ _ _ _ _ _ _ C;rw[i]at q;injection q with q;injection q with _ q2 q3 q4 q5 q6 q7 _;subst q2 q3 q4 q5 q6 q7;have st:CN H (H.set id (.lp η F n e Y a b s)):=CN.set i rfl (λ_ _ _ _ _ e=>by cases e) λ_ _ _ _ _ _ _ _ e=>by cases e;exact⟨_,_,rfl⟩
  have A:HR J (H.set id (.lp η F n e Y a b s)) (MD r):=HR.set hr C (.inr (.inr (.inr (.inl ⟨_,_,_,_,_,_,_,_,_,rfl,rfl⟩))));have f:Ob env (H.set id (.lp η F n e Y a b s)):=⟨st.env ok.env,heap_set st ok.heap (by have:=ok.heap _ (BP i);simpa only[D9.ok]using this)⟩
  have q:=NB z h k' f (by simpa using hl) he A (lp.set (Hg i) λ_ _ _ _ _ _ _ _ K=>by rw[C]at K;injection K with K;cases K;exact⟨_,_,rfl⟩);refine⟨q.get,q.ok,q.env,q.hr,st.trans q.step,by simpa using q.len,λj S=>?_⟩;have:=Qi.1 S;rw[q.same j this.2,Dl λe=>this.1 e.symm];cases h;cases h
 |.m id kk ty::r,B,env,H,env2,E,h,k,ok,hl,he,hr,lp=>by
  simp[Yw]at h;split at h;rename_i b k1 t1 es C;split at h;rename_i Q D R;cases h;simp[Wn]at k;split at k;rename_i k2 O ar i;split at k;rename_i G;simp[BQ,K!]at G;have⟨rfl,G⟩:=G;have e:=Ty.beq_eq _ _ G;subst e;have st:CN H (H.set id (.mp η k2 O es)):=CN.set i rfl λ_ _ _ _ _ e=>by cases e
  have A:HR J (H.set id (.mp η k2 O es)) (MD r):=HR.set hr C (.inr (.inr (.inr (.inr ⟨_,_,_,_,_,rfl,rfl⟩))));have f:Ob env (H.set id (.mp η k2 O es)):=⟨st.env ok.env,heap_set st ok.heap trivial⟩
  have q:=NB z R k f (by simpa using hl) he A (lp.set (Hg i) λ_ _ _ _ _ _ _ _ K=>by rw[C]at K;cases K);refine⟨q.get,q.ok,q.env,q.hr,st.trans q.step,by simpa using q.len,λj S=>?_⟩;have:=Qi.1 S;rw[q.same j this.2,Dl λe=>this.1 e.symm];cases k;cases k;cases h;cases h
 |.w tmp id::r,B,env,H,env2,E,h,k,ok,hl,he,hr,lp=>by
  simp[Yw]at h;split at h
  ·rename_i W al te n1 lo m I;split at h
   ·rename_i Q D R;cases h;simp[BQ,WW]at D;have V:(B0.own W al te n1).ok J:=kw z.env tmp _ (by rw[I];simp[TV.refs]);obtain⟨b1,t,l,n,ad,e0,C⟩:=kP V D.1;injection e0 with e1 Z e3 e4;subst e1 Z e3 e4;simp[Wn]at k;split at k
    ·rename_i b2 O l2 n2 N h2;have⟨e,L,T⟩:=hr W _ D.2 h2;rw[C]at L;cases L;rcases T with i|⟨_,_,_,_,i,_⟩|⟨_,_,_,_,_,_,_,i,h1⟩|⟨_,_,_,_,_,_,_,_,_,i,_⟩|⟨_,_,_,_,_,i,_⟩;cases i;cases i;rotate_left;cases i;cases i;injection i with e1 Z e3 e4 e5;injection h1 with f1 f2 f3 f4 f5;subst Z e4 f2 f4;have f:Ob ((tmp,.vw W N O n2 lo m)::env) H:=⟨λp o=>by rcases As.1 o with rfl|o;intro x I;simp only[TV.refs,Ax]at I;subst I;exact Wt h2;exact ok.env p o,ok.heap⟩
     have q:=NB z R k f hl (λp o=>by rcases As.1 o with rfl|o;exact⟨_,ZY I (λe=>by cases e),XX.refl _⟩;exact he p o) hr lp;refine⟨λt G=>?_,q.ok,q.env,q.hr,q.step,q.len,q.same⟩;have:=Qi.1 G;rw[q.get t this.2];simp[Bi.get,beq_false λe=>this.1 e.symm]
    cases k
   cases h
  cases h
def bQ(n:Nat):Ψ B0->Bool
 |[]=>ζ
 |.own id _ _ _::r=>Nat.blt id n&&bQ n r
 |.raw v::r=>v.idsAll (Nat.blt · n)&&bQ n r
 |_::r=>bQ n r
mutual
def wM(n:Nat):TV->Bool
 |.c x=>bQ n [x]
 |.g cs=>bQ n cs
 |.aptr id .. =>Nat.blt id n
 |.bptr id .. =>Nat.blt id n
 |.vw id .. =>Nat.blt id n
 |.vptr cs post=>bQ n cs&&Af.idsAllL (Nat.blt · n) post
 |.tup vs=>xY n vs
def xY(n:Nat):Ψ TV->Bool
 |[]=>ζ
 |v::r=>wM n v&&xY n r
end
def vf(n:Nat):Bi->Bool
 |[]=>ζ
 |(_,v)::r=>wM n v&&vf n r
def ma(n:Nat):Aw->Bool
 |[]=>ζ
 |.live _ cs::r=>bQ n cs&&ma n r
 |.lp _ _ _ env _ _ _ _::r=>vf n env&&ma n r
 |_::r=>ma n r
def mA(h:Nat.blt N n=ζ):τ (N<n)=ζ:=t!
def lJ(h:Pure l)(n:Nat):(l.idsAll λid=>decide (id<n))=ζ:=Rt (λ_ h=>by cases h) l h
def zW:∀{x:B0},bQ n [x]=ζ->(∀v∈x.enc,(v.idsAll λid=>decide (id<n))=ζ)/\(x.one.idsAll λid=>decide (id<n))=ζ
 |.bl _,_=>⟨λv b=>by simp only[B0.enc,Ax]at b;subst b;rfl,rfl⟩
 |.it _ _,_=>⟨λv b=>by simp only[B0.enc,Ax]at b;subst b;rfl,rfl⟩
 |.st _,_=>⟨λv b=>by simp only[B0.enc,Ax]at b;subst b;rfl,rfl⟩
 |.ls t l,_=>⟨λv b=>by simp only[B0.enc,Ax]at b;subst b;exact lJ ((Ty.list t).enc_pure l) n,lJ ((Ty.list t).enc_pure l) n⟩
 |.ar m t a,_=>by have h:=lJ ((Ty.arr m t).enc_pure a) n;refine⟨λv b=>?_,h⟩;exact((D7 _ _).1 h) v b
 |.own id ver t m,h=>by simp only[bQ,Ry]at h;have:=mA h;exact⟨λv b=>by simp only[B0.enc,Ax]at b;subst b;exact this,this⟩
 |.nil,_=>⟨λv b=>by simp only[B0.enc,Ax]at b;subst b;rfl,rfl⟩
 |.raw v,h=>by simp only[bQ,Ry]at h;have:=Rt (λ_ h=>mA h) v h;exact⟨λu c=>by simp only[B0.enc,Ax]at c;subst c;exact this,this⟩
def wL{r:Ψ B0}(h:bQ n (I::r)=ζ):bQ n [I]=ζ/\bQ n r=ζ:=by cases I<;>simp only[bQ,Ry,BQ]at h⊢ <;>first|exact h|exact⟨P!,h⟩
def mE{n}:∀{b},bQ n b=ζ->Af.idsAllL (λid=>decide (id<n)) (lvs b)=ζ
 |[],_=>rfl
 |x::r,h=>by obtain⟨c,d⟩:=wL h;rw[IQ,D7];intro v a;rcases Ah.1 a with a|a;exact(zW c).1 v a;exact((D7 _ _).1 (mE d)) v a
mutual
theorem gr{n}:∀{v},wM n v=ζ->(v.enc.idsAll λid=>decide (id<n))=ζ
 |.c x,h=>(zW h).2
 |.g cs,h=>mE h
 |.aptr ..,h=>mA h
 |.bptr ..,h=>mA h
 |.vw id ver t k lo m,h=>by have b:=mA h;show((vwE id k t.sz lo m).idsAll λid=>decide (id<n))=ζ;unfold vwE;split;split;exact b;rfl;exact b
 |.vptr cs post,h=>by simp only[wM,BQ]at h;simp only[TV.enc,Af.idsAll];rw[D7];intro v a;rcases Ah.1 a with a|a;exact((D7 _ _).1 (mE h.1)) v a;exact((D7 _ _).1 (Jw (λ_ h=>mA h) post h.2)) v a
 |.tup vs,h=>by simp only[wM]at h;simp only[TV.enc,Af.idsAll];exact rW h
theorem rW{n:Nat}:∀{a},xY n a=ζ->Af.idsAllL (λid=>decide (id<n)) (TV.encL a)=ζ
 |[],_=>rfl
 |v::r,h=>by simp only[xY,BQ]at h;simp only[TV.encL,Af.idsAllL,BQ];exact⟨gr h.1,rW h.2⟩
end
def mC{n:Nat}:∀{env},vf n env=ζ->∀p∈env,wM n p.2=ζ
 |[],_,p,a=>by cases a
 |(t,v)::r,h,p,a=>by simp only[vf,BQ]at h;rcases As.1 a with rfl|a;exact h.1;exact mC h.2 p a
def mD{n}:∀{H},ma n H=ζ->∀e∈BH H,(e.idsAll λid=>decide (id<n))=ζ
 |x::r,h,e,c=>by
  have g:ma n r=ζ:=by cases x<;>simp only[ma,BQ]at h<;>first|exact h|exact h.2
  simp only[BH,Bs,As]at c;rcases c with rfl|c;cases x with
  |dead=>rfl
  |live b o=>simp only[ma,BQ]at h;exact mE h.1
  |buf b t l m k=>simp only[D9.enc,Fv.idsAll];rw[D7];intro v d;obtain⟨u,j,d⟩:=En.1 d;obtain⟨y,_,rfl⟩:=BY.1 j;have h:=lJ (t.E.pure y) n;cases q:t.E.f y<;>simp_all[Af.idsAll,D7,Af.cells]
  |mp=>rfl
  |lp ro F m env w a b s=>simp only[ma,BQ]at h;simp only[D9.enc,Fv.idsAll,B6,List.all_map,Ga];exact λp i=>gr (mC h.1 p i)
  exact mD g e c
def Fp.cut{N n0:Nat}{env:Env}{H:Ay}(hn:n0≤θ H)(d:∀t v,(t,v)∈env→(v.idsAll λid=>decide (id<n0))=ζ)
  (c:∀e∈H.take n0,(e.idsAll λid=>decide (id<n0))=ζ):Fp N n0 env H env (H.take n0):=
 ⟨w!,λX g a w s=>⟨g,⟨s.sim.trunc hn c,λt v m=>⟨(s.env t v m).1,(s.env t v m).2.trunc hn (d t v m)⟩,s.size⟩,λ_ _=>⟨rfl,rfl,rfl⟩,λB b=>iv b⟩⟩
theorem wP{e:Fv}(h:(BH c)[N]?=δ e):∃x,c[N]?=δ x/\e=x.enc:=by grind[BH]
theorem HR.rel(A:θ D<=θ c)(hr:HR c D [])(x:Cx):To x x (BH c) (BH D++(BH c).drop (θ D)):=by
 refine⟨by simp[BH];omega,λj w z=>?_⟩;have same:∀{y:D9},c[j]?=δ y->w=y.enc->w=.dead\/(∃g p o,(BH c)[j]?=δ (.live g p)/\w=.live g o/\θ o=θ p/\∀(i:Nat)(f:Af),o[i]?=δ f->∃v,p[i]?=δ v/\Conv x x v f)\/((BH c)[j]?=δ w/\∀g p,w≠.live g p):=by
  intro y u q;have d:(BH c)[j]?=δ y.enc:=by grind[BH]
  subst q;cases y with
  |dead=>exact .inl rfl
  |live b p=>exact .inr (.inl ⟨_,_,_,d,rfl,rfl,λi f h=>⟨f,h,λ_ r=>r⟩⟩)
  |buf b t l m J=>exact .inr (.inl ⟨_,_,_,d,rfl,rfl,λi f h=>⟨f,h,λ_ r=>r⟩⟩)
  |lp=>exact .inr (.inr ⟨d,λ_ _ h=>by cases h⟩)
  |mp=>exact .inr (.inr ⟨d,λ_ _ h=>by cases h⟩)
 rcases A1 j (θ D)with h|h;rw[Cb (by rw[Cf];exact h)]at z;obtain⟨y,u,rfl⟩:=wP z;obtain⟨e,q,B⟩:=hr j y rfl u;rcases B with rfl|⟨b,p,C,o,rfl,rfl,A⟩|⟨b,t,l,m,v,C,f,rfl,rfl⟩|⟨ro,I,F,n,env,L,a,b,s,rfl,rfl⟩|⟨b,C,k,t,K,rfl,rfl⟩;exact .inl rfl;refine .inr (.inl ⟨0,lvs p,lvs o,by simp only[BH,CO,q,Bw,D9.enc],rfl,A.1,λi f E=>?_⟩);obtain⟨v,G,H⟩:=A.2 i f E;exact⟨v,G,H x⟩;exact same q rfl;exact same q rfl;exact same q rfl;rw[Cu (by rw[Cf];exact h),KJ]at z;rw[Cf]at z;grind[wP]
def IS.weak{N}{b}{H}(s:IS e b q L H Y c)(k:θ H≤θ b)(n:vf (θ H) Y=ζ)(o:ma (θ H) c=ζ):
  Fp N (θ H) (B6 e) (BH b) (B6 Y) (BH c):=by
 have g:θ c<=θ b:=by rw[s.len];exact k
 have x:Fp N (BH b).length (B6 e) (BH b) (B6 Y) (BH c++(BH b).drop (θ c)):=by refine Wy (by simp[BH];omega) λX h w _=>?_;have a:=(HR.rel g s.hr (cx X h (BH b) w)).onto;refine⟨a,λt z m=>?_⟩;obtain⟨p,j,A⟩:=BY.1 m;injection A with d f;subst d f;obtain⟨v,u,i⟩:=s.env p j;exact⟨v.enc,BY.2 ⟨_,u,rfl⟩,λB r=>(i _ B r).later a.later⟩
 have l:(BH c++(BH b).drop (θ c)).take (θ H)=BH c:=by rw[<-s.len,<-Cf c,F6];rfl
 have y:Fp N (θ H) (B6 Y) (BH c++(BH b).drop (θ c)) (B6 Y) (BH c):=by have:=Fp.cut (N:=N) (n0:=θ H) (env:=B6 Y) (H:=BH c++(BH b).drop (θ c)) (by simp[BH,s.len]) (λt v m=>by obtain⟨p,j,A⟩:=BY.1 m;injection A with d f;subst d f;exact gr (mC n p j)) (by rw[l];exact mD o);rwa[l]at this
 exact(x.of_le (by rw[Cf];exact k)).trans y
def wR:Exit->Exit->Bool
 |.normal,.normal=>ζ
 |.exit a,.exit b=>ξ a b
 |.ret,.ret=>ζ
 |_,_=>η
def uN{b}(h:wR J b=ζ):J=b:=by cases J<;>cases b<;>simp only[wR]at h<;>first|rfl|cases h|exact E! _ (DQ h)
structure Hint where
 kind:Nat
 key:Nat
 virt:List (Nat×Ty)
 virtC:List (Nat×Nat×Ty)
 kill:List Nat
 drop:List Nat
 slots:List Pa
 exits:List (Exit×List Pa)
def vu(n id:Nat):Nat:=match Nat.ble 100 id with|true=>id+n-150|false=>id
def Part.rel(n:Nat):Part->Part
 |.o id=>.o (vu n id)
 |p=>p
def Pa.rel(n:Nat):Pa->Pa
 |.g tmp id=>.g tmp (vu n id)
 |.p id ps=>.p (vu n id) (ps.map (Part.rel n))
 |.u id ty=>.u (vu n id) ty
 |.x id=>.x (vu n id)
 |.y id st=>.y (vu n id) st
 |.m id kk ty=>.m (vu n id) kk ty
 |.w tmp id=>.w tmp (vu n id)
 |z=>z
def Hint.rel(n:Nat)(h:Hint):Hint:=⟨h.kind,h.key,h.virt,h.virtC.map λp=>(vu n p.1,p.2),h.kill.map (vu n),h.drop,h.slots.map (Pa.rel n),h.exits.map λp=>(p.1,p.2.map (Pa.rel n))⟩
def Hint.tmps(h:Hint):Ψ Nat:=h.drop++h.virt.map (·.1)++WN h.slots++h.exits.flatMap λp=>WN p.2
def xF(n:Nat):∀l:Ψ Pa,WN (l.map (Pa.rel n))=WN l
 |[]=>rfl
 |s::r=>by cases s<;>simp[WN,Pa.rel,xF n r]
def T0(n:Nat)(h:Hint):(h.rel n).tmps=h.tmps:=by simp[Hint.tmps,Hint.rel,xF,List.flatMap_map]
def nD(kind key:Nat):Ψ Hint->Ω Hint
 |[]=>ε
 |h::r=>match ξ kind h.kind&&ξ key h.key with|true=>δ h|false=>nD kind key r
def zI:Code->Ω Nat
 |.region id _ _=>δ id
 |.seq a b=>match zI a with|some x=>δ x|none=>zI b
 |.cond _ a b=>match zI a with|some x=>δ x|none=>zI b
 |.block _ b=>zI b
 |.loop b=>zI b
 |_=>ε
def ub:Code->Bool
 |.seq a _=>ub a
 |.block _ b=>ub b
 |.loop _=>ζ
 |_=>η
def AKA(b:Code)(r:Nat)(hs:Ψ Hint):Ω Hint:=
 match ub b with
 |true=>(match nD 5 r hs with|some h=>δ h|none=>nD 0 r hs)
 |false=>nD 0 r hs
def hintOf(hs:Ψ Hint):Code->Ω Hint
 |.loop b=>match zI b with|some r=>(match nD 8 r hs with|some h=>δ h|none=>AKA b r hs)|none=>ε
 |.block id _=>nD 1 id hs
 |.cond _ a b=>match zI (.seq a b)with|some r=>nD 2 r hs|none=>ε
 |.region id _ _=>nD 6 id hs
 |_=>ε
def sE(hs:Ψ Hint)(c:Code):Ψ Nat:=
 match hintOf hs c with
 |some h=>h.tmps
 |none=>[]
def tK(hs:Ψ Hint):Code->Code->Ω Hint
 |.region id _ _,.cond _ _ _=>nD 4 id hs
 |_,_=>ε
def vR(hs:Ψ Hint)(a b:Code):Ψ Nat:=
 match tK hs a b with
 |some h=>h.tmps
 |none=>[]
def Pl(hs:Ψ Hint):Code->Ψ Nat
 |.region id ops d=>o7 ops.toList++sE hs (.region id ops d)
 |.seq a b=>(Pl hs a++Pl hs b)++vR hs a b
 |.cond c a b=>Pl hs a++Pl hs b++sE hs (.cond c a b)
 |.block id b=>Pl hs b++sE hs (.block id b)
 |.loop b=>Pl hs b++sE hs (.loop b)
 |_=>[]
def yk:TV->Bool
 |.c (.raw .any)=>ζ
 |_=>η
def AEL(h:yk t=η):t≠Vy:=by rintro rfl;cases h
def xj(H:Aw)(id:Nat):Bool:=match H[id]? with|some (.buf η _ _ _ _)=>ζ|_=>η
def jK(A S:Ψ Nat)(H:Aw)(t:Nat)(v:TV):Bool:=
 match Ji t A with
 |true=>η
 |false=>match yk v with
  |true=>η
  |false=>(MB v.refs).all λid=>!(Ji id S&&xj H id)
def RS(A S:Ψ Nat)(H:Aw):Bi->Bi
 |[]=>[]
 |(t,v)::r=>match jK A S H t v with|true=>(t,v)::RS A S H r|false=>RS A S H r
def qw:Bi->Bool
 |[]=>ζ
 |(t,_)::r=>!Ji t (r.map (·.1))&&qw r
theorem Wq(h:N∉b):Ji N b=η:=by
 cases a:Ji N b with
 |false=>rfl
 |true=>induction b<;>grind[Ji,Nat.eq_of_beq_eq_true]
def aV:∀{env},qw env=ζ->(env.map (·.1)).Nodup
 |[],_=>RO
 |(t,v)::r,h=>by simp only[qw,BQ,WW]at h;exact Gk.2 ⟨Us h.1,aV h.2⟩
theorem ly{A S}{H}:∀{env:Bi},(env.map (·.1)).Nodup->∀t,jK A S H t (env.get t)=ζ->(RS A S H env).get t=env.get t
 |[],_,t,_=>rfl
 |(u,v)::r,nd,t,h=>by have a:=Gk.1 nd;simp only[Bi.get]at h⊢;by_cases b:u=t;grind[Nat.beq_refl,RS,Bi.get];rw[beq_false b]at h⊢;have c:=ly a.2 t h;grind[RS,Bi.get,beq_false]
theorem R3{A S:Ψ Nat}{H:Aw}:∀{env:Bi},(env.map (·.1)).Nodup->∀p∈RS A S H env,env.get p.1=p.2/\jK A S H p.1 p.2=ζ/\p∈env
 |(u,v)::r,nd,p,h=>by
  have a:=Gk.1 nd;have tail:p∈RS A S H r->Bi.get ((u,v)::r) p.1=p.2/\jK A S H p.1 p.2=ζ/\p∈(u,v)::r:=λh=>by obtain⟨b,c,d⟩:=R3 a.2 p h;grind[Bi.get,beq_false]
  grind[RS,Bi.get,Nat.beq_refl]
theorem AHG(H:Aw):LpS (K1 b 0 H) H:=by intro id c ro F n env d a S s h;rw[Jg,h];split;grind;exact⟨_,_,rfl⟩
theorem AE4(H:Aw):LpS H (K1 b 0 H):=by
 intro id d ro F n env f a S s h;rw[Jg]at h;cases c:H[id]? with
 |none=>grind
 |some e=>
  rw[c]at h;simp at h;split at h;grind;cases e with
  |lp=>injection h with _ g i j k l m _;grind
  |_=>cases h
def oE{id a n}{t}:∀{b:Ψ B0},B0.own id a t n∈b->id∈MB b
 |x::r,h=>by rcases As.1 h with rfl|h;exact Gj;have:=oE h;cases x<;>simp only[MB]<;>first|exact this|exact CU _ this
def zU(h:jK b E c N t=ζ)(m:t.ok c)(st:CN (K1 E 0 c) D):pP D t:=by
 intro id o r n g;unfold jK at h;split at h;cases h;split at h;cases h;have A:=Ga.1 h id (oE g);have d:id<θ c:=(m _ g).1;refine st.nb id (by rw[I4];exact d) λq l p i a=>?_;rw[Jg,Dg]at a;cases S:c[id]? with
 |none=>rw[S]at a;cases a
 |some e=>rw[S]at a;simp only[Bw,Av]at a;split at a;rename_i k;subst a;simp only[k,xj,S]at A;cases A;cases e<;>simp only[D9.lock]at a<;>first|cases a|(injection a with j;cases j)
theorem AE2(g:Ji N b=η)(i:yk t=η)(j:pP c t):jK b E c N t=ζ:=by
 unfold jK;rw[g,i];refine Ga.2 λid e=>?_;have:∃d f n,B0.own id d f n∈t.refs:=by
  generalize t.refs=cs at e;induction cs with
  |nil=>cases e
  |cons x r m=>
   cases x with
   |own l d f n=>grind[MB]
   |_=>obtain⟨a,A,S,h⟩:=m e;grind
 obtain⟨d,f,n,k⟩:=this;have:=j id d f n k;grind[xj]
def AJG:Ψ Part->Ψ Nat
 |[]=>[]
 |.o id::r=>id::AJG r
 |_::r=>AJG r
def nL(env:Bi)(H:Aw):Ψ Pa->Ψ Nat
 |[]=>[]
 |.t tmp _::r=>MB (env.get tmp).refs++nL env H r
 |.p id ps::r=>(match H[id]? with|some (.live _ cs)=>(MB cs).filter λi=>!Ji i (AJG ps)|_=>[])++nL env H r
 |_::r=>nL env H r
def yx(sl:Ψ Pa)(env:Bi)(H:Aw):Ω (DL (fO sl)):=
 match I7 (nL env H sl) env H with
 |(e,h)=>match Yw e h sl with|some ds=>AA4 (fO sl) ds|none=>ε
def yA:Ψ (Exit×Ψ Pa)->Type
 |[]=>Unit
 |[p]=>DL (fO p.2)
 |p::q::r=>DL (fO p.2)⊕yA (q::r)
def ABA:(xs:Ψ (Exit×Ψ Pa))->Exit->Bi->Aw->Ω (yA xs)
 |[],_,_,_=>ε
 |[p],x,env,H=>match wR p.1 x with|true=>yx p.2 env H|false=>ε
 |p::q::r,x,env,H=>
  match wR p.1 x with
  |true=>(match yx p.2 env H with|some s=>δ (.inl s)|none=>ε)
  |false=>(match ABA (q::r) x env H with|some s=>δ (.inr s)|none=>ε)
def AJO{R:Type}:(xs:Ψ (Exit×Ψ Pa))->yA xs->(Exit->Ψ Pa->Ψ DV->Ω R)->Ω R
 |[],_,_=>ε
 |[p],s,k=>k p.1 p.2 (dvs (fO p.2) s)
 |p::q::r,o,k=>ν (λs=>k p.1 p.2 (dvs (fO p.2) s)) (AJO (q::r) · k) o
def yB:(xs:Ψ (Exit×Ψ Pa))->yA xs->Exit×Ψ Pa×Ψ DV
 |[],_=>(.normal,[],[])
 |[p],s=>(p.1,p.2,dvs (fO p.2) s)
 |p::q::r,.inl s=>(p.1,p.2,dvs (fO p.2) s)
 |p::q::r,.inr s=>yB (q::r) s
def ww{R:Type}:∀{xs}{o}{k}{r:R},AJO xs o k=δ r->k (yB xs o).1 (yB xs o).2.1 (yB xs o).2.2=δ r
 |[],_,_,_,h=>by cases h
 |[p],s,k,r,h=>h
 |p::q::t,.inl s,k,r,h=>h
 |p::q::t,.inr s,k,r,h=>ww (xs:=q::t) h
def AGM(sl:Ψ Pa)(ds:Ψ DV)(env:Bi)(H:Aw):Prop:=Yw (I7 (nL env H sl) env H).1 (I7 (nL env H sl) env H).2 sl=δ ds
theorem nk{s:DL (fO q)}(h:yx q e c=δ s):AGM q (dvs (fO q) s) e c:=by grind[yx,AGM,qv]
def wy:∀{xs}{x}{env}{H}{o:yA xs},ABA xs x env H=δ o→
  (yB xs o).1=x/\AGM (yB xs o).2.1 (yB xs o).2.2 env H/\∃p∈xs,(yB xs o).2.1=p.2
 |[p],x,env,H,o,h=>by simp only[ABA]at h;split at h;rename_i a;exact⟨uN a,nk h,p,k!,rfl⟩;cases h
 |p::q::r,x,env,H,o,h=>by simp only[ABA]at h;split at h;rename_i a;split at h;rename_i s b;injection h with h;subst h;exact⟨uN a,nk b,p,k!,rfl⟩;cases h;split at h;rename_i s b;injection h with h;subst h;obtain⟨d,e,c,f,g⟩:=wy (xs:=q::r) b;exact⟨d,e,c,CU _ f,g⟩;cases h
structure AAQ(A S:List Nat)(env0:Bi)(H0:Aw)(e2:Bi)(h2:Aw):Prop where
 ok:Ob e2 h2
 step:CN (K1 S 0 H0) h2
 len:h2.length=H0.length
 same:∀j,Ji j S=false->h2[j]?=(K1 S 0 H0)[j]?
 get:∀p∈RS A S H0 env0,e2.get p.1=p.2
theorem ABp{A B S:List Nat}{env0:Bi}{a:Aw}{L:Bi}{s:Aw}(m:Ob env0 a)(nd:(env0.map (·.1)).Nodup)(g:AAQ A S env0 a L s)
  {env1:Bi} {d:Aw} (G:Ob env1 d) (st:Ea B L s env1 d) (U: ∀t,t∈B->t∈A) {o:List Pa} {K:List DV} (W:AGM o K env1 d)
  {Hx:Aw} (J: ∀e∈Hx,e.ok Hx) (y:Hx.length=a.length) (F:LpS Hx (K1 S 0 a)) (rx: ∀id c t n,Sp a id c t n->Sp Hx id c t n) (E: ∀(j:Nat) (i:D9),Ji j (MD o)=false->Hx[j]? =some i->i= .dead\/ ∃e,Ji j S=false/\(K1 S 0 a)[j]? =some e/\e.ro=true/\AIj e i)
  {r:Bi} {f:Aw} (Y:Wn o K (RS A S a env0) Hx=some (r,f)) (ce:vf a.length r=true) (ch:ma a.length f=true) (N:Nat):
  Fp N a.length (B6 env1) (BH d) (B6 r) (BH f)/\ ∃P V,IS P V o (RS A S a env0) Hx r f:=by
 obtain⟨I,z,wf⟩:=R8 (nL env1 d o) G;have u:a.length<=d.length:=by rw[<-g.len];exact st.step.len
 have b:=Ea.trans g.ok.env st z;have H: ∀p∈RS A S a env0,p.2.ok Hx:=λp v x E=>by
  have:=m.env p (R3 nd p v).2.2 x E;cases x with
  |own id c t n=>exact rx _ _ _ _ this
  |_=>trivial
 have q:=NB I W Y ⟨H,J⟩ (by rw[y];exact C5 u z.step.len) (λp v=>by
  obtain⟨b1,M,O⟩:=R3 nd p v;have hk:=zU M (m.env p O) g.step;have T:Ji p.1 A=false:=by grind[jK]
  have k:yk p.2=false:=by grind[jK]
  have X:=g.get p v;have:=b.same p.1 (λh=>by rw[DR]at h;exact Us T (U _ h)) (by grind);rw[X]at this;exact⟨p.2,ZY this (AEL k),XX.refl _⟩) (λj i Z C=>by
   have D:j<a.length:=by grind
   rcases E j i Z C with rfl|⟨e,Q,s,f,R⟩
   ·exact⟨_,Au (DX D (C5 u z.step.len)),.inl rfl⟩
   ·exact⟨e,b.step.ro j e (by rw[g.same j Q];exact s) f,R⟩) (λid l _ _ _ _ _ _ _ _ hq=>by
  obtain⟨ad,s1,q1⟩:=(g.step.trans b.step).lp id (by rw[I4,<-y];exact l) _ _ _ _ _ _ _ _ hq;exact F id l _ _ _ _ _ _ _ _ q1)
 have w:=q.weak (N:=N) (by rw[y];exact C5 u z.step.len) (by grind) (by grind);rw[y]at w;exact⟨((wf N).of_le (by rw[Cf];exact u)).trans w,_,_,q⟩
open Classical in
noncomputable def vH{α:Type}(g:Ψ α->Unit->Ω (Ψ α))(l:Ψ α):Ω (Ψ α):=if∀m,l.Perm m->g m ()=g l ()then g l ()else ε
theorem ABE{g:Ψ R->Unit->Ω (Ψ R)}{l s:Ψ R}(h:vH g l=δ s):∀m,l.Perm m->g m ()=δ s:=by grind[vH]
def yE:Ψ Oper->Ω (Nat×Nat×Nat×TypeId×TypeId)
 |[⟨δ a1,.load ty1 (.tmp c0),_,_,_,ε⟩,⟨δ a2,.range ty2 (.tmp b1),_,_,_,ε⟩]=>match ξ a1 b1 with|true=>δ (c0,a1,a2,ty1,ty2)|false=>ε
 |_=>ε
def vC:Ψ Oper->Ω (Nat×Nat×Nat)
 |[⟨δ a3,.next (.tmp a2) η,_,_,_,ε⟩,⟨δ a4,.extract (.tmp b3) 0,_,_,_,ε⟩]=>match ξ a3 b3 with|true=>δ (a2,a3,a4)|false=>ε
 |_=>ε
def vD:Ψ Oper->Ω (Nat×Nat×Nat×Nat×TypeId×TypeId)
 |[⟨δ a5,.entry (.tmp a2),_,_,_,ε⟩,⟨δ a6,.extract (.tmp b5) 1,_,_,_,ε⟩,⟨δ a7,.alloc te1,_,_,_,ε⟩,⟨ε,.store te2 (.tmp b7) (.tmp b6),_,_,_,ε⟩]=>
  match ξ a5 b5&&(ξ a6 b6&&ξ a7 b7)with|true=>δ (a2,a5,a6,a7,te1,te2)|false=>ε
 |_=>ε
def vE:Ψ Oper->Ω (Nat×Nat×Nat×Nat×Nat×Nat×TypeId×TypeId×TypeId)
 |[⟨δ a8,.move (.tmp out),_,_,_,ε⟩,⟨δ a9,.load te3 (.tmp a7),_,_,_,ε⟩,⟨δ a10,.buildSlice ts1 1 ⟨[(0,.tmp b9)]⟩,_,_,_,ε⟩,
   ⟨δ a11,.call {callee:=.builtin .append,args:=⟨[.tmp b8,.tmp b10]⟩,argTypes:=⟨[ts2,ts3]⟩},_,_,_,ε⟩,⟨δ out2,.assign (.tmp b11),_,_,_,ε⟩]=>
  match ξ a8 b8&&(ξ a9 b9&&(ξ a10 b10&&(ξ a11 b11&&(ξ out out2&&ξ ts2 ts3))))with|true=>δ (out,a7,a8,a9,a10,a11,te3,ts1,ts2)|false=>ε
 |_=>ε
def yF:Ψ Oper->Ω (Nat×Nat×Nat×FuncId×FuncId)
 |[⟨δ a12,.move (.tmp out),_,_,_,ε⟩,⟨δ a13,.call {callee:=.value (.func F),args:=⟨[.tmp b12,.func G]⟩,.. },_,_,_,ε⟩]=>match ξ a12 b12 with|true=>δ (out,a12,a13,F,G)|false=>ε
 |_=>ε
def sL(h:yE g=δ (N,n,G,i,W)):
  ∃e c a f d b,g=[⟨δ n,.load i (.tmp N),e,c,a,ε⟩,⟨δ G,.range W (.tmp n),f,d,b,ε⟩]:=by
 unfold yE at h;split at h;split at h<;>simp_all;cases h
def sM(h:vC g=δ (N,n,G)):
  ∃e c a f d b,g=[⟨δ n,.next (.tmp N) η,e,c,a,ε⟩,⟨δ G,.extract (.tmp n) 0,f,d,b,ε⟩]:=by
 unfold vC at h;split at h;split at h<;>simp_all;cases h
def sN{a7:Nat}(h:vD g=δ (N,n,G,a7,i,W)):
  ∃j e a k f b m l c p o d,g=[⟨δ n,.entry (.tmp N),j,e,a,ε⟩,⟨δ G,.extract (.tmp n) 1,k,f,b,ε⟩,⟨δ a7,.alloc i,m,l,c,ε⟩,⟨ε,.store W (.tmp a7) (.tmp G),p,o,d,ε⟩]:=by
 unfold vD at h;split at h;split at h<;>simp_all;cases h
def sO{a9 a10 a11:Nat}{ts2:TypeId}(h:vE g=δ (N,n,G,a9,a10,a11,i,W,ts2)):
  ∃m f a s l b o r c p j d q k e,g=[⟨δ G,.move (.tmp N),m,f,a,ε⟩,⟨δ a9,.load i (.tmp n),s,l,b,ε⟩,⟨δ a10,.buildSlice W 1 #[(0,.tmp a9)],o,r,c,ε⟩,⟨δ a11,.call {callee:=.builtin .append,args:= #[.tmp G,.tmp a10],argTypes:= #[ts2,ts2]},p,j,d,ε⟩,⟨δ N,.assign (.tmp a11),q,k,e,ε⟩]:=by
 unfold vE at h;split at h;split at h<;>simp_all;cases h
def sP{i:FuncId}(h:yF g=δ (N,n,G,F,i)):
  ∃f d b a l e c,g=[⟨δ n,.move (.tmp N),f,d,b,ε⟩,⟨δ G,.call {callee:=.value (.func F),args:= #[.tmp n,.func i],argTypes:=a},l,e,c,ε⟩]:=by
 unfold yF at h;split at h;split at h<;>simp_all;cases h
structure Yb where
 c0:Nat
 a1:Nat
 a2:Nat
 a3:Nat
 a4:Nat
 a5:Nat
 a6:Nat
 a7:Nat
 a8:Nat
 a9:Nat
 a10:Nat
 a11:Nat
 a12:Nat
 a13:Nat
 out:Nat
 ty1:TypeId
 ty2:TypeId
 te1:TypeId
 te2:TypeId
 te3:TypeId
 ts1:TypeId
 ts2:TypeId
 F:FuncId
 G:FuncId
def xy:Ψ Nat->Bool
 |[]=>ζ
 |t::r=>!Ji t r&&xy r
def sJ:∀{l},xy l=ζ->l.Nodup
 |[],_=>RO
 |t::r,h=>by simp only[xy,BQ,WW]at h;exact Gk.2 ⟨Us h.1,sJ h.2⟩
def ou:Code->Code->Ω Yb
 |.seq (.region _ o1 η) (.block b1 (.loop (.seq (.region _ o2 η) (.seq (.cond (.tmp x4) .skip (.exit b2)) (.block _ (.seq (.region _ o3 η) (.region _ o4 η))))))),.region _ o5 η=>
  match yE o1.toList,vC o2.toList,vD o3.toList,vE o4.toList,yF o5.toList with
  |some (c0,a1,a2,ty1,ty2),δ (x2,a3,a4),δ (y2,a5,a6,a7,te1,te2),δ (out,x7,a8,a9,a10,a11,te3,ts1,ts2),δ (out2,a12,a13,F,G)=>
   match (ξ b1 b2&&(ξ a4 x4&&(ξ a2 x2&&(ξ a2 y2&&(ξ a7 x7&&ξ out out2)))))&&xy [out,a1,a2,a3,a4,a5,a6,a7,a8,a9,a10,a11,a12,a13]with
   |true=>δ ⟨c0,a1,a2,a3,a4,a5,a6,a7,a8,a9,a10,a11,a12,a13,out,ty1,ty2,te1,te2,te3,ts1,ts2,F,G⟩
   |false=>ε
  |_,_,_,_,_=>ε
 |_,_=>ε
def Yb.tmps(p:Yb):Ψ Nat:=[p.out,p.a1,p.a2,p.a3,p.a4,p.a5,p.a6,p.a7,p.a8,p.a9,p.a10,p.a11,p.a12,p.a13]
def aK(A:Ψ Nat):Bi->Bi
 |[]=>[]
 |(t,v)::r=>match Ji t A with|true=>aK A r|false=>(t,v)::aK A r
def We{A:Ψ Nat}:∀{env}{q:Nat×TV},q∈aK A env->q∈env/\q.1∉A
 |[],_,h=>by cases h
 |(t,v)::r,q,h=>by simp only[aK]at h;split at h;exact⟨CU _ (We h).1,(We h).2⟩;rename_i a;rcases As.1 h with rfl|h;exact⟨Gj,Us a⟩;exact⟨CU _ (We h).1,(We h).2⟩
theorem qQ{A:Ψ Nat}{u:Nat}(a:u∉A):∀env:Bi,(aK A env).get u=env.get u
 |[]=>rfl
 |(t,v)::r=>by
  simp only[aK,Bi.get];split;rename_i b;have:t≠u:=λe=>by grind[Wq]
  rw[beq_false this];exact qQ a r;simp[Bi.get,qQ a r]
noncomputable def AEa(P:Program)(N:Nat)(cs:Ψ RI)(p:Yb)(env:Bi)(H:Aw){R:Type}(k:Bi->Aw->Ω R):Ω R:=
 match env.get p.c0,env.get p.out with
 |.c (.raw (.ptr c 0 0)),.c .nil=>
  match H[c]? with
  |some (.live _ [.raw (.mp id)])=>
   match H[id]?,wV cs p.F,Enters P p.F with
   |some (.mp _ kk ty es),δ (.c2 _ te [] [] [.fn (.func G) [] []] g),ζ=>
    if h:(Ty.list ty).beq (Ty.list te)=ζ then
     match tI P p.ty1,P.underlying p.ty2,tI P p.te2,tI P p.te3,Za P p.te1,eI P p.ts1,eI P p.ts2 with
     |some (η,_),δ (.map kt _),δ (_,n2),δ (tr3,n3),δ z,δ (ε,e1,s1),δ (ε,e2,s2)=>
      match (ξ G p.G&&(te.isAgg&&(ξ n2 te.sz&&(tr3&&(ξ n3 te.sz&&(ξ (θ z) te.sz&&(ξ s1 te.sz&&(ξ s2 te.sz&&(Sy P e1&&(Sy P e2&&Nat.ble te.sz 4096))))))))))&&
        ((match P.underlying kt with|some (.int k2)=>decide (k2=kk)|_=>η)&&(vf (θ H) (aK p.tmps env)&&(ma (θ H) H&&p.tmps.all λt=>Nat.blt t N)))with
      |true=>cond (τ (((θ es:Nat):Int)≤16777216))
        ((vH g (Ty.cast h (es.map (·.2)))).bind λs=>cond (ξ (θ s) (θ es)) (k ((p.out,.c (.own (θ H) 0 te (θ s)))::aK p.tmps env) (H++[.buf η te s (θ s) 0,.dead])) ε) ε
      |false=>ε
     |_,_,_,_,_,_,_=>ε
    else ε
   |_,_,_=>ε
  |_=>ε
 |_,_=>ε
theorem Fa{q:Nat×Af}{v:Af}(h:q∈y)(a:q.1≠N):q∈y.put N v:=CU _ (BG.2 ⟨h,q!⟩)
def yL:(N,l)∈y.put N l:=Gj
def pL{v:Af}:Env.get ((N,v)::y) N=v:=C! rfl
def zK{v:Af}(h:N≠n):Env.get ((N,v)::y) n=y.get n:=D! h
def jN(vals:Ψ R)(seen:Ψ Nat):Ψ R:=seen.filterMap (vals[·]?)
theorem ABX{a:Ψ R}{x:R}(h:a[N]?=δ x):jN a (b++[N])=jN a b++[x]:=by grind[jN]
theorem zt{b:Type}:∀a:Ψ b,(List.range (θ a)).filterMap (a[·]?)=a
 |[]=>rfl
 |x::r=>by
  rw[BW,List.range_succ_eq_map,List.filterMap_cons];simp;have:((λi=>(x::r)[i]?)∘Nat.succ)=(r[·]?):=q!
  rw[this,zt r]
def ABW{a:Ψ R}(hn:E.Nodup)(c:∀j∈E,j<θ a)(b:∀j,j<θ a->j∈E):a.Perm (jN a E):=by have:=((WQ List.nodup_range hn).2 λj=>⟨λh=>b j (Ie.1 h),λh=>Ie.2 (c j h)⟩).filterMap (a[·]?);rwa[zt]at this
section
variable {P:Program}{N:Nat}{env:Env}{H:Ay}{Q:Env->Ay->Prop}{ops:Array Oper}
def XY.nil(h:Q env H):XY P N ops [] env H Q:=⟨_,_,Fp.refl _ _ _,h⟩
def XY.cons(b:o.guard=ε)(h:Jy P N o env H λv a=>XY P N ops g (env.putO o.dst v) a Q):XY P N ops (o::g) env H Q:=by refine⟨_,_,Fp.refl _ _ _,?_⟩;rw[b];exact h
end
variable {A:Hint}{O:Yb}
section
variable {P:Program}{N:Nat}
theorem xX(t:Ty)(l:Ψ t.D):∀v∈t.E.cl l,Pure v:=by intro v a;have⟨u,b,a⟩:=En.1 a;obtain⟨y,_,rfl⟩:=BY.1 b;exact Vl (t.enc_pure y) v a
theorem AFb(h:Pure l)(p:Nat->Bool):l.idsAll p=ζ:=Rt (λ_ h=>by cases h) l h
theorem AEn{p q:Nat->Bool}(h:∀id,p id=ζ->q id=ζ)(e:Fv)(k:e.idsAll p=ζ):e.idsAll q=ζ:=by cases e<;>grind[Jw,Fv.idsAll,List.all_eq_true,Rt]
theorem AIz(t:Ty)(g:Nat)(l:Ψ t.D)(p:Nat->Bool):(Fv.live g (t.E.cl l)).idsAll p=ζ:=by grind[Fv.idsAll,D7,AFb,xX]
theorem flt{a:Type}(p q:a->Bool)(b:∀x,q x=ζ->p x=ζ)(e:a)(d:p e=ζ)(f:q e=η):∀l:Ψ a,e∈l->(l.filter q).length<(l.filter p).length
 |x::l,he=>by
  have c:∀l:Ψ a,(l.filter q).length<=(l.filter p).length:=by intro l;induction l<;>grind
  rcases As.1 he with rfl|h;grind;have:=flt p q b e d f l h;grind
theorem AIG(h:E.Nodup){i j a b:Nat}(d:E[i]?=δ a)(e:E[j]?=δ b)(c:i≠j):a≠b:=by grind[List.getElem?_inj]
def AC1{te:Ty}{kk:IntKind}{es:Ψ (Int×te.D)}{Hb:Ay}{base:Env}{id a2 a3 a4 a5 a6 a7 a8 a9 a10 a11 out:Nat}{b1 b2:Nat}{i2 i3 i4:Nat}{o2 o3 o4:Array Oper}{te1 te2 te3 ts1 ts2:TypeId}{z:Ψ Af}{e1 e2:TypeId}{bb:Bool}
  (h2:vC o2.toList=δ (a2,a3,a4)) (h3:vD o3.toList=δ (a2,a5,a6,a7,te1,te2)) (h4:vE o4.toList=δ (out,a7,a8,a9,a10,a11,te3,ts1,ts2))
  (bG:[out,a2,a3,a4,a5,a6,a7,a8,a9,a10,a11].Nodup) (hN:∀t∈[out,a2,a3,a4,a5,a6,a7,a8,a9,a10,a11],t<N) (hb:∀q∈base,q.1∉ [out,a2,a3,a4,a5,a6,a7,a8,a9,a10,a11])
  (ax:∀q∈base,(q.2.idsAll λj=>decide (j<θ Hb))=ζ) (ap:∀e∈Hb,(e.idsAll λj=>decide (j<θ Hb))=ζ)
  (he:Hb[id]?=δ (.mp kk (es.map λp=>(p.1,te.enc p.2)))) (ar:te.isAgg=ζ) (hz:Za P te1=δ z) (Z:θ z=te.sz) (b4:tI P te2=δ (bb,te.sz)) (b5:tI P te3=δ (ζ,te.sz))
  (bN:eI P ts1=δ (ε,e1,te.sz)) (b0:eI P ts2=δ (ε,e2,te.sz)) (bt:Sy P e1=ζ) (bz:Sy P e2=ζ) (b3:te.sz<=4096) (b6:θ es<=16777216):
  ∀(n:Nat)(seen:Ψ Nat),seen.Nodup->(∀j∈seen,j<θ es)->((List.range (θ es)).filter λj=>! τ (j∈seen)).length<=n->(jN (es.map (·.2)) seen).length+((List.range (θ es)).filter λj=>! τ (j∈seen)).length<=θ es->
   Ib P N (.seq (.region i2 o2 η) (.seq (.cond (.tmp a4) .skip (.exit b1)) (.block b2 (.seq (.region i3 o3 η) (.region i4 o4 η)))))
    ((out,.sl (θ Hb) (jN (es.map (·.2)) seen).length te.sz 0 (jN (es.map (·.2)) seen).length)::(a2,.itp (θ Hb+1) id)::base)
    (Hb++[.live (jN (es.map (·.2)) seen).length (te.E.cl (jN (es.map (·.2)) seen)),.it (θ es) seen])
    λe E h=>e=.exit b1/\∃s,(es.map (·.2)).Perm s/\(∀q∈(out,Af.sl (θ Hb) (θ s) te.sz 0 (θ s))::base,q∈E)/\θ h=θ Hb+2/\(∀j,j<θ Hb->h[j]?=Hb[j]?)/\h[θ Hb]?=δ (.live (θ s) (te.E.cl s)):=by
 obtain⟨t1,p1,x1,t2,p2,x2,l2⟩:=sM h2;obtain⟨t3,p3,x3,t4,p4,x4,t5,p5,x5,t6,p6,x6,l3⟩:=sN h3;obtain⟨t7,p7,x7,t8,p8,x8,t9,p9,x9,b9,b7,ca,b',b8,cb,l4⟩:=sO h4;have D:=λ(i j a b:Nat)=>AIG (i:=i) (j:=j) (a:=a) (b:=b) bG;simp only[As,nQ,or_false,forall_eq_or_imp,forall_eq]at hN;have d2:Pv N o2.toList=ζ:=by rw[l2];simp[Pv,hN]
 have d3:Pv N o3.toList=ζ:=by rw[l3];simp[Pv,hN]
 have d4:Pv N o4.toList=ζ:=by rw[l4];simp[Pv,hN]
 have a0:id<θ Hb:=by rcases A1 id (θ Hb)with h|h;exact h;rw[Cz h]at he;cases he
 have s0:∀(A B C:Fv),(Hb++[A,B]).set (θ Hb+1) C=Hb++[A,C]:=λA B C=>by rw[Tq _ _ o!,show θ Hb+1-θ Hb=1 by omega];rfl
 have s1:∀(A B C D:Fv),(Hb++[A,B,C]).set (θ Hb+2) D=Hb++[A,B,D]:=λA B C D=>by rw[Tq _ _ o!,show θ Hb+2-θ Hb=2 by omega];rfl
 have s2:∀(A B C D:Fv),(Hb++[A,B,C]).set (θ Hb) D=Hb++[D,B,C]:=λA B C D=>by rw[Tq _ _ (Ao _),HG];rfl
 have g0:∀(A:Fv)(r:Ψ Fv),(Hb++A::r)[θ Hb]?=δ A:=λA r=>by rw[Cu (Ao _),HG];rfl
 have g1:∀(A B:Fv)(r:Ψ Fv),(Hb++A::B::r)[θ Hb+1]?=δ B:=λA B r=>by rw[Cu o!,show θ Hb+1-θ Hb=1 by omega];rfl
 have g2:∀(A B C:Fv)(r:Ψ Fv),(Hb++A::B::C::r)[θ Hb+2]?=δ C:=λA B C r=>by rw[Cu o!,show θ Hb+2-θ Hb=2 by omega];rfl
 have gm:∀(r:Ψ Fv),(Hb++r)[id]?=δ (.mp kk (es.map λp=>(p.1,te.enc p.2))):=λr=>by rw[Cb a0];exact he
 have Y:(es.map (·.2)).length=θ es:=BX _;have J:0<te.sz:=te.sz_pos;intro n;induction n using Nat.strongRecOn with
 |ind n ih=>
  intro seen hn hl hr hm;obtain⟨L,hL⟩:∃L,L=jN (es.map (·.2)) seen:=⟨_,rfl⟩
  rw[<-hL]at hm⊢;refine Ib.unroll (KC.seq (GK d2 ?_));rw[l2];apply XY.cons rfl;have d:(es.map λp=>(p.1,te.enc p.2)).length=θ es:=BX _;have ad:out≠a2:=D 0 1 _ _ rfl rfl g!;refine Jy.next (x:=.tmp a2) (id:=θ Hb+1) (m:=id) (k:=kk) (es:=es.map λp=>(p.1,te.enc p.2)) (seen:=seen) rfl ?_ ?_ (gm _) ?_ ?_
  show Env.get _ a2=_;rw[zK ad,pL];rw[d];exact g1 _ _ _;intro G;refine XY.cons rfl (D5 (v:=.bool η) ?_ (XY.nil ?_));show Cp _ _ _ (.extract (.tmp a3) 0)=_;simp only[Cp,BR,Env.putO,Gg,if_true];rfl;refine KC.seq (KC.cond (b:=η) ?_ (λh=>by cases h) (λ_=>KC.exit ?_));simp only[BR,Env.putO,Gg,if_true];refine⟨rfl,L,?_,λq o=>?_,k!,λj hj=>Cb hj,g0 _ _⟩;rw[hL];exact ABW hn (by rw[Y];exact hl) (by rw[Y];rw[d]at G;exact G);have al:out≠a3:=D 0 2 _ _ rfl rfl g!;have ao:out≠a4:=D 0 3 _ _ rfl rfl g!;rcases As.1 o with rfl|o;exact Fa (Fa Gj al) ao;have:=hb q o;simp only[As,not_or]at this;exact Fa (Fa (CU _ (CU _ o)) this.2.2.1) this.2.2.2.1;intro j p hj S;rw[CO]at hj;obtain⟨q,o,e⟩:=Tt.1 hj;subst e;rw[d,s0];refine XY.cons rfl (D5 (v:=.bool ζ) ?_ (XY.nil ?_));show Cp _ _ _ (.extract (.tmp a3) 0)=_;simp only[Cp,BR,Env.putO,Gg,if_true];rfl;have k2:∀m v w,Env.get (Env.put (Env.put ((out,Af.sl (θ Hb) m te.sz 0 m)::(a2,Af.itp (θ Hb+1) id)::base) a3 v) a4 w) a2=.itp (θ Hb+1) id:=λm v w=>by rw[Gg,D! (D 1 3 _ _ rfl rfl g!),Gg,D! (D 1 2 _ _ rfl rfl g!),zK ad,pL]
  have ko:∀m v w,Env.get (Env.put (Env.put ((out,Af.sl (θ Hb) m te.sz 0 m)::(a2,Af.itp (θ Hb+1) id)::base) a3 v) a4 w) out=.sl (θ Hb) m te.sz 0 m:=λm v w=>by rw[Gg,D! (D 0 3 _ _ rfl rfl g!),Gg,D! (D 0 2 _ _ rfl rfl g!),pL]
  have kb:∀m v w,∀q∈base,q∈Env.put (Env.put ((out,Af.sl (θ Hb) m te.sz 0 m)::(a2,Af.itp (θ Hb+1) id)::base) a3 v) a4 w:=λm v w q o=>by have:=hb q o;simp only[As,not_or]at this;exact Fa (Fa (CU _ (CU _ o)) this.2.2.1) this.2.2.2.1
  have ki:∀m v w,(a2,Af.itp (θ Hb+1) id)∈Env.put (Env.put ((out,Af.sl (θ Hb) m te.sz 0 m)::(a2,Af.itp (θ Hb+1) id)::base) a3 v) a4 w:=λm v w=>Fa (Fa (CU _ Gj) (D 1 2 _ _ rfl rfl g!)) (D 1 3 _ _ rfl rfl g!);refine KC.seq (KC.cond (b:=ζ) ?_ (λ_=>KC.skip ?_) (λh=>by cases h));simp only[BR,Env.putO,Gg,if_true];dsimp only[fR];refine KC.block (KC.seq (GK d3 ?_));rw[l3];generalize K:Env.putO (Env.putO ((out,Af.sl (θ Hb) (θ L) te.sz 0 (θ L))::(a2,Af.itp (θ Hb+1) id)::base) (δ a3) (.tup [.bool ζ,.int kk q.1,te.enc q.2])) (δ a4) (.bool ζ)=E;have k2:Env.get E a2=.itp (θ Hb+1) id:=by rw[<-K];exact k2 _ _ _
  have ko:Env.get E out=.sl (θ Hb) (θ L) te.sz 0 (θ L):=by rw[<-K];exact ko _ _ _
  have kb:∀q∈base,q∈E:=by rw[<-K];exact kb _ _ _
  have ki:(a2,Af.itp (θ Hb+1) id)∈E:=by rw[<-K];exact ki _ _ _
  clear K;refine XY.cons rfl (Jy.entry (x:=.tmp a2) (id:=θ Hb+1) (m:=id) (j:=j) (k:=kk) (es:=es.map λp=>(p.1,te.enc p.2)) (seen:=seen) (p:=(q.1,te.enc q.2)) rfl k2 ?_ (gm _) (by rw[CO,o];rfl) ?_);rw[d];exact g1 _ _ _;have f:te.enc q.2=.agg (te.enc q.2).cells:=Ty.agg_enc ar q.2;have l:(te.enc q.2).cells.length=te.sz:=te.enc_len q.2;have U:(te.enc q.2).solid=ζ:=by rw[f];rfl
  refine XY.cons rfl (D5 (v:=te.enc q.2) ?_ (XY.cons rfl (Jy.alloc rfl hz ?_)));show Cp _ _ _ (.extract (.tmp a5) 1)=_;simp only[Cp,BR,Env.putO,Gg,if_true];rfl;have a1:(Hb++[Fv.live (θ L) (te.E.cl L),Fv.it (θ es) (seen++[j])]).length=θ Hb+2:=k!
  rw[a1,A2];show XY P N o3 _ _ (Hb++[Fv.live (θ L) (te.E.cl L),Fv.it (θ es) (seen++[j]),Fv.live 0 z]) _;refine XY.cons rfl (Jy.store (id:=θ Hb+2) (g:=0) (off:=0) (v:=te.enc q.2) (cs:=z) (b:=bb) rfl ?_ ?_ U (g2 _ _ _ _) (by rw[l];exact b4) (by rw[l,Z];omega) (XY.nil ?_));simp only[BR,Env.putO,Gg,if_true];simp only[BR,Env.putO,Gg];rw[D! (D 5 6 _ _ rfl rfl g!),C! trivial];have T:XS z 0 (te.enc q.2).cells=(te.enc q.2).cells:=by unfold XS;rw[List.take_zero,Bt,l,<-Z,Dg,List.drop_length,DR]
  rw[T,s1];simp only[Env.putO];generalize F:Env.put (Env.put (Env.put E a5 (.tup [.int kk q.1,te.enc q.2])) a6 (te.enc q.2)) a7 (.ptr (θ Hb+2) 0 0)=E1;have j7:Env.get E1 a7=.ptr (θ Hb+2) 0 0:=by rw[<-F,Gg,C! rfl]
  have jo:Env.get E1 out=.sl (θ Hb) (θ L) te.sz 0 (θ L):=by rw[<-F,Gg,D! (D 0 6 _ _ rfl rfl g!),Gg,D! (D 0 5 _ _ rfl rfl g!),Gg,D! (D 0 4 _ _ rfl rfl g!),ko]
  have jb:∀q∈base,q∈E1:=λu I=>by have:=hb u I;simp only[As,not_or]at this;rw[<-F];exact Fa (Fa (Fa (kb u I) this.2.2.2.2.1) this.2.2.2.2.2.1) this.2.2.2.2.2.2.1
  have ji:(a2,Af.itp (θ Hb+1) id)∈E1:=by rw[<-F];exact Fa (Fa (Fa ki (D 1 4 _ _ rfl rfl g!)) (D 1 5 _ _ rfl rfl g!)) (D 1 6 _ _ rfl rfl g!)
  clear F;apply GK d4;rw[l4];refine XY.cons rfl (D5 (v:=.sl (θ Hb) (θ L) te.sz 0 (θ L)) (E! δ jo) (XY.cons rfl (D5 (v:=te.enc q.2) ?_ (XY.cons rfl (V8 (sz:=te.sz) (vs:=[te.enc q.2]) rfl ?_ (XY.cons rfl ?_))))));show jL P te3 _ (BR _ (.tmp a7))=_;simp only[BR,Env.putO,Gg];rw[D! (D 6 7 _ _ rfl rfl g!),j7];simp only[jL,b5,Qt,g2];rw[C! ⟨P!,by rw[l];omega⟩,ln,<-l,If];exact E! δ f.symm;simp only[Tf,bN];rw[C!];simp only[BR,Env.putO,Gg,if_true,Bs,H5];refine⟨J,bt,rfl,?_,g!,b3⟩;simp only[BR,Env.putO,Gg,if_true,Bs,H5,lg,px,U,l,decide_true,WV];have R:j<θ es:=by rcases A1 j (θ es)with h|h;exact h;rw[Cz h]at o;cases o
  have bm:((List.range (θ es)).filter λi=>! τ (i∈seen++[j])).length<((List.range (θ es)).filter λi=>! τ (i∈seen)).length:=flt (λi=>! τ (i∈seen)) (λi=>! τ (i∈seen++[j])) (λx f=>by simp at f⊢;exact f.1) j (by simpa using S) k! _ (Ie.2 R);have O:jN (es.map (·.2)) (seen++[j])=L++[q.2]:=by rw[hL];exact ABX (by rw[CO,o];rfl)
  refine Su (sx:=.tmp a8) (xx:=.tmp a10) (t:=ts2) (e:=e2) (id:=θ Hb) (g:=θ L) (g':=θ L+1) (n:=θ L) (sz:=te.sz) (m:=1) (cs:=te.E.cl L) (news:=(te.enc q.2).cells) rfl b0 J bz ?_ (g0 _ _) (te.E.clen L) ?_ o! (.inl o!) ?_;show Env.get _ a8=_;simp only[Env.putO,Gg];rw[D! (D 7 9 _ _ rfl rfl g!),D! (D 7 8 _ _ rfl rfl g!),C! trivial];simp only[BR,Env.putO,Gg,if_true,Ko,BW,Be,H8,qA,DR];rw[s2];refine XY.cons rfl (D5 (v:=.sl (θ Hb) (θ L+1) te.sz 0 (θ L+1)) ?_ (XY.nil ?_));show δ (Env.get _ a11)=_;simp only[Env.putO,Gg,if_true];have Q:te.E.cl L++(te.enc q.2).cells=te.E.cl (L++[q.2]):=by simp[S1.cl];rfl
  rw[Q];have bl:(L++[q.2]).length=θ L+1:=k!
  show∃env2 H2,Fp N _ _ _ env2 H2/\_;refine⟨_,_,?_,ih _ (DX bm hr) (seen++[j]) ?_ ?_ (Ao _) (by rw[O];omega)⟩;rw[O,bl];generalize M:Env.putO _ (δ out) _=E3;have V:∀u∈(out,Af.sl (θ Hb) (θ L+1) te.sz 0 (θ L+1))::(a2,Af.itp (θ Hb+1) id)::base,u∈E3:=by intro u I;rw[<-M];simp only[Env.putO];rcases As.1 I with rfl|I;exact yL;rcases As.1 I with rfl|I;exact Fa (Fa (Fa (Fa (Fa ji (D 1 7 _ _ rfl rfl g!)) (D 1 8 _ _ rfl rfl g!)) (D 1 9 _ _ rfl rfl g!)) (D 1 10 _ _ rfl rfl g!)) (D 1 0 _ _ rfl rfl g!);have:=hb u I;simp only[As,not_or]at this;exact Fa (Fa (Fa (Fa (Fa (jb u I) this.2.2.2.2.2.2.2.1) this.2.2.2.2.2.2.2.2.1) this.2.2.2.2.2.2.2.2.2.1) this.2.2.2.2.2.2.2.2.2.2.1) this.1
  clear M;have w1:=Fp.subset (N:=N) (H:=Hb++[Fv.live (θ L+1) (te.E.cl (L++[q.2])),Fv.it (θ es) (seen++[j]),Fv.live 0 (te.enc q.2).cells]) V;have W:(Hb++[Fv.live (θ L+1) (te.E.cl (L++[q.2])),Fv.it (θ es) (seen++[j]),Fv.live 0 (te.enc q.2).cells]).take (θ Hb+2)=Hb++[Fv.live (θ L+1) (te.E.cl (L++[q.2])),Fv.it (θ es) (seen++[j])]:=by rw[fb,BN o!,show θ Hb+2-θ Hb=2 by omega];rfl
  have w2:=Fp.cut (N:=N) (n0:=θ Hb+2) (env:=(out,Af.sl (θ Hb) (θ L+1) te.sz 0 (θ L+1))::(a2,Af.itp (θ Hb+1) id)::base) (H:=Hb++[Fv.live (θ L+1) (te.E.cl (L++[q.2])),Fv.it (θ es) (seen++[j]),Fv.live 0 (te.enc q.2).cells]) k! (λt v X=>by
   rcases As.1 X with e|X;injection e with _ e;subst e;exact G! o!;rcases As.1 X with e|X;injection e with _ e;subst e;simp only[Af.idsAll,BQ,K!];omega;exact Rt (λi hi=>G! (by have:=N! hi;omega)) v (ax _ X)) (by
   rw[W];intro e c;rcases Ah.1 c with c|c;exact AEn (λi hi=>G! (by have:=N! hi;omega)) e (ap e c);rcases As.1 c with rfl|c;exact AIz te _ _ _;simp only[Ax]at c;subst c;rfl)
  rw[W]at w2;have a':(Hb++[Fv.live (θ L) (te.E.cl L),Fv.it (θ es) seen]).length=θ Hb+2:=k!
  rw[a'];exact(w1.of_le k!).trans w2;refine RN.2 ⟨hn,k!,λx f y hy=>?_⟩;simp only[Ax]at hy;subst hy;rintro rfl;exact S f;intro x f;rcases Ah.1 f with f|f;exact hl x f;simp only[Ax]at f;subst f;exact R
def ov(h:ou d S=δ O):∃x k i y l r z n A o B q,
  d=.seq (.region x k η) (.block i (.loop (.seq (.region y l η) (.seq (.cond (.tmp O.a4) .skip (.exit i)) (.block r (.seq (.region z n η) (.region A o η)))))))/\S=.region B q η/\
  yE k.toList=δ (O.c0,O.a1,O.a2,O.ty1,O.ty2)/\vC l.toList=δ (O.a2,O.a3,O.a4)/\vD n.toList=δ (O.a2,O.a5,O.a6,O.a7,O.te1,O.te2)/\
  vE o.toList=δ (O.out,O.a7,O.a8,O.a9,O.a10,O.a11,O.te3,O.ts1,O.ts2)/\yF q.toList=δ (O.out,O.a12,O.a13,O.F,O.G)/\O.tmps.Nodup:=by
 unfold ou at h;split at h;split at h;rename_i s t u v w;split at h;rename_i j;simp only[BQ]at j;have⟨⟨b,c,a,e,f,g⟩,hn⟩:=j;have b:=DQ b;have c:=DQ c;have a:=DQ a;have e:=DQ e;have f:=DQ f;have g:=DQ g;subst b c a e f g;cases h;exact⟨_,_,_,_,_,_,_,_,_,_,_,_,rfl,rfl,s,t,u,v,w,sJ hn⟩;cases h;cases h;cases h
def AEb{cs:Ψ RI}(cn:∀c∈cs,c.Ok P){a m}{p:Yb}(hp:ou a m=δ p){env}{H}{R:Type}{k:Bi→Aw→Ω R}{r:R}(ok:Ob env H)(o:AEa P N cs p env H k=δ r):
  ∃A H',KC P N a (B6 env) (BH H) (fR (λE h=>KC P N m E h (VO .normal (B6 A) (BH H'))) (λ_ _ _=>False))/\k A H'=δ r/\Ob A H'/\Ea p.tmps env H A H':=by
 obtain⟨i1,o1,T,i2,o2,J,i3,o3,i4,o4,i5,o5,rfl,rfl,p1,p2,p3,p4,p5,b3⟩:=ov hp;unfold AEa at o;split at o;rename_i c ch b4;split at o;rename_i ro id hc;split at o;rename_i c2 kk n I F te G g a1 hF hE;split at o;rename_i cB;split at o;rename_i y1 kt et b9 n2 c3 n3 z e1 s1 e2 s2 t1 t2 t3 t4 t5 t6 t7;split at o;rename_i hb;have cG:n=te:=by have:=Ty.beq_eq _ _ cB;injection this
 subst cG;simp only[BQ]at hb;obtain⟨⟨bG,b8,V,cd,W,bz,Y,Z,cb,cc,ad⟩,U,b',ca,bN⟩:=hb;have bG:=DQ bG;have V:=DQ V;have W:=DQ W;have bz:=DQ bz;have Y:=DQ Y;have Z:=DQ Z;have ad:=Pk ad;subst V W Y Z cd;have c1:P.underlying kt=δ (.int kk):=by split at U;rename_i k2 e;rw[e,N! U];cases U
 cases ao:τ (((θ I:Nat):Int)<=16777216)with
 |false=>rw[ao]at o;cases o
 |true=>
  have bm:θ I<=16777216:=by have:=N! ao;omega
  rw[ao]at o;obtain⟨s,hs,o⟩:=Dh.1 (show σ _ _=δ r from o);have hs:=ABE hs;cases L:ξ (θ s) (θ I)with
  |false=>rw[L]at o;cases o
  |true=>
   rw[L]at o;have o:k ((p.out,.c (.own (θ H) 0 n (θ s)))::aK p.tmps env) (H++[.buf η n s (θ s) 0,.dead])=δ r:=o;have L:=DQ L;obtain⟨c4,q1,x1,c5,q2,x2,l1⟩:=sL p1;obtain⟨c6,q3,x3,cS,c8,q4,x4,l5⟩:=sP p5;have D:=λ(i j a b:Nat)=>AIG (i:=i) (j:=j) (a:=a) (b:=b) b3;have hN:∀t∈p.tmps,t<N:=λt ht=>Pk (Ga.1 bN t ht);have d1:Pv N o1.toList=ζ:=by rw[l1];simp[Pv,lg,px,Ry,BQ,K!];exact⟨hN _ (by simp[Yb.tmps]),hN _ (by simp[Yb.tmps])⟩
   have d5:Pv N o5.toList=ζ:=by rw[l5];simp[Pv,lg,px,Ry,BQ,K!];exact⟨hN _ (by simp[Yb.tmps]),hN _ (by simp[Yb.tmps])⟩
   have M:(B6 env).get p.out=.nils:=by rw[VM,b4];rfl
   have al:(B6 env).get p.c0=.ptr c 0 0:=by rw[VM,ch];rfl
   have cm:p.c0≠p.out:=λe=>by rw[e,M]at al;cases al
   have ci:c<θ H:=Hg hc;have a':id<θ H:=Hg a1;have d:(BH H).length=θ H:=Cf H;have ce:(BH H)[c]?=δ (.live 0 [.mp id]):=by rw[EV,hc];rfl
   have O:(BH H)[id]?=δ (.mp kk (I.map λp=>(p.1,n.enc p.2))):=by rw[EV,a1];rfl
   have x:∀q∈B6 (aK p.tmps env),q∈B6 env/\q.1∉p.tmps:=λq y=>by obtain⟨u,hu,rfl⟩:=BY.1 y;exact⟨BY.2 ⟨u,(We hu).1,rfl⟩,(We hu).2⟩
   have cg:∀q∈B6 (aK p.tmps env),(q.2.idsAll λj=>decide (j<(BH H).length))=ζ:=λq y=>by obtain⟨u,hu,rfl⟩:=BY.1 y;rw[d];exact gr (mC b' u hu)
   have cf:∀e∈BH H,(e.idsAll λj=>decide (j<(BH H).length))=ζ:=by rw[d];exact mD ca
   have step:CN H (H++[.buf η n s (θ s) 0,.dead]):=by have:=(CN.push H (.buf η n s (θ s) 0)).trans (CN.push _ .dead);rwa[A2]at this
   have b5:(B0.own (θ H) 0 n (θ s)).ok (H++[.buf η n s (θ s) 0,.dead]):=by apply Wt (b:=η) (l:=s);rw[Cu (Ao _),HG];rfl
   refine⟨(p.out,.c (.own (θ H) 0 n (θ s)))::aK p.tmps env,H++[.buf η n s (θ s) 0,.dead],?_,o,⟨λq y=>?_,?_⟩,step,λu hu _=>?_⟩;refine KC.weak (Fp.virt (t:=p.out) (sz:=n.sz) M) (KC.seq (GK d1 ?_));rw[l1];have cA:Cp P ((B6 env).put p.out (.sl (BH H).length 0 n.sz 0 0)) (BH H++[.live 0 []]) (.load p.ty1 (.tmp p.c0))=δ (.mp id):=by simp[Cp,BR,Gg];rw[D! cm,al];simp[jL,t1,Qt];rw[Cb (by rw[d];exact ci),ce];rfl
   have bl:(BH H++[Fv.live 0 []])[id]?=δ (.mp kk (I.map λp=>(p.1,n.enc p.2))):=by rw[Cb (by rw[d];exact a'),O]
   refine XY.cons rfl (D5 cA (XY.cons rfl (Jy.range (id:=id) (k:=kk) (es:=I.map λp=>(p.1,n.enc p.2)) rfl ?_ t2 bl (XY.nil ?_))));simp[BR,Env.putO,Gg,if_true];rw[BX,AV,A2];dsimp[fR,Env.putO];refine KC.block (KC.of_loopW ?_);have ax:[p.out,p.a2,p.a3,p.a4,p.a5,p.a6,p.a7,p.a8,p.a9,p.a10,p.a11].Sublist p.tmps:=.cons₂ _ (.cons _ (.cons₂ _ (.cons₂ _ (.cons₂ _ (.cons₂ _ (.cons₂ _ (.cons₂ _ (.cons₂ _ (.cons₂ _ (.cons₂ _ (.cons₂ _ (.cons _ (.cons _ .slnil)))))))))))));have b7:=AC1 (P:=P) (N:=N) (te:=n) (kk:=kk) (es:=I) (Hb:=BH H) (base:=B6 (aK p.tmps env)) (id:=id) (out:=p.out) (a2:=p.a2) (a3:=p.a3) (a4:=p.a4) (a5:=p.a5) (a6:=p.a6) (a7:=p.a7) (a8:=p.a8) (a9:=p.a9) (a10:=p.a10) (a11:=p.a11)
    (b1:=T) (b2:=J) (i2:=i2) (i3:=i3) (i4:=i4) (bb:=b9) p2 p3 p4 ?_ ?_ ?_ cg cf O b8 t5 bz t3 t4 t6 t7 cb cc ad bm (θ I) [] RO (λj B=>by cases B) (by simpa using List.length_filter_le _ (List.range (θ I))) (by have:=EP (λj=>! τ (j∈([]:Ψ Nat))) (List.range (θ I));simpa[jN]using this)
   refine Ib.mono (Ib.weak ?_ b7) ?_;refine Fp.subset (N:=N) (H:=BH H++[Fv.live 0 [],Fv.it (θ I) []]) λq y=>?_;rcases As.1 y with rfl|y;exact Fa (Fa yL (D 0 1 _ _ rfl rfl g!)) (D 0 2 _ _ rfl rfl g!);rcases As.1 y with rfl|y;exact yL;obtain⟨T,J⟩:=x q y;simp[Yb.tmps,As,not_or]at J;exact Fa (Fa (Fa T J.1) J.2.1) J.2.2.1;rintro e E h ⟨rfl,C,K,b6,Q,ar,ap⟩;show qE T _ (.exit T) E h;simp[qE,if_true,fR];refine KC.weak (Fp.subset b6) (KC.after (GK d5 ?_));rw[l5];obtain⟨b0,hf⟩:=uR hF;have a0:θ s=θ C:=by rw[L,<-K.length_eq,BX]
   have hA:=cn _ b0 C () s (hs C K) a0 h (BH H).length ap;simp[RI.f]at hf;rw[hf]at hA;refine XY.cons rfl (D5 (v:=.sl (BH H).length (θ C) n.sz 0 (θ C)) (E! δ pL) (XY.cons rfl (Jy.mono (lH (F:=p.F) (vs:=[.sl (BH H).length (θ C) n.sz 0 (θ C),.fn (.func G) [] []]) ?_ hE hA) ?_)));show δ (Sum.inl (p.F,[]++[Env.get _ p.a12,Af.fn (.func p.G) [] []]++[]))=_;simp only[Env.putO,Gg,if_true,bG];rfl;rintro _ _ ⟨rfl,rfl⟩;refine XY.nil ⟨_,_,?_,rfl,rfl,rfl⟩;have cv:(h.set (BH H).length (.live (θ C) (n.E.cl s))).length=θ h:=k!
   rw[<-cv];refine Wy (by simp[BH];rw[Q,d]) λX g' w _=>?_;have hr:To (cx X g' (h.set (BH H).length (.live (θ C) (n.E.cl s))) w) (cx X g' (h.set (BH H).length (.live (θ C) (n.E.cl s))) w) (h.set (BH H).length (.live (θ C) (n.E.cl s))) (BH (H++[.buf η n s (θ s) 0,.dead])):=by
    refine⟨by simp[BH];rw[Q,d],λj e' B=>?_⟩;have same:(h.set (BH H).length (.live (θ C) (n.E.cl s)))[j]?=δ e'->e'=.dead\/_:=λhh=>(To.refl (cx X g' (h.set (BH H).length (.live (θ C) (n.E.cl s))) w) (h.set (BH H).length (.live (θ C) (n.E.cl s)))).2 j e' hh;have ct:BH (H++[.buf η n s (θ s) 0,.dead])=BH H++[Fv.live (θ s) (n.E.cl s),Fv.dead]:=by simp[BH,D9.enc]
    rw[ct]at B;rcases RP j (BH H).length with bt|rfl|cW;rw[Cb bt]at B;exact same (by rw[Dl o!,ar j bt];exact B);rw[Cu (Ao _),HG]at B;exact same (by rw[HU o!,<-a0];exact B);rw[Cu o!]at B;rcases RP (j-(BH H).length) 1 with q|q|q;omega;rw[q]at B;injection B with B;exact .inl B.symm;rw[Cz w!]at B;cases B
   refine⟨hr.onto,λt v' S=>⟨v',?_,λc r=>r.later hr.later⟩⟩;simp[Env.putO];have S:(t,v')∈(p.out,Af.sl (BH H).length (θ s) n.sz 0 (θ s))::B6 (aK p.tmps env):=by rw[d];exact S
   rcases As.1 S with e|S;cases e;rw[a0];exact Fa (Fa Gj (D 0 12 _ _ rfl rfl g!)) (D 0 13 _ _ rfl rfl g!);obtain⟨T,J⟩:=x _ S;simp only[Yb.tmps,As,not_or]at J;exact Fa (Fa (CU _ S) J.2.2.2.2.2.2.2.2.2.2.2.2.1) J.2.2.2.2.2.2.2.2.2.2.2.2.2.1;exact b3.sublist ax;exact λt ht=>hN t (ax.subset ht);exact λq y S=>(x q y).2 (ax.subset S);rcases As.1 y with rfl|y;exact KF b5;exact step.tv (ok.env q (We y).1);intro e he;rcases Ah.1 he with he|he;exact step.ent (ok.heap e he);simp[As,nQ,or_false]at he;rcases he with rfl|rfl;rfl;trivial;show Bi.get _ u=_;have:p.out≠u:=λe=>hu (by rw[<-e];simp[Yb.tmps]);simp[Bi.get,beq_false this];exact qQ hu env
 cases o;cases o;cases o;cases o;cases o;cases o
end
abbrev Sem:=∀{R:Type},Bi->Aw->(Exit->Bi->Aw->Ω R)->Ω R
def pj:Ψ (Nat×Ty)->Bi->Aw->Ω (Bi×Aw)
 |[],env,H=>δ (env,H)
 |(t,ty)::r,env,H=>
  match env.get t with
  |.c .nil=>pj r (env.put t (.c (.own (θ H) 0 ty 0))) (H++[.buf η ty [] 0 0])
  |_=>ε
def uI:Nat->Ψ B0->Ω (Ψ B0×Ψ B0)
 |0,.nil::r=>δ ([],r)
 |n+1,x::r=>match uI n r with|some (a,b)=>δ (x::a,b)|none=>ε
 |_,_=>ε
def lR:Ψ (Nat×Nat×Ty)->Aw->Ω Aw
 |[],H=>δ H
 |(b,i,ty)::r,H=>
  match H[b]? with
  |some (.live η cs)=>
   match uI i cs with
   |some (x,y)=>lR r (H.set b (.live η (x++ .own (θ H) 0 ty 0::y))++[.buf η ty [] 0 0])
   |none=>ε
  |_=>ε
def AHW(h:Hint)(env:Bi)(H:Aw):Ω (Bi×Aw):=
 match pj h.virt env H with
 |some (e,H1)=>match lR h.virtC H1 with|some H2=>δ (e,H2)|none=>ε
 |none=>ε
def AHL(h:Hint)(n:Nat)(eb:Bi)(H0:Aw)(S:Ψ Nat)(k:Exit->Bi->Aw->Ω R)(o:yA h.exits):Ω R:=
 AJO h.exits o λx sl ds=>
  match Wn sl ds eb H0 with
  |some (e,hh)=>match vf n e&&(ma n hh&&S.all λj=>Ji j (MD sl))with|true=>k x e hh|false=>ε
  |none=>ε
def AE0(h:Hint)(A:Ψ Nat)(run:Sem):Sem:=λenv H k=>
 match AHW h env H with
 |none=>ε
 |some (env0,H0)=>
  match qw env0 with
  |false=>ε
  |true=>(run env0 (K1 (MD h.slots) 0 H0) λx e1 h1=>ABA h.exits x e1 h1).bind λo=>AHL h (θ H0) (RS A (MD h.slots) H0 env0) H0 (MD h.slots) k o
def ACB(h:Hint)(x:Exit)(env:Bi)(H:Aw):Ω (Step (DL (fO h.slots)) (yA h.exits)):=
 match wR .normal x with
 |true=>match yx h.slots env H with|some s=>δ (.next s)|none=>ε
 |false=>match ABA h.exits x env H with|some o=>δ (.done o)|none=>ε
noncomputable def wj(h:Hint)(A:Ψ Nat)(run:Sem):Sem:=λenv H k=>
 match AHW h env H with
 |none=>ε
 |some (env1,H1)=>
  match I7 (h.kill++nL env1 H1 h.slots) env1 H1 with
  |(env0,H0)=>
   match qw env0,Yw env0 H0 h.slots with
   |true,δ ds=>
    match AA4 (fO h.slots) ds with
    |some s0=>(Ak (λs=>
      match Wn h.slots (dvs (fO h.slots) s) (RS A (MD h.slots) H0 env0) (K1 (MD h.slots) 0 H0)with
      |some (e,hh)=>match vf (θ H0) e&&ma (θ H0) hh with|true=>run e hh λx e1 h1=>ACB h x e1 h1|false=>ε
      |none=>ε) s0).bind λo=>AHL h (θ H0) (RS A (MD h.slots) H0 env0) H0 (MD h.slots) k o
    |none=>ε
   |_,_=>ε
def ABz(c:Operand)(ra rb:Sem):Sem:=λenv H k=>
 match Jz env c with
 |.c (.bl v)=>cond v (ra env H k) (rb env H k)
 |_=>ε
def AAd(id:Nat)(r:Sem):Sem:=λenv H k=>r env H λe env' H'=>
 match e with
 |.exit id'=>match ξ id' id with|true=>k .normal env' H'|false=>k (.exit id') env' H'
 |e=>k e env' H'
def wc(o:Ω Hint)(A:Ψ Nat)(run:Sem):Sem:=
 match o with
 |some h=>λenv H k=>AE0 (h.rel (θ H)) A run env H k
 |none=>run
section
variable {R:Type}
def mv1(t n:Nat)(env:Bi)(H:Aw)(k:Bi->Aw->Ω R):Ω R:=
 match env.get t with
 |.c (.own m ver te _)=>
  match ξ m n with
  |true=>k env H
  |false=>
   match H[n]?,H[m]? with
   |some (.buf η t1 _ n1 v1),δ (.buf η t2 l2 n2 v2)=>
    match ξ ver v2,(Ty.list t1).beq (Ty.list t2)&&(Ty.list te).beq (Ty.list t2)with
    |true,ζ=>bif τ (n1<n2)then k (env.put t (.c (.own n (v1+1) t2 n2))) ((H.set n (.buf η t2 l2 n2 (v1+1))).set m .dead)else ε
    |_,_=>ε
   |_,_=>k env H
 |_=>k env H
def mvs:Ψ Pa->Bi->Aw->(Bi->Aw->Ω R)->Ω R
 |[],e,h,k=>k e h
 |.g t n::r,e,h,k=>mv1 t n e h λe h=>mvs r e h k
 |_::r,e,h,k=>mvs r e h k
end
def AFG(ss:Ψ Pa)(run:Sem):Sem:=λenv H k=>run env H λx e1 h1=>
 match wR .normal x with
 |true=>mvs ss e1 h1 λe2 h2=>k x e2 h2
 |false=>k x e1 h1
structure AEF where
 main:Sem
 pre:Sem
 suf:Sem
def QZ:Sem:=λ_ _ _=>ε
def AFu(a b:Sem):Sem:=λenv H k=>a env H λe env' H'=>match e with|.normal=>b env' H' k|e=>k e env' H'
noncomputable def ACJ(h:Hint)(A:Ψ Nat)(s:AEF):Sem:=λenv H k=>s.pre env H λx e1 h1=>match x with|.normal=>wj h A (AFu s.suf s.pre) e1 h1 k|x=>k x e1 h1
noncomputable def uv(o:Ω Hint)(A:Ψ Nat)(s:AEF):Sem:=
 match o with
 |some h=>λenv H k=>match ξ h.kind 8 with|true=>ACJ (h.rel (θ H)) A s env H k|false=>wj (h.rel (θ H)) A (AFG (h.rel (θ H)).slots s.main) env H k
 |none=>QZ
def iu:Bi->Bi
 |[]=>[]
 |(t,v)::r=>match MB v.refs with|[]=>(t,v)::iu r|_=>iu r
def ABJ(P:Program)(call:S0)(N:Nat)(me:FuncId)(f:Operand)(ps:Array Tmp)(a b:Code):Sem:=λenv H k=>
 match Jz env f with
 |.c (.raw (.fn (.func G) first caps))=>
  match Enters P G with
  |true=>call (.fn G) (first.map tvA++[.c (.raw (.yf (θ H)))]++caps.map tvA) (H++[.lp η me N (iu env) ps a b .ready]) λ_ H'=>
   match H'[θ H]? with
   |some (.lp η _ _ _ _ _ _ .ready)=>k .normal env (H'.set (θ H) .dead)
   |some (.lp η _ _ _ _ _ _ .ret)=>k .ret env (H'.set (θ H) .dead)
   |some (.lp η _ _ _ _ _ _ (.exit x))=>k (.exit x) env (H'.set (θ H) .dead)
   |_=>ε
  |false=>ε
 |_=>ε
noncomputable def fN(P:Program)(cs:Ψ RI)(call:S0)(N:Nat)(me:FuncId)(hs:Ψ Hint):Code->AEF
 |.skip=>⟨λenv H k=>k .normal env H,QZ,QZ⟩
 |.ret=>⟨λenv H k=>k .ret env H,QZ,QZ⟩
 |.exit id=>⟨λenv H k=>k (.exit id) env H,QZ,QZ⟩
 |.seq a (.seq m r)=>⟨λenv H k=>
  match ou a m with
  |some p=>AEa P N cs p env H λenv' H'=>(fN P cs call N me hs r).main env' H' k
  |none=>AFu (fN P cs call N me hs a).main (fN P cs call N me hs (.seq m r)).main env H k,
  AFu (fN P cs call N me hs a).main (fN P cs call N me hs (.seq m r)).pre,(fN P cs call N me hs (.seq m r)).suf⟩
 |.seq a b=>⟨wc (tK hs a b) (Pl hs (.seq a b)) (AFu (fN P cs call N me hs a).main (fN P cs call N me hs b).main),(fN P cs call N me hs a).main,(fN P cs call N me hs b).main⟩
 |.cond c a b=>⟨wc (hintOf hs (.cond c a b)) (Pl hs (.cond c a b)) (ABz c (fN P cs call N me hs a).main (fN P cs call N me hs b).main),QZ,QZ⟩
 |.block id b=>⟨wc (hintOf hs (.block id b)) (Pl hs (.block id b)) (AAd id (fN P cs call N me hs b).main),QZ,QZ⟩
 |.loop b=>⟨uv (hintOf hs (.loop b)) (Pl hs (.loop b)) (fN P cs call N me hs b),QZ,QZ⟩
 |.region id ops η=>⟨wc (hintOf hs (.region id ops η)) (Pl hs (.region id ops η)) λenv H k=>
  match Pv N ops.toList with
  |true=>zy P cs call ops (guards ops) η ops.toList 0 env H λenv' H'=>k .normal env' H'
  |false=>ε,QZ,QZ⟩
 |.region id ops ζ=>⟨λenv H k=>
  match P.follows .mixedOrders&&ACS ops N (ABF ops)&&Wv P ops&&qw env with
  |true=>ABV P cs call ops (I5 ops.toList []) (guards ops) (match nD 3 id hs with|some _=>ζ|none=>η) (ABF ops) [] env H λenv' H'=>k .normal env' H'
  |false=>ε,QZ,QZ⟩
 |.rangeFunc f ps a b=>⟨ABJ P call N me f ps a b,QZ,QZ⟩
 |_=>⟨QZ,QZ,QZ⟩
noncomputable def sw(P:Program)(cs:Ψ RI)(call:S0)(N:Nat)(me:FuncId)(hs:Ψ Hint)(c:Code):Sem:=(fN P cs call N me hs c).main
def AHl{c}(j:∀m r,S≠.seq m r)(env:Bi)(H:Aw)(k:Exit→Bi→Aw→Ω R):
  sw P f u N F c (.seq d S) env H k=wc (tK c d S) (Pl c (.seq d S)) (λenv H k=>sw P f u N F c d env H λe g i=>match e with|.normal=>sw P f u N F c S g i k|e=>k e g i) env H k:=by
 cases S<;>first|rfl|exact O! rfl (j _ _)
def KG(P:Program)(N:Nat)(A:Ψ Nat)(c:Code)(run:Sem):Prop:=∀{R:Type}env H k(r:R),Ob env H->run env H k=δ r->
 ∃e env' H',tM P N c (B6 env) (BH H) (VO e (B6 env') (BH H'))/\k e env' H'=δ r/\Ob env' H'/\Ea A env H env' H'
theorem ACa:∀{l}{env}{H}{a:Bi}{b:Aw},Ob env H→pj l env H=δ (a,b)→
  Ob a b/\Ea (l.map (·.1)) env H a b/\∀N,Fp N (θ H) (B6 env) (BH H) (B6 a) (BH b)
 |[],env,H,a,b,ok,h=>by grind[pj,Ea.refl,Fp.refl,Cf]
 |(t,ty)::r,env,H,a,b,ok,h=>by
  simp only[pj]at h;split at h;rename_i m;have st:CN H (H++[.buf η ty [] 0 0]):=CN.push H _;have g:(H++[D9.buf η ty [] 0 0])[θ H]?=δ (.buf η ty [] 0 0):=k!
  have i:Ob (env.put t (.c (.own (θ H) 0 ty 0))) (H++[.buf η ty [] 0 0]):=by refine⟨cJ (d:=δ t) (st.env ok.env) (KF (Wt g)),λe f=>?_⟩;rcases Ah.1 f with f|f;exact st.ent (ok.heap e f);rw[Ax.1 f];rfl
  obtain⟨o,p,q⟩:=ACa i h;refine⟨o,?_,λN=>?_⟩;have s:Ea [t] env H (env.put t (.c (.own (θ H) 0 ty 0))) (H++[.buf η ty [] 0 0]):=⟨st,λu n _=>pe λe=>n (by simp[e])⟩
  exact Ea.trans ok.env s p;have w:=Fp.virt (N:=N) (env:=B6 env) (H:=BH H) (t:=t) (sz:=ty.sz) (by rw[VM,m];rfl);have j:=(q N).of_le (n0:=θ H) k!;rw[kU]at j;have k:BH (H++[.buf η ty [] 0 0])=BH H++[.live 0 []]:=by simp[BH,D9.enc,S1.cl]
  rw[k]at j;rw[Cf]at w;exact w.trans j;cases h
def rY:∀{n}{e x y:Ψ B0},uI n e=δ (x,y)->e=x++ .nil::y
 |0,[],_,_,h=>by cases h
 |0,z::r,x,y,h=>by
  cases z<;>simp only[uI]at h<;>try (cases h;done)
  injection h with h;injection h with c d;subst c d;rfl
 |n+1,[],_,_,h=>by cases h
 |n+1,z::r,x,y,h=>by simp only[uI]at h;split at h;rename_i a b hr;injection h with h;injection h with c d;subst c d;rw[rY hr];rfl;cases h
theorem AAF{env}:∀{l}{H c:Aw},Ob env H→lR l H=δ c→
  Ob env c/\CN H c/\∀N,Fp N (θ H) (B6 env) (BH H) (B6 env) (BH c)
 |[],H,c,ok,h=>by grind[lR,Option.some.injEq,CN.refl,Fp.refl,B6,BH,Cf]
 |(b,i,ty)::r,H,c,ok,h=>by
  simp only[lR]at h;split at h;rename_i I v;split at h;rename_i x y B;have m:=rY B;subst m;have D:b<θ H:=q!
  have f:CN H (H++[D9.buf η ty [] 0 0]):=CN.push H _;have a:H.set b (D9.live η (x++B0.own (θ H) 0 ty 0::y))++[D9.buf η ty [] 0 0]=(H++[D9.buf η ty [] 0 0]).set b (D9.live η (x++B0.own (θ H) 0 ty 0::y)):=q!
  have j:(H++[D9.buf η ty [] 0 0])[b]?=δ (D9.live η (x++B0.nil::y)):=q!
  have g:CN (H++[D9.buf η ty [] 0 0]) ((H++[D9.buf η ty [] 0 0]).set b (D9.live η (x++B0.own (θ H) 0 ty 0::y))):=CN.set j rfl λ_ _ _ _ _ e=>by cases e
  have n:(H++[D9.buf η ty [] 0 0])[θ H]?=δ (.buf η ty [] 0 0):=k!
  have t:lok H (x++B0.nil::y):=ok.heap _ (BP v);have s:∀e∈H++[D9.buf η ty [] 0 0],e.ok (H++[D9.buf η ty [] 0 0]):=λe d=>by rcases Ah.1 d with d|d;exact f.ent (ok.heap e d);rw[Ax.1 d];rfl
  have u:lok (H++[D9.buf η ty [] 0 0]) (x++B0.own (θ H) 0 ty 0::y):=by have q:=Jh.1 (f.lok t);refine Jh.2 ⟨q.1,λz o=>?_⟩;rcases As.1 o with rfl|o;exact Wt n;exact q.2 z (CU _ o)
  rw[a]at h;have p:Ob env ((H++[D9.buf η ty [] 0 0]).set b (D9.live η (x++B0.own (θ H) 0 ty 0::y))):=⟨g.env (f.env ok.env),heap_set g s (g.lok u)⟩
  obtain⟨E,F,G⟩:=AAF p h;refine⟨E,(f.trans g).trans F,λN=>?_⟩;have k:(BH H)[b]?=δ (.live 0 (lvs (x++B0.nil::y))):=by rw[EV,v];rfl
  have C:(lvs (x++B0.nil::y))[(lvs x).length]?=δ .nils:=by grind[HK,IQ,B0.enc]
  have w:=Fp.virtC (N:=N) (env:=B6 env) (sz:=ty.sz) k C;have A:BH ((H++[D9.buf η ty [] 0 0]).set b (D9.live η (x++B0.own (θ H) 0 ty 0::y)))=(BH H).set b (.live 0 ((lvs (x++B0.nil::y)).set (lvs x).length (.sl (BH H).length 0 ty.sz 0 0)))++[.live 0 []]:=by
   rw[<-a];have:(lvs (x++B0.nil::y)).set (lvs x).length (.sl (BH H).length 0 ty.sz 0 0)=lvs (x++B0.own (θ H) 0 ty 0::y):=by grind[HK,IQ,Cf,B0.enc]
   grind[BH,D9.enc,S1.cl,List.map_set]
  rw[<-A,Cf]at w;exact w.trans ((G N).of_le k!);cases h;cases h
theorem ACO(ok:Ob e c)(b:AHW A e c=δ (L,D)):
  Ob L D/\Ea (A.virt.map (·.1)) e c L D/\∀N,Fp N (θ c) (B6 e) (BH c) (B6 L) (BH D):=by
 unfold AHW at b;split at b;rename_i h d n;obtain⟨a1,a2,a3⟩:=ACa ok n;split at b;rename_i f m;injection b with b;injection b with k l;subst k l;obtain⟨g,i,j⟩:=AAF a1 m;have o:Ea [] h d h f:=⟨i,λ_ _ _=>rfl⟩
 exact⟨g,(Ea.trans ok.env a2 o).mono λt p=>q!,λN=>(a3 N).trans ((j N).of_le a2.step.len)⟩;cases b;cases b
theorem wI{A S}{H}:∀{env:Bi},(env.map (·.1)).Nodup->∀t,env.get t=Vy->(RS A S H env).get t=Vy
 |[],_,_,_=>rfl
 |(u,v)::r,nd,t,h=>by have a:=Gk.1 nd;simp only[Bi.get]at h;by_cases b:u=t;subst b;have hn:∀p∈RS A S H r,p.1≠u:=λp c e=>a.1 (BY.2 ⟨p,(R3 a.2 p c).2.2,e⟩);grind[RS,Bi.get,nG];rw[beq_false b]at h;have d:=wI (A:=A) (S:=S) (H:=H) a.2 t h;grind[RS,Bi.get,beq_false]
theorem AB5{h:Hint}{A B:Ψ Nat}{env0:Bi}{e:Aw}{D:Bi}{E:Aw}(m:Ob env0 e)(nd:(env0.map (·.1)).Nodup)(M:AAQ A (MD h.slots) env0 e D E)
  {env1:Bi}{u:Aw} (C:Ob env1 u) (st:Ea B D E env1 u) (K:∀t,t∈B->t∈A) (J:∀t,t∈h.tmps->t∈A) {x:Exit}{o:yA h.exits} (Q:ABA h.exits x env1 u=δ o)
  {R:Type}{k:Exit->Bi->Aw->Ω R}{r:R} (f:AHL h (θ e) (RS A (MD h.slots) e env0) e (MD h.slots) k o=δ r) (N:Nat):
  ∃g i,Fp N (θ e) (B6 env1) (BH u) (B6 g) (BH i)/\k x g i=δ r/\Ob g i/\Ea A env0 e g i:=by
 obtain⟨rfl,L,p,S,y⟩:=wy Q;have f:=ww f;split at f;rename_i g i O;split at f;rename_i v;simp at v;have sub:∀j,Ji j (MD (yB h.exits o).2.1)=η->Ji j (MD h.slots)=η:=λj d=>Wq λG=>q!
 obtain⟨w,W,Y,z⟩:=ABp m nd M C st K L m.heap rfl (AE4 e) (λ_ _ _ _ q=>q) (λj H d c=>by
  cases H with
  |dead=>grind
  |live b V=>exact .inr ⟨_,sub j d,by rw[Jg,c,Dg,sub j d];rfl,rfl,.inr (.inl ⟨_,_,_,_,rfl,rfl,D0.refl _⟩)⟩
  |buf b t l n U=>exact .inr ⟨_,sub j d,by rw[Jg,c,Dg,sub j d];rfl,rfl,.inr (.inr (.inl ⟨_,_,_,_,_,_,_,rfl,rfl⟩))⟩
  |mp b k t X=>exact .inr ⟨_,sub j d,by rw[Jg,c,Dg,sub j d];rfl,rfl,.inr (.inr (.inr (.inr ⟨_,_,_,_,_,rfl,rfl⟩)))⟩
  |lp ro F n env Z a b s=>exact .inr ⟨_,sub j d,by rw[Jg,c,Dg,sub j d];rfl,rfl,.inr (.inr (.inr (.inl ⟨_,_,_,_,_,_,_,_,_,rfl,rfl⟩)))⟩) O v.1 v.2.1 N
 refine⟨g,i,w,f,z.ok,z.step,λt T P=>?_⟩;have I:=Wq λG=>T (J t (by refine Ah.2 (.inr (En.2 ⟨p,S,?_⟩));rw[<-y];exact G));rw[z.get t I];grind[yk,Vy,wI,ly,AE2,Wq];cases f;cases f
def nF:Code->Code
 |.seq _ (.seq m r)=>nF (.seq m r)
 |.seq _ b=>b
 |c=>c
section
variable {P:Program}{N:Nat}{env:Env}{H:Ay}{Q:Exit->Env->Ay->Prop}{X:Nat->Prop}{h:Gh}{a:Act}{w:World}
def aZ(P:Program)(N:Nat):Code->Env->Ay->(Exit->Env->Ay->Prop)->Prop
 |.seq a (.seq m r),env,H,Q=>KC P N a env H (fR (λe h=>aZ P N (.seq m r) e h Q) Q)
 |.seq a _,env,H,Q=>KC P N a env H Q
 |_,_,_,_=>False
def aZ.mono{i:Exit->Env->Ay->Prop}(l:∀e d g,Q e d g->i e d g):∀{c}{env}{H},aZ P N c env H Q->aZ P N c env H i:=by
 intro c;induction c with
 |seq a b _ f=>
  intro env H h;by_cases j:∃m r,b=.seq m r;obtain⟨m,r,rfl⟩:=j;refine KC.mono (show KC P N a env H _ from h) λe E h k=>?_;cases e with
  |normal=>exact f k
  |_=>exact l _ _ _ k
  have e:∀Q,aZ P N (.seq a b) env H Q=KC P N a env H Q:=λQ=>by cases b<;>first|rfl|exact O! ⟨_,_,rfl⟩ j
  rw[e]at h⊢;exact KC.mono h l
 |_=>intro env H h;exact h.elim
def aZ.run:∀{c}{env}{H}{h}{a}{w},aZ P N c env H Q→St X h N env H a w→aA M w→
  (∀e g d i b f,Q e b f->St X i N b f g d->HT h H w i f d->WO a w g d->Exit.then (λa w=>(nF c).wpIn (FR M) 0 P B a w) B e g d)->c.wpIn (FR M) 0 P B a w:=by
 intro c;induction c with
 |seq x y _ u=>
  intro env H h a w p s k o;by_cases t:∃m M,y=.seq m M;obtain⟨m,y,rfl⟩:=t;refine wpIn_seq (wpIn_mono ((show KC P N x env H _ from p) M X h a w s k) ?_);rintro e g d ⟨i,b,f,q,l,j,n⟩;cases e with
  |normal=>exact u q l (k.later j) λe a2 G D env2 z E F v A=>o e a2 G D env2 z E F (j.trans v) (n.trans l.sim j v A)
  |_=>exact o _ g d i b f q l j n
  have r:aZ P N (.seq x y) env H Q=KC P N x env H Q:=by cases y<;>first|rfl|exact O! ⟨_,_,rfl⟩ t
  have C:nF (.seq x y)=y:=by cases y<;>first|rfl|exact O! ⟨_,_,rfl⟩ t
  rw[r]at p;rw[C]at o;refine wpIn_seq (wpIn_mono (p M X h a w s k) ?_);rintro e g d ⟨i,b,f,q,l,j,n⟩;exact o e g d i b f q l j n
 |_=>intro env H h a w p;exact p.elim
def ju(P:Program)(N:Nat)(c:Code)(env:Env)(H:Ay)(Q:Exit->Env->Ay->Prop):Prop:=
 ∀r X h a w(K:Exit->Act->World->Prop),St X h N env H a w->aA r w->
  (∀e a' w' h' env' H',Q e env' H'->St X h' N env' H' a' w'->HT h H w h' H' w'->WO a w a' w'->K e a' w')->
  (nF c).wpIn (FR r) 0 P (Exit.then (λa w=>lF (FR r) 0 P c K a w) K) a w
def aZ.loop(hn:θ H=n)(p:aZ P N d env H (fR (λenv2 l=>∃y m,Fp N n env2 l y m∧ju P N d y m Q) Q))(s:St X h N env H a w)(k:aA M w)
  (v:∀e i f j b g,Q e b g->St X j N b g i f->HT h H w j g f->WO a w i f->B e i f):lF (FR M) 0 P d B a w:=by
 refine cH (aZ.run p s k λe a2 r u env2 l q z C t=>?_);cases e with
 |normal=>obtain⟨y,m,x,G⟩:=q;obtain⟨E,A,F,I⟩:=x.2 X u a2 r z;have o:=Fp.ext hn x.1 F I C;exact G M X E a2 r B A (k.later o) λe i f j b g J L c D=>v e i f j b g J L (o.trans c) (t.trans A.sim o c D)
 |_=>exact v _ a2 r u env2 l q z C t
def dx(p:aZ P N d env H (fR (λenv2 i=>∃b f,Fp N (θ H) env2 i b f/\ju P N d b f Q) Q)):Ib P N d env H Q:=λr X g a w s k=>aZ.loop rfl p s k λe o t l c h q m n j=>⟨l,c,h,q,m,n,j⟩
def ju.unroll(p:KC P N (nF d) env H (fR (λenv1 j=>aZ P N d env1 j (fR (λenv2 l=>∃b m,Fp N (θ H) env2 l b m/\ju P N d b m Q) Q)) Q)):ju P N d env H Q:=by
 intro r X g a w K s k n;apply wpIn_mono (p r X g a w s k);rintro e a1 V ⟨J,env1,j,q,o,i,v⟩;cases e with
 |normal=>
  refine cH (aZ.run q o (k.later i) λe a2 t x env2 l q z C G=>?_);have h:=i.trans C;have c:=v.trans o.sim i C G;cases e with
  |normal=>obtain⟨b,m,y,O⟩:=q;obtain⟨L,A,M,R⟩:=y.2 X x a2 t z;have u:=Fp.ext rfl y.1 M R h;exact O r X L a2 t K A (k.later u) λe E U I f D S T B F=>n e E U I f D S T (u.trans B) (c.trans A.sim u B F)
  |_=>exact n _ a2 t x env2 l q z h c
 |_=>exact n _ a1 V J env1 j q o i v
def ju.after(p:ju P N d env H (λe b f=>∃env2 c,Fp N (θ H) b f env2 c/\Q e env2 c)):ju P N d env H Q:=by intro r X g a w K s k o;refine p r X g a w K s k λe h j m b f ⟨env2,c,i,q⟩ v y l=>?_;obtain⟨n,x,t,u⟩:=i.2 X m h j v;exact o e h j n env2 c q x (Fp.ext rfl i.1 t u y) l
end
variable {P:Program}{N:Nat}
variable {j:Sem}{Z:AEF}
theorem zS{h:Hint}(hr:KG P N E d j)(n:∀t,t∈E->t∈b)(m:∀t,t∈h.tmps->t∈b):KG P N b d (AE0 h b j):=by
 intro R env H k r ok a;unfold AE0 at a;dsimp only at a;split at a;cases a;rename_i env0 f v;split at a;cases a;rename_i hn;obtain⟨o,s,a⟩:=bnd a;obtain⟨B,C,D⟩:=ACO ok v;have nd:=aV hn;obtain⟨e,env1,A,a1,k1,g,i⟩:=hr env0 (K1 (MD h.slots) 0 f) _ o (lE B) s;have q:AAQ b (MD h.slots) env0 f env0 (K1 (MD h.slots) 0 f):=⟨lE B,CN.refl _,I4 _ _,λ_ _=>rfl,λp u=>(R3 nd p u).1⟩
 obtain⟨c,l,w,x,y,z⟩:=AB5 B nd q g i n m k1 a N;refine⟨e,c,l,?_,x,y,?_⟩;rw[qm]at a1;refine tM.weak (by rw[Cf];exact D N) (tM.after (a1.mono ?_));rintro _ _ _ ⟨rfl,rfl,rfl⟩;exact⟨_,_,by rw[Cf];exact w,rfl,rfl,rfl⟩;exact(Ea.trans ok.env C z).mono λt F=>by grind[Hint.tmps]
def AH4(L0:Env->Ay->(Exit->Env->Ay->Prop)->Prop)(A:Ψ Nat)(run:Sem):Prop:=∀{R:Type}env H k(r:R),Ob env H->run env H k=δ r->
 ∃e env' H',L0 (B6 env) (BH H) (VO e (B6 env') (BH H'))/\k e env' H'=δ r/\Ob env' H'/\Ea A env H env' H'
theorem za{L0 L:Env→Ay→(Exit→Env→Ay→Prop)→Prop}(V:∀{env}{H}{Q Q':Exit→Env→Ay→Prop},(∀e f U,Q e f U→Q' e f U)→L0 env H Q→L0 env H Q')
  (hu:∀{env}{H}{Q},L0 env H (fR (λf U=>∃env2 J,Fp N (θ H) f U env2 J/\L env2 J Q) Q)->L env H Q)
  (ha:∀{env:Env}{H}{Q:Exit->Env->Ay->Prop},L env H (λe f U=>∃env2 J,Fp N (θ H) f U env2 J/\Q e env2 J)->L env H Q)
  {A B:Ψ Nat}{h:Hint}{run:Sem} (hr:AH4 L0 B run) (hB:∀t,t∈B->t∈A) (hA:∀t,t∈h.tmps->t∈A) {R:Type} (env:Bi) (H:Aw) (k:Exit->Bi->Aw->Ω R) (r:R) (ok:Ob env H) (m:wj h A run env H k=δ r):
  ∃i g x u v,Fp N (θ H) (B6 env) (BH H) (B6 i) (BH g)/\L (B6 i) (BH g) (VO x (B6 u) (BH v))/\k x u v=δ r/\Ob u v/\Ea A env H u v:=by
 unfold wj at m;dsimp only at m;split at m;cases m
 ·rename_i G Hv hv;obtain⟨bb,sv,wv⟩:=ACO ok hv;obtain⟨y,sf,wf⟩:=R8 (h.kill++nL G Hv h.slots) bb;generalize I7 (h.kill++nL G Hv h.slots) G Hv=fz at m y sf wf;obtain⟨env0,d⟩:=fz;simp only at m y sf wf;split at m
  ·rename_i ds hn hc;split at m
   ·rename_i s0 a7;obtain⟨o,ho,m⟩:=bnd m;have nd:=aV hn;have z:∀e∈K1 (MD h.slots) 0 d,e.ok (K1 (MD h.slots) 0 d):=(lE y).heap;have hC:=AAz (C:=λs o=>∀r,AHL h (θ d) (RS A (MD h.slots) d env0) d (MD h.slots) k o=δ r->
     ∃i g,Wn h.slots (dvs (fO h.slots) s) (RS A (MD h.slots) d env0) (K1 (MD h.slots) 0 d)=δ (i,g)/\vf (θ d) i=ζ/\ma (θ d) g=ζ/\(AAQ A (MD h.slots) env0 d i g->∃x u v,L (B6 i) (BH g) (VO x (B6 u) (BH v))/\k x u v=δ r/\Ob u v/\Ea A env0 d u v)) (λs q Y=>by
     split at Y
     ·rename_i i g hi;split at Y
      ·rename_i I;simp only[BQ]at I;have body:∀D:AAQ A (MD h.slots) env0 d i g,∃e env1 K,L0 (B6 i) (BH g) (VO e (B6 env1) (BH K))/\ACB h e env1 K=δ q/\Ob env1 K/\Ea B i g env1 K:=λD=>hr i g _ q D.ok Y;cases q with
       |next s'=>
        intro o ih r m;obtain⟨ad,ap,i1,i2,i3,i4⟩:=ih r m;refine⟨i,g,hi,I.1,I.2,λD=>?_⟩;obtain⟨e,env1,K,a1,k1,S,T⟩:=body D;unfold ACB at k1;split at k1;rename_i hx;have:=uN hx;subst this;split at k1;rename_i s1 a8;injection k1 with k1;injection k1 with k1;subst k1;have a2:=nk a8;obtain⟨w,ea,ha,E⟩:=ABp (Hx:=K1 (MD h.slots) 0 d) y nd D S T hB a2 z (I4 _ _) (.refl _) (λ_ _ _ _ q=>oB q) (λj e' O c=>by
         cases hH:d[j]? with
         |none=>grind[Jg]
         |some Z=>
          have hl:=c;rw[Jg,hH,Dg,O]at c;simp only[Bw,Av]at c;subst c;cases Z with
          |dead=>exact .inl rfl
          |live b cs=>exact .inr ⟨_,O,hl,rfl,.inr (.inl ⟨_,_,_,_,rfl,rfl,D0.refl _⟩)⟩
          |buf b t l n bl=>exact .inr ⟨_,O,hl,rfl,.inr (.inr (.inl ⟨_,_,_,_,_,_,_,rfl,rfl⟩))⟩
          |mp b k t es=>exact .inr ⟨_,O,hl,rfl,.inr (.inr (.inr (.inr ⟨_,_,_,_,_,rfl,rfl⟩)))⟩
          |lp ro F n env ps a b s=>exact .inr ⟨_,O,hl,rfl,.inr (.inr (.inr (.inl ⟨_,_,_,_,_,_,_,_,_,rfl,rfl⟩)))⟩) i1 i2 i3 N
        have a3:AAQ A (MD h.slots) env0 d ad ap:=⟨E.ok,E.step,by rw[E.len,I4],E.same,λp P=>by
         obtain⟨X,b2,b3⟩:=R3 nd p P;have M:Ji p.1 A=η:=by grind[jK,Ji]
         rw[E.get p.1 (Wq λV=>Us M (hA _ (by unfold Hint.tmps;simp only[List.mem_append];exact .inl (.inr V))))];rw[ly nd p.1 (by rw[X];exact b2)];exact X⟩
        obtain⟨x,u,v,l1,l2,l3,l4⟩:=i4 a3;refine⟨x,u,v,hu (V ?_ a1),l2,l3,l4⟩;rintro _ _ _ ⟨rfl,rfl,rfl⟩;exact⟨_,_,by rw[Cf,D.len];exact w,l1⟩;cases k1;split at k1<;>grind
       |done o=>
        intro r m;refine⟨i,g,hi,I.1,I.2,λD=>?_⟩;obtain⟨e,env1,K,a1,k1,S,T⟩:=body D;unfold ACB at k1;split at k1;split at k1<;>grind;rename_i hx;split at k1;rename_i o1 a6;injection k1 with k1;injection k1 with k1;subst k1;obtain⟨u,v,w,q1,q2,q3⟩:=AB5 y nd D S T hB hA a6 m N;have a5:e≠.normal:=by rintro rfl;cases hx
        refine⟨e,u,v,ha (hu (V ?_ a1)),q1,q2,q3⟩;intro e1 al bm a9;obtain⟨ar,ax,a0⟩:=a9;subst ar ax a0;have ao:∃env2 J,Fp N (BH g).length (B6 env1) (BH K) env2 J/\VO e1 (B6 u) (BH v) e1 env2 J:=⟨_,_,by rw[Cf,D.len];exact w,rfl,rfl,rfl⟩
        cases e1 with
        |normal=>exact(a5 rfl).elim
        |_=>exact ao
        cases k1
      cases Y
     cases Y) ho
    obtain⟨i,g,i1,i2,i3,i4⟩:=hC r m;have a4:=qv a7;rw[a4]at i1;have a':Ob (RS A (MD h.slots) d env0) (K1 (MD h.slots) 0 d):=⟨λp P=>(lE y).env p (R3 nd p P).2.2,z⟩
    have E:=NB y hc i1 a' (by rw[I4];exact Ao _) (λp P=>⟨p.2,(R3 nd p P).2.2,XX.refl _⟩) (λj e' O c=>by
     rw[Jg]at c;cases hH:d[j]? with
     |none=>rw[hH]at c;cases c
     |some Z=>
      rw[hH,Dg,O]at c;simp only[Bw,Av]at c;subst c;refine⟨Z,rfl,?_⟩;cases Z with
      |dead=>exact .inl rfl
      |live b cs=>exact .inr (.inl ⟨_,_,_,_,rfl,rfl,D0.refl _⟩)
      |buf b t l n bl=>exact .inr (.inr (.inl ⟨_,_,_,_,_,_,_,rfl,rfl⟩))
      |mp b k t es=>exact .inr (.inr (.inr (.inr ⟨_,_,_,_,_,rfl,rfl⟩)))
      |lp ro F n env ps a b s=>exact .inr (.inr (.inr (.inl ⟨_,_,_,_,_,_,_,_,_,rfl,rfl⟩)))) (AHG d)
    have w:=E.weak (N:=N) (by rw[I4];exact Ao _) (by rw[I4];exact i2) (by rw[I4];exact i3);rw[I4]at w;have D:AAQ A (MD h.slots) env0 d i g:=⟨E.ok,E.step,by rw[E.len,I4],E.same,λp P=>by
     obtain⟨X,b2,b3⟩:=R3 nd p P;have M:Ji p.1 A=η:=by grind[jK,Ji]
     rw[E.get p.1 (Wq λV=>Us M (hA _ (by unfold Hint.tmps;simp only[List.mem_append];exact .inl (.inr V))))];rw[ly nd p.1 (by rw[X];exact b2)];exact X⟩
    obtain⟨x,u,v,l1,l2,l3,l4⟩:=i4 D;have w3:Fp N (θ H) (B6 env) (BH H) (B6 i) (BH g):=((wv N).trans ((wf N).of_le (by rw[Cf];exact sv.step.len))).trans (w.of_le (C5 sv.step.len sf.step.len));refine⟨_,_,x,u,v,w3,l1,l2,l3,?_⟩;exact(Ea.trans ok.env (Ea.trans ok.env sv sf) l4).mono λt W=>by rcases Ah.1 W with W|W;rw[DR]at W;exact hA t (by unfold Hint.tmps;simp only[List.mem_append];exact .inl (.inl (.inr W)));exact W
   cases m
  cases m
def AE6(hr:KG P N E d j)(m:∀t,t∈E->t∈b)(l:∀t,t∈A.tmps->t∈b):KG P N b (.loop d) (wj A b j):=by
 intro R env H k r ok f;obtain⟨s,u,x,i,c,w,l1,l2,o,p⟩:=za (N:=N) (L0:=λenv H Q=>KC P N d env H Q) (L:=λenv H Q=>Ib P N d env H Q) (λn a=>a.mono n) (Ib.unroll ·) (Ib.after ·)
  (λenv H k r ok f=>by obtain⟨e,B,g,a,q⟩:=hr env H k r ok f;exact⟨e,B,g,a.awp,q⟩) m l env H k r ok f
 exact⟨x,i,c,tM.weak (by rw[Cf];exact w) l1,l2,o,p⟩
def ABm(P:Program)(N:Nat)(A:Ψ Nat)(c:Code)(run:Sem):Prop:=AH4 (aZ P N c) A run
def AE8(n:ABm P N E d Z.pre)(y:KG P N E (nF d) Z.suf)(i:∀t,t∈E->t∈b)(v:∀t,t∈A.tmps->t∈b):KG P N b (.loop d) (ACJ A b Z):=by
 intro R env H k r ok g;unfold ACJ at g;obtain⟨e,env1,f,a1,k1,h,B⟩:=n env H _ r ok g;cases e with
 |normal=>
  obtain⟨m,I,x,q,u,w,l1,l2,D,F⟩:=za (N:=N) (L0:=λenv H Q=>KC P N (nF d) env H (fR (λe A=>aZ P N d e A Q) Q)) (L:=λenv H Q=>ju P N d env H Q)
   (λo a=>a.mono λe c A z=>by
    cases e with
    |normal=>exact aZ.mono o z
    |_=>exact o _ _ _ z) (λ{env H Q} a=>ju.unroll (a.mono λe c A z=>by
    cases e<;>exact z)) (ju.after ·)
   (B:=E) (run:=AFu Z.suf Z.pre) (λenv H k r ok g=>by
    obtain⟨e,env1,f,a1,k1,h,B⟩:=y env H _ r ok g;cases e with
    |normal=>obtain⟨m,env2,p,a2,C,l,G⟩:=n env1 f k r h k1;refine⟨m,env2,p,a1.awp.mono ?_,C,l,(Ea.trans ok.env B G).mono λt j=>(Ah.1 j).elim id id⟩;rintro _ _ _ ⟨rfl,rfl,rfl⟩;exact a2
    |_=>refine⟨_,env1,f,a1.awp.mono ?_,k1,h,B⟩;rintro _ _ _ ⟨rfl,rfl,rfl⟩;exact⟨rfl,rfl,rfl⟩) i v env1 f k r h k1
  refine⟨x,q,u,dx (aZ.mono ?_ a1),l2,D,(Ea.trans ok.env B F).mono λt j=>(Ah.1 j).elim (i t) id⟩;rintro _ _ _ ⟨rfl,rfl,rfl⟩;exact⟨_,_,w.of_le (by rw[Cf];exact B.step.len),l1⟩
 |_=>refine⟨_,env1,f,dx (aZ.mono ?_ a1),k1,h,B.mono i⟩;rintro _ _ _ ⟨rfl,rfl,rfl⟩;exact⟨rfl,rfl,rfl⟩
def AEd{A B}{n}(o:KG P N A d j)(p:KG P N B S n):KG P N (A++B) (.cond z d S) (ABz z j n):=by
 intro R env H k r ok f;unfold ABz at f;dsimp only at f;split at f;rename_i v q;have m:BR (B6 env) z=.bool v:=by have:=MH env z;rw[q]at this;exact this
 cases v with
 |true=>obtain⟨e,a,g,a1,i,c,l⟩:=o env H k r ok f;exact⟨e,a,g,EZ (λ_ e=>by cases e) (KC.cond m (λ_=>a1.awp) (λe=>by cases e)),i,c,l.mono λt h=>Ah.2 (.inl h)⟩
 |false=>obtain⟨e,a,g,a1,i,c,l⟩:=p env H k r ok f;exact⟨e,a,g,EZ (λ_ e=>by cases e) (KC.cond m (λe=>by cases e) (λ_=>a1.awp)),i,c,l.mono λt h=>Ah.2 (.inr h)⟩
 cases f
def ACu{A}(hr:KG P N A d j):KG P N A (.block n d) (AAd n j):=by
 intro R env H k r ok m;obtain⟨e,a,g,a1,f,i,b⟩:=hr env H _ r ok m;cases e with
 |exit c=>
  simp only at f;split at f;rename_i l;have:=DQ l;refine⟨.normal,a,g,EZ (λ_ e=>by cases e) (KC.block (a1.awp.mono ?_)),f,i,b⟩;rintro _ _ _ ⟨rfl,rfl,rfl⟩;simp only[qE,C! this];exact⟨rfl,rfl,rfl⟩;rename_i l;have h:c≠n:=λe=>t!
  refine⟨.exit c,a,g,EZ (λ_ e=>by cases e) (KC.block (a1.awp.mono ?_)),f,i,b⟩;rintro _ _ _ ⟨rfl,rfl,rfl⟩;simp only[qE,D! h];exact⟨rfl,rfl,rfl⟩
 |_=>refine⟨_,a,g,EZ (λ_ e=>by cases e) (KC.block (a1.awp.mono ?_)),f,i,b⟩;rintro _ _ _ ⟨rfl,rfl,rfl⟩;exact⟨rfl,rfl,rfl⟩
end Go.Ab
namespace Go.Ab
variable {N n G:Nat}{R K:Type}{b E:Ψ Nat}{c D:Aw}{d S:Code}{e L Y:Bi}{f:Ψ RI}{F:FuncId}{P:Program}{j:Sem}{k:Bool}{l:Af}{p:Ψ TV}{q:Ψ Pa}{s:Ψ Af}{u:S0}{x:Ty}{y:Env}{z:Operand}{C:Int}{J:Exit}{O:Yb}{T:Value}{V:Func}{Z:AEF}
section
variable {P:Program}{N:Nat}{env:Env}{H:Ay}{Q:Exit->Env->Ay->Prop}{X:Nat->Prop}{h:Gh}{w:World}
def Gst(N:Nat)(env:Env)(H:Ay)(env2:Env)(H2:Ay):Prop:=
 ∀X h a w,St X h N env H a w->∃h2,St X h2 N env2 H2 a w/\HT h H w h2 H2 w
def KC.afterG(h:KC P N d env H (λe b f=>∃env2 c,Gst N b f env2 c/\Q e env2 c)):KC P N d env H Q:=by intro r X g a w s k;apply wpIn_mono (h r X g a w s k);rintro e i t ⟨l,b,f,⟨env2,c,n,q⟩,o,u,j⟩;obtain⟨m,p,v⟩:=n X l i t o;exact⟨m,env2,c,q,p,u.trans v,j⟩
def Ib.afterG(h:Ib P N d env H (λe b f=>∃env2 c,Gst N b f env2 c/\Q e env2 c)):Ib P N d env H Q:=by intro r X g a w s k;apply XO (h r X g a w s k);rintro e i t ⟨l,b,f,⟨env2,c,n,q⟩,o,u,j⟩;obtain⟨m,p,v⟩:=n X l i t o;exact⟨m,env2,c,q,p,u.trans v,j⟩
def tM.afterG(h:tM P N d env H (λe a c=>∃env2 b,Gst N a c env2 b/\Q e env2 b)):tM P N d env H Q:=by
 cases d with
 |loop x=>exact Ib.afterG h
 |_=>exact KC.afterG h
def mvH(H:Ay)(n m:Nat)(e:Fv):Ay:=(H.set n e).set m .dead
def iq{e f:Fv}(g:n≠N)(hn:n<θ H)(a:(mvH H n N f)[G]?=δ e)(d:e≠.dead):(G=n/\e=f)\/(G≠n/\G≠N/\H[G]?=δ e):=by unfold mvH at a;by_cases b:G=N;subst b;rw[R2]at a;rw[C! rfl]at a;split at a;injection a with a;exact O! a.symm d;cases a;rw[Dl (b ·.symm)]at a;by_cases c:G=n;subst c;rw[HU hn]at a;injection a with a;exact .inl ⟨rfl,a.symm⟩;rw[Dl (c ·.symm)]at a;exact .inr ⟨c,b,a⟩
def HT.mv{n m gn b:Nat}{cn d:Ψ Af}(s:I6 X h H w)(hn:H[n]?=δ (.live gn cn))(j:H[m]?=δ (.live b d))(f:n≠m)(v:gn<b):HT h H w (h.at_ n (h.io m) (h.gen m) (h.cap m)) (mvH H n m (.live b d)) w:=by have i:h.gen n=gn:=(s.live n gn cn hn).1;have g:h.gen m=b:=(s.live m b d j).1;have p:n<θ H:=(Gb.1 hn).1;refine⟨rfl,rfl,rfl,Ao _,λ_ _ _=>rfl,by simp[mvH],λid _=>?_,λid _ e=>?_,λB t=>?_,λ_ r hr=>⟨r,hr⟩⟩;simp only[Gh.at_];split;rename_i q;rw[q,i,g];omega;exact Ao _;simp only[Gh.at_]at e⊢;split at e;rename_i q;rw[q,i,g]at e;omega;rename_i q;simp[q];obtain⟨id,e,o,c,a⟩:=t;rcases iq f p o c with⟨rfl,rfl⟩|⟨k,u,l⟩;simp only[Gh.at_,if_true]at a;exact .inl ⟨m,_,j,k!,a⟩;simp only[Gh.at_,D! k]at a;exact .inl ⟨id,e,l,c,a⟩
theorem I6.mv{n m gn R:Nat}{cn cm:List Af}(s:I6 X h H w)(hn:H[n]? =some (.live gn cn))(O:H[m]? =some (.live R cm))(d:n≠m)(hg:gn<R):I6 X (h.at_ n (h.io m) (h.gen m) (h.cap m)) (mvH H n m (.live R cm)) w:=by
 have hx:=HT.mv s hn O d hg;have E:=hx.later X;have F:n<H.length:=(Gb.1 hn).1;refine⟨λB V=>⟨(s.out B V).1,λho=>?_⟩,λid g cs A=>?_,λid L A=>?_,λid M e e' B A K D i o c=>?_,λid e A W=>?_⟩
 ·rcases hx.fresh B ho with q|q
  ·exact(s.out B V).2 q
  ·have:=(s.out B V).1;omega
 ·rcases iq d F A (by simp)with⟨rfl,q⟩|⟨l,N,y⟩
  ·injection q with P q2;subst P q2;obtain⟨a,b⟩:=s.live m g cs O;refine⟨by simp[cx,Gh.at_];exact a,?_⟩;rcases b with⟨p,u⟩|⟨B,z,T,Q,f,p,u,G,I,J,x⟩
   ·exact .inl ⟨by simp only[cx,Gh.at_,if_true];exact p,u⟩
   ·exact .inr ⟨B,z,T,Q,f,by simp only[cx,Gh.at_,if_true];exact p,u,by simp only[cx,Gh.at_,if_true];exact G,I,J,λj v C=>⟨(x j v C).1,(x j v C).2.1,(x j v C).2.2.later E⟩⟩
  ·obtain⟨a,b⟩:=s.live id g cs y;refine⟨by simp only[cx,Gh.at_,if_neg l];exact a,?_⟩;rcases b with⟨p,u⟩|⟨B,z,T,Q,f,p,u,G,I,J,x⟩
   ·exact .inl ⟨by simp only[cx,Gh.at_,if_neg l];exact p,u⟩
   ·exact .inr ⟨B,z,T,Q,f,by simp only[cx,Gh.at_,if_neg l];exact p,u,by simp only[cx,Gh.at_,if_neg l];exact G,I,J,λj v C=>⟨(x j v C).1,(x j v C).2.1,(x j v C).2.2.later E⟩⟩
 ·rcases iq d F A (by simp)with⟨rfl,q⟩|⟨l,N,y⟩
  ·cases q
  ·obtain⟨a,B,r,p,u,G,I,J,x,b7,b8,Z⟩:=s.lp id L y;exact⟨by simp only[cx,Gh.at_,if_neg l];exact a,B,r,by simp only[cx,Gh.at_,if_neg l];exact p,u,G,I,J,x,b7,b8,λt v hv=>⟨(Z t v hv).1,(Z t v hv).2.later E⟩⟩
 ·rcases iq d F A D with⟨P,q2⟩|⟨l,N,y⟩
  ·rcases iq d F K i with⟨Y,q4⟩|⟨S,h5,U⟩
   ·rw[P,Y]
   ·subst P;simp only[Gh.at_,if_true]at o;simp only[Gh.at_,if_neg S]at c;exact absurd (s.inj m M _ _ B O U (by simp) i o c).symm h5
  ·rcases iq d F K i with⟨Y,q4⟩|⟨S,h5,U⟩
   ·subst Y;simp only[Gh.at_,if_true]at c;simp only[Gh.at_,if_neg l]at o;exact absurd (s.inj id m _ _ B y O D (by simp) o c) N
   ·simp only[Gh.at_,if_neg l]at o;simp only[Gh.at_,if_neg S]at c;exact s.inj id M e e' B y U D i o c
 ·rcases iq d F A (by rintro rfl;cases W)with⟨rfl,q⟩|⟨l,N,y⟩
  ·subst q;cases W
  ·have b:=s.bld id e y W;cases e with
   |mp k es=>simpa only[BAt,Gh.at_,if_neg l]using b
   |it k sn=>simpa only[BAt,Gh.at_,if_neg l]using b
   |_=>trivial
def Gst.mv{n m gn b:Nat}{cn f:Ψ Af}(hn:H[n]?=δ (.live gn cn))(i:H[m]?=δ (.live b f))(e:n≠m)(l:gn<b)
  (A:∀t v,(t,v)∈y->(t,v)∈env\/∃sz d len,v=.sl n b sz d len/\(t,Af.sl m b sz d len)∈env):Gst N env H y (mvH H n m (.live b f)):=by
 intro X h a w s;have o:=HT.mv s.sim hn i e l;have j:h.gen m=b:=(s.sim.live m b f i).1;have G:n<θ H:=(Gb.1 hn).1;refine⟨_,⟨s.sim.mv hn i e l,λt v z=>?_,s.size⟩,o⟩;rcases A t v z with q|⟨sz,d,len,rfl,q⟩;exact⟨(s.env t v q).1,(s.env t v q).2.later (o.later X)⟩;obtain⟨p,k⟩:=s.env t _ q;refine⟨p,?_⟩;generalize a.tmps.getD t undef=c at k;cases k with
 |sl x u g r=>refine .sl (by simp[cx,mvH];exact G) (by simp only[cx,Gh.at_,if_true];rw[j];exact Ao _) g λ_=>?_;rcases r j with q|⟨B,cap,C,D,E,F⟩;exact .inl ⟨by simp only[cx,Gh.at_,if_true];exact q.1,q.2⟩;exact .inr ⟨B,cap,by simp only[cx,Gh.at_,if_true];exact C,D,by simp only[cx,Gh.at_,if_true];exact E,F⟩
end
section
variable {R:Type}{P:Program}{N:Nat}
def Gst.refl(N:Nat)(env:Env)(H:Ay):Gst N env H env H:=λ_ h _ w s=>⟨h,s,HT.refl h H w⟩
def Gst.trans{N}{f g i}{c d e}(a:Gst N f c g d)(b:Gst N g d i e):Gst N f c i e:=λX h x w s=>by obtain⟨j,l,n⟩:=a X h x w s;obtain⟨k,m,o⟩:=b X j x w l;exact⟨k,m,n.trans o⟩
def AJE{k:Bi->Aw->Ω R}{r:R}(ok:Ob e c)(h:mv1 G n e c k=δ r):∃a g,Gst N (B6 e) (BH c) (B6 a) (BH g)/\k a g=δ r/\Ob a g/\Ea [G] e c a g:=by
 have same:k e c=δ r->∃a g,Gst N (B6 e) (BH c) (B6 a) (BH g)/\k a g=δ r/\Ob a g/\Ea [G] e c a g:=λq=>⟨e,c,.refl _ _ _,q,ok,⟨.refl c,λ_ _ _=>rfl⟩⟩
 unfold mv1 at h;split at h;rename_i m j H J I;split at h;exact same h;rename_i b;have b:m≠n:=λq=>by rw[q,H6]at b;cases b
 split at h;rename_i W l1 F l X l2 t Y hn w;split at h;rename_i D z;have D:=DQ D;subst D;simp only[BQ]at z;have x:=Ty.beq_eq _ _ z.1;have y:=Ty.beq_eq _ _ z.2;injection x with x;injection y with y;subst x y;cases f:τ (F<t)with
 |false=>rw[f]at h;cases h
 |true=>
  rw[f,B!]at h;have f:F<t:=N! f;have hr:Sp c m j H J:=by have:=kw ok.env G;rw[I]at this;exact this (.own m j H J) (by simp[TV.refs])
  obtain⟨_,A⟩:=hr.2 _ _ _ _ _ w;obtain⟨_,A⟩:=A rfl;subst A;have K:CN c (c.set n (.buf η H l2 t (l+1))):=CN.set hn rfl λ_ _ _ _ _ q=>by cases q;exact⟨_,_,_,_,rfl,.inl (Nat.lt_succ_self _)⟩
  have B:(c.set n (.buf η H l2 t (l+1)))[m]?=δ (.buf η H l2 t j):=by rw[Dl (b ·.symm)];exact w
  have L:CN (c.set n (.buf η H l2 t (l+1))) ((c.set n (.buf η H l2 t (l+1))).set m .dead):=CN.set B rfl λ_ _ _ _ _ q=>by cases q
  have st:=K.trans L;have C:t=θ l2:=ok.heap _ (BP w);have i:n<θ c:=(Gb.1 hn).1;have o:=SD K ok.heap (show D9.ok _ (.buf η H l2 t (l+1))from C);refine⟨_,_,?_,h,⟨cJ (d:=δ G) (st.env ok.env) ?_,SD L o trivial⟩,⟨st,λu p _=>?_⟩⟩;have O:BH ((c.set n (.buf η H l2 t (l+1))).set m .dead)=mvH (BH c) n m (.live t (H.E.cl l2)):=by rw[Lo,Lo];rfl
  rw[O];refine Gst.mv (gn:=F) (cn:=H.E.cl l1) (by rw[EV,hn];rfl) (by rw[EV,w];rfl) (b ·.symm) f (λu v p=>?_);rw[kU]at p;unfold Env.put at p;rcases As.1 p with q|q;injection q with P Q;subst P Q;refine .inr ⟨H.sz,0,t,rfl,?_⟩;exact BY.2 ⟨_,ZY I (λq=>by cases q),rfl⟩;exact .inl (BG.1 q).1;refine KF ⟨by simpa using i,λS V T U M E=>?_⟩;rw[Dl b,HU i]at E;cases E;exact⟨Ao _,λ_=>⟨rfl,rfl⟩⟩;have s:u≠G:=λq=>p (by simp[q]);unfold Bi.put;simp only[Bi.get];rw[beq_false (s ·.symm)];exact tC s e
 cases h;exact same h;exact same h
def AA6:∀{j}{env}{H}{k}{r:R},Ob env H->mvs j env H k=δ r->∃f i,Gst N (B6 env) (BH H) (B6 f) (BH i)/\k f i=δ r/\Ob f i/\Ea (WN j) env H f i
 |[],env,H,k,r,ok,h=>⟨env,H,.refl _ _ _,h,ok,⟨.refl H,λ_ _ _=>rfl⟩⟩
 |s::j,env,H,k,r,ok,h=>by
  have l:mvs j env H k=δ r->(∀t,t∈WN j->t∈WN (s::j))->∃f i,Gst N (B6 env) (BH H) (B6 f) (BH i)/\k f i=δ r/\Ob f i/\Ea (WN (s::j)) env H f i:=λq A=>by obtain⟨e,i,a,b,c,d⟩:=AA6 ok q;exact⟨e,i,a,b,c,d.mono A⟩
  cases s with
  |g t n=>simp only[mvs]at h;obtain⟨E,D,a1,o,v,x⟩:=AJE (N:=N) ok h;obtain⟨z,m,a2,p,w,y⟩:=AA6 v o;exact⟨z,m,a1.trans a2,p,w,(x.trans ok.env y).mono λu C=>by simpa[WN]using C⟩
  |_=>exact l h λt B=>by simp[WN,B]
def AFH(hr:KG P N E d j)(i:∀t,t∈E->t∈b)(o:∀t,t∈WN q->t∈b):KG P N b d (AFG q j):=by intro R env H k r ok p;obtain⟨e,env1,l,a1,k1,a,A⟩:=hr env H _ r ok p;split at k1;obtain⟨n,m,g,s,f,h⟩:=AA6 (N:=N) a k1;refine⟨e,n,m,tM.afterG (a1.mono ?_),s,f,(A.trans ok.env h).mono λt B=>(Ah.1 B).elim (i t) (o t)⟩;rintro x u v ⟨rfl,rfl,rfl⟩;exact⟨_,_,g,rfl,rfl,rfl⟩;exact⟨e,env1,l,a1,k1,a,A.mono i⟩
end
variable {P:Program}{N:Nat}
def KG.mono(h:KG P N b d j)(f:∀t,t∈b->t∈E):KG P N E d j:=λenv H k r ok g=>by obtain⟨e,a,B,i,A,l,m⟩:=h env H k r ok g;exact⟨e,a,B,i,A,l,m.mono f⟩
def uj{hs:Ψ Hint}{A B:Ψ Nat}(hr:KG P N B d j)(c:∀t,t∈B->t∈A)(b:∀t,t∈sE hs d->t∈A):KG P N A d (wc (hintOf hs d) A j):=by
 unfold sE at b;generalize hintOf hs d=o at b⊢;cases o with
 |none=>exact hr.mono c
 |some h=>exact λenv H k r ok f=>zS hr c (h:=h.rel (θ H)) (λt e=>b t (by rw[T0]at e;exact e)) env H k r ok f
def AE7{hs:Ψ Hint}{A B:Ψ Nat}(hr:KG P N B d Z.main)(i:ABm P N B d Z.pre)(g:KG P N B (nF d) Z.suf)(e:∀t,t∈B->t∈A)(b:∀t,t∈sE hs (.loop d)->t∈A):KG P N A (.loop d) (uv (hintOf hs (.loop d)) A Z):=by
 unfold sE at b;generalize hintOf hs (.loop d)=o at b⊢;cases o with
 |none=>exact λenv H k r ok a=>by cases a
 |some h=>
  intro R env H k r ok a;have a:uv (δ h) A Z env H k=δ r:=a;have b:∀t,t∈(h.rel (θ H)).tmps->t∈A:=λt c=>b t (by rw[T0]at c;exact c);cases f:ξ h.kind 8 with
  |true=>rw[show uv (δ h) A Z env H k=ACJ (h.rel (θ H)) A Z env H k by simp only[uv,f]]at a;exact AE8 i g e b env H k r ok a
  |false=>rw[show uv (δ h) A Z env H k=wj (h.rel (θ H)) A (AFG (h.rel (θ H)).slots Z.main) env H k by simp only[uv,f]]at a;exact AE6 (AFH hr e λt c=>b t (by unfold Hint.tmps;simp only[List.mem_append];exact .inl (.inr c))) (λ_ q=>q) b env H k r ok a
def Wr:∀{env}{p:Nat×TV},p∈iu env->p∈env/\MB p.2.refs=[]
 |(t,v)::r,p,h=>by simp only[iu]at h;split at h;rename_i a;rcases As.1 h with rfl|h;exact⟨Gj,a⟩;exact⟨CU _ (Wr h).1,(Wr h).2⟩;exact⟨CU _ (Wr h).1,(Wr h).2⟩
theorem ADd(A:Wu P u){B:Array Tmp}:KG P N b (.rangeFunc z B d S) (ABJ P u N F z B d S):=by
 intro R env H k r ok q;unfold ABJ at q;dsimp only at q;split at q;rename_i G first m hf
 split at q;rename_i hE;have Z:BR (B6 env) z=.fn (.func G) first m:=by rw[MH,hf];rfl
 have E:(D9.lp η F N (iu env) B d S .ready).ok (H++[.lp η F N (iu env) B d S .ready]):=λp T id al t n hm=>by have:=oE hm;rw[(Wr T).2]at this;cases this
 have V:CN H (H++[.lp η F N (iu env) B d S .ready]):=CN.push H _;obtain⟨v,i,q1,K,q3,q4,q5⟩:=A (.fn G) _ _ _ r (λv Y=>by simp only[Ah,BY,Ax]at Y;rcases Y with(⟨Q,_,rfl⟩|rfl)|⟨Q,_,rfl⟩;exact lP Q;exact KF trivial;exact lP Q) (Qa ok.heap E) q
 have y:∀{ro}{a n e p c f}{s}{x},i[θ H]?=δ (.lp ro a n e p c f s)→ro=η→(∀L:mr,L.state=s.st→L.pending=s.pend→AFk P N (B6 env) (θ H) (VO x (B6 env) (BH (i.set (θ H) .dead))) ((BH i).set (θ H) (.lp L)))→k x env (i.set (θ H) .dead)=δ r→
   ∃W g O,tM P N (.rangeFunc z B d S) (B6 env) (BH H) (VO W (B6 g) (BH O))/\k W g O=δ r/\Ob g O/\Ea b env H g O:=by
  intro ro a n e p c f s x o U hq q;subst U;have M:CN i (i.set (θ H) .dead):=CN.set o rfl λ_ _ _ _ _ h=>by cases h
  have st:=(V.trans q5).trans M;refine⟨x,env,_,EZ (λ_ e=>by cases e) (mb (B6 (iu env)) (λp T=>?_) Z hE ?_),q,⟨st.env ok.env,SD M q4 trivial⟩,st,λ_ _ _=>rfl⟩;obtain⟨Q,hu,rfl⟩:=BY.1 T;exact BY.2 ⟨Q,(Wr hu).1,rfl⟩;have J:E8 P G _ _ _:=q1;have w:(first.map tvA++[TV.c (.raw (.yf (θ H)))]++m.map tvA).map TV.enc=first++[.yf (BH H).length]++m:=by
   have X:∀l:Ψ Af,(l.map tvA).map TV.enc=l:=by
    intro l;rw[Lh];conv=>rhs;rw[<-fZ l]
    grind[List.map_congr_left,jG]
   rw[Kp,Kp,X,X,Cf];rfl
  rw[w,R6]at J;apply J.mono;rintro _ _ ⟨rfl,rfl⟩;rw[Cf];have I:BH i=(BH i).set (θ H) (.lp ⟨n,B6 e,p,c,f,s.st,s.pend⟩):=by
   have hg:(BH i)[θ H]?=δ (.lp ⟨n,B6 e,p,c,f,s.st,s.pend⟩):=by rw[EV,o];rfl
   apply Jc;intro j;by_cases ad:j=θ H<;>grind
  rw[I];exact hq _ rfl rfl
 have look:∀L:mr,θ H<θ i->((BH i).set (θ H) (.lp L))[θ H]?=δ (.lp L):=λL h=>by grind[List.getElem?_set_self,Cf]
 have dead:∀L:mr,((BH i).set (θ H) (.lp L)).set (θ H) .dead=BH (i.set (θ H) .dead):=λL=>by rw[Yk,Lo];rfl
 split at K;rename_i o;refine y o rfl (λL C D=>⟨L,look L (Hg o),by rw[C];simp[LS.st],?_⟩) K;rw[D,dead];exact⟨rfl,rfl,rfl⟩;rename_i o;refine y o rfl (λL C D=>⟨L,look L (Hg o),by rw[C];simp[LS.st],?_⟩) K;rw[D,dead];exact KC.ret ⟨rfl,rfl,rfl⟩;rename_i x o;refine y o rfl (λL C D=>⟨L,look L (Hg o),by rw[C];simp[LS.st],?_⟩) K;rw[D,dead];exact KC.exit ⟨rfl,rfl,rfl⟩;cases K;cases q;cases q
theorem AEc{hs:Ψ Hint}(h:ou d S=δ O):∀t∈O.tmps,t∈Pl hs d++Pl hs S:=by obtain⟨o,v,l,q,w,n,r,x,s,y,u,z,rfl,rfl,f,g,i,j,k,_⟩:=ov h;obtain⟨_,_,_,_,_,_,l1⟩:=sL f;obtain⟨_,_,_,_,_,_,l2⟩:=sM g;obtain⟨_,_,_,_,_,_,_,_,_,_,_,_,c⟩:=sN i;obtain⟨_,_,_,_,_,_,_,_,_,_,_,_,_,_,_,a⟩:=sO j;obtain⟨_,_,_,_,_,_,_,e⟩:=sP k;intro t b;simp only[Pl,l1,l2,c,a,e,o7,Ah];simp only[Yb.tmps]at b;grind
theorem AHk(S:∀c∈f,c.Ok P)(O:Wu P u)(y:FuncId)(d:Ψ Hint):∀c:Code,KG P N (Pl d c) c (sw P f u N y d c)/\(∀m r,c=.seq m r->KG P N (Pl d r) r (sw P f u N y d r))/\ABm P N (Pl d c) c (fN P f u N y d c).pre/\KG P N (Pl d c) (nF c) (fN P f u N y d c).suf:=by
 have L:∀A c,KG P N A c QZ:=λA c R env H k r ok j=>by cases j
 have g:∀A c,ABm P N A c QZ:=λA c R env H k r ok j=>by cases j
 intro c;induction c with
 |skip=>exact⟨λenv H k r ok j=>⟨.normal,env,H,EZ (λ_ e=>by cases e) (KC.skip ⟨rfl,rfl,rfl⟩),j,ok,Ea.refl _ _ _⟩,λ_ _ e=>(by cases e),g _ _,L _ _⟩
 |ret=>exact⟨λenv H k r ok j=>⟨.ret,env,H,EZ (λ_ e=>by cases e) (KC.ret ⟨rfl,rfl,rfl⟩),j,ok,Ea.refl _ _ _⟩,λ_ _ e=>(by cases e),g _ _,L _ _⟩
 |exit id=>exact⟨λenv H k r ok j=>⟨.exit id,env,H,EZ (λ_ e=>by cases e) (KC.exit ⟨rfl,rfl,rfl⟩),j,ok,Ea.refl _ _ _⟩,λ_ _ e=>(by cases e),g _ _,L _ _⟩
 |seq a b D w=>
  refine⟨?_,λm r e=>(by injection e with V C;subst V C;exact w.1),?_,?_⟩;rotate_left;by_cases I:∃m z,b=.seq m z;obtain⟨m,z,rfl⟩:=I;intro env H k r ok j;obtain⟨e,env1,J,a1,k1,v,M⟩:=D.1 env H _ r ok (show sw P f u N y d a env H _=δ r from j);cases e with
  |normal=>obtain⟨C,env2,K,a2,Y,F,Z⟩:=w.2.2.1 env1 J k r v k1;refine⟨C,env2,K,KC.mono a1.awp ?_,Y,F,(Ea.trans ok.env M Z).mono λt l=>Ah.2 (.inl l)⟩;rintro _ _ _ ⟨rfl,rfl,rfl⟩;exact a2
  |_=>refine⟨_,env1,J,KC.mono a1.awp ?_,k1,v,M.mono λt l=>Ah.2 (.inl (Ah.2 (.inl l)))⟩;rintro _ _ _ ⟨rfl,rfl,rfl⟩;exact⟨rfl,rfl,rfl⟩
  intro env H k r ok j;have j:sw P f u N y d a env H k=δ r:=by cases b<;>first|exact j|exact O! ⟨_,_,rfl⟩ I
  obtain⟨e,env1,J,a1,k1,v,M⟩:=D.1 env H k r ok j;have C:∀Q,aZ P N (.seq a b) (B6 env) (BH H) Q=KC P N a (B6 env) (BH H) Q:=λQ=>by cases b<;>first|rfl|exact O! ⟨_,_,rfl⟩ I
  exact⟨e,env1,J,by rw[C];exact a1.awp,k1,v,M.mono λt l=>Ah.2 (.inl (Ah.2 (.inl l)))⟩;have mo:∀t,t∈Pl d b->t∈Pl d (.seq a b):=λt l=>Ah.2 (.inl (Ah.2 (.inr l)));intro R env H k r ok j;by_cases I:∃m z,b=.seq m z;obtain⟨m,z,rfl⟩:=I;exact KG.mono w.2.2.2 mo env H k r ok j;have q:KG P N (Pl d (.seq a b)) b (sw P f u N y d b):=KG.mono w.1 mo;have j:sw P f u N y d b env H k=δ r:=by cases b<;>first|exact j|exact O! ⟨_,_,rfl⟩ I
  have C:nF (.seq a b)=b:=by cases b<;>first|rfl|exact O! ⟨_,_,rfl⟩ I
  rw[C];exact q env H k r ok j;have U:KG P N (Pl d a++Pl d b) (.seq a b) (λenv H k=>sw P f u N y d a env H λe n G=>match e with|.normal=>sw P f u N y d b n G k|e=>k e n G):=by
   intro R env H k r ok j;obtain⟨e,env1,J,a1,k1,v,M⟩:=D.1 env H _ r ok j;cases e with
   |normal=>obtain⟨C,env2,K,a2,Y,F,Z⟩:=w.1 env1 J k r v k1;refine⟨C,env2,K,EZ (λ_ e=>by cases e) (KC.seq (a1.awp.mono ?_)),Y,F,Ea.trans ok.env M Z⟩;rintro _ _ _ ⟨rfl,rfl,rfl⟩;exact a2.awp
   |_=>refine⟨_,env1,J,EZ (λ_ e=>by cases e) (KC.seq (a1.awp.mono ?_)),k1,v,M.mono λt l=>Ah.2 (.inl l)⟩;rintro _ _ _ ⟨rfl,rfl,rfl⟩;exact⟨rfl,rfl,rfl⟩
  intro R env H k r ok j;by_cases I:∃m z,b=.seq m z;obtain⟨m,z,rfl⟩:=I;simp only[sw,fN]at j;split at j;rename_i p hp;obtain⟨env1,J,a1,k1,v,M⟩:=AEb S hp ok j;obtain⟨C,env2,K,a2,Y,F,Z⟩:=w.2.1 m z rfl env1 J k r v k1;refine⟨C,env2,K,EZ (λ_ e=>by cases e) (KC.seq (a1.mono ?_)),Y,F,(Ea.trans ok.env M Z).mono λt l=>?_⟩;intro e E h hx;cases e with
  |normal=>exact KC.seq (hx.mono (by rintro _ _ _ ⟨rfl,rfl,rfl⟩;exact a2.awp))
  |_=>exact hx.elim
  show t∈(Pl d a++((Pl d m++Pl d z)++vR d m z))++vR d a (.seq m z);rcases Ah.1 l with l|l;rcases Ah.1 (AEc (hs:=d) hp t l)with h|h<;>simp[h];simp[l];exact U.mono (λt l=>Ah.2 (.inl l)) env H k r ok j;have j:sw P f u N y d (.seq a b) env H k=δ r:=j;rw[AHl λm r e=>I ⟨m,r,e⟩]at j;have hA:∀t,t∈vR d a b->t∈Pl d (.seq a b):=λt l=>Ah.2 (.inr l);have hB:∀t,t∈Pl d a++Pl d b->t∈Pl d (.seq a b):=λt l=>Ah.2 (.inl l);unfold vR at hA;generalize tK d a b=o at j hA;cases o with
  |none=>exact U.mono hB env H k r ok j
  |some h=>exact zS U hB (h:=h.rel (θ H)) (λt l=>hA t (by rw[T0]at l;exact l)) env H k r ok j
 |cond c a b D w=>have W:KG P N (Pl d a++Pl d b) (.cond c a b) (ABz c (sw P f u N y d a) (sw P f u N y d b)):=AEd D.1 w.1;refine⟨?_,λ_ _ e=>(by cases e),g _ _,L _ _⟩;intro R;exact uj (hs:=d) (A:=Pl d (.cond c a b)) W (λt l=>Ah.2 (.inl l)) (λt l=>Ah.2 (.inr l))
 |block id b X=>have W:KG P N (Pl d b) (.block id b) (AAd id (sw P f u N y d b)):=ACu X.1;refine⟨?_,λ_ _ e=>(by cases e),g _ _,L _ _⟩;intro R;exact uj (hs:=d) (A:=Pl d (.block id b)) W (λt l=>Ah.2 (.inl l)) (λt l=>Ah.2 (.inr l))
 |loop b X=>exact⟨AE7 (hs:=d) (A:=Pl d (.loop b)) X.1 X.2.2.1 X.2.2.2 (λt l=>Ah.2 (.inl l)) (λt l=>Ah.2 (.inr l)),λ_ _ e=>(by cases e),g _ _,L _ _⟩
 |region id s B=>
  refine⟨?_,λ_ _ e=>(by cases e),(by cases B<;>exact g _ _),(by cases B<;>exact L _ _)⟩;cases B with
  |false=>
   have W:KG P N (o7 s.toList) (.region id s η) (λenv H k=>match Pv N s.toList with
    |true=>zy P f u s (guards s) η s.toList 0 env H λn G=>k .normal n G
    |false=>ε):=by
    intro R env H k r ok j;dsimp only at j;split at j;rename_i T;obtain⟨n,G,r1,r2,r3,r4⟩:=iy (N:=N) S O _ _ _ _ _ _ ok j;refine⟨.normal,n,G,EZ (λ_ e=>by cases e) (GK T ?_),r2,r3,r4⟩;show XY P N s s.toList (B6 env) (BH H) (λV K=>Exit.normal=Exit.normal/\V=B6 n/\K=BH G);simpa using r1;cases j
   intro R;exact uj (hs:=d) (A:=Pl d (.region id s η)) W (λt l=>Ah.2 (.inl l)) (λt l=>Ah.2 (.inr l))
  |true=>
   intro R env H k r ok j;simp only[sw,fN]at j;split at j;rename_i T;simp only[BQ]at T;obtain⟨n,G,r1,r2,r3,r4⟩:=ZV (N:=N) S O _ _ _ _ _ _ ok j;refine⟨.normal,n,G,EZ (λ_ e=>by cases e) (kX T.1.1.1 _ T.1.1.2 T.1.2 ?_ ?_),r2,r3,r4.mono λt l=>Ah.2 (.inl ?_)⟩;have:=aV T.2;rw[B6,Lh];exact this;show RA P N s (ABF s) [] (B6 env) (BH H) (λV K=>Exit.normal=Exit.normal/\V=B6 n/\K=BH G);simpa using r1;unfold vg at l;obtain⟨i,_,hi⟩:=Pg.1 l;cases ho:s[i]? with
   |none=>rw[ho]at hi;cases hi
   |some o=>
    rw[ho]at hi;refine Pg.2 ⟨o,?_,hi⟩;have:s.toList[i]?=δ o:=by simpa using ho
    exact BP this
   cases j
 |rangeFunc x ps a b _ _=>exact⟨ADd O,λ_ _ e=>(by cases e),g _ _,L _ _⟩
 |_=>exact⟨λenv H k r ok j=>(by simp only[sw,fN,QZ]at j;cases j),λ_ _ e=>(by cases e),g _ _,L _ _⟩
theorem rJ(b:∀c∈f,c.Ok P)(e:Wu P u)(g:FuncId)(d:Ψ Hint)(c:Code):KG P N (Pl d c) c (sw P f u N g d c):=by grind[AHk]
end Go.Ab
namespace Go.Ab
def du:Nat->Ψ TV->Bi
 |_,[]=>[]
 |i,v::r=>(i,v)::du (i+1) r
def oG(P:Program)(env:Bi)(H:Aw):Ψ ResultVar->Ω (Ψ TV)
 |[]=>δ []
 |.tmp t::r=>match oG P env H r with|some vs=>δ (env.get t::vs)|none=>ε
 |.cell a t::r=>match oG P env H r with|some vs=>loadT P H t (env.get a) λv=>δ (v::vs)|none=>ε
def zQ:Exit->Bool
 |.normal=>ζ
 |.ret=>ζ
 |_=>η
variable {N n G:Nat}{R K:Type}{c D:Aw}{e L Y:Bi}{f:Ψ RI}{F:FuncId}{P:Program}{k:Bool}{l:Af}{p:Ψ TV}{s:Ψ Af}{x:Ty}{C:Int}{J:Exit}{T:Value}{V:Func}
def AJ9(P:Program)(fn:Func)(k:TV->Aw->Ω R):Exit->Bi->Aw->Ω R:=λe env H=>
 match zQ e with
 |true=>match oG P env H fn.results.toList with|some vs=>k (one vs) H|none=>ε
 |false=>ε
def AAA:Bi->Ψ Tmp->Ψ TV->Bi
 |env,t::ts,v::vs=>AAA (env.put t v) ts vs
 |env,_,_=>env
def AFp(id:Nat)(k:TV->Aw->Ω R):Exit->Bi->Aw->Ω R:=λe _ H=>
 match H[id]? with
 |some (.lp η F n env ps a b _)=>
  match e with
  |.normal=>k (.c (.bl ζ)) (H.set id (.lp η F n env ps a b .ready))
  |.ret=>k (.c (.bl η)) (H.set id (.lp η F n env ps a b .ret))
  |.exit x=>k (.c (.bl η)) (H.set id (.lp η F n env ps a b (.exit x)))
  |_=>ε
 |_=>ε
noncomputable def ABS(P:Program)(cs:Ψ RI)(call:S0)(hs:FuncId->Ψ Hint)(id:Nat)(vs:Ψ TV)(H:Aw){R:Type}(k:TV->Aw->Ω R):Ω R:=
 match H[id]? with
 |some (.lp η F n env ps a b .ready)=>
  match ξ (θ vs) ps.size&&ps.toList.all λt=>Nat.blt t n with
  |true=>sw P cs call n F (hs F) a (AAA env ps.toList vs) H λe env1 H1=>
   match e with
   |.normal=>
    match H1[id]? with
    |some (.lp η F1 n1 e1 ps1 a1 b1 .ready)=>sw P cs call n F (hs F) b env1 (H1.set id (.lp η F1 n1 e1 ps1 a1 b1 .busy)) (AFp id k)
    |_=>ε
   |_=>ε
  |false=>ε
 |_=>ε
noncomputable def rT(P:Program)(cs:Ψ RI)(hs:FuncId->Ψ Hint):Nat->S0
 |0=>λ_ _ _ _=>ε
 |n+1=>λtg vs H k=>
  match tg with
  |.fn F=>
   match P.funcs[F]? with
   |some fn=>
    match fn.body with
    |some c=>match Nat.ble (θ vs) fn.ntmps with|true=>sw P cs (rT P cs hs n) fn.ntmps F (hs F) c (du 0 vs) H (AJ9 P fn k)|false=>ε
    |none=>ε
   |none=>ε
  |.yd id=>ABS P cs (rT P cs hs n) hs id vs H k
def ui(bt:Ty):(rs:Ψ Ty)->DL rs->bt.D->DL (rs++[bt])
 |[],_,b=>b
 |[_],y,b=>(y,b)
 |_::u::r,y,b=>(y.1,ui bt (u::r) y.2 b)
def refsOf(vs:Ψ TV):Ψ Nat:=vs.flatMap λv=>MB v.refs
def AJ6(P:Program)(fn:Func)(rs:Ψ Ty):Exit->Bi->Aw->Ω (DL rs):=λe env H=>
 match zQ e with
 |true=>
  match oG P env H fn.results.toList with
  |some vs0=>match I7 (refsOf vs0) env H with|(ef,hf)=>match oG P ef hf fn.results.toList with|some vs=>inp rs vs|none=>ε
  |none=>ε
 |false=>ε
def AJ7(P:Program)(fn:Func)(bt:Ty)(rs:Ψ Ty):Exit->Bi->Aw->Ω (DL (rs++[bt])):=λe env H=>
 match zQ e with
 |true=>
  match oG P env H fn.results.toList with
  |some vs0=>
   match I7 (refsOf vs0++(match (H[0]? :Ω D9)with|some (.live _ cs)=>MB cs|_=>[])) env H with
   |(ef,hf)=>
    match oG P ef hf fn.results.toList,(hf[0]? :Ω D9)with
    |some vs,δ (.live _ cs)=>match inp rs vs,bt.all cs with|some y,δ b=>δ (ui bt rs y b)|_,_=>ε
    |_,_=>ε
  |none=>ε
 |false=>ε
def uf:Nat->TV->Ψ TV->Ψ TV
 |0,v,l=>v::l
 |n+1,v,x::l=>x::uf n v l
 |_+1,v,[]=>[v]
noncomputable def ABq(P:Program)(cs:Ψ RI)(hs:FuncId->Ψ Hint)(n:Nat)(F:FuncId)(ds rs:Ψ Ty)(x:DL ds):Ω (DL rs):=
 match P.funcs[F]? with
 |some fn=>
  match fn.body with
  |some c=>match Nat.ble (xG ds x).length fn.ntmps with|true=>sw P cs (rT P cs hs n) fn.ntmps F (hs F) c (du 0 (xG ds x)) [] (AJ6 P fn rs)|false=>ε
  |none=>ε
 |none=>ε
noncomputable def AES(P:Program)(cs:Ψ RI)(hs:FuncId->Ψ Hint)(n:Nat)(F:FuncId)(pos:Nat)(bt:Ty)(ds rs:Ψ Ty)(b:bt.D)(x:DL ds):Ω (DL (rs++[bt])):=
 match P.funcs[F]? with
 |some fn=>
  match fn.body with
  |some c=>
   match Nat.ble (uf pos (.c (.raw (.ptr 0 0 0))) (xG ds x)).length fn.ntmps with
   |true=>sw P cs (rT P cs hs n) fn.ntmps F (hs F) c (du 0 (uf pos (.c (.raw (.ptr 0 0 0))) (xG ds x))) [.live η (bt.lvs b)] (AJ7 P fn bt rs)
   |false=>ε
  |none=>ε
 |none=>ε
theorem dv:∀l i,B6 (du i l)=env0 i (l.map TV.enc)
 |[],_=>rfl
 |v::r,i=>by have:=dv r (i+1);grind[B6,du,env0]
def kV{H:Aw}:∀{l:Ψ TV}{i},(∀v∈l,v.ok H)->∀p∈du i l,p.2.ok H
 |[],_,_,p,a=>by cases a
 |v::r,i,h,p,a=>by simp only[du]at a;rcases As.1 a with rfl|a;exact h v k!;exact kV (λw b=>h w (by simp[b])) p a
theorem mN{P}{env:Bi}{H:Aw}(d:∀p∈env,p.2.ok H)(c:∀e∈H,e.ok H):∀{l}{b:Ψ TV},oG P env H l=δ b->Tm P (B6 env) (BH H) l=δ (b.map TV.enc)/\∀v∈b,v.ok H
 |[],b,h=>by simp only[oG,Av]at h;subst h;exact⟨rfl,λv g=>by cases g⟩
 |.tmp t::r,b,h=>by simp only[oG]at h;split at h;rename_i k f;obtain⟨i,j⟩:=mN d c f;grind[Tm,oH,VM,kw];cases h
 |.cell a t::r,b,h=>by simp only[oG]at h;split at h;rename_i k f;obtain⟨i,j⟩:=mN d c f;obtain⟨u,m,n,o⟩:=sI c (kw d a) h;grind[Tm,oH,VM];cases h
def vK(d:∀b∈e,b.2.ok c)(H:∀a∈c,a.ok c)(h:oG P e c V.results.toList=δ p):jM P V (B6 e) (BH c)=δ (mq (p.map TV.enc)):=by
 unfold jM;rw[(mN d H h).1];cases p with
 |nil=>rfl
 |cons v r=>
  cases r with
  |nil=>rfl
  |cons u r=>rfl
def xD:∀a(b:Ψ TV)env,SG (B6 env) a (b.map TV.enc)=B6 (AAA env a b)
 |[],_,_=>rfl
 |_::_,[],_=>rfl
 |t::a,v::b,env=>by simp only[Bs,SG,AAA];rw[<-kU];exact xD a b (env.put t v)
def AAB{H:Aw}:∀b(a:Ψ TV)(env:Bi),(∀p∈env,p.2.ok H)->(∀v∈a,v.ok H)->∀p∈AAA env b a,p.2.ok H
 |[],_,_,h,_=>h
 |_::_,[],_,h,_=>h
 |t::b,v::a,env,h,hv=>AAB b a (env.put t v) (cJ (d:=δ t) h (hv v k!)) λu c=>hv u (by simp[c])
def AID{H}{F n env ps a b}{s e}(h:(D9.lp k F n env ps a b s).ok c):(D9.lp H F n env ps a b e).ok D:=h
theorem ACK{F n env ps a b}{s s':LS}(h:c[N]?=δ (.lp η F n env ps a b s)):CN c (c.set N (.lp η F n env ps a b s')):=CN.set h rfl (λ_ _ _ _ _ h=>by cases h) λ_ _ _ _ _ _ _ _ e=>q!
def AA0{F n env ps a b}{s:LS}(h:c[N]?=δ (.lp k F n env ps a b s)):(BH c)[N]?=δ (.lp ⟨n,B6 env,ps,a,b,s.st,s.pend⟩):=by rw[EV,h];rfl
theorem ADh{P:Program}{cs:List RI}(K: ∀c∈cs,c.Ok P){hs:FuncId→List Hint}{g:S0}(J:Wu P g){R:Type}{id:Nat}{S:List TV}{H:Aw}{k:TV→Aw→Option R}{r:R}(hv: ∀v∈S,v.ok H)(hH: ∀e∈H,e.ok H)
  (h:ABS P cs g hs id S H k=some r): ∃v d,yi P (S.map TV.enc) (BH H) v.enc (BH d) (.yd id)/\k v d=some r/\v.ok d/\(∀e∈d,e.ok d)/\CN H d:=by
 unfold ABS at h;split at h
 ·rename_i F n env ps a b he;split at h
  ·rename_i hb;simp only[BQ]at hb;have M: ∀p∈env,p.2.ok H:=λp hp x hx=>by
    have:=(hH _ (BP he)) p hp;cases x with
    |own i v t m=>grind
    |_=>trivial
   obtain⟨e,env1,T,a1,k1,w,s1⟩:=rJ (N:=n) K J F (hs F) a _ H _ r ⟨AAB ps.toList S env M hv,hH⟩ h;split at k1
   ·split at k1
    ·rename_i F1 n1 Y z U V s;have B:CN T _:=ACK (s':=.busy) s;obtain⟨x,env2,D,a2,j,O,s2⟩:=rJ (N:=n) K J F (hs F) b _ _ _ r ⟨B.env w.env,SD B w.heap (AID (w.heap _ (BP s)))⟩ k1;unfold AFp at j;split at j
     ·rename_i F2 n2 Z A W X s0 u
      have l: ∀(v:Bool) (C:LS),k (.c (.bl v)) (D.set id (.lp false F2 n2 Z A W X C))=some r→(∀L:mr,(BH D)[id]? =some (.lp L)→L=⟨n2,B6 Z,A,W,X,s0.st,s0.pend⟩→AFq id (DN (.bool v) (BH (D.set id (.lp false F2 n2 Z A W X C)))) x (B6 env2) (BH D))→
        ∃v d,yi P (S.map TV.enc) (BH H) v.enc (BH d) (.yd id)/\k v d=some r/\v.ok d/\(∀e∈d,e.ok d)/\CN H d:=by
       intro v C hk hq;have Q:CN D _:=ACK (s':=C) u;refine⟨.c (.bl v),_,?_,hk,KF trivial,SD Q O.heap (AID (O.heap _ (BP u))),((s1.step.trans B).trans s2.step).trans Q⟩;intro N o c f env0 ho I hf q;refine Jy.yield ho I hf (AA0 he) ?_ ?_ ?_
       ·grind[List.length,List.length_map,Array.length_toList,Nat.eq_of_beq_eq_true]
       ·simp_all
       ·show KC P n a (SG (B6 env) ps.toList (c.args.toList.map (BR env0))) (BH H) _;rw[q,xD];refine a1.awp.mono ?_;rintro _ _ _ ⟨rfl,rfl,rfl⟩;refine⟨rfl,_,AA0 s,rfl,?_⟩;have e3:(BH T).set id (.lp ⟨n1,B6 Y,z,U,V,.busy,LS.pend .ready⟩)=BH (T.set id (.lp false F1 n1 Y z U V .busy)):=by rw[Lo];rfl
        show KC P n b (B6 env1) ((BH T).set id (.lp ⟨n1,B6 Y,z,U,V,.busy,LS.pend .ready⟩)) _;rw[e3];refine a2.awp.mono ?_;rintro _ _ _ ⟨rfl,rfl,rfl⟩;exact hq _ (AA0 u) rfl
      split at j
      ·refine l true .ready j λL G E=>⟨L,G,rfl,?_⟩
       subst E;rw[Lo];rfl
      ·refine l false .ret j λL G E=>⟨L,G,rfl,?_⟩
       subst E;rw[Lo];rfl
      ·rename_i y;refine l false (.exit y) j λL G E=>⟨L,G,rfl,?_⟩
       subst E;rw[Lo];rfl
      ·cases j
     ·cases j
    ·cases k1
   ·cases k1
  ·cases h
 ·cases h
theorem kO{P}{j:Ψ RI}(b:∀c∈j,c.Ok P){m:FuncId->Ψ Hint}:∀n,Wu P (rT P j m n)
 |0=>by grind[rT]
 |n+1=>by
  intro z A H k r p l h;cases z with
  |yd id=>exact ADh b (kO b n) p l h
  |fn F=>
  simp only[rT]at h;split at h;rename_i fn y;split at h;rename_i c w;split at h;rename_i hn;obtain⟨e,d,f,a1,k1,a,q⟩:=rJ (N:=fn.ntmps) b (kO b n) F (m F) c (du 0 A) H _ r ⟨kV p,l⟩ h;unfold AJ9 at k1;split at k1;rename_i x;split at k1;rename_i s o;refine⟨one s,f,Ku y w t! ?_,k1,u7 (mN a.env a.heap o).2,a.heap,q.step⟩;rw[<-dv];apply a1.awp.mono;rintro _ _ _ ⟨rfl,rfl,rfl⟩;have g:∃v t i,jM P fn (B6 d) (BH f)=δ v/\PZ (BH H).length v (BH f) t i/\DN (one s).enc (BH f) t i:=⟨_,_,_,vK a.env a.heap o,PZ.refl _ _ (by rw[Cf,Cf];exact q.step.len),by rw[pU],rfl⟩
  rename_i u;cases u<;>first|exact g|cases x
  cases k1;cases k1;cases h;cases h;cases h
def D0.tup{b a}(h:D0 b a):XX (.tup b) (.tup a):=by
 intro x c r;cases r with
 |tup g hr=>refine .tup (by rw[g,h.1]) λj l d f e=>?_;obtain⟨v,i,k⟩:=h.2 j l f;exact k _ _ (hr j v d i e)
def Xc{b}(h:D0 s b):XX (mq s) (mq b):=by
 match s,b,h with
 |[],[],h=>exact XX.refl _
 |[v],[w],h=>obtain⟨u,c,d⟩:=h.2 0 w rfl;simp at c;subst c;exact d
 |v::u::r,w::x::a,h=>exact D0.tup h
def QK:∀a x,∀v∈cp a x,Pure v
 |[],_,v,h=>by cases h
 |[t],x,v,h=>by simp only[cp,Ax]at h;subst h;exact t.enc_pure x
 |t::u::r,x,v,h=>by simp only[cp]at h;rcases As.1 h with rfl|h;exact t.enc_pure x.1;exact QK (u::r) x.2 v h
def YZ(h:∀v∈s,Pure v):Pure (mq s):=by
 match s,h with
 |[],_=>rfl
 |[v],h=>exact h v k!
 |v::u::r,h=>exact(D7 _ _).2 h
theorem vM{a H2:Aw}(j:θ H2<=θ a)(hr:HR a H2 [])(i:ma (θ H2) H2=ζ){d}(v:XX l d)(k:Pure d):PZ (θ H2) l (BH a) d (BH H2):=by
 refine⟨by rw[Cf];exact Ao _,λX h w c s r=>?_⟩;have q:=(HR.rel j hr (cx X h (BH a) w)).onto;have n:=s.rel q;have m:=(v _ c r).later q.later;have e:(BH H2++(BH a).drop (θ H2)).take (θ H2)=BH H2:=by grind[Cf]
 have b:θ H2<=(BH H2++(BH a).drop (θ H2)).length:=by simp[BH]
 have g:=n.trunc b (by rw[e];exact mD i);have f:=m.trunc b (lJ k _);rw[e]at g f;exact⟨h,g,f,λ_ _=>⟨rfl,rfl,rfl⟩,λB o=>q.own B (iv (n0:=θ H2) q!)⟩
def rV{n}:∀{a b},bQ n a=ζ->bQ n b=ζ->bQ n (a++b)=ζ
 |[],_,_,hb=>hb
 |x::r,b,ha,hb=>by obtain⟨c,e⟩:=wL ha;have d:=rV e hb;cases x<;>simp only[Dx,bQ,BQ,Ry]at c⊢ <;>first|exact d|exact⟨c,d⟩
mutual
theorem Ty.lvs_clo{n:Nat}:∀(t:Ty)x,bQ n (t.lvs x)=ζ
 |.bool,_=>rfl
 |.int _,_=>rfl
 |.str,_=>rfl
 |.list _,_=>rfl
 |.arr _ _,_=>rfl
 |.prod ts,x=>ts.lvs_clo x
theorem Sz.lvs_clo{n:Nat}:∀(a:Sz)x,bQ n (a.lvs x)=ζ
 |.one t,x=>t.lvs_clo x
 |.cons t a,x=>rV (t.lvs_clo x.1) (a.lvs_clo x.2)
end
def rC(h:∀v∈s,Pure v)(a:Nat->Nat):Af.renL a s=s:=by
 rw[PO];conv=>rhs;rw[<-fZ s]
 exact Lg λv b=>(h v b).ren a
def ue{ρ:Nat->Nat}:∀{n}{v:Af}{l:Ψ Af},(∀v∈l,Pure v)->Af.renL ρ (WM n v l)=WM n (v.ren ρ) l
 |0,v,l,h=>by simp only[WM,Af.renL,rC h]
 |n+1,v,[],h=>rfl
 |n+1,v,x::l,h=>by have b:=ue (ρ:=ρ) (n:=n) (v:=v) (l:=l) λu a=>h u (CU _ a);simp only[WM,Af.renL,(h x Gj).ren,b]
def wb:∀{n}{v u:Af}{l},u∈WM n v l->u=v\/u∈l
 |0,v,u,l,h=>by simpa[WM]using h
 |n+1,v,u,[],h=>by simpa[WM]using h
 |n+1,v,u,x::l,h=>by simp only[WM]at h;rcases As.1 h with rfl|h;exact .inr k!;rcases wb h with h|h;exact .inl h;exact .inr (by simp[h])
def zO:∀{n}{v}{l},(uf n v l).map TV.enc=WM n v.enc (l.map TV.enc)
 |0,_,_=>rfl
 |n+1,_,[]=>rfl
 |n+1,v,x::l=>by simp only[uf,Bs,WM,zO]
def zP:∀{n}{v u:TV}{l},u∈uf n v l->u=v\/u∈l
 |0,v,u,l,h=>by simpa[uf]using h
 |n+1,v,u,[],h=>by simpa[uf]using h
 |n+1,v,u,x::l,h=>by simp only[uf]at h;rcases As.1 h with rfl|h;exact .inr k!;rcases zP h with h|h;exact .inl h;exact .inr (by simp[h])
theorem rU{t}:∀v∈(x.enc t).cells,Pure v:=by
 intro v a;have h:=x.enc_pure t;cases b:x.enc t with
 |agg c=>rw[b]at a h;exact((D7 _ _).1 h) v a
 |_=>grind[Af.cells]
def jD(a:Ty):∀c y b,ME a c (ui a c y b)=(y,b)
 |[],_,_=>rfl
 |[_],_,_=>rfl
 |_::u::r,y,b=>by simp only[ui,ME,jD a (u::r) y.2 b]
variable {P:Program}{cs:Ψ RI}{hs:FuncId->Ψ Hint}{n:Nat}{F:FuncId}{ds rs:Ψ Ty}
def AI4{f}(k:zQ J=ζ)(ok:Ob e c)(hr:oG P e c V.results.toList=δ p)(h:PZ N (mq (p.map TV.enc)) (BH c) l f):
  AKX P V N (DN l f) J (B6 e) (BH c):=by
 have d:∃v b a,jM P V (B6 e) (BH c)=δ v/\PZ N v (BH c) b a/\DN l f b a:=⟨_,_,_,vK ok.env ok.heap hr,h,rfl,rfl⟩
 cases J<;>first|exact d|cases k
def AB1{g:DL ds->Ω (DL rs)}(d:∀c∈cs,c.Ok P)(t:∀x,g x=ABq P cs hs n F ds rs x):(RI.c0 F ds rs g).Ok P:=by
 intro x y a H;rw[t]at a;have key:E8 P F (cp ds x) [] (DN (mq (cp rs y)) []):=by unfold ABq at a;split at a;rename_i q s;split at a;rename_i c r;split at a;rename_i hn;obtain⟨e,o,z,a1,k1,l,B⟩:=rJ (N:=q.ntmps) d (kO d n) F (hs F) c (du 0 (xG ds x)) [] _ y ⟨kV (lQ ds x),λe i=>by cases i⟩ a;unfold AJ6 at k1;split at k1;rename_i i;split at k1;rename_i m u;obtain⟨f,w,p⟩:=R8 (refsOf m) l;simp only at k1 f w p;split at k1;rename_i C k;apply Ku s r (by rw[<-YP,BX];exact Pk hn);rw[<-YP,<-dv];refine KC.after (a1.awp.mono ?_);rintro _ _ _ ⟨rfl,rfl,rfl⟩;exact⟨_,_,(p _).of_le (BS _),AI4 i f k (vM (H2:=[]) (BS _) (λj A _ h=>by cases h) rfl (Xc (ZQ k1)) (YZ (QK rs y)))⟩;cases k1;cases k1;cases k1;cases a;cases a;cases a
 exact VP (H:=H) [] key RO rfl rfl (λj b e h=>by cases h) (λe h=>by cases h) (λe h=>by cases h) (YZ (QK rs y)) (rC (QK ds x) _) ((D7 _ _).2 λv k=>(QK ds x v k).all _)
theorem AGt{g:x.D->DL ds->Ω (DL (rs++[x]))}(m:∀c∈cs,c.Ok P)(T:∀b D,g b D=AES P cs hs n F N x ds rs b D):(RI.c1 F N x ds rs g).Ok P:=by
 intro b D y f H id V;rw[T]at f;have key:∃r i,y=ui x rs r i/\E8 P F (WM N (.ptr 0 0 0) (cp ds D)) [.live 0 (x.enc b).cells] (DN (mq (cp rs r)) [.live 0 (x.enc i).cells]):=by
  unfold AES at f;split at f;rename_i M S;split at f;rename_i c R;split at f;rename_i hn;have t:Ob (du 0 (uf N (.c (.raw (.ptr 0 0 0))) (xG ds D))) [.live η (x.lvs b)]:=by refine⟨kV λv d=>?_,λe s=>?_⟩;rcases zP d with rfl|d;exact KF trivial;grind[lQ];rw[Ax.1 s];exact x.lvs_ok b
  obtain⟨e,l,G,a1,k1,u,E⟩:=rJ (N:=M.ntmps) m (kO m n) F (hs F) c _ _ _ y t f;unfold AJ7 at k1;split at k1;rename_i s;split at k1;rename_i z W;generalize C:(refsOf z++_)=ids at k1;obtain⟨k,w,A⟩:=R8 ids u;generalize I7 ids l G=fz at k1 k w A;obtain⟨ef,U⟩:=fz;simp only at k1 k w A;split at k1;rename_i vs Y I d O;split at k1;rename_i r i hr q;injection k1 with k1;refine⟨r,i,k1.symm,?_⟩;have J:BH [.live η (x.lvs b)]=[.live 0 (x.enc b).cells]:=by simp only[BH,Bs,H5,D9.enc,x.lvs_enc]
  have K:BH [.live η (x.lvs i)]=[.live 0 (x.enc i).cells]:=by simp only[BH,Bs,H5,D9.enc,x.lvs_enc]
  have L:WM N (.ptr 0 0 0) (cp ds D)=(uf N (.c (.raw (.ptr 0 0 0))) (xG ds D)).map TV.enc:=by rw[zO,YP];rfl
  rw[<-J,<-K,L];apply Ku S R (by rw[BX];exact Pk hn);rw[<-dv];refine KC.after (a1.awp.mono ?_);rintro _ _ _ ⟨rfl,rfl,rfl⟩;have o:1<=θ U:=C5 E.step.len w.step.len;refine⟨_,_,(A _).of_le (by rw[Cf,Cf];exact E.step.len),AI4 s k d ?_⟩;rw[Cf];refine vM (H2:=[.live η (x.lvs i)]) o (λj Z _ h=>?_) (by simp only[ma,x.lvs_clo,WV]) (Xc (ZQ hr)) (YZ (QK rs r));match j,h with
  |0,h=>simp only[cY,Av]at h;subst h;refine⟨_,O,.inr (.inl ⟨_,_,_,_,rfl,rfl,?_⟩)⟩;rw[x.lvs_enc];exact GL q
  |j+1,h=>grind
  cases k1;cases k1;cases k1;cases k1;cases f;cases f;cases f
 obtain⟨r,i,rfl,key⟩:=key;rw[jD];have Q:Af.renL ([id].getD · 0) (WM N (.ptr 0 0 0) (cp ds D))=WM N (.ptr id 0 0) (cp ds D):=by rw[ue (QK ds D)];rfl
 exact VP (H:=H) [id] key (Gk.2 ⟨k!,RO⟩) rfl rfl (λj X e p B=>by
   match j,p,B with
   |0,p,B=>grind[List.getElem?_cons_zero,Option.some.injEq]
   |j+1,p,_=>simp at p) (λe h=>by
   rw[Ax.1 h];exact(D7 _ _).2 λv d=>rU v d) (λe h=>by
   rw[Ax.1 h];exact(D7 _ _).2 λv d=>rU v d) (YZ (QK rs r)) Q ((D7 _ _).2 λv d=>by
   rcases wb d with rfl|d;rfl;exact(QK ds D v d).all _)
end Go.Ab
namespace Go.Ab
def ii:Ψ (Nat×Ψ Hint)->FuncId->Ψ Hint
 |[],_=>[]
 |(k,h)::r,F=>match ξ k F with|true=>h|false=>ii r F
theorem CM{P}:∀c∈([]:Ψ RI),c.Ok P:=q!
variable {N n G:Nat}{R K:Type}{f:Ψ RI}{F:FuncId}{P:Program}{k:Bool}{l:Af}{s:Ψ Af}{x:Ty}{C:Int}{T:Value}
theorem A8{P}{c:RI}(h:c.Ok P)(b:∀c∈f,c.Ok P):∀d∈c::f,d.Ok P:=q!
def wi(a:Int):Int:=ι .i64 a
abbrev len{α:Type}(l:Ψ α):Int:=(θ l:Int)
def pB{A B:Type}(f:(A->Ω B)->A->Ω B):Nat->A->Ω B
 |0,_=>ε
 |n+1,x=>f (pB f n) x
noncomputable def sh{A B:Type}(f:(A->Ω B)->A->Ω B)(x:A):Ω B:=open Classical in if h:∃r n,pB f n x=δ r then δ h.choose else ε
theorem dw{f:(R->Ω K)->R->Ω K}{x:R}{r:K}(h:sh f x=δ r):∃n,pB f n x=δ r:=by unfold sh at h;split at h<;>grind
theorem gw{f:(R->Ω K)->R->Ω K}{x:R}{r:K}{n}(h:pB f n x=δ r):∃s,sh f x=δ s:=by unfold sh;rw[dif_pos ⟨r,n,h⟩];grind
def AGv{P:Program}{a:Ψ RI}{hs:FuncId→Ψ Hint}{n:Nat}{F:FuncId}{ds rs:Ψ Ty}{f:(DL ds→Ω (DL rs))→DL ds→Ω (DL rs)}(b:∀c∈a,c.Ok P)
  (e:∀g x,f g x=ABq P (.c0 F ds rs g::a) hs n F ds rs x):(RI.c0 F ds rs (sh f)).Ok P:=by
 have key:∀m,(RI.c0 F ds rs (pB f m)).Ok P:=by
  intro m;induction m with
  |zero=>intro x y d;cases d
  |succ m i=>exact AB1 (cs:=.c0 F ds rs (pB f m)::a) (A8 i b) λx=>e (pB f m) x
 intro x y d;obtain⟨m,h⟩:=dw d;exact key m x y h
def AJ8(P:Program)(fn:Func)(te:Ty)(rs:Ψ Ty):Exit->Bi->Aw->Ω (DL (rs++[.list te])):=λe env H=>
 match zQ e with
 |true=>
  match oG P env H fn.results.toList with
  |some vs0=>
   match I7 ((refsOf vs0).filter λi=>! ξ i 0) env H with
   |(ef,hf)=>
    match oG P ef hf fn.results.toList,(hf[0]? :Ω D9)with
    |some vs,δ (.buf _ t l _ _)=>if h:(Ty.list t).beq (Ty.list te)=ζ then(match inp rs vs with|some y=>δ (ui (.list te) rs y (Ty.cast h l))|none=>ε)else ε
    |_,_=>ε
  |none=>ε
 |false=>ε
def fnC:Af->Bool
 |.fn (.func _) [] []=>ζ
 |_=>η
def ym(te:Ty)(ds:Ψ Ty)(post:Ψ Af)(l:Ψ te.D)(x:DL ds):Ψ TV:=.c (.own 0 0 te (θ l))::(xG ds x++post.map λv=>.c (.raw v))
noncomputable def AET(P:Program)(cs:Ψ RI)(hs:FuncId->Ψ Hint)(n:Nat)(F:FuncId)(te:Ty)(ds rs:Ψ Ty)(post:Ψ Af)(l:Ψ te.D)(x:DL ds):Ω (DL (rs++[.list te])):=
 match P.funcs[F]? with
 |some fn=>
  match fn.body with
  |some c=>
   match Nat.ble (ym te ds post l x).length fn.ntmps&&post.all fnC with
   |true=>sw P cs (rT P cs hs n) fn.ntmps F (hs F) c (du 0 (ym te ds post l x)) [.buf η te l (θ l) 0] (AJ8 P fn te rs)
   |false=>ε
  |none=>ε
 |none=>ε
theorem AI7(h:fnC l=ζ):∃F,l=.fn (.func F) [] []:=by unfold fnC at h;grind
def AEq(h:fnC l=ζ):Pure l:=by obtain⟨F,rfl⟩:=AI7 h;rfl
variable {P:Program}{cs:Ψ RI}{hs:FuncId->Ψ Hint}{n:Nat}{F:FuncId}{ds rs:Ψ Ty}{te:Ty}{post:Ψ Af}
def ACt(l:Ψ te.D)(x:DL ds):(ym te ds post l x).map TV.enc=.sl 0 (θ l) te.sz 0 (θ l)::(cp ds x++post):=by
 have e:(post.map λv=>TV.c (.raw v)).map TV.enc=post:=by
  rw[Lh];conv=>rhs;rw[<-fZ post]
  exact Lg λv _=>rfl
 simp only[ym,Bs,Kp,YP,e];rfl
theorem R5{g:Ψ te.D->DL ds->Ω (DL (rs++[.list te]))}(t:∀c∈cs,c.Ok P)(hg:∀l x,g l x=AET P cs hs n F te ds rs post l x):(RI.c2 F te ds rs post g).Ok P:=by
 intro l x y k d H id C;rw[hg]at k;have key:∃r m,y=ui (.list te) rs r m/\(∀v∈post,Pure v)/\E8 P F (.sl 0 (θ l) te.sz 0 (θ l)::(cp ds x++post)) [.live (θ l) (te.E.cl l)] (DN (mq (cp rs r)) [.live (θ m) (te.E.cl m)]):=by
  unfold AET at k;split at k;rename_i fn hf;split at k;rename_i c hb;split at k;rename_i hn;simp only[BQ]at hn;have b:∀v∈post,Pure v:=λv a=>AEq (Ga.1 hn.2 v a);have w:([D9.buf η te l (θ l) 0]:Aw)[0]?=δ (.buf η te l (θ l) 0):=rfl;have K:Ob (du 0 (ym te ds post l x)) [.buf η te l (θ l) 0]:=by refine⟨kV λv a=>?_,λe B=>?_⟩;rcases As.1 a with rfl|a;exact KF (Wt w);rcases Ah.1 a with a|a;grind[lQ];obtain⟨u,_,rfl⟩:=BY.1 a;exact KF trivial;rw[Ax.1 B];exact rfl
  obtain⟨e,s,W,a1,k1,L,U⟩:=rJ (N:=fn.ntmps) t (kO t n) F (hs F) c _ _ _ y K k;unfold AJ8 at k1;split at k1;rename_i B;split at k1;rename_i O ad;generalize T:((refsOf O).filter _)=ids at k1;obtain⟨o,M,Q⟩:=R8 ids L;generalize I7 ids s W=fz at k1 o M Q;obtain⟨ef,hh⟩:=fz;simp only at k1 o M Q;split at k1;rename_i vs X q l1 J V a R;split at k1;rename_i z;split at k1;rename_i r hr;injection k1 with k1;have i:=Ty.beq_eq _ _ z;injection i with i;subst i;have p:(Ty.cast z l1:Ψ q.D)=l1:=rfl;rw[p]at k1;have I:J=θ l1:=o.heap _ (BP R);refine⟨r,l1,k1.symm,b,?_⟩;have Y:BH [.buf η q l (θ l) 0]=[.live (θ l) (q.E.cl l)]:=rfl;have Z:BH [.buf η q l1 J V]=[.live (θ l1) (q.E.cl l1)]:=by rw[<-I];rfl
  rw[<-Y,<-Z,<-ACt];apply Ku hf hb (by rw[BX];exact Pk hn.1);rw[<-dv];refine KC.after (a1.awp.mono ?_);rintro _ _ _ ⟨rfl,rfl,rfl⟩;have G:1<=θ hh:=C5 U.step.len M.step.len;refine⟨_,_,(Q _).of_le (by rw[Cf,Cf];exact U.step.len),AI4 B o a ?_⟩;rw[Cf];refine vM (H2:=[.buf η q l1 J V]) G (λj e' _ h=>?_) rfl (Xc (ZQ hr)) (YZ (QK rs r));match j,h with
  |0,h=>simp only[cY,Av]at h;subst h;exact⟨_,R,.inr (.inr (.inl ⟨_,_,_,_,_,_,_,rfl,rfl⟩))⟩
  |j+1,h=>simp at h
  cases k1;cases k1;cases k1;cases k1;cases k1;cases k;cases k;cases k
 obtain⟨r,m,rfl,b,key⟩:=key;rw[jD]at d⊢;simp only at d⊢;rw[<-d];rw[<-d]at C key;have f:∀v∈cp ds x++post,Pure v:=λv a=>(Ah.1 a).elim (QK ds x v) (b v);have ha:Af.renL ([id].getD · 0) (.sl 0 (θ m) te.sz 0 (θ m)::(cp ds x++post))=.sl id (θ m) te.sz 0 (θ m)::(cp ds x++post):=by simp only[Af.renL,rC f];rfl
 exact VP (H:=H) [id] key (Gk.2 ⟨k!,RO⟩) rfl rfl (λj X e A S=>by
   match j,A,S with
   |0,A,S=>grind[List.getElem?_cons_zero,Option.some.injEq]
   |j+1,A,_=>simp at A) (λe h=>by
   rw[Ax.1 h];exact(D7 _ _).2 (xX te l)) (λe h=>by
   rw[Ax.1 h];exact(D7 _ _).2 (xX te m)) (YZ (QK rs r)) ha ((D7 _ _).2 λv a=>by
   rcases As.1 a with rfl|a;rfl;exact(f v a).all _)
def uG{f:(Ψ te.D×DL ds→Ω (DL (rs++[.list te])))→Ψ te.D×DL ds→Ω (DL (rs++[.list te]))}(a:∀c∈cs,c.Ok P)
  (d:∀g l x,f g (l,x)=AET P (.c2 F te ds rs post (λl x=>g (l,x))::cs) hs n F te ds rs post l x):(RI.c2 F te ds rs post λl x=>sh f (l,x)).Ok P:=by
 have key:∀m,(RI.c2 F te ds rs post λl x=>pB f m (l,x)).Ok P:=by
  intro m;induction m with
  |zero=>intro l x y b;cases b
  |succ m h=>exact R5 (cs:=.c2 F te ds rs post (λl x=>pB f m (l,x))::cs) (A8 h a) λl x=>d (pB f m) l x
 intro l x y b;obtain⟨m,e⟩:=dw b;exact key m l x y e
end Go.Ab
namespace Go.Ab
def clW(fn:Func):Nat->String:=λi=>
 match fn.body with
 |some (.seq (.region _ a _) (.seq (.seq (.region _ b _) (.cond _ (.seq (.region _ c _) _) _)) (.seq (.region _ d _) _)))=>(((a++b++c++d)[i]?).map (·.pos)).getD default
 |_=>default
def AC0(t b:TypeId)(w:Nat->String):Code:=
 .seq (.region 0 #[⟨δ 2,.assign (.const (.slice ε 0 0)),t,w 0, #[],ε⟩] η)
  (.seq (.seq (.region 1 #[⟨δ 3,.move (.tmp 0),t,w 1, #[],ε⟩,⟨δ 4,.binOp .eql t (.tmp 3) (.const (.slice ε 0 0)) t,b,w 2, #[⟨0,.data⟩],ε⟩] η)
    (.cond (.tmp 4) (.seq (.region 2 #[⟨δ 2,.assign (.const (.slice ε 0 0)),t,w 3, #[],ε⟩] η) .ret) .skip))
   (.seq (.region 3 #[⟨δ 5,.buildSlice t 0 #[],t,w 4, #[],ε⟩,⟨δ 6,.move (.tmp 0),t,w 5, #[],ε⟩,
     ⟨δ 7,.call {callee:=.builtin .append,args:= #[.tmp 5,.tmp 6],argTypes:= #[t,t]},t,w 6, #[⟨0,.data⟩,⟨1,.data⟩],ε⟩,
     ⟨δ 2,.assign (.tmp 7),t,w 7, #[⟨2,.data⟩,⟨2,.chain⟩,⟨0,.phase⟩,⟨1,.phase⟩,⟨2,.phase⟩],ε⟩] η) .ret))
def PZ.none{n0:Nat}{H:Ay}{id g sz off:Nat}(hn:n0<=θ H)(b:id<θ H)(k:0<sz):PZ n0 (.sl id g sz off 0) H (.vs sz []) (H.set id .dead):=by
 refine⟨by simpa using hn,λX h w c s r=>?_⟩;obtain⟨p,t⟩:=s.kill b;refine⟨h,p,?_,λ_ _=>⟨rfl,rfl,rfl⟩,λB o=>?_⟩;cases r with
 |sl l m n q=>obtain⟨a,cap,rfl⟩:=n;exact B3.vs (rows:=[]) (λ_ _=>undef) (BS _) k (λj e h=>by simp at h) (λh=>(h rfl).elim) (λj e i v h=>by simp at h)
 obtain⟨i,e,l,d,m⟩:=o;rcases Jx b l with⟨_,f⟩|⟨rfl,rfl⟩;exact⟨i,e,f,d,m⟩;exact(d rfl).elim
variable {N n G:Nat}{R K:Type}{f:Ψ RI}{F:FuncId}{P:Program}{k:Bool}{s:Ψ Af}{x:Ty}{C:Int}{T:Value}
theorem AEX{P:Program}{F:FuncId}{t b:TypeId}{a:Ty}(o:(P.funcs[F]?).map (λx=>(x.body,x.ntmps,x.results))=some (some (AC0 t b (((P.funcs[F]?).map clW).getD (λ_=>default))),8, #[.tmp 2]))(I:elT P t=some a)(j:iw 0 a #[] []=true):(RI.cl F a).Ok P:=by
 generalize ((P.funcs[F]?).map clW).getD (λ_=>default)=w at o;obtain⟨x,T,B⟩:=Tt.1 o;injection B with O B;injection B with hn hr;intro l H U;obtain⟨e,A,u⟩:=kS I;have J:=(RV A).1;have z: ∀env,Tf P env t 0 #[]=some (a.sz,[]):=by intro env;unfold Tf;simp only[A];refine if_pos ⟨a.sz_pos,u,rfl,rfl,BS _,?_⟩;unfold iw at j;simp only[BQ]at j;exact Pk j.2
 have main: ∀Q:Af→Ay→Prop,(l=[]→Q (.vs a.sz []) (BH (H++[.dead])))→(∀r,l≠ []→app [] l=some r→Q (.sl H.length r.length a.sz 0 r.length) (BH (H++[.buf false a r r.length 0])))→
   (l=[]\/ ∃r,app [] l=some r)->E8 P F [.vs a.sz (l.map a.enc)] (BH H) Q:=by
  intro Q L M f;refine Ku T O (by rw[hn];simp) ?_;rw[hn];refine KC.seq (GK rfl (XY.cons rfl (D5 (v:=.nils) rfl (XY.nil (KC.seq (KC.seq (GK rfl (XY.cons rfl (D5 (v:=.vs a.sz (l.map a.enc)) rfl (XY.cons rfl (uT (sz:=a.sz) (rows:=l.map a.enc) rfl J rfl λK S=>XY.nil ?_)))))))))));have k:K=true->l=[]:=λh=>by by_cases i:l=[]<;>simp_all
  have d:(BH H++[Fv.live 0 []]).set (BH H).length Fv.dead=BH (H++[.dead]):=by simp_all[Tq,Ao,HG,BH,D9.enc]
  refine KC.cond (b:=K) rfl (λy=>?_) (λR=>?_)
  ·refine KC.seq (GK rfl (XY.cons rfl (D5 (v:=.nils) rfl (XY.nil (KC.weak (Fp.virt (t:=2) (sz:=a.sz) rfl) (KC.ret (⟨.sl (BH H).length 0 a.sz 0 0,.vs a.sz [],(BH H++[Fv.live 0 []]).set (BH H).length Fv.dead,by simp[jM,hr,Tm,oH,Env.putO,Env.put,Env.get],PZ.none (by simp) (by simp) a.sz_pos,?_⟩)))))));rw[d];exact L (k y)
  ·refine KC.skip (KC.seq (GK rfl (XY.cons rfl (UX (sz:=a.sz) (vs:=[]) rfl (z _) (XY.cons rfl (D5 (v:=.vs a.sz (l.map a.enc)) rfl (XY.cons rfl ?_)))))));have G:Ko (BH H++[Fv.live 0 []]) a.sz (.vs a.sz (l.map a.enc))=some (l.length,a.E.cl l):=by simp only[Ko,if_true,BX];rfl
   have p:0+l.length<=16777216:=by
    rcases f with rfl|⟨r,hr⟩
    ·simp
    ·obtain⟨M,_⟩:=oR hr;simpa using M
   refine Su (sx:=.tmp 5) (xx:=.tmp 6) (H:=BH H++[Fv.live 0 []]) (id:=(BH H).length) (g:=0) (g':=l.length) (n:=0) (cs:=[]) (m:=l.length) (news:=a.E.cl l) rfl A a.sz_pos u rfl (by simp) (by simp) G p (by
    rcases WU l.length with q|q
    ·exact .inr ⟨q,q⟩
    ·exact .inl q) ?_
   refine XY.cons rfl (D5 (v:=.sl (BH H).length l.length a.sz 0 (0+l.length)) rfl (XY.nil (KC.ret ?_)));have N:(BH H++[Fv.live 0 []]).set (BH H).length (.live l.length ([]++a.E.cl l))=BH (H++[.buf false a l l.length 0]):=by simp_all[Tq,Ao,HG,BH,D9.enc]
   by_cases i:l=[]
   ·subst i;refine⟨.sl (BH H).length 0 a.sz 0 0,.vs a.sz [],(BH H++[Fv.live 0 []]).set (BH H).length Fv.dead,by simp[jM,hr,Tm,oH,Env.putO,Env.put,Env.get],?_,?_⟩
    ·have:=PZ.none (n0:=(BH H).length) (H:=BH H++[Fv.live 0 []]) (id:=(BH H).length) (g:=0) (off:=0) (by simp) (by simp) a.sz_pos;have e:(BH H++[Fv.live 0 []]).set (BH H).length (.live ([]:List a.D).length ([]++a.E.cl []))=BH H++[Fv.live 0 []]:=by rw[Tq _ _ (Ao _),HG];rfl
     rw[e];exact this
    ·rw[d];exact L rfl
   ·rcases f with h|⟨r,c⟩
    ·exact(i h).elim
    ·obtain⟨_,C⟩:=oR c;have s:l=r:=by simpa using C.symm
     subst s;refine⟨.sl (BH H).length l.length a.sz 0 l.length,_,_,by simp[jM,hr,Tm,oH,Env.putO,Env.put,Env.get],PZ.refl _ _ (by simp),?_⟩;grind[Cf]
 refine⟨λi=>?_,λr i hr=>?_⟩
 ·subst i;exact main _ (λ_=>⟨rfl,rfl⟩) (λr h=>(h rfl).elim) (.inl rfl)
 ·exact main _ (λh=>(i h).elim) (λV _ c=>by rw[hr]at c;injection c with c;subst c;exact⟨rfl,rfl⟩) (.inr ⟨r,hr⟩)
abbrev i64:Ty:=.int .i64
abbrev hn(k i:Nat)(s:Ψ Pa)(e:Ψ (Exit×Ψ Pa)):Hint:=⟨k,i,[],[],[],[],s,e⟩
def k0{P:Program}{a d:Ψ Ty}{g:DL a→Ω (DL d)}(l:Ψ (Nat×Ψ Hint))(b:∀c∈f,c.Ok P)
  (e:g=λx=>ABq P f (ii l) 13 F a d x:=by kernel_rfl):(RI.c0 F a d g).Ok P:=AB1 b λx=>congrFun e x
def k1{P:Program}{a:Ty}{d h:Ψ Ty}{g:a.D→DL d→Ω (DL (h++[a]))}(l:Ψ (Nat×Ψ Hint))(e:∀c∈f,c.Ok P)
  (i:g=λb x=>AES P f (ii l) 13 F N a d h b x:=by kernel_rfl):(RI.c1 F N a d h g).Ok P:=AGt e λb x=>congrFun (congrFun i b) x
noncomputable def ACV{α:Type}(key:α->Int)(l:Ψ α):Ω (Ψ α):=if(l.map key).Nodup/\θ l<=16777216 then δ (l.mergeSort λa b=>decide (key a<=key b))else ε
def ABa{key:R->Int}{l m:Ψ R}(hn:(l.map key).Nodup)(p:m.Perm l)(t:m.Pairwise λa b=>key a<=key b):m=l.mergeSort λa b=>decide (key a<=key b):=by
 have d:(l.mergeSort λa b=>decide (key a<=key b)).Perm l:=List.mergeSort_perm _ _;have o:(l.mergeSort λa b=>decide (key a<=key b)).Pairwise λa b=>key a<=key b:=by refine(List.pairwise_mergeSort (le:=λa b=>decide (key a<=key b)) ?_ ?_ l).imp λh=>N! h;intro a b c d o;simp only[K!]at*;omega;intro a b;simp only[WX,K!];omega
 refine cX (le:=λa b=>key a<=key b) ?_ t o (p.trans d.symm);intro a b r s u v;have e:key a=key b:=o!
 have f:=p.subset r;have g:=d.subset s;obtain⟨i,k⟩:=Dk f;obtain⟨j,n⟩:=Dk g;have:=(List.getElem?_inj (l:=l.map key) (i:=i) (j:=j) (by rw[BX];exact(Gb.1 k).1) hn).1 (by simp[k,n,e]);subst this;rw[k]at n;exact BL n
theorem w64(h: -9223372036854775808<=C/\C<=9223372036854775807):ι .i64 C=C:=by grind[IntKind.wrap_i64]
def ADL{body:K->Ω (Step K R)}(I:K->Prop)(Q:R->Prop)(b:K->Nat)(i:∀s,I s->(∃r,body s=δ (.done r)/\Q r)\/∃a,body s=δ (.next a)/\I a/\b a<b s){s:K}(h:I s):∃r,Ak body s=δ r/\Q r:=by
 have key:∀(n:Nat)(s:K),b s<n->I s->∃r,Ak body s=δ r/\Q r:=by
  intro n;induction n with
  |zero=>intro s j;omega
  |succ n k=>intro s j g;rcases i s g with⟨r,c,d⟩|⟨a,c,d,l⟩;exact⟨r,by rw[Df,c],d⟩;obtain⟨r,e,f⟩:=k a o! d;exact⟨r,by rw[Df,c];exact e,f⟩
 exact key (b s+1) s o! h
theorem AHD{l:Ψ R}{x:R}(h:l[N]?=δ x):ix l (N:Int)=δ x:=by unfold ix;grind[s?]
def AKG{l:Ψ R}(a:0<=C)(c:C<θ l):∃x,ix l C=δ x/\l[C.toNat]?=δ x:=by
 obtain⟨n,rfl⟩:=Et a;have hn:n<θ l:=o!
 exact⟨l[n],AHD (Au hn),by simp[hn]⟩
def AIq{l a:Ψ R}(h:θ l+θ a<=16777216):app l a=δ (l++a):=C! h
theorem AGc(a:Ge n R)(h:N<n):HF a (N:Int)=δ (a ⟨N,h⟩):=by grind[HF]
def An(o:Ω R)(Q:R->Prop):Prop:=∃r,o=δ r/\Q r
section
variable {α β γ:Type}
theorem AB{r:α}{Q:α->Prop}(h:Q r):An (.some r) Q:=⟨r,rfl,h⟩
def An.mono{o}{P Q:α->Prop}(h:An o P)(c:∀r,P r->Q r):An o Q:=by obtain⟨r,a,b⟩:=h;exact⟨r,a,c r b⟩
theorem AA{o}{k:α->Ω β}{P:α->Prop}{Q:β->Prop}(h:An o P)(b:∀r,P r->An (k r) Q):An (σ o k) Q:=by obtain⟨r,rfl,a⟩:=h;exact b r a
theorem EM{o}{k:α->Ω β}{P:α->Prop}{Q:β->Prop}(h:An o P)(b:∀r,o=.some r->P r->An (k r) Q):An (σ o k) Q:=by obtain⟨r,rfl,a⟩:=h;exact b r rfl a
def AO{o}{k:α->Ω β}{P:α->Prop}{Q:β->Prop}(a:∀r,P r->An (k r) Q)(h:An o P):An (σ o k) Q:=AA h a
def AM{a b}{Q:α->Prop}(d:k=ζ->An a Q)(e:k=η->An b Q):An (bif k then a else b) Q:=by
 cases k with
 |true=>exact d rfl
 |false=>exact e rfl
def AC{p:Prop}{_:Decidable p}{a b}{Q:α->Prop}(c:p->An a Q)(d:¬p->An b Q):An (bif decide p then a else b) Q:=AM (λh=>c (N! h)) (λh=>d (of_decide_eq_false h))
theorem AP{a b}{Q:α->Prop}(d:k=η->An a Q)(e:k=ζ->An b Q):An (bif !k then a else b) Q:=by
 cases k with
 |true=>exact e rfl
 |false=>exact d rfl
theorem AQ{_:BEq R} [LawfulBEq R] {x y:R}{a b}{Q:α->Prop}(c:x=y->An a Q)(d:x≠y->An b Q):An (bif x==y then a else b) Q:=AM (λh=>c (eq_of_beq h)) (λh=>d (ne_of_beq_false h))
theorem AK{_:BEq R} [LawfulBEq R] {x y:R}{a b}{Q:α->Prop}(c:x≠y->An a Q)(d:x=y->An b Q):An (bif x !=y then a else b) Q:=by refine AM (λh=>c λe=>?_) (λh=>d ?_);subst e;simp at h;simpa using h
def Bk{a b:Ω α}{c:α->Ω β}{Q:β->Prop}(h:An (bif k then σ a c else σ b c) Q):An (σ (bif k then a else b) c) Q:=by cases k<;>exact h
theorem BJ{a:α}{k:α->Ω β}{Q:β->Prop}(h:An (k a) Q):An (σ (.some a) k) Q:=h
def B7{o:Ω α}{f:α->Ω β}{k:β->Ω γ}{Q:γ->Prop}(h:An (σ o λv=>σ (f v) k) Q):An (σ (σ o f) k) Q:=by cases o<;>exact h
def Nt{f:α->Ω γ}{g:β->Ω γ}{o:α⊕β}{k:γ->Ω R}{Q:R->Prop}(h:An (ν (λu=>σ (f u) k) (λu=>σ (g u) k) o) Q):An (σ (ν f g o) k) Q:=by cases o<;>exact h
theorem BC{u:α}{f:α->Ω γ}{g:β->Ω γ}{Q:γ->Prop}(h:An (f u) Q):An (ν f g (.inl u)) Q:=h
theorem A3{u:β}{f:α->Ω γ}{g:β->Ω γ}{Q:γ->Prop}(h:An (g u) Q):An (ν f g (.inr u)) Q:=h
theorem BA{f:α->Ω γ}{g:β->Ω γ}{o:α⊕β}{Q:γ->Prop}(a:∀u,o=.inl u->An (f u) Q)(b:∀u,o=.inr u->An (g u) Q):An (ν f g o) Q:=by
 cases o with
 |inl u=>exact a u rfl
 |inr u=>exact b u rfl
def An.get{o}{Q:α->Prop}{r:α}(h:An o Q)(e:o=.some r):Q r:=by obtain⟨s,a,b⟩:=h;rw[e]at a;injection a with a;rw[a];exact b
def An.and{o}{P Q:α->Prop}(h:An o P)(g:An o Q):An o λr=>P r/\Q r:=by obtain⟨r,a,b⟩:=h;exact⟨r,a,b,g.get a⟩
theorem AI{l:Ψ α}{i:Int}(b:0<=i:=by omega)(c:i<θ l:=by omega):An (ix l i) λx=>l[ο i]?=.some x/\x∈l:=by obtain⟨x,d,a⟩:=AKG b c;exact⟨x,d,a,BP a⟩
theorem Ac{l xs:Ψ α}(h:θ l+θ xs<=16777216):An (app l xs) λr=>r=l++xs/\θ r=θ l+θ xs/\θ r<=16777216:=⟨_,AIq h,rfl,k!,w!⟩
theorem CR{a b:Bc}(h:θ a+θ b<=9223372036854775807):An (sapp a b) λr=>r=a++b/\θ r=θ a+θ b:=by refine⟨a++b,?_,rfl,k!⟩;unfold Go.Ab.sapp;rw[C! h]
theorem Bx{s:Bc}{lo hi:Int}(a:0<=lo:=by omega)(b:lo<=hi:=by omega)(c:hi<=θ s:=by omega):An (SH s lo hi) λr=>r=(s.drop lo.toNat).take (hi.toNat-lo.toNat)/\(θ r:Int)=hi-lo:=by refine⟨_,C! ⟨a,b,c⟩,rfl,?_⟩;rw[BU,DO];omega
theorem Bd{s:Ψ α}{lo hi:Int}(a:0<=lo:=by omega)(b:lo<=hi:=by omega)(c:hi<=θ s:=by omega):An (Wp s lo hi) λr=>r=(s.drop lo.toNat).take (hi.toNat-lo.toNat)/\(θ r:Int)=hi-lo:=by refine⟨_,C! ⟨a,b,c⟩,rfl,?_⟩;rw[BU,DO];omega
def R7{s:Bc}{i:Int}(a:0<=i)(c:i<θ s):An (six s i) λb=>0<=b/\b<256:=by
 obtain⟨n,rfl⟩:=Et a;have hn:n<θ s:=o!
 refine⟨(s[n].toNat:Int),?_,o!,?_⟩;unfold Go.Ab.six;simp[hn];have:=s[n].toNat_lt;omega
def Ch{a:Ge n α}(b:0<=C)(c:C<n):An (HF a C) λx=>x=a ⟨C.toNat,o!⟩:=by obtain⟨k,rfl⟩:=Et b;exact⟨_,AGc a o!,rfl⟩
theorem rp{z:α}(a:0<=C)(b:C<=16777216):An (mk z C C) λr=>r=ς C.toNat z/\(θ r:Int)=C:=by refine⟨ς C.toNat z,?_,rfl,w!⟩;unfold Go.Ab.mk;rw[C! ⟨a,Ag _,b⟩]
def AY{body:K→Ω (Step K R)}(I:K→Prop)(c:K→Nat){Q:R→Prop}{s:K}(e:I s)
  (h:∀s,I s->An (body s) λst=>match st with|.next a=>I a/\c a<c s|.done r=>Q r):An (Ak body s) Q:=by
 obtain⟨r,f,g⟩:=ADL (body:=body) I Q c (λs i=>by
  obtain⟨st,d,b⟩:=h s i;cases st with
  |next a=>exact .inr ⟨a,d,b.1,b.2⟩
  |done r=>exact .inl ⟨r,d,b⟩) e
 exact⟨r,f,g⟩
theorem XW(n:Int):ι .u64 n=n%18446744073709551616:=by simp[ι,IntKind.bits,IntKind.signed]
theorem xH(n:Int):ι .u32 n=n%4294967296:=by simp[ι,IntKind.bits,IntKind.signed]
def AHz(n:Int):ι .u8 n=n%256:=by simp[ι,IntKind.bits,IntKind.signed]
def Wx{Q:α->Prop}(h:False):An .none Q:=h.elim
theorem Aa{x:Int}(h: -9223372036854775808<=x/\x<=9223372036854775807:=by omega):wi x=x:=w64 h
theorem l!{P:Prop}(h:P:=by (try dsimp[len]at*);(try first|omega|assumption|grind[Aa])):P:=h
theorem i!{P:Prop}(h:P:=by simp only[len];omega):P:=h
theorem x!{P:Prop}(h:P:=by (repeat' with_reducible first|intro a|apply AC|apply AP|(apply BC;try dsimp only)|apply AK|apply AQ|(apply BJ;try dsimp only)|apply AM|(apply A3;try dsimp only)|(apply BA<;>(intro u a;try subst a))|(refine AO ?_ (O8 ?_);intro r hr)|apply Bk|(apply AA (BZ);intro r hr)|(apply AA (JB);intro r hr)|(refine AO ?_ (bU ?_);intro r hr)|(refine AO ?_ (Zu ?_);intro r hr)|(refine AO ?_ (Zr ?_);intro r hr)|(refine AO ?_ (Xm ?_);intro r hr)|(apply AA (TT);intro r hr)|(refine AO ?_ (Xj ?_);intro r hr)|(apply AA (iN);intro r hr)|apply Nt|(apply AA (Ei);intro r hr)|apply AB|apply B7|(refine AO ?_ (N2 ?_);intro r hr)|apply Wx|(refine AO ?_ (Gf ?_ ?_);intro r hr)|(refine AO ?_ (eu ?_);intro r hr)|(refine AO ?_ (Y6 ?_);intro r hr)|(refine AO ?_ (Ip ?_);intro r hr)|(refine AO ?_ (Re ?_);intro r hr)|(rw[w _ _ rfl rfl];apply BJ;dsimp only)|(refine AO ?_ (It ?_);intro r hr)|(apply AA (ED);intro r hr)|(apply AA (O2);intro r hr)|(apply AA (aP);intro r hr)|(refine AO ?_ (Dq ?_);intro r hr)|(refine AO ?_ (OP ?_ ?_);intro r hr)|(refine AO ?_ (Fi ?_);intro r hr)|(apply AA (Gn);intro r hr)|(refine AO ?_ (Ke ?_);intro r hr)|(refine AO ?_ (ZF ?_);intro r hr)|(apply AA (GB);intro r hr)|(refine AO ?_ (bV ?_);intro r hr)|(refine AO ?_ (Cl ?_);intro r hr)|(refine AO ?_ (XK ?_);intro r hr)|(refine AO ?_ (Vd ?_);intro r hr)|(refine AO ?_ (Tb ?_);intro r hr)|(refine AO ?_ (SX ?_);intro r hr)|(apply AA (M3);intro r hr)|(apply AA (Vb);intro r hr)|(refine AO ?_ (P4 ?_);intro r hr)|(refine AO ?_ (YJ ?_);intro r hr)|(refine AO ?_ (Y2 ?_);intro r hr)|(apply AA (eX);intro r hr)|(refine AO ?_ (Zt ?_);intro r hr)|(apply AA (eO);intro r hr)|(refine AO ?_ (jh ?_);intro r hr)|(apply AA (HZ);intro r hr)|(apply AA (aQ);intro r hr)|(refine AO ?_ (ZC ?_);intro r hr)|(apply AA (Gd);intro r hr)|(apply AA (KX);intro r hr)|(refine AO ?_ (Rf ?_);intro r hr)|(refine AO ?_ (ZD ?_);intro r hr)|(refine AO ?_ (ZB ?_);intro r hr)|(refine AO ?_ (ZG ?_);intro r hr)|(refine AO ?_ (Zs ?_);intro r hr)|(refine AO ?_ (XL ?_ ?_);intro r hr)|(refine AO ?_ (YF ?_);intro r hr)|(apply AA (qa);intro r hr)|(apply AA (CY);intro r hr)|(refine AO ?_ (QY ?_);intro r hr)|(apply AA (jm);intro r hr)|(refine AO ?_ (Zx ?_);intro r hr)|(refine AO ?_ (YD ?_);intro r hr)|(apply AA (aR);intro r hr)|(refine AO ?_ (Y1 ?_);intro r hr)|(refine AO ?_ (Zv ?_);intro r hr)|(refine AO ?_ (Y7 ?_);intro r hr)|(refine AO ?_ (Vw ?_);intro r hr)|(refine AO ?_ (Zz ?_);intro r hr)|(refine AO ?_ (bT ?_);intro r hr)|(refine AO ?_ (Y9 ?_);intro r hr)|(apply AA (TR);intro r hr)|(refine AO ?_ (Y3 ?_);intro r hr)|(refine AO ?_ (bX ?_);intro r hr)|(apply AA (E2);intro r hr)|(refine AO ?_ (Rc ?_);intro r hr)|(apply AA (CA);intro r hr)|(refine AO ?_ (AI ?_ ?_);rintro r ⟨hr,b⟩)|(refine AO ?_ (Oy ?_ ?_);intro r hr)|(apply AA (K8);intro r hr)|(refine AO ?_ (Y8 ?_);intro r hr)|(refine AO ?_ (ZH ?_);intro r hr)|(refine AO ?_ (G6 ?_);intro r hr)|(refine AO ?_ (R7 ?_ ?_);rintro r ⟨hr,b⟩)|(refine AO ?_ (YH ?_);intro r hr)|(refine AO ?_ (eM ?_);intro r hr)|(refine AO ?_ (Ac ?_);rintro r ⟨hr,b,c⟩)|(refine AO ?_ (Bx ?_ ?_ ?_);rintro r ⟨hr,b⟩)|(refine AO ?_ (Xl ?_);intro r hr)|(refine AO ?_ (YG ?_);intro r hr)|(refine AO ?_ (YE ?_);intro r hr)|(apply AA (kg);intro r hr)|(refine AO ?_ (CR ?_);rintro r ⟨hr,b⟩)|(apply AA (Ow);intro r hr)|(apply AA (ba);intro r hr)|(refine AO ?_ (Ch ?_ ?_);intro r hr)|(refine AO ?_ (Y5 ?_);intro r hr)|(refine AO ?_ (Xk ?_);intro r hr)|(refine AO ?_ (Rh ?_);intro r hr)|(refine AO ?_ (Y4 ?_);intro r hr)|(refine AO ?_ (Bd ?_ ?_ ?_);rintro r ⟨hr,b⟩)|(refine AO ?_ (ZI ?_);intro r hr)|(apply AA (Ol);intro r hr));all_goals(first|((try dsimp[len]at*);first|omega|assumption|grind[Aa])|grind|((try dsimp[len]at*);first|grind[CI,DI,Dc,Dc.last,Gi,K2,QJ,SB,VK,Zd,aa,len,nO,oJ,pk,Aa]|grind[Aa,Dc]|grind[SB,VK,Gi,QJ]|grind[QJ,K2,pk,oJ]|grind[Dc.last]|grind[Aa,aa]|grind[CI]|grind[nO]|grind[Aa,Zd]|grind[DI]|((try simp (disch:=omega) only[Aa,len]at*)<;>(try intros)<;>(try and_intros)<;>(try intros)<;>(first|omega|assumption|grind))))):P:=h
def AGA(x:Int):wi x=(x+9223372036854775808)%18446744073709551616-9223372036854775808:=by unfold wi;rw[IntKind.wrap_i64]
end
def Jj(I:K->Prop)(μ:K->Nat)(m:Nat)(Q:R->Prop):Step K R->Prop
 |.next s'=>I s'/\μ s'<m
 |.done r=>Q r
def CV{body:K->Ω (Step K R)}(I:K->Prop)(a:K->Nat){Q:R->Prop}{s:K}(b:I s)(c:∀s,I s->An (body s) (Jj I a (a s) Q)):An (Ak body s) Q:=AY I a b λs d=>(c s d).mono λst h=>by cases st<;>exact h
theorem An.next{I:K->Prop}{a:K->Nat}{m:Nat}{Q:R->Prop}{s:K}(h:I s)(b:a s<m):An (Option.some (Step.next s)) (Jj I a m Q):=⟨_,rfl,h,b⟩
theorem An.done{I:K->Prop}{a:K->Nat}{Q:R->Prop}{r:R}(h:Q r):An (Option.some (Step.done r)) (Jj I a N Q):=⟨_,rfl,h⟩
theorem k?{S R:Type}{I:S->Prop}{a:S->Nat}{m:Nat}{Q:R->Prop}{r:R}(h:Q r):An (some (Step.done r)) (Jj I a m Q):=⟨_,rfl,h⟩
theorem y!{S R:Type}{I:S->Prop}{a:S->Nat}{m:Nat}{Q:R->Prop}{s:S}(h:I s)(b:a s<m):An (some (Step.next s)) (Jj I a m Q):=⟨_,rfl,h,b⟩
theorem y?{α:Type}{p:Prop}{r:α}{Q:α->Prop}(h:Q r):p->An (some r) Q:=fun _=>⟨r,rfl,h⟩
theorem h!{P:Prop}(h:P:=by kernel_rfl):P:=h
theorem b!{P:Prop}(h:P:=by simp[len];omega):P:=h
open Go.ChangeShapes Go.WideShapes Go.ChangeAt Go.RowKit
def gh0:Gh:=⟨λ_=>ε,λ_=>0,λ_=>0⟩
def cx0(w:World):Cx:=cx (λ_=>False) gh0 [] w
def ALD(w:World):I6 (λ_=>False) gh0 [] w where
 out B h:=h.elim
 live id g cs h:=by simp at h
 lp id L h:=by simp at h
 inj id id' e e' B h:=by simp at h
 bld id e h:=by simp at h
theorem AA9{w}:¬(cx0 w).O N:=by rintro(h|⟨id,e,h,_⟩);exact h;grind
def aL{Q:Af→Ay→Prop}(h:E8 P F s [] Q){w:World}{cargs:Array Value}(hn:cargs.size=θ s)
  (d:∀(j:Nat)(v:Af)(c:Value),s[j]?=δ v->cargs[j]?=δ c->B3 (cx0 w) v c):
  Calls P F cargs w λe b=>∃c v x a,e=.returned c/\Q v a/\B3 x v c/\Below w.heap.size w b:=by
 refine(h (λ_=>False) gh0 w cargs (ALD w) hn d).mono ?_;rintro e b ⟨c,v,i,a,rfl,q,_,r,x⟩;refine⟨c,v,_,a,rfl,q,r,x.os,x.tape,x.output,x.size,λk g=>x.keep k g ?_⟩;rintro⟨id,e,f,_⟩;simp at f
def ADq{w:World}{k:IntKind}{a:Addr}{len cap:Nat}{b:Ψ Int}(A:len≤cap)(D:θ b=cap)(t:∀i,i<θ b→w.cell? (a.add i)=δ (.int k (b.getD i 0)))(q:a.block<w.heap.size∨len=0):
  B3 (cx0 w) (.vs 1 ((b.take len).map λn=>.int k n)) (.slice (δ a) len cap):=by
 have d:((b.take len).map λn=>Af.int k n).length=len:=w!
 have g:∀(j:Nat)(e:Af),((b.take len).map λn=>Af.int k n)[j]?=δ e->j<len/\e=.int k (b.getD j 0):=by
  intro j e h;rw[CO]at h;cases c:(b.take len)[j]? with
  |none=>rw[c]at h;cases h
  |some n=>
   rw[c]at h;simp only[Bw,Av]at h;subst h;have p:j<(b.take len).length:=by rcases A1 j (b.take len).length with h|h;exact h;rw[Cz h]at c;cases c
   simp only[BU]at p;rw[KK o!]at c;exact⟨o!,by rw[R0,c];rfl⟩
 have key:=B3.vs (x:=cx0 w) (sz:=1) (rows:=(b.take len).map λn=>.int k n) (a:=δ a) (cap:=cap) (λj _=>.int k (b.getD j 0)) (by rw[d];exact A) o!
  (λj e h=>by rw[(g j e h).2];rfl)
  (λr=>by
   have C:0<len:=by rcases WU len with h|h;subst h;simp at r;exact h
   have m:a.spot=ε:=by have:=t 0 o!;unfold World.cell? at this;split at this;split at this;cases this;rename_i u;simp only[Addr.add,if_true]at u;simpa using u;cases this
   obtain⟨B,s,E⟩:=a;simp only at m;subst m;refine⟨B,s,rfl,AA9,?_,λj e i v c l=>?_⟩;rcases q with h|h;exact h;omega;obtain⟨y,o⟩:=g j e c;subst o;have f:i=0:=by
    simp only[Af.cells]at l;cases i with
    |zero=>rfl
    |succ i=>simp at l
   subst f;refine⟨?_,rfl⟩;have:=t j o!;simp only[Nat.mul_one,No];show w.cell? _=_;rw[<-this];unfold Addr.add;split;rename_i z;subst z;rfl;rfl)
  (λj e i v c l=>by
   obtain⟨y,o⟩:=g j e c;subst o;have f:v=.int k (b.getD j 0):=by
    simp only[Af.cells]at l;cases i with
    |zero=>simpa using l.symm
    |succ i=>simp at l
   subst f;exact .int _ _)
 rw[d]at key;exact key
def AF8{w}:B3 (cx0 w) (.vs 1 []) (.slice ε 0 0):=B3.vs (x:=cx0 w) (sz:=1) (rows:=[]) (a:=ε) (cap:=0) (λ_ _=>.nilFunc) k! o! (λj e h=>by simp at h) (O! rfl ·) (λj e i v h=>by simp at h)
open Go.RowKit
def rO{args:Ψ Af}{v}(h:∀w(a:Array Value),a.size=θ args→(∀(j:Nat)(u:Af)(c:Value),args[j]?=δ u→a[j]?=δ c→ ∃x,B3 x u c)→
  Calls P F a w λe i=>∃c,e=.returned c/\(∀x,B3 x v c)/\Below w.heap.size w i) (H:Ay):E8 P F args H (DN v H):=by
 intro X g w a s p hr;refine(h w a p λj u c m n=>⟨_,hr j u c m n⟩).mono ?_;rintro e i ⟨c,rfl,q,b⟩;have l:HT g H w g H i:=⟨b.os,b.tape,b.output,b.size,λB d _=>b.block B d,Ao _,λ_ _=>Ao _,λ_ _ _=>⟨rfl,rfl⟩,λB o=>.inl o,λB r hr=>⟨r,(b.block B (by rcases A1 B w.heap.size with h|h;exact h;simp[tf h]at hr)).trans hr⟩⟩
 exact⟨c,v,g,H,rfl,⟨rfl,rfl⟩,s.of_ext l (λid e k f=>.inl ⟨k,rfl,rfl,rfl,λB d=>b.block B (s.io_at k f d)⟩) s.inj,q _,l⟩
def AAG{x}{s:Ψ UInt8}(h:B3 x (.str s) T):T=.string ⟨s.toArray⟩:=by cases h;rename_i t h;subst h;rfl
def lS{x}{k:IntKind}(h:B3 x (.int k C) T):T=.int k C:=by cases h;rfl
def AFy{key:R->Int}{l:Ψ R}(hn:(l.map key).Nodup):∀a∈l,∀b∈l,key a=key b->a=b:=by intro a g b h e;obtain⟨i,c⟩:=Dk g;obtain⟨j,d⟩:=Dk h;have:=(List.getElem?_inj (l:=l.map key) (i:=i) (j:=j) (by rw[BX];exact(Gb.1 c).1) hn).1 (by simp[c,d,e]);subst this;rw[c]at d;exact BL d
def ABb{key:R->Int}{l m:Ψ R}(hn:∀a∈l,∀b∈l,key a=key b->a=b)(f:m.Perm l)(k:m.Pairwise λa b=>key a<=key b):m=l.mergeSort λa b=>decide (key a<=key b):=by
 have d:(l.mergeSort λa b=>decide (key a<=key b)).Perm l:=List.mergeSort_perm _ _;have e:(l.mergeSort λa b=>decide (key a<=key b)).Pairwise λa b=>key a<=key b:=by refine(List.pairwise_mergeSort (le:=λa b=>decide (key a<=key b)) ?_ ?_ l).imp λh=>N! h;intro a b c d e;simp only[K!]at*;omega;intro a b;simp only[WX,K!];omega
 refine cX (le:=λa b=>key a<=key b) ?_ k e (f.trans d.symm);intro a b i j n o;exact hn a (f.subset i) b (d.subset j) o!
end Go.Ab
