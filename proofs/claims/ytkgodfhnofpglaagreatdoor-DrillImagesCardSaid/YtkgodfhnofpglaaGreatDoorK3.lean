/- Texts of wip, joined and shortened by wip/tools/pack.py; nothing is assumed. -/
import Derived.Test.YtkgodfhnofpglaaGreatDoorK2
import Derived.KernelRfl
import Derived.ProofKit
noncomputable section
set_option linter.all false
set_option maxHeartbeats 1000000
open Option renaming some->δ,none->ε,bind->σ
open Bool renaming true->ζ,false->η
open List renaming length->θ,replicate->ς
open Go.IntKind renaming wrap->ι
open Sum renaming elim->ν
open Nat renaming beq->ξ
open Int renaming toNat->ο
open Decidable renaming decide->τ
namespace Go.Ab
inductive Tgt where
 |fn (F:FuncId)
 |yd (id:Nat)
abbrev Rq:=∀{R:Type},Tgt->List TV->Am->(TV->Am->Option R)->Option R
def gI(ops:Array Oper)(g:Option (Nat×Bool))(env:BT):Option Bool:=
 match g with
 |none=>δ ζ
 |some (j,want)=>
  match (ops[j]?).bind (·.dst)with
  |some d=>match env.get d with|.c (.bl b)=>δ (b==want)|.tup []=>δ η|_=>ε
  |none=>ε
def LC:List Bh->List Nat
 |[]=>[]
 |.own id _ _ _::r=>id::LC r
 |_::r=>LC r
def behind(H:Am)(v:TV):List Nat:=
 match v with
 |.c (.raw (.ptr id 0 0))=>match H[id]? with|some (.live η cs)=>LC cs|_=>[]
 |v=>LC v.refs
def ID:List Nat->BT->Am->BT×Am
 |[],env,H=>(env,H)
 |id::r,env,H=>match frz id env H with|some (e,h)=>ID r e h|none=>ID r env H
def uv:List Pg->FuncId->Option Pg
 |[],_=>ε
 |c::r,F=>match ξ c.f F with|true=>δ c|false=>uv r F
def AFd:List AV->List TV->Bool
 |[.fn (.func C) _ _],vs=>match vs.getLast? with|some (.c (.raw (.fn (.func D) _ _)))=>ξ C D|_=>ζ
 |_,_=>ζ
def AH6:Pg->List TV->Bool
 |.c2 _ _ _ _ post _,.c (.own _ _ _ _)::r=>AFd post r
 |.c2 _ _ _ _ _ _,_=>η
 |_,_=>ζ
def nO:List Pg->FuncId->List TV->Option Pg
 |[],_,_=>ε
 |c::r,F,vs=>match ξ c.f F&&AH6 c vs with|true=>δ c|false=>nO r F vs
def ZJ(env:BT)(op:Op):Option (FuncId×List TV):=
 match op with
 |.call c=>
  match c.callee with
  |.value f=>match JK env f with|.c (.raw (.fn (.func F) first caps))=>δ (F,first.map tvA++c.args.toList.map (JK env)++caps.map tvA)|_=>ε
  |_=>ε
 |_=>ε
def tz(env:BT)(c:Call):Option (Nat×List TV):=
 match c.callee with
 |.value f=>match JK env f with|.c (.raw (.yf id))=>δ (id,c.args.toList.map (JK env))|_=>ε
 |_=>ε
def AIg:FuncId:=1152921504606846976
def AHe:FuncId:=1152921504606846977
def lW(cs:List Pg)(env:BT)(H:Am)(op:Op):List Nat:=
 match op with
 |.call c=>
  match ZJ env (.call c)with
  |some (F,vs)=>match nO cs F vs with|some ct=>(AI6 ct vs).flatMap (behind H)|none=>[]
  |none=>[]
 |.buildSlice _ _ parts=>parts.toList.flatMap λp=>LC (JK env p.2).refs
 |.store _ a v=>match JK env a with|.aptr .. =>LC (JK env v).refs|.bptr .. =>LC (JK env v).refs|_=>[]
 |.slice _ x lo _ _=>match uv cs AIg with|some _=>[]|none=>match lo,uv cs AHe with|some _,δ _=>[]|_,_=>LC (JK env x).refs
 |_=>[]
def Wj(H H':Am):Am:=H++H'.drop (θ H)
variable {N n G:Nat}{R K:Type}{b E:List Nat}{c D:Am}{d S:Code}{e L Y:BT}{f:List Pg}{F:FuncId}{P:Program}{g:List Oper}{i W:TypeId}{k:Bool}{l:AV}{m:Option (Nat×Bool)}{p:List TV}{s:List AV}{t:TV}{u:Rq}{v:Array Oper}{o:Oper}{x:Ty}{y:Env}{z:Operand}{B:Exit→Act→World→Prop}{C:Int}{I:Bh}{J:Exit}{M:Option Nat}{T:Value}{U:Prop}{V:Func}
def isNil:List R->Bool
 |[]=>ζ
 |_=>η
section
variable {R:Type}
def sK(cs:List Pg)(env:BT)(H:Am)(op:Op):List Nat:=
 match op with
 |.store _ a _=>idT (JK env a)
 |.mapUpdate .. =>List.range (θ H)
 |.call c=>
  match ZJ env (.call c)with
  |some (F,vs)=>match nO cs F vs with|some ct=>AE5 ct vs|none=>(match isNil vs with|true=>[]|false=>List.range (θ H))
  |none=>
   match tz env c with
   |some _=>List.range (θ H)
   |none=>match c with|{callee:=.builtin .append,args:=⟨[s,_]⟩,.. }=>idT (JK env s)|_=>[]
 |_=>[]
def qD(P:Program)(cs:List Pg)(call:Rq)(env:BT)(H:Am)(op:Op)(k:TV->Am->Option R):Option R:=
 match op with
 |.alloc t=>zB P H t k
 |.box _ x=>AEv H (JK env x) k
 |.store t a v=>storeT P H t (JK env a) (JK env v) k
 |.buildSlice t len parts=>ZF P env H t len parts k
 |.makeSlice t x y=>gL P H t (JK env x) (JK env y) k
 |.makeMap t ε=>tK P H t k
 |.mapUpdate t m x y=>mU P H t (JK env m) (JK env x) (JK env y) k
 |.lookup t m x g=>wT P H t g (JK env m) (JK env x) k
 |.convert s d x=>
  match kd P d with
  |.bytes=>tq P H s d (JK env x) k
  |_=>quT P env H (.convert s d x) λv=>k v H
 |.call c=>
  match ZJ env (.call c)with
  |some (F,vs)=>
   match Enters P F with
   |true=>
    match nO cs F vs with
    |some ct=>AAe ct vs H k
    |none=>match isNil vs with|true=>call (.fn F) [] (H.map Di.lock) λv H'=>k v (Wj H H')|false=>call (.fn F) vs H k
   |false=>ε
  |none=>
   match tz env c with
   |some (id,vs)=>call (.yd id) vs H k
   |none=>
    match c with
    |{callee:=.builtin .append,args:=⟨[s,x]⟩,argTypes:=⟨[t,t']⟩}=>match ξ t t' with|true=>qq P H t (JK env s) (JK env x) k|false=>ε
    |c=>quT P env H (.call c) λv=>k v H
 |op=>quT P env H op λv=>k v H
def force(f:Bool)(v:TV)(k:TV->Option R):Option R:=
 match f with
 |true=>match v with|.c (.bl b)=>cond b (k (.c (.bl ζ))) (k (.c (.bl η)))|v=>k v
 |false=>k v
def guards(ops:Array Oper):List Nat:=ops.toList.filterMap λo=>o.guard.map (·.1)
def I2(j:Nat):List Nat->Bool
 |[]=>η
 |i::r=>match ξ i j with|true=>ζ|false=>I2 j r
def zZ{α:Type}(l:List α)(i:Int)(z:α):Option (List α):=if 0<=i/\i<=(θ l:Int)then δ (l.take i.toNat++ς (θ l-i.toNat) z)else ε
def AAj(o1 o2:Oper):Option (Nat×TypeId×Operand×Operand):=
 match o1.dst,o1.op,o1.guard,o2.dst,o2.op,o2.guard with
 |some d,.slice t x (δ lo) ε ε,ε,ε,.call {callee:=.builtin .clear,args:=⟨[.tmp d']⟩,argTypes:=⟨[t']⟩},ε=>match ξ d d'&&ξ t t' with|true=>δ (d,t,x,lo)|false=>ε
 |_,_,_,_,_,_=>ε
def AGy(P:Program)(H:Am)(t:TypeId)(x lo:TV)(k:Am->Option R):Option R:=
 match x,lo with
 |.c (.own id ver _ _),.c (.it _ i)=>
  match H[id]? with
  |some (.buf η t2 l n2 ver2)=>
   match ξ ver ver2,elT P t,eI P t with
   |true,δ te,δ (ε,e,_)=>
    if h:(Ty.list t2).beq (Ty.list te)=ζ then
     match uA P e with
     |some z=>match te.all z with|some zd=>(zZ (α:=te.D) (Ty.cast h l) i zd).bind λl'=>k (H.set id (.buf η te l' n2 ver2))|none=>ε
     |none=>ε
    else ε
   |_,_,_=>ε
  |_=>ε
 |_,_=>ε
def AE2(o:Oper):List Oper->Option (Nat×TypeId×Operand×Operand)
 |o2::_=>AAj o o2
 |[]=>ε
def ye(P:Program)(cs:List Pg)(call:Rq)(ops:Array Oper)(gs:List Nat)(sk:Bool):List Oper->Nat->BT->Am->(BT->Am->Option R)->Option R
 |[],_,env,H,k=>k env H
 |o::r,j,env,H,k=>
  match sk with
  |true=>ye P cs call ops gs η r (j+1) env H k
  |false=>
   match AE2 o r with
   |some (d,t,x,lo)=>AGy P H t (JK env x) (JK env lo) λH'=>ye P cs call ops gs ζ r (j+1) (env.put d Up) H' k
   |none=>
    match gI ops o.guard env with
    |some ζ=>
     match ID (lW cs env H o.op) env H with
     |(env1,H1)=>qD P cs call env1 H1 o.op λv H'=>force (I2 j gs) v λv'=>ye P cs call ops gs η r (j+1) (env1.putO o.dst v') H' k
    |some η=>ye P cs call ops gs η r (j+1) (env.putO o.dst (.tup [])) H k
    |none=>ε
end
def np(H:Am)(v:TV):Prop:=∀id ver t n,Bh.own id ver t n∈v.refs->∀t' l n' ver',H[id]? ≠δ (.buf η t' l n' ver')
structure D4(A:List Nat)(env:BT)(H:Am)(env':BT)(H':Am):Prop where
 step:Bz H H'
 same:∀t,t∉A->np H (env.get t)->env'.get t=env.get t
def np.step(h:Bz c D)(d:t.ok c)(k:np c t):np D t:=by intro id a H n b;have hr:=d (.own id a H n) b;exact h.nb id hr.1 (k id a H n b)
theorem D4.refl(A:List Nat)(env:BT)(H:Am):D4 A env H env H:=⟨Bz.refl H,λ_ _ _=>rfl⟩
def D4.trans{A B:List Nat}{d g i:BT}{c e f:Am}(ok:∀p∈d,p.2.ok c)(a:D4 A d c g e)(b:D4 B g e i f):D4 (A++B) d c i f:=by refine⟨a.step.trans b.step,λt l k=>?_⟩;have j:=a.same t (λh=>l (Ff _ h)) k;rw[b.same t (λh=>l (Mt _ h)) (by rw[j];exact k.step a.step (jk ok t)),j]
def D4.mono(a:D4 b L D e c)(h:∀t,t∈b->t∈E):D4 E L D e c:=⟨a.step,λt g f=>a.same t (λq=>g (h t q)) f⟩
def qv{t u:Nat}(h:u≠t):∀env:BT,(BT.del t env).get u=env.get u
 |[]=>rfl
 |(k,v)::r=>by simp only[BT.del];by_cases a:k=t;subst a;rw[HD];simp only[BT.get,beq_false (Oc h)];exact qv h r;rw[beq_false a];simp only[BT.get];rw[qv h r]
def oE(h:n≠N):(e.put N t).get n=e.get n:=by simp_all[BT.put,BT.get,beq_false,Oc,qv]
theorem wU{p:Nat×TV}{t:Nat}:∀{env:BT},p∈BT.del t env->p∈env
 |(k,v)::r,h=>by simp only[BT.del]at h;split at h;exact CN _ (wU h);rcases A1.1 h with rfl|h;simp;exact CN _ (wU h)
theorem ac{d:Option Nat}(h:∀p∈e,p.2.ok c)(b:t.ok c):∀p∈e.putO d t,p.2.ok c:=by
 cases d with
 |none=>exact h
 |some H=>intro p a;rcases A1.1 a with rfl|a;exact b;grind[wU]
def nV{l:List x.D}(g:c[N]?=δ (.buf η x l n G))(j:∀a f e d,I=.own a f e d->∀i l2 h H,c[a]? ≠δ (.buf η i l2 h H)):Nc N G x l I=I:=by
 cases I with
 |own a f e d=>simp only[Nc];split<;>simp_all
 |_=>rfl
mutual
theorem sZ{H:Am}{id n k:Nat}{t:Ty}{l:List t.D}(d:H[id]?=δ (.buf η t l n k)):∀{v:TV},np H v->nW id k t l v=v
 |.c z,h=>by simp only[nW];rw[nV d λa j i f e=>h a j i f (by simp[TV.refs,e])]
 |.g b,h=>by
  simp only[nW,TV.g.injEq];have:∀b:List Bh,(∀a j i f,Bh.own a j i f∈b->∀s l2 q m,H[a]? ≠δ (.buf η s l2 q m))->b.map (Nc id k t l)=b:=by
   intro b;induction b with
   |nil=>intro _;rfl
   |cons z r p=>intro h;rw[Bn,p λa j i f o=>h a j i f (by simp[o]),nV d λa j i f e=>h a j i f (by simp[e])]
  exact this b h
 |.tup vs,h=>by simp only[nW];rw[qH d (vs:=vs) h]
 |.aptr ..,_=>rfl
 |.bptr ..,_=>rfl
 |.vw ..,_=>rfl
 |.vptr ..,_=>rfl
theorem qH{H:Am}{id n c:Nat}{t:Ty}{l:List t.D}(b:H[id]?=δ (.buf η t l n c)):∀{vs:List TV},np H (.tup vs)->fZ id c t l vs=vs
 |[],_=>rfl
 |v::r,h=>by simp only[fZ];rw[sZ b (v:=v) λa g f e d=>h a g f e (by simp only[TV.refs,TV.refsL,Ao];exact .inl d),qH b (vs:=r) λa g f e d=>h a g f e (by simp only[TV.refs,TV.refsL,Ao]at d⊢;exact .inr d)]
end
def AAx{f:TV->TV}(a:f Up=Up)(t:Nat):∀env:BT,BT.get (env.map λp=>(p.1,f p.2)) t=f (env.get t)
 |[]=>a.symm
 |(k,v)::r=>by simp only[Bn,BT.get];split;rfl;exact AAx a t r
def ADG(h:frz N e D=δ (L,c))(t:Nat)(d:np D (e.get t)):L.get t=e.get t:=by unfold frz at h;split at h;rename_i H l n b a;obtain⟨rfl,rfl⟩:=h;rw[AAx (f:=nW N b H l) rfl];exact sZ a d;cases h
def Q6:∀(a:List Nat){env:BT}{H:Am},Np env H→Np (ID a env H).1 (ID a env H).2∧D4 [] env H (ID a env H).1 (ID a env H).2∧
  ∀N,E4 N (A8 H).length (Bq env) (A8 H) (Bq (ID a env H).1) (A8 (ID a env H).2)
 |[],env,H,ok=>⟨ok,D4.refl _ _ _,λN=>E4.refl N _ _⟩
 |id::r,env,H,ok=>by simp only[ID];split;rename_i e h b;obtain⟨f,c,j⟩:=AG7 ok b;obtain⟨g,i,k⟩:=Q6 r f;refine⟨g,(D4.trans (A:=[]) (B:=[]) ok.env ⟨c,λt _ d=>ADG b t d⟩ i),λN=>(j N).trans ((k N).of_le (by rw[CK,CK];exact c.len))⟩;exact Q6 r ok
section
variable {P:Program}{N:Nat}{R:Type}
def xK(P:Program)(args:List AV)(H:Ap)(v:AV)(H':Ap):Tgt->Prop
 |.fn F=>ET P F args H (Cw v H')
 |.yd id=>∀(N:Nat)(o:Oper)(c:Call)(f:Operand)(env:Env),o.op=.call c->c.callee=.value f->BI env f=.yf id->c.args.toList.map (BI env)=args->JI P N o env H (Cw v H')
def Vn(P:Program)(call:Rq):Prop:=∀{R:Type} tg vs H (k:TV->Am->Option R) r,(∀v∈vs,v.ok H)->(∀e∈H,e.ok H)->call tg vs H k=δ r->
 ∃v H',xK P (vs.map TV.enc) (A8 H) v.enc (A8 H') tg/\k v H'=δ r/\v.ok H'/\(∀e∈H',e.ok H')/\Bz H H'
theorem jm(h:gI v m e=δ ζ){B:Prop}(a:U):Xb v m (Bq e) U B:=by unfold gI at h;grind[Xb,V6,UA,TV.enc,Bh.one]
theorem nk(h:gI v m e=δ η){B:Prop}(b:B):Xb v m (Bq e) U B:=by unfold gI at h;unfold Xb;split at h;cases h;rename_i j c;unfold V6;split at h;rename_i d f;simp only[f,UA];split at h;grind[TV.enc,Bh.one];rename_i a;simp[a];exact b;cases h;cases h
theorem wO(a:∀d b,e.get d=.c (.bl b)->L.get d=.c (.bl b))(h:gI v m e=δ ζ):gI v m L=δ ζ:=by cases m<;>grind[gI]
theorem sS:∀{a:List Pg}{F:FuncId}{c:Pg},uv a F=δ c->c∈a/\c.f=F
 |d::r,F,c,h=>by simp only[uv]at h;split at h;simp_all;obtain⟨b,e⟩:=sS h;grind
theorem sT:∀{a:List Pg}{F:FuncId}{b:List TV}{c:Pg},nO a F b=δ c->c∈a/\c.f=F
 |d::r,F,b,c,h=>by simp only[nO]at h;split at h;simp_all;obtain⟨e,g⟩:=sT h;grind
theorem nE{n:Op}(h:ZJ e n=δ (F,p)):Go.Ab.callT (BI (Bq e)) n=δ (.inl (F,p.map TV.enc))/\∀H,(∀b∈e,b.2.ok H)->∀v∈p,v.ok H:=by
 unfold ZJ at h;split at h;rename_i c;split at h;rename_i f d;split at h;rename_i G first a g
 simp at h;obtain⟨rfl,rfl⟩:=h;have j:BI (Bq e) f=.fn (.func G) first a:=by rw[LK,g];rfl
 have k:∀l:List AV,(l.map tvA).map TV.enc=l:=by
  intro l;conv=>rhs;rw[<-dj l]
  grind[List.map_congr_left,gX]
 refine⟨?_,λH m v i=>?_⟩;simp_all[Go.Ab.callT,LK];simp at i;grind[j8,fV];cases h;cases h;cases h
theorem yq{c:Call}(h:tz e c=δ (N,p)):(∃f,c.callee=.value f/\BI (Bq e) f=.yf N/\c.args.toList.map (BI (Bq e))=p.map TV.enc)/\∀H,(∀b∈e,b.2.ok H)->∀v∈p,v.ok H:=by unfold tz at h;split at h;rename_i f a;split at h;rename_i i g;injection h with h;injection h with d l;subst d l;refine⟨⟨f,a,by rw[LK,g];rfl,?_⟩,λH j v k=>?_⟩;grind[List.map_congr_left,LK];grind[fV];cases h;cases h
def AHT{k:TV->Am->Option R}{r:R}(ok:Np e c)(h:quT P e c o.op (λv=>k v c)=δ r):∀F,lZ P N o e c F k r:=by intro F;obtain⟨v,a,b,H⟩:=vT ok h;exact⟨v,c,Df a ⟨rfl,rfl⟩,b,H,ok.heap,Bz.refl c,Frame.refl F c⟩
theorem uK(H:Am):A8 (H.map Di.lock)=A8 H:=by grind[A8,List.map_congr_left,nu]
theorem yL(h: ∀e∈c,e.ok c): ∀e∈c.map Di.lock,e.ok (c.map Di.lock):=by
 have f: ∀id a t n,Rf c id a t n->Rf (c.map Di.lock) id a t n:=λid a t n q=>by
  refine⟨by simpa using q.1,λro y l w k H=>?_⟩;rw[B6]at H;cases j:c[id]? with
  |none=>grind
  |some e=>
   rw[j]at H;simp at H;cases e<;>simp only[Di.lock]at H<;>first|(cases H;done)|skip
   injection H with _ m v o p;subst m o p;exact q.2 _ _ _ _ _ j
 have d: ∀x:Bh,x.ok c->x.ok (c.map Di.lock):=λx i=>by
  cases x with
  |own id a t n=>exact f _ _ _ _ i
  |_=>trivial
 intro e H;obtain⟨u,r,rfl⟩:=Bk.1 H;have g:=h u r;cases u with
 |dead=>trivial
 |live b s=>exact λx i=>d x (g x i)
 |buf=>exact g
 |lp=>exact g
 |mp=>exact g
theorem ACq(L: ∀e∈c,e.ok c)(st:Bz (c.map Di.lock) D)(F: ∀e∈D,e.ok D):
  (∀v:TV,v.ok D->v.ok (Wj c D))/\(∀e∈Wj c D,e.ok (Wj c D))/\Bz c (Wj c D)/\ ∀x:Cx,Sm x x (A8 D) (A8 (Wj c D)):=by
 have K:c.length<=D.length:=by simpa using st.len
 have a:(Wj c D).length=D.length:=by grind[Wj,List.length_append,List.length_drop]
 have o: ∀j,j<c.length->(Wj c D)[j]? =c[j]? :=λj p=>CO p;have I: ∀j,c.length<=j->(Wj c D)[j]? =D[j]? :=λj p=>by grind[Wj]
 have keep: ∀(j:Nat) (e:Di),c[j]? =some e->e≠ .dead->D[j]? =some e.lock:=λj e p G=>by apply st.ro j e.lock (by rw[B6,p];rfl);cases e<;>first|rfl|exact(G rfl).elim
 have A: ∀id f t n,Rf D id f t n->Rf (Wj c D) id f t n:=λid f t n q=>by refine⟨by rw[a];exact q.1,λro P l O H d=>?_⟩;rcases Ar id c.length with h|h;rw[o id h]at d;exact q.2 _ _ _ _ _ (keep id _ d k!);rw[I id h]at d;exact q.2 _ _ _ _ _ d
 have k: ∀x:Bh,x.ok D->x.ok (Wj c D):=λx C=>by
  cases x with
  |own id f t n=>exact A _ _ _ _ C
  |_=>trivial
 have B:Bz c (Wj c D):=by refine⟨by rw[a];exact K,λid f t n q=>⟨by rw[a];exact C2 q.1 K,λro P l O H d=>?_⟩,λid e d _=>?_,λid w h=>by rw[o id w];exact h,λid w _ _ _ _ _ _ _ _ h=>by rw[o id w]at h;exact⟨_,_,h⟩⟩;rw[o id q.1]at d;exact q.2 _ _ _ _ _ d;grind
 refine⟨λv N x C=>k x (N x C),λe d=>?_,B,λx=>⟨by rw[CK,CK,a],λj Q p=>?_⟩⟩;rcases Ao.1 d with d|d;exact B.ent (L e d);have E:=F e (Xe d);cases e with
 |dead=>trivial
 |live b s=>exact λx C=>k x (E x C)
 |buf=>exact E
 |lp=>exact E
 |mp=>exact E
 rw[Dy]at p;cases J:(Wj c D)[j]? with
 |none=>grind
 |some y=>
  rw[J]at p;simp at p;subst p;have same:(A8 D)[j]? =some y.enc->y.enc= .dead\/(∃g s u,(A8 D)[j]? =some (.live g s)/\y.enc= .live g u/\u.length=s.length/\ ∀(i:Nat) (z:AV),u[i]? =some z-> ∃v,s[i]? =some v/\Conv x x v z)\/((A8 D)[j]? =some y.enc/\ ∀g s,y.enc≠ .live g s):=λh=>by
   cases y with
   |dead=>exact .inl rfl
   |live b s=>exact .inr (.inl ⟨_,_,_,h,rfl,rfl,λi z h=>⟨z,h,λ_ r=>r⟩⟩)
   |buf b t l m f=>exact .inr (.inl ⟨_,_,_,h,rfl,rfl,λi z h=>⟨z,h,λ_ r=>r⟩⟩)
   |lp=>exact .inr (.inr ⟨h,λ_ _ h=>by cases h⟩)
   |mp=>exact .inr (.inr ⟨h,λ_ _ h=>by cases h⟩)
  rcases Ar j c.length with h|h;rw[o j h]at J;by_cases M:y= .dead;subst M;exact .inl rfl;grind[Dy,nu];grind[Dy]
theorem qE{B:List Pg}(D:∀c∈B,c.Ok P){i:Rq}(l:Vn P i){o:Oper}{env:BT}{H:Am}{k:TV->Am->Option R}{r:R}(ok:Np env H)(h:qD P B i env H o.op k=δ r):lZ P N o env H (sK B env H o.op) k r:=by
 have z:∀A,o.op=A->quT P env H A (λv=>k v H)=δ r->∀F,lZ P N o env H F k r:=λA e h=>AHT ok q!;generalize a:o.op=A at h;unfold qD at h;split at h;exact vu ok a h;exact zI ok a h;exact wu ok a h;exact ml ok a h;exact pP ok a h;grind[tL];exact pQ ok a h;grind[uR];split at h;exact tu ok a h;grind;rename_i c;split at h;rename_i F y t;obtain⟨S,J⟩:=nE t;split at h;rename_i C;split at h;rename_i T u;obtain⟨U,V⟩:=sT u;obtain⟨v,d,m,n,p,q,s,Y⟩:=xY (D T U) (J H ok.env) ok.heap h;rw[V]at m;exact⟨v,d,jt q! C m,n,p,q,s,by simp only[sK,t,u];exact Y⟩;rename_i u;split at h;rename_i b;have G:y=[]:=by cases y<;>first|rfl|cases b
 subst G;obtain⟨v,d,m,n,p,q,s⟩:=l (.fn F) [] (H.map Di.lock) _ r (λv W=>by cases W) (yL ok.heap) h;obtain⟨L,M,O,Q⟩:=ACq ok.heap s q;have I:ET P F [] (A8 H) (Cw v.enc (A8 d)):=by grind[xK,uK]
 refine⟨v,Wj H d,JI.after (jt q! C I) λX g w _=>?_,n,L v p,M,O,?_⟩;have hr:=(Q (cx X g (A8 d) w)).onto;exact⟨hr,λc r=>r.later hr.later⟩;simp only[sK,t,u];exact λj x _=>CO x;rename_i b;obtain⟨v,d,m,n,p,q,s⟩:=l (.fn F) y H k r (J H ok.env) ok.heap h;have E:=b;exact⟨v,d,jt (by rw[a];exact S) C m,n,p,q,s,by simp only[sK,t,u,E];exact λj x hn=>(hn (Hh.2 x)).elim⟩;cases h;rename_i t;split at h;rename_i id y K;obtain⟨⟨f,Z,y2,y3⟩,y4⟩:=yq K;obtain⟨v,d,m,n,p,q,s⟩:=l (.yd id) y H k r (y4 H ok.env) ok.heap h;exact⟨v,d,m N o c f (Bq env) a Z y2 y3,n,p,q,s,by simp only[sK,t,K];exact λj x hn=>(hn (Hh.2 x)).elim⟩;grind[uE,Nat.eq_of_beq_eq_true,sK];grind
theorem mO{f:TV->Option R}{r:R}(h:force k t f=δ r):f t=δ r:=by unfold force at h;grind
def nK(ops:List Oper):List Nat:=ops.filterMap (·.dst)
def sF{b:Oper}{d:Nat}{c:Operand}(h:AAj o b=δ (d,i,z,c)):o.dst=δ d/\o.op=.slice i z (δ c) ε ε/\o.guard=ε/\b.dst=ε/\b.op=.call {callee:=.builtin .clear,args:= #[.tmp d],argTypes:= #[i]}/\b.guard=ε:=by unfold AAj at h;split at h;rename_i e f g a j k;split at h<;>simp_all;cases h
def uw{a:Ty}{z:List AV}{b:a.D}(h:Da z (a.enc b).cells):∀n:Nat,Da (ς n z).flatten (a.E.cl (ς n b))
 |0=>Da.refl _
 |n+1=>by exact Da.append h (uw h n)
theorem zM{o2:Oper}{d:Nat}{lo:Operand}{k:Am→Option R}{r:R}(ok:Np e c)(hc:AAj o o2=δ (d,i,z,lo))(h:AGy P c i (JK e z) (JK e lo) k=δ r):
  ∃v G,JI P N o (Bq e) (A8 c) (Cw v (A8 c))/\JI P N o2 ((Bq e).put d v) (A8 c) (Cw (.tup []) (A8 G))/\k G=δ r/\(∀x∈G,x.ok G)/\Bz c G:=by
 obtain⟨_,c2,_,c4,U,_⟩:=sF hc;unfold AGy at h;split at h;rename_i id E t0 n0 kk t hx Z;split at h;rename_i a l b al y;split at h;rename_i te x ap hb af F;split at h;rename_i S;split at h;rename_i D hz;split at h;rename_i zd ag;obtain⟨w,H,h⟩:=DB.1 h;have T:=Cy hb;subst T;have u:=Ty.beq_eq _ _ S;injection u with u;subst u;have B:(Ty.cast S l:List a.D)=l:=rfl;rw[B]at H;have hr:Rf c id E t0 n0:=by have:=fV ok.env z;rw[hx]at this;exact this (.own id E t0 n0) (by simp[TV.refs])
 obtain⟨_,q⟩:=hr.2 _ _ _ _ _ y;obtain⟨rfl,rfl⟩:=q rfl;have hn:b=θ l:=ok.heap _ (BM y);obtain⟨e',I,M⟩:=jQ af;rw[I]at F;injection F with F;injection F with _ F;injection F with X Y;subst X Y;obtain⟨z1,z2⟩:=Yb hz;have p:=FV ag;have C:(lvs D).length=a.sz:=by rw[<-p.1,a.enc_len]
 unfold zZ at H;split at H;rename_i hi;injection H with H;have O:Bz c (c.set id (.buf η a w b E)):=Bz.set y rfl λ_ _ _ _ _ x=>q!
 have J:Di.ok (c.set id (.buf η a w b E)) (.buf η a w b E):=by show b=θ w;grind
 have m:(A8 c)[id]?=δ (.live b (a.E.cl l)):=by rw[Dy,y];rfl
 have A:id<(A8 c).length:=q!
 have ex:BI (Bq e) z=.sl id b a.sz 0 b:=by rw[LK,hx];rfl
 have el:BI (Bq e) lo=.int kk t:=by rw[LK,Z];rfl
 have W:S8 (A8 c) id b=ζ:=by simp[S8,m]
 have s:∀v,BI ((Bq e).put d v) (.tmp d)=v:=λv=>by simp[BI,Env.put,Env.get]
 have j:=a.E.clen l;have Q:a.E.sz=a.sz:=rfl;rw[Q]at j;have ad:CT P (Bq e) (A8 c) o.op=δ (if t.toNat=0 then .sl id b a.sz 0 b else if t.toNat=b then .vs a.sz []else .sl id b a.sz (0+t.toNat*a.sz) (b-t.toNat)):=by
  rw[c2];have b1:WO 0 (δ (AV.int kk t))=δ t.toNat:=by grind[WO,tO]
  have b2:∀n,WO n ε=δ n:=λ_=>rfl;simp only[CT,ex,el,Bd,ly,gT,b1,b2,I];rw[C! ⟨O!,a.sz_pos,o!,Ai _,Ai _,W,k!⟩];grind
 have g:∀V,a.E.cl l=V->(A8 c).set id (.live b V)=A8 c:=λV ao=>by apply Is;grind
 have f:Da (WD (a.E.cl l) (t.toNat*a.sz) (ς (b-t.toNat) (lvs D)).flatten) (a.E.cl w):=by
  have e1:a.E.cl w=a.E.cl (l.take t.toNat)++a.E.cl (ς (b-t.toNat) zd):=by grind[Rr.cl]
  have e2:(a.E.cl l).take (t.toNat*a.sz)=a.E.cl (l.take t.toNat):=by
   have e3:a.E.cl l=a.E.cl (l.take t.toNat)++a.E.cl (l.drop t.toNat):=by grind[List.take_append_drop,Rr.cl]
   have e4:(a.E.cl (l.take t.toNat)).length=t.toNat*a.sz:=by rw[a.E.clen,BJ,Q];grind
   grind
  have e5:(a.E.cl l).drop (t.toNat*a.sz+(ς (b-t.toNat) (lvs D)).flatten.length)=[]:=by apply kG;simp[C];rw[<-D5];grind
  unfold WD;rw[e1,e2,e5,Dl];exact(Da.refl _).append (uw p _)
 have L:JI P N o2 ((Bq e).put d (if t.toNat=0 then .sl id b a.sz 0 b else if t.toNat=b then .vs a.sz []else .sl id b a.sz (0+t.toNat*a.sz) (b-t.toNat))) (A8 c) (Cw (.tup []) (A8 (c.set id (.buf η a w b E)))):=by
  have e6:A8 (c.set id (.buf η a w b E))=(A8 c).set id (.live b (a.E.cl w)):=by rw[Kx];rfl
  rw[e6];by_cases h0:t.toNat=0;rw[C! h0];refine JI.set_less A ?_ f;have:=JI.clear (N:=N) (K:=Cw (.tup []) _) U c4 I M z1 C (s (.sl id b a.sz 0 b)) m (by rw[j,hn];omega) ⟨rfl,rfl⟩;grind;rw[D! h0];by_cases h1:t.toNat=b;rw[C! h1];have e7:w=l:=t!
  rw[e7,g _ rfl];exact qi U (QV I).1 (s _) ⟨rfl,rfl⟩;rw[D! h1];refine JI.set_less A ?_ f;have:=JI.clear (N:=N) (K:=Cw (.tup []) _) U c4 I M z1 C (s (.sl id b a.sz (0+t.toNat*a.sz) (b-t.toNat))) m (by rw[j,<-hn,DA,<-D5];apply Mu;omega) ⟨rfl,rfl⟩;grind
 exact⟨_,_,Df ad ⟨rfl,rfl⟩,L,h,RG O ok.heap J,O⟩;grind;cases h;cases h;cases h;cases h;cases h;cases h
def AER:E4 N (A8 c).length ((Bq e).put n l) (A8 c) (Bq (e.put n Up)) (A8 c):=by
 refine Vp rfl λX g w s=>⟨Sm.refl _ _,λt f m=>?_⟩
 rw[jR]at m;rcases A1.1 m with H|m;injection H with a b;subst a b;exact⟨l,Ip,λd _=>.any d⟩;exact⟨f,CN _ m,λ_ r=>r⟩
theorem gQ{J:List Pg}(m:∀c∈J,c.Ok P){p:Rq}(l:Vn P p){D:Array Oper}{gs:List Nat}:∀(os:List Oper)(j:Nat)(env:BT)(H:Am)(k:BT→Am→Option R)(r:R),Np env H→ye P J p D gs η os j env H k=δ r→
  ∃f i,WL P N D os (Bq env) (A8 H) (λe h=>e=Bq f/\h=A8 i)/\k f i=δ r/\Np f i/\D4 (nK os) env H f i
 |[],j,env,H,k,r,ok,h=>⟨env,H,⟨_,_,E4.refl _ _ _,rfl,rfl⟩,h,ok,D4.refl _ _ _⟩
 |o::os,j,env,H,k,r,ok,h=>by
  simp only[ye]at h;have B:∀{e:BT}{h:Am}{v:TV},D4 (nK [o]) e h (e.putO o.dst v) h:=by
   intro e h v;refine⟨Bz.refl h,λt U _=>?_⟩;cases hd:o.dst with
   |none=>rfl
   |some d=>refine oE λe=>U ?_;simp[nK,hd,e]
  have z:∀t,t∈nK [o]++nK os->t∈nK (o::os):=by grind[nK]
  split at h;rename_i d t x lo y;cases os with
  |nil=>cases y
  |cons o2 E=>
   have hc:=y;obtain⟨c1,c2,c3,c4,c5,c6⟩:=sF hc;obtain⟨v,C,M,w2,T,W,st⟩:=zM (N:=N) ok hc h;have g:Np (env.put d Up) C:=⟨ac (d:=δ d) (st.env ok.env) gW,W⟩
   obtain⟨f,i,L,Y,F,G⟩:=gQ m l E (j+1+1) _ C k r g T;refine⟨f,i,⟨Bq env,A8 H,E4.refl N _ _,?_⟩,Y,F,?_⟩;rw[c3];apply JI.mono M;rintro u _ ⟨rfl,rfl⟩;rw[c1];refine⟨(Bq env).put d u,A8 H,E4.refl N _ _,?_⟩;rw[c6];apply JI.mono w2;rintro _ _ ⟨rfl,rfl⟩;rw[c4];exact WL.weak AER L;have Z:D4 (nK [o]) env H (env.put d Up) C:=by exact⟨st,λu hu _=>oE λe=>hu (by simp[nK,c1,e])⟩
   refine(D4.trans ok.env Z G).mono λu hu=>?_;grind[nK,List.mem_cons_of_mem]
  split at h;rename_i S;obtain⟨K,t1,M⟩:=Q6 (lW J env H o.op) ok;generalize ID (lW J env H o.op) env H=q at h K t1 M;obtain⟨env1,C⟩:=q;obtain⟨v,I,e1,e2,e3,e4,e5,_⟩:=qE (N:=N) m l K h;have O:=mO e2;have g:Np (env1.putO o.dst v) I:=⟨ac (e5.env K.env) e3,e4⟩
  obtain⟨f,i,L,E,F,G⟩:=gQ m l os (j+1) _ I k r g O;refine⟨f,i,?_,E,F,?_⟩;refine⟨Bq env1,A8 C,M N,jm ?_ ?_⟩;exact wO (λd b hb=>by rw[t1.same d (λh=>by cases h) (by rw[hb];intro id af t n hm;simp[TV.refs]at hm),hb]) S;exact λrr X h0 a w s Q=>Vl (e1 rr X h0 a w s Q) (by rintro a' w' ⟨c,u,h',ad,ha,⟨rfl,rfl⟩,V,hs,hx⟩;exact⟨c,_,h',_,ha,by show WL P N D os ((Bq env1).putO o.dst v.enc) (A8 I) _;rw[<-XV];exact L,V,hs,hx⟩);have Z:D4 (nK [o]) env1 C (env1.putO o.dst v) I:=by exact⟨e5,λt U T=>(B (h:=C)).same t U T⟩
  have:=(D4.trans (A:=[]) ok.env t1 (D4.trans K.env Z G))
  exact this.mono z;rename_i S;have g:Np (env.putO o.dst (.tup [])) H:=⟨ac ok.env (RF λv V=>by cases V),ok.heap⟩
  obtain⟨f,i,L,E,F,G⟩:=gQ m l os (j+1) _ H k r g h;refine⟨f,i,⟨Bq env,A8 H,E4.refl N _ _,nk S ?_⟩,E,F,(D4.trans ok.env B G).mono z⟩;have:(Bq env).putO o.dst (.tup [])=Bq (env.putO o.dst (.tup [])):=by rw[XV];rfl
  grind;cases h
end
def KH(S:List Nat):Nat->Am->Am
 |_,[]=>[]
 |j,e::r=>(match I2 j S with|true=>e|false=>e.lock)::KH S (j+1) r
theorem I0{S:List Nat}:∀(H:Am)(i j:Nat),(KH S i H)[j]?=(H[j]?).map λe=>match I2 (i+j) S with|true=>e|false=>e.lock
 |[],i,j=>by simp[KH]
 |e::r,i,0=>by simp[KH]
 |e::r,i,j+1=>by simp only[KH,oY];rw[I0 r (i+1) j];grind
def IA{S:List Nat}:∀(H:Am)(i:Nat),(KH S i H).length=θ H
 |[],_=>rfl
 |e::r,i=>by simp[KH,IA r]
theorem pM{S:List Nat}:∀(H:Am)(i:Nat),A8 (KH S i H)=A8 H
 |[],_=>rfl
 |e::r,i=>by have:=pM (S:=S) r (i+1);grind[A8,KH,nu]
theorem mS(h:Rf c N n x G):Rf (KH b 0 c) N n x G:=by
 refine⟨by rw[IA];exact h.1,λro r l p f a=>?_⟩;rw[I0]at a;cases d:c[N]? with
 |none=>grind
 |some e=>
  rw[d]at a;simp at a;split at a;subst a;exact h.2 _ _ _ _ _ d;cases e with
  |dead=>cases a
  |live S k=>cases a
  |lp=>cases a
  |mp=>cases a
  |buf S s o q u=>injection a with _ g m i j;subst g i j;exact h.2 _ _ _ _ _ d
def pN{S:List Nat}(h:I.ok c):I.ok (KH S 0 c):=by
 cases I with
 |own id a t n=>exact mS h
 |_=>trivial
theorem jq{S:List Nat}(ok:Np e c):Np e (KH S 0 c):=by
 refine⟨λp o x g=>pN (ok.env p o x g),λH m=>?_⟩;obtain⟨j,a⟩:=HC.1 m;rw[I0]at a;cases i:c[j]? with
 |none=>grind
 |some q=>
  rw[i]at a;simp at a;have d:=ok.heap q (BM i);have f:q.ok (KH S 0 c):=by
   cases q with
   |dead=>trivial
   |live b k=>exact λx g=>pN (d x g)
   |buf b t l n h=>exact d
   |lp=>exact d
   |mp=>exact d
  split at a;grind;subst a;cases q with
  |dead=>trivial
  |live b k=>exact f
  |buf b t l n h=>exact f
  |lp=>exact f
  |mp=>exact f
def vG{j:Nat}:∀{l:List Nat},I2 j l=ζ->j∈l
 |i::r,h=>by simp only[I2]at h;split at h;rename_i a;exact A1.2 (.inl (Cy a).symm);exact CN _ (vG h)
def RJ(S:List Nat):Nat->Am->Am->Am
 |j,e::r,e'::r'=>(match I2 j S with|true=>e'|false=>e)::RJ S (j+1) r r'
 |_,_,H'=>H'
def uc{S:List Nat}:∀{H a:Am}(i j:Nat),θ H<=θ a->(RJ S i H a)[j]?=match τ (j<θ H)&& !I2 (i+j) S with|true=>H[j]? |false=>a[j]?
 |[],a,i,j,_=>by simp[RJ]
 |e::r,[],i,j,h=>by simp at h
 |e::r,e'::r',i,0,h=>by simp only[RJ,Jz,aq,Cg,Nat.zero_lt_succ,decide_true,Bool.true_and];cases I2 i S<;>rfl
 |e::r,e'::r',i,j+1,h=>by
  simp only[RJ,oY];rw[uc (i+1) j (by simpa using h),show i+1+j=i+(j+1) by omega];have:τ (j+1<(e::r).length)=τ (j<θ r):=k!
  rw[this]
def ud{S:List Nat}:∀{H a:Am}(i:Nat),θ H<=θ a->(RJ S i H a).length=θ a
 |[],a,i,_=>by simp[RJ]
 |e::r,[],i,h=>by simp at h
 |e::r,e'::r',i,h=>by simp[RJ,ud (i+1) (show θ r<=θ r' by simpa using h)]
theorem ACr{S:List Nat}(V: ∀e∈c,e.ok c)(st:Bz (KH S 0 c) D)(Q: ∀e∈D,e.ok D):
  (∀v:TV,v.ok D->v.ok (RJ S 0 c D))/\(∀e∈RJ S 0 c D,e.ok (RJ S 0 c D))/\Bz c (RJ S 0 c D)/\Frame S c (RJ S 0 c D)/\ ∀x:Cx,Sm x x (A8 D) (A8 (RJ S 0 c D)):=by
 have P:c.length<=D.length:=by simpa[IA]using st.len
 have z:=ud (S:=S) 0 P;have C:=λj=>uc (S:=S) 0 j P;have o: ∀j,j<c.length->I2 j S=false->(RJ S 0 c D)[j]? =c[j]? :=λj k d=>by rw[C,DA,d,decide_eq_true k];rfl
 have u: ∀j,(c.length<=j\/I2 j S=true)->(RJ S 0 c D)[j]? =D[j]? :=λj k=>by rw[C,DA];rcases k with h|h;rw[decide_eq_false o!];rfl;rw[h,Ca,Bool.and_false]
 have T: ∀j,I2 j S=true->(KH S 0 c)[j]? =c[j]? :=λj k=>by rw[I0,DA,k];cases c[j]? <;>rfl
 have keep: ∀(j:Nat) (e:Di),I2 j S=false->c[j]? =some e->e≠ .dead->D[j]? =some e.lock:=λj e d k R=>by apply st.ro j e.lock (by rw[I0,k,DA,d];rfl);cases e<;>first|rfl|exact(R rfl).elim
 have f: ∀j,(j<c.length/\I2 j S=false)\/(c.length<=j\/I2 j S=true):=λj=>by
  rcases Ar j c.length with h|h;cases d:I2 j S with
  |false=>exact .inl ⟨h,rfl⟩
  |true=>exact .inr (.inr rfl)
  exact .inr (.inl h)
 have K: ∀id w t n,Rf D id w t n->Rf (RJ S 0 c D) id w t n:=λid w t n q=>by refine⟨by rw[z];exact q.1,λro Z l Y N p=>?_⟩;rcases f id with⟨h,d⟩|h;rw[o id h d]at p;exact q.2 _ _ _ _ _ (keep id _ d p k!);rw[u id h]at p;exact q.2 _ _ _ _ _ p
 have A: ∀x:Bh,x.ok D->x.ok (RJ S 0 c D):=λx M=>by
  cases x with
  |own id w t n=>exact K _ _ _ _ M
  |_=>trivial
 have L:Bz c (RJ S 0 c D):=by refine⟨by rw[z];exact P,λid w t n q=>⟨by rw[z];exact C2 q.1 P,λro Z l Y N p=>?_⟩,λid e p hr=>?_,λid G h=>?_,λid G ro F n env ps a b s h=>?_⟩;rcases f id with⟨h,d⟩|h;rw[o id h d]at p;exact q.2 _ _ _ _ _ p;rw[u id h]at p;exact(st.refs id w t n (mS q)).2 _ _ _ _ _ p;have W:=(Fp.1 p).1;rcases f id with⟨h,d⟩|h;rw[o id h d];exact p;have d:=h.resolve_left o!;rw[u id h];exact st.ro id e (by rw[T id d];exact p) hr;rcases f id with⟨B,d⟩|B;rw[o id B d];exact h;have d:=B.resolve_left o!;rw[u id B];exact st.nb id (by rw[IA];exact G) (by rw[T id d];exact h);rcases f id with⟨B,d⟩|B;rw[o id B d]at h;exact⟨_,_,h⟩;have d:=B.resolve_left o!;rw[u id B]at h;obtain⟨r1,s1,q⟩:=st.lp id (by rw[IA];exact G) _ _ _ _ _ _ _ _ h;rw[T id d]at q;exact⟨_,_,q⟩
 refine⟨λv X x M=>A x (X x M),λe p=>?_,L,λj k hn=>o j k (by
  cases d:I2 j S with
  |false=>rfl
  |true=>exact absurd (vG d) hn),λx=>⟨by rw[CK,CK,z],λj e' k=>?_⟩⟩
 obtain⟨j,k⟩:=HC.1 p;rcases f j with⟨h,d⟩|h;rw[o j h d]at k;exact L.ent (V e (BM k));rw[u j h]at k;have O:=Q e (BM k);cases e with
 |dead=>trivial
 |live b H=>exact λx M=>A x (O x M)
 |buf=>exact O
 |lp=>exact O
 |mp=>exact O
 rw[Dy]at k;cases J:(RJ S 0 c D)[j]? with
 |none=>grind
 |some y=>
  rw[J]at k;simp at k;subst k;have same:(A8 D)[j]? =some y.enc->y.enc= .dead\/(∃g H E,(A8 D)[j]? =some (.live g H)/\y.enc= .live g E/\E.length=H.length/\ ∀(i:Nat) (I:AV),E[i]? =some I-> ∃v,H[i]? =some v/\Conv x x v I)\/((A8 D)[j]? =some y.enc/\ ∀g H,y.enc≠ .live g H):=λh=>by
   cases y with
   |dead=>exact .inl rfl
   |live b H=>exact .inr (.inl ⟨_,_,_,h,rfl,rfl,λi I h=>⟨I,h,λ_ r=>r⟩⟩)
   |buf b t l m w=>exact .inr (.inl ⟨_,_,_,h,rfl,rfl,λi I h=>⟨I,h,λ_ r=>r⟩⟩)
   |lp=>exact .inr (.inr ⟨h,λ_ _ h=>by cases h⟩)
   |mp=>exact .inr (.inr ⟨h,λ_ _ h=>by cases h⟩)
  rcases f j with⟨h,d⟩|h;rw[o j h d]at J;by_cases U:y= .dead;subst U;exact .inl rfl;exact same (by rw[Dy,keep j y d J U];simp[nu]);rw[u j h]at J;exact same (by rw[Dy,J];rfl)
def isLen:Op->Bool
 |.call {callee:=.builtin .len,.. }=>ζ
 |.move _=>ζ
 |.assign _=>ζ
 |.extract _ _=>ζ
 |_=>η
def rdT(env:BT)(op:Op):List Nat:=match isLen op with|true=>[]|false=>op.operands.toList.flatMap λx=>idT (JK env x)
def WA(o:Oper)(env:BT):BT:=(tmpsOf o).filterMap λt=>match env.get t with|.c (.raw .any)=>ε|v=>δ (t,v)
def ju(ids:List Nat):Nat->Am->List Nat
 |_,[]=>[]
 |j,.live η cs::r=>match (LC cs).any λi=>I2 i ids with|true=>j::ju ids (j+1) r|false=>ju ids (j+1) r
 |j,_::r=>ju ids (j+1) r
def ADt:Bh->Bool
 |.own .. =>η
 |.raw _=>η
 |_=>ζ
def vv:List TV->Option (List Nat)
 |[]=>δ []
 |v::r=>
  match vv r with
  |none=>ε
  |some ids=>
   match v with
   |.c (.own id _ _ _)=>δ (id::ids)
   |.c x=>match ADt x with|true=>δ ids|false=>ε
   |.g cs=>match cs.all ADt with|true=>δ ids|false=>ε
   |_=>ε
section
variable {R:Type}
def quD(P:Program)(env:BT)(H:Am)(op:Op)(k:TV->Option R):Option R:=
 match op with
 |.buildSlice t len parts=>pq P env t len parts k
 |op=>quT P env H op k
def sJ(P:Program)(cs:List Pg)(call:Rq)(env:BT)(H:Am)(op:Op)(k:TV->Am->Option R):Option R:=
 match op with
 |.box _ x=>AEv H (JK env x) k
 |.store t a v=>storeT P H t (JK env a) (JK env v) k
 |.makeSlice t x y=>gL P H t (JK env x) (JK env y) k
 |.buildSlice t len parts=>ZF P env H t len parts k
 |.call c=>
  match ZJ env (.call c)with
  |some (F,vs)=>
   match Enters P F with
   |true=>
    match nO cs F vs with
    |some ct=>AAe ct vs H k
    |none=>match vv vs with|some ids=>call (.fn F) vs (KH ids 0 H) λv H'=>k v (RJ ids 0 H H')|none=>call (.fn F) vs H k
   |false=>ε
  |none=>
   match tz env c with
   |some (id,vs)=>call (.yd id) vs H k
   |none=>
    match c with
    |{callee:=.builtin .append,args:=⟨[s,x]⟩,argTypes:=⟨[t,t']⟩}=>match ξ t t' with|true=>qq P H t (JK env s) (JK env x) k|false=>ε
    |_=>ε
 |_=>ε
def AH0(P:Program)(cs:List Pg)(call:Rq)(env:BT)(H:Am)(op:Op)(k:TV->Am->Option R):Option R:=
 match ID (lW cs env H op) env H with
 |(ef,hf)=>sJ P cs call ef hf op k
def uJ(cs:List Pg)(env:BT)(H:Am)(op:Op):List Nat:=
 match op with
 |.call c=>
  match ZJ env (.call c)with
  |some (F,vs)=>match nO cs F vs with|some _=>sK cs env H (.call c)|none=>match vv vs with|some ids=>ids|none=>sK cs env H (.call c)
  |none=>sK cs env H (.call c)
 |op=>sK cs env H op
def xj(cs:List Pg)(env:BT)(H:Am)(op:Op):List Nat:=
 match lW cs env H op with
 |[]=>uJ cs env H op
 |ids=>ids++ju ids 0 H++(match ID ids env H with|(ef,hf)=>uJ cs ef hf op)
def AIA:Op->Bool
 |.buildSlice .. =>ζ
 |_=>η
def AAI(P:Program)(cs:List Pg)(call:Rq)(ops:Array Oper)(m:List Nat)(gs:List Nat)(ow:Bool):List Nat->List (Nat×List Nat)->BT->Am->(BT->Am->Option R)->Option R
 |[],_,env,H,k=>k env H
 |i::r,pend,env,H,k=>
  match ops[i]? with
  |none=>ε
  |some o=>
   match o.op with
   |.alloc t=>
    match uA P t with
    |some z=>
     match o.guard.isNone&&r.all (λj=>PC m i j||H5 ops j)with
     |true=>AAI P cs call ops m gs ow r pend (env.putO o.dst (.c (.raw (.ptr (θ H) 0 0)))) (H++[.live η z]) k
     |false=>ε
    |none=>ε
   |op=>
    match gI ops o.guard env with
    |some η=>AAI P cs call ops m gs ow r ((i,[])::pend) (env.putO o.dst (.tup [])) H k
    |some ζ=>
     match dq op&& !(ow&&AIA op)with
     |true=>
      match (rdT env op).all λid=>Nat.blt id (θ H) with
      |true=>quD P env H op λv=>force (I2 i gs) v λv'=>AAI P cs call ops m gs ow r ((i,rdT env op)::pend) (env.putO o.dst v') H k
      |false=>ε
     |false=>
      match r.all (λj=>PC m i j||H5 ops j)&&pend.all (λp=>PC m p.1 i||p.2.all λid=>!I2 id (xj cs (WA o env) H op))with
      |true=>AH0 P cs call (WA o env) H op λv H'=>force (I2 i gs) v λv'=>AAI P cs call ops m gs ow r pend (env.putO o.dst v') H' k
      |false=>ε
    |none=>ε
variable {P:Program}{N:Nat}{o:Oper}{env:BT}{H:Am}{r:R}
def ABB(env:BT)(b:Op)(h:isLen b=η):∀id∈zy (Bq env) b,id∈rdT env b:=by intro id a;unfold zy at a;unfold rdT;rw[h];obtain⟨x,c,d⟩:=Gf.1 a;refine Gf.2 ⟨x,c,AFL _ _ ?_⟩;rwa [<-LK]
def ZD.mono{H:Ap}{v:AV}{a b:List Nat}(h:ZD P N o y H a v)(s:∀id∈a,id∈b):ZD P N o y H b v:=λ_ _ d e=>h _ _ d λid c=>e id (s id c)
theorem ZD.len{env:Env}{H:Ap}{v:AV}(b:isLen o.op=ζ)(e:CT P env H o.op=δ v):ZD P N o env H [] v:=by
 intro c f d _;refine Df (v:=v) ?_ ⟨rfl,rfl⟩;rw[vS (fW d),<-e];generalize o.op=op at b;unfold isLen at b;split at b;rename_i args a;obtain⟨args⟩:=args;obtain⟨a⟩:=a;match args,a with
 |[x],[t]=>rfl
 |[],_=>rfl
 |_::_::_,_=>rfl
 |[_],[]=>rfl
 |[_],_::_::_=>rfl
 rfl;rfl;rfl;cases b
theorem AB2{k:TV->Option R}(ok:Np env H)(h:quD P env H o.op k=δ r):∃v,ZD P N o (Bq env) (A8 H) (rdT env o.op) v.enc/\k v=δ r/\v.ok H:=by
 have main:quT P env H o.op k=δ r->∃v,ZD P N o (Bq env) (A8 H) (rdT env o.op) v.enc/\k v=δ r/\v.ok H:=λh=>by
  obtain⟨v,i,j,l⟩:=vT ok h;refine⟨v,?_,j,l⟩;cases z:isLen o.op with
  |true=>grind[rdT,ZD.len]
  |false=>exact(Wn i).mono (ABB _ _ z)
 generalize d:o.op=op at h;unfold quD at h;split at h;rename_i t len b;unfold pq at h;split at h;rename_i q m;split at h;rename_i f;split at h;rename_i F e;have E:=tX m f;refine⟨_,?_,h,JW trivial⟩;rw[<-d];refine ZD.mono (a:=zy (Bq env) o.op) ?_ (ABB _ _ (by rw[d];rfl));have y:wH P (Bq env) (A8 H) o.op=δ (.vs q.sz ((b.toList.map λp=>JK env p.2).map TV.enc)):=by grind[wH]
 have A:=jW (N:=N) y;intro x n i j;have l:=A x n i j;refine JI.after (v:=.vs q.sz ((b.toList.map λp:Nat×Operand=>JK env p.2).map TV.enc)) (H1:=n) l λX g w s=>⟨Sm.refl _ _,λc D=>AF9 (mL e) (jP e) (λv C=>?_) _ _ D⟩
 unfold gP at f;simp only[BN]at f;obtain⟨u,B,rfl⟩:=Bk.1 C;have:=Fo.1 f.1.1.2 u B;split at this;simp_all[YY,dZ];cases this;cases h;cases h;cases h;grind
theorem xi{d:List Pg}(u: ∀c∈d,c.Ok P){call:Rq}(n:Vn P call){k:TV->Am->Option R}(ok:Np env H)(h:sJ P d call env H o.op k=some r):lZ P N o env H (uJ d env H o.op) k r:=by
 have b: ∀j,o.op=j->qD P d call env H j k=some r->uJ d env H j=sK d env H j->lZ P N o env H (uJ d env H o.op) k r:=λj a e f=>by subst a;rw[f];exact qE u n ok e
 generalize a:o.op=j at h;rw[<-a];cases j with
 |call c=>
  cases l:ZJ env (.call c)with
  |none=>exact b _ a (by unfold sJ at h;unfold qD;grind) (by simp only[uJ,l])
  |some p=>
   obtain⟨F,m⟩:=p;cases s:nO d F m with
   |some V=>exact b _ a (by unfold sJ at h;unfold qD;grind) (by simp only[uJ,l,s])
   |none=>
    cases q:vv m with
    |none=>
     have hn:isNil m=false:=by cases m<;>first|rfl|cases q
     exact b _ a (by unfold sJ at h;unfold qD;grind) (by simp only[uJ,l,s,q])
    |some i=>
     obtain⟨E,G⟩:=nE l;simp only[sJ,l,s,q]at h;split at h
     ·rename_i I;have L:=jq (S:=i) ok;obtain⟨v,t,M,O,Q,T,U⟩:=n (.fn F) m (KH i 0 H) _ r (λv J x K=>pN (G H ok.env v J x K)) L.heap h;obtain⟨z,A,B,C,D⟩:=ACr ok.heap U T;have y:ET P F (m.map TV.enc) (A8 H) (Cw v.enc (A8 t)):=by have:=M;rw[xK,pM]at this;exact this
      refine⟨v,RJ i 0 H t,JI.after (jt (by rw[a];exact E) I y) λX g w _=>?_,O,z v Q,A,B,?_⟩
      ·have hr:=(D (cx X g (A8 t) w)).onto;exact⟨hr,λc r=>r.later hr.later⟩
      ·rw[a];simp only[uJ,l,s,q];exact C
     ·cases h
 |_=>exact b _ a (by unfold sJ at h;unfold qD;grind) rfl
theorem vN{p:Nat×TV}(h:p∈WA o e):p.1∈tmpsOf o/\p.2=e.get p.1/\p.2≠.c (.raw .any):=by obtain⟨t,b,a⟩:=Sq.1 h;grind
theorem AFF(h:t.enc=.any):t=.c (.raw .any):=by
 cases t with
 |c x=>
  cases x with
  |ar n v a=>cases h
  |_=>grind[TV.enc,Bh.one]
 |vw id b v n d m=>simp only[TV.enc,vwE]at h;split at h;split at h<;>cases h;cases h
 |_=>simp[TV.enc]at h
theorem lU{t:Nat}:∀{l:BT},(∀p∈l,p.1≠t)->BT.get l t=Up
 |[],_=>rfl
 |(k,u)::r,h=>by simp only[BT.get,beq_false (h (k,u) k!)];exact lU λp a=>h p (by simp[a])
theorem vF{j:Nat}:∀{l:List Nat},j∈l->I2 j l=ζ
 |i::r,h=>by simp only[I2];rcases A1.1 h with rfl|h;rw[HD];rw[vF h];split<;>rfl
def AGB(ids:List Nat)(H:Am)(j:Nat):Prop:=∀cs,H[j]?=δ (.live η cs)->∀i∈LC cs,i∉ids
theorem qP{ids:List Nat}:∀{H:Am}{i j:Nat},i+j∉ju ids i H->AGB ids H j
 |e::r,i,0,hn,c,h=>by grind[ju,vF]
 |e::r,i,j+1,hn,c,h=>by
  have d:(i+1)+j∉ju ids (i+1) r:=by
   have f:i+1+j=i+(j+1):=o!
   rw[f];intro a;apply hn;cases e with
   |live b c=>cases b<;>grind[ju]
   |dead=>exact a
   |buf=>exact a
   |lp=>exact a
   |mp=>exact a
  exact qP (ids:=ids) d c h
def mV{id b:Nat}{t:Ty}{l:List t.D}:∀{a:List Bh},id∉LC a->a.map (Nc id b t l)=a
 |[],_=>rfl
 |x::r,h=>by
  cases x with
  |own d c e n=>simp only[LC,A1,not_or]at h;simp only[Bn,Nc,beq_false h.1,Bool.false_and,mV h.2]
  |_=>simp only[LC]at h;simp only[Bn,Nc,mV h]
def fY:∀(a:List Nat){env:BT}{H:Am}{j:Nat},j∉a->AGB a H j->(ID a env H).2[j]?=H[j]?
 |[],_,_,_,_,_=>rfl
 |id::r,env,H,j,hj,hn=>by
  simp at hj;simp only[ID];split;rename_i e h d;have m:h[j]?=H[j]? :=by
   unfold frz at d;split at d;rename_i t l n q s;simp at d;rw[<-d.2,DD (λe=>hj.1 e.symm),B6];cases p:H[j]? with
   |none=>rfl
   |some o=>
    simp;cases o with
    |live b c=>
     cases b with
     |false=>simp only[QW];rw[mV λf=>hn c p id f Ip]
     |true=>rfl
    |_=>rfl
   cases d
  rw[fY r hj.2 λc g i k f=>hn c (m▸g) i k (CN _ f),m];exact fY r hj.2 λc g i k f=>hn c g i k (CN _ f)
theorem zP(l:∀c∈f,c.Ok P)(g:Vn P u){k:TV→Am→Option R}(ok:Np env H)(h:AH0 P f u (WA o env) H o.op k=δ r):
  ∃v d,Eff P N o (Bq env) (A8 H) (xj f (WA o env) H o.op) (Cw v.enc (A8 d))/\k v d=δ r/\v.ok d/\(∀e∈d,e.ok d)/\Bz H d:=by
 have n:Np (WA o env) H:=⟨λp m=>by rw[(vN m).2.1];exact jk ok.env _,ok.heap⟩
 obtain⟨s,b,G⟩:=Q6 (lW f (WA o env) H o.op) n;have w:=λj=>fY (lW f (WA o env) H o.op) (env:=WA o env) (H:=H) (j:=j);have x:∀id,id∉xj f (WA o env) H o.op->id∉uJ f (ID (lW f (WA o env) H o.op) (WA o env) H).1 (ID (lW f (WA o env) H o.op) (WA o env) H).2 o.op/\(ID (lW f (WA o env) H o.op) (WA o env) H).2[id]?=H[id]? :=by intro id a;unfold xj at a;split at a;rename_i z;rw[z];exact⟨a,rfl⟩;simp only[Ao,not_or]at a;refine⟨a.2,w id a.1.1 (qP (i:=0) q!)⟩
 obtain⟨v,d,A,B,C,D,E,F⟩:=xi (N:=N) l g s h;refine⟨v,d,⟨λt O=>JI.before (E4.subset λq y=>?_) (JI.before (G N) A),?_⟩,B,C,D,b.step.trans E⟩;obtain⟨p,m,rfl⟩:=Bk.1 y;obtain⟨K,L,M⟩:=vN m;grind[UA,Nv,AFF];rintro _ _ ⟨rfl,rfl⟩ id a hn;rw[CK]at a;obtain⟨I,J⟩:=x id hn;rw[Dy,Dy,F id (C2 a b.step.len) I,J]
def To{j:Nat}:∀{l:List Nat},I2 j l=η->j∉l
 |i::r,h=>by simp only[I2]at h;split at h;cases h;rename_i b;intro a;rcases A1.1 a with rfl|a;rw[HD]at b;cases b;exact To h a
 |[],_=>λh=>by cases h
def uI(ops:Array Oper)(l:List Nat):List Nat:=l.filterMap λi=>(ops[i]?).bind (·.dst)
theorem YV{L:List Pg}(u:∀c∈L,c.Ok P){w:Rq}(s:Vn P w){b:Array Oper}{gs:List Nat}{ow:Bool}:∀(l:List Nat)(n:List (Nat×List Nat))(env:BT)(H:Am)(k:BT→Am→Option R)(r:R),Np env H→
  AAI P L w b (IB b.toList []) gs ow l n env H k=δ r->
  ∃a q,RA P N b l n (Bq env) (A8 H) (λe h=>e=Bq a/\h=A8 q)/\k a q=δ r/\Np a q/\D4 (uI b l) env H a q
 |[],n,env,H,k,r,ok,h=>⟨env,H,⟨rfl,rfl⟩,h,ok,D4.refl _ _ _⟩
 |i::l,n,env,H,k,r,ok,h=>by
  simp only[AAI]at h;simp only[RA];cases J:b[i]? with
  |none=>rw[J]at h;cases h
  |some o=>
   rw[J]at h;simp only at h⊢;have m:∀{e:BT}{h:Am}{v:TV},D4 (uI b [i]) e h (e.putO o.dst v) h:=by
    intro e h v;refine⟨Bz.refl h,λt T _=>?_⟩;cases hd:o.dst with
    |none=>rfl
    |some d=>refine oE λe=>T ?_;simp[uI,J,hd,e]
   have g:∀t,t∈uI b [i]++uI b l->t∈uI b (i::l):=by grind[uI]
   split at h;rename_i t Q;split at h;rename_i z hz;split at h;rename_i F;simp only[BN]at F;obtain⟨z1,z2⟩:=Yb hz;have I:=Bz.push H (.live η z);have f:Np (env.putO o.dst (.c (.raw (.ptr (θ H) 0 0)))) (H++[.live η z]):=⟨ac (I.env ok.env) (JW trivial),PW ok.heap (z2 _)⟩
   obtain⟨a,q,x,C,D,E⟩:=YV u s l _ _ _ _ _ f h;have G:o.guard=ε:=by simpa using F.1
   refine⟨a,q,?_,C,D,?_⟩;rw[G];refine .inr (.inr ⟨t,lvs z,Q,z1,λj Z=>?_,?_⟩);grind[List.all_eq_true];have M:Bq (env.putO o.dst (.c (.raw (.ptr (θ H) 0 0))))=(Bq env).putO o.dst (.ptr (A8 H).length 0 0):=by rw[XV,CK];rfl
   have e2:A8 (H++[.live η z])=A8 H++[.live 0 (lvs z)]:=Q4 _ _;rw[M,e2]at x;exact x;have Y:D4 (uI b [i]) env H (env.putO o.dst (.c (.raw (.ptr (θ H) 0 0)))) (H++[.live η z]):=⟨I,(m (h:=H)).same⟩
   exact(D4.trans ok.env Y E).mono g;cases h;cases h;rename_i O;have y:H5 b i=η:=by
    cases hb:H5 b i with
    |false=>rfl
    |true=>obtain⟨t,T⟩:=(V7 J).1 hb;exact(O t T).elim
   split at h;rename_i G;have f:Np (env.putO o.dst (.tup [])) H:=⟨ac ok.env (RF λv hv=>by cases hv),ok.heap⟩
   obtain⟨a,q,x,C,D,E⟩:=YV u s l _ _ _ _ _ f h;have M:(Bq env).putO o.dst (.tup [])=Bq (env.putO o.dst (.tup [])):=by rw[XV];rfl
   exact⟨a,q,nk G ⟨y,by rw[M];exact x⟩,C,D,(D4.trans ok.env m E).mono g⟩;rename_i G;split at h;split at h;rename_i S;obtain⟨v,U,V,W⟩:=AB2 (N:=N) ok h;have B:=mO V;have f:Np (env.putO o.dst v) H:=⟨ac ok.env W,ok.heap⟩
   obtain⟨a,q,x,C,D,E⟩:=YV u s l _ _ _ _ _ f B;refine⟨a,q,jm G (.inl ⟨y,v.enc,rdT env o.op,U,λid A=>?_,by rw[<-XV];exact x⟩),C,D,(D4.trans ok.env m E).mono g⟩;have:=Fo.1 S id A;rw[CK];exact Oa this;cases h;split at h;rename_i F;simp only[BN]at F;obtain⟨v,K,U,V,W,q4,X⟩:=zP (N:=N) u s ok h;have B:=mO V;have f:Np (env.putO o.dst v) K:=⟨ac (X.env ok.env) W,q4⟩
   obtain⟨a,q,x,C,D,E⟩:=YV u s l _ _ _ _ _ f B;refine⟨a,q,jm G (.inr (.inl ⟨y,xj L (WA o env) H o.op,λj Z=>by simpa using List.all_eq_true.1 F.1 j Z,λp hp=>?_,Cw v.enc (A8 K),U,?_,?_⟩)),C,D,?_⟩;have:=Fo.1 F.2 p hp;simp only[VU,Fo,VT]at this;exact this.imp id λh3 id A=>To (h3 id A);rintro _ _ ⟨rfl,rfl⟩;rw[CK,CK];exact X.len;rintro _ _ ⟨rfl,rfl⟩;rw[<-XV];exact x;have Y:D4 (uI b [i]) env H (env.putO o.dst v) K:=⟨X,(m (h:=H)).same⟩
   exact(D4.trans ok.env Y E).mono g;cases h;cases h
end
abbrev DV:=(t:Ty)×t.D
def dvs:(ts:List Ty)->DL ts->List DV
 |[],_=>[]
 |[t],x=>[⟨t,x⟩]
 |t::u::r,x=>⟨t,x.1⟩::dvs (u::r) x.2
def zg:(ts:List Ty)->List DV->Option (DL ts)
 |[],[]=>δ ()
 |[t],[⟨t',x⟩]=>if h:t'.beq t=ζ then δ (Ty.cast h x)else ε
 |t::u::r,⟨t',x⟩::ds=>if h:t'.beq t=ζ then match zg (u::r) ds with|some y=>δ (Ty.cast h x,y)|none=>ε else ε
 |_,_=>ε
def AAq{a:Ty}(h:a.beq x=ζ)(t:a.D):(⟨x,Ty.cast h t⟩:DV)=⟨a,t⟩:=by have e:=Ty.beq_eq a x h;subst e;rfl
theorem pR:∀{b:List Ty}{a:List DV}{s:DL b},zg b a=δ s->dvs b s=a
 |[],[],s,_=>rfl
 |[],_::_,s,h=>by cases h
 |[t],[],s,h=>by cases h
 |[t],[⟨t',x⟩],s,h=>by simp only[zg]at h;split at h;rename_i c;injection h with h;subst h;simp only[dvs,AAq];cases h
 |[t],_::_::_,s,h=>by simp[zg]at h
 |t::u::r,[],s,h=>by cases h
 |t::u::r,⟨t',x⟩::a,s,h=>by simp only[zg]at h;split at h;rename_i c;split at h;rename_i y d;injection h with h;subst h;simp only[dvs,AAq,pR d];cases h;cases h
inductive Part where
 |d (t:Ty)
 |o (id:Nat)
inductive OV where
 |t (tmp:Nat) (ty:Ty)
 |g (tmp id:Nat)
 |p (id:Nat) (ps:List Part)
 |u (id:Nat) (ty:Ty)
 |x (id:Nat)
 |k (tmp:Nat) (v:AV)
 |y (id:Nat) (s:LS)
 |m (id:Nat) (k:IntKind) (t:Ty)
 |w (tmp id:Nat)
def AHX:AV->AV->Bool
 |.ptr a b c,.ptr a' b' c'=>ξ a a'&&(ξ b b'&&ξ c c')
 |.nilp,.nilp=>ζ
 |.nilf,.nilf=>ζ
 |_,_=>η
def AFn{w:AV}(h:AHX l w=ζ):l=w:=by unfold AHX at h;split at h<;>simp_all
def LF:List OV->List Nat
 |[]=>[]
 |.p id _::r=>id::LF r
 |.u id _::r=>id::LF r
 |.x id::r=>id::LF r
 |.y id _::r=>id::LF r
 |.m id _ _::r=>id::LF r
 |_::r=>LF r
def VI:List OV->List Nat
 |[]=>[]
 |.t tmp _::r=>tmp::VI r
 |.g tmp _::r=>tmp::VI r
 |.k tmp _::r=>tmp::VI r
 |.w tmp _::r=>tmp::VI r
 |_::r=>VI r
def AHR:List Part->List Ty
 |[]=>[]
 |.d t::r=>t::AHR r
 |_::r=>AHR r
def dV:List OV->List Ty
 |[]=>[]
 |.t _ t::r=>t::dV r
 |.p _ ps::r=>AHR ps++dV r
 |.u _ t::r=>.list t::dV r
 |.m _ k t::r=>.list (.prod (.cons (.int k) (.one t)))::dV r
 |.w _ _::r=>.int .i64:: .int .i64::dV r
 |_::r=>dV r
def sH(H:Am)(id:Nat):Bh->Bool
 |.own id' ver _ _=>match ξ id id' with
  |true=>match H[id]? with|some (.buf _ _ _ _ ver')=>ξ ver ver'|_=>η
  |false=>η
 |_=>η
def qA(H:Am)(rest:List Nat):List Part->List Bh->Option (List DV)
 |[],[]=>δ []
 |.d t::ps,cs=>
  match t.mk cs with
  |some (x,cs')=>match qA H rest ps cs' with|some ds=>δ (⟨t,x⟩::ds)|none=>ε
  |none=>ε
 |.o id::ps,c::cs=>
  match sH H id c&& !I2 id rest with
  |true=>qA H rest ps cs
  |false=>ε
 |_,_=>ε
def Xu(env:BT)(H:Am):List OV->Option (List DV)
 |[]=>δ []
 |.t tmp ty::r=>
  match ty.data (env.get tmp),Xu env H r with
  |some x,δ ds=>δ (⟨ty,x⟩::ds)
  |_,_=>ε
 |.g tmp id::r=>
  match env.get tmp with
  |.c x=>match sH H id x&& !I2 id (LF r)with|true=>Xu env H r|false=>ε
  |_=>ε
 |.p id ps::r=>
  match H[id]? with
  |some (.live _ cs)=>
   match qA H (id::LF r) ps cs,Xu env H r with
   |some a,δ b=>δ (a++b)
   |_,_=>ε
  |_=>ε
 |.u id ty::r=>
  match H[id]? with
  |some (.buf _ t l _ _)=>match t.beq ty,Xu env H r with|true,δ ds=>δ (⟨.list t,l⟩::ds)|_,_=>ε
  |_=>ε
 |.x _::r=>Xu env H r
 |.k tmp v::r=>
  match env.get tmp with
  |.c (.raw w)=>match AHX v w with|true=>Xu env H r|false=>ε
  |_=>ε
 |.y id s::r=>
  match H[id]? with
  |some (.lp _ _ _ _ _ _ _ s')=>match s.beq s' with|true=>Xu env H r|false=>ε
  |_=>ε
 |.m id k t::r=>
  match H[id]? with
  |some (.mp _ k' t' es)=>match τ (k'=k)&&t'.beq t,Xu env H r with|true,δ ds=>δ (⟨.list (.prod (.cons (.int k') (.one t'))),es⟩::ds)|_,_=>ε
  |_=>ε
 |.w tmp id::r=>
  match env.get tmp with
  |.vw id' ver te n lo m=>match sH H id (.own id' ver te n)&& !I2 id (LF r),Xu env H r with|true,δ ds=>δ (⟨.int .i64,(lo:Int)⟩::⟨.int .i64,(m:Int)⟩::ds)|_,_=>ε
  |_=>ε
def su(H:Am):List Part->List DV->Option (List Bh×List DV)
 |[],ds=>δ ([],ds)
 |.d _::ps,⟨t,x⟩::ds=>match su H ps ds with|some (cs,r)=>δ (t.lvs x++cs,r)|none=>ε
 |.o id::ps,ds=>
  match H[id]? with
  |some (.buf _ t _ n ver)=>match su H ps ds with|some (cs,r)=>δ (.own id ver t n::cs,r)|none=>ε
  |_=>ε
 |_,_=>ε
def Vh:List OV->List DV->BT->Am->Option (BT×Am)
 |[],[],env,H=>δ (env,H)
 |.t tmp _::r,⟨t,x⟩::ds,env,H=>Vh r ds ((tmp,t.tv x)::env) H
 |.g tmp id::r,ds,env,H=>
  match H[id]? with
  |some (.buf _ t _ n ver)=>Vh r ds ((tmp,.c (.own id ver t n))::env) H
  |_=>ε
 |.p id ps::r,ds,env,H=>
  match H[id]? with
  |some (.live η _)=>match su H ps ds with|some (cs,ds')=>Vh r ds' env (H.set id (.live η cs))|none=>ε
  |_=>ε
 |.u id _::r,⟨.list t,l⟩::ds,env,H=>
  match H[id]? with
  |some (.buf η t' _ _ ver)=>match t'.beq t with|true=>Vh r ds env (H.set id (.buf η t l (θ l) (ver+1)))|false=>ε
  |_=>ε
 |.x id::r,ds,env,H=>
  match H[id]? with
  |some e=>match e.ro||e.isLp with|false=>Vh r ds env (H.set id .dead)|true=>ε
  |none=>ε
 |.k tmp v::r,ds,env,H=>Vh r ds ((tmp,.c (.raw v))::env) H
 |.y id s::r,ds,env,H=>
  match H[id]? with
  |some (.lp η F n e ps a b _)=>Vh r ds env (H.set id (.lp η F n e ps a b s))
  |_=>ε
 |.m id _ _::r,⟨.list (.prod (.cons (.int k) (.one t))),es⟩::ds,env,H=>
  match H[id]? with
  |some (.mp η k' t' _)=>match τ (k'=k)&&t'.beq t with|true=>Vh r ds env (H.set id (.mp η k t es))|false=>ε
  |_=>ε
 |.w tmp id::r,⟨.int _,lo⟩::⟨.int _,m⟩::ds,env,H=>
  match H[id]? with
  |some (.buf _ t _ n ver)=>Vh r ds ((tmp,.vw id ver t n (ο lo) (ο m))::env) H
  |_=>ε
 |_,_,_,_=>ε
def AGh(e e':Di):Prop:=e'=.dead\/(∃b cs b' cs',e=.live b cs/\e'=.live b' cs'/\Da (lvs cs) (lvs cs'))\/(∃b t l n v b' v',e=.buf b t l n v/\e'=.buf b' t l n v')\/(∃ro ro' F n env ps a b s,e=.lp ro F n env ps a b s/\e'=.lp ro' F n env ps a b s)\/(∃b b' k t es,e=.mp b k t es/\e'=.mp b' k t es)
def HR(H1 H:Am)(rest:List Nat):Prop:=∀(j:Nat)(e':Di),I2 j rest=η->H[j]?=δ e'->∃e,H1[j]?=δ e/\AGh e e'
theorem Pf:I2 N (n::b)=η↔N≠n/\I2 N b=η:=by simp[I2];by_cases h:N=n;simp_all;grind[beq_false]
theorem jN(j:I.ok c)(h:sH c N I=ζ):∃b t l n a,I=.own N a t n/\c[N]?=δ (.buf b t l n a):=by unfold sH at h;split at h;rename_i k a t n;split at h;rename_i i;have e:=Cy i;subst e;split at h;rename_i b o l m d g;have f:=Cy h;subst f;have⟨rfl,rfl⟩:=(j.2 _ _ _ _ _ g).2 rfl;grind;cases h;cases h;cases h
theorem Vm{b:Bool}{l:List x.D}(h:c[N]?=δ (.buf b x l n G)):Rf c N G x n:=by refine⟨?_,λro g e f H d=>?_⟩;grind;grind
theorem mJ{q H:Am}{i:List Nat}(hr:HR q H i):∀{p:List Part}{m:List Bh}{a b j:List DV}{f:List Bh},lok q m→qA q i p m=δ a→su H p (a++b)=δ (f,j)→
  j=b/\Da (lvs m) (lvs f)/\lok H f
 |[],[],a,b,j,f,ok,h,k=>by grind[qA,Option.some.injEq,su,Prod.mk.injEq,Da.refl,AFR]
 |[],_::_,a,b,j,f,ok,h,k=>by simp[qA]at h
 |.d t::p,m,a,b,j,f,ok,h,k=>by simp[qA]at h;split at h;rename_i x U z;split at h;rename_i V u;cases h;obtain⟨T,rfl,P⟩:=t.mk_spec _ _ _ z;simp[am,su]at k;split at k;rename_i I r v;obtain⟨rfl,rfl⟩:=k;have⟨B,C,D⟩:=mJ hr (I1.1 ok).2 u v;refine⟨B,?_,I1.2 ⟨t.lvs_ok x,D⟩⟩;rw[Gl,Gl,t.lvs_enc];exact P.append C;cases k;cases h;cases h
 |.o id::p,c::m,a,b,j,f,ok,h,k=>by
  simp[qA]at h;split at h
  ·rename_i s;simp[BN,VT]at s;obtain⟨R,t,l,n,Q,rfl,O⟩:=jN (ok c k!) s.1;simp[su]at k;split at k
   ·rename_i S t2 l2 n2 G E;split at k
    ·rename_i I r v;obtain⟨rfl,rfl⟩:=k;have⟨B,C,D⟩:=mJ hr (λx z=>ok x (by simp[z])) h v;have⟨e,F,w⟩:=hr id _ s.2 E;rw[O]at F;cases F;rcases w with g|⟨_,_,_,_,g,_⟩|⟨_,_,_,_,_,_,_,g,N⟩|⟨_,_,_,_,_,_,_,_,_,g,_⟩|⟨_,_,_,_,_,g,_⟩;cases g;cases g;rotate_left;cases g;cases g;injection g with W J X K Y;injection N with Z L f3 M f5;subst J K L M;refine⟨B,?_,λy A=>?_⟩;rw[HW,HW];exact(Da.refl _).append C;rcases A1.1 A with rfl|A;exact Vm E;exact D y A
    cases k
   cases k
  cases h
structure IS(env1:BT)(H1:Am)(slots:List OV)(env:BT)(H:Am)(env2:BT)(H2:Am):Prop where
 get:∀t,I2 t (VI slots)=false->env2.get t=env.get t
 ok:Np env2 H2
 env:∀p∈env2,∃v,(p.1,v)∈env1/\WK v.enc p.2.enc
 hr:HR H1 H2 []
 step:Bz H H2
 len:H2.length=H.length
 same:∀j,I2 j (LF slots)=false->H2[j]?=H[j]?
def YX{t:Nat}{v:TV}:∀{env:BT},env.get t=v->v≠Up->(t,v)∈env
 |[],h,hv=>N! h.symm hv
 |(k,u)::r,h,hv=>by simp only[BT.get]at h;split at h;simp_all;exact CN _ (YX h hv)
def heap_set{e:Di}(b:Bz c (c.set N e))(ok:∀x∈c,x.ok c)(a:e.ok (c.set N e)):∀x∈c.set N e,x.ok (c.set N e):=by intro x H;rcases VN H with h|rfl;exact b.ent (ok x h);exact a
theorem HR.set{a H:Am}{id:Nat}{e d:Di}(h:HR a H (id::b))(g:a[id]?=δ e)(hr:AGh e d):HR a (H.set id d) b:=by intro j x f c;rw[XS]at c;split at c;grind;rename_i r;exact h j x (Pf.2 ⟨λq=>r q.symm,f⟩) c
theorem LpS.set{H c:Am}{id:Nat}{i:Di}(h:LpS H c)(l:id<θ H)(p:∀ro F n env f a b s,c[id]?=δ (.lp ro F n env f a b s)->∃g o,i=.lp g F n env f a b o):LpS (H.set id i) c:=by intro j k ro F n env f a b s m;rw[dh]at k;by_cases d:j=id;grind;rw[DD λe=>d e.symm];exact h j k _ _ _ _ _ _ _ _ m
variable {q:List OV}
theorem qL(id:Nat){f:Am}{r:Di}(H:D[id]?=δ r)(g:(r.ro||r.isLp)=η)(m:θ D≤θ c)(lp:LpS D c)
  (hr:HR c D (id::LF q)) (ok:Np L D) (k:Np L (D.set id .dead)->LpS (D.set id .dead) c->HR c (D.set id .dead) (LF q)->IS e c q L (D.set id .dead) Y f):IS e c (.x id::q) L D Y f:=by
 have b:r.isLp=η:=q!
 have st:Bz D (D.set id .dead):=Bz.set H q! λ_ _ _ _ _ r=>by cases r
 have d:id<θ c:=q!
 have a:=k ⟨st.env ok.env,heap_set st ok.heap trivial⟩ (lp.set (G0 H) λ_ _ _ _ _ _ _ _ i=>by have⟨l,n,a⟩:=lp id (G0 H) _ _ _ _ _ _ _ _ i;rw[H]at a;injection a with a;rw[a]at b;cases b) (HR.set hr (As d) (.inl rfl));refine⟨a.get,a.ok,a.env,a.hr,st.trans a.step,by simpa using a.len,λj h=>?_⟩;have:=Pf.1 h;rw[a.same j this.2,DD λr=>this.1 r.symm]
def MP{env1:BT}{J:Am}(z:Np env1 J):∀{slots:List OV}{B:List DV}{env:BT}{H:Am}{env2:BT}{E:Am},Xu env1 J slots=δ B→Vh slots B env H=δ (env2,E)→Np env H→
  θ H<=θ J->(∀p∈env,∃v,(p.1,v)∈env1/\WK v.enc p.2.enc)->HR J H (LF slots)->LpS H J->IS env1 J slots env H env2 E
 |[],B,env,H,env2,E,h,k,ok,hl,he,hr,lp=>by simp only[Xu,Al]at h;subst h;simp only[Vh,Al,EI]at k;obtain⟨rfl,rfl⟩:=k;exact⟨λ_ _=>rfl,ok,he,hr,Bz.refl _,rfl,λ_ _=>rfl⟩
 |.t tmp ty::r,B,env,H,env2,E,h,k,ok,hl,he,hr,lp=>by
  simp[Xu]at h;split at h;rename_i x d I R;cases h;simp[Vh]at k;have f:Np ((tmp,ty.tv x)::env) H:=⟨λp o=>by rcases A1.1 o with rfl|o;exact ty.tv_ok x;exact ok.env p o,ok.heap⟩
  have q:=MP z R k f hl (λp o=>by rcases A1.1 o with rfl|o;refine⟨env1.get tmp,YX rfl λe=>?_,?_⟩;rw[e]at I;cases ty<;>cases I;simp[ty.tv_enc];exact Jh I;exact he p o) hr lp;refine⟨λt G=>?_,q.ok,q.env,q.hr,q.step,q.len,q.same⟩;have:=Pf.1 G;rw[q.get t this.2];simp[BT.get,beq_false λe=>this.1 e.symm];cases h
 |.g tmp id::r,B,env,H,env2,E,h,k,ok,hl,he,hr,lp=>by
  simp[Xu]at h;split at h
  ·rename_i x I;split at h
   ·rename_i D;simp[BN,VT]at D;have V:x.ok J:=jk z.env tmp x (by rw[I];simp[TV.refs]);obtain⟨b1,t,l,n,ad,rfl,C⟩:=jN V D.1;simp[Vh]at k;split at k
    ·rename_i b2 O l2 n2 N h2;have⟨e,L,T⟩:=hr id _ D.2 h2;rw[C]at L;cases L;rcases T with i|⟨_,_,_,_,i,_⟩|⟨_,_,_,_,_,_,_,i,h1⟩|⟨_,_,_,_,_,_,_,_,_,i,_⟩|⟨_,_,_,_,_,i,_⟩;cases i;cases i;rotate_left;cases i;cases i;injection i with e1 Z e3 e4 e5;injection h1 with f1 f2 f3 f4 f5;subst Z e4 f2 f4;have f:Np ((tmp,.c (.own id N O n2))::env) H:=⟨λp o=>by rcases A1.1 o with rfl|o;exact JW (Vm h2);exact ok.env p o,ok.heap⟩
     have q:=MP z h k f hl (λp o=>by rcases A1.1 o with rfl|o;exact⟨_,YX I (λe=>by cases e),WK.refl _⟩;exact he p o) hr lp;refine⟨λt G=>?_,q.ok,q.env,q.hr,q.step,q.len,q.same⟩;have:=Pf.1 G;rw[q.get t this.2];simp[BT.get,beq_false λe=>this.1 e.symm]
    cases k
   cases h
  cases h
 |.p id Y::r,B,env,H,env2,E,h,k,ok,hl,he,hr,lp=>by
  simp[Xu]at h;split at h;rename_i b cs C;split at h;rename_i a b1 ha D;cases h;simp[Vh]at k;split at k;rename_i al i;split at k;rename_i P Q hi;have ag:lok J cs:=by simpa only[Di.ok]using z.heap _ (BM C)
  have⟨rfl,q2,q3⟩:=mJ hr ag ha hi;have st:Bz H (H.set id (.live η P)):=Bz.set i rfl λ_ _ _ _ _ e=>by cases e
  have A:HR J (H.set id (.live η P)) (LF r):=HR.set hr C (.inr (.inl ⟨_,_,_,_,rfl,rfl,q2⟩));have f:Np env (H.set id (.live η P)):=⟨st.env ok.env,heap_set st ok.heap (by simpa only[Di.ok]using st.lok q3)⟩
  have q:=MP z D k f (by simpa using hl) he A (lp.set (G0 i) λ_ _ _ _ _ _ _ _ K=>by rw[C]at K;cases K);refine⟨q.get,q.ok,q.env,q.hr,st.trans q.step,by simpa using q.len,λj S=>?_⟩;have:=Pf.1 S;rw[q.same j this.2,DD λe=>this.1 e.symm];cases k;cases k;cases h;cases h
 |.u id ty::r,B,env,H,env2,E,h,k,ok,hl,he,hr,lp=>by
  simp[Xu]at h;split at h;rename_i b t l n ad C;split at h;rename_i Q D R;cases h;simp[Vh]at k;split at k;rename_i t' l0 n0 M i;split at k;rename_i G;have e:=Ty.beq_eq _ _ G;subst e;have hn:n=θ l:=by simpa only[Di.ok]using z.heap _ (BM C)
  have st:Bz H (H.set id (.buf η t' l (θ l) (M+1))):=Bz.set i rfl λro O l2 n2 v2 e=>by cases e;exact⟨_,_,_,_,rfl,.inl o!⟩
  have A:HR J (H.set id (.buf η t' l (θ l) (M+1))) (LF r):=HR.set hr C (.inr (.inr (.inl ⟨_,_,_,_,_,_,_,rfl,by rw[hn]⟩)));have f:Np env (H.set id (.buf η t' l (θ l) (M+1))):=⟨st.env ok.env,heap_set st ok.heap rfl⟩
  have q:=MP z R k f (by simpa using hl) he A (lp.set (G0 i) λ_ _ _ _ _ _ _ _ K=>by rw[C]at K;cases K);refine⟨q.get,q.ok,q.env,q.hr,st.trans q.step,by simpa using q.len,λj S=>?_⟩;have:=Pf.1 S;rw[q.same j this.2,DD λe=>this.1 e.symm];cases k;cases k;cases h;cases h
 |.x id::r,B,env,H,env2,E,h,k,ok,hl,he,hr,lp=>by
  simp[Xu]at h;cases B with
  |nil=>simp[Vh]at k;split at k;rename_i e i;split at k;rename_i U;exact qL id i U hl lp hr ok λf X A=>MP z h k f (by simpa using hl) he A X;cases k;cases k
  |cons d B=>simp[Vh]at k;split at k;rename_i e i;split at k;rename_i U;exact qL id i U hl lp hr ok λf X A=>MP z h k f (by simpa using hl) he A X;cases k;cases k
 |.k tmp w::r,B,env,H,env2,E,h,k,ok,hl,he,hr,lp=>by
  have k':Vh r B ((tmp,.c (.raw w))::env) H=δ (env2,E):=by cases B<;>simpa only[Vh]using k
  simp[Xu]at h;split at h;rename_i w' I;split at h;rename_i D;have e:=AFn D;subst e;have f:Np ((tmp,.c (.raw w))::env) H:=⟨λp o=>by rcases A1.1 o with rfl|o;exact JW trivial;exact ok.env p o,ok.heap⟩
  have hw:w≠.any:=by rintro rfl;cases D
  have q:=MP z h k' f hl (λp o=>by rcases A1.1 o with rfl|o;refine⟨_,YX I (λe=>?_),WK.refl _⟩;injection e with e;injection e with e;exact hw e;exact he p o) hr lp;refine⟨λt G=>?_,q.ok,q.env,q.hr,q.step,q.len,q.same⟩;have:=Pf.1 G;rw[q.get t this.2];simp[BT.get,beq_false λe=>this.1 e.symm];cases h;cases h
 |.y id s::r,B,env,H,env2,E,h,k,ok,hl,he,hr,lp=>by
  simp[Xu]at h;split at h;rename_i ap F1 n1 e1 p1 a1 b1 s1 C;split at h;rename_i D;have e0:=LS.beq_eq D;subst e0;obtain⟨F,n,e,Y,a,b,s0,i,k'⟩:∃F n e Y a b s0,H[id]?=δ (.lp η F n e Y a b s0)/\Vh r B env (H.set id (.lp η F n e Y a b s))=δ (env2,E):=by cases B<;>simp[Vh]at k<;>split at k<;>first|exact⟨_,_,_,_,_,_,_,‹_›,k⟩|cases k
  have⟨ar,s2,q⟩:=lp id (G0 i) _ _ _ _ _ _ _ _ C;rw[i]at q;injection q with q;injection q with _ q2 q3 q4 q5 q6 q7 _;subst q2 q3 q4 q5 q6 q7;have st:Bz H (H.set id (.lp η F n e Y a b s)):=Bz.set i rfl (λ_ _ _ _ _ e=>by cases e) λ_ _ _ _ _ _ _ _ e=>by cases e;exact⟨_,_,rfl⟩
  have A:HR J (H.set id (.lp η F n e Y a b s)) (LF r):=HR.set hr C (.inr (.inr (.inr (.inl ⟨_,_,_,_,_,_,_,_,_,rfl,rfl⟩))));have f:Np env (H.set id (.lp η F n e Y a b s)):=⟨st.env ok.env,heap_set st ok.heap (by have:=ok.heap _ (BM i);simpa only[Di.ok]using this)⟩
  have q:=MP z h k' f (by simpa using hl) he A (lp.set (G0 i) λ_ _ _ _ _ _ _ _ K=>by rw[C]at K;injection K with K;cases K;exact⟨_,_,rfl⟩);refine⟨q.get,q.ok,q.env,q.hr,st.trans q.step,by simpa using q.len,λj S=>?_⟩;have:=Pf.1 S;rw[q.same j this.2,DD λe=>this.1 e.symm];cases h;cases h
 |.m id kk ty::r,B,env,H,env2,E,h,k,ok,hl,he,hr,lp=>by
  simp[Xu]at h;split at h;rename_i b k1 t1 es C;split at h;rename_i Q D R;cases h;simp[Vh]at k;split at k;rename_i k2 O ao i;split at k;rename_i G;simp[BN,K!]at G;have⟨rfl,G⟩:=G;have e:=Ty.beq_eq _ _ G;subst e;have st:Bz H (H.set id (.mp η k2 O es)):=Bz.set i rfl λ_ _ _ _ _ e=>by cases e
  have A:HR J (H.set id (.mp η k2 O es)) (LF r):=HR.set hr C (.inr (.inr (.inr (.inr ⟨_,_,_,_,_,rfl,rfl⟩))));have f:Np env (H.set id (.mp η k2 O es)):=⟨st.env ok.env,heap_set st ok.heap trivial⟩
  have q:=MP z R k f (by simpa using hl) he A (lp.set (G0 i) λ_ _ _ _ _ _ _ _ K=>by rw[C]at K;cases K);refine⟨q.get,q.ok,q.env,q.hr,st.trans q.step,by simpa using q.len,λj S=>?_⟩;have:=Pf.1 S;rw[q.same j this.2,DD λe=>this.1 e.symm];cases k;cases k;cases h;cases h
 |.w tmp id::r,B,env,H,env2,E,h,k,ok,hl,he,hr,lp=>by
  simp[Xu]at h;split at h
  ·rename_i W af te n1 lo m I;split at h
   ·rename_i Q D R;cases h;simp[BN,VT]at D;have V:(Bh.own W af te n1).ok J:=jk z.env tmp _ (by rw[I];simp[TV.refs]);obtain⟨b1,t,l,n,ad,e0,C⟩:=jN V D.1;injection e0 with e1 Z e3 e4;subst e1 Z e3 e4;simp[Vh]at k;split at k
    ·rename_i b2 O l2 n2 N h2;have⟨e,L,T⟩:=hr W _ D.2 h2;rw[C]at L;cases L;rcases T with i|⟨_,_,_,_,i,_⟩|⟨_,_,_,_,_,_,_,i,h1⟩|⟨_,_,_,_,_,_,_,_,_,i,_⟩|⟨_,_,_,_,_,i,_⟩;cases i;cases i;rotate_left;cases i;cases i;injection i with e1 Z e3 e4 e5;injection h1 with f1 f2 f3 f4 f5;subst Z e4 f2 f4;have f:Np ((tmp,.vw W N O n2 lo m)::env) H:=⟨λp o=>by rcases A1.1 o with rfl|o;intro x I;simp only[TV.refs,A7]at I;subst I;exact Vm h2;exact ok.env p o,ok.heap⟩
     have q:=MP z R k f hl (λp o=>by rcases A1.1 o with rfl|o;exact⟨_,YX I (λe=>by cases e),WK.refl _⟩;exact he p o) hr lp;refine⟨λt G=>?_,q.ok,q.env,q.hr,q.step,q.len,q.same⟩;have:=Pf.1 G;rw[q.get t this.2];simp[BT.get,beq_false λe=>this.1 e.symm]
    cases k
   cases h
  cases h
def Z7(n:Nat):List Bh->Bool
 |[]=>ζ
 |.own id _ _ _::r=>Nat.blt id n&&Z7 n r
 |.raw v::r=>v.idsAll (λid=>Nat.blt id n)&&Z7 n r
 |_::r=>Z7 n r
mutual
def uk(n:Nat):TV->Bool
 |.c x=>Z7 n [x]
 |.g cs=>Z7 n cs
 |.aptr id .. =>Nat.blt id n
 |.bptr id .. =>Nat.blt id n
 |.vw id .. =>Nat.blt id n
 |.vptr cs post=>Z7 n cs&&AV.idsAllL (λid=>Nat.blt id n) post
 |.tup vs=>wD n vs
def wD(n:Nat):List TV->Bool
 |[]=>ζ
 |v::r=>uk n v&&wD n r
end
def uH(n:Nat):BT->Bool
 |[]=>ζ
 |(_,v)::r=>uk n v&&uH n r
def lA(n:Nat):Am->Bool
 |[]=>ζ
 |.live _ cs::r=>Z7 n cs&&lA n r
 |.lp _ _ _ env _ _ _ _::r=>uH n env&&lA n r
 |_::r=>lA n r
def kM(h:Nat.blt N n=ζ):τ (N<n)=ζ:=t!
def jv(h:Pure l)(n:Nat):(l.idsAll λid=>decide (id<n))=ζ:=Qs (λ_ h=>by cases h) l h
def yF:∀{x:Bh},Z7 n [x]=ζ->(∀v∈x.enc,(v.idsAll λid=>decide (id<n))=ζ)/\(x.one.idsAll λid=>decide (id<n))=ζ
 |.bl _,_=>⟨λv b=>by simp only[Bh.enc,A7]at b;subst b;rfl,rfl⟩
 |.it _ _,_=>⟨λv b=>by simp only[Bh.enc,A7]at b;subst b;rfl,rfl⟩
 |.st _,_=>⟨λv b=>by simp only[Bh.enc,A7]at b;subst b;rfl,rfl⟩
 |.ls t l,_=>⟨λv b=>by simp only[Bh.enc,A7]at b;subst b;exact jv ((Ty.list t).enc_pure l) n,jv ((Ty.list t).enc_pure l) n⟩
 |.ar m t a,_=>by have h:=jv ((Ty.arr m t).enc_pure a) n;refine⟨λv b=>?_,h⟩;exact((Dg _ _).1 h) v b
 |.own id ver t m,h=>by simp only[Z7,Qu]at h;have:=kM h;exact⟨λv b=>by simp only[Bh.enc,A7]at b;subst b;exact this,this⟩
 |.nil,_=>⟨λv b=>by simp only[Bh.enc,A7]at b;subst b;rfl,rfl⟩
 |.raw v,h=>by simp only[Z7,Qu]at h;have:=Qs (λ_ h=>kM h) v h;exact⟨λu c=>by simp only[Bh.enc,A7]at c;subst c;exact this,this⟩
def uj{r:List Bh}(h:Z7 n (I::r)=ζ):Z7 n [I]=ζ/\Z7 n r=ζ:=by cases I<;>simp only[Z7,Qu,BN]at h⊢ <;>first|exact h|exact⟨O!,h⟩
def kQ{n:Nat}:∀{b:List Bh},Z7 n b=ζ->AV.idsAllL (λid=>decide (id<n)) (lvs b)=ζ
 |[],_=>rfl
 |x::r,h=>by obtain⟨c,d⟩:=uj h;rw[HW,Dg];intro v a;rcases Ao.1 a with a|a;exact(yF c).1 v a;exact((Dg _ _).1 (kQ d)) v a
mutual
theorem fS{n:Nat}:∀{v:TV},uk n v=ζ->(v.enc.idsAll λid=>decide (id<n))=ζ
 |.c x,h=>(yF h).2
 |.g cs,h=>kQ h
 |.aptr ..,h=>kM h
 |.bptr ..,h=>kM h
 |.vw id ver t k lo m,h=>by have b:=kM h;show((vwE id k t.sz lo m).idsAll λid=>decide (id<n))=ζ;unfold vwE;split;split;exact b;rfl;exact b
 |.vptr cs post,h=>by simp only[uk,BN]at h;simp only[TV.enc,AV.idsAll];rw[Dg];intro v a;rcases Ao.1 a with a|a;exact((Dg _ _).1 (kQ h.1)) v a;exact((Dg _ _).1 (JG (λ_ h=>kM h) post h.2)) v a
 |.tup vs,h=>by simp only[uk]at h;simp only[TV.enc,AV.idsAll];exact pz h
theorem pz{n:Nat}:∀{a:List TV},wD n a=ζ->AV.idsAllL (λid=>decide (id<n)) (TV.encL a)=ζ
 |[],_=>rfl
 |v::r,h=>by simp only[wD,BN]at h;simp only[TV.encL,AV.idsAllL,BN];exact⟨fS h.1,pz h.2⟩
end
def kO{n:Nat}:∀{env:BT},uH n env=ζ->∀p∈env,uk n p.2=ζ
 |[],_,p,a=>by cases a
 |(t,v)::r,h,p,a=>by simp only[uH,BN]at h;rcases A1.1 a with rfl|a;exact h.1;exact kO h.2 p a
def kP{n:Nat}:∀{H:Am},lA n H=ζ->∀e∈A8 H,(e.idsAll λid=>decide (id<n))=ζ
 |x::r,h,e,c=>by
  have g:lA n r=ζ:=by cases x<;>simp only[lA,BN]at h<;>first|exact h|exact h.2
  simp only[A8,Bn,A1]at c;rcases c with rfl|c;cases x with
  |dead=>rfl
  |live b o=>simp only[lA,BN]at h;exact kQ h.1
  |buf b t l m k=>simp only[Di.enc,E5.idsAll];rw[Dg];intro v d;obtain⟨u,j,d⟩:=Gf.1 d;obtain⟨y,_,rfl⟩:=Bk.1 j;have h:=jv (t.E.pure y) n;cases q:t.E.f y<;>simp_all[AV.idsAll,Dg,AV.cells]
  |mp=>rfl
  |lp ro F m env w a b s=>simp only[lA,BN]at h;simp only[Di.enc,E5.idsAll,Bq,List.all_map,Fo];exact λp i=>fS (kO h.1 p i)
  exact kP g e c
def E4.cut{N n0:Nat}{env:Env}{H:Ap}(hn:n0≤θ H)(d:∀t v,(t,v)∈env→(v.idsAll λid=>decide (id<n0))=ζ)
  (c:∀e∈H.take n0,(e.idsAll λid=>decide (id<n0))=ζ):E4 N n0 env H env (H.take n0):=
 ⟨w!,λX g a w s=>⟨g,⟨s.sim.trunc hn c,λt v m=>⟨(s.env t v m).1,(s.env t v m).2.trunc hn (d t v m)⟩,s.size⟩,λ_ _=>⟨rfl,rfl,rfl⟩,λB b=>gO b⟩⟩
theorem um{e:E5}(h:(A8 c)[N]?=δ e):∃x,c[N]?=δ x/\e=x.enc:=by grind[A8]
theorem HR.rel(A:θ D<=θ c)(hr:HR c D [])(x:Cx):Sm x x (A8 c) (A8 D++(A8 c).drop (θ D)):=by
 refine⟨by simp[A8];omega,λj w z=>?_⟩;have same:∀{y:Di},c[j]?=δ y->w=y.enc->w=.dead\/(∃g p u,(A8 c)[j]?=δ (.live g p)/\w=.live g u/\θ u=θ p/\∀(i:Nat)(f:AV),u[i]?=δ f->∃v,p[i]?=δ v/\Conv x x v f)\/((A8 c)[j]?=δ w/\∀g p,w≠.live g p):=by
  intro y o q;have d:(A8 c)[j]?=δ y.enc:=by grind[A8]
  subst q;cases y with
  |dead=>exact .inl rfl
  |live b p=>exact .inr (.inl ⟨_,_,_,d,rfl,rfl,λi f h=>⟨f,h,λ_ r=>r⟩⟩)
  |buf b t l m J=>exact .inr (.inl ⟨_,_,_,d,rfl,rfl,λi f h=>⟨f,h,λ_ r=>r⟩⟩)
  |lp=>exact .inr (.inr ⟨d,λ_ _ h=>by cases h⟩)
  |mp=>exact .inr (.inr ⟨d,λ_ _ h=>by cases h⟩)
 rcases Ar j (θ D) with h|h;rw[CO (by rw[CK];exact h)]at z;obtain⟨y,o,rfl⟩:=um z;obtain⟨e,q,B⟩:=hr j y rfl o;rcases B with rfl|⟨b,p,C,u,rfl,rfl,A⟩|⟨b,t,l,m,v,C,f,rfl,rfl⟩|⟨ro,I,F,n,env,L,a,b,s,rfl,rfl⟩|⟨b,C,k,t,K,rfl,rfl⟩;exact .inl rfl;refine .inr (.inl ⟨0,lvs p,lvs u,by simp only[A8,B6,q,Bd,Di.enc],rfl,A.1,λi f E=>?_⟩);obtain⟨v,G,H⟩:=A.2 i f E;exact⟨v,G,H x⟩;exact same q rfl;exact same q rfl;exact same q rfl;rw[Ce (by rw[CK];exact h),Iu]at z;rw[CK]at z;grind[um]
def IS.weak{N:Nat}{b:Am}{H:Am}(s:IS e b q L H Y c)(k:θ H≤θ b)(n:uH (θ H) Y=ζ)(o:lA (θ H) c=ζ):
  E4 N (θ H) (Bq e) (A8 b) (Bq Y) (A8 c):=by
 have g:θ c<=θ b:=by rw[s.len];exact k
 have x:E4 N (A8 b).length (Bq e) (A8 b) (Bq Y) (A8 c++(A8 b).drop (θ c)):=by refine Vp (by simp[A8];omega) λX h w _=>?_;have a:=(HR.rel g s.hr (cx X h (A8 b) w)).onto;refine⟨a,λt z m=>?_⟩;obtain⟨p,j,A⟩:=Bk.1 m;injection A with d f;subst d f;obtain⟨v,u,i⟩:=s.env p j;exact⟨v.enc,Bk.2 ⟨_,u,rfl⟩,λB r=>(i _ B r).later a.later⟩
 have l:(A8 c++(A8 b).drop (θ c)).take (θ H)=A8 c:=by rw[<-s.len,<-CK c,Fg];rfl
 have y:E4 N (θ H) (Bq Y) (A8 c++(A8 b).drop (θ c)) (Bq Y) (A8 c):=by have:=E4.cut (N:=N) (n0:=θ H) (env:=Bq Y) (H:=A8 c++(A8 b).drop (θ c)) (by simp[A8,s.len]) (λt v m=>by obtain⟨p,j,A⟩:=Bk.1 m;injection A with d f;subst d f;exact fS (kO n p j)) (by rw[l];exact kP o);rwa [l]at this
 exact(x.of_le (by rw[CK];exact k)).trans y
def uo:Exit->Exit->Bool
 |.normal,.normal=>ζ
 |.exit a,.exit b=>ξ a b
 |.ret,.ret=>ζ
 |_,_=>η
def sO{b:Exit}(h:uo J b=ζ):J=b:=by cases J<;>cases b<;>simp only[uo]at h<;>first|rfl|cases h|exact E! _ (Cy h)
structure Hint where
 kind:Nat
 key:Nat
 virt:List (Nat×Ty)
 virtC:List (Nat×Nat×Ty)
 kill:List Nat
 drop:List Nat
 slots:List OV
 exits:List (Exit×List OV)
def uS(n id:Nat):Nat:=match Nat.ble 100 id with|true=>id+n-150|false=>id
def Part.rel(n:Nat):Part->Part
 |.o id=>.o (uS n id)
 |p=>p
def OV.rel(n:Nat):OV->OV
 |.g tmp id=>.g tmp (uS n id)
 |.p id ps=>.p (uS n id) (ps.map (Part.rel n))
 |.u id ty=>.u (uS n id) ty
 |.x id=>.x (uS n id)
 |.y id st=>.y (uS n id) st
 |.m id kk ty=>.m (uS n id) kk ty
 |.w tmp id=>.w tmp (uS n id)
 |z=>z
def Hint.rel(n:Nat)(h:Hint):Hint:=⟨h.kind,h.key,h.virt,h.virtC.map λp=>(uS n p.1,p.2),h.kill.map (uS n),h.drop,h.slots.map (OV.rel n),h.exits.map λp=>(p.1,p.2.map (OV.rel n))⟩
def Hint.tmps(h:Hint):List Nat:=h.drop++h.virt.map (·.1)++VI h.slots++h.exits.flatMap λp=>VI p.2
def vd(n:Nat):∀l:List OV,VI (l.map (OV.rel n))=VI l
 |[]=>rfl
 |s::r=>by cases s<;>simp[VI,OV.rel,vd n r]
def S2(n:Nat)(h:Hint):(h.rel n).tmps=h.tmps:=by simp[Hint.tmps,Hint.rel,vd,List.flatMap_map]
def lS(kind key:Nat):List Hint->Option Hint
 |[]=>ε
 |h::r=>match ξ kind h.kind&&ξ key h.key with|true=>δ h|false=>lS kind key r
def xt:Code->Option Nat
 |.region id _ _=>δ id
 |.seq a b=>match xt a with|some x=>δ x|none=>xt b
 |.cond _ a b=>match xt a with|some x=>δ x|none=>xt b
 |.block _ b=>xt b
 |.loop b=>xt b
 |_=>ε
def si:Code->Bool
 |.seq a _=>si a
 |.block _ b=>si b
 |.loop _=>ζ
 |_=>η
def AH5(b:Code)(r:Nat)(hs:List Hint):Option Hint:=
 match si b with
 |true=>(match lS 5 r hs with|some h=>δ h|none=>lS 0 r hs)
 |false=>lS 0 r hs
def hintOf(hs:List Hint):Code->Option Hint
 |.loop b=>match xt b with|some r=>(match lS 8 r hs with|some h=>δ h|none=>AH5 b r hs)|none=>ε
 |.block id _=>lS 1 id hs
 |.cond _ a b=>match xt (.seq a b)with|some r=>lS 2 r hs|none=>ε
 |.region id _ _=>lS 6 id hs
 |_=>ε
def qJ(hs:List Hint)(c:Code):List Nat:=
 match hintOf hs c with
 |some h=>h.tmps
 |none=>[]
def rC(hs:List Hint):Code->Code->Option Hint
 |.region id _ _,.cond _ _ _=>lS 4 id hs
 |_,_=>ε
def tk(hs:List Hint)(a b:Code):List Nat:=
 match rC hs a b with
 |some h=>h.tmps
 |none=>[]
def Od(hs:List Hint):Code->List Nat
 |.region id ops d=>nK ops.toList++qJ hs (.region id ops d)
 |.seq a b=>(Od hs a++Od hs b)++tk hs a b
 |.cond c a b=>Od hs a++Od hs b++qJ hs (.cond c a b)
 |.block id b=>Od hs b++qJ hs (.block id b)
 |.loop b=>Od hs b++qJ hs (.loop b)
 |_=>[]
def xN:TV->Bool
 |.c (.raw .any)=>ζ
 |_=>η
def ACl(h:xN t=η):t≠Up:=by rintro rfl;cases h
def wN(H:Am)(id:Nat):Bool:=match H[id]? with|some (.buf η _ _ _ _)=>ζ|_=>η
def gj(A S:List Nat)(H:Am)(t:Nat)(v:TV):Bool:=
 match I2 t A with
 |true=>η
 |false=>match xN v with
  |true=>η
  |false=>(LC v.refs).all λid=>!(I2 id S&&wN H id)
def QT(A S:List Nat)(H:Am):BT->BT
 |[]=>[]
 |(t,v)::r=>match gj A S H t v with|true=>(t,v)::QT A S H r|false=>QT A S H r
def pS:BT->Bool
 |[]=>ζ
 |(t,_)::r=>!I2 t (r.map (·.1))&&pS r
theorem Vj(h:N∉b):I2 N b=η:=by
 cases a:I2 N b with
 |false=>rfl
 |true=>induction b<;>grind[I2,Nat.eq_of_beq_eq_true]
def ZW:∀{env:BT},pS env=ζ->(env.map (·.1)).Nodup
 |[],_=>QP
 |(t,v)::r,h=>by simp only[pS,BN,VT]at h;exact Gg.2 ⟨To h.1,ZW h.2⟩
theorem kK{A S:List Nat}{H:Am}:∀{env:BT},(env.map (·.1)).Nodup->∀t,gj A S H t (env.get t)=ζ->(QT A S H env).get t=env.get t
 |[],_,t,_=>rfl
 |(u,v)::r,nd,t,h=>by have a:=Gg.1 nd;simp only[BT.get]at h⊢;by_cases b:u=t;grind[Nat.beq_refl,QT,BT.get];rw[beq_false b]at h⊢;have c:=kK a.2 t h;grind[QT,BT.get,beq_false]
theorem Q1{A S:List Nat}{H:Am}:∀{env:BT},(env.map (·.1)).Nodup->∀p∈QT A S H env,env.get p.1=p.2/\gj A S H p.1 p.2=ζ/\p∈env
 |(u,v)::r,nd,p,h=>by
  have a:=Gg.1 nd;have tail:p∈QT A S H r->BT.get ((u,v)::r) p.1=p.2/\gj A S H p.1 p.2=ζ/\p∈(u,v)::r:=λh=>by obtain⟨b,c,d⟩:=Q1 a.2 p h;grind[BT.get,beq_false]
  grind[QT,BT.get,Nat.beq_refl]
theorem AFQ(H:Am):LpS (KH b 0 H) H:=by intro id c ro F n env d a S s h;rw[I0,h];split;grind;exact⟨_,_,rfl⟩
theorem ADT(H:Am):LpS H (KH b 0 H):=by
 intro id d ro F n env f a S s h;rw[I0]at h;cases c:H[id]? with
 |none=>grind
 |some e=>
  rw[c]at h;simp at h;split at h;grind;cases e with
  |lp=>injection h with _ g i j k l m _;grind
  |_=>cases h
def mW{id a n:Nat}{t:Ty}:∀{b:List Bh},Bh.own id a t n∈b->id∈LC b
 |x::r,h=>by rcases A1.1 h with rfl|h;exact Ip;have:=mW h;cases x<;>simp only[LC]<;>first|exact this|exact CN _ this
def yE(h:gj b E c N t=ζ)(m:t.ok c)(st:Bz (KH E 0 c) D):np D t:=by
 intro id o r n g;unfold gj at h;split at h;cases h;split at h;cases h;have A:=Fo.1 h id (mW g);have d:id<θ c:=(m _ g).1;refine st.nb id (by rw[IA];exact d) λq l p i a=>?_;rw[I0,DA]at a;cases S:c[id]? with
 |none=>rw[S]at a;cases a
 |some e=>rw[S]at a;simp only[Bd,Al]at a;split at a;rename_i k;subst a;simp only[k,wN,S]at A;cases A;cases e<;>simp only[Di.lock]at a<;>first|cases a|(injection a with j;cases j)
theorem ADQ(g:I2 N b=η)(i:xN t=η)(j:np c t):gj b E c N t=ζ:=by
 unfold gj;rw[g,i];refine Fo.2 λid e=>?_;have:∃d f n,Bh.own id d f n∈t.refs:=by
  generalize t.refs=cs at e;induction cs with
  |nil=>cases e
  |cons x r m=>
   cases x with
   |own l d f n=>grind[LC]
   |_=>obtain⟨a,A,S,h⟩:=m e;grind
 obtain⟨d,f,n,k⟩:=this;have:=j id d f n k;grind[wN]
def AHF:List Part->List Nat
 |[]=>[]
 |.o id::r=>id::AHF r
 |_::r=>AHF r
def lY(env:BT)(H:Am):List OV->List Nat
 |[]=>[]
 |.t tmp _::r=>LC (env.get tmp).refs++lY env H r
 |.p id ps::r=>(match H[id]? with|some (.live _ cs)=>(LC cs).filter λi=>!I2 i (AHF ps)|_=>[])++lY env H r
 |_::r=>lY env H r
def xZ(sl:List OV)(env:BT)(H:Am):Option (DL (dV sl)):=
 match ID (lY env H sl) env H with
 |(e,h)=>match Xu e h sl with|some ds=>zg (dV sl) ds|none=>ε
def wW:List (Exit×List OV)->Type
 |[]=>Unit
 |[p]=>DL (dV p.2)
 |p::q::r=>DL (dV p.2)⊕wW (q::r)
def zl:(xs:List (Exit×List OV))->Exit->BT->Am->Option (wW xs)
 |[],_,_,_=>ε
 |[p],x,env,H=>match uo p.1 x with|true=>xZ p.2 env H|false=>ε
 |p::q::r,x,env,H=>
  match uo p.1 x with
  |true=>(match xZ p.2 env H with|some s=>δ (.inl s)|none=>ε)
  |false=>(match zl (q::r) x env H with|some s=>δ (.inr s)|none=>ε)
def AHL{R:Type}:(xs:List (Exit×List OV))->wW xs->(Exit->List OV->List DV->Option R)->Option R
 |[],_,_=>ε
 |[p],s,k=>k p.1 p.2 (dvs (dV p.2) s)
 |p::q::r,o,k=>ν (λs=>k p.1 p.2 (dvs (dV p.2) s)) (λs=>AHL (q::r) s k) o
def wX:(xs:List (Exit×List OV))->wW xs->Exit×List OV×List DV
 |[],_=>(.normal,[],[])
 |[p],s=>(p.1,p.2,dvs (dV p.2) s)
 |p::q::r,.inl s=>(p.1,p.2,dvs (dV p.2) s)
 |p::q::r,.inr s=>wX (q::r) s
def vO{R:Type}:∀{xs:List (Exit×List OV)}{o:wW xs}{k:Exit->List OV->List DV->Option R}{r:R},AHL xs o k=δ r->k (wX xs o).1 (wX xs o).2.1 (wX xs o).2.2=δ r
 |[],_,_,_,h=>by cases h
 |[p],s,k,r,h=>h
 |p::q::t,.inl s,k,r,h=>h
 |p::q::t,.inr s,k,r,h=>vO (xs:=q::t) h
def AEZ(sl:List OV)(ds:List DV)(env:BT)(H:Am):Prop:=Xu (ID (lY env H sl) env H).1 (ID (lY env H sl) env H).2 sl=δ ds
theorem mI{s:DL (dV q)}(h:xZ q e c=δ s):AEZ q (dvs (dV q) s) e c:=by grind[xZ,AEZ,pR]
def vP:∀{xs:List (Exit×List OV)}{x:Exit}{env:BT}{H:Am}{o:wW xs},zl xs x env H=δ o→
  (wX xs o).1=x/\AEZ (wX xs o).2.1 (wX xs o).2.2 env H/\∃p∈xs,(wX xs o).2.1=p.2
 |[p],x,env,H,o,h=>by simp only[zl]at h;split at h;rename_i a;exact⟨sO a,mI h,p,k!,rfl⟩;cases h
 |p::q::r,x,env,H,o,h=>by simp only[zl]at h;split at h;rename_i a;split at h;rename_i s b;injection h with h;subst h;exact⟨sO a,mI b,p,k!,rfl⟩;cases h;split at h;rename_i s b;injection h with h;subst h;obtain⟨d,e,c,f,g⟩:=vP (xs:=q::r) b;exact⟨d,e,c,CN _ f,g⟩;cases h
structure yx(A S:List Nat)(env0:BT)(H0:Am)(e2:BT)(h2:Am):Prop where
 ok:Np e2 h2
 step:Bz (KH S 0 H0) h2
 len:h2.length=H0.length
 same:∀j,I2 j S=false->h2[j]?=(KH S 0 H0)[j]?
 get:∀p∈QT A S H0 env0,e2.get p.1=p.2
theorem AAb{A B S:List Nat}{env0:BT}{a:Am}{L:BT}{s:Am}(m:Np env0 a)(nd:(env0.map (·.1)).Nodup)(g:yx A S env0 a L s)
  {env1:BT} {d:Am} (G:Np env1 d) (st:D4 B L s env1 d) (U: ∀t,t∈B->t∈A) {o:List OV} {K:List DV} (W:AEZ o K env1 d)
  {Hx:Am} (J: ∀e∈Hx,e.ok Hx) (y:Hx.length=a.length) (F:LpS Hx (KH S 0 a)) (rx: ∀id c t n,Rf a id c t n->Rf Hx id c t n) (E: ∀(j:Nat) (i:Di),I2 j (LF o)=false->Hx[j]? =some i->i= .dead\/ ∃e,I2 j S=false/\(KH S 0 a)[j]? =some e/\e.ro=true/\AGh e i)
  {r:BT} {f:Am} (Y:Vh o K (QT A S a env0) Hx=some (r,f)) (ce:uH a.length r=true) (ch:lA a.length f=true) (N:Nat):
  E4 N a.length (Bq env1) (A8 d) (Bq r) (A8 f)/\ ∃P V,IS P V o (QT A S a env0) Hx r f:=by
 obtain⟨I,z,wf⟩:=Q6 (lY env1 d o) G;have u:a.length<=d.length:=by rw[<-g.len];exact st.step.len
 have b:=D4.trans g.ok.env st z;have H: ∀p∈QT A S a env0,p.2.ok Hx:=λp v x E=>by
  have:=m.env p (Q1 nd p v).2.2 x E;cases x with
  |own id c t n=>exact rx _ _ _ _ this
  |_=>trivial
 have q:=MP I W Y ⟨H,J⟩ (by rw[y];exact C9 u z.step.len) (λp v=>by
  obtain⟨b1,M,O⟩:=Q1 nd p v;have hk:=yE M (m.env p O) g.step;have T:I2 p.1 A=false:=by grind[gj]
  have k:xN p.2=false:=by grind[gj]
  have X:=g.get p v;have:=b.same p.1 (λh=>by rw[Dl]at h;exact To T (U _ h)) q!;rw[X]at this;exact⟨p.2,YX this (ACl k),WK.refl _⟩) (λj i Z C=>by
   have D:j<a.length:=q!
   rcases E j i Z C with rfl|⟨e,Q,s,f,R⟩;exact⟨_,As (C2 D (C9 u z.step.len)),.inl rfl⟩;exact⟨e,b.step.ro j e (by rw[g.same j Q];exact s) f,R⟩) (λid l _ _ _ _ _ _ _ _ hq=>by
  obtain⟨ad,s1,q1⟩:=(g.step.trans b.step).lp id (by rw[IA,<-y];exact l) _ _ _ _ _ _ _ _ hq;exact F id l _ _ _ _ _ _ _ _ q1)
 have w:=q.weak (N:=N) (by rw[y];exact C9 u z.step.len) q! q!;rw[y]at w;exact⟨((wf N).of_le (by rw[CK];exact u)).trans w,_,_,q⟩
open Classical in
noncomputable def tY{α:Type}(g:List α->Unit->Option (List α))(l:List α):Option (List α):=if∀m,l.Perm m->g m ()=g l ()then g l ()else ε
theorem zq{g:List R->Unit->Option (List R)}{l s:List R}(h:tY g l=δ s):∀m,l.Perm m->g m ()=δ s:=by grind[tY]
def wZ:List Oper->Option (Nat×Nat×Nat×TypeId×TypeId)
 |[⟨δ a1,.load ty1 (.tmp c0),_,_,_,ε⟩,⟨δ a2,.range ty2 (.tmp b1),_,_,_,ε⟩]=>match ξ a1 b1 with|true=>δ (c0,a1,a2,ty1,ty2)|false=>ε
 |_=>ε
def tT:List Oper->Option (Nat×Nat×Nat)
 |[⟨δ a3,.next (.tmp a2) η,_,_,_,ε⟩,⟨δ a4,.extract (.tmp b3) 0,_,_,_,ε⟩]=>match ξ a3 b3 with|true=>δ (a2,a3,a4)|false=>ε
 |_=>ε
def tU:List Oper->Option (Nat×Nat×Nat×Nat×TypeId×TypeId)
 |[⟨δ a5,.entry (.tmp a2),_,_,_,ε⟩,⟨δ a6,.extract (.tmp b5) 1,_,_,_,ε⟩,⟨δ a7,.alloc te1,_,_,_,ε⟩,⟨ε,.store te2 (.tmp b7) (.tmp b6),_,_,_,ε⟩]=>
  match ξ a5 b5&&(ξ a6 b6&&ξ a7 b7)with|true=>δ (a2,a5,a6,a7,te1,te2)|false=>ε
 |_=>ε
def tV:List Oper->Option (Nat×Nat×Nat×Nat×Nat×Nat×TypeId×TypeId×TypeId)
 |[⟨δ a8,.move (.tmp out),_,_,_,ε⟩,⟨δ a9,.load te3 (.tmp a7),_,_,_,ε⟩,⟨δ a10,.buildSlice ts1 1 ⟨[(0,.tmp b9)]⟩,_,_,_,ε⟩,
   ⟨δ a11,.call {callee:=.builtin .append,args:=⟨[.tmp b8,.tmp b10]⟩,argTypes:=⟨[ts2,ts3]⟩},_,_,_,ε⟩,⟨δ out2,.assign (.tmp b11),_,_,_,ε⟩]=>
  match ξ a8 b8&&(ξ a9 b9&&(ξ a10 b10&&(ξ a11 b11&&(ξ out out2&&ξ ts2 ts3))))with|true=>δ (out,a7,a8,a9,a10,a11,te3,ts1,ts2)|false=>ε
 |_=>ε
def wa:List Oper->Option (Nat×Nat×Nat×FuncId×FuncId)
 |[⟨δ a12,.move (.tmp out),_,_,_,ε⟩,⟨δ a13,.call {callee:=.value (.func F),args:=⟨[.tmp b12,.func G]⟩,.. },_,_,_,ε⟩]=>match ξ a12 b12 with|true=>δ (out,a12,a13,F,G)|false=>ε
 |_=>ε
def qQ(h:wZ g=δ (N,n,G,i,W)):
  ∃e c a f d b,g=[⟨δ n,.load i (.tmp N),e,c,a,ε⟩,⟨δ G,.range W (.tmp n),f,d,b,ε⟩]:=by
 unfold wZ at h;split at h;split at h<;>simp_all;cases h
def qR(h:tT g=δ (N,n,G)):
  ∃e c a f d b,g=[⟨δ n,.next (.tmp N) η,e,c,a,ε⟩,⟨δ G,.extract (.tmp n) 0,f,d,b,ε⟩]:=by
 unfold tT at h;split at h;split at h<;>simp_all;cases h
def qS{a7:Nat}(h:tU g=δ (N,n,G,a7,i,W)):
  ∃j e a k f b m p c l o d,g=[⟨δ n,.entry (.tmp N),j,e,a,ε⟩,⟨δ G,.extract (.tmp n) 1,k,f,b,ε⟩,⟨δ a7,.alloc i,m,p,c,ε⟩,⟨ε,.store W (.tmp a7) (.tmp G),l,o,d,ε⟩]:=by
 unfold tU at h;split at h;split at h<;>simp_all;cases h
def qT{a9 a10 a11:Nat}{ts2:TypeId}(h:tV g=δ (N,n,G,a9,a10,a11,i,W,ts2)):
  ∃m f a l s b o r c p j d q k e,g=[⟨δ G,.move (.tmp N),m,f,a,ε⟩,⟨δ a9,.load i (.tmp n),l,s,b,ε⟩,⟨δ a10,.buildSlice W 1 #[(0,.tmp a9)],o,r,c,ε⟩,⟨δ a11,.call {callee:=.builtin .append,args:= #[.tmp G,.tmp a10],argTypes:= #[ts2,ts2]},p,j,d,ε⟩,⟨δ N,.assign (.tmp a11),q,k,e,ε⟩]:=by
 unfold tV at h;split at h;split at h<;>simp_all;cases h
def qU{l:FuncId}(h:wa g=δ (N,n,G,F,l)):
  ∃f d b a i e c,g=[⟨δ n,.move (.tmp N),f,d,b,ε⟩,⟨δ G,.call {callee:=.value (.func F),args:= #[.tmp n,.func l],argTypes:=a},i,e,c,ε⟩]:=by
 unfold wa at h;split at h;split at h<;>simp_all;cases h
structure Xa where
 c0:Nat
 a1:Nat
 a2:Nat
 a3:Nat
 a4:Nat
 a5:Nat
 a6:Nat
 a7:Nat
 a8:Nat
 a9:Nat
 a10:Nat
 a11:Nat
 a12:Nat
 a13:Nat
 out:Nat
 ty1:TypeId
 ty2:TypeId
 te1:TypeId
 te2:TypeId
 te3:TypeId
 ts1:TypeId
 ts2:TypeId
 F:FuncId
 G:FuncId
def wV:List Nat->Bool
 |[]=>ζ
 |t::r=>!I2 t r&&wV r
def qO:∀{l:List Nat},wV l=ζ->l.Nodup
 |[],_=>QP
 |t::r,h=>by simp only[wV,BN,VT]at h;exact Gg.2 ⟨To h.1,qO h.2⟩
def nG:Code->Code->Option Xa
 |.seq (.region _ o1 η) (.block b1 (.loop (.seq (.region _ o2 η) (.seq (.cond (.tmp x4) .skip (.exit b2)) (.block _ (.seq (.region _ o3 η) (.region _ o4 η))))))),.region _ o5 η=>
  match wZ o1.toList,tT o2.toList,tU o3.toList,tV o4.toList,wa o5.toList with
  |some (c0,a1,a2,ty1,ty2),δ (x2,a3,a4),δ (y2,a5,a6,a7,te1,te2),δ (out,x7,a8,a9,a10,a11,te3,ts1,ts2),δ (out2,a12,a13,F,G)=>
   match (ξ b1 b2&&(ξ a4 x4&&(ξ a2 x2&&(ξ a2 y2&&(ξ a7 x7&&ξ out out2)))))&&wV [out,a1,a2,a3,a4,a5,a6,a7,a8,a9,a10,a11,a12,a13]with
   |true=>δ ⟨c0,a1,a2,a3,a4,a5,a6,a7,a8,a9,a10,a11,a12,a13,out,ty1,ty2,te1,te2,te3,ts1,ts2,F,G⟩
   |false=>ε
  |_,_,_,_,_=>ε
 |_,_=>ε
def Xa.tmps(p:Xa):List Nat:=[p.out,p.a1,p.a2,p.a3,p.a4,p.a5,p.a6,p.a7,p.a8,p.a9,p.a10,p.a11,p.a12,p.a13]
def ZM(A:List Nat):BT->BT
 |[]=>[]
 |(t,v)::r=>match I2 t A with|true=>ZM A r|false=>(t,v)::ZM A r
def Va{A:List Nat}:∀{env:BT}{q:Nat×TV},q∈ZM A env->q∈env/\q.1∉A
 |[],_,h=>by cases h
 |(t,v)::r,q,h=>by simp only[ZM]at h;split at h;exact⟨CN _ (Va h).1,(Va h).2⟩;rename_i a;rcases A1.1 h with rfl|h;exact⟨Ip,To a⟩;exact⟨CN _ (Va h).1,(Va h).2⟩
theorem oy{A:List Nat}{u:Nat}(a:u∉A):∀env:BT,(ZM A env).get u=env.get u
 |[]=>rfl
 |(t,v)::r=>by
  simp only[ZM,BT.get];split;rename_i b;have:t≠u:=λe=>by grind[Vj]
  rw[beq_false this];exact oy a r;simp[BT.get,oy a r]
noncomputable def AC0(P:Program)(N:Nat)(cs:List Pg)(p:Xa)(env:BT)(H:Am){R:Type}(k:BT->Am->Option R):Option R:=
 match env.get p.c0,env.get p.out with
 |.c (.raw (.ptr c 0 0)),.c .nil=>
  match H[c]? with
  |some (.live _ [.raw (.mp id)])=>
   match H[id]?,uv cs p.F,Enters P p.F with
   |some (.mp _ kk ty es),δ (.c2 _ te [] [] [.fn (.func G) [] []] g),ζ=>
    if h:(Ty.list ty).beq (Ty.list te)=ζ then
     match tI P p.ty1,P.underlying p.ty2,tI P p.te2,tI P p.te3,YZ P p.te1,eI P p.ts1,eI P p.ts2 with
     |some (η,_),δ (.map kt _),δ (_,n2),δ (tr3,n3),δ z,δ (ε,e1,s1),δ (ε,e2,s2)=>
      match (ξ G p.G&&(te.isAgg&&(ξ n2 te.sz&&(tr3&&(ξ n3 te.sz&&(ξ (θ z) te.sz&&(ξ s1 te.sz&&(ξ s2 te.sz&&(Ro P e1&&(Ro P e2&&Nat.ble te.sz 4096))))))))))&&
        ((match P.underlying kt with|some (.int k2)=>decide (k2=kk)|_=>η)&&(uH (θ H) (ZM p.tmps env)&&(lA (θ H) H&&p.tmps.all λt=>Nat.blt t N)))with
      |true=>cond (τ (((θ es:Nat):Int)≤16777216))
        ((tY g (Ty.cast h (es.map (·.2)))).bind λs=>cond (ξ (θ s) (θ es)) (k ((p.out,.c (.own (θ H) 0 te (θ s)))::ZM p.tmps env) (H++[.buf η te s (θ s) 0,.dead])) ε) ε
      |false=>ε
     |_,_,_,_,_,_,_=>ε
    else ε
   |_,_,_=>ε
  |_=>ε
 |_,_=>ε
theorem Er{q:Nat×AV}{v:AV}(h:q∈y)(a:q.1≠N):q∈y.put N v:=CN _ (BU.2 ⟨h,q!⟩)
def wk:(N,l)∈y.put N l:=Ip
def ni{v:AV}:Env.get ((N,v)::y) N=v:=C! rfl
def xv{v:AV}(h:N≠n):Env.get ((N,v)::y) n=y.get n:=D! h
def gu(vals:List R)(seen:List Nat):List R:=seen.filterMap (vals[·]?)
theorem AAK{a:List R}{x:R}(h:a[N]?=δ x):gu a (b++[N])=gu a b++[x]:=by grind[gu]
theorem yY{b:Type}:∀a:List b,(List.range (θ a)).filterMap (a[·]?)=a
 |[]=>rfl
 |x::r=>by
  rw[Cg,List.range_succ_eq_map,oV];simp;have:((λi=>(x::r)[i]?)∘Nat.succ)=(r[·]?):=q!
  rw[this,yY r]
def AAJ{a:List R}(hn:E.Nodup)(c:∀j∈E,j<θ a)(b:∀j,j<θ a->j∈E):a.Perm (gu a E):=by have:=((ln List.nodup_range hn).2 λj=>⟨λh=>b j (Hh.1 h),λh=>Hh.2 (c j h)⟩).filterMap (a[·]?);rwa [yY]at this
section
variable {P:Program}{N:Nat}{env:Env}{H:Ap}{Q:Env->Ap->Prop}{ops:Array Oper}
def WL.nil(h:Q env H):WL P N ops [] env H Q:=⟨_,_,E4.refl _ _ _,h⟩
def WL.cons(b:o.guard=ε)(h:JI P N o env H λv a=>WL P N ops g (env.putO o.dst v) a Q):WL P N ops (o::g) env H Q:=by refine⟨_,_,E4.refl _ _ _,?_⟩;rw[b];exact h
end
variable {A:Hint}{O:Xa}
section
variable {P:Program}{N:Nat}
theorem wC(t:Ty)(l:List t.D):∀v∈t.E.cl l,Pure v:=by intro v a;have⟨u,b,a⟩:=Gf.1 a;obtain⟨y,_,rfl⟩:=Bk.1 b;exact Ud (t.enc_pure y) v a
theorem ADv(h:Pure l)(p:Nat->Bool):l.idsAll p=ζ:=Qs (λ_ h=>by cases h) l h
theorem ADC{p q:Nat->Bool}(h:∀id,p id=ζ->q id=ζ)(e:E5)(k:e.idsAll p=ζ):e.idsAll q=ζ:=by cases e<;>grind[JG,E5.idsAll,List.all_eq_true,Qs]
theorem AGw(t:Ty)(g:Nat)(l:List t.D)(p:Nat->Bool):(E5.live g (t.E.cl l)).idsAll p=ζ:=by grind[E5.idsAll,Dg,ADv,wC]
theorem flt{a:Type}(p q:a->Bool)(b:∀x,q x=ζ->p x=ζ)(e:a)(d:p e=ζ)(f:q e=η):∀l:List a,e∈l->(l.filter q).length<(l.filter p).length
 |x::l,he=>by
  have c:∀l:List a,(l.filter q).length<=(l.filter p).length:=by intro l;induction l<;>grind
  rcases A1.1 he with rfl|h;grind;have:=flt p q b e d f l h;grind
theorem AGN(h:E.Nodup){i j a b:Nat}(d:E[i]?=δ a)(e:E[j]?=δ b)(c:i≠j):a≠b:=by grind[List.getElem?_inj]
def ABb{te:Ty}{kk:IntKind}{es:List (Int×te.D)}{Hb:Ap}{base:Env}{id a2 a3 a4 a5 a6 a7 a8 a9 a10 a11 out:Nat}{b1 b2:Nat}{i2 i3 i4:Nat}{o2 o3 o4:Array Oper}{te1 te2 te3 ts1 ts2:TypeId}{z:List AV}{e1 e2:TypeId}{bb:Bool}
  (h2:tT o2.toList=δ (a2,a3,a4)) (h3:tU o3.toList=δ (a2,a5,a6,a7,te1,te2)) (h4:tV o4.toList=δ (out,a7,a8,a9,a10,a11,te3,ts1,ts2))
  (bt:[out,a2,a3,a4,a5,a6,a7,a8,a9,a10,a11].Nodup) (hN:∀t∈[out,a2,a3,a4,a5,a6,a7,a8,a9,a10,a11],t<N) (hb:∀q∈base,q.1∉ [out,a2,a3,a4,a5,a6,a7,a8,a9,a10,a11])
  (ap:∀q∈base,(q.2.idsAll λj=>decide (j<θ Hb))=ζ) (al:∀e∈Hb,(e.idsAll λj=>decide (j<θ Hb))=ζ)
  (he:Hb[id]?=δ (.mp kk (es.map λp=>(p.1,te.enc p.2)))) (ao:te.isAgg=ζ) (hz:YZ P te1=δ z) (Z:θ z=te.sz) (b0:tI P te2=δ (bb,te.sz)) (b3:tI P te3=δ (ζ,te.sz))
  (bz:eI P ts1=δ (ε,e1,te.sz)) (bG:eI P ts2=δ (ε,e2,te.sz)) (bl:Ro P e1=ζ) (bm:Ro P e2=ζ) (bN:te.sz<=4096) (b4:θ es<=16777216):
  ∀(n:Nat)(seen:List Nat),seen.Nodup->(∀j∈seen,j<θ es)->((List.range (θ es)).filter λj=>! τ (j∈seen)).length<=n->(gu (es.map (·.2)) seen).length+((List.range (θ es)).filter λj=>! τ (j∈seen)).length<=θ es->
   Hd P N (.seq (.region i2 o2 η) (.seq (.cond (.tmp a4) .skip (.exit b1)) (.block b2 (.seq (.region i3 o3 η) (.region i4 o4 η)))))
    ((out,.sl (θ Hb) (gu (es.map (·.2)) seen).length te.sz 0 (gu (es.map (·.2)) seen).length)::(a2,.itp (θ Hb+1) id)::base)
    (Hb++[.live (gu (es.map (·.2)) seen).length (te.E.cl (gu (es.map (·.2)) seen)),.it (θ es) seen])
    λe E h=>e=.exit b1/\∃s,(es.map (·.2)).Perm s/\(∀q∈(out,AV.sl (θ Hb) (θ s) te.sz 0 (θ s))::base,q∈E)/\θ h=θ Hb+2/\(∀j,j<θ Hb->h[j]?=Hb[j]?)/\h[θ Hb]?=δ (.live (θ s) (te.E.cl s)):=by
 obtain⟨t1,p1,x1,t2,p2,x2,l2⟩:=qR h2;obtain⟨t3,p3,x3,t4,p4,x4,t5,p5,x5,t6,p6,x6,l3⟩:=qS h3;obtain⟨t7,p7,x7,t8,p8,x8,t9,p9,x9,b7,b5,b9,b8,b6,b',l4⟩:=qT h4;have D:=λ(i j a b:Nat)=>AGN (i:=i) (j:=j) (a:=a) (b:=b) bt;simp only[A1,lm,or_false,forall_eq_or_imp,forall_eq]at hN;have d2:On N o2.toList=ζ:=by rw[l2];simp[On,hN]
 have d3:On N o3.toList=ζ:=by rw[l3];simp[On,hN]
 have d4:On N o4.toList=ζ:=by rw[l4];simp[On,hN]
 have ar:id<θ Hb:=by rcases Ar id (θ Hb) with h|h;exact h;rw[Cf h]at he;cases he
 have s0:∀(A B C:E5),(Hb++[A,B]).set (θ Hb+1) C=Hb++[A,C]:=λA B C=>by rw[Ss _ _ o!,show θ Hb+1-θ Hb=1 by omega];rfl
 have s1:∀(A B C D:E5),(Hb++[A,B,C]).set (θ Hb+2) D=Hb++[A,B,D]:=λA B C D=>by rw[Ss _ _ o!,show θ Hb+2-θ Hb=2 by omega];rfl
 have s2:∀(A B C D:E5),(Hb++[A,B,C]).set (θ Hb) D=Hb++[D,B,C]:=λA B C D=>by rw[Ss _ _ (Ai _),Gi];rfl
 have g0:∀(A:E5)(r:List E5),(Hb++A::r)[θ Hb]?=δ A:=λA r=>by rw[Ce (Ai _),Gi];rfl
 have g1:∀(A B:E5)(r:List E5),(Hb++A::B::r)[θ Hb+1]?=δ B:=λA B r=>by rw[Ce o!,show θ Hb+1-θ Hb=1 by omega];rfl
 have g2:∀(A B C:E5)(r:List E5),(Hb++A::B::C::r)[θ Hb+2]?=δ C:=λA B C r=>by rw[Ce o!,show θ Hb+2-θ Hb=2 by omega];rfl
 have gm:∀(r:List E5),(Hb++r)[id]?=δ (.mp kk (es.map λp=>(p.1,te.enc p.2))):=λr=>by rw[CO ar];exact he
 have Y:(es.map (·.2)).length=θ es:=B7 _;have J:0<te.sz:=te.sz_pos;intro n;induction n using Nat.strongRecOn with
 |ind n ih=>
  intro seen hn hl hr hm;obtain⟨L,hL⟩:∃L,L=gu (es.map (·.2)) seen:=⟨_,rfl⟩
  rw[<-hL]at hm⊢;refine Hd.unroll (JU.seq (FU d2 ?_));rw[l2];apply WL.cons rfl;have d:(es.map λp=>(p.1,te.enc p.2)).length=θ es:=B7 _;have ad:out≠a2:=D 0 1 _ _ rfl rfl g!;refine JI.next (x:=.tmp a2) (id:=θ Hb+1) (m:=id) (k:=kk) (es:=es.map λp=>(p.1,te.enc p.2)) (seen:=seen) rfl ?_ ?_ (gm _) ?_ ?_
  show Env.get _ a2=_;rw[xv ad,ni];rw[d];exact g1 _ _ _;intro G;refine WL.cons rfl (Df (v:=.bool η) ?_ (WL.nil ?_));show CT _ _ _ (.extract (.tmp a3) 0)=_;simp only[CT,BI,Env.putO,Fx,if_true];rfl;refine JU.seq (JU.cond (b:=η) ?_ (λh=>by cases h) (λ_=>JU.exit ?_));simp only[BI,Env.putO,Fx,if_true];refine⟨rfl,L,?_,λq o=>?_,k!,λj hj=>CO hj,g0 _ _⟩;rw[hL];exact AAJ hn (by rw[Y];exact hl) (by rw[Y];rw[d]at G;exact G);have af:out≠a3:=D 0 2 _ _ rfl rfl g!;have ag:out≠a4:=D 0 3 _ _ rfl rfl g!;rcases A1.1 o with rfl|o;exact Er (Er Ip af) ag;have:=hb q o;simp only[A1,not_or]at this;exact Er (Er (CN _ (CN _ o)) this.2.2.1) this.2.2.2.1;intro j p hj S;rw[B6]at hj;obtain⟨q,o,e⟩:=VS.1 hj;subst e;rw[d,s0];refine WL.cons rfl (Df (v:=.bool ζ) ?_ (WL.nil ?_));show CT _ _ _ (.extract (.tmp a3) 0)=_;simp only[CT,BI,Env.putO,Fx,if_true];rfl;have k2:∀(m:Nat)(v w:AV),Env.get (Env.put (Env.put ((out,AV.sl (θ Hb) m te.sz 0 m)::(a2,AV.itp (θ Hb+1) id)::base) a3 v) a4 w) a2=.itp (θ Hb+1) id:=λm v w=>by rw[Fx,D! (D 1 3 _ _ rfl rfl g!),Fx,D! (D 1 2 _ _ rfl rfl g!),xv ad,ni]
  have ko:∀(m:Nat)(v w:AV),Env.get (Env.put (Env.put ((out,AV.sl (θ Hb) m te.sz 0 m)::(a2,AV.itp (θ Hb+1) id)::base) a3 v) a4 w) out=.sl (θ Hb) m te.sz 0 m:=λm v w=>by rw[Fx,D! (D 0 3 _ _ rfl rfl g!),Fx,D! (D 0 2 _ _ rfl rfl g!),ni]
  have kb:∀(m:Nat)(v w:AV),∀q∈base,q∈Env.put (Env.put ((out,AV.sl (θ Hb) m te.sz 0 m)::(a2,AV.itp (θ Hb+1) id)::base) a3 v) a4 w:=λm v w q o=>by have:=hb q o;simp only[A1,not_or]at this;exact Er (Er (CN _ (CN _ o)) this.2.2.1) this.2.2.2.1
  have ki:∀(m:Nat)(v w:AV),(a2,AV.itp (θ Hb+1) id)∈Env.put (Env.put ((out,AV.sl (θ Hb) m te.sz 0 m)::(a2,AV.itp (θ Hb+1) id)::base) a3 v) a4 w:=λm v w=>Er (Er (CN _ Ip) (D 1 2 _ _ rfl rfl g!)) (D 1 3 _ _ rfl rfl g!);refine JU.seq (JU.cond (b:=ζ) ?_ (λ_=>JU.skip ?_) (λh=>by cases h));simp only[BI,Env.putO,Fx,if_true];dsimp only[dY];refine JU.block (JU.seq (FU d3 ?_));rw[l3];generalize K:Env.putO (Env.putO ((out,AV.sl (θ Hb) (θ L) te.sz 0 (θ L))::(a2,AV.itp (θ Hb+1) id)::base) (δ a3) (.tup [.bool ζ,.int kk q.1,te.enc q.2])) (δ a4) (.bool ζ)=E;have k2:Env.get E a2=.itp (θ Hb+1) id:=by rw[<-K];exact k2 _ _ _
  have ko:Env.get E out=.sl (θ Hb) (θ L) te.sz 0 (θ L):=by rw[<-K];exact ko _ _ _
  have kb:∀q∈base,q∈E:=by rw[<-K];exact kb _ _ _
  have ki:(a2,AV.itp (θ Hb+1) id)∈E:=by rw[<-K];exact ki _ _ _
  clear K;refine WL.cons rfl (JI.entry (x:=.tmp a2) (id:=θ Hb+1) (m:=id) (j:=j) (k:=kk) (es:=es.map λp=>(p.1,te.enc p.2)) (seen:=seen) (p:=(q.1,te.enc q.2)) rfl k2 ?_ (gm _) (by rw[B6,o];rfl) ?_);rw[d];exact g1 _ _ _;have f:te.enc q.2=.agg (te.enc q.2).cells:=Ty.agg_enc ao q.2;have l:(te.enc q.2).cells.length=te.sz:=te.enc_len q.2;have U:(te.enc q.2).solid=ζ:=by rw[f];rfl
  refine WL.cons rfl (Df (v:=te.enc q.2) ?_ (WL.cons rfl (JI.alloc rfl hz ?_)));show CT _ _ _ (.extract (.tmp a5) 1)=_;simp only[CT,BI,Env.putO,Fx,if_true];rfl;have ax:(Hb++[E5.live (θ L) (te.E.cl L),E5.it (θ es) (seen++[j])]).length=θ Hb+2:=k!
  rw[ax,A5];show WL P N o3 _ _ (Hb++[E5.live (θ L) (te.E.cl L),E5.it (θ es) (seen++[j]),E5.live 0 z]) _;refine WL.cons rfl (JI.store (id:=θ Hb+2) (g:=0) (off:=0) (v:=te.enc q.2) (cs:=z) (b:=bb) rfl ?_ ?_ U (g2 _ _ _ _) (by rw[l];exact b0) (by rw[l,Z];omega) (WL.nil ?_));simp only[BI,Env.putO,Fx,if_true];simp only[BI,Env.putO,Fx];rw[D! (D 5 6 _ _ rfl rfl g!),C! trivial];have T:WD z 0 (te.enc q.2).cells=(te.enc q.2).cells:=by unfold WD;rw[List.take_zero,CY,l,<-Z,DA,List.drop_length,Dl]
  rw[T,s1];simp only[Env.putO];generalize F:Env.put (Env.put (Env.put E a5 (.tup [.int kk q.1,te.enc q.2])) a6 (te.enc q.2)) a7 (.ptr (θ Hb+2) 0 0)=E1;have j7:Env.get E1 a7=.ptr (θ Hb+2) 0 0:=by rw[<-F,Fx,C! rfl]
  have jo:Env.get E1 out=.sl (θ Hb) (θ L) te.sz 0 (θ L):=by rw[<-F,Fx,D! (D 0 6 _ _ rfl rfl g!),Fx,D! (D 0 5 _ _ rfl rfl g!),Fx,D! (D 0 4 _ _ rfl rfl g!),ko]
  have jb:∀q∈base,q∈E1:=λu I=>by have:=hb u I;simp only[A1,not_or]at this;rw[<-F];exact Er (Er (Er (kb u I) this.2.2.2.2.1) this.2.2.2.2.2.1) this.2.2.2.2.2.2.1
  have ji:(a2,AV.itp (θ Hb+1) id)∈E1:=by rw[<-F];exact Er (Er (Er ki (D 1 4 _ _ rfl rfl g!)) (D 1 5 _ _ rfl rfl g!)) (D 1 6 _ _ rfl rfl g!)
  clear F;apply FU d4;rw[l4];refine WL.cons rfl (Df (v:=.sl (θ Hb) (θ L) te.sz 0 (θ L)) (E! δ jo) (WL.cons rfl (Df (v:=te.enc q.2) ?_ (WL.cons rfl (U3 (sz:=te.sz) (vs:=[te.enc q.2]) rfl ?_ (WL.cons rfl ?_))))));show gp P te3 _ (BI _ (.tmp a7))=_;simp only[BI,Env.putO,Fx];rw[D! (D 6 7 _ _ rfl rfl g!),j7];simp only[gp,b3,Pw,g2];rw[C! ⟨O!,by rw[l];omega⟩,VV,<-l,Hi];exact E! δ f.symm;simp only[Sc,bz];rw[C!];simp only[BI,Env.putO,Fx,if_true,Bn,Hg];refine⟨J,bl,rfl,?_,g!,bN⟩;simp only[BI,Env.putO,Fx,if_true,Bn,Hg,kF,oR,U,l,decide_true,XP];have R:j<θ es:=by rcases Ar j (θ es) with h|h;exact h;rw[Cf h]at o;cases o
  have a':((List.range (θ es)).filter λi=>! τ (i∈seen++[j])).length<((List.range (θ es)).filter λi=>! τ (i∈seen)).length:=flt (λi=>! τ (i∈seen)) (λi=>! τ (i∈seen++[j])) (λx f=>by simp at f⊢;exact f.1) j (by simpa using S) k! _ (Hh.2 R);have O:gu (es.map (·.2)) (seen++[j])=L++[q.2]:=by rw[hL];exact AAK (by rw[B6,o];rfl)
  refine Rj (sx:=.tmp a8) (xx:=.tmp a10) (t:=ts2) (e:=e2) (id:=θ Hb) (g:=θ L) (g':=θ L+1) (n:=θ L) (sz:=te.sz) (m:=1) (cs:=te.E.cl L) (news:=(te.enc q.2).cells) rfl bG J bm ?_ (g0 _ _) (te.E.clen L) ?_ o! (.inl o!) ?_;show Env.get _ a8=_;simp only[Env.putO,Fx];rw[D! (D 7 9 _ _ rfl rfl g!),D! (D 7 8 _ _ rfl rfl g!),C! trivial];simp only[BI,Env.putO,Fx,if_true,Jx,Cg,CU,It,oW,Dl];rw[s2];refine WL.cons rfl (Df (v:=.sl (θ Hb) (θ L+1) te.sz 0 (θ L+1)) ?_ (WL.nil ?_));show δ (Env.get _ a11)=_;simp only[Env.putO,Fx,if_true];have Q:te.E.cl L++(te.enc q.2).cells=te.E.cl (L++[q.2]):=by simp[Rr.cl];rfl
  rw[Q];have a1:(L++[q.2]).length=θ L+1:=k!
  show∃env2 H2,E4 N _ _ _ env2 H2/\_;refine⟨_,_,?_,ih _ (C2 a' hr) (seen++[j]) ?_ ?_ (Ai _) (by rw[O];omega)⟩;rw[O,a1];generalize M:Env.putO _ (δ out) _=E3;have V:∀u∈(out,AV.sl (θ Hb) (θ L+1) te.sz 0 (θ L+1))::(a2,AV.itp (θ Hb+1) id)::base,u∈E3:=by intro u I;rw[<-M];simp only[Env.putO];rcases A1.1 I with rfl|I;exact wk;rcases A1.1 I with rfl|I;exact Er (Er (Er (Er (Er ji (D 1 7 _ _ rfl rfl g!)) (D 1 8 _ _ rfl rfl g!)) (D 1 9 _ _ rfl rfl g!)) (D 1 10 _ _ rfl rfl g!)) (D 1 0 _ _ rfl rfl g!);have:=hb u I;simp only[A1,not_or]at this;exact Er (Er (Er (Er (Er (jb u I) this.2.2.2.2.2.2.2.1) this.2.2.2.2.2.2.2.2.1) this.2.2.2.2.2.2.2.2.2.1) this.2.2.2.2.2.2.2.2.2.2.1) this.1
  clear M;have w1:=E4.subset (N:=N) (H:=Hb++[E5.live (θ L+1) (te.E.cl (L++[q.2])),E5.it (θ es) (seen++[j]),E5.live 0 (te.enc q.2).cells]) V;have W:(Hb++[E5.live (θ L+1) (te.E.cl (L++[q.2])),E5.it (θ es) (seen++[j]),E5.live 0 (te.enc q.2).cells]).take (θ Hb+2)=Hb++[E5.live (θ L+1) (te.E.cl (L++[q.2])),E5.it (θ es) (seen++[j])]:=by rw[dn,BK o!,show θ Hb+2-θ Hb=2 by omega];rfl
  have w2:=E4.cut (N:=N) (n0:=θ Hb+2) (env:=(out,AV.sl (θ Hb) (θ L+1) te.sz 0 (θ L+1))::(a2,AV.itp (θ Hb+1) id)::base) (H:=Hb++[E5.live (θ L+1) (te.E.cl (L++[q.2])),E5.it (θ es) (seen++[j]),E5.live 0 (te.enc q.2).cells]) k! (λt v X=>by
   rcases A1.1 X with e|X;injection e with _ e;subst e;exact G! o!;rcases A1.1 X with e|X;injection e with _ e;subst e;simp only[AV.idsAll,BN,K!];omega;exact Qs (λi hi=>G! (by have:=M! hi;omega)) v (ap _ X)) (by
   rw[W];intro e c;rcases Ao.1 c with c|c;exact ADC (λi hi=>G! (by have:=M! hi;omega)) e (al e c);rcases A1.1 c with rfl|c;exact AGw te _ _ _;simp only[A7]at c;subst c;rfl)
  rw[W]at w2;have a0:(Hb++[E5.live (θ L) (te.E.cl L),E5.it (θ es) seen]).length=θ Hb+2:=k!
  rw[a0];exact(w1.of_le k!).trans w2;refine QO.2 ⟨hn,k!,λx f y hy=>?_⟩;simp only[A7]at hy;subst hy;rintro rfl;exact S f;intro x f;rcases Ao.1 f with f|f;exact hl x f;simp only[A7]at f;subst f;exact R
def nH(h:nG d S=δ O):∃x k i y l r z n A o B q,
  d=.seq (.region x k η) (.block i (.loop (.seq (.region y l η) (.seq (.cond (.tmp O.a4) .skip (.exit i)) (.block r (.seq (.region z n η) (.region A o η)))))))/\S=.region B q η/\
  wZ k.toList=δ (O.c0,O.a1,O.a2,O.ty1,O.ty2)/\tT l.toList=δ (O.a2,O.a3,O.a4)/\tU n.toList=δ (O.a2,O.a5,O.a6,O.a7,O.te1,O.te2)/\
  tV o.toList=δ (O.out,O.a7,O.a8,O.a9,O.a10,O.a11,O.te3,O.ts1,O.ts2)/\wa q.toList=δ (O.out,O.a12,O.a13,O.F,O.G)/\O.tmps.Nodup:=by
 unfold nG at h;split at h;split at h;rename_i s t u v w;split at h;rename_i j;simp only[BN]at j;have⟨⟨b,c,a,e,f,g⟩,hn⟩:=j;have b:=Cy b;have c:=Cy c;have a:=Cy a;have e:=Cy e;have f:=Cy f;have g:=Cy g;subst b c a e f g;cases h;exact⟨_,_,_,_,_,_,_,_,_,_,_,_,rfl,rfl,s,t,u,v,w,qO hn⟩;cases h;cases h;cases h
def AC1{cs:List Pg}(ci:∀c∈cs,c.Ok P){a m:Code}{p:Xa}(hp:nG a m=δ p){env:BT}{H:Am}{R:Type}{k:BT→Am→Option R}{r:R}(ok:Np env H)(o:AC0 P N cs p env H k=δ r):
  ∃A H',JU P N a (Bq env) (A8 H) (dY (λE h=>JU P N m E h (UD .normal (Bq A) (A8 H'))) (λ_ _ _=>False))/\k A H'=δ r/\Np A H'/\D4 p.tmps env H A H':=by
 obtain⟨i1,o1,T,i2,o2,J,i3,o3,i4,o4,i5,o5,rfl,rfl,p1,p2,p3,p4,p5,bt⟩:=nH hp;unfold AC0 at o;split at o;rename_i c cf b0;split at o;rename_i ro id hc;split at o;rename_i cW kk n I F te G g ax hF hE;split at o;rename_i cv;split at o;rename_i y1 kt et b7 n2 cX n3 z e1 s1 e2 s2 t1 t2 t3 t4 t5 t6 t7;split at o;rename_i hb;have cA:n=te:=by have:=Ty.beq_eq _ _ cv;injection this
 subst cA;simp only[BN]at hb;obtain⟨⟨bG,b6,V,cb,W,bz,Y,Z,b',ca,ad⟩,U,b8,b9,bN⟩:=hb;have bG:=Cy bG;have V:=Cy V;have W:=Cy W;have bz:=Cy bz;have Y:=Cy Y;have Z:=Cy Z;have ad:=Oa ad;subst V W Y Z cb;have cS:P.underlying kt=δ (.int kk):=by split at U;rename_i k2 e;rw[e,M! U];cases U
 cases ag:τ (((θ I:Nat):Int)<=16777216)with
 |false=>rw[ag]at o;cases o
 |true=>
  have a':θ I<=16777216:=by have:=M! ag;omega
  rw[ag]at o;obtain⟨s,hs,o⟩:=DB.1 (show σ _ _=δ r from o);have hs:=zq hs;cases L:ξ (θ s) (θ I) with
  |false=>rw[L]at o;cases o
  |true=>
   rw[L]at o;have o:k ((p.out,.c (.own (θ H) 0 n (θ s)))::ZM p.tmps env) (H++[.buf η n s (θ s) 0,.dead])=δ r:=o;have L:=Cy L;obtain⟨c1,q1,x1,c2,q2,x2,l1⟩:=qQ p1;obtain⟨c3,q3,x3,cB,c4,q4,x4,l5⟩:=qU p5;have D:=λ(i j a b:Nat)=>AGN (i:=i) (j:=j) (a:=a) (b:=b) bt;have hN:∀t∈p.tmps,t<N:=λt ht=>Oa (Fo.1 bN t ht);have d1:On N o1.toList=ζ:=by rw[l1];simp[On,kF,oR,Qu,BN,K!];exact⟨hN _ (by simp[Xa.tmps]),hN _ (by simp[Xa.tmps])⟩
   have d5:On N o5.toList=ζ:=by rw[l5];simp[On,kF,oR,Qu,BN,K!];exact⟨hN _ (by simp[Xa.tmps]),hN _ (by simp[Xa.tmps])⟩
   have M:(Bq env).get p.out=.nils:=by rw[UA,b0];rfl
   have af:(Bq env).get p.c0=.ptr c 0 0:=by rw[UA,cf];rfl
   have ch:p.c0≠p.out:=λe=>by rw[e,M]at af;cases af
   have cg:c<θ H:=G0 hc;have a0:id<θ H:=G0 ax;have d:(A8 H).length=θ H:=CK H;have cc:(A8 H)[c]?=δ (.live 0 [.mp id]):=by rw[Dy,hc];rfl
   have O:(A8 H)[id]?=δ (.mp kk (I.map λp=>(p.1,n.enc p.2))):=by rw[Dy,ax];rfl
   have x:∀q∈Bq (ZM p.tmps env),q∈Bq env/\q.1∉p.tmps:=λq y=>by obtain⟨u,hu,rfl⟩:=Bk.1 y;exact⟨Bk.2 ⟨u,(Va hu).1,rfl⟩,(Va hu).2⟩
   have ce:∀q∈Bq (ZM p.tmps env),(q.2.idsAll λj=>decide (j<(A8 H).length))=ζ:=λq y=>by obtain⟨u,hu,rfl⟩:=Bk.1 y;rw[d];exact fS (kO b8 u hu)
   have cd:∀e∈A8 H,(e.idsAll λj=>decide (j<(A8 H).length))=ζ:=by rw[d];exact kP b9
   have step:Bz H (H++[.buf η n s (θ s) 0,.dead]):=by have:=(Bz.push H (.buf η n s (θ s) 0)).trans (Bz.push _ .dead);rwa [A5]at this
   have b3:(Bh.own (θ H) 0 n (θ s)).ok (H++[.buf η n s (θ s) 0,.dead]):=by apply Vm (b:=η) (l:=s);rw[Ce (Ai _),Gi];rfl
   refine⟨(p.out,.c (.own (θ H) 0 n (θ s)))::ZM p.tmps env,H++[.buf η n s (θ s) 0,.dead],?_,o,⟨λq y=>?_,?_⟩,step,λu hu _=>?_⟩;refine JU.weak (E4.virt (t:=p.out) (sz:=n.sz) M) (JU.seq (FU d1 ?_));rw[l1];have ct:CT P ((Bq env).put p.out (.sl (A8 H).length 0 n.sz 0 0)) (A8 H++[.live 0 []]) (.load p.ty1 (.tmp p.c0))=δ (.mp id):=by simp[CT,BI,Fx];rw[D! ch,af];simp[gp,t1,Pw];rw[CO (by rw[d];exact cg),cc];rfl
   have a1:(A8 H++[E5.live 0 []])[id]?=δ (.mp kk (I.map λp=>(p.1,n.enc p.2))):=by rw[CO (by rw[d];exact a0),O]
   refine WL.cons rfl (Df ct (WL.cons rfl (JI.range (id:=id) (k:=kk) (es:=I.map λp=>(p.1,n.enc p.2)) rfl ?_ t2 a1 (WL.nil ?_))));simp[BI,Env.putO,Fx,if_true];rw[B7,Af,A5];dsimp[dY,Env.putO];refine JU.block (JU.of_loopW ?_);have ap:[p.out,p.a2,p.a3,p.a4,p.a5,p.a6,p.a7,p.a8,p.a9,p.a10,p.a11].Sublist p.tmps:=.cons₂ _ (.cons _ (.cons₂ _ (.cons₂ _ (.cons₂ _ (.cons₂ _ (.cons₂ _ (.cons₂ _ (.cons₂ _ (.cons₂ _ (.cons₂ _ (.cons₂ _ (.cons _ (.cons _ .slnil)))))))))))));have b5:=ABb (P:=P) (N:=N) (te:=n) (kk:=kk) (es:=I) (Hb:=A8 H) (base:=Bq (ZM p.tmps env)) (id:=id) (out:=p.out) (a2:=p.a2) (a3:=p.a3) (a4:=p.a4) (a5:=p.a5) (a6:=p.a6) (a7:=p.a7) (a8:=p.a8) (a9:=p.a9) (a10:=p.a10) (a11:=p.a11)
    (b1:=T) (b2:=J) (i2:=i2) (i3:=i3) (i4:=i4) (bb:=b7) p2 p3 p4 ?_ ?_ ?_ ce cd O b6 t5 bz t3 t4 t6 t7 b' ca ad a' (θ I) [] QP (λj B=>by cases B) (by simpa using List.length_filter_le _ (List.range (θ I))) (by have:=FT (λj=>! τ (j∈([]:List Nat))) (List.range (θ I));simpa[gu]using this)
   refine Hd.mono (Hd.weak ?_ b5) ?_;refine E4.subset (N:=N) (H:=A8 H++[E5.live 0 [],E5.it (θ I) []]) λq y=>?_;rcases A1.1 y with rfl|y;exact Er (Er wk (D 0 1 _ _ rfl rfl g!)) (D 0 2 _ _ rfl rfl g!);rcases A1.1 y with rfl|y;exact wk;obtain⟨T,J⟩:=x q y;simp[Xa.tmps,A1,not_or]at J;exact Er (Er (Er T J.1) J.2.1) J.2.2.1;rintro e E h ⟨rfl,C,K,b4,Q,ao,al⟩;show oe T _ (.exit T) E h;simp[oe,if_true,dY];refine JU.weak (E4.subset b4) (JU.after (FU d5 ?_));rw[l5];obtain⟨bm,hf⟩:=sS hF;have ar:θ s=θ C:=by rw[L,<-K.length_eq,B7]
   have hA:=ci _ bm C () s (hs C K) ar h (A8 H).length al;simp[Pg.f]at hf;rw[hf]at hA;refine WL.cons rfl (Df (v:=.sl (A8 H).length (θ C) n.sz 0 (θ C)) (E! δ ni) (WL.cons rfl (JI.mono (jt (F:=p.F) (vs:=[.sl (A8 H).length (θ C) n.sz 0 (θ C),.fn (.func G) [] []]) ?_ hE hA) ?_)));show δ (Sum.inl (p.F,[]++[Env.get _ p.a12,AV.fn (.func p.G) [] []]++[]))=_;simp only[Env.putO,Fx,if_true,bG];rfl;rintro _ _ ⟨rfl,rfl⟩;refine WL.nil ⟨_,_,?_,rfl,rfl,rfl⟩;have cn:(h.set (A8 H).length (.live (θ C) (n.E.cl s))).length=θ h:=k!
   rw[<-cn];refine Vp (by simp[A8];rw[Q,d]) λX g' w _=>?_;have hr:Sm (cx X g' (h.set (A8 H).length (.live (θ C) (n.E.cl s))) w) (cx X g' (h.set (A8 H).length (.live (θ C) (n.E.cl s))) w) (h.set (A8 H).length (.live (θ C) (n.E.cl s))) (A8 (H++[.buf η n s (θ s) 0,.dead])):=by
    refine⟨by simp[A8];rw[Q,d],λj e' B=>?_⟩;have same:(h.set (A8 H).length (.live (θ C) (n.E.cl s)))[j]?=δ e'->e'=.dead\/_:=λhh=>(Sm.refl (cx X g' (h.set (A8 H).length (.live (θ C) (n.E.cl s))) w) (h.set (A8 H).length (.live (θ C) (n.E.cl s)))).2 j e' hh;have cm:A8 (H++[.buf η n s (θ s) 0,.dead])=A8 H++[E5.live (θ s) (n.E.cl s),E5.dead]:=by simp[A8,Di.enc]
    rw[cm]at B;rcases Ob j (A8 H).length with bl|rfl|cG;rw[CO bl]at B;exact same (by rw[DD o!,ao j bl];exact B);rw[Ce (Ai _),Gi]at B;exact same (by rw[GJ o!,<-ar];exact B);rw[Ce o!]at B;rcases Ob (j-(A8 H).length) 1 with q|q|q;omega;rw[q]at B;injection B with B;exact .inl B.symm;rw[Cf w!]at B;cases B
   refine⟨hr.onto,λt v' S=>⟨v',?_,λc r=>r.later hr.later⟩⟩;simp[Env.putO];have S:(t,v')∈(p.out,AV.sl (A8 H).length (θ s) n.sz 0 (θ s))::Bq (ZM p.tmps env):=by rw[d];exact S
   rcases A1.1 S with e|S;cases e;rw[ar];exact Er (Er Ip (D 0 12 _ _ rfl rfl g!)) (D 0 13 _ _ rfl rfl g!);obtain⟨T,J⟩:=x _ S;simp only[Xa.tmps,A1,not_or]at J;exact Er (Er (CN _ S) J.2.2.2.2.2.2.2.2.2.2.2.2.1) J.2.2.2.2.2.2.2.2.2.2.2.2.2.1;exact bt.sublist ap;exact λt ht=>hN t (ap.subset ht);exact λq y S=>(x q y).2 (ap.subset S);rcases A1.1 y with rfl|y;exact JW b3;exact step.tv (ok.env q (Va y).1);intro e he;rcases Ao.1 he with he|he;exact step.ent (ok.heap e he);simp[A1,lm,or_false]at he;rcases he with rfl|rfl;rfl;trivial;show BT.get _ u=_;have:p.out≠u:=λe=>hu (by rw[<-e];simp[Xa.tmps]);simp[BT.get,beq_false this];exact oy hu env
 cases o;cases o;cases o;cases o;cases o;cases o
end
abbrev Sem:=∀{R:Type},BT->Am->(Exit->BT->Am->Option R)->Option R
def oF:List (Nat×Ty)->BT->Am->Option (BT×Am)
 |[],env,H=>δ (env,H)
 |(t,ty)::r,env,H=>
  match env.get t with
  |.c .nil=>oF r (env.put t (.c (.own (θ H) 0 ty 0))) (H++[.buf η ty [] 0 0])
  |_=>ε
def sI:Nat->List Bh->Option (List Bh×List Bh)
 |0,.nil::r=>δ ([],r)
 |n+1,x::r=>match sI n r with|some (a,b)=>δ (x::a,b)|none=>ε
 |_,_=>ε
def kA:List (Nat×Nat×Ty)->Am->Option Am
 |[],H=>δ H
 |(b,i,ty)::r,H=>
  match H[b]? with
  |some (.live η cs)=>
   match sI i cs with
   |some (x,y)=>kA r (H.set b (.live η (x++ .own (θ H) 0 ty 0::y))++[.buf η ty [] 0 0])
   |none=>ε
  |_=>ε
def AFi(h:Hint)(env:BT)(H:Am):Option (BT×Am):=
 match oF h.virt env H with
 |some (e,H1)=>match kA h.virtC H1 with|some H2=>δ (e,H2)|none=>ε
 |none=>ε
def AFX(h:Hint)(n:Nat)(eb:BT)(H0:Am)(S:List Nat)(k:Exit->BT->Am->Option R)(o:wW h.exits):Option R:=
 AHL h.exits o λx sl ds=>
  match Vh sl ds eb H0 with
  |some (e,hh)=>match uH n e&&(lA n hh&&S.all λj=>I2 j (LF sl))with|true=>k x e hh|false=>ε
  |none=>ε
def ADO(h:Hint)(A:List Nat)(run:Sem):Sem:=λenv H k=>
 match AFi h env H with
 |none=>ε
 |some (env0,H0)=>
  match pS env0 with
  |false=>ε
  |true=>(run env0 (KH (LF h.slots) 0 H0) λx e1 h1=>zl h.exits x e1 h1).bind λo=>AFX h (θ H0) (QT A (LF h.slots) H0 env0) H0 (LF h.slots) k o
def AAy(h:Hint)(x:Exit)(env:BT)(H:Am):Option (Step (DL (dV h.slots)) (wW h.exits)):=
 match uo .normal x with
 |true=>match xZ h.slots env H with|some s=>δ (.next s)|none=>ε
 |false=>match zl h.exits x env H with|some o=>δ (.done o)|none=>ε
noncomputable def vE(h:Hint)(A:List Nat)(run:Sem):Sem:=λenv H k=>
 match AFi h env H with
 |none=>ε
 |some (env1,H1)=>
  match ID (h.kill++lY env1 H1 h.slots) env1 H1 with
  |(env0,H0)=>
   match pS env0,Xu env0 H0 h.slots with
   |true,δ ds=>
    match zg (dV h.slots) ds with
    |some s0=>(Aa (λs=>
      match Vh h.slots (dvs (dV h.slots) s) (QT A (LF h.slots) H0 env0) (KH (LF h.slots) 0 H0)with
      |some (e,hh)=>match uH (θ H0) e&&lA (θ H0) hh with|true=>run e hh λx e1 h1=>AAy h x e1 h1|false=>ε
      |none=>ε) s0).bind λo=>AFX h (θ H0) (QT A (LF h.slots) H0 env0) H0 (LF h.slots) k o
    |none=>ε
   |_,_=>ε
def AAm(c:Operand)(ra rb:Sem):Sem:=λenv H k=>
 match JK env c with
 |.c (.bl v)=>cond v (ra env H k) (rb env H k)
 |_=>ε
def zH(id:Nat)(r:Sem):Sem:=λenv H k=>r env H λe env' H'=>
 match e with
 |.exit id'=>match ξ id' id with|true=>k .normal env' H'|false=>k (.exit id') env' H'
 |e=>k e env' H'
def vA(o:Option Hint)(A:List Nat)(run:Sem):Sem:=
 match o with
 |some h=>λenv H k=>ADO (h.rel (θ H)) A run env H k
 |none=>run
section
variable {R:Type}
def mv1(t n:Nat)(env:BT)(H:Am)(k:BT->Am->Option R):Option R:=
 match env.get t with
 |.c (.own m ver te _)=>
  match ξ m n with
  |true=>k env H
  |false=>
   match H[n]?,H[m]? with
   |some (.buf η t1 _ n1 v1),δ (.buf η t2 l2 n2 v2)=>
    match ξ ver v2,(Ty.list t1).beq (Ty.list t2)&&(Ty.list te).beq (Ty.list t2)with
    |true,ζ=>bif τ (n1<n2)then k (env.put t (.c (.own n (v1+1) t2 n2))) ((H.set n (.buf η t2 l2 n2 (v1+1))).set m .dead)else ε
    |_,_=>ε
   |_,_=>k env H
 |_=>k env H
def mvs:List OV->BT->Am->(BT->Am->Option R)->Option R
 |[],e,h,k=>k e h
 |.g t n::r,e,h,k=>mv1 t n e h λe h=>mvs r e h k
 |_::r,e,h,k=>mvs r e h k
end
def ADd(ss:List OV)(run:Sem):Sem:=λenv H k=>run env H λx e1 h1=>
 match uo .normal x with
 |true=>mvs ss e1 h1 λe2 h2=>k x e2 h2
 |false=>k x e1 h1
structure ACf where
 main:Sem
 pre:Sem
 suf:Sem
def PV:Sem:=λ_ _ _=>ε
def AEC(a b:Sem):Sem:=λenv H k=>a env H λe env' H'=>match e with|.normal=>b env' H' k|e=>k e env' H'
noncomputable def AA6(h:Hint)(A:List Nat)(s:ACf):Sem:=λenv H k=>s.pre env H λx e1 h1=>match x with|.normal=>vE h A (AEC s.suf s.pre) e1 h1 k|x=>k x e1 h1
noncomputable def tH(o:Option Hint)(A:List Nat)(s:ACf):Sem:=
 match o with
 |some h=>λenv H k=>match ξ h.kind 8 with|true=>AA6 (h.rel (θ H)) A s env H k|false=>vE (h.rel (θ H)) A (ADd (h.rel (θ H)).slots s.main) env H k
 |none=>PV
def gN:BT->BT
 |[]=>[]
 |(t,v)::r=>match LC v.refs with|[]=>(t,v)::gN r|_=>gN r
def zx(P:Program)(call:Rq)(N:Nat)(me:FuncId)(f:Operand)(ps:Array Tmp)(a b:Code):Sem:=λenv H k=>
 match JK env f with
 |.c (.raw (.fn (.func G) first caps))=>
  match Enters P G with
  |true=>call (.fn G) (first.map tvA++[.c (.raw (.yf (θ H)))]++caps.map tvA) (H++[.lp η me N (gN env) ps a b .ready]) λ_ H'=>
   match H'[θ H]? with
   |some (.lp η _ _ _ _ _ _ .ready)=>k .normal env (H'.set (θ H) .dead)
   |some (.lp η _ _ _ _ _ _ .ret)=>k .ret env (H'.set (θ H) .dead)
   |some (.lp η _ _ _ _ _ _ (.exit x))=>k (.exit x) env (H'.set (θ H) .dead)
   |_=>ε
  |false=>ε
 |_=>ε
noncomputable def dT(P:Program)(cs:List Pg)(call:Rq)(N:Nat)(me:FuncId)(hs:List Hint):Code->ACf
 |.skip=>⟨λenv H k=>k .normal env H,PV,PV⟩
 |.ret=>⟨λenv H k=>k .ret env H,PV,PV⟩
 |.exit id=>⟨λenv H k=>k (.exit id) env H,PV,PV⟩
 |.seq a (.seq m r)=>⟨λenv H k=>
  match nG a m with
  |some p=>AC0 P N cs p env H λenv' H'=>(dT P cs call N me hs r).main env' H' k
  |none=>AEC (dT P cs call N me hs a).main (dT P cs call N me hs (.seq m r)).main env H k,
  AEC (dT P cs call N me hs a).main (dT P cs call N me hs (.seq m r)).pre,(dT P cs call N me hs (.seq m r)).suf⟩
 |.seq a b=>⟨vA (rC hs a b) (Od hs (.seq a b)) (AEC (dT P cs call N me hs a).main (dT P cs call N me hs b).main),(dT P cs call N me hs a).main,(dT P cs call N me hs b).main⟩
 |.cond c a b=>⟨vA (hintOf hs (.cond c a b)) (Od hs (.cond c a b)) (AAm c (dT P cs call N me hs a).main (dT P cs call N me hs b).main),PV,PV⟩
 |.block id b=>⟨vA (hintOf hs (.block id b)) (Od hs (.block id b)) (zH id (dT P cs call N me hs b).main),PV,PV⟩
 |.loop b=>⟨tH (hintOf hs (.loop b)) (Od hs (.loop b)) (dT P cs call N me hs b),PV,PV⟩
 |.region id ops η=>⟨vA (hintOf hs (.region id ops η)) (Od hs (.region id ops η)) λenv H k=>
  match On N ops.toList with
  |true=>ye P cs call ops (guards ops) η ops.toList 0 env H λenv' H'=>k .normal env' H'
  |false=>ε,PV,PV⟩
 |.region id ops ζ=>⟨λenv H k=>
  match P.follows .mixedOrders&&ABC ops N (zr ops)&&Vo P ops&&pS env with
  |true=>AAI P cs call ops (IB ops.toList []) (guards ops) (match lS 3 id hs with|some _=>ζ|none=>η) (zr ops) [] env H λenv' H'=>k .normal env' H'
  |false=>ε,PV,PV⟩
 |.rangeFunc f ps a b=>⟨zx P call N me f ps a b,PV,PV⟩
 |_=>⟨PV,PV,PV⟩
noncomputable def qo(P:Program)(cs:List Pg)(call:Rq)(N:Nat)(me:FuncId)(hs:List Hint)(c:Code):Sem:=(dT P cs call N me hs c).main
def AFx{g:List Hint}(j:∀m r,S≠.seq m r)(env:BT)(H:Am)(k:Exit→BT→Am→Option R):
  qo P f u N F g (.seq d S) env H k=vA (rC g d S) (Od g (.seq d S)) (λenv H k=>qo P f u N F g d env H λe c i=>match e with|.normal=>qo P f u N F g S c i k|e=>k e c i) env H k:=by
 cases S<;>first|rfl|exact N! rfl (j _ _)
def JX(P:Program)(N:Nat)(A:List Nat)(c:Code)(run:Sem):Prop:=∀{R:Type}(env:BT)(H:Am)(k:Exit->BT->Am->Option R)(r:R),Np env H->run env H k=δ r->
 ∃e env' H',rG P N c (Bq env) (A8 H) (UD e (Bq env') (A8 H'))/\k e env' H'=δ r/\Np env' H'/\D4 A env H env' H'
theorem ABH:∀{l:List (Nat×Ty)}{env:BT}{H:Am}{a:BT}{b:Am},Np env H→oF l env H=δ (a,b)→
  Np a b/\D4 (l.map (·.1)) env H a b/\∀N,E4 N (θ H) (Bq env) (A8 H) (Bq a) (A8 b)
 |[],env,H,a,b,ok,h=>by grind[oF,D4.refl,E4.refl,CK]
 |(t,ty)::r,env,H,a,b,ok,h=>by
  simp only[oF]at h;split at h;rename_i m;have st:Bz H (H++[.buf η ty [] 0 0]):=Bz.push H _;have g:(H++[Di.buf η ty [] 0 0])[θ H]?=δ (.buf η ty [] 0 0):=k!
  have i:Np (env.put t (.c (.own (θ H) 0 ty 0))) (H++[.buf η ty [] 0 0]):=by refine⟨ac (d:=δ t) (st.env ok.env) (JW (Vm g)),λe f=>?_⟩;rcases Ao.1 f with f|f;exact st.ent (ok.heap e f);rw[A7.1 f];rfl
  obtain⟨o,p,q⟩:=ABH i h;refine⟨o,?_,λN=>?_⟩;have s:D4 [t] env H (env.put t (.c (.own (θ H) 0 ty 0))) (H++[.buf η ty [] 0 0]):=⟨st,λu n _=>oE λe=>n (by simp[e])⟩
  exact D4.trans ok.env s p;have w:=E4.virt (N:=N) (env:=Bq env) (H:=A8 H) (t:=t) (sz:=ty.sz) (by rw[UA,m];rfl);have j:=(q N).of_le (n0:=θ H) k!;rw[jR]at j;have k:A8 (H++[.buf η ty [] 0 0])=A8 H++[.live 0 []]:=by simp[A8,Di.enc,Rr.cl]
  rw[k]at j;rw[CK]at w;exact w.trans j;cases h
def qB:∀{n:Nat}{e x y:List Bh},sI n e=δ (x,y)->e=x++ .nil::y
 |0,[],_,_,h=>by cases h
 |0,z::r,x,y,h=>by
  cases z<;>simp only[sI]at h<;>try (cases h;done)
  injection h with h;injection h with c d;subst c d;rfl
 |n+1,[],_,_,h=>by cases h
 |n+1,z::r,x,y,h=>by simp only[sI]at h;split at h;rename_i a b hr;injection h with h;injection h with c d;subst c d;rw[qB hr];rfl;cases h
theorem yo{env:BT}:∀{l:List (Nat×Nat×Ty)}{H c:Am},Np env H→kA l H=δ c→
  Np env c/\Bz H c/\∀N,E4 N (θ H) (Bq env) (A8 H) (Bq env) (A8 c)
 |[],H,c,ok,h=>by grind[kA,Option.some.injEq,Bz.refl,E4.refl,Bq,A8,CK]
 |(b,i,ty)::r,H,c,ok,h=>by
  simp only[kA]at h;split at h;rename_i I v;split at h;rename_i x y B;have m:=qB B;subst m;have D:b<θ H:=q!
  have f:Bz H (H++[Di.buf η ty [] 0 0]):=Bz.push H _;have a:H.set b (Di.live η (x++Bh.own (θ H) 0 ty 0::y))++[Di.buf η ty [] 0 0]=(H++[Di.buf η ty [] 0 0]).set b (Di.live η (x++Bh.own (θ H) 0 ty 0::y)):=q!
  have j:(H++[Di.buf η ty [] 0 0])[b]?=δ (Di.live η (x++Bh.nil::y)):=q!
  have g:Bz (H++[Di.buf η ty [] 0 0]) ((H++[Di.buf η ty [] 0 0]).set b (Di.live η (x++Bh.own (θ H) 0 ty 0::y))):=Bz.set j rfl λ_ _ _ _ _ e=>by cases e
  have n:(H++[Di.buf η ty [] 0 0])[θ H]?=δ (.buf η ty [] 0 0):=k!
  have t:lok H (x++Bh.nil::y):=ok.heap _ (BM v);have s:∀e∈H++[Di.buf η ty [] 0 0],e.ok (H++[Di.buf η ty [] 0 0]):=λe d=>by rcases Ao.1 d with d|d;exact f.ent (ok.heap e d);rw[A7.1 d];rfl
  have u:lok (H++[Di.buf η ty [] 0 0]) (x++Bh.own (θ H) 0 ty 0::y):=by have q:=I1.1 (f.lok t);refine I1.2 ⟨q.1,λz o=>?_⟩;rcases A1.1 o with rfl|o;exact Vm n;exact q.2 z (CN _ o)
  rw[a]at h;have p:Np env ((H++[Di.buf η ty [] 0 0]).set b (Di.live η (x++Bh.own (θ H) 0 ty 0::y))):=⟨g.env (f.env ok.env),heap_set g s (g.lok u)⟩
  obtain⟨E,F,G⟩:=yo p h;refine⟨E,(f.trans g).trans F,λN=>?_⟩;have k:(A8 H)[b]?=δ (.live 0 (lvs (x++Bh.nil::y))):=by rw[Dy,v];rfl
  have C:(lvs (x++Bh.nil::y))[(lvs x).length]?=δ .nils:=by grind[Gl,HW,Bh.enc]
  have w:=E4.virtC (N:=N) (env:=Bq env) (sz:=ty.sz) k C;have A:A8 ((H++[Di.buf η ty [] 0 0]).set b (Di.live η (x++Bh.own (θ H) 0 ty 0::y)))=(A8 H).set b (.live 0 ((lvs (x++Bh.nil::y)).set (lvs x).length (.sl (A8 H).length 0 ty.sz 0 0)))++[.live 0 []]:=by
   rw[<-a];have:(lvs (x++Bh.nil::y)).set (lvs x).length (.sl (A8 H).length 0 ty.sz 0 0)=lvs (x++Bh.own (θ H) 0 ty 0::y):=by grind[Gl,HW,CK,Bh.enc]
   grind[A8,Di.enc,Rr.cl,List.map_set]
  rw[<-A,CK]at w;exact w.trans ((G N).of_le k!);cases h;cases h
theorem AA9(ok:Np e c)(b:AFi A e c=δ (L,D)):
  Np L D/\D4 (A.virt.map (·.1)) e c L D/\∀N,E4 N (θ c) (Bq e) (A8 c) (Bq L) (A8 D):=by
 unfold AFi at b;split at b;rename_i h d n;obtain⟨a1,a2,a3⟩:=ABH ok n;split at b;rename_i f m;injection b with b;injection b with k l;subst k l;obtain⟨g,i,j⟩:=yo a1 m;have o:D4 [] h d h f:=⟨i,λ_ _ _=>rfl⟩
 exact⟨g,(D4.trans ok.env a2 o).mono λt p=>q!,λN=>(a3 N).trans ((j N).of_le a2.step.len)⟩;cases b;cases b
theorem ue{A S:List Nat}{H:Am}:∀{env:BT},(env.map (·.1)).Nodup->∀t,env.get t=Up->(QT A S H env).get t=Up
 |[],_,_,_=>rfl
 |(u,v)::r,nd,t,h=>by have a:=Gg.1 nd;simp only[BT.get]at h;by_cases b:u=t;subst b;have hn:∀p∈QT A S H r,p.1≠u:=λp c e=>a.1 (Bk.2 ⟨p,(Q1 a.2 p c).2.2,e⟩);grind[QT,BT.get,lU];rw[beq_false b]at h;have d:=ue (A:=A) (S:=S) (H:=H) a.2 t h;grind[QT,BT.get,beq_false]
theorem AAs{h:Hint}{A B:List Nat}{env0:BT}{e:Am}{D:BT}{E:Am}(m:Np env0 e)(nd:(env0.map (·.1)).Nodup)(M:yx A (LF h.slots) env0 e D E)
  {env1:BT}{u:Am} (C:Np env1 u) (st:D4 B D E env1 u) (K:∀t,t∈B->t∈A) (J:∀t,t∈h.tmps->t∈A) {x:Exit}{o:wW h.exits} (Q:zl h.exits x env1 u=δ o)
  {R:Type}{k:Exit->BT->Am->Option R}{r:R} (f:AFX h (θ e) (QT A (LF h.slots) e env0) e (LF h.slots) k o=δ r) (N:Nat):
  ∃g i,E4 N (θ e) (Bq env1) (A8 u) (Bq g) (A8 i)/\k x g i=δ r/\Np g i/\D4 A env0 e g i:=by
 obtain⟨rfl,L,p,S,y⟩:=vP Q;have f:=vO f;split at f;rename_i g i O;split at f;rename_i v;simp at v;have sub:∀j,I2 j (LF (wX h.exits o).2.1)=η->I2 j (LF h.slots)=η:=λj d=>Vj λG=>q!
 obtain⟨w,W,Y,z⟩:=AAb m nd M C st K L m.heap rfl (ADT e) (λ_ _ _ _ q=>q) (λj H d c=>by
  cases H with
  |dead=>grind
  |live b V=>exact .inr ⟨_,sub j d,by rw[I0,c,DA,sub j d];rfl,rfl,.inr (.inl ⟨_,_,_,_,rfl,rfl,Da.refl _⟩)⟩
  |buf b t l n U=>exact .inr ⟨_,sub j d,by rw[I0,c,DA,sub j d];rfl,rfl,.inr (.inr (.inl ⟨_,_,_,_,_,_,_,rfl,rfl⟩))⟩
  |mp b k t X=>exact .inr ⟨_,sub j d,by rw[I0,c,DA,sub j d];rfl,rfl,.inr (.inr (.inr (.inr ⟨_,_,_,_,_,rfl,rfl⟩)))⟩
  |lp ro F n env Z a b s=>exact .inr ⟨_,sub j d,by rw[I0,c,DA,sub j d];rfl,rfl,.inr (.inr (.inr (.inl ⟨_,_,_,_,_,_,_,_,_,rfl,rfl⟩)))⟩) O v.1 v.2.1 N
 refine⟨g,i,w,f,z.ok,z.step,λt T P=>?_⟩;have I:=Vj λG=>T (J t (by refine Ao.2 (.inr (Gf.2 ⟨p,S,?_⟩));rw[<-y];exact G));rw[z.get t I];grind[xN,Up,ue,kK,ADQ,Vj];cases f;cases f
def lT:Code->Code
 |.seq _ (.seq m r)=>lT (.seq m r)
 |.seq _ b=>b
 |c=>c
section
variable {P:Program}{N:Nat}{env:Env}{H:Ap}{Q:Exit->Env->Ap->Prop}{X:Nat->Prop}{h:Gh}{a:Act}{w:World}
def Za(P:Program)(N:Nat):Code->Env->Ap->(Exit->Env->Ap->Prop)->Prop
 |.seq a (.seq m r),env,H,Q=>JU P N a env H (dY (λe h=>Za P N (.seq m r) e h Q) Q)
 |.seq a _,env,H,Q=>JU P N a env H Q
 |_,_,_,_=>False
def Za.mono{i:Exit->Env->Ap->Prop}(l:∀e d g,Q e d g->i e d g):∀{c:Code}{env:Env}{H:Ap},Za P N c env H Q->Za P N c env H i:=by
 intro c;induction c with
 |seq a b _ f=>
  intro env H h;by_cases j:∃m r,b=.seq m r;obtain⟨m,r,rfl⟩:=j;refine JU.mono (show JU P N a env H _ from h) λe E h k=>?_;cases e with
  |normal=>exact f k
  |_=>exact l _ _ _ k
  have e:∀Q,Za P N (.seq a b) env H Q=JU P N a env H Q:=λQ=>by cases b<;>first|rfl|exact N! ⟨_,_,rfl⟩ j
  rw[e]at h⊢;exact JU.mono h l
 |_=>intro env H h;exact h.elim
def Za.run:∀{c:Code}{env:Env}{H:Ap}{h:Gh}{a:Act}{w:World},Za P N c env H Q→St X h N env H a w→ZE M w→
  (∀e g d i b f,Q e b f->St X i N b f g d->Gq h H w i f d->VJ a w g d->Exit.then (λa w=>(lT c).wpIn (FR M) 0 P B a w) B e g d)->c.wpIn (FR M) 0 P B a w:=by
 intro c;induction c with
 |seq x y _ u=>
  intro env H h a w p s k o;by_cases t:∃m M,y=.seq m M;obtain⟨m,y,rfl⟩:=t;refine wpIn_seq (wpIn_mono ((show JU P N x env H _ from p) M X h a w s k) ?_);rintro e g d ⟨i,b,f,q,l,j,n⟩;cases e with
  |normal=>exact u q l (k.later j) λe a2 G D env2 z E F v A=>o e a2 G D env2 z E F (j.trans v) (n.trans l.sim j v A)
  |_=>exact o _ g d i b f q l j n
  have r:Za P N (.seq x y) env H Q=JU P N x env H Q:=by cases y<;>first|rfl|exact N! ⟨_,_,rfl⟩ t
  have C:lT (.seq x y)=y:=by cases y<;>first|rfl|exact N! ⟨_,_,rfl⟩ t
  rw[r]at p;rw[C]at o;refine wpIn_seq (wpIn_mono (p M X h a w s k) ?_);rintro e g d ⟨i,b,f,q,l,j,n⟩;exact o e g d i b f q l j n
 |_=>intro env H h a w p;exact p.elim
def ia(P:Program)(N:Nat)(c:Code)(env:Env)(H:Ap)(Q:Exit->Env->Ap->Prop):Prop:=
 ∀(r:Option Nat)(X:Nat->Prop)(h:Gh)(a:Act)(w:World)(K:Exit->Act->World->Prop),St X h N env H a w->ZE r w->
  (∀e a' w' h' env' H',Q e env' H'->St X h' N env' H' a' w'->Gq h H w h' H' w'->VJ a w a' w'->K e a' w')->
  (lT c).wpIn (FR r) 0 P (Exit.then (λa w=>jr (FR r) 0 P c K a w) K) a w
def Za.loop(hn:θ H=n)(p:Za P N d env H (dY (λenv2 l=>∃y m,E4 N n env2 l y m∧ia P N d y m Q) Q))(s:St X h N env H a w)(k:ZE M w)
  (v:∀e i f j b g,Q e b g->St X j N b g i f->Gq h H w j g f->VJ a w i f->B e i f):jr (FR M) 0 P d B a w:=by
 refine aa (Za.run p s k λe a2 c u env2 l q z C t=>?_);cases e with
 |normal=>obtain⟨y,m,x,G⟩:=q;obtain⟨E,A,F,I⟩:=x.2 X u a2 c z;have o:=E4.ext hn x.1 F I C;exact G M X E a2 c B A (k.later o) λe i f j b g J L r D=>v e i f j b g J L (o.trans r) (t.trans A.sim o r D)
 |_=>exact v _ a2 c u env2 l q z C t
def cE(p:Za P N d env H (dY (λenv2 i=>∃b f,E4 N (θ H) env2 i b f/\ia P N d b f Q) Q)):Hd P N d env H Q:=λr X g a w s k=>Za.loop rfl p s k λe o t l c h q m n j=>⟨l,c,h,q,m,n,j⟩
def ia.unroll(p:JU P N (lT d) env H (dY (λenv1 j=>Za P N d env1 j (dY (λenv2 l=>∃b m,E4 N (θ H) env2 l b m/\ia P N d b m Q) Q)) Q)):ia P N d env H Q:=by
 intro r X g a w K s k n;apply wpIn_mono (p r X g a w s k);rintro e a1 V ⟨J,env1,j,q,o,i,v⟩;cases e with
 |normal=>
  refine aa (Za.run q o (k.later i) λe a2 t x env2 l q z C G=>?_);have h:=i.trans C;have c:=v.trans o.sim i C G;cases e with
  |normal=>obtain⟨b,m,y,O⟩:=q;obtain⟨L,A,M,R⟩:=y.2 X x a2 t z;have u:=E4.ext rfl y.1 M R h;exact O r X L a2 t K A (k.later u) λe E U I f D S T B F=>n e E U I f D S T (u.trans B) (c.trans A.sim u B F)
  |_=>exact n _ a2 t x env2 l q z h c
 |_=>exact n _ a1 V J env1 j q o i v
def ia.after(p:ia P N d env H (λe b f=>∃env2 c,E4 N (θ H) b f env2 c/\Q e env2 c)):ia P N d env H Q:=by intro r X g a w K s k o;refine p r X g a w K s k λe h j m b f ⟨env2,c,i,q⟩ v y l=>?_;obtain⟨n,x,t,u⟩:=i.2 X m h j v;exact o e h j n env2 c q x (E4.ext rfl i.1 t u y) l
end
variable {P:Program}{N:Nat}
variable {j:Sem}{Z:ACf}
theorem yD{h:Hint}(hr:JX P N E d j)(n:∀t,t∈E->t∈b)(m:∀t,t∈h.tmps->t∈b):JX P N b d (ADO h b j):=by
 intro R env H k r ok a;unfold ADO at a;dsimp only at a;split at a;cases a;rename_i env0 f v;split at a;cases a;rename_i hn;obtain⟨o,s,a⟩:=bnd a;obtain⟨A,C,D⟩:=AA9 ok v;have nd:=ZW hn;obtain⟨e,env1,c,a1,k1,g,i⟩:=hr env0 (KH (LF h.slots) 0 f) _ o (jq A) s;have q:yx b (LF h.slots) env0 f env0 (KH (LF h.slots) 0 f):=⟨jq A,Bz.refl _,IA _ _,λ_ _=>rfl,λp u=>(Q1 nd p u).1⟩
 obtain⟨B,l,w,x,y,z⟩:=AAs A nd q g i n m k1 a N;refine⟨e,B,l,?_,x,y,?_⟩;rw[pM]at a1;refine rG.weak (by rw[CK];exact D N) (rG.after (a1.mono ?_));rintro _ _ _ ⟨rfl,rfl,rfl⟩;exact⟨_,_,by rw[CK];exact w,rfl,rfl,rfl⟩;exact(D4.trans ok.env C z).mono λt F=>by grind[Hint.tmps]
def AGC(L0:Env->Ap->(Exit->Env->Ap->Prop)->Prop)(A:List Nat)(run:Sem):Prop:=∀{R:Type}(env:BT)(H:Am)(k:Exit->BT->Am->Option R)(r:R),Np env H->run env H k=δ r->
 ∃e env' H',L0 (Bq env) (A8 H) (UD e (Bq env') (A8 H'))/\k e env' H'=δ r/\Np env' H'/\D4 A env H env' H'
theorem yJ{L0 L:Env→Ap→(Exit→Env→Ap→Prop)→Prop}(V:∀{env:Env}{H:Ap}{Q Q':Exit→Env→Ap→Prop},(∀e f U,Q e f U→Q' e f U)→L0 env H Q→L0 env H Q')
  (hu:∀{env:Env}{H:Ap}{Q:Exit->Env->Ap->Prop},L0 env H (dY (λf U=>∃env2 J,E4 N (θ H) f U env2 J/\L env2 J Q) Q)->L env H Q)
  (ha:∀{env:Env}{H:Ap}{Q:Exit->Env->Ap->Prop},L env H (λe f U=>∃env2 J,E4 N (θ H) f U env2 J/\Q e env2 J)->L env H Q)
  {A B:List Nat}{h:Hint}{run:Sem} (hr:AGC L0 B run) (hB:∀t,t∈B->t∈A) (hA:∀t,t∈h.tmps->t∈A) {R:Type} (env:BT) (H:Am) (k:Exit->BT->Am->Option R) (r:R) (ok:Np env H) (m:vE h A run env H k=δ r):
  ∃i g x u v,E4 N (θ H) (Bq env) (A8 H) (Bq i) (A8 g)/\L (Bq i) (A8 g) (UD x (Bq u) (A8 v))/\k x u v=δ r/\Np u v/\D4 A env H u v:=by
 unfold vE at m;dsimp only at m;split at m;cases m
 ·rename_i G Hv hv;obtain⟨a9,sv,wv⟩:=AA9 ok hv;obtain⟨y,sf,wf⟩:=Q6 (h.kill++lY G Hv h.slots) a9;generalize ID (h.kill++lY G Hv h.slots) G Hv=fz at m y sf wf;obtain⟨env0,d⟩:=fz;simp only at m y sf wf;split at m
  ·rename_i ds hn hc;split at m
   ·rename_i s0 a5;obtain⟨o,ho,m⟩:=bnd m;have nd:=ZW hn;have z:∀e∈KH (LF h.slots) 0 d,e.ok (KH (LF h.slots) 0 d):=(jq y).heap;have hC:=zc (C:=λs o=>∀r,AFX h (θ d) (QT A (LF h.slots) d env0) d (LF h.slots) k o=δ r->
     ∃i g,Vh h.slots (dvs (dV h.slots) s) (QT A (LF h.slots) d env0) (KH (LF h.slots) 0 d)=δ (i,g)/\uH (θ d) i=ζ/\lA (θ d) g=ζ/\(yx A (LF h.slots) env0 d i g->∃x u v,L (Bq i) (A8 g) (UD x (Bq u) (A8 v))/\k x u v=δ r/\Np u v/\D4 A env0 d u v)) (λs q Y=>by
     split at Y
     ·rename_i i g hi;split at Y
      ·rename_i I;simp only[BN]at I;have body:∀D:yx A (LF h.slots) env0 d i g,∃e env1 K,L0 (Bq i) (A8 g) (UD e (Bq env1) (A8 K))/\AAy h e env1 K=δ q/\Np env1 K/\D4 B i g env1 K:=λD=>hr i g _ q D.ok Y;cases q with
       |next s'=>
        intro o ih r m;obtain⟨ad,al,i1,i2,i3,i4⟩:=ih r m;refine⟨i,g,hi,I.1,I.2,λD=>?_⟩;obtain⟨e,env1,K,a1,k1,S,T⟩:=body D;unfold AAy at k1;split at k1;rename_i hx;have:=sO hx;subst this;split at k1;rename_i s1 a6;injection k1 with k1;injection k1 with k1;subst k1;have ax:=mI a6;obtain⟨w,ea,ha,E⟩:=AAb (Hx:=KH (LF h.slots) 0 d) y nd D S T hB ax z (IA _ _) (.refl _) (λ_ _ _ _ q=>mS q) (λj e' O c=>by
         cases hH:d[j]? with
         |none=>grind[I0]
         |some Z=>
          have hl:=c;rw[I0,hH,DA,O]at c;simp only[Bd,Al]at c;subst c;cases Z with
          |dead=>exact .inl rfl
          |live b cs=>exact .inr ⟨_,O,hl,rfl,.inr (.inl ⟨_,_,_,_,rfl,rfl,Da.refl _⟩)⟩
          |buf b t l n a'=>exact .inr ⟨_,O,hl,rfl,.inr (.inr (.inl ⟨_,_,_,_,_,_,_,rfl,rfl⟩))⟩
          |mp b k t es=>exact .inr ⟨_,O,hl,rfl,.inr (.inr (.inr (.inr ⟨_,_,_,_,_,rfl,rfl⟩)))⟩
          |lp ro F n env ps a b s=>exact .inr ⟨_,O,hl,rfl,.inr (.inr (.inr (.inl ⟨_,_,_,_,_,_,_,_,_,rfl,rfl⟩)))⟩) i1 i2 i3 N
        have a0:yx A (LF h.slots) env0 d ad al:=⟨E.ok,E.step,by rw[E.len,IA],E.same,λp P=>by
         obtain⟨X,b2,b3⟩:=Q1 nd p P;have M:I2 p.1 A=η:=by grind[gj,I2]
         rw[E.get p.1 (Vj λV=>To M (hA _ (by unfold Hint.tmps;simp only[List.mem_append];exact .inl (.inr V))))];rw[kK nd p.1 (by rw[X];exact b2)];exact X⟩
        obtain⟨x,u,v,l1,l2,l3,l4⟩:=i4 a0;refine⟨x,u,v,hu (V ?_ a1),l2,l3,l4⟩;rintro _ _ _ ⟨rfl,rfl,rfl⟩;exact⟨_,_,by rw[CK,D.len];exact w,l1⟩;cases k1;split at k1<;>grind
       |done o=>
        intro r m;refine⟨i,g,hi,I.1,I.2,λD=>?_⟩;obtain⟨e,env1,K,a1,k1,S,T⟩:=body D;unfold AAy at k1;split at k1;split at k1<;>grind;rename_i hx;split at k1;rename_i o1 a4;injection k1 with k1;injection k1 with k1;subst k1;obtain⟨u,v,w,q1,q2,q3⟩:=AAs y nd D S T hB hA a4 m N;have a3:e≠.normal:=by rintro rfl;cases hx
        refine⟨e,u,v,ha (hu (V ?_ a1)),q1,q2,q3⟩;intro e1 af bb a7;obtain⟨ao,ap,ar⟩:=a7;subst ao ap ar;have ag:∃env2 J,E4 N (A8 g).length (Bq env1) (A8 K) env2 J/\UD e1 (Bq u) (A8 v) e1 env2 J:=⟨_,_,by rw[CK,D.len];exact w,rfl,rfl,rfl⟩
        cases e1 with
        |normal=>exact(a3 rfl).elim
        |_=>exact ag
        cases k1
      cases Y
     cases Y) ho
    obtain⟨i,g,i1,i2,i3,i4⟩:=hC r m;have a2:=pR a5;rw[a2]at i1;have a8:Np (QT A (LF h.slots) d env0) (KH (LF h.slots) 0 d):=⟨λp P=>(jq y).env p (Q1 nd p P).2.2,z⟩
    have E:=MP y hc i1 a8 (by rw[IA];exact Ai _) (λp P=>⟨p.2,(Q1 nd p P).2.2,WK.refl _⟩) (λj e' O c=>by
     rw[I0]at c;cases hH:d[j]? with
     |none=>rw[hH]at c;cases c
     |some Z=>
      rw[hH,DA,O]at c;simp only[Bd,Al]at c;subst c;refine⟨Z,rfl,?_⟩;cases Z with
      |dead=>exact .inl rfl
      |live b cs=>exact .inr (.inl ⟨_,_,_,_,rfl,rfl,Da.refl _⟩)
      |buf b t l n a'=>exact .inr (.inr (.inl ⟨_,_,_,_,_,_,_,rfl,rfl⟩))
      |mp b k t es=>exact .inr (.inr (.inr (.inr ⟨_,_,_,_,_,rfl,rfl⟩)))
      |lp ro F n env ps a b s=>exact .inr (.inr (.inr (.inl ⟨_,_,_,_,_,_,_,_,_,rfl,rfl⟩)))) (AFQ d)
    have w:=E.weak (N:=N) (by rw[IA];exact Ai _) (by rw[IA];exact i2) (by rw[IA];exact i3);rw[IA]at w;have D:yx A (LF h.slots) env0 d i g:=⟨E.ok,E.step,by rw[E.len,IA],E.same,λp P=>by
     obtain⟨X,b2,b3⟩:=Q1 nd p P;have M:I2 p.1 A=η:=by grind[gj,I2]
     rw[E.get p.1 (Vj λV=>To M (hA _ (by unfold Hint.tmps;simp only[List.mem_append];exact .inl (.inr V))))];rw[kK nd p.1 (by rw[X];exact b2)];exact X⟩
    obtain⟨x,u,v,l1,l2,l3,l4⟩:=i4 D;have w3:E4 N (θ H) (Bq env) (A8 H) (Bq i) (A8 g):=((wv N).trans ((wf N).of_le (by rw[CK];exact sv.step.len))).trans (w.of_le (C9 sv.step.len sf.step.len));refine⟨_,_,x,u,v,w3,l1,l2,l3,?_⟩;exact(D4.trans ok.env (D4.trans ok.env sv sf) l4).mono λt W=>by rcases Ao.1 W with W|W;rw[Dl]at W;exact hA t (by unfold Hint.tmps;simp only[List.mem_append];exact .inl (.inl (.inr W)));exact W
   cases m
  cases m
def ADU(hr:JX P N E d j)(m:∀t,t∈E->t∈b)(l:∀t,t∈A.tmps->t∈b):JX P N b (.loop d) (vE A b j):=by
 intro R env H k r ok f;obtain⟨s,u,x,i,c,w,l1,l2,o,p⟩:=yJ (N:=N) (L0:=λenv H Q=>JU P N d env H Q) (L:=λenv H Q=>Hd P N d env H Q) (λn a=>a.mono n) (λa=>Hd.unroll a) (λa=>Hd.after a)
  (λenv H k r ok f=>by obtain⟨e,B,g,a,q⟩:=hr env H k r ok f;exact⟨e,B,g,a.awp,q⟩) m l env H k r ok f
 exact⟨x,i,c,rG.weak (by rw[CK];exact w) l1,l2,o,p⟩
def AAX(P:Program)(N:Nat)(A:List Nat)(c:Code)(run:Sem):Prop:=AGC (Za P N c) A run
def ADW(n:AAX P N E d Z.pre)(y:JX P N E (lT d) Z.suf)(i:∀t,t∈E->t∈b)(v:∀t,t∈A.tmps->t∈b):JX P N b (.loop d) (AA6 A b Z):=by
 intro R env H k r ok g;unfold AA6 at g;obtain⟨e,env1,f,a1,k1,h,B⟩:=n env H _ r ok g;cases e with
 |normal=>
  obtain⟨m,I,x,q,u,w,l1,l2,D,F⟩:=yJ (N:=N) (L0:=λenv H Q=>JU P N (lT d) env H (dY (λe A=>Za P N d e A Q) Q)) (L:=λenv H Q=>ia P N d env H Q)
   (λo a=>a.mono λe c A z=>by
    cases e with
    |normal=>exact Za.mono o z
    |_=>exact o _ _ _ z) (λ{env H Q} a=>ia.unroll (a.mono λe c A z=>by
    cases e<;>exact z)) (λa=>ia.after a)
   (B:=E) (run:=AEC Z.suf Z.pre) (λenv H k r ok g=>by
    obtain⟨e,env1,f,a1,k1,h,B⟩:=y env H _ r ok g;cases e with
    |normal=>obtain⟨m,env2,p,a2,C,l,G⟩:=n env1 f k r h k1;refine⟨m,env2,p,a1.awp.mono ?_,C,l,(D4.trans ok.env B G).mono λt j=>(Ao.1 j).elim id id⟩;rintro _ _ _ ⟨rfl,rfl,rfl⟩;exact a2
    |_=>refine⟨_,env1,f,a1.awp.mono ?_,k1,h,B⟩;rintro _ _ _ ⟨rfl,rfl,rfl⟩;exact⟨rfl,rfl,rfl⟩) i v env1 f k r h k1
  refine⟨x,q,u,cE (Za.mono ?_ a1),l2,D,(D4.trans ok.env B F).mono λt j=>(Ao.1 j).elim (i t) id⟩;rintro _ _ _ ⟨rfl,rfl,rfl⟩;exact⟨_,_,w.of_le (by rw[CK];exact B.step.len),l1⟩
 |_=>refine⟨_,env1,f,cE (Za.mono ?_ a1),k1,h,B.mono i⟩;rintro _ _ _ ⟨rfl,rfl,rfl⟩;exact⟨rfl,rfl,rfl⟩
def AC3{A B:List Nat}{n:Sem}(o:JX P N A d j)(p:JX P N B S n):JX P N (A++B) (.cond z d S) (AAm z j n):=by
 intro R env H k r ok f;unfold AAm at f;dsimp only at f;split at f;rename_i v q;have m:BI (Bq env) z=.bool v:=by have:=LK env z;rw[q]at this;exact this
 cases v with
 |true=>obtain⟨e,c,g,a1,i,a,l⟩:=o env H k r ok f;exact⟨e,c,g,D2 (λ_ e=>by cases e) (JU.cond m (λ_=>a1.awp) (λe=>by cases e)),i,a,l.mono λt h=>Ao.2 (.inl h)⟩
 |false=>obtain⟨e,c,g,a1,i,a,l⟩:=p env H k r ok f;exact⟨e,c,g,D2 (λ_ e=>by cases e) (JU.cond m (λe=>by cases e) (λ_=>a1.awp)),i,a,l.mono λt h=>Ao.2 (.inr h)⟩
 cases f
def ABV{A:List Nat}(hr:JX P N A d j):JX P N A (.block n d) (zH n j):=by
 intro R env H k r ok m;obtain⟨e,a,g,a1,b,i,f⟩:=hr env H _ r ok m;cases e with
 |exit c=>
  simp only at b;split at b;rename_i l;have:=Cy l;refine⟨.normal,a,g,D2 (λ_ e=>by cases e) (JU.block (a1.awp.mono ?_)),b,i,f⟩;rintro _ _ _ ⟨rfl,rfl,rfl⟩;simp only[oe,C! this];exact⟨rfl,rfl,rfl⟩;rename_i l;have h:c≠n:=λe=>t!
  refine⟨.exit c,a,g,D2 (λ_ e=>by cases e) (JU.block (a1.awp.mono ?_)),b,i,f⟩;rintro _ _ _ ⟨rfl,rfl,rfl⟩;simp only[oe,D! h];exact⟨rfl,rfl,rfl⟩
 |_=>refine⟨_,a,g,D2 (λ_ e=>by cases e) (JU.block (a1.awp.mono ?_)),b,i,f⟩;rintro _ _ _ ⟨rfl,rfl,rfl⟩;exact⟨rfl,rfl,rfl⟩
end Go.Ab
namespace Go.Ab
variable {N n G:Nat}{R K:Type}{b E:List Nat}{c D:Am}{d S:Code}{e L Y:BT}{f:List Pg}{F:FuncId}{P:Program}{j:Sem}{k:Bool}{l:AV}{p:List TV}{q:List OV}{s:List AV}{u:Rq}{x:Ty}{y:Env}{z:Operand}{C:Int}{J:Exit}{O:Xa}{T:Value}{V:Func}{Z:ACf}
section
variable {P:Program}{N:Nat}{env:Env}{H:Ap}{Q:Exit->Env->Ap->Prop}{X:Nat->Prop}{h:Gh}{w:World}
def yr(N:Nat)(env:Env)(H:Ap)(env2:Env)(H2:Ap):Prop:=
 ∀(X:Nat->Prop)(h:Gh)(a:Act)(w:World),St X h N env H a w->∃h2,St X h2 N env2 H2 a w/\Gq h H w h2 H2 w
def JU.afterG(h:JU P N d env H (λe b f=>∃env2 c,yr N b f env2 c/\Q e env2 c)):JU P N d env H Q:=by intro r X g a w s k;apply wpIn_mono (h r X g a w s k);rintro e i t ⟨l,b,f,⟨env2,c,n,q⟩,o,u,j⟩;obtain⟨m,p,v⟩:=n X l i t o;exact⟨m,env2,c,q,p,u.trans v,j⟩
def Hd.afterG(h:Hd P N d env H (λe b f=>∃env2 c,yr N b f env2 c/\Q e env2 c)):Hd P N d env H Q:=by intro r X g a w s k;apply V8 (h r X g a w s k);rintro e i t ⟨l,b,f,⟨env2,c,n,q⟩,o,u,j⟩;obtain⟨m,p,v⟩:=n X l i t o;exact⟨m,env2,c,q,p,u.trans v,j⟩
def rG.afterG(h:rG P N d env H (λe a c=>∃env2 b,yr N a c env2 b/\Q e env2 b)):rG P N d env H Q:=by
 cases d with
 |loop x=>exact Hd.afterG h
 |_=>exact JU.afterG h
def mvH(H:Ap)(n m:Nat)(e:E5):Ap:=(H.set n e).set m .dead
def gM{e f:E5}(g:n≠N)(hn:n<θ H)(a:(mvH H n N f)[G]?=δ e)(d:e≠.dead):(G=n/\e=f)\/(G≠n/\G≠N/\H[G]?=δ e):=by unfold mvH at a;by_cases b:G=N;subst b;rw[XS]at a;rw[C! rfl]at a;split at a;injection a with a;exact N! a.symm d;cases a;rw[DD (λq=>b q.symm)]at a;by_cases c:G=n;subst c;rw[GJ hn]at a;injection a with a;exact .inl ⟨rfl,a.symm⟩;rw[DD (λq=>c q.symm)]at a;exact .inr ⟨c,b,a⟩
def Gq.mv{n m gn b:Nat}{cn d:List AV}(s:IC X h H w)(hn:H[n]?=δ (.live gn cn))(j:H[m]?=δ (.live b d))(f:n≠m)(v:gn<b):Gq h H w (h.at_ n (h.io m) (h.gen m) (h.cap m)) (mvH H n m (.live b d)) w:=by have i:h.gen n=gn:=(s.live n gn cn hn).1;have g:h.gen m=b:=(s.live m b d j).1;have p:n<θ H:=(Fp.1 hn).1;refine⟨rfl,rfl,rfl,Ai _,λ_ _ _=>rfl,by simp[mvH],λid _=>?_,λid _ e=>?_,λB t=>?_,λ_ r hr=>⟨r,hr⟩⟩;simp only[Gh.at_];split;rename_i q;rw[q,i,g];omega;exact Ai _;simp only[Gh.at_]at e⊢;split at e;rename_i q;rw[q,i,g]at e;omega;rename_i q;simp[q];obtain⟨id,e,o,c,a⟩:=t;rcases gM f p o c with⟨rfl,rfl⟩|⟨k,u,l⟩;simp only[Gh.at_,if_true]at a;exact .inl ⟨m,_,j,k!,a⟩;simp only[Gh.at_,D! k]at a;exact .inl ⟨id,e,l,c,a⟩
def IC.mv{n m gn R:Nat}{cn cm:List AV}(s:IC X h H w)(hn:H[n]? =some (.live gn cn))(O:H[m]? =some (.live R cm))(d:n≠m)(hg:gn<R):IC X (h.at_ n (h.io m) (h.gen m) (h.cap m)) (mvH H n m (.live R cm)) w:=by
 have hx:=Gq.mv s hn O d hg;have E:=hx.later X;have F:n<H.length:=(Fp.1 hn).1;refine⟨λB V=>⟨(s.out B V).1,λho=>?_⟩,λid g cs A=>?_,λid L A=>?_,λid M e e' B A K D i o c=>?_,λid e A W=>?_⟩;rcases hx.fresh B ho with q|q;exact(s.out B V).2 q;have:=(s.out B V).1;omega;rcases gM d F A k! with⟨rfl,q⟩|⟨l,N,y⟩;injection q with P q2;subst P q2;obtain⟨a,b⟩:=s.live m g cs O;refine⟨by simp[cx,Gh.at_];exact a,?_⟩;rcases b with⟨p,u⟩|⟨B,z,T,Q,f,p,u,G,I,J,x⟩;exact .inl ⟨by simp only[cx,Gh.at_,if_true];exact p,u⟩;exact .inr ⟨B,z,T,Q,f,by simp only[cx,Gh.at_,if_true];exact p,u,by simp only[cx,Gh.at_,if_true];exact G,I,J,λj v C=>⟨(x j v C).1,(x j v C).2.1,(x j v C).2.2.later E⟩⟩;obtain⟨a,b⟩:=s.live id g cs y;refine⟨by simp only[cx,Gh.at_,if_neg l];exact a,?_⟩;rcases b with⟨p,u⟩|⟨B,z,T,Q,f,p,u,G,I,J,x⟩;exact .inl ⟨by simp only[cx,Gh.at_,if_neg l];exact p,u⟩;exact .inr ⟨B,z,T,Q,f,by simp only[cx,Gh.at_,if_neg l];exact p,u,by simp only[cx,Gh.at_,if_neg l];exact G,I,J,λj v C=>⟨(x j v C).1,(x j v C).2.1,(x j v C).2.2.later E⟩⟩;rcases gM d F A k! with⟨rfl,q⟩|⟨l,N,y⟩;cases q;obtain⟨a,B,r,p,u,G,I,J,x,b7,b8,Z⟩:=s.lp id L y;exact⟨by simp only[cx,Gh.at_,if_neg l];exact a,B,r,by simp only[cx,Gh.at_,if_neg l];exact p,u,G,I,J,x,b7,b8,λt v hv=>⟨(Z t v hv).1,(Z t v hv).2.later E⟩⟩;rcases gM d F A D with⟨P,q2⟩|⟨l,N,y⟩;rcases gM d F K i with⟨Y,q4⟩|⟨S,h5,U⟩;rw[P,Y];subst P;simp only[Gh.at_,if_true]at o;simp only[Gh.at_,if_neg S]at c;exact absurd (s.inj m M _ _ B O U k! i o c).symm h5;rcases gM d F K i with⟨Y,q4⟩|⟨S,h5,U⟩;subst Y;simp only[Gh.at_,if_true]at c;simp only[Gh.at_,if_neg l]at o;exact absurd (s.inj id m _ _ B y O D k! o c) N;simp only[Gh.at_,if_neg l]at o;simp only[Gh.at_,if_neg S]at c;exact s.inj id M e e' B y U D i o c;rcases gM d F A (by rintro rfl;cases W)with⟨rfl,q⟩|⟨l,N,y⟩;subst q;cases W;have b:=s.bld id e y W;cases e with
 |mp k es=>simpa only[BAt,Gh.at_,if_neg l]using b
 |it k sn=>simpa only[BAt,Gh.at_,if_neg l]using b
 |_=>trivial
def yr.mv{n m gn b:Nat}{cn f:List AV}(hn:H[n]?=δ (.live gn cn))(i:H[m]?=δ (.live b f))(e:n≠m)(l:gn<b)
  (A:∀t v,(t,v)∈y->(t,v)∈env\/∃sz d len,v=.sl n b sz d len/\(t,AV.sl m b sz d len)∈env):yr N env H y (mvH H n m (.live b f)):=by
 intro X h a w s;have o:=Gq.mv s.sim hn i e l;have j:h.gen m=b:=(s.sim.live m b f i).1;have G:n<θ H:=(Fp.1 hn).1;refine⟨_,⟨s.sim.mv hn i e l,λt v z=>?_,s.size⟩,o⟩;rcases A t v z with q|⟨sz,d,len,rfl,q⟩;exact⟨(s.env t v q).1,(s.env t v q).2.later (o.later X)⟩;obtain⟨p,k⟩:=s.env t _ q;refine⟨p,?_⟩;generalize a.tmps.getD t undef=c at k;cases k with
 |sl x u g r=>refine .sl (by simp[cx,mvH];exact G) (by simp only[cx,Gh.at_,if_true];rw[j];exact Ai _) g λ_=>?_;rcases r j with q|⟨B,cap,C,D,E,F⟩;exact .inl ⟨by simp only[cx,Gh.at_,if_true];exact q.1,q.2⟩;exact .inr ⟨B,cap,by simp only[cx,Gh.at_,if_true];exact C,D,by simp only[cx,Gh.at_,if_true];exact E,F⟩
end
section
variable {R:Type}{P:Program}{N:Nat}
def yr.refl(N:Nat)(env:Env)(H:Ap):yr N env H env H:=λ_ h _ w s=>⟨h,s,Gq.refl h H w⟩
def yr.trans{N:Nat}{f g i:Env}{c d e:Ap}(a:yr N f c g d)(b:yr N g d i e):yr N f c i e:=λX h x w s=>by obtain⟨j,l,n⟩:=a X h x w s;obtain⟨k,m,o⟩:=b X j x w l;exact⟨k,m,n.trans o⟩
def AHD{k:BT->Am->Option R}{r:R}(ok:Np e c)(h:mv1 G n e c k=δ r):∃a g,yr N (Bq e) (A8 c) (Bq a) (A8 g)/\k a g=δ r/\Np a g/\D4 [G] e c a g:=by
 have same:k e c=δ r->∃a g,yr N (Bq e) (A8 c) (Bq a) (A8 g)/\k a g=δ r/\Np a g/\D4 [G] e c a g:=λq=>⟨e,c,.refl _ _ _,q,ok,⟨.refl c,λ_ _ _=>rfl⟩⟩
 unfold mv1 at h;split at h;rename_i m j t J I;split at h;exact same h;rename_i b;have b:m≠n:=λq=>by rw[q,HD]at b;cases b
 split at h;rename_i W l1 F l X l2 H Y hn w;split at h;rename_i D z;have D:=Cy D;subst D;simp only[BN]at z;have x:=Ty.beq_eq _ _ z.1;have y:=Ty.beq_eq _ _ z.2;injection x with x;injection y with y;subst x y;cases f:τ (F<H)with
 |false=>rw[f]at h;cases h
 |true=>
  rw[f,B!]at h;have f:F<H:=M! f;have hr:Rf c m j t J:=by have:=jk ok.env G;rw[I]at this;exact this (.own m j t J) (by simp[TV.refs])
  obtain⟨_,A⟩:=hr.2 _ _ _ _ _ w;obtain⟨_,A⟩:=A rfl;subst A;have K:Bz c (c.set n (.buf η t l2 H (l+1))):=Bz.set hn rfl λ_ _ _ _ _ q=>by cases q;exact⟨_,_,_,_,rfl,.inl (Nat.lt_succ_self _)⟩
  have B:(c.set n (.buf η t l2 H (l+1)))[m]?=δ (.buf η t l2 H j):=by rw[DD (λq=>b q.symm)];exact w
  have L:Bz (c.set n (.buf η t l2 H (l+1))) ((c.set n (.buf η t l2 H (l+1))).set m .dead):=Bz.set B rfl λ_ _ _ _ _ q=>by cases q
  have st:=K.trans L;have C:H=θ l2:=ok.heap _ (BM w);have i:n<θ c:=(Fp.1 hn).1;have o:=RG K ok.heap (show Di.ok _ (.buf η t l2 H (l+1))from C);refine⟨_,_,?_,h,⟨ac (d:=δ G) (st.env ok.env) ?_,RG L o trivial⟩,⟨st,λu p _=>?_⟩⟩;have O:A8 ((c.set n (.buf η t l2 H (l+1))).set m .dead)=mvH (A8 c) n m (.live H (t.E.cl l2)):=by rw[Kx,Kx];rfl
  rw[O];refine yr.mv (gn:=F) (cn:=t.E.cl l1) (by rw[Dy,hn];rfl) (by rw[Dy,w];rfl) (λq=>b q.symm) f (λu v p=>?_);rw[jR]at p;unfold Env.put at p;rcases A1.1 p with q|q;injection q with P Q;subst P Q;refine .inr ⟨t.sz,0,H,rfl,?_⟩;exact Bk.2 ⟨_,YX I (λq=>by cases q),rfl⟩;exact .inl (BU.1 q).1;refine JW ⟨by simpa using i,λS V T U M E=>?_⟩;rw[DD b,GJ i]at E;cases E;exact⟨Ai _,λ_=>⟨rfl,rfl⟩⟩;have s:u≠G:=λq=>p (by simp[q]);unfold BT.put;simp only[BT.get];rw[beq_false (λq=>s q.symm)];exact qv s e
 cases h;exact same h;exact same h
def zi:∀{j:List OV}{env:BT}{H:Am}{k:BT->Am->Option R}{r:R},Np env H->mvs j env H k=δ r->∃f i,yr N (Bq env) (A8 H) (Bq f) (A8 i)/\k f i=δ r/\Np f i/\D4 (VI j) env H f i
 |[],env,H,k,r,ok,h=>⟨env,H,.refl _ _ _,h,ok,⟨.refl H,λ_ _ _=>rfl⟩⟩
 |s::j,env,H,k,r,ok,h=>by
  have l:mvs j env H k=δ r->(∀t,t∈VI j->t∈VI (s::j))->∃f i,yr N (Bq env) (A8 H) (Bq f) (A8 i)/\k f i=δ r/\Np f i/\D4 (VI (s::j)) env H f i:=λq A=>by obtain⟨e,i,a,b,c,d⟩:=zi ok q;exact⟨e,i,a,b,c,d.mono A⟩
  cases s with
  |g t n=>simp only[mvs]at h;obtain⟨E,D,a1,o,v,x⟩:=AHD (N:=N) ok h;obtain⟨z,m,a2,p,w,y⟩:=zi v o;exact⟨z,m,a1.trans a2,p,w,(x.trans ok.env y).mono λu C=>by simpa[VI]using C⟩
  |_=>exact l h λt B=>by simp[VI,B]
def ADe(hr:JX P N E d j)(i:∀t,t∈E->t∈b)(o:∀t,t∈VI q->t∈b):JX P N b d (ADd q j):=by intro R env H k r ok p;obtain⟨e,env1,l,a1,k1,a,B⟩:=hr env H _ r ok p;split at k1;obtain⟨n,m,g,s,f,h⟩:=zi (N:=N) a k1;refine⟨e,n,m,rG.afterG (a1.mono ?_),s,f,(B.trans ok.env h).mono λt A=>(Ao.1 A).elim (i t) (o t)⟩;rintro x u v ⟨rfl,rfl,rfl⟩;exact⟨_,_,g,rfl,rfl,rfl⟩;exact⟨e,env1,l,a1,k1,a,B.mono i⟩
end
variable {P:Program}{N:Nat}
def JX.mono(h:JX P N b d j)(f:∀t,t∈b->t∈E):JX P N E d j:=λenv H k r ok g=>by obtain⟨e,a,A,i,B,l,m⟩:=h env H k r ok g;exact⟨e,a,A,i,B,l,m.mono f⟩
def sy{hs:List Hint}{A B:List Nat}(hr:JX P N B d j)(c:∀t,t∈B->t∈A)(b:∀t,t∈qJ hs d->t∈A):JX P N A d (vA (hintOf hs d) A j):=by
 unfold qJ at b;generalize hintOf hs d=o at b⊢;cases o with
 |none=>exact hr.mono c
 |some h=>exact λenv H k r ok f=>yD hr c (h:=h.rel (θ H)) (λt e=>b t (by rw[S2]at e;exact e)) env H k r ok f
def ADV{hs:List Hint}{A B:List Nat}(hr:JX P N B d Z.main)(i:AAX P N B d Z.pre)(g:JX P N B (lT d) Z.suf)(e:∀t,t∈B->t∈A)(b:∀t,t∈qJ hs (.loop d)->t∈A):JX P N A (.loop d) (tH (hintOf hs (.loop d)) A Z):=by
 unfold qJ at b;generalize hintOf hs (.loop d)=o at b⊢;cases o with
 |none=>exact λenv H k r ok a=>by cases a
 |some h=>
  intro R env H k r ok a;have a:tH (δ h) A Z env H k=δ r:=a;have b:∀t,t∈(h.rel (θ H)).tmps->t∈A:=λt c=>b t (by rw[S2]at c;exact c);cases f:ξ h.kind 8 with
  |true=>rw[show tH (δ h) A Z env H k=AA6 (h.rel (θ H)) A Z env H k by simp only[tH,f]]at a;exact ADW i g e b env H k r ok a
  |false=>rw[show tH (δ h) A Z env H k=vE (h.rel (θ H)) A (ADd (h.rel (θ H)).slots Z.main) env H k by simp only[tH,f]]at a;exact ADU (ADe hr e λt c=>b t (by unfold Hint.tmps;simp only[List.mem_append];exact .inl (.inr c))) (λ_ q=>q) b env H k r ok a
def Vk:∀{env:BT}{p:Nat×TV},p∈gN env->p∈env/\LC p.2.refs=[]
 |(t,v)::r,p,h=>by simp only[gN]at h;split at h;rename_i a;rcases A1.1 h with rfl|h;exact⟨Ip,a⟩;exact⟨CN _ (Vk h).1,(Vk h).2⟩;exact⟨CN _ (Vk h).1,(Vk h).2⟩
theorem AB4(f:Vn P u){B:Array Tmp}:JX P N b (.rangeFunc z B d S) (zx P u N F z B d S):=by
 intro R env H k r ok q;unfold zx at q;dsimp only at q;split at q;rename_i G first m hf
 split at q;rename_i hE;have Z:BI (Bq env) z=.fn (.func G) first m:=by rw[LK,hf];rfl
 have E:(Di.lp η F N (gN env) B d S .ready).ok (H++[.lp η F N (gN env) B d S .ready]):=λp T id af t n hm=>by have:=mW hm;rw[(Vk T).2]at this;cases this
 have V:Bz H (H++[.lp η F N (gN env) B d S .ready]):=Bz.push H _;obtain⟨v,i,q1,K,q3,q4,q5⟩:=f (.fn G) _ _ _ r (λv Y=>by simp only[Ao,Bk,A7]at Y;rcases Y with(⟨A,_,rfl⟩|rfl)|⟨A,_,rfl⟩;exact j8 A;exact JW trivial;exact j8 A) (PW ok.heap E) q
 have y:∀{ro:Bool}{w n e p c Q}{s:LS}{x:Exit},i[θ H]?=δ (.lp ro w n e p c Q s)→ro=η→(∀L:lK,L.state=s.st→L.pending=s.pend→AD3 P N (Bq env) (θ H) (UD x (Bq env) (A8 (i.set (θ H) .dead))) ((A8 i).set (θ H) (.lp L)))→k x env (i.set (θ H) .dead)=δ r→
   ∃W g O,rG P N (.rangeFunc z B d S) (Bq env) (A8 H) (UD W (Bq g) (A8 O))/\k W g O=δ r/\Np g O/\D4 b env H g O:=by
  intro ro w n e p c Q s x o U hq q;subst U;have M:Bz i (i.set (θ H) .dead):=Bz.set o rfl λ_ _ _ _ _ h=>by cases h
  have st:=(V.trans q5).trans M;refine⟨x,env,_,D2 (λ_ e=>by cases e) (lB (Bq (gN env)) (λp T=>?_) Z hE ?_),q,⟨st.env ok.env,RG M q4 trivial⟩,st,λ_ _ _=>rfl⟩;obtain⟨A,hu,rfl⟩:=Bk.1 T;exact Bk.2 ⟨A,(Vk hu).1,rfl⟩;have J:ET P G _ _ _:=q1;have a:(first.map tvA++[TV.c (.raw (.yf (θ H)))]++m.map tvA).map TV.enc=first++[.yf (A8 H).length]++m:=by
   have X:∀l:List AV,(l.map tvA).map TV.enc=l:=by
    intro l;rw[QM];conv=>rhs;rw[<-dj l]
    grind[List.map_congr_left,gX]
   rw[Mr,Mr,X,X,CK];rfl
  rw[a,Q4]at J;apply J.mono;rintro _ _ ⟨rfl,rfl⟩;rw[CK];have I:A8 i=(A8 i).set (θ H) (.lp ⟨n,Bq e,p,c,Q,s.st,s.pend⟩):=by
   have hg:(A8 i)[θ H]?=δ (.lp ⟨n,Bq e,p,c,Q,s.st,s.pend⟩):=by rw[Dy,o];rfl
   apply Is;intro j;by_cases ad:j=θ H<;>grind
  rw[I];exact hq _ rfl rfl
 have look:∀L:lK,θ H<θ i->((A8 i).set (θ H) (.lp L))[θ H]?=δ (.lp L):=λL h=>by grind[List.getElem?_set_self,CK]
 have dead:∀L:lK,((A8 i).set (θ H) (.lp L)).set (θ H) .dead=A8 (i.set (θ H) .dead):=λL=>by rw[Xf,Kx];rfl
 split at K;rename_i o;refine y o rfl (λL C D=>⟨L,look L (G0 o),by rw[C];simp[LS.st],?_⟩) K;rw[D,dead];exact⟨rfl,rfl,rfl⟩;rename_i o;refine y o rfl (λL C D=>⟨L,look L (G0 o),by rw[C];simp[LS.st],?_⟩) K;rw[D,dead];exact JU.ret ⟨rfl,rfl,rfl⟩;rename_i x o;refine y o rfl (λL C D=>⟨L,look L (G0 o),by rw[C];simp[LS.st],?_⟩) K;rw[D,dead];exact JU.exit ⟨rfl,rfl,rfl⟩;cases K;cases q;cases q
theorem AC2{hs:List Hint}(h:nG d S=δ O):∀t∈O.tmps,t∈Od hs d++Od hs S:=by obtain⟨o,v,l,q,w,n,r,x,s,y,u,z,rfl,rfl,f,g,i,j,k,_⟩:=nH h;obtain⟨_,_,_,_,_,_,l1⟩:=qQ f;obtain⟨_,_,_,_,_,_,l2⟩:=qR g;obtain⟨_,_,_,_,_,_,_,_,_,_,_,_,c⟩:=qS i;obtain⟨_,_,_,_,_,_,_,_,_,_,_,_,_,_,_,a⟩:=qT j;obtain⟨_,_,_,_,_,_,_,e⟩:=qU k;intro t b;simp only[Od,l1,l2,c,a,e,nK,Ao];simp only[Xa.tmps]at b;grind
theorem AFw(S:∀c∈f,c.Ok P)(O:Vn P u)(y:FuncId)(d:List Hint):∀c:Code,JX P N (Od d c) c (qo P f u N y d c)/\(∀m r,c=.seq m r->JX P N (Od d r) r (qo P f u N y d r))/\AAX P N (Od d c) c (dT P f u N y d c).pre/\JX P N (Od d c) (lT c) (dT P f u N y d c).suf:=by
 have L:∀(A:List Nat)(c:Code),JX P N A c PV:=λA c R env H k r ok j=>by cases j
 have g:∀(A:List Nat)(c:Code),AAX P N A c PV:=λA c R env H k r ok j=>by cases j
 intro c;induction c with
 |skip=>exact⟨λenv H k r ok j=>⟨.normal,env,H,D2 (λ_ e=>by cases e) (JU.skip ⟨rfl,rfl,rfl⟩),j,ok,D4.refl _ _ _⟩,λ_ _ e=>(by cases e),g _ _,L _ _⟩
 |ret=>exact⟨λenv H k r ok j=>⟨.ret,env,H,D2 (λ_ e=>by cases e) (JU.ret ⟨rfl,rfl,rfl⟩),j,ok,D4.refl _ _ _⟩,λ_ _ e=>(by cases e),g _ _,L _ _⟩
 |exit id=>exact⟨λenv H k r ok j=>⟨.exit id,env,H,D2 (λ_ e=>by cases e) (JU.exit ⟨rfl,rfl,rfl⟩),j,ok,D4.refl _ _ _⟩,λ_ _ e=>(by cases e),g _ _,L _ _⟩
 |seq a b D w=>
  refine⟨?_,λm r e=>(by injection e with V C;subst V C;exact w.1),?_,?_⟩;rotate_left;by_cases I:∃m z,b=.seq m z;obtain⟨m,z,rfl⟩:=I;intro env H k r ok j;obtain⟨e,env1,J,a1,k1,v,M⟩:=D.1 env H _ r ok (show qo P f u N y d a env H _=δ r from j);cases e with
  |normal=>obtain⟨C,env2,K,a2,Y,F,Z⟩:=w.2.2.1 env1 J k r v k1;refine⟨C,env2,K,JU.mono a1.awp ?_,Y,F,(D4.trans ok.env M Z).mono λt l=>Ao.2 (.inl l)⟩;rintro _ _ _ ⟨rfl,rfl,rfl⟩;exact a2
  |_=>refine⟨_,env1,J,JU.mono a1.awp ?_,k1,v,M.mono λt l=>Ao.2 (.inl (Ao.2 (.inl l)))⟩;rintro _ _ _ ⟨rfl,rfl,rfl⟩;exact⟨rfl,rfl,rfl⟩
  intro env H k r ok j;have j:qo P f u N y d a env H k=δ r:=by cases b<;>first|exact j|exact N! ⟨_,_,rfl⟩ I
  obtain⟨e,env1,J,a1,k1,v,M⟩:=D.1 env H k r ok j;have C:∀Q,Za P N (.seq a b) (Bq env) (A8 H) Q=JU P N a (Bq env) (A8 H) Q:=λQ=>by cases b<;>first|rfl|exact N! ⟨_,_,rfl⟩ I
  exact⟨e,env1,J,by rw[C];exact a1.awp,k1,v,M.mono λt l=>Ao.2 (.inl (Ao.2 (.inl l)))⟩;have mo:∀t,t∈Od d b->t∈Od d (.seq a b):=λt l=>Ao.2 (.inl (Ao.2 (.inr l)));intro R env H k r ok j;by_cases I:∃m z,b=.seq m z;obtain⟨m,z,rfl⟩:=I;exact JX.mono w.2.2.2 mo env H k r ok j;have q:JX P N (Od d (.seq a b)) b (qo P f u N y d b):=JX.mono w.1 mo;have j:qo P f u N y d b env H k=δ r:=by cases b<;>first|exact j|exact N! ⟨_,_,rfl⟩ I
  have C:lT (.seq a b)=b:=by cases b<;>first|rfl|exact N! ⟨_,_,rfl⟩ I
  rw[C];exact q env H k r ok j;have U:JX P N (Od d a++Od d b) (.seq a b) (λenv H k=>qo P f u N y d a env H λe n G=>match e with|.normal=>qo P f u N y d b n G k|e=>k e n G):=by
   intro R env H k r ok j;obtain⟨e,env1,J,a1,k1,v,M⟩:=D.1 env H _ r ok j;cases e with
   |normal=>obtain⟨C,env2,K,a2,Y,F,Z⟩:=w.1 env1 J k r v k1;refine⟨C,env2,K,D2 (λ_ e=>by cases e) (JU.seq (a1.awp.mono ?_)),Y,F,D4.trans ok.env M Z⟩;rintro _ _ _ ⟨rfl,rfl,rfl⟩;exact a2.awp
   |_=>refine⟨_,env1,J,D2 (λ_ e=>by cases e) (JU.seq (a1.awp.mono ?_)),k1,v,M.mono λt l=>Ao.2 (.inl l)⟩;rintro _ _ _ ⟨rfl,rfl,rfl⟩;exact⟨rfl,rfl,rfl⟩
  intro R env H k r ok j;by_cases I:∃m z,b=.seq m z;obtain⟨m,z,rfl⟩:=I;simp only[qo,dT]at j;split at j;rename_i p hp;obtain⟨env1,J,a1,k1,v,M⟩:=AC1 S hp ok j;obtain⟨C,env2,K,a2,Y,F,Z⟩:=w.2.1 m z rfl env1 J k r v k1;refine⟨C,env2,K,D2 (λ_ e=>by cases e) (JU.seq (a1.mono ?_)),Y,F,(D4.trans ok.env M Z).mono λt l=>?_⟩;intro e E h hx;cases e with
  |normal=>exact JU.seq (hx.mono (by rintro _ _ _ ⟨rfl,rfl,rfl⟩;exact a2.awp))
  |_=>exact hx.elim
  show t∈(Od d a++((Od d m++Od d z)++tk d m z))++tk d a (.seq m z);rcases Ao.1 l with l|l;rcases Ao.1 (AC2 (hs:=d) hp t l)with h|h<;>simp[h];simp[l];exact U.mono (λt l=>Ao.2 (.inl l)) env H k r ok j;have j:qo P f u N y d (.seq a b) env H k=δ r:=j;rw[AFx λm r e=>I ⟨m,r,e⟩]at j;have hA:∀t,t∈tk d a b->t∈Od d (.seq a b):=λt l=>Ao.2 (.inr l);have hB:∀t,t∈Od d a++Od d b->t∈Od d (.seq a b):=λt l=>Ao.2 (.inl l);unfold tk at hA;generalize rC d a b=o at j hA;cases o with
  |none=>exact U.mono hB env H k r ok j
  |some h=>exact yD U hB (h:=h.rel (θ H)) (λt l=>hA t (by rw[S2]at l;exact l)) env H k r ok j
 |cond c a b D w=>have W:JX P N (Od d a++Od d b) (.cond c a b) (AAm c (qo P f u N y d a) (qo P f u N y d b)):=AC3 D.1 w.1;refine⟨?_,λ_ _ e=>(by cases e),g _ _,L _ _⟩;intro R;exact sy (hs:=d) (A:=Od d (.cond c a b)) W (λt l=>Ao.2 (.inl l)) (λt l=>Ao.2 (.inr l))
 |block id b X=>have W:JX P N (Od d b) (.block id b) (zH id (qo P f u N y d b)):=ABV X.1;refine⟨?_,λ_ _ e=>(by cases e),g _ _,L _ _⟩;intro R;exact sy (hs:=d) (A:=Od d (.block id b)) W (λt l=>Ao.2 (.inl l)) (λt l=>Ao.2 (.inr l))
 |loop b X=>exact⟨ADV (hs:=d) (A:=Od d (.loop b)) X.1 X.2.2.1 X.2.2.2 (λt l=>Ao.2 (.inl l)) (λt l=>Ao.2 (.inr l)),λ_ _ e=>(by cases e),g _ _,L _ _⟩
 |region id s B=>
  refine⟨?_,λ_ _ e=>(by cases e),(by cases B<;>exact g _ _),(by cases B<;>exact L _ _)⟩;cases B with
  |false=>
   have W:JX P N (nK s.toList) (.region id s η) (λenv H k=>match On N s.toList with
    |true=>ye P f u s (guards s) η s.toList 0 env H λn G=>k .normal n G
    |false=>ε):=by
    intro R env H k r ok j;dsimp only at j;split at j;rename_i T;obtain⟨n,G,r1,r2,r3,r4⟩:=gQ (N:=N) S O _ _ _ _ _ _ ok j;refine⟨.normal,n,G,D2 (λ_ e=>by cases e) (FU T ?_),r2,r3,r4⟩;show WL P N s s.toList (Bq env) (A8 H) (λV K=>Exit.normal=Exit.normal/\V=Bq n/\K=A8 G);simpa using r1;cases j
   intro R;exact sy (hs:=d) (A:=Od d (.region id s η)) W (λt l=>Ao.2 (.inl l)) (λt l=>Ao.2 (.inr l))
  |true=>
   intro R env H k r ok j;simp only[qo,dT]at j;split at j;rename_i T;simp only[BN]at T;obtain⟨n,G,r1,r2,r3,r4⟩:=YV (N:=N) S O _ _ _ _ _ _ ok j;refine⟨.normal,n,G,D2 (λ_ e=>by cases e) (jU T.1.1.1 _ T.1.1.2 T.1.2 ?_ ?_),r2,r3,r4.mono λt l=>Ao.2 (.inl ?_)⟩;have:=ZW T.2;rw[Bq,QM];exact this;show RA P N s (zr s) [] (Bq env) (A8 H) (λV K=>Exit.normal=Exit.normal/\V=Bq n/\K=A8 G);simpa using r1;unfold uI at l;obtain⟨i,_,hi⟩:=Sq.1 l;cases ho:s[i]? with
   |none=>rw[ho]at hi;cases hi
   |some o=>
    rw[ho]at hi;refine Sq.2 ⟨o,?_,hi⟩;have:s.toList[i]?=δ o:=by simpa using ho
    exact BM this
   cases j
 |rangeFunc x ps a b _ _=>exact⟨AB4 O,λ_ _ e=>(by cases e),g _ _,L _ _⟩
 |_=>exact⟨λenv H k r ok j=>(by simp only[qo,dT,PV]at j;cases j),λ_ _ e=>(by cases e),g _ _,L _ _⟩
theorem pd(b:∀c∈f,c.Ok P)(e:Vn P u)(g:FuncId)(d:List Hint)(c:Code):JX P N (Od d c) c (qo P f u N g d c):=by grind[AFw]
end Go.Ab
namespace Go.Ab
def bx:Nat->List TV->BT
 |_,[]=>[]
 |i,v::r=>(i,v)::bx (i+1) r
def mY(P:Program)(env:BT)(H:Am):List ResultVar->Option (List TV)
 |[]=>δ []
 |.tmp t::r=>match mY P env H r with|some vs=>δ (env.get t::vs)|none=>ε
 |.cell a t::r=>match mY P env H r with|some vs=>loadT P H t (env.get a) λv=>δ (v::vs)|none=>ε
def yC:Exit->Bool
 |.normal=>ζ
 |.ret=>ζ
 |_=>η
variable {N n G:Nat}{R K:Type}{c D:Am}{e L Y:BT}{f:List Pg}{F:FuncId}{P:Program}{k:Bool}{l:AV}{p:List TV}{s:List AV}{x:Ty}{C:Int}{J:Exit}{T:Value}{V:Func}
def AH4(P:Program)(fn:Func)(k:TV->Am->Option R):Exit->BT->Am->Option R:=λe env H=>
 match yC e with
 |true=>match mY P env H fn.results.toList with|some vs=>k (one vs) H|none=>ε
 |false=>ε
def yi:BT->List Tmp->List TV->BT
 |env,t::ts,v::vs=>yi (env.put t v) ts vs
 |env,_,_=>env
def AD8(id:Nat)(k:TV->Am->Option R):Exit->BT->Am->Option R:=λe _ H=>
 match H[id]? with
 |some (.lp η F n env ps a b _)=>
  match e with
  |.normal=>k (.c (.bl ζ)) (H.set id (.lp η F n env ps a b .ready))
  |.ret=>k (.c (.bl η)) (H.set id (.lp η F n env ps a b .ret))
  |.exit x=>k (.c (.bl η)) (H.set id (.lp η F n env ps a b (.exit x)))
  |_=>ε
 |_=>ε
noncomputable def AAG(P:Program)(cs:List Pg)(call:Rq)(hs:FuncId->List Hint)(id:Nat)(vs:List TV)(H:Am){R:Type}(k:TV->Am->Option R):Option R:=
 match H[id]? with
 |some (.lp η F n env ps a b .ready)=>
  match ξ (θ vs) ps.size&&ps.toList.all λt=>Nat.blt t n with
  |true=>qo P cs call n F (hs F) a (yi env ps.toList vs) H λe env1 H1=>
   match e with
   |.normal=>
    match H1[id]? with
    |some (.lp η F1 n1 e1 ps1 a1 b1 .ready)=>qo P cs call n F (hs F) b env1 (H1.set id (.lp η F1 n1 e1 ps1 a1 b1 .busy)) (AD8 id k)
    |_=>ε
   |_=>ε
  |false=>ε
 |_=>ε
noncomputable def pu(P:Program)(cs:List Pg)(hs:FuncId->List Hint):Nat->Rq
 |0=>λ_ _ _ _=>ε
 |n+1=>λtg vs H k=>
  match tg with
  |.fn F=>
   match P.funcs[F]? with
   |some fn=>
    match fn.body with
    |some c=>match Nat.ble (θ vs) fn.ntmps with|true=>qo P cs (pu P cs hs n) fn.ntmps F (hs F) c (bx 0 vs) H (AH4 P fn k)|false=>ε
    |none=>ε
   |none=>ε
  |.yd id=>AAG P cs (pu P cs hs n) hs id vs H k
def sw(bt:Ty):(rs:List Ty)->DL rs->bt.D->DL (rs++[bt])
 |[],_,b=>b
 |[_],y,b=>(y,b)
 |_::u::r,y,b=>(y.1,sw bt (u::r) y.2 b)
def refsOf(vs:List TV):List Nat:=vs.flatMap λv=>LC v.refs
def AH1(P:Program)(fn:Func)(rs:List Ty):Exit->BT->Am->Option (DL rs):=λe env H=>
 match yC e with
 |true=>
  match mY P env H fn.results.toList with
  |some vs0=>match ID (refsOf vs0) env H with|(ef,hf)=>match mY P ef hf fn.results.toList with|some vs=>inp rs vs|none=>ε
  |none=>ε
 |false=>ε
def AH2(P:Program)(fn:Func)(bt:Ty)(rs:List Ty):Exit->BT->Am->Option (DL (rs++[bt])):=λe env H=>
 match yC e with
 |true=>
  match mY P env H fn.results.toList with
  |some vs0=>
   match ID (refsOf vs0++(match (H[0]? :Option Di)with|some (.live _ cs)=>LC cs|_=>[])) env H with
   |(ef,hf)=>
    match mY P ef hf fn.results.toList,(hf[0]? :Option Di)with
    |some vs,δ (.live _ cs)=>match inp rs vs,bt.all cs with|some y,δ b=>δ (sw bt rs y b)|_,_=>ε
    |_,_=>ε
  |none=>ε
 |false=>ε
def sq:Nat->TV->List TV->List TV
 |0,v,l=>v::l
 |n+1,v,x::l=>x::sq n v l
 |_+1,v,[]=>[v]
noncomputable def xT(P:Program)(cs:List Pg)(hs:FuncId->List Hint)(n:Nat)(F:FuncId)(ds rs:List Ty)(x:DL ds):Option (DL rs):=
 match P.funcs[F]? with
 |some fn=>
  match fn.body with
  |some c=>match Nat.ble (vf ds x).length fn.ntmps with|true=>qo P cs (pu P cs hs n) fn.ntmps F (hs F) c (bx 0 (vf ds x)) [] (AH1 P fn rs)|false=>ε
  |none=>ε
 |none=>ε
noncomputable def ACs(P:Program)(cs:List Pg)(hs:FuncId->List Hint)(n:Nat)(F:FuncId)(pos:Nat)(bt:Ty)(ds rs:List Ty)(b:bt.D)(x:DL ds):Option (DL (rs++[bt])):=
 match P.funcs[F]? with
 |some fn=>
  match fn.body with
  |some c=>
   match Nat.ble (sq pos (.c (.raw (.ptr 0 0 0))) (vf ds x)).length fn.ntmps with
   |true=>qo P cs (pu P cs hs n) fn.ntmps F (hs F) c (bx 0 (sq pos (.c (.raw (.ptr 0 0 0))) (vf ds x))) [.live η (bt.lvs b)] (AH2 P fn bt rs)
   |false=>ε
  |none=>ε
 |none=>ε
theorem cC:∀(l:List TV)(i:Nat),Bq (bx i l)=env0 i (l.map TV.enc)
 |[],_=>rfl
 |v::r,i=>by have:=cC r (i+1);grind[Bq,bx,env0]
def jS{H:Am}:∀{l:List TV}{i:Nat},(∀v∈l,v.ok H)->∀p∈bx i l,p.2.ok H
 |[],_,_,p,a=>by cases a
 |v::r,i,h,p,a=>by simp only[bx]at a;rcases A1.1 a with rfl|a;exact h v k!;exact jS (λw b=>h w (by simp[b])) p a
theorem kf{P:Program}{env:BT}{H:Am}(d:∀p∈env,p.2.ok H)(c:∀e∈H,e.ok H):∀{l:List ResultVar}{b:List TV},mY P env H l=δ b->Sk P (Bq env) (A8 H) l=δ (b.map TV.enc)/\∀v∈b,v.ok H
 |[],b,h=>by simp only[mY,Al]at h;subst h;exact⟨rfl,λv g=>by cases g⟩
 |.tmp t::r,b,h=>by simp only[mY]at h;split at h;rename_i k f;obtain⟨i,j⟩:=kf d c f;grind[Sk,mZ,UA,jk];cases h
 |.cell a t::r,b,h=>by simp only[mY]at h;split at h;rename_i k f;obtain⟨i,j⟩:=kf d c f;obtain⟨u,m,n,o⟩:=qN c (jk d a) h;grind[Sk,mZ,UA];cases h
def tc(d:∀b∈e,b.2.ok c)(a:∀H∈c,H.ok c)(h:mY P e c V.results.toList=δ p):gr P V (Bq e) (A8 c)=δ (lJ (p.map TV.enc)):=by
 unfold gr;rw[(kf d a h).1];cases p with
 |nil=>rfl
 |cons v r=>
  cases r with
  |nil=>rfl
  |cons u r=>rfl
def vZ:∀(a:List Tmp)(b:List TV)(env:BT),RI (Bq env) a (b.map TV.enc)=Bq (yi env a b)
 |[],_,_=>rfl
 |_::_,[],_=>rfl
 |t::a,v::b,env=>by simp only[Bn,RI,yi];rw[<-jR];exact vZ a b (env.put t v)
def yj{H:Am}:∀(b:List Tmp)(a:List TV)(env:BT),(∀p∈env,p.2.ok H)->(∀v∈a,v.ok H)->∀p∈yi env b a,p.2.ok H
 |[],_,_,h,_=>h
 |_::_,[],_,h,_=>h
 |t::b,v::a,env,h,hv=>yj b a (env.put t v) (ac (d:=δ t) h (hv v k!)) λu c=>hv u (by simp[c])
def AGK{H:Bool}{F n env ps a b}{s e:LS}(h:(Di.lp k F n env ps a b s).ok c):(Di.lp H F n env ps a b e).ok D:=h
theorem AA7{F n env ps a b}{s s':LS}(h:c[N]?=δ (.lp η F n env ps a b s)):Bz c (c.set N (.lp η F n env ps a b s')):=Bz.set h rfl (λ_ _ _ _ _ h=>by cases h) λ_ _ _ _ _ _ _ _ e=>q!
def ze{F n env ps a b}{s:LS}(h:c[N]?=δ (.lp k F n env ps a b s)):(A8 c)[N]?=δ (.lp ⟨n,Bq env,ps,a,b,s.st,s.pend⟩):=by rw[Dy,h];rfl
theorem AB8{P:Program}{cs:List Pg}(K: ∀c∈cs,c.Ok P){hs:FuncId→List Hint}{g:Rq}(J:Vn P g){R:Type}{id:Nat}{S:List TV}{H:Am}{k:TV→Am→Option R}{r:R}(hv: ∀v∈S,v.ok H)(hH: ∀e∈H,e.ok H)
  (h:AAG P cs g hs id S H k=some r): ∃v d,xK P (S.map TV.enc) (A8 H) v.enc (A8 d) (.yd id)/\k v d=some r/\v.ok d/\(∀e∈d,e.ok d)/\Bz H d:=by
 unfold AAG at h;split at h;rename_i F n env ps a b he;split at h;rename_i hb;simp only[BN]at hb;have M: ∀p∈env,p.2.ok H:=λp hp x hx=>by
  have:=(hH _ (BM he)) p hp;cases x with
  |own i v t m=>grind
  |_=>trivial
 obtain⟨e,env1,T,a1,k1,w,s1⟩:=pd (N:=n) K J F (hs F) a _ H _ r ⟨yj ps.toList S env M hv,hH⟩ h;split at k1;split at k1;rename_i F1 n1 Y z U V s;have B:Bz T _:=AA7 (s':=.busy) s;obtain⟨x,env2,D,a2,j,O,s2⟩:=pd (N:=n) K J F (hs F) b _ _ _ r ⟨B.env w.env,RG B w.heap (AGK (w.heap _ (BM s)))⟩ k1;unfold AD8 at j;split at j;rename_i F2 n2 Z A W X s0 u
 have l: ∀(v:Bool) (C:LS),k (.c (.bl v)) (D.set id (.lp false F2 n2 Z A W X C))=some r→(∀L:lK,(A8 D)[id]? =some (.lp L)→L=⟨n2,Bq Z,A,W,X,s0.st,s0.pend⟩→AD9 id (Cw (.bool v) (A8 (D.set id (.lp false F2 n2 Z A W X C)))) x (Bq env2) (A8 D))→
   ∃v d,xK P (S.map TV.enc) (A8 H) v.enc (A8 d) (.yd id)/\k v d=some r/\v.ok d/\(∀e∈d,e.ok d)/\Bz H d:=by
  intro v C hk hq;have Q:Bz D _:=AA7 (s':=C) u;refine⟨.c (.bl v),_,?_,hk,JW trivial,RG Q O.heap (AGK (O.heap _ (BM u))),((s1.step.trans B).trans s2.step).trans Q⟩;intro N o c f env0 ho I hf q;apply JI.yield ho I hf (ze he);grind[List.length,List.length_map,Array.length_toList,Nat.eq_of_beq_eq_true];simp_all;show JU P n a (RI (Bq env) ps.toList (c.args.toList.map (BI env0))) (A8 H) _;rw[q,vZ];apply a1.awp.mono;rintro _ _ _ ⟨rfl,rfl,rfl⟩;refine⟨rfl,_,ze s,rfl,?_⟩;have e3:(A8 T).set id (.lp ⟨n1,Bq Y,z,U,V,.busy,LS.pend .ready⟩)=A8 (T.set id (.lp false F1 n1 Y z U V .busy)):=by rw[Kx];rfl
  show JU P n b (Bq env1) ((A8 T).set id (.lp ⟨n1,Bq Y,z,U,V,.busy,LS.pend .ready⟩)) _;rw[e3];apply a2.awp.mono;rintro _ _ _ ⟨rfl,rfl,rfl⟩;exact hq _ (ze u) rfl
 split at j;refine l true .ready j λL G E=>⟨L,G,rfl,?_⟩
 subst E;rw[Kx];rfl;refine l false .ret j λL G E=>⟨L,G,rfl,?_⟩
 subst E;rw[Kx];rfl;rename_i y;refine l false (.exit y) j λL G E=>⟨L,G,rfl,?_⟩
 subst E;rw[Kx];rfl;cases j;cases j;cases k1;cases k1;cases h;cases h
theorem jM{P:Program}{j:List Pg}(b:∀c∈j,c.Ok P){m:FuncId->List Hint}:∀n,Vn P (pu P j m n)
 |0=>by grind[pu]
 |n+1=>by
  intro z A H k r p l h;cases z with
  |yd id=>exact AB8 b (jM b n) p l h
  |fn F=>
  simp only[pu]at h;split at h;rename_i fn y;split at h;rename_i c w;split at h;rename_i hn;obtain⟨e,d,f,a1,k1,a,q⟩:=pd (N:=fn.ntmps) b (jM b n) F (m F) c (bx 0 A) H _ r ⟨jS p,l⟩ h;unfold AH4 at k1;split at k1;rename_i x;split at k1;rename_i s o;refine⟨one s,f,J9 y w t! ?_,k1,tQ (kf a.env a.heap o).2,a.heap,q.step⟩;rw[<-cC];apply a1.awp.mono;rintro _ _ _ ⟨rfl,rfl,rfl⟩;have g:∃v t i,gr P fn (Bq d) (A8 f)=δ v/\OU (A8 H).length v (A8 f) t i/\Cw (one s).enc (A8 f) t i:=⟨_,_,_,tc a.env a.heap o,OU.refl _ _ (by rw[CK,CK];exact q.step.len),by rw[ny],rfl⟩
  rename_i u;cases u<;>first|exact g|cases x
  cases k1;cases k1;cases h;cases h;cases h
def Da.tup{b a:List AV}(h:Da b a):WK (.tup b) (.tup a):=by
 intro x c r;cases r with
 |tup g hr=>refine .tup (by rw[g,h.1]) λj l d f e=>?_;obtain⟨v,i,k⟩:=h.2 j l f;exact k _ _ (hr j v d i e)
def WS{b:List AV}(h:Da s b):WK (lJ s) (lJ b):=by
 match s,b,h with
 |[],[],h=>exact WK.refl _
 |[v],[w],h=>obtain⟨u,c,d⟩:=h.2 0 w rfl;simp at c;subst c;exact d
 |v::u::r,w::x::a,h=>exact Da.tup h
def PF:∀(a:List Ty)(x:DL a),∀v∈az a x,Pure v
 |[],_,v,h=>by cases h
 |[t],x,v,h=>by simp only[az,A7]at h;subst h;exact t.enc_pure x
 |t::u::r,x,v,h=>by simp only[az]at h;rcases A1.1 h with rfl|h;exact t.enc_pure x.1;exact PF (u::r) x.2 v h
def XX(h:∀v∈s,Pure v):Pure (lJ s):=by
 match s,h with
 |[],_=>rfl
 |[v],h=>exact h v k!
 |v::u::r,h=>exact(Dg _ _).2 h
theorem tf{a H2:Am}(j:θ H2<=θ a)(hr:HR a H2 [])(i:lA (θ H2) H2=ζ){d:AV}(v:WK l d)(k:Pure d):OU (θ H2) l (A8 a) d (A8 H2):=by
 refine⟨by rw[CK];exact Ai _,λX h w c s r=>?_⟩;have q:=(HR.rel j hr (cx X h (A8 a) w)).onto;have n:=s.rel q;have m:=(v _ c r).later q.later;have e:(A8 H2++(A8 a).drop (θ H2)).take (θ H2)=A8 H2:=by grind[CK]
 have b:θ H2<=(A8 H2++(A8 a).drop (θ H2)).length:=by simp[A8]
 have g:=n.trunc b (by rw[e];exact kP i);have f:=m.trunc b (jv k _);rw[e]at g f;exact⟨h,g,f,λ_ _=>⟨rfl,rfl,rfl⟩,λB o=>q.own B (gO (n0:=θ H2) q!)⟩
def py{n:Nat}:∀{a b:List Bh},Z7 n a=ζ->Z7 n b=ζ->Z7 n (a++b)=ζ
 |[],_,_,hb=>hb
 |x::r,b,ha,hb=>by obtain⟨c,e⟩:=uj ha;have d:=py e hb;cases x<;>simp only[am,Z7,BN,Qu]at c⊢ <;>first|exact d|exact⟨c,d⟩
mutual
theorem Ty.lvs_clo{n:Nat}:∀(t:Ty)(x:t.D),Z7 n (t.lvs x)=ζ
 |.bool,_=>rfl
 |.int _,_=>rfl
 |.str,_=>rfl
 |.list _,_=>rfl
 |.arr _ _,_=>rfl
 |.prod ts,x=>ts.lvs_clo x
theorem Rp.lvs_clo{n:Nat}:∀(a:Rp)(x:a.D),Z7 n (a.lvs x)=ζ
 |.one t,x=>t.lvs_clo x
 |.cons t a,x=>py (t.lvs_clo x.1) (a.lvs_clo x.2)
end
def pU(h:∀v∈s,Pure v)(a:Nat->Nat):AV.renL a s=s:=by
 rw[OK];conv=>rhs;rw[<-dj s]
 exact Ms λv b=>(h v b).ren a
def so{ρ:Nat->Nat}:∀{n:Nat}{v:AV}{l:List AV},(∀v∈l,Pure v)->AV.renL ρ (VH n v l)=VH n (v.ren ρ) l
 |0,v,l,h=>by simp only[VH,AV.renL,pU h]
 |n+1,v,[],h=>rfl
 |n+1,v,x::l,h=>by have b:=so (ρ:=ρ) (n:=n) (v:=v) (l:=l) λu a=>h u (CN _ a);simp only[VH,AV.renL,(h x Ip).ren,b]
def u7:∀{n:Nat}{v u:AV}{l:List AV},u∈VH n v l->u=v\/u∈l
 |0,v,u,l,h=>by simpa[VH]using h
 |n+1,v,u,[],h=>by simpa[VH]using h
 |n+1,v,u,x::l,h=>by simp only[VH]at h;rcases A1.1 h with rfl|h;exact .inr k!;rcases u7 h with h|h;exact .inl h;exact .inr (by simp[h])
def yA:∀{n:Nat}{v:TV}{l:List TV},(sq n v l).map TV.enc=VH n v.enc (l.map TV.enc)
 |0,_,_=>rfl
 |n+1,_,[]=>rfl
 |n+1,v,x::l=>by simp only[sq,Bn,VH,yA]
def yB:∀{n:Nat}{v u:TV}{l:List TV},u∈sq n v l->u=v\/u∈l
 |0,v,u,l,h=>by simpa[sq]using h
 |n+1,v,u,[],h=>by simpa[sq]using h
 |n+1,v,u,x::l,h=>by simp only[sq]at h;rcases A1.1 h with rfl|h;exact .inr k!;rcases yB h with h|h;exact .inl h;exact .inr (by simp[h])
theorem pw{t:x.D}:∀v∈(x.enc t).cells,Pure v:=by
 intro v a;have h:=x.enc_pure t;cases b:x.enc t with
 |agg c=>rw[b]at a h;exact((Dg _ _).1 h) v a
 |_=>grind[AV.cells]
def gU(a:Ty):∀(c:List Ty)(y:DL c)(b:a.D),LG a c (sw a c y b)=(y,b)
 |[],_,_=>rfl
 |[_],_,_=>rfl
 |_::u::r,y,b=>by simp only[sw,LG,gU a (u::r) y.2 b]
variable {P:Program}{cs:List Pg}{hs:FuncId->List Hint}{n:Nat}{F:FuncId}{ds rs:List Ty}
def AG2{f:Ap}(k:yC J=ζ)(ok:Np e c)(hr:mY P e c V.results.toList=δ p)(h:OU N (lJ (p.map TV.enc)) (A8 c) l f):
  AIX P V N (Cw l f) J (Bq e) (A8 c):=by
 have d:∃v b a,gr P V (Bq e) (A8 c)=δ v/\OU N v (A8 c) b a/\Cw l f b a:=⟨_,_,_,tc ok.env ok.heap hr,h,rfl,rfl⟩
 cases J<;>first|exact d|cases k
def wG{g:DL ds->Option (DL rs)}(d:∀c∈cs,c.Ok P)(t:∀x,g x=xT P cs hs n F ds rs x):(Pg.c0 F ds rs g).Ok P:=by
 intro x y a H;rw[t]at a;have key:ET P F (az ds x) [] (Cw (lJ (az rs y)) []):=by unfold xT at a;split at a;rename_i q s;split at a;rename_i c r;split at a;rename_i hn;obtain⟨e,o,z,a1,k1,l,B⟩:=pd (N:=q.ntmps) d (jM d n) F (hs F) c (bx 0 (vf ds x)) [] _ y ⟨jS (j9 ds x),λe i=>by cases i⟩ a;unfold AH1 at k1;split at k1;rename_i i;split at k1;rename_i m u;obtain⟨f,w,p⟩:=Q6 (refsOf m) l;simp only at k1 f w p;split at k1;rename_i C k;apply J9 s r (by rw[<-XM,B7];exact Oa hn);rw[<-XM,<-cC];refine JU.after (a1.awp.mono ?_);rintro _ _ _ ⟨rfl,rfl,rfl⟩;exact⟨_,_,(p _).of_le (Bo _),AG2 i f k (tf (H2:=[]) (Bo _) (λj A _ h=>by cases h) rfl (WS (YR k1)) (XX (PF rs y)))⟩;cases k1;cases k1;cases k1;cases a;cases a;cases a
 exact UE (H:=H) [] key QP rfl rfl (λj b e h=>by cases h) (λe h=>by cases h) (λe h=>by cases h) (XX (PF rs y)) (pU (PF ds x) _) ((Dg _ _).2 λv k=>(PF ds x v k).all _)
theorem AE4{g:x.D->DL ds->Option (DL (rs++[x]))}(m:∀c∈cs,c.Ok P)(T:∀b D,g b D=ACs P cs hs n F N x ds rs b D):(Pg.c1 F N x ds rs g).Ok P:=by
 intro b D y f H id V;rw[T]at f;have key:∃r i,y=sw x rs r i/\ET P F (VH N (.ptr 0 0 0) (az ds D)) [.live 0 (x.enc b).cells] (Cw (lJ (az rs r)) [.live 0 (x.enc i).cells]):=by
  unfold ACs at f;split at f;rename_i M S;split at f;rename_i c R;split at f;rename_i hn;have t:Np (bx 0 (sq N (.c (.raw (.ptr 0 0 0))) (vf ds D))) [.live η (x.lvs b)]:=by refine⟨jS λv d=>?_,λe s=>?_⟩;rcases yB d with rfl|d;exact JW trivial;grind[j9];rw[A7.1 s];exact x.lvs_ok b
  obtain⟨e,l,G,a1,k1,u,E⟩:=pd (N:=M.ntmps) m (jM m n) F (hs F) c _ _ _ y t f;unfold AH2 at k1;split at k1;rename_i s;split at k1;rename_i z W;generalize C:(refsOf z++_)=ids at k1;obtain⟨k,w,A⟩:=Q6 ids u;generalize ID ids l G=fz at k1 k w A;obtain⟨ef,U⟩:=fz;simp only at k1 k w A;split at k1;rename_i vs Y I d O;split at k1;rename_i r i hr q;injection k1 with k1;refine⟨r,i,k1.symm,?_⟩;have J:A8 [.live η (x.lvs b)]=[.live 0 (x.enc b).cells]:=by simp only[A8,Bn,Hg,Di.enc,x.lvs_enc]
  have K:A8 [.live η (x.lvs i)]=[.live 0 (x.enc i).cells]:=by simp only[A8,Bn,Hg,Di.enc,x.lvs_enc]
  have L:VH N (.ptr 0 0 0) (az ds D)=(sq N (.c (.raw (.ptr 0 0 0))) (vf ds D)).map TV.enc:=by rw[yA,XM];rfl
  rw[<-J,<-K,L];apply J9 S R (by rw[B7];exact Oa hn);rw[<-cC];refine JU.after (a1.awp.mono ?_);rintro _ _ _ ⟨rfl,rfl,rfl⟩;have o:1<=θ U:=C9 E.step.len w.step.len;refine⟨_,_,(A _).of_le (by rw[CK,CK];exact E.step.len),AG2 s k d ?_⟩;rw[CK];refine tf (H2:=[.live η (x.lvs i)]) o (λj Z _ h=>?_) (by simp only[lA,x.lvs_clo,XP]) (WS (YR hr)) (XX (PF rs r));match j,h with
  |0,h=>simp only[aq,Al]at h;subst h;refine⟨_,O,.inr (.inl ⟨_,_,_,_,rfl,rfl,?_⟩)⟩;rw[x.lvs_enc];exact FV q
  |j+1,h=>grind
  cases k1;cases k1;cases k1;cases k1;cases f;cases f;cases f
 obtain⟨r,i,rfl,key⟩:=key;rw[gU];have Q:AV.renL (λj=>[id].getD j 0) (VH N (.ptr 0 0 0) (az ds D))=VH N (.ptr id 0 0) (az ds D):=by rw[so (PF ds D)];rfl
 exact UE (H:=H) [id] key (Gg.2 ⟨k!,QP⟩) rfl rfl (λj X e p B=>by
   match j,p,B with
   |0,p,B=>grind[List.getElem?_cons_zero,Option.some.injEq]
   |j+1,p,_=>simp at p) (λe h=>by
   rw[A7.1 h];exact(Dg _ _).2 λv d=>pw v d) (λe h=>by
   rw[A7.1 h];exact(Dg _ _).2 λv d=>pw v d) (XX (PF rs r)) Q ((Dg _ _).2 λv d=>by
   rcases u7 d with rfl|d;rfl;exact(PF ds D v d).all _)
end Go.Ab
namespace Go.Ab
def ZA:List (Nat×List Hint)->FuncId->List Hint
 |[],_=>[]
 |(k,h)::r,F=>match ξ k F with|true=>h|false=>ZA r F
theorem B4{P:Program}:∀c∈([]:List Pg),c.Ok P:=q!
variable {N n G:Nat}{R K:Type}{f:List Pg}{F:FuncId}{P:Program}{k:Bool}{l:AV}{s:List AV}{x:Ty}{C:Int}{T:Value}
theorem A2{P:Program}{c:Pg}(h:c.Ok P)(b:∀c∈f,c.Ok P):∀d∈c::f,d.Ok P:=q!
def wi(a:Int):Int:=ι .i64 a
abbrev len{α:Type}(l:List α):Int:=(θ l:Int)
def nP{A B:Type}(f:(A->Option B)->A->Option B):Nat->A->Option B
 |0,_=>ε
 |n+1,x=>f (nP f n) x
noncomputable def qh{A B:Type}(f:(A->Option B)->A->Option B)(x:A):Option B:=open Classical in if h:∃r n,nP f n x=δ r then δ h.choose else ε
theorem cD{f:(R->Option K)->R->Option K}{x:R}{r:K}(h:qh f x=δ r):∃n,nP f n x=δ r:=by unfold qh at h;split at h<;>grind
theorem fX{f:(R->Option K)->R->Option K}{x:R}{r:K}{n:Nat}(h:nP f n x=δ r):∃s,qh f x=δ s:=by unfold qh;rw[dif_pos ⟨r,n,h⟩];grind
def AE6{P:Program}{a:List Pg}{hs:FuncId→List Hint}{n:Nat}{F:FuncId}{ds rs:List Ty}{f:(DL ds→Option (DL rs))→DL ds→Option (DL rs)}(b:∀c∈a,c.Ok P)
  (e:∀g x,f g x=xT P (.c0 F ds rs g::a) hs n F ds rs x):(Pg.c0 F ds rs (qh f)).Ok P:=by
 have key:∀m,(Pg.c0 F ds rs (nP f m)).Ok P:=by
  intro m;induction m with
  |zero=>intro x y d;cases d
  |succ m i=>exact wG (cs:=.c0 F ds rs (nP f m)::a) (A2 i b) λx=>e (nP f m) x
 intro x y d;obtain⟨m,h⟩:=cD d;exact key m x y h
def AH3(P:Program)(fn:Func)(te:Ty)(rs:List Ty):Exit->BT->Am->Option (DL (rs++[.list te])):=λe env H=>
 match yC e with
 |true=>
  match mY P env H fn.results.toList with
  |some vs0=>
   match ID ((refsOf vs0).filter λi=>! ξ i 0) env H with
   |(ef,hf)=>
    match mY P ef hf fn.results.toList,(hf[0]? :Option Di)with
    |some vs,δ (.buf _ t l _ _)=>if h:(Ty.list t).beq (Ty.list te)=ζ then(match inp rs vs with|some y=>δ (sw (.list te) rs y (Ty.cast h l))|none=>ε)else ε
    |_,_=>ε
  |none=>ε
 |false=>ε
def fnC:AV->Bool
 |.fn (.func _) [] []=>ζ
 |_=>η
def xP(te:Ty)(ds:List Ty)(post:List AV)(l:List te.D)(x:DL ds):List TV:=.c (.own 0 0 te (θ l))::(vf ds x++post.map λv=>.c (.raw v))
noncomputable def ACt(P:Program)(cs:List Pg)(hs:FuncId->List Hint)(n:Nat)(F:FuncId)(te:Ty)(ds rs:List Ty)(post:List AV)(l:List te.D)(x:DL ds):Option (DL (rs++[.list te])):=
 match P.funcs[F]? with
 |some fn=>
  match fn.body with
  |some c=>
   match Nat.ble (xP te ds post l x).length fn.ntmps&&post.all fnC with
   |true=>qo P cs (pu P cs hs n) fn.ntmps F (hs F) c (bx 0 (xP te ds post l x)) [.buf η te l (θ l) 0] (AH3 P fn te rs)
   |false=>ε
  |none=>ε
 |none=>ε
theorem AG6(h:fnC l=ζ):∃F,l=.fn (.func F) [] []:=by unfold fnC at h;grind
def ADF(h:fnC l=ζ):Pure l:=by obtain⟨F,rfl⟩:=AG6 h;rfl
variable {P:Program}{cs:List Pg}{hs:FuncId->List Hint}{n:Nat}{F:FuncId}{ds rs:List Ty}{te:Ty}{post:List AV}
def ABU(l:List te.D)(x:DL ds):(xP te ds post l x).map TV.enc=.sl 0 (θ l) te.sz 0 (θ l)::(az ds x++post):=by
 have e:(post.map λv=>TV.c (.raw v)).map TV.enc=post:=by
  rw[QM];conv=>rhs;rw[<-dj post]
  exact Ms λv _=>rfl
 simp only[xP,Bn,Mr,XM,e];rfl
theorem Om{g:List te.D->DL ds->Option (DL (rs++[.list te]))}(t:∀c∈cs,c.Ok P)(hg:∀l x,g l x=ACt P cs hs n F te ds rs post l x):(Pg.c2 F te ds rs post g).Ok P:=by
 intro l x y k d H id C;rw[hg]at k;have key:∃r m,y=sw (.list te) rs r m/\(∀v∈post,Pure v)/\ET P F (.sl 0 (θ l) te.sz 0 (θ l)::(az ds x++post)) [.live (θ l) (te.E.cl l)] (Cw (lJ (az rs r)) [.live (θ m) (te.E.cl m)]):=by
  unfold ACt at k;split at k;rename_i fn hf;split at k;rename_i c hb;split at k;rename_i hn;simp only[BN]at hn;have b:∀v∈post,Pure v:=λv a=>ADF (Fo.1 hn.2 v a);have w:([Di.buf η te l (θ l) 0]:Am)[0]?=δ (.buf η te l (θ l) 0):=rfl;have K:Np (bx 0 (xP te ds post l x)) [.buf η te l (θ l) 0]:=by refine⟨jS λv a=>?_,λe B=>?_⟩;rcases A1.1 a with rfl|a;exact JW (Vm w);rcases Ao.1 a with a|a;grind[j9];obtain⟨u,_,rfl⟩:=Bk.1 a;exact JW trivial;rw[A7.1 B];exact rfl
  obtain⟨e,s,W,a1,k1,L,U⟩:=pd (N:=fn.ntmps) t (jM t n) F (hs F) c _ _ _ y K k;unfold AH3 at k1;split at k1;rename_i B;split at k1;rename_i O ad;generalize T:((refsOf O).filter _)=ids at k1;obtain⟨o,M,Q⟩:=Q6 ids L;generalize ID ids s W=fz at k1 o M Q;obtain⟨ef,hh⟩:=fz;simp only at k1 o M Q;split at k1;rename_i vs X q l1 J V a R;split at k1;rename_i z;split at k1;rename_i r hr;injection k1 with k1;have i:=Ty.beq_eq _ _ z;injection i with i;subst i;have p:(Ty.cast z l1:List q.D)=l1:=rfl;rw[p]at k1;have I:J=θ l1:=o.heap _ (BM R);refine⟨r,l1,k1.symm,b,?_⟩;have Y:A8 [.buf η q l (θ l) 0]=[.live (θ l) (q.E.cl l)]:=rfl;have Z:A8 [.buf η q l1 J V]=[.live (θ l1) (q.E.cl l1)]:=by rw[<-I];rfl
  rw[<-Y,<-Z,<-ABU];apply J9 hf hb (by rw[B7];exact Oa hn.1);rw[<-cC];refine JU.after (a1.awp.mono ?_);rintro _ _ _ ⟨rfl,rfl,rfl⟩;have G:1<=θ hh:=C9 U.step.len M.step.len;refine⟨_,_,(Q _).of_le (by rw[CK,CK];exact U.step.len),AG2 B o a ?_⟩;rw[CK];refine tf (H2:=[.buf η q l1 J V]) G (λj e' _ h=>?_) rfl (WS (YR hr)) (XX (PF rs r));match j,h with
  |0,h=>simp only[aq,Al]at h;subst h;exact⟨_,R,.inr (.inr (.inl ⟨_,_,_,_,_,_,_,rfl,rfl⟩))⟩
  |j+1,h=>simp at h
  cases k1;cases k1;cases k1;cases k1;cases k1;cases k;cases k;cases k
 obtain⟨r,m,rfl,b,key⟩:=key;rw[gU]at d⊢;simp only at d⊢;rw[<-d];rw[<-d]at C key;have f:∀v∈az ds x++post,Pure v:=λv a=>(Ao.1 a).elim (PF ds x v) (b v);have ha:AV.renL (λj=>[id].getD j 0) (.sl 0 (θ m) te.sz 0 (θ m)::(az ds x++post))=.sl id (θ m) te.sz 0 (θ m)::(az ds x++post):=by simp only[AV.renL,pU f];rfl
 exact UE (H:=H) [id] key (Gg.2 ⟨k!,QP⟩) rfl rfl (λj X e A S=>by
   match j,A,S with
   |0,A,S=>grind[List.getElem?_cons_zero,Option.some.injEq]
   |j+1,A,_=>simp at A) (λe h=>by
   rw[A7.1 h];exact(Dg _ _).2 (wC te l)) (λe h=>by
   rw[A7.1 h];exact(Dg _ _).2 (wC te m)) (XX (PF rs r)) ha ((Dg _ _).2 λv a=>by
   rcases A1.1 a with rfl|a;rfl;exact(f v a).all _)
def nI{f:(List te.D×DL ds→Option (DL (rs++[.list te])))→List te.D×DL ds→Option (DL (rs++[.list te]))}(a:∀c∈cs,c.Ok P)
  (d:∀g l x,f g (l,x)=ACt P (.c2 F te ds rs post (λl x=>g (l,x))::cs) hs n F te ds rs post l x):(Pg.c2 F te ds rs post λl x=>qh f (l,x)).Ok P:=by
 have key:∀m,(Pg.c2 F te ds rs post λl x=>nP f m (l,x)).Ok P:=by
  intro m;induction m with
  |zero=>intro l x y b;cases b
  |succ m h=>exact Om (cs:=.c2 F te ds rs post (λl x=>nP f m (l,x))::cs) (A2 h a) λl x=>d (nP f m) l x
 intro l x y b;obtain⟨m,e⟩:=cD b;exact key m l x y e
end Go.Ab
namespace Go.Ab
def clW(fn:Func):Nat->String:=λi=>
 match fn.body with
 |some (.seq (.region _ a _) (.seq (.seq (.region _ b _) (.cond _ (.seq (.region _ c _) _) _)) (.seq (.region _ d _) _)))=>(((a++b++c++d)[i]?).map (·.pos)).getD default
 |_=>default
def ABa(t b:TypeId)(w:Nat->String):Code:=
 .seq (.region 0 #[⟨δ 2,.assign (.const (.slice ε 0 0)),t,w 0, #[],ε⟩] η)
  (.seq (.seq (.region 1 #[⟨δ 3,.move (.tmp 0),t,w 1, #[],ε⟩,⟨δ 4,.binOp .eql t (.tmp 3) (.const (.slice ε 0 0)) t,b,w 2, #[⟨0,.data⟩],ε⟩] η)
    (.cond (.tmp 4) (.seq (.region 2 #[⟨δ 2,.assign (.const (.slice ε 0 0)),t,w 3, #[],ε⟩] η) .ret) .skip))
   (.seq (.region 3 #[⟨δ 5,.buildSlice t 0 #[],t,w 4, #[],ε⟩,⟨δ 6,.move (.tmp 0),t,w 5, #[],ε⟩,
     ⟨δ 7,.call {callee:=.builtin .append,args:= #[.tmp 5,.tmp 6],argTypes:= #[t,t]},t,w 6, #[⟨0,.data⟩,⟨1,.data⟩],ε⟩,
     ⟨δ 2,.assign (.tmp 7),t,w 7, #[⟨2,.data⟩,⟨2,.chain⟩,⟨0,.phase⟩,⟨1,.phase⟩,⟨2,.phase⟩],ε⟩] η) .ret))
def OU.none{n0:Nat}{H:Ap}{id g sz off:Nat}(hn:n0<=θ H)(b:id<θ H)(k:0<sz):OU n0 (.sl id g sz off 0) H (.vs sz []) (H.set id .dead):=by
 refine⟨by simpa using hn,λX h w c s r=>?_⟩;obtain⟨p,t⟩:=s.kill b;refine⟨h,p,?_,λ_ _=>⟨rfl,rfl,rfl⟩,λB o=>?_⟩;cases r with
 |sl l m n q=>obtain⟨a,cap,rfl⟩:=n;exact Bi.vs (rows:=[]) (λ_ _=>undef) (Bo _) k (λj e h=>by simp at h) (λh=>(h rfl).elim) (λj e i v h=>by simp at h)
 obtain⟨i,e,l,d,m⟩:=o;rcases JH b l with⟨_,f⟩|⟨rfl,rfl⟩;exact⟨i,e,f,d,m⟩;exact(d rfl).elim
variable {N n G:Nat}{R K:Type}{f:List Pg}{F:FuncId}{P:Program}{k:Bool}{s:List AV}{x:Ty}{C:Int}{T:Value}
theorem sE{P:Program}{F:FuncId}{t b:TypeId}{a:Ty}(o:(P.funcs[F]?).map (λx=>(x.body,x.ntmps,x.results))=some (some (ABa t b (((P.funcs[F]?).map clW).getD (λ_=>default))),8, #[.tmp 2]))(I:elT P t=some a)(j:gP 0 a #[] []=true):(Pg.cl F a).Ok P:=by
 generalize ((P.funcs[F]?).map clW).getD (λ_=>default)=w at o;obtain⟨x,T,B⟩:=VS.1 o;injection B with O B;injection B with hn hr;intro l H U;obtain⟨e,A,u⟩:=jQ I;have J:=(QV A).1;have z: ∀env,Sc P env t 0 #[]=some (a.sz,[]):=by intro env;unfold Sc;simp only[A];refine if_pos ⟨a.sz_pos,u,rfl,rfl,Bo _,?_⟩;unfold gP at j;simp only[BN]at j;exact Oa j.2
 have main: ∀Q:AV→Ap→Prop,(l=[]→Q (.vs a.sz []) (A8 (H++[.dead])))→(∀r,l≠ []→app [] l=some r→Q (.sl H.length r.length a.sz 0 r.length) (A8 (H++[.buf false a r r.length 0])))→
   (l=[]\/ ∃r,app [] l=some r)->ET P F [.vs a.sz (l.map a.enc)] (A8 H) Q:=by
  intro Q L M f;refine J9 T O (by rw[hn];simp) ?_;rw[hn];refine JU.seq (FU rfl (WL.cons rfl (Df (v:=.nils) rfl (WL.nil (JU.seq (JU.seq (FU rfl (WL.cons rfl (Df (v:=.vs a.sz (l.map a.enc)) rfl (WL.cons rfl (sU (sz:=a.sz) (rows:=l.map a.enc) rfl J rfl λK S=>WL.nil ?_)))))))))));have k:K=true->l=[]:=λh=>by by_cases i:l=[]<;>simp_all
  have d:(A8 H++[E5.live 0 []]).set (A8 H).length E5.dead=A8 (H++[.dead]):=by simp_all[Ss,Ai,Gi,A8,Di.enc]
  refine JU.cond (b:=K) rfl (λy=>?_) (λR=>?_)
  ·refine JU.seq (FU rfl (WL.cons rfl (Df (v:=.nils) rfl (WL.nil (JU.weak (E4.virt (t:=2) (sz:=a.sz) rfl) (JU.ret (⟨.sl (A8 H).length 0 a.sz 0 0,.vs a.sz [],(A8 H++[E5.live 0 []]).set (A8 H).length E5.dead,by simp[gr,hr,Sk,mZ,Env.putO,Env.put,Env.get],OU.none (by simp) (by simp) a.sz_pos,?_⟩)))))));rw[d];exact L (k y)
  ·refine JU.skip (JU.seq (FU rfl (WL.cons rfl (TS (sz:=a.sz) (vs:=[]) rfl (z _) (WL.cons rfl (Df (v:=.vs a.sz (l.map a.enc)) rfl (WL.cons rfl ?_)))))));have G:Jx (A8 H++[E5.live 0 []]) a.sz (.vs a.sz (l.map a.enc))=some (l.length,a.E.cl l):=by simp only[Jx,if_true,B7];rfl
   have p:0+l.length<=16777216:=by
    rcases f with rfl|⟨r,hr⟩
    ·simp
    ·obtain⟨M,_⟩:=mj hr;simpa using M
   refine Rj (sx:=.tmp 5) (xx:=.tmp 6) (H:=A8 H++[E5.live 0 []]) (id:=(A8 H).length) (g:=0) (g':=l.length) (n:=0) (cs:=[]) (m:=l.length) (news:=a.E.cl l) rfl A a.sz_pos u rfl (by simp) (by simp) G p (by
    rcases VP l.length with q|q
    ·exact .inr ⟨q,q⟩
    ·exact .inl q) ?_
   refine WL.cons rfl (Df (v:=.sl (A8 H).length l.length a.sz 0 (0+l.length)) rfl (WL.nil (JU.ret ?_)));have N:(A8 H++[E5.live 0 []]).set (A8 H).length (.live l.length ([]++a.E.cl l))=A8 (H++[.buf false a l l.length 0]):=by simp_all[Ss,Ai,Gi,A8,Di.enc]
   by_cases i:l=[]
   ·subst i;refine⟨.sl (A8 H).length 0 a.sz 0 0,.vs a.sz [],(A8 H++[E5.live 0 []]).set (A8 H).length E5.dead,by simp[gr,hr,Sk,mZ,Env.putO,Env.put,Env.get],?_,?_⟩
    ·have:=OU.none (n0:=(A8 H).length) (H:=A8 H++[E5.live 0 []]) (id:=(A8 H).length) (g:=0) (off:=0) (by simp) (by simp) a.sz_pos;have e:(A8 H++[E5.live 0 []]).set (A8 H).length (.live ([]:List a.D).length ([]++a.E.cl []))=A8 H++[E5.live 0 []]:=by rw[Ss _ _ (Ai _),Gi];rfl
     rw[e];exact this
    ·rw[d];exact L rfl
   ·rcases f with h|⟨r,c⟩
    ·exact(i h).elim
    ·obtain⟨_,C⟩:=mj c;have s:l=r:=by simpa using C.symm
     subst s;refine⟨.sl (A8 H).length l.length a.sz 0 l.length,_,_,by simp[gr,hr,Sk,mZ,Env.putO,Env.put,Env.get],OU.refl _ _ (by simp),?_⟩;grind[CK]
 refine⟨λi=>?_,λr i hr=>?_⟩
 ·subst i;exact main _ (λ_=>⟨rfl,rfl⟩) (λr h=>(h rfl).elim) (.inl rfl)
 ·exact main _ (λh=>(i h).elim) (λV _ c=>by rw[hr]at c;injection c with c;subst c;exact⟨rfl,rfl⟩) (.inr ⟨r,hr⟩)
abbrev i64:Ty:=.int .i64
abbrev hn(k i:Nat)(s:List OV)(e:List (Exit×List OV)):Hint:=⟨k,i,[],[],[],[],s,e⟩
def k0{a d:List Ty}{g:DL a→Option (DL d)}(l:List (Nat×List Hint))(b:∀c∈f,c.Ok P)
  (e:g=λx=>xT P f (ZA l) 13 F a d x:=by kernel_rfl):(Pg.c0 F a d g).Ok P:=wG b λx=>congrFun e x
def k1{P:Program}{a:Ty}{d h:List Ty}{g:a.D→DL d→Option (DL (h++[a]))}(l:List (Nat×List Hint))(e:∀c∈f,c.Ok P)
  (i:g=λb x=>ACs P f (ZA l) 13 F N a d h b x:=by kernel_rfl):(Pg.c1 F N a d h g).Ok P:=AE4 e λb x=>congrFun (congrFun i b) x
noncomputable def ABE{α:Type}(key:α->Int)(l:List α):Option (List α):=if(l.map key).Nodup/\θ l<=16777216 then δ (l.mergeSort λa b=>decide (key a<=key b))else ε
def AAN{key:R->Int}{l m:List R}(hn:(l.map key).Nodup)(p:m.Perm l)(t:m.Pairwise λa b=>key a<=key b):m=l.mergeSort λa b=>decide (key a<=key b):=by
 have d:(l.mergeSort λa b=>decide (key a<=key b)).Perm l:=List.mergeSort_perm _ _;have o:(l.mergeSort λa b=>decide (key a<=key b)).Pairwise λa b=>key a<=key b:=by refine(List.pairwise_mergeSort (le:=λa b=>decide (key a<=key b)) ?_ ?_ l).imp λh=>M! h;intro a b c d o;simp only[K!]at*;omega;intro a b;simp only[VU,K!];omega
 refine oP (le:=λa b=>key a<=key b) ?_ t o (p.trans d.symm);intro a b r s u v;have e:key a=key b:=o!
 have f:=p.subset r;have g:=d.subset s;obtain⟨i,k⟩:=Ci f;obtain⟨j,n⟩:=Ci g;have:=(List.getElem?_inj (l:=l.map key) (i:=i) (j:=j) (by rw[B7];exact(Fp.1 k).1) hn).1 (by simp[k,n,e]);subst this;rw[k]at n;exact BH n
theorem w64(h: -9223372036854775808<=C/\C<=9223372036854775807):ι .i64 C=C:=by grind[IntKind.wrap_i64]
def ABs{body:K->Option (Step K R)}(I:K->Prop)(Q:R->Prop)(b:K->Nat)(i:∀s,I s->(∃r,body s=δ (.done r)/\Q r)\/∃a,body s=δ (.next a)/\I a/\b a<b s){s:K}(h:I s):∃r,Aa body s=δ r/\Q r:=by
 have key:∀(n:Nat)(s:K),b s<n->I s->∃r,Aa body s=δ r/\Q r:=by
  intro n;induction n with
  |zero=>intro s j;omega
  |succ n k=>intro s j g;rcases i s g with⟨r,c,d⟩|⟨a,c,d,l⟩;exact⟨r,by rw[ES,c],d⟩;obtain⟨r,e,f⟩:=k a o! d;exact⟨r,by rw[ES,c];exact e,f⟩
 exact key (b s+1) s o! h
theorem AFN{l:List R}{x:R}(h:l[N]?=δ x):ix l (N:Int)=δ x:=by unfold ix;grind[Int.toNat_natCast]
def AIB{l:List R}(a:0<=C)(c:C<θ l):∃x,ix l C=δ x/\l[C.toNat]?=δ x:=by
 obtain⟨n,rfl⟩:=FC a;have hn:n<θ l:=o!
 exact⟨l[n],AFN (As hn),by simp[hn]⟩
def AGn{l a:List R}(h:θ l+θ a<=16777216):app l a=δ (l++a):=C! h
theorem AEs(a:GF n R)(h:N<n):Fm a (N:Int)=δ (a ⟨N,h⟩):=by grind[Fm]
def An(o:Option R)(Q:R->Prop):Prop:=∃r,o=δ r/\Q r
section
variable {α β γ:Type}
theorem AB{r:α}{Q:α->Prop}(h:Q r):An (.some r) Q:=⟨r,rfl,h⟩
def An.mono{o:Option α}{P Q:α->Prop}(h:An o P)(c:∀r,P r->Q r):An o Q:=by obtain⟨r,a,b⟩:=h;exact⟨r,a,c r b⟩
theorem AA{o:Option α}{k:α->Option β}{P:α->Prop}{Q:β->Prop}(h:An o P)(b:∀r,P r->An (k r) Q):An (σ o k) Q:=by obtain⟨r,rfl,a⟩:=h;exact b r a
theorem D6{o:Option α}{k:α->Option β}{P:α->Prop}{Q:β->Prop}(h:An o P)(b:∀r,o=.some r->P r->An (k r) Q):An (σ o k) Q:=by obtain⟨r,rfl,a⟩:=h;exact b r rfl a
def AL{o:Option α}{k:α->Option β}{P:α->Prop}{Q:β->Prop}(a:∀r,P r->An (k r) Q)(h:An o P):An (σ o k) Q:=AA h a
def AJ{a b:Option α}{Q:α->Prop}(d:k=ζ->An a Q)(e:k=η->An b Q):An (bif k then a else b) Q:=by
 cases k with
 |true=>exact d rfl
 |false=>exact e rfl
def AC{p:Prop}{_:Decidable p}{a b:Option α}{Q:α->Prop}(c:p->An a Q)(d:¬p->An b Q):An (bif decide p then a else b) Q:=AJ (λh=>c (M! h)) (λh=>d (of_decide_eq_false h))
theorem AO{a b:Option α}{Q:α->Prop}(d:k=η->An a Q)(e:k=ζ->An b Q):An (bif !k then a else b) Q:=by
 cases k with
 |true=>exact e rfl
 |false=>exact d rfl
theorem AQ{_:BEq R} [LawfulBEq R] {x y:R}{a b:Option α}{Q:α->Prop}(c:x=y->An a Q)(d:x≠y->An b Q):An (bif x==y then a else b) Q:=AJ (λh=>c (eq_of_beq h)) (λh=>d (ne_of_beq_false h))
theorem AK{_:BEq R} [LawfulBEq R] {x y:R}{a b:Option α}{Q:α->Prop}(c:x≠y->An a Q)(d:x=y->An b Q):An (bif x !=y then a else b) Q:=by refine AJ (λh=>c λe=>?_) (λh=>d ?_);subst e;simp at h;simpa using h
def BZ{a b:Option α}{c:α->Option β}{Q:β->Prop}(h:An (bif k then σ a c else σ b c) Q):An (σ (bif k then a else b) c) Q:=by cases k<;>exact h
theorem A6{a:α}{k:α->Option β}{Q:β->Prop}(h:An (k a) Q):An (σ (.some a) k) Q:=h
def Br{o:Option α}{f:α->Option β}{k:β->Option γ}{Q:γ->Prop}(h:An (σ o λv=>σ (f v) k) Q):An (σ (σ o f) k) Q:=by cases o<;>exact h
def Mz{f:α->Option γ}{g:β->Option γ}{o:α⊕β}{k:γ->Option R}{Q:R->Prop}(h:An (ν (λu=>σ (f u) k) (λu=>σ (g u) k) o) Q):An (σ (ν f g o) k) Q:=by cases o<;>exact h
theorem BG{u:α}{f:α->Option γ}{g:β->Option γ}{Q:γ->Prop}(h:An (f u) Q):An (ν f g (.inl u)) Q:=h
theorem Av{u:β}{f:α->Option γ}{g:β->Option γ}{Q:γ->Prop}(h:An (g u) Q):An (ν f g (.inr u)) Q:=h
theorem A9{f:α->Option γ}{g:β->Option γ}{o:α⊕β}{Q:γ->Prop}(a:∀u,o=.inl u->An (f u) Q)(b:∀u,o=.inr u->An (g u) Q):An (ν f g o) Q:=by
 cases o with
 |inl u=>exact a u rfl
 |inr u=>exact b u rfl
def An.get{o:Option α}{Q:α->Prop}{r:α}(h:An o Q)(e:o=.some r):Q r:=by obtain⟨s,a,b⟩:=h;rw[e]at a;injection a with a;rw[a];exact b
def An.and{o:Option α}{P Q:α->Prop}(h:An o P)(g:An o Q):An o λr=>P r/\Q r:=by obtain⟨r,a,b⟩:=h;exact⟨r,a,b,g.get a⟩
theorem AI{l:List α}{i:Int}(b:0<=i:=by omega)(c:i<l.length:=by omega):An (ix l i) λx=>l[i.toNat]? = .some x/\x∈l:=by obtain⟨x,d,a⟩:=AIB b c;exact⟨x,d,a,BM a⟩
theorem Ac{l a:List α}(h:θ l+θ a<=16777216):An (app l a) λr=>r=l++a/\θ r=θ l+θ a/\θ r<=16777216:=⟨_,AGn h,rfl,k!,w!⟩
theorem Co{a b:BV}(h:θ a+θ b<=9223372036854775807):An (sapp a b) λr=>r=a++b/\θ r=θ a+θ b:=by refine⟨a++b,?_,rfl,k!⟩;unfold Go.Ab.sapp;rw[C! h]
theorem C3{s:BV}{lo hi:Int}(a:0<=lo:=by omega)(b:lo<=hi:=by omega)(c:hi<=s.length:=by omega):An (Ui s lo hi) λr=>r=(s.drop lo.toNat).take (hi.toNat-lo.toNat)/\(r.length:Int)=hi-lo:=by refine⟨_,if_pos ⟨a,b,c⟩,rfl,?_⟩;rw[BJ,EY];omega
theorem CA{s:List α}{lo hi:Int}(a:0<=lo:=by omega)(b:lo<=hi:=by omega)(c:hi<=s.length:=by omega):An (WJ s lo hi) λr=>r=(s.drop lo.toNat).take (hi.toNat-lo.toNat)/\(r.length:Int)=hi-lo:=by refine⟨_,if_pos ⟨a,b,c⟩,rfl,?_⟩;rw[BJ,EY];omega
def UH{s:BV}{i:Int}(a:0<=i)(c:i<θ s):An (six s i) λb=>0<=b/\b<256:=by
 obtain⟨n,rfl⟩:=FC a;have hn:n<θ s:=o!
 refine⟨(s[n].toNat:Int),?_,o!,?_⟩;unfold Go.Ab.six;simp[hn];have:=s[n].toNat_lt;omega
def CQ{a:GF n α}(b:0<=C)(c:C<n):An (Fm a C) λx=>x=a ⟨C.toNat,o!⟩:=by obtain⟨k,rfl⟩:=FC b;exact⟨_,AEs a o!,rfl⟩
theorem xo{z:α}(a:0<=C)(b:C<=16777216):An (mk z C C) λr=>r=ς C.toNat z/\(θ r:Int)=C:=by refine⟨ς C.toNat z,?_,rfl,w!⟩;unfold Go.Ab.mk;rw[C! ⟨a,AX _,b⟩]
def AU{body:K→Option (Step K R)}(I:K→Prop)(c:K→Nat){Q:R→Prop}{s:K}(e:I s)
  (h:∀s,I s->An (body s) λst=>match st with|.next a=>I a/\c a<c s|.done r=>Q r):An (Aa body s) Q:=by
 obtain⟨r,f,g⟩:=ABs (body:=body) I Q c (λs i=>by
  obtain⟨st,d,b⟩:=h s i;cases st with
  |next a=>exact .inr ⟨a,d,b.1,b.2⟩
  |done r=>exact .inl ⟨r,d,b⟩) e
 exact⟨r,f,g⟩
theorem WI(n:Int):ι .u64 n=n%18446744073709551616:=by simp[ι,IntKind.bits,IntKind.signed]
theorem vg(n:Int):ι .u32 n=n%4294967296:=by simp[ι,IntKind.bits,IntKind.signed]
def AIi(n:Int):ι .u8 n=n%256:=by simp[ι,IntKind.bits,IntKind.signed]
def Z9{Q:α->Prop}(h:False):An .none Q:=h.elim
theorem AW{x:Int}(h: -9223372036854775808<=x/\x<=9223372036854775807:=by omega):wi x=x:=w64 h
theorem l!{P:Prop}(h:P:=by (try dsimp[len]at*);(try first|omega|assumption|grind[AW])):P:=h
theorem i!{P:Prop}(h:P:=by simp only[len];omega):P:=h
theorem x!{P:Prop}(h:P:=by (repeat' with_reducible first|intro a|apply AC|apply AO|(apply BG;try dsimp only)|apply AQ|apply AK|(apply A6;try dsimp only)|apply AJ|(apply Av;try dsimp only)|(apply A9<;>(intro u a;try subst a))|(refine AL ?_ (OD ?_);intro r hr)|apply BZ|(apply AA (BP);intro r hr)|(apply AA (L6);intro r hr)|(refine AL ?_ (aC ?_);intro r hr)|(refine AL ?_ (Wc ?_);intro r hr)|(apply AA (SG);intro r hr)|(refine AL ?_ (Yw ?_);intro r hr)|(refine AL ?_ (Yt ?_);intro r hr)|(refine AL ?_ (WZ ?_);intro r hr)|(apply AA (fu);intro r hr)|apply Mz|(apply AA (EB);intro r hr)|apply AB|apply Br|(refine AL ?_ (M9 ?_);intro r hr)|apply Z9|(refine AL ?_ (Fw ?_ ?_);intro r hr)|(refine AL ?_ (dC ?_);intro r hr)|(refine AL ?_ (X7 ?_);intro r hr)|(refine AL ?_ (Hq ?_);intro r hr)|(refine AL ?_ (Qd ?_);intro r hr)|(rw[w _ _ rfl rfl];apply A6;dsimp only)|(refine AL ?_ (Hu ?_);intro r hr)|(apply AA (Dn);intro r hr)|(apply AA (N7);intro r hr)|(apply AA (nZ);intro r hr)|(refine AL ?_ (DN ?_);intro r hr)|(refine AL ?_ (Ex ?_);intro r hr)|(apply AA (F4);intro r hr)|(refine AL ?_ (Jo ?_);intro r hr)|(refine AL ?_ (YG ?_);intro r hr)|(apply AA (FJ);intro r hr)|(refine AL ?_ (aD ?_);intro r hr)|(refine AL ?_ (DM ?_);intro r hr)|(refine AL ?_ (UT ?_);intro r hr)|(refine AL ?_ (SO ?_);intro r hr)|(refine AL ?_ (RR ?_);intro r hr)|(apply AA (MG);intro r hr)|(apply AA (UR);intro r hr)|(refine AL ?_ (Oy ?_);intro r hr)|(refine AL ?_ (XI ?_);intro r hr)|(refine AL ?_ (X3 ?_);intro r hr)|(apply AA (cy);intro r hr)|(refine AL ?_ (Yv ?_);intro r hr)|(apply AA (cj);intro r hr)|(refine AL ?_ (iO ?_);intro r hr)|(apply AA (Gw);intro r hr)|(apply AA (na);intro r hr)|(apply AA (CG);intro r hr)|(refine AL ?_ (YD ?_);intro r hr)|(apply AA (Ft);intro r hr)|(apply AA (N2);intro r hr)|(refine AL ?_ (Qe ?_);intro r hr)|(refine AL ?_ (YE ?_);intro r hr)|(refine AL ?_ (YC ?_);intro r hr)|(refine AL ?_ (YH ?_);intro r hr)|(refine AL ?_ (V5 ?_ ?_);intro r hr)|(refine AL ?_ (XE ?_);intro r hr)|(refine AL ?_ (Yu ?_);intro r hr)|(apply AA (pD);intro r hr)|(refine AL ?_ (PU ?_);intro r hr)|(apply AA (iR);intro r hr)|(refine AL ?_ (XC ?_);intro r hr)|(refine AL ?_ (Yz ?_);intro r hr)|(apply AA (ng);intro r hr)|(refine AL ?_ (X2 ?_);intro r hr)|(refine AL ?_ (Yx ?_);intro r hr)|(refine AL ?_ (X8 ?_);intro r hr)|(refine AL ?_ (Uo ?_);intro r hr)|(refine AL ?_ (Y1 ?_);intro r hr)|(refine AL ?_ (aB ?_);intro r hr)|(apply AA (SD);intro r hr)|(refine AL ?_ (YA ?_);intro r hr)|(refine AL ?_ (X4 ?_);intro r hr)|(refine AL ?_ (aF ?_);intro r hr)|(apply AA (EM);intro r hr)|(refine AL ?_ (Qb ?_);intro r hr)|(apply AA (Bs);intro r hr)|(refine AL ?_ (AI ?_ ?_);rintro r ⟨hr,b⟩)|(apply AA (KR);intro r hr)|(refine AL ?_ (Ac ?_);rintro r ⟨hr,b,c⟩)|(refine AL ?_ (X9 ?_);intro r hr)|(refine AL ?_ (YI ?_);intro r hr)|(refine AL ?_ (GS ?_);intro r hr)|(refine AL ?_ (UH ?_ ?_);rintro r ⟨hr,b⟩)|(refine AL ?_ (XG ?_);intro r hr)|(refine AL ?_ (cY ?_);intro r hr)|(refine AL ?_ (XF ?_);intro r hr)|(refine AL ?_ (XD ?_);intro r hr)|(refine AL ?_ (Wb ?_);intro r hr)|(apply AA (sg);intro r hr)|(refine AL ?_ (Co ?_);rintro r ⟨hr,b⟩)|(apply AA (TY);intro r hr)|(apply AA (aH);intro r hr)|(refine AL ?_ (CQ ?_ ?_);intro r hr)|(refine AL ?_ (X6 ?_);intro r hr)|(refine AL ?_ (Qg ?_);intro r hr)|(refine AL ?_ (Wa ?_);intro r hr)|(refine AL ?_ (X5 ?_);intro r hr)|(refine AL ?_ (CA ?_ ?_ ?_);rintro r ⟨hr,b⟩)|(refine AL ?_ (YJ ?_);intro r hr)|(apply AA (cL);intro r hr)|(refine AL ?_ (C3 ?_ ?_ ?_);rintro r ⟨hr,b⟩));all_goals(first|((try dsimp[len]at*);first|omega|assumption|grind[AW])|grind|((try dsimp[len]at*);first|grind[DI,Dd,Dd.last,Fy,KJ,PE,SB,VK,Yc,Zb,len,lh,mc,oH,AW]|grind[AW,Dd]|grind[SB,VK,Fy,PE]|grind[PE,KJ,oH,mc]|grind[Dd.last]|grind[lh]|grind[AW,Zb]|grind[AW,Yc]|grind[DI]|((try simp (disch:=omega) only[AW,len]at*)<;>(try intros)<;>(try and_intros)<;>(try intros)<;>(first|omega|assumption|grind))))):P:=h
def AES(x:Int):wi x=(x+9223372036854775808)%18446744073709551616-9223372036854775808:=by unfold wi;rw[IntKind.wrap_i64]
end
def Ls(I:K->Prop)(μ:K->Nat)(m:Nat)(Q:R->Prop):Step K R->Prop
 |.next s'=>I s'/\μ s'<m
 |.done r=>Q r
def Cb{body:K->Option (Step K R)}(I:K->Prop)(a:K->Nat){Q:R->Prop}{s:K}(b:I s)(c:∀s,I s->An (body s) (Ls I a (a s) Q)):An (Aa body s) Q:=AU I a b λs d=>(c s d).mono λst h=>by cases st<;>exact h
theorem An.next{I:K->Prop}{a:K->Nat}{m:Nat}{Q:R->Prop}{s:K}(h:I s)(b:a s<m):An (Option.some (Step.next s)) (Ls I a m Q):=⟨_,rfl,h,b⟩
theorem An.done{I:K->Prop}{a:K->Nat}{Q:R->Prop}{r:R}(h:Q r):An (Option.some (Step.done r)) (Ls I a N Q):=⟨_,rfl,h⟩
theorem k?{S R:Type}{I:S->Prop}{a:S->Nat}{m:Nat}{Q:R->Prop}{r:R}(h:Q r):An (some (Step.done r)) (Ls I a m Q):=⟨_,rfl,h⟩
theorem y!{S R:Type}{I:S->Prop}{a:S->Nat}{m:Nat}{Q:R->Prop}{s:S}(h:I s)(b:a s<m):An (some (Step.next s)) (Ls I a m Q):=⟨_,rfl,h,b⟩
theorem y?{α:Type}{p:Prop}{r:α}{Q:α->Prop}(h:Q r):p->An (some r) Q:=fun _=>⟨r,rfl,h⟩
theorem h!{P:Prop}(h:P:=by kernel_rfl):P:=h
theorem b!{P:Prop}(h:P:=by simp[len];omega):P:=h
open Go.ChangeShapes Go.WideShapes Go.ChangeAt Go.RowKit
def gh0:Gh:=⟨λ_=>ε,λ_=>0,λ_=>0⟩
def cx0(w:World):Cx:=cx (λ_=>False) gh0 [] w
def AJJ(w:World):IC (λ_=>False) gh0 [] w where
 out B h:=h.elim
 live id g cs h:=by simp at h
 lp id L h:=by simp at h
 inj id id' e e' B h:=by simp at h
 bld id e h:=by simp at h
theorem zk{w:World}:¬(cx0 w).O N:=by rintro(h|⟨id,e,h,_⟩);exact h;grind
def ZN{Q:AV→Ap→Prop}(h:ET P F s [] Q){w:World}{cargs:Array Value}(hn:cargs.size=θ s)
  (d:∀(j:Nat)(v:AV)(c:Value),s[j]?=δ v->cargs[j]?=δ c->Bi (cx0 w) v c):
  Calls P F cargs w λe b=>∃c v x a,e=.returned c/\Q v a/\Bi x v c/\Below w.heap.size w b:=by
 refine(h (λ_=>False) gh0 w cargs (AJJ w) hn d).mono ?_;rintro e b ⟨c,v,i,a,rfl,q,_,r,x⟩;refine⟨c,v,_,a,rfl,q,r,x.os,x.tape,x.output,x.size,λk g=>x.keep k g ?_⟩;rintro⟨id,e,f,_⟩;simp at f
def ACG{w:World}{k:IntKind}{a:Addr}{len cap:Nat}{b:List Int}(z:len≤cap)(C:θ b=cap)(s:∀i,i<θ b→w.cell? (a.add i)=δ (.int k (b.getD i 0)))(p:a.block<w.heap.size∨len=0):
  Bi (cx0 w) (.vs 1 ((b.take len).map λn=>.int k n)) (.slice (δ a) len cap):=by
 have d:((b.take len).map λn=>AV.int k n).length=len:=w!
 have f:∀(j:Nat)(e:AV),((b.take len).map λn=>AV.int k n)[j]?=δ e->j<len/\e=.int k (b.getD j 0):=by
  intro j e h;rw[B6]at h;cases c:(b.take len)[j]? with
  |none=>rw[c]at h;cases h
  |some n=>
   rw[c]at h;simp only[Bd,Al]at h;subst h;have o:j<(b.take len).length:=by rcases Ar j (b.take len).length with h|h;exact h;rw[Cf h]at c;cases c
   simp only[BJ]at o;rw[JY o!]at c;exact⟨o!,by rw[Qy,c];rfl⟩
 have key:=Bi.vs (x:=cx0 w) (sz:=1) (rows:=(b.take len).map λn=>.int k n) (a:=δ a) (cap:=cap) (λj _=>.int k (b.getD j 0)) (by rw[d];exact z) o!
  (λj e h=>by rw[(f j e h).2];rfl)
  (λq=>by
   have A:0<len:=by rcases VP len with h|h;subst h;simp at q;exact h
   have l:a.spot=ε:=by have:=s 0 o!;unfold World.cell? at this;split at this;split at this;cases this;rename_i t;simp only[Addr.add,if_true]at t;simpa using t;cases this
   obtain⟨B,r,D⟩:=a;simp only at l;subst l;refine⟨B,r,rfl,zk,?_,λj e i v c g=>?_⟩;rcases p with h|h;exact h;omega;obtain⟨u,m⟩:=f j e c;subst m;have hi0:i=0:=by
    simp only[AV.cells]at g;cases i with
    |zero=>rfl
    |succ i=>simp at g
   subst hi0;refine⟨?_,rfl⟩;have:=s j o!;simp only[Nat.mul_one,Jz];show w.cell? _=_;rw[<-this];unfold Addr.add;split;rename_i y;subst y;rfl;rfl)
  (λj e i v c g=>by
   obtain⟨u,m⟩:=f j e c;subst m;have hi0:v=.int k (b.getD j 0):=by
    simp only[AV.cells]at g;cases i with
    |zero=>simpa using g.symm
    |succ i=>simp at g
   subst hi0;exact .int _ _)
 rw[d]at key;exact key
def AEQ{w:World}:Bi (cx0 w) (.vs 1 []) (.slice ε 0 0):=Bi.vs (x:=cx0 w) (sz:=1) (rows:=[]) (a:=ε) (cap:=0) (λ_ _=>.nilFunc) k! o! (λj e h=>by simp at h) (λh=>N! rfl h) (λj e i v h=>by simp at h)
open Go.RowKit
def ir{args:List AV}{v:AV}(h:∀(w:World)(a:Array Value),a.size=θ args→(∀(j:Nat)(u:AV)(c:Value),args[j]?=δ u→a[j]?=δ c→ ∃x,Bi x u c)→
  Calls P F a w λe i=>∃c,e=.returned c/\(∀x,Bi x v c)/\Below w.heap.size w i) (H:Ap):ET P F args H (Cw v H):=by
 intro X g w a s p hr;refine(h w a p λj u c m n=>⟨_,hr j u c m n⟩).mono ?_;rintro e i ⟨c,rfl,q,b⟩;have l:Gq g H w g H i:=⟨b.os,b.tape,b.output,b.size,λB d _=>b.block B d,Ai _,λ_ _=>Ai _,λ_ _ _=>⟨rfl,rfl⟩,λB o=>.inl o,λB r hr=>⟨r,(b.block B (by rcases Ar B w.heap.size with h|h;exact h;simp[rV h]at hr)).trans hr⟩⟩
 exact⟨c,v,g,H,rfl,⟨rfl,rfl⟩,s.of_ext l (λid e k f=>.inl ⟨k,rfl,rfl,rfl,λB d=>b.block B (s.io_at k f d)⟩) s.inj,q _,l⟩
def yp{x:Cx}{s:List UInt8}(h:Bi x (.str s) T):T=.string ⟨s.toArray⟩:=by cases h;rename_i t h;subst h;rfl
def kB{x:Cx}{k:IntKind}(h:Bi x (.int k C) T):T=.int k C:=by cases h;rfl
def AEG{key:R->Int}{l:List R}(hn:(l.map key).Nodup):∀a∈l,∀b∈l,key a=key b->a=b:=by intro a g b h e;obtain⟨i,c⟩:=Ci g;obtain⟨j,d⟩:=Ci h;have:=(List.getElem?_inj (l:=l.map key) (i:=i) (j:=j) (by rw[B7];exact(Fp.1 c).1) hn).1 (by simp[c,d,e]);subst this;rw[c]at d;exact BH d
def AAO{key:R->Int}{l m:List R}(hn:∀a∈l,∀b∈l,key a=key b->a=b)(f:m.Perm l)(k:m.Pairwise λa b=>key a<=key b):m=l.mergeSort λa b=>decide (key a<=key b):=by
 have d:(l.mergeSort λa b=>decide (key a<=key b)).Perm l:=List.mergeSort_perm _ _;have e:(l.mergeSort λa b=>decide (key a<=key b)).Pairwise λa b=>key a<=key b:=by refine(List.pairwise_mergeSort (le:=λa b=>decide (key a<=key b)) ?_ ?_ l).imp λh=>M! h;intro a b c d e;simp only[K!]at*;omega;intro a b;simp only[VU,K!];omega
 refine oP (le:=λa b=>key a<=key b) ?_ k e (f.trans d.symm);intro a b i j n o;exact hn a (f.subset i) b (d.subset j) o!
end Go.Ab
