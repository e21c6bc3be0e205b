/- Texts of wip, joined and shortened by wip/tools/pack.py; nothing is assumed. -/
import Derived.Test.YtkgodfhnofpglaaGreatDoorK2
import Derived.KernelRfl
import Derived.ProofKit
noncomputable section
set_option linter.all false
set_option maxHeartbeats 1000000
open Option renaming some->δ,none->ε,bind->σ
open Bool renaming true->ζ,false->η
open List renaming length->θ,replicate->ς
open Go.IntKind renaming wrap->ι
open Sum renaming elim->ν
open Nat renaming beq->ξ
open Int renaming toNat->ο
open Decidable renaming decide->τ
namespace Go.Ab
inductive Tgt where
 |fn (F:FuncId)
 |yd (id:Nat)
abbrev TB:=∀{R:Type},Tgt->Ψ TV->Aq->(TV->Aq->Ω R)->Ω R
def jc(ops:Array Oper)(g:Ω (Nat×Bool))(env:Bb):Ω Bool:=
 match g with
 |none=>δ ζ
 |some (j,want)=>
  match (ops[j]?).bind (·.dst)with
  |some d=>match env.get d with|.c (.bl b)=>δ (b==want)|.tup []=>δ η|_=>ε
  |none=>ε
def L4:Ψ Bu->Ψ Nat
 |[]=>[]
 |.own id _ _ _::r=>id::L4 r
 |_::r=>L4 r
def behind(H:Aq)(v:TV):Ψ Nat:=
 match v with
 |.c (.raw (.ptr id 0 0))=>match H[id]? with|some (.live η cs)=>L4 cs|_=>[]
 |v=>L4 v.refs
def Ih:Ψ Nat->Bb->Aq->Bb×Aq
 |[],env,H=>(env,H)
 |id::r,env,H=>match frz id env H with|some (e,h)=>Ih r e h|none=>Ih r env H
def xJ:Ψ RJ->FuncId->Ω RJ
 |[],_=>ε
 |c::r,F=>match ξ c.f F with|true=>δ c|false=>xJ r F
def AHo:Ψ AZ->Ψ TV->Bool
 |[.fn (.func C) _ _],vs=>match vs.getLast? with|some (.c (.raw (.fn (.func D) _ _)))=>ξ C D|_=>ζ
 |_,_=>ζ
def AKJ:RJ->Ψ TV->Bool
 |.c2 _ _ _ _ post _,.c (.own _ _ _ _)::r=>AHo post r
 |.c2 _ _ _ _ _ _,_=>η
 |_,_=>ζ
def po:Ψ RJ->FuncId->Ψ TV->Ω RJ
 |[],_,_=>ε
 |c::r,F,vs=>match ξ c.f F&&AKJ c vs with|true=>δ c|false=>po r F vs
def au(env:Bb)(op:Op):Ω (FuncId×Ψ TV):=
 match op with
 |.call c=>
  match c.callee with
  |.value f=>match Jo env f with|.c (.raw (.fn (.func F) first caps))=>δ (F,first.map tvA++c.args.toList.map (Jo env)++caps.map tvA)|_=>ε
  |_=>ε
 |_=>ε
def wH(env:Bb)(c:Call):Ω (Nat×Ψ TV):=
 match c.callee with
 |.value f=>match Jo env f with|.c (.raw (.yf id))=>δ (id,c.args.toList.map (Jo env))|_=>ε
 |_=>ε
def AIj:FuncId:=1152921504606846976
def AKs:RJ:=.c0 AIj [] [] λ_=>ε
variable {N n G:Nat}{R K:Type}{b E:Ψ Nat}{c D:Aq}{d S:Code}{e L Y:Bb}{f:Ψ RJ}{F:FuncId}{P:Program}{g:Ψ Oper}{i W:TypeId}{k:Bool}{l:AZ}{m:Ω (Nat×Bool)}{p:Ψ TV}{s:Ψ AZ}{t:TV}{u:TB}{v:Array Oper}{o:Oper}{x:Ty}{y:Env}{z:Operand}{B:Exit→Act→World→Prop}{C:Int}{I:Bu}{J:Exit}{M:Ω Nat}{T:Value}{U:Prop}{V:Func}
def AGc:AKs.Ok P:=λ_ _ h=>by cases h
def AJt:FuncId:=1152921504606846977
def oH(cs:Ψ RJ)(env:Bb)(H:Aq)(op:Op):Ψ Nat:=
 match op with
 |.call c=>
  match au env (.call c)with
  |some (F,vs)=>match po cs F vs with|some ct=>(ALH ct vs).flatMap (behind H)|none=>[]
  |none=>[]
 |.buildSlice _ _ parts=>parts.toList.flatMap λp=>L4 (Jo env p.2).refs
 |.store _ a v=>match Jo env a with|.aptr .. =>L4 (Jo env v).refs|.bptr .. =>L4 (Jo env v).refs|_=>[]
 |.slice _ x lo _ _=>match xJ cs AIj with|some _=>[]|none=>match lo,xJ cs AJt with|some _,δ _=>[]|_,_=>L4 (Jo env x).refs
 |_=>[]
def YI(H H':Aq):Aq:=H++H'.drop (θ H)
def isNil:Ψ R->Bool
 |[]=>ζ
 |_=>η
section
variable {R:Type}
def uo(cs:Ψ RJ)(env:Bb)(H:Aq)(op:Op):Ψ Nat:=
 match op with
 |.store _ a _=>idT (Jo env a)
 |.mapUpdate .. =>List.range (θ H)
 |.call c=>
  match au env (.call c)with
  |some (F,vs)=>match po cs F vs with|some ct=>AHG ct vs|none=>(match isNil vs with|true=>[]|false=>List.range (θ H))
  |none=>
   match wH env c with
   |some _=>List.range (θ H)
   |none=>match c with|{callee:=.builtin .append,args:=⟨[s,_]⟩,.. }=>idT (Jo env s)|_=>[]
 |_=>[]
def sg(P:Program)(cs:Ψ RJ)(call:TB)(env:Bb)(H:Aq)(op:Op)(k:TV->Aq->Ω R):Ω R:=
 match op with
 |.alloc t=>ABI P H t k
 |.box _ x=>AG6 H (Jo env x) k
 |.store t a v=>storeT P H t (Jo env a) (Jo env v) k
 |.buildSlice t len parts=>ak P env H t len parts k
 |.makeSlice t x y=>je P H t (Jo env x) (Jo env y) k
 |.makeMap t ε=>vY P H t k
 |.mapUpdate t m x y=>oy P H t (Jo env m) (Jo env x) (Jo env y) k
 |.lookup t m x g=>ym P H t g (Jo env m) (Jo env x) k
 |.convert s d x=>
  match kd P d with
  |.bytes=>wF P H s d (Jo env x) k
  |_=>quT P env H (.convert s d x) λv=>k v H
 |.call c=>
  match au env (.call c)with
  |some (F,vs)=>
   match Enters P F with
   |true=>
    match po cs F vs with
    |some ct=>ACg ct vs H k
    |none=>match isNil vs with|true=>call (.fn F) [] (H.map Dp.lock) λv H'=>k v (YI H H')|false=>call (.fn F) vs H k
   |false=>ε
  |none=>
   match wH env c with
   |some (id,vs)=>call (.yd id) vs H k
   |none=>
    match c with
    |{callee:=.builtin .append,args:=⟨[s,x]⟩,argTypes:=⟨[t,t']⟩}=>match ξ t t' with|true=>tf P H t (Jo env s) (Jo env x) k|false=>ε
    |c=>quT P env H (.call c) λv=>k v H
 |op=>quT P env H op λv=>k v H
def force(f:Bool)(v:TV)(k:TV->Ω R):Ω R:=
 match f with
 |true=>match v with|.c (.bl b)=>cond b (k (.c (.bl ζ))) (k (.c (.bl η)))|v=>k v
 |false=>k v
def guards(ops:Array Oper):Ψ Nat:=ops.toList.filterMap λo=>o.guard.map (·.1)
def JV(j:Nat):Ψ Nat->Bool
 |[]=>η
 |i::r=>match ξ i j with|true=>ζ|false=>JV j r
def ABi{α:Type}(l:Ψ α)(i:Int)(z:α):Ω (Ψ α):=if 0<=i/\i<=(θ l:Int)then δ (l.take (ο i)++ς (θ l-ο i) z)else ε
def ACl(o1 o2:Oper):Ω (Nat×TypeId×Operand×Operand):=
 match o1.dst,o1.op,o1.guard,o2.dst,o2.op,o2.guard with
 |some d,.slice t x (δ lo) ε ε,ε,ε,.call {callee:=.builtin .clear,args:=⟨[.tmp d']⟩,argTypes:=⟨[t']⟩},ε=>match ξ d d'&&ξ t t' with|true=>δ (d,t,x,lo)|false=>ε
 |_,_,_,_,_,_=>ε
def AJD(P:Program)(H:Aq)(t:TypeId)(x lo:TV)(k:Aq->Ω R):Ω R:=
 match x,lo with
 |.c (.own id ver _ _),.c (.it _ i)=>
  match H[id]? with
  |some (.buf η t2 l n2 ver2)=>
   match ξ ver ver2,elT P t,eI P t with
   |true,δ te,δ (ε,e,_)=>
    if h:(Ty.list t2).beq (Ty.list te)=ζ then
     match wI P e with
     |some z=>match te.all z with|some zd=>(ABi (α:=te.D) (Ty.cast h l) i zd).bind λl'=>k (H.set id (.buf η te l' n2 ver2))|none=>ε
     |none=>ε
    else ε
   |_,_,_=>ε
  |_=>ε
 |_,_=>ε
def AHD(o:Oper):Ψ Oper->Ω (Nat×TypeId×Operand×Operand)
 |o2::_=>ACl o o2
 |[]=>ε
def AAu(P:Program)(cs:Ψ RJ)(call:TB)(ops:Array Oper)(gs:Ψ Nat)(sk:Bool):Ψ Oper->Nat->Bb->Aq->(Bb->Aq->Ω R)->Ω R
 |[],_,env,H,k=>k env H
 |o::r,j,env,H,k=>
  match sk with
  |true=>AAu P cs call ops gs η r (j+1) env H k
  |false=>
   match AHD o r with
   |some (d,t,x,lo)=>AJD P H t (Jo env x) (Jo env lo) λH'=>AAu P cs call ops gs ζ r (j+1) (env.put d WL) H' k
   |none=>
    match jc ops o.guard env with
    |some ζ=>
     match Ih (oH cs env H o.op) env H with
     |(env1,H1)=>sg P cs call env1 H1 o.op λv H'=>force (JV j gs) v λv'=>AAu P cs call ops gs η r (j+1) (env1.putO o.dst v') H' k
    |some η=>AAu P cs call ops gs η r (j+1) (env.putO o.dst (.tup [])) H k
    |none=>ε
end
def qJ(H:Aq)(v:TV):Prop:=∀id ver t n,Bu.own id ver t n∈v.refs->∀t' l n' ver',H[id]? ≠δ (.buf η t' l n' ver')
structure EC(A:List Nat)(env:Bb)(H:Aq)(env':Bb)(H':Aq):Prop where
 step:CL H H'
 same:∀t,t∉A->qJ H (env.get t)->env'.get t=env.get t
def qJ.step(h:CL c D)(d:t.ok c)(k:qJ c t):qJ D t:=by intro id a b n H;have hr:=d (.own id a b n) H;exact h.nb id hr.1 (k id a b n H)
theorem EC.refl(A:Ψ Nat)(env:Bb)(H:Aq):EC A env H env H:=⟨CL.refl H,λ_ _ _=>rfl⟩
def EC.trans{A B}{d g i:Bb}{c e f:Aq}(ok:∀p∈d,p.2.ok c)(a:EC A d c g e)(b:EC B g e i f):EC (A++B) d c i f:=by refine⟨a.step.trans b.step,λt l k=>?_⟩;have j:=a.same t (λh=>l (FA _ h)) k;rw[b.same t (λh=>l (La _ h)) (by rw[j];exact k.step a.step (mN ok t)),j]
def EC.mono(a:EC b L D e c)(h:∀t,t∈b->t∈E):EC E L D e c:=⟨a.step,λt g f=>a.same t (λq=>g (h t q)) f⟩
def th{t u:Nat}(h:u≠t):∀env:Bb,(Bb.del t env).get u=env.get u
 |[]=>rfl
 |(k,v)::r=>by simp only[Bb.del];by_cases a:k=t;subst a;rw[HT];simp only[Bb.get,beq_false (Pf h)];exact th h r;rw[beq_false a];simp only[Bb.get];rw[th h r]
def qU(h:n≠N):(e.put N t).get n=e.get n:=by simp_all[Bb.put,Bb.get,beq_false,Pf,th]
theorem yn{p:Nat×TV}{t:Nat}:∀{env},p∈Bb.del t env->p∈env
 |(k,v)::r,h=>by simp only[Bb.del]at h;split at h;exact CQ _ (yn h);rcases A3.1 h with rfl|h;simp;exact CQ _ (yn h)
theorem dM{d:Ω Nat}(h:∀p∈e,p.2.ok c)(b:t.ok c):∀p∈e.putO d t,p.2.ok c:=by
 cases d with
 |none=>exact h
 |some H=>intro p a;rcases A3.1 a with rfl|a;exact b;grind[yn]
def px{l:Ψ x.D}(g:c[N]?=δ (.buf η x l n G))(j:∀a f e d,I=.own a f e d->∀i l2 h H,c[a]? ≠δ (.buf η i l2 h H)):OR N G x l I=I:=by
 cases I with
 |own a f e d=>simp only[OR];split<;>simp_all
 |_=>rfl
mutual
theorem vD{H:Aq}{id n k:Nat}{t:Ty}{l:Ψ t.D}(d:H[id]?=δ (.buf η t l n k)):∀{v},qJ H v->py id k t l v=v
 |.c z,h=>by simp only[py];rw[px d λa j i f e=>h a j i f (by simp[TV.refs,e])]
 |.g b,h=>by
  simp only[py,TV.g.injEq];have:∀b:Ψ Bu,(∀a j i f,Bu.own a j i f∈b->∀s l2 q m,H[a]? ≠δ (.buf η s l2 q m))->b.map (OR id k t l)=b:=by
   intro b;induction b with
   |nil=>intro _;rfl
   |cons z r p=>intro h;rw[Bz,p λa j i f o=>h a j i f (by simp[o]),px d λa j i f e=>h a j i f (by simp[e])]
  exact this b h
 |.tup vs,h=>by simp only[py];rw[sm d (vs:=vs) h]
 |.aptr ..,_=>rfl
 |.bptr ..,_=>rfl
 |.vw ..,_=>rfl
 |.vptr ..,_=>rfl
theorem sm{H:Aq}{id n c:Nat}{t:Ty}{l:Ψ t.D}(b:H[id]?=δ (.buf η t l n c)):∀{vs},qJ H (.tup vs)->iz id c t l vs=vs
 |[],_=>rfl
 |v::r,h=>by simp only[iz];rw[vD b (v:=v) λa g f e d=>h a g f e (by simp only[TV.refs,TV.refsL,Al];exact .inl d),sm b (vs:=r) λa g f e d=>h a g f e (by simp only[TV.refs,TV.refsL,Al]at d⊢;exact .inr d)]
end
def ACy{f:TV->TV}(a:f WL=WL)(t:Nat):∀env:Bb,Bb.get (env.map λp=>(p.1,f p.2)) t=f (env.get t)
 |[]=>a.symm
 |(k,v)::r=>by simp only[Bz,Bb.get];split;rfl;exact ACy a t r
def AFQ(h:frz N e D=δ (L,c))(t:Nat)(d:qJ D (e.get t)):L.get t=e.get t:=by unfold frz at h;split at h;rename_i H l n b a;obtain⟨rfl,rfl⟩:=h;rw[ACy (f:=py N b H l) rfl];exact vD a d;cases h
def SH:∀a{env}{H},Oc env H→Oc (Ih a env H).1 (Ih a env H).2∧EC [] env H (Ih a env H).1 (Ih a env H).2∧
  ∀N,FN N (BC H).length (B5 env) (BC H) (B5 (Ih a env H).1) (BC (Ih a env H).2)
 |[],env,H,ok=>⟨ok,EC.refl _ _ _,λN=>FN.refl N _ _⟩
 |id::r,env,H,ok=>by simp only[Ih];split;rename_i e h b;obtain⟨f,c,j⟩:=AJK ok b;obtain⟨g,i,k⟩:=SH r f;refine⟨g,(EC.trans (A:=[]) (B:=[]) ok.env ⟨c,λt _ d=>AFQ b t d⟩ i),λN=>(j N).trans ((k N).of_le (by rw[CT,CT];exact c.len))⟩;exact SH r ok
section
variable {P:Program}{N:Nat}{R:Type}
def zc(P:Program)(args:Ψ AZ)(H:As)(v:AZ)(H':As):Tgt->Prop
 |.fn F=>Ei P F args H (C9 v H')
 |.yd id=>∀N(o:Oper)c f env,o.op=.call c->c.callee=.value f->BN env f=.yf id->c.args.toList.map (BN env)=args->Jn P N o env H (C9 v H')
def XM(P:Program)(call:TB):Prop:=∀{R:Type} tg vs H (k:TV->Aq->Ω R) r,(∀v∈vs,v.ok H)->(∀e∈H,e.ok H)->call tg vs H k=δ r->
 ∃v H',zc P (vs.map TV.enc) (BC H) v.enc (BC H') tg/\k v H'=δ r/\v.ok H'/\(∀e∈H',e.ok H')/\CL H H'
theorem mO(h:jc v m e=δ ζ){B:Prop}(a:U):Y5 v m (B5 e) U B:=by unfold jc at h;grind[Y5,Xg,Vh,TV.enc,Bu.one]
theorem qH(h:jc v m e=δ η){B:Prop}(b:B):Y5 v m (B5 e) U B:=by unfold jc at h;unfold Y5;split at h;cases h;rename_i j c;unfold Xg;split at h;rename_i d f;simp only[f,Vh];split at h;grind[TV.enc,Bu.one];rename_i a;simp[a];exact b;cases h;cases h
theorem yh(a:∀d b,e.get d=.c (.bl b)->L.get d=.c (.bl b))(h:jc v m e=δ ζ):jc v m L=δ ζ:=by cases m<;>grind[jc]
theorem uz:∀{a}{F}{c:RJ},xJ a F=δ c->c∈a/\c.f=F
 |d::r,F,c,h=>by simp only[xJ]at h;split at h;simp_all;obtain⟨b,e⟩:=uz h;grind
theorem u5:∀{a}{F}{b}{c:RJ},po a F b=δ c->c∈a/\c.f=F
 |d::r,F,b,c,h=>by simp only[po]at h;split at h;simp_all;obtain⟨e,g⟩:=u5 h;grind
theorem pV{n}(h:au e n=δ (F,p)):Go.Ab.callT (BN (B5 e)) n=δ (.inl (F,p.map TV.enc))/\∀H,(∀b∈e,b.2.ok H)->∀v∈p,v.ok H:=by
 unfold au at h;split at h;rename_i c;split at h;rename_i f d;split at h;rename_i G first a g
 simp at h;obtain⟨rfl,rfl⟩:=h;have j:BN (B5 e) f=.fn (.func G) first a:=by rw[MA,g];rfl
 have k:∀l:Ψ AZ,(l.map tvA).map TV.enc=l:=by
  intro l;conv=>rhs;rw[<-gV l]
  grind[List.map_congr_left,jt]
 refine⟨?_,λH m v i=>?_⟩;simp_all[Go.Ab.callT,MA];simp at i;grind[mf,iq];cases h;cases h;cases h
theorem AA6{c}(h:wH e c=δ (N,p)):(∃f,c.callee=.value f/\BN (B5 e) f=.yf N/\c.args.toList.map (BN (B5 e))=p.map TV.enc)/\∀H,(∀b∈e,b.2.ok H)->∀v∈p,v.ok H:=by unfold wH at h;split at h;rename_i f a;split at h;rename_i i g;injection h with h;injection h with d l;subst d l;refine⟨⟨f,a,by rw[MA,g];rfl,?_⟩,λH j v k=>?_⟩;grind[List.map_congr_left,MA];grind[iq];cases h;cases h
def AJg{k:TV->Aq->Ω R}{r:R}(ok:Oc e c)(h:quT P e c o.op (k · c)=δ r):∀F,oK P N o e c F k r:=by intro F;obtain⟨v,a,b,H⟩:=xn ok h;exact⟨v,c,Dm a ⟨rfl,rfl⟩,b,H,ok.heap,CL.refl c,Frame.refl F c⟩
theorem wT(H:Aq):BC (H.map Dp.lock)=BC H:=by grind[BC,List.map_congr_left,qM]
theorem AAd(h: ∀e∈c,e.ok c): ∀e∈c.map Dp.lock,e.ok (c.map Dp.lock):=by
 have f: ∀id a t n,Sz c id a t n->Sz (c.map Dp.lock) id a t n:=λid a t n q=>by
  refine⟨by simpa using q.1,λro y l w k H=>?_⟩;rw[B9]at H;cases j:c[id]? with
  |none=>grind
  |some e=>
   rw[j]at H;simp at H;cases e<;>simp only[Dp.lock]at H<;>first|(cases H;done)|skip
   injection H with _ m v o p;subst m o p;exact q.2 _ _ _ _ _ j
 have d: ∀x:Bu,x.ok c->x.ok (c.map Dp.lock):=λx i=>by
  cases x with
  |own id a t n=>exact f _ _ _ _ i
  |_=>trivial
 intro e H;obtain⟨u,r,rfl⟩:=Bo.1 H;have g:=h u r;cases u with
 |dead=>trivial
 |live b s=>exact λx i=>d x (g x i)
 |buf=>exact g
 |lp=>exact g
 |mp=>exact g
theorem AE1{H a:Aq}(L: ∀e∈H,e.ok H)(st:CL (H.map Dp.lock) a)(F: ∀e∈a,e.ok a):
  (∀v:TV,v.ok a->v.ok (YI H a))/\(∀e∈YI H a,e.ok (YI H a))/\CL H (YI H a)/\ ∀x:Cx,T4 x x (BC a) (BC (YI H a)):=by
 have K:H.length<=a.length:=by simpa using st.len
 have c:(YI H a).length=a.length:=by grind[YI,List.length_append,List.length_drop]
 have o: ∀j,j<H.length->(YI H a)[j]? =H[j]? :=λj p=>CW p;have I: ∀j,H.length<=j->(YI H a)[j]? =a[j]? :=λj p=>by grind[YI]
 have keep: ∀(j:Nat) (e:Dp),H[j]? =some e->e≠ .dead->a[j]? =some e.lock:=λj e p G=>by refine st.ro j e.lock (by rw[B9,p];rfl) ?_;cases e<;>first|rfl|exact(G rfl).elim
 have A: ∀id f t n,Sz a id f t n->Sz (YI H a) id f t n:=λid f t n q=>by
  refine⟨by rw[c];exact q.1,λro P l O D d=>?_⟩;rcases Aw id H.length with h|h
  ·rw[o id h]at d;exact q.2 _ _ _ _ _ (keep id _ d (by simp))
  ·rw[I id h]at d;exact q.2 _ _ _ _ _ d
 have k: ∀x:Bu,x.ok a->x.ok (YI H a):=λx C=>by
  cases x with
  |own id f t n=>exact A _ _ _ _ C
  |_=>trivial
 have B:CL H (YI H a):=by
  refine⟨by rw[c];exact K,λid f t n q=>⟨by rw[c];exact DG q.1 K,λro P l O D d=>?_⟩,λid e d _=>?_,λid w h=>by rw[o id w];exact h,λid w _ _ _ _ _ _ _ _ h=>by rw[o id w]at h;exact⟨_,_,h⟩⟩
  ·rw[o id q.1]at d;exact q.2 _ _ _ _ _ d
  ·grind
 refine⟨λv N x C=>k x (N x C),λe d=>?_,B,λx=>⟨by rw[CT,CT,c],λj Q p=>?_⟩⟩
 ·rcases Al.1 d with d|d
  ·exact B.ent (L e d)
  ·have E:=F e (RV d);cases e with
   |dead=>trivial
   |live b s=>exact λx C=>k x (E x C)
   |buf=>exact E
   |lp=>exact E
   |mp=>exact E
 ·rw[D5]at p;cases J:(YI H a)[j]? with
  |none=>grind
  |some y=>
   rw[J]at p;simp at p;subst p;have same:(BC a)[j]? =some y.enc->y.enc= .dead\/(∃g s u,(BC a)[j]? =some (.live g s)/\y.enc= .live g u/\u.length=s.length/\ ∀(i:Nat) (z:AZ),u[i]? =some z-> ∃v,s[i]? =some v/\Conv x x v z)\/((BC a)[j]? =some y.enc/\ ∀g s,y.enc≠ .live g s):=λh=>by
    cases y with
    |dead=>exact .inl rfl
    |live b s=>exact .inr (.inl ⟨_,_,_,h,rfl,rfl,λi z h=>⟨z,h,λ_ r=>r⟩⟩)
    |buf b t l m f=>exact .inr (.inl ⟨_,_,_,h,rfl,rfl,λi z h=>⟨z,h,λ_ r=>r⟩⟩)
    |lp=>exact .inr (.inr ⟨h,λ_ _ h=>by cases h⟩)
    |mp=>exact .inr (.inr ⟨h,λ_ _ h=>by cases h⟩)
   rcases Aw j H.length with h|h
   ·rw[o j h]at J;by_cases M:y= .dead
    ·subst M;exact .inl rfl
    ·grind[D5,qM]
   ·grind[D5]
theorem sh{B:Ψ RJ}(D:∀c∈B,c.Ok P){i}(l:XM P i){o:Oper}{env}{H}{k:TV->Aq->Ω R}{r:R}(ok:Oc env H)(h:sg P B i env H o.op k=δ r):oK P N o env H (uo B env H o.op) k r:=by
 have z:∀A,o.op=A->quT P env H A (k · H)=δ r->∀F,oK P N o env H F k r:=λA e h=>AJg ok q!;generalize a:o.op=A at h;unfold sg at h;split at h;exact yK ok a h;exact ABP ok a h;exact zH ok a h;exact pH ok a h;exact sB ok a h;grind[vZ];exact sC ok a h;grind[wb];split at h;exact wG ok a h;grind;rename_i c;split at h;rename_i F y t;obtain⟨S,J⟩:=pV t;split at h;rename_i C;split at h;rename_i T u;obtain⟨U,V⟩:=u5 u;obtain⟨v,d,m,n,p,q,s,Y⟩:=zu (D T U) (J H ok.env) ok.heap h;rw[V]at m;exact⟨v,d,mV q! C m,n,p,q,s,by simp only[uo,t,u];exact Y⟩;rename_i u;split at h;rename_i b;have G:y=[]:=by cases y<;>first|rfl|cases b
 subst G;obtain⟨v,d,m,n,p,q,s⟩:=l (.fn F) [] (H.map Dp.lock) _ r (λv W=>by cases W) (AAd ok.heap) h;obtain⟨L,M,O,Q⟩:=AE1 ok.heap s q;have I:Ei P F [] (BC H) (C9 v.enc (BC d)):=by grind[zc,wT]
 refine⟨v,YI H d,Jn.after (mV q! C I) λX g w _=>?_,n,L v p,M,O,?_⟩;have hr:=(Q (cx X g (BC d) w)).onto;exact⟨hr,λc r=>r.later hr.later⟩;simp only[uo,t,u];exact λj x _=>CW x;rename_i b;obtain⟨v,d,m,n,p,q,s⟩:=l (.fn F) y H k r (J H ok.env) ok.heap h;have E:=b;exact⟨v,d,mV (by rw[a];exact S) C m,n,p,q,s,by simp only[uo,t,u,E];exact λj x hn=>(hn (H5.2 x)).elim⟩;cases h;rename_i t;split at h;rename_i id y K;obtain⟨⟨f,Z,y2,y3⟩,y4⟩:=AA6 K;obtain⟨v,d,m,n,p,q,s⟩:=l (.yd id) y H k r (y4 H ok.env) ok.heap h;exact⟨v,d,m N o c f (B5 env) a Z y2 y3,n,p,q,s,by simp only[uo,t,K];exact λj x hn=>(hn (H5.2 x)).elim⟩;grind[wN,Nat.eq_of_beq_eq_true,uo];grind
theorem ot{f:TV->Ω R}{r:R}(h:force k t f=δ r):f t=δ r:=by unfold force at h;grind
def ph(ops:Ψ Oper):Ψ Nat:=ops.filterMap (·.dst)
def uk{b}{d:Nat}{c:Operand}(h:ACl o b=δ (d,i,z,c)):o.dst=δ d/\o.op=.slice i z (δ c) ε ε/\o.guard=ε/\b.dst=ε/\b.op=.call {callee:=.builtin .clear,args:= #[.tmp d],argTypes:= #[i]}/\b.guard=ε:=by unfold ACl at h;split at h;rename_i e f g a j k;split at h<;>simp_all;cases h
def xK{a:Ty}{z:Ψ AZ}{b:a.D}(h:Dj z (a.enc b).cells):∀n:Nat,Dj (ς n z).flatten (a.E.cl (ς n b))
 |0=>Dj.refl _
 |n+1=>by exact Dj.append h (xK h n)
theorem ABT{o2}{d:Nat}{lo:Operand}{k:Aq→Ω R}{r:R}(ok:Oc e c)(hc:ACl o o2=δ (d,i,z,lo))(h:AJD P c i (Jo e z) (Jo e lo) k=δ r):
  ∃v G,Jn P N o (B5 e) (BC c) (C9 v (BC c))/\Jn P N o2 ((B5 e).put d v) (BC c) (C9 (.tup []) (BC G))/\k G=δ r/\(∀D∈G,D.ok G)/\CL c G:=by
 obtain⟨_,c2,_,c4,U,_⟩:=uk hc;unfold AJD at h;split at h;rename_i id E t0 n0 kk H hx Z;split at h;rename_i a l b ao y;split at h;rename_i te D ar hb ag F;split at h;rename_i S;split at h;rename_i x hz;split at h;rename_i zd al;obtain⟨w,t,h⟩:=DR.1 h;have T:=DA hb;subst T;have u:=Ty.beq_eq _ _ S;injection u with u;subst u;have B:(Ty.cast S l:Ψ a.D)=l:=rfl;rw[B]at t;have hr:Sz c id E t0 n0:=by have:=iq ok.env z;rw[hx]at this;exact this (.own id E t0 n0) (by simp[TV.refs])
 obtain⟨_,q⟩:=hr.2 _ _ _ _ _ y;obtain⟨rfl,rfl⟩:=q rfl;have hn:b=θ l:=ok.heap _ (BQ y);obtain⟨e',I,M⟩:=lm ag;rw[I]at F;injection F with F;injection F with _ F;injection F with X Y;subst X Y;obtain⟨z1,z2⟩:=Z2 hz;have p:=Fl al;have C:(lvs x).length=a.sz:=by rw[<-p.1,a.enc_len]
 unfold ABi at t;split at t;rename_i hi;injection t with t;have O:CL c (c.set id (.buf η a w b E)):=CL.set y rfl λ_ _ _ _ _ D=>q!
 have J:Dp.ok (c.set id (.buf η a w b E)) (.buf η a w b E):=by show b=θ w;grind
 have m:(BC c)[id]?=δ (.live b (a.E.cl l)):=by rw[D5,y];rfl
 have A:id<(BC c).length:=q!
 have ex:BN (B5 e) z=.sl id b a.sz 0 b:=by rw[MA,hx];rfl
 have el:BN (B5 e) lo=.int kk H:=by rw[MA,Z];rfl
 have W:UR (BC c) id b=ζ:=by simp[UR,m]
 have s:∀v,BN ((B5 e).put d v) (.tmp d)=v:=λv=>by simp[BN,Env.put,Env.get]
 have j:=a.E.clen l;have Q:a.E.sz=a.sz:=rfl;rw[Q]at j;have ad:Cd P (B5 e) (BC c) o.op=δ (if H.toNat=0 then .sl id b a.sz 0 b else if H.toNat=b then .vs a.sz []else .sl id b a.sz (0+H.toNat*a.sz) (b-H.toNat)):=by
  rw[c2];have b1:Xx 0 (δ (AZ.int kk H))=δ H.toNat:=by grind[Xx,ve]
  have b2:∀n,Xx n ε=δ n:=λ_=>rfl;simp only[Cd,ex,el,Br,oT,jp,b1,b2,I];rw[C! ⟨P!,a.sz_pos,o!,Am _,Am _,W,k!⟩];grind
 have g:∀V,a.E.cl l=V->(BC c).set id (.live b V)=BC c:=λV ap=>by apply JN;grind
 have f:Dj (Xn (a.E.cl l) (H.toNat*a.sz) (ς (b-H.toNat) (lvs x)).flatten) (a.E.cl w):=by
  have e1:a.E.cl w=a.E.cl (l.take H.toNat)++a.E.cl (ς (b-H.toNat) zd):=by grind[TC.cl]
  have e2:(a.E.cl l).take (H.toNat*a.sz)=a.E.cl (l.take H.toNat):=by
   have e3:a.E.cl l=a.E.cl (l.take H.toNat)++a.E.cl (l.drop H.toNat):=by grind[List.take_append_drop,TC.cl]
   have e4:(a.E.cl (l.take H.toNat)).length=H.toNat*a.sz:=by rw[a.E.clen,BK,Q];grind
   grind
  have e5:(a.E.cl l).drop (H.toNat*a.sz+(ς (b-H.toNat) (lvs x)).flatten.length)=[]:=by apply mq;simp[C];rw[<-ED];grind
  unfold Xn;rw[e1,e2,e5,D1];exact(Dj.refl _).append (xK p _)
 have L:Jn P N o2 ((B5 e).put d (if H.toNat=0 then .sl id b a.sz 0 b else if H.toNat=b then .vs a.sz []else .sl id b a.sz (0+H.toNat*a.sz) (b-H.toNat))) (BC c) (C9 (.tup []) (BC (c.set id (.buf η a w b E)))):=by
  have e6:BC (c.set id (.buf η a w b E))=(BC c).set id (.live b (a.E.cl w)):=by rw[Lg];rfl
  rw[e6];by_cases h0:H.toNat=0;rw[C! h0];refine Jn.set_less A ?_ f;have:=Jn.clear (N:=N) (K:=C9 (.tup []) _) U c4 I M z1 C (s (.sl id b a.sz 0 b)) m (by rw[j,hn];omega) ⟨rfl,rfl⟩;grind;rw[D! h0];by_cases h1:H.toNat=b;rw[C! h1];have e7:w=l:=t!
  rw[e7,g _ rfl];exact tV U (Rf I).1 (s _) ⟨rfl,rfl⟩;rw[D! h1];refine Jn.set_less A ?_ f;have:=Jn.clear (N:=N) (K:=C9 (.tup []) _) U c4 I M z1 C (s (.sl id b a.sz (0+H.toNat*a.sz) (b-H.toNat))) m (by rw[j,<-hn,DQ,<-ED];apply Nh;omega) ⟨rfl,rfl⟩;grind
 exact⟨_,_,Dm ad ⟨rfl,rfl⟩,L,h,SP O ok.heap J,O⟩;grind;cases h;cases h;cases h;cases h;cases h;cases h
def AGe:FN N (BC c).length ((B5 e).put n l) (BC c) (B5 (e.put n WL)) (BC c):=by
 refine XO rfl λX g w s=>⟨T4.refl _ _,λt f m=>?_⟩
 rw[ln]at m;rcases A3.1 m with H|m;injection H with a b;subst a b;exact⟨l,H4,λd _=>.any d⟩;exact⟨f,CQ _ m,λ_ r=>r⟩
theorem jk{J:Ψ RJ}(m:∀c∈J,c.Ok P){p}(l:XM P p){D:Array Oper}{gs:Ψ Nat}:∀os j env H k(r:R),Oc env H→AAu P J p D gs η os j env H k=δ r→
  ∃f i,Xv P N D os (B5 env) (BC H) (λe h=>e=B5 f/\h=BC i)/\k f i=δ r/\Oc f i/\EC (ph os) env H f i
 |[],j,env,H,k,r,ok,h=>⟨env,H,⟨_,_,FN.refl _ _ _,rfl,rfl⟩,h,ok,EC.refl _ _ _⟩
 |o::os,j,env,H,k,r,ok,h=>by
  simp only[AAu]at h;have B:∀{e}{h}{v},EC (ph [o]) e h (e.putO o.dst v) h:=by
   intro e h v;refine⟨CL.refl h,λt U _=>?_⟩;cases hd:o.dst with
   |none=>rfl
   |some d=>refine qU λe=>U ?_;simp[ph,hd,e]
  have z:∀t,t∈ph [o]++ph os->t∈ph (o::os):=by grind[ph]
  split at h;rename_i d t x lo y;cases os with
  |nil=>cases y
  |cons o2 E=>
   have hc:=y;obtain⟨c1,c2,c3,c4,c5,c6⟩:=uk hc;obtain⟨v,C,M,w2,T,W,st⟩:=ABT (N:=N) ok hc h;have g:Oc (env.put d WL) C:=⟨dM (d:=δ d) (st.env ok.env) js,W⟩
   obtain⟨f,i,L,Y,F,G⟩:=jk m l E (j+1+1) _ C k r g T;refine⟨f,i,⟨B5 env,BC H,FN.refl N _ _,?_⟩,Y,F,?_⟩;rw[c3];apply Jn.mono M;rintro u _ ⟨rfl,rfl⟩;rw[c1];refine⟨(B5 env).put d u,BC H,FN.refl N _ _,?_⟩;rw[c6];apply Jn.mono w2;rintro _ _ ⟨rfl,rfl⟩;rw[c4];exact Xv.weak AGe L;have Z:EC (ph [o]) env H (env.put d WL) C:=by exact⟨st,λu hu _=>qU λe=>hu (by simp[ph,c1,e])⟩
   refine(EC.trans ok.env Z G).mono λu hu=>?_;grind[ph,List.mem_cons_of_mem]
  split at h;rename_i S;obtain⟨K,t1,M⟩:=SH (oH J env H o.op) ok;generalize Ih (oH J env H o.op) env H=q at h K t1 M;obtain⟨env1,C⟩:=q;obtain⟨v,I,e1,e2,e3,e4,e5,_⟩:=sh (N:=N) m l K h;have O:=ot e2;have g:Oc (env1.putO o.dst v) I:=⟨dM (e5.env K.env) e3,e4⟩
  obtain⟨f,i,L,E,F,G⟩:=jk m l os (j+1) _ I k r g O;refine⟨f,i,?_,E,F,?_⟩;refine⟨B5 env1,BC C,M N,mO ?_ ?_⟩;exact yh (λd b hb=>by rw[t1.same d (λh=>by cases h) (by rw[hb];intro id ag t n hm;simp[TV.refs]at hm),hb]) S;exact λrr X h0 a w s Q=>XK (e1 rr X h0 a w s Q) (by rintro a' w' ⟨c,u,h',ad,ha,⟨rfl,rfl⟩,V,hs,hx⟩;exact⟨c,_,h',_,ha,by show Xv P N D os ((B5 env1).putO o.dst v.enc) (BC I) _;rw[<-Yx];exact L,V,hs,hx⟩);have Z:EC (ph [o]) env1 C (env1.putO o.dst v) I:=by exact⟨e5,λt U T=>(B (h:=C)).same t U T⟩
  have:=(EC.trans (A:=[]) ok.env t1 (EC.trans K.env Z G))
  exact this.mono z;rename_i S;have g:Oc (env.putO o.dst (.tup [])) H:=⟨dM ok.env (SO λv V=>by cases V),ok.heap⟩
  obtain⟨f,i,L,E,F,G⟩:=jk m l os (j+1) _ H k r g h;refine⟨f,i,⟨B5 env,BC H,FN.refl N _ _,qH S ?_⟩,E,F,(EC.trans ok.env B G).mono z⟩;have:(B5 env).putO o.dst (.tup [])=B5 (env.putO o.dst (.tup [])):=by rw[Yx];rfl
  grind;cases h
end
def Ku(S:Ψ Nat):Nat->Aq->Aq
 |_,[]=>[]
 |j,e::r=>(match JV j S with|true=>e|false=>e.lock)::Ku S (j+1) r
theorem JT{S:Ψ Nat}:∀H(i j:Nat),(Ku S i H)[j]?=(H[j]?).map λe=>match JV (i+j) S with|true=>e|false=>e.lock
 |[],i,j=>by simp[Ku]
 |e::r,i,0=>by simp[Ku]
 |e::r,i,j+1=>by simp only[Ku,qx];rw[JT r (i+1) j];grind
def Ic{S:Ψ Nat}:∀H i,(Ku S i H).length=θ H
 |[],_=>rfl
 |e::r,i=>by simp[Ku,Ic r]
theorem rp{S}:∀H i,BC (Ku S i H)=BC H
 |[],_=>rfl
 |e::r,i=>by have:=rp (S:=S) r (i+1);grind[BC,Ku,qM]
theorem ox(h:Sz c N n x G):Sz (Ku b 0 c) N n x G:=by
 refine⟨by rw[Ic];exact h.1,λro r l p f a=>?_⟩;rw[JT]at a;cases d:c[N]? with
 |none=>grind
 |some e=>
  rw[d]at a;simp at a;split at a;subst a;exact h.2 _ _ _ _ _ d;cases e with
  |dead=>cases a
  |live S k=>cases a
  |lp=>cases a
  |mp=>cases a
  |buf S s o q u=>injection a with _ g m i j;subst g i j;exact h.2 _ _ _ _ _ d
theorem rq{S:List Nat}{H:Aq}{x:Bu}(h:x.ok H):x.ok (Ku S 0 H):=by
 cases x with
 |own id a t n=>exact ox h
 |_=>trivial
theorem mS{S:List Nat}{env:Bb}{H:Aq}(ok:Oc env H):Oc env (Ku S 0 H):=by
 refine⟨λp o x g=>rq (ok.env p o x g),λe m=>?_⟩;obtain⟨j,a⟩:=HS.1 m;rw[JT]at a;cases i:H[j]? with
 |none=>grind
 |some c=>
  rw[i]at a;simp at a;have d:=ok.heap c (BQ i);have f:c.ok (Ku S 0 H):=by
   cases c with
   |dead=>trivial
   |live b k=>exact λx g=>rq (d x g)
   |buf b t l n h=>exact d
   |lp=>exact d
   |mp=>exact d
  split at a
  ·grind
  ·subst a;cases c with
   |dead=>trivial
   |live b k=>exact f
   |buf b t l n h=>exact f
   |lp=>exact f
   |mp=>exact f
def xX{j:Nat}:∀{l},JV j l=ζ->j∈l
 |i::r,h=>by simp only[JV]at h;split at h;rename_i a;exact A3.2 (.inl (DA a).symm);exact CQ _ (xX h)
def SV(S:Ψ Nat):Nat->Aq->Aq->Aq
 |j,e::r,e'::r'=>(match JV j S with|true=>e'|false=>e)::SV S (j+1) r r'
 |_,_,H'=>H'
def wt{S}:∀{H a:Aq}(i j:Nat),θ H<=θ a->(SV S i H a)[j]?=match τ (j<θ H)&& !JV (i+j) S with|true=>H[j]? |false=>a[j]?
 |[],a,i,j,_=>by simp[SV]
 |e::r,[],i,j,h=>by simp at h
 |e::r,e'::r',i,0,h=>by simp only[SV,Lc,dT,CY,Nat.zero_lt_succ,decide_true,qh];cases JV i S<;>rfl
 |e::r,e'::r',i,j+1,h=>by
  simp only[SV,qx];rw[wt (i+1) j (by simpa using h),show i+1+j=i+(j+1) by omega];have:τ (j+1<(e::r).length)=τ (j<θ r):=k!
  rw[this]
def wu{S:Ψ Nat}:∀{H a:Aq}i,θ H<=θ a->(SV S i H a).length=θ a
 |[],a,i,_=>by simp[SV]
 |e::r,[],i,h=>by simp at h
 |e::r,e'::r',i,h=>by simp[SV,wu (i+1) (show θ r<=θ r' by simpa using h)]
theorem AE2{S:List Nat}{H d:Aq}(V: ∀e∈H,e.ok H)(st:CL (Ku S 0 H) d)(Q: ∀e∈d,e.ok d):
  (∀v:TV,v.ok d->v.ok (SV S 0 H d))/\(∀e∈SV S 0 H d,e.ok (SV S 0 H d))/\CL H (SV S 0 H d)/\Frame S H (SV S 0 H d)/\ ∀x:Cx,T4 x x (BC d) (BC (SV S 0 H d)):=by
 have P:H.length<=d.length:=by simpa[Ic]using st.len
 have z:=wu (S:=S) 0 P;have C:=λj=>wt (S:=S) 0 j P;have o: ∀j,j<H.length->JV j S=false->(SV S 0 H d)[j]? =H[j]? :=λj k c=>by rw[C,DQ,c,decide_eq_true k];rfl
 have u: ∀j,(H.length<=j\/JV j S=true)->(SV S 0 H d)[j]? =d[j]? :=λj k=>by
  rw[C,DQ];rcases k with h|h
  ·rw[decide_eq_false (by omega)];rfl
  ·rw[h,Ce,Bool.and_false]
 have T: ∀j,JV j S=true->(Ku S 0 H)[j]? =H[j]? :=λj k=>by rw[JT,DQ,k];cases H[j]? <;>rfl
 have keep: ∀(j:Nat) (e:Dp),JV j S=false->H[j]? =some e->e≠ .dead->d[j]? =some e.lock:=λj e c k R=>by refine st.ro j e.lock (by rw[JT,k,DQ,c];rfl) ?_;cases e<;>first|rfl|exact(R rfl).elim
 have f: ∀j,(j<H.length/\JV j S=false)\/(H.length<=j\/JV j S=true):=λj=>by
  rcases Aw j H.length with h|h
  ·cases c:JV j S with
   |false=>exact .inl ⟨h,rfl⟩
   |true=>exact .inr (.inr rfl)
  ·exact .inr (.inl h)
 have K: ∀id w t n,Sz d id w t n->Sz (SV S 0 H d) id w t n:=λid w t n q=>by
  refine⟨by rw[z];exact q.1,λro Z l Y N p=>?_⟩;rcases f id with⟨h,c⟩|h
  ·rw[o id h c]at p;exact q.2 _ _ _ _ _ (keep id _ c p (by simp))
  ·rw[u id h]at p;exact q.2 _ _ _ _ _ p
 have A: ∀x:Bu,x.ok d->x.ok (SV S 0 H d):=λx M=>by
  cases x with
  |own id w t n=>exact K _ _ _ _ M
  |_=>trivial
 have L:CL H (SV S 0 H d):=by
  refine⟨by rw[z];exact P,λid w t n q=>⟨by rw[z];exact DG q.1 P,λro Z l Y N p=>?_⟩,λid e p hr=>?_,λid G h=>?_,λid G ro F n env ps a b s h=>?_⟩
  ·rcases f id with⟨h,c⟩|h
   ·rw[o id h c]at p;exact q.2 _ _ _ _ _ p
   ·rw[u id h]at p;exact(st.refs id w t n (ox q)).2 _ _ _ _ _ p
  ·have W:=(F8.1 p).1;rcases f id with⟨h,c⟩|h
   ·rw[o id h c];exact p
   ·have c:=h.resolve_left (by omega);rw[u id h];exact st.ro id e (by rw[T id c];exact p) hr
  ·rcases f id with⟨B,c⟩|B
   ·rw[o id B c];exact h
   ·have c:=B.resolve_left (by omega);rw[u id B];exact st.nb id (by rw[Ic];exact G) (by rw[T id c];exact h)
  ·rcases f id with⟨B,c⟩|B
   ·rw[o id B c]at h;exact⟨_,_,h⟩
   ·have c:=B.resolve_left (by omega);rw[u id B]at h;obtain⟨r1,s1,q⟩:=st.lp id (by rw[Ic];exact G) _ _ _ _ _ _ _ _ h;rw[T id c]at q;exact⟨_,_,q⟩
 refine⟨λv X x M=>A x (X x M),λe p=>?_,L,λj k hn=>o j k (by
  cases c:JV j S with
  |false=>rfl
  |true=>exact absurd (xX c) hn),λx=>⟨by rw[CT,CT,z],λj e' k=>?_⟩⟩
 ·obtain⟨j,k⟩:=HS.1 p;rcases f j with⟨h,c⟩|h
  ·rw[o j h c]at k;exact L.ent (V e (BQ k))
  ·rw[u j h]at k;have O:=Q e (BQ k);cases e with
   |dead=>trivial
   |live b D=>exact λx M=>A x (O x M)
   |buf=>exact O
   |lp=>exact O
   |mp=>exact O
 ·rw[D5]at k;cases J:(SV S 0 H d)[j]? with
  |none=>grind
  |some y=>
   rw[J]at k;simp at k;subst k;have same:(BC d)[j]? =some y.enc->y.enc= .dead\/(∃g D E,(BC d)[j]? =some (.live g D)/\y.enc= .live g E/\E.length=D.length/\ ∀(i:Nat) (I:AZ),E[i]? =some I-> ∃v,D[i]? =some v/\Conv x x v I)\/((BC d)[j]? =some y.enc/\ ∀g D,y.enc≠ .live g D):=λh=>by
    cases y with
    |dead=>exact .inl rfl
    |live b D=>exact .inr (.inl ⟨_,_,_,h,rfl,rfl,λi I h=>⟨I,h,λ_ r=>r⟩⟩)
    |buf b t l m w=>exact .inr (.inl ⟨_,_,_,h,rfl,rfl,λi I h=>⟨I,h,λ_ r=>r⟩⟩)
    |lp=>exact .inr (.inr ⟨h,λ_ _ h=>by cases h⟩)
    |mp=>exact .inr (.inr ⟨h,λ_ _ h=>by cases h⟩)
   rcases f j with⟨h,c⟩|h
   ·rw[o j h c]at J;by_cases U:y= .dead
    ·subst U;exact .inl rfl
    ·exact same (by rw[D5,keep j y c J U];simp[qM])
   ·rw[u j h]at J;exact same (by rw[D5,J];rfl)
def isLen:Op->Bool
 |.call {callee:=.builtin .len,.. }=>ζ
 |.move _=>ζ
 |.assign _=>ζ
 |.extract _ _=>ζ
 |_=>η
def rdT(env:Bb)(op:Op):Ψ Nat:=match isLen op with|true=>[]|false=>op.operands.toList.flatMap λx=>idT (Jo env x)
def Xk(o:Oper)(env:Bb):Bb:=(tmpsOf o).filterMap λt=>match env.get t with|.c (.raw .any)=>ε|v=>δ (t,v)
def mW(ids:Ψ Nat):Nat->Aq->Ψ Nat
 |_,[]=>[]
 |j,.live η cs::r=>match (L4 cs).any λi=>JV i ids with|true=>j::mW ids (j+1) r|false=>mW ids (j+1) r
 |j,_::r=>mW ids (j+1) r
def AF4:Bu->Bool
 |.own .. =>η
 |.raw _=>η
 |_=>ζ
def yL:Ψ TV->Ω (Ψ Nat)
 |[]=>δ []
 |v::r=>
  match yL r with
  |none=>ε
  |some ids=>
   match v with
   |.c (.own id _ _ _)=>δ (id::ids)
   |.c x=>match AF4 x with|true=>δ ids|false=>ε
   |.g cs=>match cs.all AF4 with|true=>δ ids|false=>ε
   |_=>ε
section
variable {R:Type}
def quD(P:Program)(env:Bb)(H:Aq)(op:Op)(k:TV->Ω R):Ω R:=
 match op with
 |.buildSlice t len parts=>sS P env t len parts k
 |op=>quT P env H op k
def un(P:Program)(cs:Ψ RJ)(call:TB)(env:Bb)(H:Aq)(op:Op)(k:TV->Aq->Ω R):Ω R:=
 match op with
 |.box _ x=>AG6 H (Jo env x) k
 |.store t a v=>storeT P H t (Jo env a) (Jo env v) k
 |.makeSlice t x y=>je P H t (Jo env x) (Jo env y) k
 |.buildSlice t len parts=>ak P env H t len parts k
 |.call c=>
  match au env (.call c)with
  |some (F,vs)=>
   match Enters P F with
   |true=>
    match po cs F vs with
    |some ct=>ACg ct vs H k
    |none=>match yL vs with|some ids=>call (.fn F) vs (Ku ids 0 H) λv H'=>k v (SV ids 0 H H')|none=>call (.fn F) vs H k
   |false=>ε
  |none=>
   match wH env c with
   |some (id,vs)=>call (.yd id) vs H k
   |none=>
    match c with
    |{callee:=.builtin .append,args:=⟨[s,x]⟩,argTypes:=⟨[t,t']⟩}=>match ξ t t' with|true=>tf P H t (Jo env s) (Jo env x) k|false=>ε
    |_=>ε
 |_=>ε
def AKD(P:Program)(cs:Ψ RJ)(call:TB)(env:Bb)(H:Aq)(op:Op)(k:TV->Aq->Ω R):Ω R:=
 match Ih (oH cs env H op) env H with
 |(ef,hf)=>un P cs call ef hf op k
def wS(cs:Ψ RJ)(env:Bb)(H:Aq)(op:Op):Ψ Nat:=
 match op with
 |.call c=>
  match au env (.call c)with
  |some (F,vs)=>match po cs F vs with|some _=>uo cs env H (.call c)|none=>match yL vs with|some ids=>ids|none=>uo cs env H (.call c)
  |none=>uo cs env H (.call c)
 |op=>uo cs env H op
def AAE(cs:Ψ RJ)(env:Bb)(H:Aq)(op:Op):Ψ Nat:=
 match oH cs env H op with
 |[]=>wS cs env H op
 |ids=>ids++mW ids 0 H++(match Ih ids env H with|(ef,hf)=>wS cs ef hf op)
def AKN:Op->Bool
 |.buildSlice .. =>ζ
 |_=>η
def ACJ(P:Program)(cs:Ψ RJ)(call:TB)(ops:Array Oper)(m:Ψ Nat)(gs:Ψ Nat)(ow:Bool):Ψ Nat->Ψ (Nat×Ψ Nat)->Bb->Aq->(Bb->Aq->Ω R)->Ω R
 |[],_,env,H,k=>k env H
 |i::r,pend,env,H,k=>
  match ops[i]? with
  |none=>ε
  |some o=>
   match o.op with
   |.alloc t=>
    match wI P t with
    |some z=>
     match o.guard.isNone&&r.all (λj=>QF m i j||IT ops j)with
     |true=>ACJ P cs call ops m gs ow r pend (env.putO o.dst (.c (.raw (.ptr (θ H) 0 0)))) (H++[.live η z]) k
     |false=>ε
    |none=>ε
   |op=>
    match jc ops o.guard env with
    |some η=>ACJ P cs call ops m gs ow r ((i,[])::pend) (env.putO o.dst (.tup [])) H k
    |some ζ=>
     match dq op&& !(ow&&AKN op)with
     |true=>
      match (rdT env op).all λid=>Nat.blt id (θ H)with
      |true=>quD P env H op λv=>force (JV i gs) v λv'=>ACJ P cs call ops m gs ow r ((i,rdT env op)::pend) (env.putO o.dst v') H k
      |false=>ε
     |false=>
      match r.all (λj=>QF m i j||IT ops j)&&pend.all (λp=>QF m p.1 i||p.2.all λid=>!JV id (AAE cs (Xk o env) H op))with
      |true=>AKD P cs call (Xk o env) H op λv H'=>force (JV i gs) v λv'=>ACJ P cs call ops m gs ow r pend (env.putO o.dst v') H' k
      |false=>ε
    |none=>ε
variable {P:Program}{N:Nat}{o:Oper}{env:Bb}{H:Aq}{r:R}
def ADE(env:Bb)(b:Op)(h:isLen b=η):∀id∈AB8 (B5 env) b,id∈rdT env b:=by intro id a;unfold AB8 at a;unfold rdT;rw[h];obtain⟨x,c,d⟩:=Gu.1 a;refine Gu.2 ⟨x,c,AHV _ _ ?_⟩;rwa[<-MA]
def ai.mono{H}{v}{a b:Ψ Nat}(h:ai P N o y H a v)(s:∀id∈a,id∈b):ai P N o y H b v:=λ_ _ d e=>h _ _ d λid c=>e id (s id c)
theorem ai.len{env}{H}{v:AZ}(b:isLen o.op=ζ)(e:Cd P env H o.op=δ v):ai P N o env H [] v:=by
 intro c f d _;refine Dm (v:=v) ?_ ⟨rfl,rfl⟩;rw[xm (ir d),<-e];generalize o.op=op at b;unfold isLen at b;split at b;rename_i args a;obtain⟨args⟩:=args;obtain⟨a⟩:=a;match args,a with
 |[x],[t]=>rfl
 |[],_=>rfl
 |_::_::_,_=>rfl
 |[_],[]=>rfl
 |[_],_::_::_=>rfl
 rfl;rfl;rfl;cases b
theorem AEB{k:TV->Ω R}(ok:Oc env H)(h:quD P env H o.op k=δ r):∃v,ai P N o (B5 env) (BC H) (rdT env o.op) v.enc/\k v=δ r/\v.ok H:=by
 have main:quT P env H o.op k=δ r->∃v,ai P N o (B5 env) (BC H) (rdT env o.op) v.enc/\k v=δ r/\v.ok H:=λh=>by
  obtain⟨v,i,j,l⟩:=xn ok h;refine⟨v,?_,j,l⟩;cases z:isLen o.op with
  |true=>grind[rdT,ai.len]
  |false=>exact(YM i).mono (ADE _ _ z)
 generalize d:o.op=op at h;unfold quD at h;split at h;rename_i t len b;unfold sS at h;split at h;rename_i q m;split at h;rename_i f;split at h;rename_i F e;have E:=vq m f;refine⟨_,?_,h,J2 trivial⟩;rw[<-d];refine ai.mono (a:=AB8 (B5 env) o.op) ?_ (ADE _ _ (by rw[d];rfl));have y:yW P (B5 env) (BC H) o.op=δ (.vs q.sz ((b.toList.map λp=>Jo env p.2).map TV.enc)):=by grind[yW]
 have A:=mA (N:=N) y;intro x n i j;have l:=A x n i j;refine Jn.after (v:=.vs q.sz ((b.toList.map λp:Nat×Operand=>Jo env p.2).map TV.enc)) (H1:=n) l λX g w s=>⟨T4.refl _ _,λc D=>AIK (ol e) (lj e) (λv C=>?_) _ _ D⟩
 unfold jj at f;simp only[BS]at f;obtain⟨u,B,rfl⟩:=Bo.1 C;have:=F6.1 f.1.1.2 u B;split at this;simp_all[Zz,gP];cases this;cases h;cases h;cases h;grind
theorem AAD{d:List RJ}(u: ∀c∈d,c.Ok P){call:TB}(n:XM P call){k:TV->Aq->Option R}(ok:Oc env H)(h:un P d call env H o.op k=some r):oK P N o env H (wS d env H o.op) k r:=by
 have b: ∀j,o.op=j->sg P d call env H j k=some r->wS d env H j=uo d env H j->oK P N o env H (wS d env H o.op) k r:=λj a e f=>by subst a;rw[f];exact sh u n ok e
 generalize a:o.op=j at h;rw[<-a];cases j with
 |call c=>
  cases l:au env (.call c)with
  |none=>exact b _ a (by unfold un at h;unfold sg;grind) (by simp only[wS,l])
  |some p=>
   obtain⟨F,m⟩:=p;cases s:po d F m with
   |some V=>exact b _ a (by unfold un at h;unfold sg;grind) (by simp only[wS,l,s])
   |none=>
    cases q:yL m with
    |none=>
     have hn:isNil m=false:=by cases m<;>first|rfl|cases q
     exact b _ a (by unfold un at h;unfold sg;grind) (by simp only[wS,l,s,q])
    |some i=>
     obtain⟨E,G⟩:=pV l;simp only[un,l,s,q]at h;split at h
     ·rename_i I;have L:=mS (S:=i) ok;obtain⟨v,t,M,O,Q,T,U⟩:=n (.fn F) m (Ku i 0 H) _ r (λv J x K=>rq (G H ok.env v J x K)) L.heap h;obtain⟨z,A,B,C,D⟩:=AE2 ok.heap U T;have y:Ei P F (m.map TV.enc) (BC H) (C9 v.enc (BC t)):=by have:=M;rw[zc,rp]at this;exact this
      refine⟨v,SV i 0 H t,Jn.after (mV (by rw[a];exact E) I y) λX g w _=>?_,O,z v Q,A,B,?_⟩
      ·have hr:=(D (cx X g (BC t) w)).onto;exact⟨hr,λc r=>r.later hr.later⟩
      ·rw[a];simp only[wS,l,s,q];exact C
     ·cases h
 |_=>exact b _ a (by unfold un at h;unfold sg;grind) rfl
theorem xg{p:Nat×TV}(h:p∈Xk o e):p.1∈tmpsOf o/\p.2=e.get p.1/\p.2≠.c (.raw .any):=by obtain⟨t,b,a⟩:=T6.1 h;grind
theorem AHQ(h:t.enc=.any):t=.c (.raw .any):=by
 cases t with
 |c x=>
  cases x with
  |ar n v a=>cases h
  |_=>grind[TV.enc,Bu.one]
 |vw id b v n d m=>simp only[TV.enc,vwE]at h;split at h;split at h<;>cases h;cases h
 |_=>simp[TV.enc]at h
theorem oF{t:Nat}:∀{l:Bb},(∀p∈l,p.1≠t)->Bb.get l t=WL
 |[],_=>rfl
 |(k,u)::r,h=>by simp only[Bb.get,beq_false (h (k,u) k!)];exact oF λp a=>h p (by simp[a])
theorem xW{j:Nat}:∀{l:Ψ Nat},j∈l->JV j l=ζ
 |i::r,h=>by simp only[JV];rcases A3.1 h with rfl|h;rw[HT];rw[xW h];split<;>rfl
def AIN(ids:Ψ Nat)(H:Aq)(j:Nat):Prop:=∀cs,H[j]?=δ (.live η cs)->∀i∈L4 cs,i∉ids
theorem tC{ids:Ψ Nat}:∀{H}{i j:Nat},i+j∉mW ids i H->AIN ids H j
 |e::r,i,0,hn,c,h=>by grind[mW,xW]
 |e::r,i,j+1,hn,c,h=>by
  have d:(i+1)+j∉mW ids (i+1) r:=by
   have f:i+1+j=i+(j+1):=o!
   rw[f];intro a;apply hn;cases e with
   |live b c=>cases b<;>grind[mW]
   |dead=>exact a
   |buf=>exact a
   |lp=>exact a
   |mp=>exact a
  exact tC (ids:=ids) d c h
def oz{id b:Nat}{t:Ty}{l:Ψ t.D}:∀{a},id∉L4 a->a.map (OR id b t l)=a
 |[],_=>rfl
 |x::r,h=>by
  cases x with
  |own d c e n=>simp only[L4,A3,not_or]at h;simp only[Bz,OR,beq_false h.1,qg,oz h.2]
  |_=>simp only[L4]at h;simp only[Bz,OR,oz h]
def iy:∀(a:Ψ Nat){env}{H}{j:Nat},j∉a->AIN a H j->(Ih a env H).2[j]?=H[j]?
 |[],_,_,_,_,_=>rfl
 |id::r,env,H,j,hj,hn=>by
  simp at hj;simp only[Ih];split;rename_i e h d;have m:h[j]?=H[j]? :=by
   unfold frz at d;split at d;rename_i t l n q s;simp at d;rw[<-d.2,DT (hj.1 ·.symm),B9];cases p:H[j]? with
   |none=>rfl
   |some o=>
    simp;cases o with
    |live b c=>
     cases b with
     |false=>simp only[Rg];rw[oz λf=>hn c p id f H4]
     |true=>rfl
    |_=>rfl
   cases d
  rw[iy r hj.2 λc g i k f=>hn c (m▸g) i k (CQ _ f),m];exact iy r hj.2 λc g i k f=>hn c g i k (CQ _ f)
theorem ABW(l:∀c∈f,c.Ok P)(g:XM P u){k:TV→Aq→Ω R}(ok:Oc env H)(h:AKD P f u (Xk o env) H o.op k=δ r):
  ∃v d,Eff P N o (B5 env) (BC H) (AAE f (Xk o env) H o.op) (C9 v.enc (BC d))/\k v d=δ r/\v.ok d/\(∀e∈d,e.ok d)/\CL H d:=by
 have n:Oc (Xk o env) H:=⟨λp m=>by rw[(xg m).2.1];exact mN ok.env _,ok.heap⟩
 obtain⟨s,b,G⟩:=SH (oH f (Xk o env) H o.op) n;have w:=λj=>iy (oH f (Xk o env) H o.op) (env:=Xk o env) (H:=H) (j:=j);have x:∀id,id∉AAE f (Xk o env) H o.op->id∉wS f (Ih (oH f (Xk o env) H o.op) (Xk o env) H).1 (Ih (oH f (Xk o env) H o.op) (Xk o env) H).2 o.op/\(Ih (oH f (Xk o env) H o.op) (Xk o env) H).2[id]?=H[id]? :=by intro id a;unfold AAE at a;split at a;rename_i z;rw[z];exact⟨a,rfl⟩;simp only[Al,not_or]at a;refine⟨a.2,w id a.1.1 (tC (i:=0) q!)⟩
 obtain⟨v,d,A,B,C,D,E,F⟩:=AAD (N:=N) l g s h;refine⟨v,d,⟨λt O=>Jn.before (FN.subset λq y=>?_) (Jn.before (G N) A),?_⟩,B,C,D,b.step.trans E⟩;obtain⟨p,m,rfl⟩:=Bo.1 y;obtain⟨K,L,M⟩:=xg m;grind[Vh,Oi,AHQ];rintro _ _ ⟨rfl,rfl⟩ id a hn;rw[CT]at a;obtain⟨I,J⟩:=x id hn;rw[D5,D5,F id (DG a b.step.len) I,J]
def VG{j:Nat}:∀{l},JV j l=η->j∉l
 |i::r,h=>by simp only[JV]at h;split at h;cases h;rename_i b;intro a;rcases A3.1 a with rfl|a;rw[HT]at b;cases b;exact VG h a
 |[],_=>λh=>by cases h
def wR(ops:Array Oper)(l:Ψ Nat):Ψ Nat:=l.filterMap λi=>(ops[i]?).bind (·.dst)
theorem Zw{L:Ψ RJ}(u:∀c∈L,c.Ok P){w}(s:XM P w){b}{gs}{ow}:∀l n env H k(r:R),Oc env H→
  ACJ P L w b (If b.toList []) gs ow l n env H k=δ r->
  ∃a q,RA P N b l n (B5 env) (BC H) (λe h=>e=B5 a/\h=BC q)/\k a q=δ r/\Oc a q/\EC (wR b l) env H a q
 |[],n,env,H,k,r,ok,h=>⟨env,H,⟨rfl,rfl⟩,h,ok,EC.refl _ _ _⟩
 |i::l,n,env,H,k,r,ok,h=>by
  simp only[ACJ]at h;simp only[RA];cases J:b[i]? with
  |none=>rw[J]at h;cases h
  |some o=>
   rw[J]at h;simp only at h⊢;have m:∀{e}{h}{v},EC (wR b [i]) e h (e.putO o.dst v) h:=by
    intro e h v;refine⟨CL.refl h,λt T _=>?_⟩;cases hd:o.dst with
    |none=>rfl
    |some d=>refine qU λe=>T ?_;simp[wR,J,hd,e]
   have g:∀t,t∈wR b [i]++wR b l->t∈wR b (i::l):=by grind[wR]
   split at h;rename_i t Q;split at h;rename_i z hz;split at h;rename_i F;simp only[BS]at F;obtain⟨z1,z2⟩:=Z2 hz;have I:=CL.push H (.live η z);have f:Oc (env.putO o.dst (.c (.raw (.ptr (θ H) 0 0)))) (H++[.live η z]):=⟨dM (I.env ok.env) (J2 trivial),Qd ok.heap (z2 _)⟩
   obtain⟨a,q,x,C,D,E⟩:=Zw u s l _ _ _ _ _ f h;have G:o.guard=ε:=by simpa using F.1
   refine⟨a,q,?_,C,D,?_⟩;rw[G];refine .inr (.inr ⟨t,lvs z,Q,z1,λj Z=>?_,?_⟩);grind[List.all_eq_true];have M:B5 (env.putO o.dst (.c (.raw (.ptr (θ H) 0 0))))=(B5 env).putO o.dst (.ptr (BC H).length 0 0):=by rw[Yx,CT];rfl
   have e2:BC (H++[.live η z])=BC H++[.live 0 (lvs z)]:=SE _ _;rw[M,e2]at x;exact x;have Y:EC (wR b [i]) env H (env.putO o.dst (.c (.raw (.ptr (θ H) 0 0)))) (H++[.live η z]):=⟨I,(m (h:=H)).same⟩
   exact(EC.trans ok.env Y E).mono g;cases h;cases h;rename_i O;have y:IT b i=η:=by
    cases hb:IT b i with
    |false=>rfl
    |true=>obtain⟨t,T⟩:=(Xh J).1 hb;exact(O t T).elim
   split at h;rename_i G;have f:Oc (env.putO o.dst (.tup [])) H:=⟨dM ok.env (SO λv hv=>by cases hv),ok.heap⟩
   obtain⟨a,q,x,C,D,E⟩:=Zw u s l _ _ _ _ _ f h;have M:(B5 env).putO o.dst (.tup [])=B5 (env.putO o.dst (.tup [])):=by rw[Yx];rfl
   exact⟨a,q,qH G ⟨y,by rw[M];exact x⟩,C,D,(EC.trans ok.env m E).mono g⟩;rename_i G;split at h;split at h;rename_i S;obtain⟨v,U,V,W⟩:=AEB (N:=N) ok h;have B:=ot V;have f:Oc (env.putO o.dst v) H:=⟨dM ok.env W,ok.heap⟩
   obtain⟨a,q,x,C,D,E⟩:=Zw u s l _ _ _ _ _ f B;refine⟨a,q,mO G (.inl ⟨y,v.enc,rdT env o.op,U,λid A=>?_,by rw[<-Yx];exact x⟩),C,D,(EC.trans ok.env m E).mono g⟩;have:=F6.1 S id A;rw[CT];exact Pe this;cases h;split at h;rename_i F;simp only[BS]at F;obtain⟨v,K,U,V,W,q4,X⟩:=ABW (N:=N) u s ok h;have B:=ot V;have f:Oc (env.putO o.dst v) K:=⟨dM (X.env ok.env) W,q4⟩
   obtain⟨a,q,x,C,D,E⟩:=Zw u s l _ _ _ _ _ f B;refine⟨a,q,mO G (.inr (.inl ⟨y,AAE L (Xk o env) H o.op,λj Z=>by simpa using List.all_eq_true.1 F.1 j Z,λp hp=>?_,C9 v.enc (BC K),U,?_,?_⟩)),C,D,?_⟩;have:=F6.1 F.2 p hp;simp only[Wy,F6,R4]at this;exact this.imp id λh3 id A=>VG (h3 id A);rintro _ _ ⟨rfl,rfl⟩;rw[CT,CT];exact X.len;rintro _ _ ⟨rfl,rfl⟩;rw[<-Yx];exact x;have Y:EC (wR b [i]) env H (env.putO o.dst v) K:=⟨X,(m (h:=H)).same⟩
   exact(EC.trans ok.env Y E).mono g;cases h;cases h
end
abbrev DV:=(t:Ty)×t.D
def dvs:(ts:Ψ Ty)->DL ts->Ψ DV
 |[],_=>[]
 |[t],x=>[⟨t,x⟩]
 |t::u::r,x=>⟨t,x.1⟩::dvs (u::r) x.2
def ABr:(ts:Ψ Ty)->Ψ DV->Ω (DL ts)
 |[],[]=>δ ()
 |[t],[⟨t',x⟩]=>if h:t'.beq t=ζ then δ (Ty.cast h x)else ε
 |t::u::r,⟨t',x⟩::ds=>if h:t'.beq t=ζ then match ABr (u::r) ds with|some y=>δ (Ty.cast h x,y)|none=>ε else ε
 |_,_=>ε
def ACq{a:Ty}(h:a.beq x=ζ)(t:a.D):(⟨x,Ty.cast h t⟩:DV)=⟨a,t⟩:=by have e:=Ty.beq_eq a x h;subst e;rfl
theorem sE:∀{b}{a}{s:DL b},ABr b a=δ s->dvs b s=a
 |[],[],s,_=>rfl
 |[],_::_,s,h=>by cases h
 |[t],[],s,h=>by cases h
 |[t],[⟨t',x⟩],s,h=>by simp only[ABr]at h;split at h;rename_i c;injection h with h;subst h;simp only[dvs,ACq];cases h
 |[t],_::_::_,s,h=>by simp[ABr]at h
 |t::u::r,[],s,h=>by cases h
 |t::u::r,⟨t',x⟩::a,s,h=>by simp only[ABr]at h;split at h;rename_i c;split at h;rename_i y d;injection h with h;subst h;simp only[dvs,ACq,sE d];cases h;cases h
inductive Part where
 |d (t:Ty)
 |o (id:Nat)
inductive PY where
 |t (tmp:Nat) (ty:Ty)
 |g (tmp id:Nat)
 |p (id:Nat) (ps:List Part)
 |u (id:Nat) (ty:Ty)
 |x (id:Nat)
 |k (tmp:Nat) (v:AZ)
 |y (id:Nat) (s:LS)
 |m (id:Nat) (k:IntKind) (t:Ty)
 |w (tmp id:Nat)
def AJk:AZ->AZ->Bool
 |.ptr a b c,.ptr a' b' c'=>ξ a a'&&(ξ b b'&&ξ c c')
 |.nilp,.nilp=>ζ
 |.nilf,.nilf=>ζ
 |_,_=>η
def AHy{w}(h:AJk l w=ζ):l=w:=by unfold AJk at h;split at h<;>simp_all
def L6:Ψ PY->Ψ Nat
 |[]=>[]
 |.p id _::r=>id::L6 r
 |.u id _::r=>id::L6 r
 |.x id::r=>id::L6 r
 |.y id _::r=>id::L6 r
 |.m id _ _::r=>id::L6 r
 |_::r=>L6 r
def Wq:Ψ PY->Ψ Nat
 |[]=>[]
 |.t tmp _::r=>tmp::Wq r
 |.g tmp _::r=>tmp::Wq r
 |.k tmp _::r=>tmp::Wq r
 |.w tmp _::r=>tmp::Wq r
 |_::r=>Wq r
def AJe:Ψ Part->Ψ Ty
 |[]=>[]
 |.d t::r=>t::AJe r
 |_::r=>AJe r
def gL:Ψ PY->Ψ Ty
 |[]=>[]
 |.t _ t::r=>t::gL r
 |.p _ ps::r=>AJe ps++gL r
 |.u _ t::r=>.list t::gL r
 |.m _ k t::r=>.list (.prod (.cons (.int k) (.one t)))::gL r
 |.w _ _::r=>.int .i64:: .int .i64::gL r
 |_::r=>gL r
def ul(H:Aq)(id:Nat):Bu->Bool
 |.own id' ver _ _=>match ξ id id' with
  |true=>match H[id]? with|some (.buf _ _ _ _ ver')=>ξ ver ver'|_=>η
  |false=>η
 |_=>η
def sY(H:Aq)(rest:Ψ Nat):Ψ Part->Ψ Bu->Ω (Ψ DV)
 |[],[]=>δ []
 |.d t::ps,cs=>
  match t.mk cs with
  |some (x,cs')=>match sY H rest ps cs' with|some ds=>δ (⟨t,x⟩::ds)|none=>ε
  |none=>ε
 |.o id::ps,c::cs=>
  match ul H id c&& !JV id rest with
  |true=>sY H rest ps cs
  |false=>ε
 |_,_=>ε
def ZL(env:Bb)(H:Aq):Ψ PY->Ω (Ψ DV)
 |[]=>δ []
 |.t tmp ty::r=>
  match ty.data (env.get tmp),ZL env H r with
  |some x,δ ds=>δ (⟨ty,x⟩::ds)
  |_,_=>ε
 |.g tmp id::r=>
  match env.get tmp with
  |.c x=>match ul H id x&& !JV id (L6 r)with|true=>ZL env H r|false=>ε
  |_=>ε
 |.p id ps::r=>
  match H[id]? with
  |some (.live _ cs)=>
   match sY H (id::L6 r) ps cs,ZL env H r with
   |some a,δ b=>δ (a++b)
   |_,_=>ε
  |_=>ε
 |.u id ty::r=>
  match H[id]? with
  |some (.buf _ t l _ _)=>match t.beq ty,ZL env H r with|true,δ ds=>δ (⟨.list t,l⟩::ds)|_,_=>ε
  |_=>ε
 |.x _::r=>ZL env H r
 |.k tmp v::r=>
  match env.get tmp with
  |.c (.raw w)=>match AJk v w with|true=>ZL env H r|false=>ε
  |_=>ε
 |.y id s::r=>
  match H[id]? with
  |some (.lp _ _ _ _ _ _ _ s')=>match s.beq s' with|true=>ZL env H r|false=>ε
  |_=>ε
 |.m id k t::r=>
  match H[id]? with
  |some (.mp _ k' t' es)=>match τ (k'=k)&&t'.beq t,ZL env H r with|true,δ ds=>δ (⟨.list (.prod (.cons (.int k') (.one t'))),es⟩::ds)|_,_=>ε
  |_=>ε
 |.w tmp id::r=>
  match env.get tmp with
  |.vw id' ver te n lo m=>match ul H id (.own id' ver te n)&& !JV id (L6 r),ZL env H r with|true,δ ds=>δ (⟨.int .i64,(lo:Int)⟩::⟨.int .i64,(m:Int)⟩::ds)|_,_=>ε
  |_=>ε
def vM(H:Aq):Ψ Part->Ψ DV->Ω (Ψ Bu×Ψ DV)
 |[],ds=>δ ([],ds)
 |.d _::ps,⟨t,x⟩::ds=>match vM H ps ds with|some (cs,r)=>δ (t.lvs x++cs,r)|none=>ε
 |.o id::ps,ds=>
  match H[id]? with
  |some (.buf _ t _ n ver)=>match vM H ps ds with|some (cs,r)=>δ (.own id ver t n::cs,r)|none=>ε
  |_=>ε
 |_,_=>ε
def XG:Ψ PY->Ψ DV->Bb->Aq->Ω (Bb×Aq)
 |[],[],env,H=>δ (env,H)
 |.t tmp _::r,⟨t,x⟩::ds,env,H=>XG r ds ((tmp,t.tv x)::env) H
 |.g tmp id::r,ds,env,H=>
  match H[id]? with
  |some (.buf _ t _ n ver)=>XG r ds ((tmp,.c (.own id ver t n))::env) H
  |_=>ε
 |.p id ps::r,ds,env,H=>
  match H[id]? with
  |some (.live η _)=>match vM H ps ds with|some (cs,ds')=>XG r ds' env (H.set id (.live η cs))|none=>ε
  |_=>ε
 |.u id _::r,⟨.list t,l⟩::ds,env,H=>
  match H[id]? with
  |some (.buf η t' _ _ ver)=>match t'.beq t with|true=>XG r ds env (H.set id (.buf η t l (θ l) (ver+1)))|false=>ε
  |_=>ε
 |.x id::r,ds,env,H=>
  match H[id]? with
  |some e=>match e.ro||e.isLp with|false=>XG r ds env (H.set id .dead)|true=>ε
  |none=>ε
 |.k tmp v::r,ds,env,H=>XG r ds ((tmp,.c (.raw v))::env) H
 |.y id s::r,ds,env,H=>
  match H[id]? with
  |some (.lp η F n e ps a b _)=>XG r ds env (H.set id (.lp η F n e ps a b s))
  |_=>ε
 |.m id _ _::r,⟨.list (.prod (.cons (.int k) (.one t))),es⟩::ds,env,H=>
  match H[id]? with
  |some (.mp η k' t' _)=>match τ (k'=k)&&t'.beq t with|true=>XG r ds env (H.set id (.mp η k t es))|false=>ε
  |_=>ε
 |.w tmp id::r,⟨.int _,lo⟩::⟨.int _,m⟩::ds,env,H=>
  match H[id]? with
  |some (.buf _ t _ n ver)=>XG r ds ((tmp,.vw id ver t n (ο lo) (ο m))::env) H
  |_=>ε
 |_,_,_,_=>ε
def AIy(e e':Dp):Prop:=e'=.dead\/(∃b cs b' cs',e=.live b cs/\e'=.live b' cs'/\Dj (lvs cs) (lvs cs'))\/(∃b t l n v b' v',e=.buf b t l n v/\e'=.buf b' t l n v')\/(∃ro ro' F n env ps a b s,e=.lp ro F n env ps a b s/\e'=.lp ro' F n env ps a b s)\/(∃b b' k t es,e=.mp b k t es/\e'=.mp b' k t es)
def HR(H1 H:Aq)(rest:Ψ Nat):Prop:=∀j(e':Dp),JV j rest=η->H[j]?=δ e'->∃e,H1[j]?=δ e/\AIy e e'
theorem Qk:JV N (n::b)=η↔N≠n/\JV N b=η:=by simp[JV];by_cases h:N=n;simp_all;grind[beq_false]
theorem lg(j:I.ok c)(h:ul c N I=ζ):∃b t l n a,I=.own N a t n/\c[N]?=δ (.buf b t l n a):=by unfold ul at h;split at h;rename_i k a t n;split at h;rename_i i;have e:=DA i;subst e;split at h;rename_i b o l m d g;have f:=DA h;subst f;have⟨rfl,rfl⟩:=(j.2 _ _ _ _ _ g).2 rfl;grind;cases h;cases h;cases h
theorem XL{b:Bool}{l:Ψ x.D}(h:c[N]?=δ (.buf b x l n G)):Sz c N G x n:=by refine⟨?_,λro g e f H d=>?_⟩;grind;grind
theorem oi{q H}{i}(hr:HR q H i):∀{p}{m}{a b j:Ψ DV}{f:Ψ Bu},lok q m→sY q i p m=δ a→vM H p (a++b)=δ (f,j)→
  j=b/\Dj (lvs m) (lvs f)/\lok H f
 |[],[],a,b,j,f,ok,h,k=>by grind[sY,Option.some.injEq,vM,Prod.mk.injEq,Dj.refl,AHb]
 |[],_::_,a,b,j,f,ok,h,k=>by simp[sY]at h
 |.d t::p,m,a,b,j,f,ok,h,k=>by simp[sY]at h;split at h;rename_i x U z;split at h;rename_i V u;cases h;obtain⟨T,rfl,P⟩:=t.mk_spec _ _ _ z;simp[dS,vM]at k;split at k;rename_i I r v;obtain⟨rfl,rfl⟩:=k;have⟨B,C,D⟩:=oi hr (JU.1 ok).2 u v;refine⟨B,?_,JU.2 ⟨t.lvs_ok x,D⟩⟩;rw[Gz,Gz,t.lvs_enc];exact P.append C;cases k;cases h;cases h
 |.o id::p,c::m,a,b,j,f,ok,h,k=>by
  simp[sY]at h;split at h
  ·rename_i s;simp[BS,R4]at s;obtain⟨R,t,l,n,Q,rfl,O⟩:=lg (ok c k!) s.1;simp[vM]at k;split at k
   ·rename_i S t2 l2 n2 G E;split at k
    ·rename_i I r v;obtain⟨rfl,rfl⟩:=k;have⟨B,C,D⟩:=oi hr (λx z=>ok x (by simp[z])) h v;have⟨e,F,w⟩:=hr id _ s.2 E;rw[O]at F;cases F;rcases w with g|⟨_,_,_,_,g,_⟩|⟨_,_,_,_,_,_,_,g,N⟩|⟨_,_,_,_,_,_,_,_,_,g,_⟩|⟨_,_,_,_,_,g,_⟩;cases g;cases g;rotate_left;cases g;cases g;injection g with W J X K Y;injection N with Z L f3 M f5;subst J K L M;refine⟨B,?_,λy A=>?_⟩;rw[Hr,Hr];exact(Dj.refl _).append C;rcases A3.1 A with rfl|A;exact XL E;exact D y A
    cases k
   cases k
  cases h
structure IS(env1:Bb)(H1:Aq)(slots:List PY)(env:Bb)(H:Aq)(env2:Bb)(H2:Aq):Prop where
 get:∀t,JV t (Wq slots)=false->env2.get t=env.get t
 ok:Oc env2 H2
 env:∀p∈env2,∃v,(p.1,v)∈env1/\Xu v.enc p.2.enc
 hr:HR H1 H2 []
 step:CL H H2
 len:H2.length=H.length
 same:∀j,JV j (L6 slots)=false->H2[j]?=H[j]?
def Zy{t:Nat}{v:TV}:∀{env:Bb},env.get t=v->v≠WL->(t,v)∈env
 |[],h,hv=>O! h.symm hv
 |(k,u)::r,h,hv=>by simp only[Bb.get]at h;split at h;simp_all;exact CQ _ (Zy h hv)
def heap_set{e}(b:CL c (c.set N e))(ok:∀x∈c,x.ok c)(a:e.ok (c.set N e)):∀x∈c.set N e,x.ok (c.set N e):=by intro x H;rcases Wt H with h|rfl;exact b.ent (ok x h);exact a
theorem HR.set{a H}{id:Nat}{e d:Dp}(h:HR a H (id::b))(g:a[id]?=δ e)(hr:AIy e d):HR a (H.set id d) b:=by intro j x f c;rw[Yv]at c;split at c;grind;rename_i r;exact h j x (Qk.2 ⟨λq=>r q.symm,f⟩) c
theorem LpS.set{H c}{id:Nat}{i:Dp}(h:LpS H c)(l:id<θ H)(p:∀ro F n env f a b s,c[id]?=δ (.lp ro F n env f a b s)->∃g o,i=.lp g F n env f a b o):LpS (H.set id i) c:=by intro j k ro F n env f a b s m;rw[gS]at k;by_cases d:j=id;grind;rw[DT λe=>d e.symm];exact h j k _ _ _ _ _ _ _ _ m
variable {q:Ψ PY}
theorem sw(id:Nat){f:Aq}{a:Dp}(H:D[id]?=δ a)(g:(a.ro||a.isLp)=η)(m:θ D≤θ c)(lp:LpS D c)
  (hr:HR c D (id::L6 q)) (ok:Oc L D) (k:Oc L (D.set id .dead)->LpS (D.set id .dead) c->HR c (D.set id .dead) (L6 q)->IS e c q L (D.set id .dead) Y f):IS e c (.x id::q) L D Y f:=by
 have b:a.isLp=η:=q!
 have st:CL D (D.set id .dead):=CL.set H q! λ_ _ _ _ _ a=>by cases a
 have d:id<θ c:=q!
 have r:=k ⟨st.env ok.env,heap_set st ok.heap trivial⟩ (lp.set (HB H) λ_ _ _ _ _ _ _ _ i=>by have⟨l,n,r⟩:=lp id (HB H) _ _ _ _ _ _ _ _ i;rw[H]at r;injection r with r;rw[r]at b;cases b) (HR.set hr (Ar d) (.inl rfl));refine⟨r.get,r.ok,r.env,r.hr,st.trans r.step,by simpa using r.len,λj h=>?_⟩;have:=Qk.1 h;rw[r.same j this.2,DT λa=>this.1 a.symm]
def NC{env1}{J}(z:Oc env1 J):∀{slots}{B:Ψ DV}{env}{H}{env2:Bb}{E:Aq},ZL env1 J slots=δ B→XG slots B env H=δ (env2,E)→Oc env H→
  θ H<=θ J->(∀p∈env,∃v,(p.1,v)∈env1/\Xu v.enc p.2.enc)->HR J H (L6 slots)->LpS H J->IS env1 J slots env H env2 E
 |[],B,env,H,env2,E,h,k,ok,hl,he,hr,lp=>by simp only[ZL,Ap]at h;subst h;simp only[XG,Ap,EW]at k;obtain⟨rfl,rfl⟩:=k;exact⟨λ_ _=>rfl,ok,he,hr,CL.refl _,rfl,λ_ _=>rfl⟩
 |.t tmp ty::r,B,env,H,env2,E,h,k,ok,hl,he,hr,lp=>by
  simp[ZL]at h;split at h;rename_i x d I R;cases h;simp[XG]at k;have f:Oc ((tmp,ty.tv x)::env) H:=⟨λp o=>by rcases A3.1 o with rfl|o;exact ty.tv_ok x;exact ok.env p o,ok.heap⟩
  have q:=NC z R k f hl (λp o=>by rcases A3.1 o with rfl|o;refine⟨env1.get tmp,Zy rfl λe=>?_,?_⟩;rw[e]at I;cases ty<;>cases I;simp[ty.tv_enc];exact KD I;exact he p o) hr lp;refine⟨λt G=>?_,q.ok,q.env,q.hr,q.step,q.len,q.same⟩;have:=Qk.1 G;rw[q.get t this.2];simp[Bb.get,beq_false λe=>this.1 e.symm];cases h
 |.g tmp id::r,B,env,H,env2,E,h,k,ok,hl,he,hr,lp=>by
  simp[ZL]at h;split at h
  ·rename_i x I;split at h
   ·rename_i D;simp[BS,R4]at D;have V:x.ok J:=mN z.env tmp x (by rw[I];simp[TV.refs]);obtain⟨b1,t,l,n,ad,rfl,C⟩:=lg V D.1;simp[XG]at k;split at k
    ·rename_i b2 O l2 n2 N h2;have⟨e,L,T⟩:=hr id _ D.2 h2;rw[C]at L;cases L;rcases T with i|⟨_,_,_,_,i,_⟩|⟨_,_,_,_,_,_,_,i,h1⟩|⟨_,_,_,_,_,_,_,_,_,i,_⟩|⟨_,_,_,_,_,i,_⟩;cases i;cases i;rotate_left;cases i;cases i;injection i with e1 Z e3 e4 e5;injection h1 with f1 f2 f3 f4 f5;subst Z e4 f2 f4;have f:Oc ((tmp,.c (.own id N O n2))::env) H:=⟨λp o=>by rcases A3.1 o with rfl|o;exact J2 (XL h2);exact ok.env p o,ok.heap⟩
     have q:=NC z h k f hl (λp o=>by rcases A3.1 o with rfl|o;exact⟨_,Zy I (λe=>by cases e),Xu.refl _⟩;exact he p o) hr lp;refine⟨λt G=>?_,q.ok,q.env,q.hr,q.step,q.len,q.same⟩;have:=Qk.1 G;rw[q.get t this.2];simp[Bb.get,beq_false λe=>this.1 e.symm]
    cases k
   cases h
  cases h
 |.p id Y::r,B,env,H,env2,E,h,k,ok,hl,he,hr,lp=>by
  simp[ZL]at h;split at h;rename_i b cs C;split at h;rename_i a b1 ha D;cases h;simp[XG]at k;split at k;rename_i ao i;split at k;rename_i P Q hi;have al:lok J cs:=by simpa only[Dp.ok]using z.heap _ (BQ C)
  have⟨rfl,q2,q3⟩:=oi hr al ha hi;have st:CL H (H.set id (.live η P)):=CL.set i rfl λ_ _ _ _ _ e=>by cases e
  have A:HR J (H.set id (.live η P)) (L6 r):=HR.set hr C (.inr (.inl ⟨_,_,_,_,rfl,rfl,q2⟩));have f:Oc env (H.set id (.live η P)):=⟨st.env ok.env,heap_set st ok.heap (by simpa only[Dp.ok]using st.lok q3)⟩
  have q:=NC z D k f (by simpa using hl) he A (lp.set (HB i) λ_ _ _ _ _ _ _ _ K=>by rw[C]at K;cases K);refine⟨q.get,q.ok,q.env,q.hr,st.trans q.step,by simpa using q.len,λj S=>?_⟩;have:=Qk.1 S;rw[q.same j this.2,DT λe=>this.1 e.symm];cases k;cases k;cases h;cases h
 |.u id ty::r,B,env,H,env2,E,h,k,ok,hl,he,hr,lp=>by
  simp[ZL]at h;split at h;rename_i b t l n ad C;split at h;rename_i Q D R;cases h;simp[XG]at k;split at k;rename_i t' l0 n0 M i;split at k;rename_i G;have e:=Ty.beq_eq _ _ G;subst e;have hn:n=θ l:=by simpa only[Dp.ok]using z.heap _ (BQ C)
  have st:CL H (H.set id (.buf η t' l (θ l) (M+1))):=CL.set i rfl λro O l2 n2 v2 e=>by cases e;exact⟨_,_,_,_,rfl,.inl o!⟩
  have A:HR J (H.set id (.buf η t' l (θ l) (M+1))) (L6 r):=HR.set hr C (.inr (.inr (.inl ⟨_,_,_,_,_,_,_,rfl,by rw[hn]⟩)));have f:Oc env (H.set id (.buf η t' l (θ l) (M+1))):=⟨st.env ok.env,heap_set st ok.heap rfl⟩
  have q:=NC z R k f (by simpa using hl) he A (lp.set (HB i) λ_ _ _ _ _ _ _ _ K=>by rw[C]at K;cases K);refine⟨q.get,q.ok,q.env,q.hr,st.trans q.step,by simpa using q.len,λj S=>?_⟩;have:=Qk.1 S;rw[q.same j this.2,DT λe=>this.1 e.symm];cases k;cases k;cases h;cases h
 |.x id::r,B,env,H,env2,E,h,k,ok,hl,he,hr,lp=>by
  simp[ZL]at h;cases B with
  |nil=>simp[XG]at k;split at k;rename_i e i;split at k;rename_i U;exact sw id i U hl lp hr ok λf X A=>NC z h k f (by simpa using hl) he A X;cases k;cases k
  |cons d B=>simp[XG]at k;split at k;rename_i e i;split at k;rename_i U;exact sw id i U hl lp hr ok λf X A=>NC z h k f (by simpa using hl) he A X;cases k;cases k
 |.k tmp w::r,B,env,H,env2,E,h,k,ok,hl,he,hr,lp=>by
  have k':XG r B ((tmp,.c (.raw w))::env) H=δ (env2,E):=by cases B<;>simpa only[XG]using k
  simp[ZL]at h;split at h;rename_i w' I;split at h;rename_i D;have e:=AHy D;subst e;have f:Oc ((tmp,.c (.raw w))::env) H:=⟨λp o=>by rcases A3.1 o with rfl|o;exact J2 trivial;exact ok.env p o,ok.heap⟩
  have hw:w≠.any:=by rintro rfl;cases D
  have q:=NC z h k' f hl (λp o=>by rcases A3.1 o with rfl|o;refine⟨_,Zy I (λe=>?_),Xu.refl _⟩;injection e with e;injection e with e;exact hw e;exact he p o) hr lp;refine⟨λt G=>?_,q.ok,q.env,q.hr,q.step,q.len,q.same⟩;have:=Qk.1 G;rw[q.get t this.2];simp[Bb.get,beq_false λe=>this.1 e.symm];cases h;cases h
 |.y id s::r,B,env,H,env2,E,h,k,ok,hl,he,hr,lp=>by
  simp[ZL]at h;split at h;rename_i ar F1 n1 e1 p1 a1 b1 s1 C;split at h;rename_i D;have e0:=LS.beq_eq D;subst e0;obtain⟨F,n,e,Y,a,b,s0,i,k'⟩:∃F n e Y a b s0,H[id]?=δ (.lp η F n e Y a b s0)/\XG r B env (H.set id (.lp η F n e Y a b s))=δ (env2,E):=by cases B<;>simp[XG]at k<;>split at k<;>first|exact⟨_,_,_,_,_,_,_,‹_›,k⟩|cases k
  have⟨ax,s2,q⟩:=lp id (HB i) _ _ _ _ _ _ _ _ C;rw[i]at q;injection q with q;injection q with _ q2 q3 q4 q5 q6 q7 _;subst q2 q3 q4 q5 q6 q7;have st:CL H (H.set id (.lp η F n e Y a b s)):=CL.set i rfl (λ_ _ _ _ _ e=>by cases e) λ_ _ _ _ _ _ _ _ e=>by cases e;exact⟨_,_,rfl⟩
  have A:HR J (H.set id (.lp η F n e Y a b s)) (L6 r):=HR.set hr C (.inr (.inr (.inr (.inl ⟨_,_,_,_,_,_,_,_,_,rfl,rfl⟩))));have f:Oc env (H.set id (.lp η F n e Y a b s)):=⟨st.env ok.env,heap_set st ok.heap (by have:=ok.heap _ (BQ i);simpa only[Dp.ok]using this)⟩
  have q:=NC z h k' f (by simpa using hl) he A (lp.set (HB i) λ_ _ _ _ _ _ _ _ K=>by rw[C]at K;injection K with K;cases K;exact⟨_,_,rfl⟩);refine⟨q.get,q.ok,q.env,q.hr,st.trans q.step,by simpa using q.len,λj S=>?_⟩;have:=Qk.1 S;rw[q.same j this.2,DT λe=>this.1 e.symm];cases h;cases h
 |.m id kk ty::r,B,env,H,env2,E,h,k,ok,hl,he,hr,lp=>by
  simp[ZL]at h;split at h;rename_i b k1 t1 es C;split at h;rename_i Q D R;cases h;simp[XG]at k;split at k;rename_i k2 O ap i;split at k;rename_i G;simp[BS,K!]at G;have⟨rfl,G⟩:=G;have e:=Ty.beq_eq _ _ G;subst e;have st:CL H (H.set id (.mp η k2 O es)):=CL.set i rfl λ_ _ _ _ _ e=>by cases e
  have A:HR J (H.set id (.mp η k2 O es)) (L6 r):=HR.set hr C (.inr (.inr (.inr (.inr ⟨_,_,_,_,_,rfl,rfl⟩))));have f:Oc env (H.set id (.mp η k2 O es)):=⟨st.env ok.env,heap_set st ok.heap trivial⟩
  have q:=NC z R k f (by simpa using hl) he A (lp.set (HB i) λ_ _ _ _ _ _ _ _ K=>by rw[C]at K;cases K);refine⟨q.get,q.ok,q.env,q.hr,st.trans q.step,by simpa using q.len,λj S=>?_⟩;have:=Qk.1 S;rw[q.same j this.2,DT λe=>this.1 e.symm];cases k;cases k;cases h;cases h
 |.w tmp id::r,B,env,H,env2,E,h,k,ok,hl,he,hr,lp=>by
  simp[ZL]at h;split at h
  ·rename_i W ag te n1 lo m I;split at h
   ·rename_i Q D R;cases h;simp[BS,R4]at D;have V:(Bu.own W ag te n1).ok J:=mN z.env tmp _ (by rw[I];simp[TV.refs]);obtain⟨b1,t,l,n,ad,e0,C⟩:=lg V D.1;injection e0 with e1 Z e3 e4;subst e1 Z e3 e4;simp[XG]at k;split at k
    ·rename_i b2 O l2 n2 N h2;have⟨e,L,T⟩:=hr W _ D.2 h2;rw[C]at L;cases L;rcases T with i|⟨_,_,_,_,i,_⟩|⟨_,_,_,_,_,_,_,i,h1⟩|⟨_,_,_,_,_,_,_,_,_,i,_⟩|⟨_,_,_,_,_,i,_⟩;cases i;cases i;rotate_left;cases i;cases i;injection i with e1 Z e3 e4 e5;injection h1 with f1 f2 f3 f4 f5;subst Z e4 f2 f4;have f:Oc ((tmp,.vw W N O n2 lo m)::env) H:=⟨λp o=>by rcases A3.1 o with rfl|o;intro x I;simp only[TV.refs,A7]at I;subst I;exact XL h2;exact ok.env p o,ok.heap⟩
     have q:=NC z R k f hl (λp o=>by rcases A3.1 o with rfl|o;exact⟨_,Zy I (λe=>by cases e),Xu.refl _⟩;exact he p o) hr lp;refine⟨λt G=>?_,q.ok,q.env,q.hr,q.step,q.len,q.same⟩;have:=Qk.1 G;rw[q.get t this.2];simp[Bb.get,beq_false λe=>this.1 e.symm]
    cases k
   cases h
  cases h
def cJ(n:Nat):Ψ Bu->Bool
 |[]=>ζ
 |.own id _ _ _::r=>Nat.blt id n&&cJ n r
 |.raw v::r=>v.idsAll (Nat.blt · n)&&cJ n r
 |_::r=>cJ n r
mutual
def xB(n:Nat):TV->Bool
 |.c x=>cJ n [x]
 |.g cs=>cJ n cs
 |.aptr id .. =>Nat.blt id n
 |.bptr id .. =>Nat.blt id n
 |.vw id .. =>Nat.blt id n
 |.vptr cs post=>cJ n cs&&AZ.idsAllL (Nat.blt · n) post
 |.tup vs=>yR n vs
def yR(n:Nat):Ψ TV->Bool
 |[]=>ζ
 |v::r=>xB n v&&yR n r
end
def wQ(n:Nat):Bb->Bool
 |[]=>ζ
 |(_,v)::r=>xB n v&&wQ n r
def nh(n:Nat):Aq->Bool
 |[]=>ζ
 |.live _ cs::r=>cJ n cs&&nh n r
 |.lp _ _ _ env _ _ _ _::r=>wQ n env&&nh n r
 |_::r=>nh n r
def nA(h:Nat.blt N n=ζ):τ (N<n)=ζ:=t!
def mX(h:Pure l)(n:Nat):(l.idsAll λid=>decide (id<n))=ζ:=R1 (λ_ h=>by cases h) l h
def AAW:∀{x:Bu},cJ n [x]=ζ->(∀v∈x.enc,(v.idsAll λid=>decide (id<n))=ζ)/\(x.one.idsAll λid=>decide (id<n))=ζ
 |.bl _,_=>⟨λv b=>by simp only[Bu.enc,A7]at b;subst b;rfl,rfl⟩
 |.it _ _,_=>⟨λv b=>by simp only[Bu.enc,A7]at b;subst b;rfl,rfl⟩
 |.st _,_=>⟨λv b=>by simp only[Bu.enc,A7]at b;subst b;rfl,rfl⟩
 |.ls t l,_=>⟨λv b=>by simp only[Bu.enc,A7]at b;subst b;exact mX ((Ty.list t).enc_pure l) n,mX ((Ty.list t).enc_pure l) n⟩
 |.ar m t a,_=>by have h:=mX ((Ty.arr m t).enc_pure a) n;refine⟨λv b=>?_,h⟩;exact((Dn _ _).1 h) v b
 |.own id ver t m,h=>by simp only[cJ,R3]at h;have:=nA h;exact⟨λv b=>by simp only[Bu.enc,A7]at b;subst b;exact this,this⟩
 |.nil,_=>⟨λv b=>by simp only[Bu.enc,A7]at b;subst b;rfl,rfl⟩
 |.raw v,h=>by simp only[cJ,R3]at h;have:=R1 (λ_ h=>nA h) v h;exact⟨λu c=>by simp only[Bu.enc,A7]at c;subst c;exact this,this⟩
def xA{r:Ψ Bu}(h:cJ n (I::r)=ζ):cJ n [I]=ζ/\cJ n r=ζ:=by cases I<;>simp only[cJ,R3,BS]at h⊢ <;>first|exact h|exact⟨P!,h⟩
def nE{n}:∀{b},cJ n b=ζ->AZ.idsAllL (λid=>decide (id<n)) (lvs b)=ζ
 |[],_=>rfl
 |x::r,h=>by obtain⟨c,d⟩:=xA h;rw[Hr,Dn];intro v a;rcases Al.1 a with a|a;exact(AAW c).1 v a;exact((Dn _ _).1 (nE d)) v a
mutual
theorem il{n}:∀{v},xB n v=ζ->(v.enc.idsAll λid=>decide (id<n))=ζ
 |.c x,h=>(AAW h).2
 |.g cs,h=>nE h
 |.aptr ..,h=>nA h
 |.bptr ..,h=>nA h
 |.vw id ver t k lo m,h=>by have b:=nA h;show((vwE id k t.sz lo m).idsAll λid=>decide (id<n))=ζ;unfold vwE;split;split;exact b;rfl;exact b
 |.vptr cs post,h=>by simp only[xB,BS]at h;simp only[TV.enc,AZ.idsAll];rw[Dn];intro v a;rcases Al.1 a with a|a;exact((Dn _ _).1 (nE h.1)) v a;exact((Dn _ _).1 (Jl (λ_ h=>nA h) post h.2)) v a
 |.tup vs,h=>by simp only[xB]at h;simp only[TV.enc,AZ.idsAll];exact sX h
theorem sX{n:Nat}:∀{a},yR n a=ζ->AZ.idsAllL (λid=>decide (id<n)) (TV.encL a)=ζ
 |[],_=>rfl
 |v::r,h=>by simp only[yR,BS]at h;simp only[TV.encL,AZ.idsAllL,BS];exact⟨il h.1,sX h.2⟩
end
def nC{n:Nat}:∀{env},wQ n env=ζ->∀p∈env,xB n p.2=ζ
 |[],_,p,a=>by cases a
 |(t,v)::r,h,p,a=>by simp only[wQ,BS]at h;rcases A3.1 a with rfl|a;exact h.1;exact nC h.2 p a
def nD{n}:∀{H},nh n H=ζ->∀e∈BC H,(e.idsAll λid=>decide (id<n))=ζ
 |x::r,h,e,c=>by
  have g:nh n r=ζ:=by cases x<;>simp only[nh,BS]at h<;>first|exact h|exact h.2
  simp only[BC,Bz,A3]at c;rcases c with rfl|c;cases x with
  |dead=>rfl
  |live b o=>simp only[nh,BS]at h;exact nE h.1
  |buf b t l m k=>simp only[Dp.enc,FO.idsAll];rw[Dn];intro v d;obtain⟨u,j,d⟩:=Gu.1 d;obtain⟨y,_,rfl⟩:=Bo.1 j;have h:=mX (t.E.pure y) n;cases q:t.E.f y<;>simp_all[AZ.idsAll,Dn,AZ.cells]
  |mp=>rfl
  |lp ro F m env w a b s=>simp only[nh,BS]at h;simp only[Dp.enc,FO.idsAll,B5,List.all_map,F6];exact λp i=>il (nC h.1 p i)
  exact nD g e c
def FN.cut{N n0:Nat}{env:Env}{H:As}(hn:n0≤θ H)(d:∀t v,(t,v)∈env→(v.idsAll λid=>decide (id<n0))=ζ)
  (c:∀e∈H.take n0,(e.idsAll λid=>decide (id<n0))=ζ):FN N n0 env H env (H.take n0):=
 ⟨w!,λX g a w s=>⟨g,⟨s.sim.trunc hn c,λt v m=>⟨(s.env t v m).1,(s.env t v m).2.trunc hn (d t v m)⟩,s.size⟩,λ_ _=>⟨rfl,rfl,rfl⟩,λB b=>jh b⟩⟩
theorem xD{e:FO}(h:(BC c)[N]?=δ e):∃x,c[N]?=δ x/\e=x.enc:=by grind[BC]
theorem HR.rel(A:θ D<=θ c)(hr:HR c D [])(x:Cx):T4 x x (BC c) (BC D++(BC c).drop (θ D)):=by
 refine⟨by simp[BC];omega,λj w z=>?_⟩;have same:∀{y:Dp},c[j]?=δ y->w=y.enc->w=.dead\/(∃g p o,(BC c)[j]?=δ (.live g p)/\w=.live g o/\θ o=θ p/\∀(i:Nat)(f:AZ),o[i]?=δ f->∃v,p[i]?=δ v/\Conv x x v f)\/((BC c)[j]?=δ w/\∀g p,w≠.live g p):=by
  intro y u q;have d:(BC c)[j]?=δ y.enc:=by grind[BC]
  subst q;cases y with
  |dead=>exact .inl rfl
  |live b p=>exact .inr (.inl ⟨_,_,_,d,rfl,rfl,λi f h=>⟨f,h,λ_ r=>r⟩⟩)
  |buf b t l m J=>exact .inr (.inl ⟨_,_,_,d,rfl,rfl,λi f h=>⟨f,h,λ_ r=>r⟩⟩)
  |lp=>exact .inr (.inr ⟨d,λ_ _ h=>by cases h⟩)
  |mp=>exact .inr (.inr ⟨d,λ_ _ h=>by cases h⟩)
 rcases Aw j (θ D)with h|h;rw[CW (by rw[CT];exact h)]at z;obtain⟨y,u,rfl⟩:=xD z;obtain⟨e,q,B⟩:=hr j y rfl u;rcases B with rfl|⟨b,p,C,o,rfl,rfl,A⟩|⟨b,t,l,m,v,C,f,rfl,rfl⟩|⟨ro,I,F,n,env,L,a,b,s,rfl,rfl⟩|⟨b,C,k,t,K,rfl,rfl⟩;exact .inl rfl;refine .inr (.inl ⟨0,lvs p,lvs o,by simp only[BC,B9,q,Br,Dp.enc],rfl,A.1,λi f E=>?_⟩);obtain⟨v,G,H⟩:=A.2 i f E;exact⟨v,G,H x⟩;exact same q rfl;exact same q rfl;exact same q rfl;rw[Cm (by rw[CT];exact h),IW]at z;rw[CT]at z;grind[xD]
def IS.weak{N}{b}{H}(s:IS e b q L H Y c)(k:θ H≤θ b)(n:wQ (θ H) Y=ζ)(o:nh (θ H) c=ζ):
  FN N (θ H) (B5 e) (BC b) (B5 Y) (BC c):=by
 have g:θ c<=θ b:=by rw[s.len];exact k
 have x:FN N (BC b).length (B5 e) (BC b) (B5 Y) (BC c++(BC b).drop (θ c)):=by refine XO (by simp[BC];omega) λX h w _=>?_;have A:=(HR.rel g s.hr (cx X h (BC b) w)).onto;refine⟨A,λt z m=>?_⟩;obtain⟨p,j,a⟩:=Bo.1 m;injection a with d f;subst d f;obtain⟨v,u,i⟩:=s.env p j;exact⟨v.enc,Bo.2 ⟨_,u,rfl⟩,λB r=>(i _ B r).later A.later⟩
 have l:(BC c++(BC b).drop (θ c)).take (θ H)=BC c:=by rw[<-s.len,<-CT c,El];rfl
 have y:FN N (θ H) (B5 Y) (BC c++(BC b).drop (θ c)) (B5 Y) (BC c):=by have:=FN.cut (N:=N) (n0:=θ H) (env:=B5 Y) (H:=BC c++(BC b).drop (θ c)) (by simp[BC,s.len]) (λt v m=>by obtain⟨p,j,a⟩:=Bo.1 m;injection a with d f;subst d f;exact il (nC n p j)) (by rw[l];exact nD o);rwa[l]at this
 exact(x.of_le (by rw[CT];exact k)).trans y
def xF:Exit->Exit->Bool
 |.normal,.normal=>ζ
 |.exit a,.exit b=>ξ a b
 |.ret,.ret=>ζ
 |_,_=>η
def uv{b}(h:xF J b=ζ):J=b:=by cases J<;>cases b<;>simp only[xF]at h<;>first|rfl|cases h|exact E! _ (DA h)
structure Hint where
 kind:Nat
 key:Nat
 virt:List (Nat×Ty)
 virtC:List (Nat×Nat×Ty)
 kill:List Nat
 drop:List Nat
 slots:List PY
 exits:List (Exit×List PY)
def wc(n id:Nat):Nat:=match Nat.ble 100 id with|true=>id+n-150|false=>id
def Part.rel(n:Nat):Part->Part
 |.o id=>.o (wc n id)
 |p=>p
def PY.rel(n:Nat):PY->PY
 |.g tmp id=>.g tmp (wc n id)
 |.p id ps=>.p (wc n id) (ps.map (Part.rel n))
 |.u id ty=>.u (wc n id) ty
 |.x id=>.x (wc n id)
 |.y id st=>.y (wc n id) st
 |.m id kk ty=>.m (wc n id) kk ty
 |.w tmp id=>.w tmp (wc n id)
 |z=>z
def Hint.rel(n:Nat)(h:Hint):Hint:=⟨h.kind,h.key,h.virt,h.virtC.map λp=>(wc n p.1,p.2),h.kill.map (wc n),h.drop,h.slots.map (PY.rel n),h.exits.map λp=>(p.1,p.2.map (PY.rel n))⟩
def Hint.tmps(h:Hint):Ψ Nat:=h.drop++h.virt.map (·.1)++Wq h.slots++h.exits.flatMap λp=>Wq p.2
def xw(n:Nat):∀l:Ψ PY,Wq (l.map (PY.rel n))=Wq l
 |[]=>rfl
 |s::r=>by cases s<;>simp[Wq,PY.rel,xw n r]
def UK(n:Nat)(h:Hint):(h.rel n).tmps=h.tmps:=by simp[Hint.tmps,Hint.rel,xw,List.flatMap_map]
def oC(kind key:Nat):Ψ Hint->Ω Hint
 |[]=>ε
 |h::r=>match ξ kind h.kind&&ξ key h.key with|true=>δ h|false=>oC kind key r
def AAL:Code->Ω Nat
 |.region id _ _=>δ id
 |.seq a b=>match AAL a with|some x=>δ x|none=>AAL b
 |.cond _ a b=>match AAL a with|some x=>δ x|none=>AAL b
 |.block _ b=>AAL b
 |.loop b=>AAL b
 |_=>ε
def vH:Code->Bool
 |.seq a _=>vH a
 |.block _ b=>vH b
 |.loop _=>ζ
 |_=>η
def AKI(b:Code)(r:Nat)(hs:Ψ Hint):Ω Hint:=
 match vH b with
 |true=>(match oC 5 r hs with|some h=>δ h|none=>oC 0 r hs)
 |false=>oC 0 r hs
def hintOf(hs:Ψ Hint):Code->Ω Hint
 |.loop b=>match AAL b with|some r=>(match oC 8 r hs with|some h=>δ h|none=>AKI b r hs)|none=>ε
 |.block id _=>oC 1 id hs
 |.cond _ a b=>match AAL (.seq a b)with|some r=>oC 2 r hs|none=>ε
 |.region id _ _=>oC 6 id hs
 |_=>ε
def sq(hs:Ψ Hint)(c:Code):Ψ Nat:=
 match hintOf hs c with
 |some h=>h.tmps
 |none=>[]
def tz(hs:Ψ Hint):Code->Code->Ω Hint
 |.region id _ _,.cond _ _ _=>oC 4 id hs
 |_,_=>ε
def wC(hs:Ψ Hint)(a b:Code):Ψ Nat:=
 match tz hs a b with
 |some h=>h.tmps
 |none=>[]
def Pg(hs:Ψ Hint):Code->Ψ Nat
 |.region id ops d=>ph ops.toList++sq hs (.region id ops d)
 |.seq a b=>(Pg hs a++Pg hs b)++wC hs a b
 |.cond c a b=>Pg hs a++Pg hs b++sq hs (.cond c a b)
 |.block id b=>Pg hs b++sq hs (.block id b)
 |.loop b=>Pg hs b++sq hs (.loop b)
 |_=>[]
def zh:TV->Bool
 |.c (.raw .any)=>ζ
 |_=>η
def AEw(h:zh t=η):t≠WL:=by rintro rfl;cases h
def yg(H:Aq)(id:Nat):Bool:=match H[id]? with|some (.buf η _ _ _ _)=>ζ|_=>η
def kA(A S:Ψ Nat)(H:Aq)(t:Nat)(v:TV):Bool:=
 match JV t A with
 |true=>η
 |false=>match zh v with
  |true=>η
  |false=>(L4 v.refs).all λid=>!(JV id S&&yg H id)
def Rb(A S:Ψ Nat)(H:Aq):Bb->Bb
 |[]=>[]
 |(t,v)::r=>match kA A S H t v with|true=>(t,v)::Rb A S H r|false=>Rb A S H r
def sF:Bb->Bool
 |[]=>ζ
 |(t,_)::r=>!JV t (r.map (·.1))&&sF r
theorem XI(h:N∉b):JV N b=η:=by
 cases a:JV N b with
 |false=>rfl
 |true=>induction b<;>grind[JV,Nat.eq_of_beq_eq_true]
def bH:∀{env},sF env=ζ->(env.map (·.1)).Nodup
 |[],_=>RW
 |(t,v)::r,h=>by simp only[sF,BS,R4]at h;exact Gv.2 ⟨VG h.1,bH h.2⟩
theorem my{A S}{H}:∀{env:Bb},(env.map (·.1)).Nodup->∀t,kA A S H t (env.get t)=ζ->(Rb A S H env).get t=env.get t
 |[],_,t,_=>rfl
 |(u,v)::r,nd,t,h=>by have a:=Gv.1 nd;simp only[Bb.get]at h⊢;by_cases b:u=t;grind[Nat.beq_refl,Rb,Bb.get];rw[beq_false b]at h⊢;have c:=my a.2 t h;grind[Rb,Bb.get,beq_false]
theorem R9{A S:Ψ Nat}{H:Aq}:∀{env:Bb},(env.map (·.1)).Nodup->∀p∈Rb A S H env,env.get p.1=p.2/\kA A S H p.1 p.2=ζ/\p∈env
 |(u,v)::r,nd,p,h=>by
  have a:=Gv.1 nd;have tail:p∈Rb A S H r->Bb.get ((u,v)::r) p.1=p.2/\kA A S H p.1 p.2=ζ/\p∈(u,v)::r:=λh=>by obtain⟨b,c,d⟩:=R9 a.2 p h;grind[Bb.get,beq_false]
  grind[Rb,Bb.get,Nat.beq_refl]
theorem AHa(H:Aq):LpS (Ku b 0 H) H:=by intro id c ro F n env d a S s h;rw[JT,h];split;grind;exact⟨_,_,rfl⟩
theorem AFc(H:Aq):LpS H (Ku b 0 H):=by
 intro id d ro F n env f a S s h;rw[JT]at h;cases c:H[id]? with
 |none=>grind
 |some e=>
  rw[c]at h;simp at h;split at h;grind;cases e with
  |lp=>injection h with _ g i j k l m _;grind
  |_=>cases h
def o0{id a n}{t}:∀{b:Ψ Bu},Bu.own id a t n∈b->id∈L4 b
 |x::r,h=>by rcases A3.1 h with rfl|h;exact H4;have:=o0 h;cases x<;>simp only[L4]<;>first|exact this|exact CQ _ this
def AAV(h:kA b E c N t=ζ)(m:t.ok c)(st:CL (Ku E 0 c) D):qJ D t:=by
 intro id o r n g;unfold kA at h;split at h;cases h;split at h;cases h;have A:=F6.1 h id (o0 g);have d:id<θ c:=(m _ g).1;refine st.nb id (by rw[Ic];exact d) λq l p i a=>?_;rw[JT,DQ]at a;cases S:c[id]? with
 |none=>rw[S]at a;cases a
 |some e=>rw[S]at a;simp only[Br,Ap]at a;split at a;rename_i k;subst a;simp only[k,yg,S]at A;cases A;cases e<;>simp only[Dp.lock]at a<;>first|cases a|(injection a with j;cases j)
theorem AFa(g:JV N b=η)(i:zh t=η)(j:qJ c t):kA b E c N t=ζ:=by
 unfold kA;rw[g,i];refine F6.2 λid e=>?_;have:∃d f n,Bu.own id d f n∈t.refs:=by
  generalize t.refs=cs at e;induction cs with
  |nil=>cases e
  |cons x r m=>
   cases x with
   |own l d f n=>grind[L4]
   |_=>obtain⟨a,A,S,h⟩:=m e;grind
 obtain⟨d,f,n,k⟩:=this;have:=j id d f n k;grind[yg]
def AJS:Ψ Part->Ψ Nat
 |[]=>[]
 |.o id::r=>id::AJS r
 |_::r=>AJS r
def oJ(env:Bb)(H:Aq):Ψ PY->Ψ Nat
 |[]=>[]
 |.t tmp _::r=>L4 (env.get tmp).refs++oJ env H r
 |.p id ps::r=>(match H[id]? with|some (.live _ cs)=>(L4 cs).filter λi=>!JV i (AJS ps)|_=>[])++oJ env H r
 |_::r=>oJ env H r
def zw(sl:Ψ PY)(env:Bb)(H:Aq):Ω (DL (gL sl)):=
 match Ih (oJ env H sl) env H with
 |(e,h)=>match ZL e h sl with|some ds=>ABr (gL sl) ds|none=>ε
def yp:Ψ (Exit×Ψ PY)->Type
 |[]=>Unit
 |[p]=>DL (gL p.2)
 |p::q::r=>DL (gL p.2)⊕yp (q::r)
def ABw:(xs:Ψ (Exit×Ψ PY))->Exit->Bb->Aq->Ω (yp xs)
 |[],_,_,_=>ε
 |[p],x,env,H=>match xF p.1 x with|true=>zw p.2 env H|false=>ε
 |p::q::r,x,env,H=>
  match xF p.1 x with
  |true=>(match zw p.2 env H with|some s=>δ (.inl s)|none=>ε)
  |false=>(match ABw (q::r) x env H with|some s=>δ (.inr s)|none=>ε)
def AJY{R:Type}:(xs:Ψ (Exit×Ψ PY))->yp xs->(Exit->Ψ PY->Ψ DV->Ω R)->Ω R
 |[],_,_=>ε
 |[p],s,k=>k p.1 p.2 (dvs (gL p.2) s)
 |p::q::r,o,k=>ν (λs=>k p.1 p.2 (dvs (gL p.2) s)) (AJY (q::r) · k) o
def yq:(xs:Ψ (Exit×Ψ PY))->yp xs->Exit×Ψ PY×Ψ DV
 |[],_=>(.normal,[],[])
 |[p],s=>(p.1,p.2,dvs (gL p.2) s)
 |p::q::r,.inl s=>(p.1,p.2,dvs (gL p.2) s)
 |p::q::r,.inr s=>yq (q::r) s
def xh{R:Type}:∀{xs}{o}{k}{r:R},AJY xs o k=δ r->k (yq xs o).1 (yq xs o).2.1 (yq xs o).2.2=δ r
 |[],_,_,_,h=>by cases h
 |[p],s,k,r,h=>h
 |p::q::t,.inl s,k,r,h=>h
 |p::q::t,.inr s,k,r,h=>xh (xs:=q::t) h
def AGm(sl:Ψ PY)(ds:Ψ DV)(env:Bb)(H:Aq):Prop:=ZL (Ih (oJ env H sl) env H).1 (Ih (oJ env H sl) env H).2 sl=δ ds
theorem oh{s:DL (gL q)}(h:zw q e c=δ s):AGm q (dvs (gL q) s) e c:=by grind[zw,AGm,sE]
def xi:∀{xs}{x}{env}{H}{o:yp xs},ABw xs x env H=δ o→
  (yq xs o).1=x/\AGm (yq xs o).2.1 (yq xs o).2.2 env H/\∃p∈xs,(yq xs o).2.1=p.2
 |[p],x,env,H,o,h=>by simp only[ABw]at h;split at h;rename_i a;exact⟨uv a,oh h,p,k!,rfl⟩;cases h
 |p::q::r,x,env,H,o,h=>by simp only[ABw]at h;split at h;rename_i a;split at h;rename_i s b;injection h with h;subst h;exact⟨uv a,oh b,p,k!,rfl⟩;cases h;split at h;rename_i s b;injection h with h;subst h;obtain⟨d,e,c,f,g⟩:=xi (xs:=q::r) b;exact⟨d,e,c,CQ _ f,g⟩;cases h
structure ABB(A S:List Nat)(env0:Bb)(H0:Aq)(e2:Bb)(h2:Aq):Prop where
 ok:Oc e2 h2
 step:CL (Ku S 0 H0) h2
 len:h2.length=H0.length
 same:∀j,JV j S=false->h2[j]?=(Ku S 0 H0)[j]?
 get:∀p∈Rb A S H0 env0,e2.get p.1=p.2
theorem ACd{A B S:List Nat}{env0:Bb}{a:Aq}{L:Bb}{s:Aq}(m:Oc env0 a)(nd:(env0.map (·.1)).Nodup)(g:ABB A S env0 a L s)
  {env1:Bb} {d:Aq} (G:Oc env1 d) (st:EC B L s env1 d) (U: ∀t,t∈B->t∈A) {o:List PY} {K:List DV} (W:AGm o K env1 d)
  {Hx:Aq} (J: ∀e∈Hx,e.ok Hx) (y:Hx.length=a.length) (F:LpS Hx (Ku S 0 a)) (rx: ∀id c t n,Sz a id c t n->Sz Hx id c t n) (E: ∀(j:Nat) (i:Dp),JV j (L6 o)=false->Hx[j]? =some i->i= .dead\/ ∃e,JV j S=false/\(Ku S 0 a)[j]? =some e/\e.ro=true/\AIy e i)
  {r:Bb} {f:Aq} (Y:XG o K (Rb A S a env0) Hx=some (r,f)) (ce:wQ a.length r=true) (ch:nh a.length f=true) (N:Nat):
  FN N a.length (B5 env1) (BC d) (B5 r) (BC f)/\ ∃P V,IS P V o (Rb A S a env0) Hx r f:=by
 obtain⟨I,z,wf⟩:=SH (oJ env1 d o) G;have u:a.length<=d.length:=by rw[<-g.len];exact st.step.len
 have b:=EC.trans g.ok.env st z;have H: ∀p∈Rb A S a env0,p.2.ok Hx:=λp v x E=>by
  have:=m.env p (R9 nd p v).2.2 x E;cases x with
  |own id c t n=>exact rx _ _ _ _ this
  |_=>trivial
 have q:=NC I W Y ⟨H,J⟩ (by rw[y];exact Cs u z.step.len) (λp v=>by
  obtain⟨b1,M,O⟩:=R9 nd p v;have hk:=AAV M (m.env p O) g.step;have T:JV p.1 A=false:=by grind[kA]
  have k:zh p.2=false:=by grind[kA]
  have X:=g.get p v;have:=b.same p.1 (λh=>by rw[D1]at h;exact VG T (U _ h)) (by grind);rw[X]at this;exact⟨p.2,Zy this (AEw k),Xu.refl _⟩) (λj i Z C=>by
   have D:j<a.length:=by grind
   rcases E j i Z C with rfl|⟨e,Q,s,f,R⟩
   ·exact⟨_,Ar (DG D (Cs u z.step.len)),.inl rfl⟩
   ·exact⟨e,b.step.ro j e (by rw[g.same j Q];exact s) f,R⟩) (λid l _ _ _ _ _ _ _ _ hq=>by
  obtain⟨ad,s1,q1⟩:=(g.step.trans b.step).lp id (by rw[Ic,<-y];exact l) _ _ _ _ _ _ _ _ hq;exact F id l _ _ _ _ _ _ _ _ q1)
 have w:=q.weak (N:=N) (by rw[y];exact Cs u z.step.len) (by grind) (by grind);rw[y]at w;exact⟨((wf N).of_le (by rw[CT];exact u)).trans w,_,_,q⟩
open Classical in
noncomputable def vr{α:Type}(g:Ψ α->Unit->Ω (Ψ α))(l:Ψ α):Ω (Ψ α):=if∀m,l.Perm m->g m ()=g l ()then g l ()else ε
theorem AB1{g:Ψ R->Unit->Ω (Ψ R)}{l s:Ψ R}(h:vr g l=δ s):∀m,l.Perm m->g m ()=δ s:=by grind[vr]
def yu:Ψ Oper->Ω (Nat×Nat×Nat×TypeId×TypeId)
 |[⟨δ a1,.load ty1 (.tmp c0),_,_,_,ε⟩,⟨δ a2,.range ty2 (.tmp b1),_,_,_,ε⟩]=>match ξ a1 b1 with|true=>δ (c0,a1,a2,ty1,ty2)|false=>ε
 |_=>ε
def vk:Ψ Oper->Ω (Nat×Nat×Nat)
 |[⟨δ a3,.next (.tmp a2) η,_,_,_,ε⟩,⟨δ a4,.extract (.tmp b3) 0,_,_,_,ε⟩]=>match ξ a3 b3 with|true=>δ (a2,a3,a4)|false=>ε
 |_=>ε
def vn:Ψ Oper->Ω (Nat×Nat×Nat×Nat×TypeId×TypeId)
 |[⟨δ a5,.entry (.tmp a2),_,_,_,ε⟩,⟨δ a6,.extract (.tmp b5) 1,_,_,_,ε⟩,⟨δ a7,.alloc te1,_,_,_,ε⟩,⟨ε,.store te2 (.tmp b7) (.tmp b6),_,_,_,ε⟩]=>
  match ξ a5 b5&&(ξ a6 b6&&ξ a7 b7)with|true=>δ (a2,a5,a6,a7,te1,te2)|false=>ε
 |_=>ε
def vo:Ψ Oper->Ω (Nat×Nat×Nat×Nat×Nat×Nat×TypeId×TypeId×TypeId)
 |[⟨δ a8,.move (.tmp out),_,_,_,ε⟩,⟨δ a9,.load te3 (.tmp a7),_,_,_,ε⟩,⟨δ a10,.buildSlice ts1 1 ⟨[(0,.tmp b9)]⟩,_,_,_,ε⟩,
   ⟨δ a11,.call {callee:=.builtin .append,args:=⟨[.tmp b8,.tmp b10]⟩,argTypes:=⟨[ts2,ts3]⟩},_,_,_,ε⟩,⟨δ out2,.assign (.tmp b11),_,_,_,ε⟩]=>
  match ξ a8 b8&&(ξ a9 b9&&(ξ a10 b10&&(ξ a11 b11&&(ξ out out2&&ξ ts2 ts3))))with|true=>δ (out,a7,a8,a9,a10,a11,te3,ts1,ts2)|false=>ε
 |_=>ε
def yv:Ψ Oper->Ω (Nat×Nat×Nat×FuncId×FuncId)
 |[⟨δ a12,.move (.tmp out),_,_,_,ε⟩,⟨δ a13,.call {callee:=.value (.func F),args:=⟨[.tmp b12,.func G]⟩,.. },_,_,_,ε⟩]=>match ξ a12 b12 with|true=>δ (out,a12,a13,F,G)|false=>ε
 |_=>ε
def tD(h:yu g=δ (N,n,G,i,W)):
  ∃e c a f d b,g=[⟨δ n,.load i (.tmp N),e,c,a,ε⟩,⟨δ G,.range W (.tmp n),f,d,b,ε⟩]:=by
 unfold yu at h;split at h;split at h<;>simp_all;cases h
def tE(h:vk g=δ (N,n,G)):
  ∃e c a f d b,g=[⟨δ n,.next (.tmp N) η,e,c,a,ε⟩,⟨δ G,.extract (.tmp n) 0,f,d,b,ε⟩]:=by
 unfold vk at h;split at h;split at h<;>simp_all;cases h
def tF{a7:Nat}(h:vn g=δ (N,n,G,a7,i,W)):
  ∃j e a k f b m o c p l d,g=[⟨δ n,.entry (.tmp N),j,e,a,ε⟩,⟨δ G,.extract (.tmp n) 1,k,f,b,ε⟩,⟨δ a7,.alloc i,m,o,c,ε⟩,⟨ε,.store W (.tmp a7) (.tmp G),p,l,d,ε⟩]:=by
 unfold vn at h;split at h;split at h<;>simp_all;cases h
def tG{a9 a10 a11:Nat}{ts2:TypeId}(h:vo g=δ (N,n,G,a9,a10,a11,i,W,ts2)):
  ∃m f a s r b o l c p j d q k e,g=[⟨δ G,.move (.tmp N),m,f,a,ε⟩,⟨δ a9,.load i (.tmp n),s,r,b,ε⟩,⟨δ a10,.buildSlice W 1 #[(0,.tmp a9)],o,l,c,ε⟩,⟨δ a11,.call {callee:=.builtin .append,args:= #[.tmp G,.tmp a10],argTypes:= #[ts2,ts2]},p,j,d,ε⟩,⟨δ N,.assign (.tmp a11),q,k,e,ε⟩]:=by
 unfold vo at h;split at h;split at h<;>simp_all;cases h
def tH{l:FuncId}(h:yv g=δ (N,n,G,F,l)):
  ∃f d b a i e c,g=[⟨δ n,.move (.tmp N),f,d,b,ε⟩,⟨δ G,.call {callee:=.value (.func F),args:= #[.tmp n,.func l],argTypes:=a},i,e,c,ε⟩]:=by
 unfold yv at h;split at h;split at h<;>simp_all;cases h
structure Y2 where
 c0:Nat
 a1:Nat
 a2:Nat
 a3:Nat
 a4:Nat
 a5:Nat
 a6:Nat
 a7:Nat
 a8:Nat
 a9:Nat
 a10:Nat
 a11:Nat
 a12:Nat
 a13:Nat
 out:Nat
 ty1:TypeId
 ty2:TypeId
 te1:TypeId
 te2:TypeId
 te3:TypeId
 ts1:TypeId
 ts2:TypeId
 F:FuncId
 G:FuncId
def yo:Ψ Nat->Bool
 |[]=>ζ
 |t::r=>!JV t r&&yo r
def tB:∀{l},yo l=ζ->l.Nodup
 |[],_=>RW
 |t::r,h=>by simp only[yo,BS,R4]at h;exact Gv.2 ⟨VG h.1,tB h.2⟩
def pX:Code->Code->Ω Y2
 |.seq (.region _ o1 η) (.block b1 (.loop (.seq (.region _ o2 η) (.seq (.cond (.tmp x4) .skip (.exit b2)) (.block _ (.seq (.region _ o3 η) (.region _ o4 η))))))),.region _ o5 η=>
  match yu o1.toList,vk o2.toList,vn o3.toList,vo o4.toList,yv o5.toList with
  |some (c0,a1,a2,ty1,ty2),δ (x2,a3,a4),δ (y2,a5,a6,a7,te1,te2),δ (out,x7,a8,a9,a10,a11,te3,ts1,ts2),δ (out2,a12,a13,F,G)=>
   match (ξ b1 b2&&(ξ a4 x4&&(ξ a2 x2&&(ξ a2 y2&&(ξ a7 x7&&ξ out out2)))))&&yo [out,a1,a2,a3,a4,a5,a6,a7,a8,a9,a10,a11,a12,a13]with
   |true=>δ ⟨c0,a1,a2,a3,a4,a5,a6,a7,a8,a9,a10,a11,a12,a13,out,ty1,ty2,te1,te2,te3,ts1,ts2,F,G⟩
   |false=>ε
  |_,_,_,_,_=>ε
 |_,_=>ε
def Y2.tmps(p:Y2):Ψ Nat:=[p.out,p.a1,p.a2,p.a3,p.a4,p.a5,p.a6,p.a7,p.a8,p.a9,p.a10,p.a11,p.a12,p.a13]
def av(A:Ψ Nat):Bb->Bb
 |[]=>[]
 |(t,v)::r=>match JV t A with|true=>av A r|false=>(t,v)::av A r
def W9{A:Ψ Nat}:∀{env}{q:Nat×TV},q∈av A env->q∈env/\q.1∉A
 |[],_,h=>by cases h
 |(t,v)::r,q,h=>by simp only[av]at h;split at h;exact⟨CQ _ (W9 h).1,(W9 h).2⟩;rename_i a;rcases A3.1 h with rfl|h;exact⟨H4,VG a⟩;exact⟨CQ _ (W9 h).1,(W9 h).2⟩
theorem rM{A:Ψ Nat}{u:Nat}(a:u∉A):∀env:Bb,(av A env).get u=env.get u
 |[]=>rfl
 |(t,v)::r=>by
  simp only[av,Bb.get];split;rename_i b;have:t≠u:=λe=>by grind[XI]
  rw[beq_false this];exact rM a r;simp[Bb.get,rM a r]
noncomputable def AFA(P:Program)(N:Nat)(cs:Ψ RJ)(p:Y2)(env:Bb)(H:Aq){R:Type}(k:Bb->Aq->Ω R):Ω R:=
 match env.get p.c0,env.get p.out with
 |.c (.raw (.ptr c 0 0)),.c .nil=>
  match H[c]? with
  |some (.live _ [.raw (.mp id)])=>
   match H[id]?,xJ cs p.F,Enters P p.F with
   |some (.mp _ kk ty es),δ (.c2 _ te [] [] [.fn (.func G) [] []] g),ζ=>
    if h:(Ty.list ty).beq (Ty.list te)=ζ then
     match tI P p.ty1,P.underlying p.ty2,tI P p.te2,tI P p.te3,Z0 P p.te1,eI P p.ts1,eI P p.ts2 with
     |some (η,_),δ (.map kt _),δ (_,n2),δ (tr3,n3),δ z,δ (ε,e1,s1),δ (ε,e2,s2)=>
      match (ξ G p.G&&(te.isAgg&&(ξ n2 te.sz&&(tr3&&(ξ n3 te.sz&&(ξ (θ z) te.sz&&(ξ s1 te.sz&&(ξ s2 te.sz&&(S9 P e1&&(S9 P e2&&Nat.ble te.sz 4096))))))))))&&
        ((match P.underlying kt with|some (.int k2)=>decide (k2=kk)|_=>η)&&(wQ (θ H) (av p.tmps env)&&(nh (θ H) H&&p.tmps.all λt=>Nat.blt t N)))with
      |true=>cond (τ (((θ es:Nat):Int)≤16777216))
        ((vr g (Ty.cast h (es.map (·.2)))).bind λs=>cond (ξ (θ s) (θ es)) (k ((p.out,.c (.own (θ H) 0 te (θ s)))::av p.tmps env) (H++[.buf η te s (θ s) 0,.dead])) ε) ε
      |false=>ε
     |_,_,_,_,_,_,_=>ε
    else ε
   |_,_,_=>ε
  |_=>ε
 |_,_=>ε
theorem E6{q:Nat×AZ}{v:AZ}(h:q∈y)(a:q.1≠N):q∈y.put N v:=CQ _ (BZ.2 ⟨h,q!⟩)
def zA:(N,l)∈y.put N l:=H4
def qF{v:AZ}:Env.get ((N,v)::y) N=v:=C! rfl
def AAN{v:AZ}(h:N≠n):Env.get ((N,v)::y) n=y.get n:=D! h
def kD(vals:Ψ R)(seen:Ψ Nat):Ψ R:=seen.filterMap (vals[·]?)
theorem ACL{a:Ψ R}{x:R}(h:a[N]?=δ x):kD a (b++[N])=kD a b++[x]:=by grind[kD]
theorem AAq{b:Type}:∀a:Ψ b,(List.range (θ a)).filterMap (a[·]?)=a
 |[]=>rfl
 |x::r=>by
  rw[CY,List.range_succ_eq_map,qu];simp;have:((λi=>(x::r)[i]?)∘Nat.succ)=(r[·]?):=q!
  rw[this,AAq r]
def ACK{a:Ψ R}(hn:E.Nodup)(c:∀j∈E,j<θ a)(b:∀j,j<θ a->j∈E):a.Perm (kD a E):=by have:=((oO List.nodup_range hn).2 λj=>⟨λh=>b j (H5.1 h),λh=>H5.2 (c j h)⟩).filterMap (a[·]?);rwa[AAq]at this
section
variable {P:Program}{N:Nat}{env:Env}{H:As}{Q:Env->As->Prop}{ops:Array Oper}
def Xv.nil(h:Q env H):Xv P N ops [] env H Q:=⟨_,_,FN.refl _ _ _,h⟩
def Xv.cons(b:o.guard=ε)(h:Jn P N o env H λv a=>Xv P N ops g (env.putO o.dst v) a Q):Xv P N ops (o::g) env H Q:=by refine⟨_,_,FN.refl _ _ _,?_⟩;rw[b];exact h
end
variable {A:Hint}{O:Y2}
section
variable {P:Program}{N:Nat}
theorem yQ(t:Ty)(l:Ψ t.D):∀v∈t.E.cl l,Pure v:=by intro v a;have⟨u,b,a⟩:=Gu.1 a;obtain⟨y,_,rfl⟩:=Bo.1 b;exact V8 (t.enc_pure y) v a
theorem AF6(h:Pure l)(p:Nat->Bool):l.idsAll p=ζ:=R1 (λ_ h=>by cases h) l h
theorem AFM{p q:Nat->Bool}(h:∀id,p id=ζ->q id=ζ)(e:FO)(k:e.idsAll p=ζ):e.idsAll q=ζ:=by cases e<;>grind[Jl,FO.idsAll,List.all_eq_true,R1]
theorem AJB(t:Ty)(g:Nat)(l:Ψ t.D)(p:Nat->Bool):(FO.live g (t.E.cl l)).idsAll p=ζ:=by grind[FO.idsAll,Dn,AF6,yQ]
theorem flt{a:Type}(p q:a->Bool)(b:∀x,q x=ζ->p x=ζ)(e:a)(d:p e=ζ)(f:q e=η):∀l:Ψ a,e∈l->(l.filter q).length<(l.filter p).length
 |x::l,he=>by
  have c:∀l:Ψ a,(l.filter q).length<=(l.filter p).length:=by intro l;induction l<;>grind
  rcases A3.1 he with rfl|h;grind;have:=flt p q b e d f l h;grind
theorem AIa(h:E.Nodup){i j a b:Nat}(d:E[i]?=δ a)(e:E[j]?=δ b)(c:i≠j):a≠b:=by grind[List.getElem?_inj]
def ADh{te:Ty}{kk:IntKind}{es:Ψ (Int×te.D)}{Hb:As}{base:Env}{id a2 a3 a4 a5 a6 a7 a8 a9 a10 a11 out:Nat}{b1 b2:Nat}{i2 i3 i4:Nat}{o2 o3 o4:Array Oper}{te1 te2 te3 ts1 ts2:TypeId}{z:Ψ AZ}{e1 e2:TypeId}{bb:Bool}
  (h2:vk o2.toList=δ (a2,a3,a4)) (h3:vn o3.toList=δ (a2,a5,a6,a7,te1,te2)) (h4:vo o4.toList=δ (out,a7,a8,a9,a10,a11,te3,ts1,ts2))
  (bz:[out,a2,a3,a4,a5,a6,a7,a8,a9,a10,a11].Nodup) (hN:∀t∈[out,a2,a3,a4,a5,a6,a7,a8,a9,a10,a11],t<N) (hb:∀q∈base,q.1∉ [out,a2,a3,a4,a5,a6,a7,a8,a9,a10,a11])
  (ar:∀q∈base,(q.2.idsAll λj=>decide (j<θ Hb))=ζ) (ao:∀e∈Hb,(e.idsAll λj=>decide (j<θ Hb))=ζ)
  (he:Hb[id]?=δ (.mp kk (es.map λp=>(p.1,te.enc p.2)))) (ap:te.isAgg=ζ) (hz:Z0 P te1=δ z) (Z:θ z=te.sz) (b3:tI P te2=δ (bb,te.sz)) (b4:tI P te3=δ (ζ,te.sz))
  (bG:eI P ts1=δ (ε,e1,te.sz)) (bN:eI P ts2=δ (ε,e2,te.sz)) (bm:S9 P e1=ζ) (bt:S9 P e2=ζ) (b0:te.sz<=4096) (b5:θ es<=16777216):
  ∀(n:Nat)(seen:Ψ Nat),seen.Nodup->(∀j∈seen,j<θ es)->((List.range (θ es)).filter λj=>! τ (j∈seen)).length<=n->(kD (es.map (·.2)) seen).length+((List.range (θ es)).filter λj=>! τ (j∈seen)).length<=θ es->
   Hy P N (.seq (.region i2 o2 η) (.seq (.cond (.tmp a4) .skip (.exit b1)) (.block b2 (.seq (.region i3 o3 η) (.region i4 o4 η)))))
    ((out,.sl (θ Hb) (kD (es.map (·.2)) seen).length te.sz 0 (kD (es.map (·.2)) seen).length)::(a2,.itp (θ Hb+1) id)::base)
    (Hb++[.live (kD (es.map (·.2)) seen).length (te.E.cl (kD (es.map (·.2)) seen)),.it (θ es) seen])
    λe E h=>e=.exit b1/\∃s,(es.map (·.2)).Perm s/\(∀q∈(out,AZ.sl (θ Hb) (θ s) te.sz 0 (θ s))::base,q∈E)/\θ h=θ Hb+2/\(∀j,j<θ Hb->h[j]?=Hb[j]?)/\h[θ Hb]?=δ (.live (θ s) (te.E.cl s)):=by
 obtain⟨t1,p1,x1,t2,p2,x2,l2⟩:=tE h2;obtain⟨t3,p3,x3,t4,p4,x4,t5,p5,x5,t6,p6,x6,l3⟩:=tF h3;obtain⟨t7,p7,x7,t8,p8,x8,t9,p9,x9,b8,b6,b',b9,b7,ca,l4⟩:=tG h4;have D:=λ(i j a b:Nat)=>AIa (i:=i) (j:=j) (a:=a) (b:=b) bz;simp only[A3,List.not_mem_nil,or_false,forall_eq_or_imp,forall_eq]at hN;have d2:Ps N o2.toList=ζ:=by rw[l2];simp[Ps,hN]
 have d3:Ps N o3.toList=ζ:=by rw[l3];simp[Ps,hN]
 have d4:Ps N o4.toList=ζ:=by rw[l4];simp[Ps,hN]
 have ax:id<θ Hb:=by rcases Aw id (θ Hb)with h|h;exact h;rw[Cn h]at he;cases he
 have s0:∀(A B C:FO),(Hb++[A,B]).set (θ Hb+1) C=Hb++[A,C]:=λA B C=>by rw[T9 _ _ o!,show θ Hb+1-θ Hb=1 by omega];rfl
 have s1:∀(A B C D:FO),(Hb++[A,B,C]).set (θ Hb+2) D=Hb++[A,B,D]:=λA B C D=>by rw[T9 _ _ o!,show θ Hb+2-θ Hb=2 by omega];rfl
 have s2:∀(A B C D:FO),(Hb++[A,B,C]).set (θ Hb) D=Hb++[D,B,C]:=λA B C D=>by rw[T9 _ _ (Am _),Gw];rfl
 have g0:∀(A:FO)(r:Ψ FO),(Hb++A::r)[θ Hb]?=δ A:=λA r=>by rw[Cm (Am _),Gw];rfl
 have g1:∀(A B:FO)(r:Ψ FO),(Hb++A::B::r)[θ Hb+1]?=δ B:=λA B r=>by rw[Cm o!,show θ Hb+1-θ Hb=1 by omega];rfl
 have g2:∀(A B C:FO)(r:Ψ FO),(Hb++A::B::C::r)[θ Hb+2]?=δ C:=λA B C r=>by rw[Cm o!,show θ Hb+2-θ Hb=2 by omega];rfl
 have gm:∀(r:Ψ FO),(Hb++r)[id]?=δ (.mp kk (es.map λp=>(p.1,te.enc p.2))):=λr=>by rw[CW ax];exact he
 have Y:(es.map (·.2)).length=θ es:=BY _;have J:0<te.sz:=te.sz_pos;intro n;induction n using Nat.strongRecOn with
 |ind n ih=>
  intro seen hn hl hr hm;obtain⟨L,hL⟩:∃L,L=kD (es.map (·.2)) seen:=⟨_,rfl⟩
  rw[<-hL]at hm⊢;refine Hy.unroll (J0.seq (Fk d2 ?_));rw[l2];apply Xv.cons rfl;have d:(es.map λp=>(p.1,te.enc p.2)).length=θ es:=BY _;have ad:out≠a2:=D 0 1 _ _ rfl rfl g!;refine Jn.next (x:=.tmp a2) (id:=θ Hb+1) (m:=id) (k:=kk) (es:=es.map λp=>(p.1,te.enc p.2)) (seen:=seen) rfl ?_ ?_ (gm _) ?_ ?_
  show Env.get _ a2=_;rw[AAN ad,qF];rw[d];exact g1 _ _ _;intro G;refine Xv.cons rfl (Dm (v:=.bool η) ?_ (Xv.nil ?_));show Cd _ _ _ (.extract (.tmp a3) 0)=_;simp only[Cd,BN,Env.putO,GD,if_true];rfl;refine J0.seq (J0.cond (b:=η) ?_ (λh=>by cases h) (λ_=>J0.exit ?_));simp only[BN,Env.putO,GD,if_true];refine⟨rfl,L,?_,λq o=>?_,k!,λj hj=>CW hj,g0 _ _⟩;rw[hL];exact ACK hn (by rw[Y];exact hl) (by rw[Y];rw[d]at G;exact G);have ag:out≠a3:=D 0 2 _ _ rfl rfl g!;have al:out≠a4:=D 0 3 _ _ rfl rfl g!;rcases A3.1 o with rfl|o;exact E6 (E6 H4 ag) al;have:=hb q o;simp only[A3,not_or]at this;exact E6 (E6 (CQ _ (CQ _ o)) this.2.2.1) this.2.2.2.1;intro j p hj S;rw[B9]at hj;obtain⟨q,o,e⟩:=Wx.1 hj;subst e;rw[d,s0];refine Xv.cons rfl (Dm (v:=.bool ζ) ?_ (Xv.nil ?_));show Cd _ _ _ (.extract (.tmp a3) 0)=_;simp only[Cd,BN,Env.putO,GD,if_true];rfl;have k2:∀m v w,Env.get (Env.put (Env.put ((out,AZ.sl (θ Hb) m te.sz 0 m)::(a2,AZ.itp (θ Hb+1) id)::base) a3 v) a4 w) a2=.itp (θ Hb+1) id:=λm v w=>by rw[GD,D! (D 1 3 _ _ rfl rfl g!),GD,D! (D 1 2 _ _ rfl rfl g!),AAN ad,qF]
  have ko:∀m v w,Env.get (Env.put (Env.put ((out,AZ.sl (θ Hb) m te.sz 0 m)::(a2,AZ.itp (θ Hb+1) id)::base) a3 v) a4 w) out=.sl (θ Hb) m te.sz 0 m:=λm v w=>by rw[GD,D! (D 0 3 _ _ rfl rfl g!),GD,D! (D 0 2 _ _ rfl rfl g!),qF]
  have kb:∀m v w,∀q∈base,q∈Env.put (Env.put ((out,AZ.sl (θ Hb) m te.sz 0 m)::(a2,AZ.itp (θ Hb+1) id)::base) a3 v) a4 w:=λm v w q o=>by have:=hb q o;simp only[A3,not_or]at this;exact E6 (E6 (CQ _ (CQ _ o)) this.2.2.1) this.2.2.2.1
  have ki:∀m v w,(a2,AZ.itp (θ Hb+1) id)∈Env.put (Env.put ((out,AZ.sl (θ Hb) m te.sz 0 m)::(a2,AZ.itp (θ Hb+1) id)::base) a3 v) a4 w:=λm v w=>E6 (E6 (CQ _ H4) (D 1 2 _ _ rfl rfl g!)) (D 1 3 _ _ rfl rfl g!);refine J0.seq (J0.cond (b:=ζ) ?_ (λ_=>J0.skip ?_) (λh=>by cases h));simp only[BN,Env.putO,GD,if_true];dsimp only[gO];refine J0.block (J0.seq (Fk d3 ?_));rw[l3];generalize K:Env.putO (Env.putO ((out,AZ.sl (θ Hb) (θ L) te.sz 0 (θ L))::(a2,AZ.itp (θ Hb+1) id)::base) (δ a3) (.tup [.bool ζ,.int kk q.1,te.enc q.2])) (δ a4) (.bool ζ)=E;have k2:Env.get E a2=.itp (θ Hb+1) id:=by rw[<-K];exact k2 _ _ _
  have ko:Env.get E out=.sl (θ Hb) (θ L) te.sz 0 (θ L):=by rw[<-K];exact ko _ _ _
  have kb:∀q∈base,q∈E:=by rw[<-K];exact kb _ _ _
  have ki:(a2,AZ.itp (θ Hb+1) id)∈E:=by rw[<-K];exact ki _ _ _
  clear K;refine Xv.cons rfl (Jn.entry (x:=.tmp a2) (id:=θ Hb+1) (m:=id) (j:=j) (k:=kk) (es:=es.map λp=>(p.1,te.enc p.2)) (seen:=seen) (p:=(q.1,te.enc q.2)) rfl k2 ?_ (gm _) (by rw[B9,o];rfl) ?_);rw[d];exact g1 _ _ _;have f:te.enc q.2=.agg (te.enc q.2).cells:=Ty.agg_enc ap q.2;have l:(te.enc q.2).cells.length=te.sz:=te.enc_len q.2;have U:(te.enc q.2).solid=ζ:=by rw[f];rfl
  refine Xv.cons rfl (Dm (v:=te.enc q.2) ?_ (Xv.cons rfl (Jn.alloc rfl hz ?_)));show Cd _ _ _ (.extract (.tmp a5) 1)=_;simp only[Cd,BN,Env.putO,GD,if_true];rfl;have a0:(Hb++[FO.live (θ L) (te.E.cl L),FO.it (θ es) (seen++[j])]).length=θ Hb+2:=k!
  rw[a0,A5];show Xv P N o3 _ _ (Hb++[FO.live (θ L) (te.E.cl L),FO.it (θ es) (seen++[j]),FO.live 0 z]) _;refine Xv.cons rfl (Jn.store (id:=θ Hb+2) (g:=0) (off:=0) (v:=te.enc q.2) (cs:=z) (b:=bb) rfl ?_ ?_ U (g2 _ _ _ _) (by rw[l];exact b3) (by rw[l,Z];omega) (Xv.nil ?_));simp only[BN,Env.putO,GD,if_true];simp only[BN,Env.putO,GD];rw[D! (D 5 6 _ _ rfl rfl g!),C! trivial];have T:Xn z 0 (te.enc q.2).cells=(te.enc q.2).cells:=by unfold Xn;rw[List.take_zero,Cq,l,<-Z,DQ,List.drop_length,D1]
  rw[T,s1];simp only[Env.putO];generalize F:Env.put (Env.put (Env.put E a5 (.tup [.int kk q.1,te.enc q.2])) a6 (te.enc q.2)) a7 (.ptr (θ Hb+2) 0 0)=E1;have j7:Env.get E1 a7=.ptr (θ Hb+2) 0 0:=by rw[<-F,GD,C! rfl]
  have jo:Env.get E1 out=.sl (θ Hb) (θ L) te.sz 0 (θ L):=by rw[<-F,GD,D! (D 0 6 _ _ rfl rfl g!),GD,D! (D 0 5 _ _ rfl rfl g!),GD,D! (D 0 4 _ _ rfl rfl g!),ko]
  have jb:∀q∈base,q∈E1:=λu I=>by have:=hb u I;simp only[A3,not_or]at this;rw[<-F];exact E6 (E6 (E6 (kb u I) this.2.2.2.2.1) this.2.2.2.2.2.1) this.2.2.2.2.2.2.1
  have ji:(a2,AZ.itp (θ Hb+1) id)∈E1:=by rw[<-F];exact E6 (E6 (E6 ki (D 1 4 _ _ rfl rfl g!)) (D 1 5 _ _ rfl rfl g!)) (D 1 6 _ _ rfl rfl g!)
  clear F;apply Fk d4;rw[l4];refine Xv.cons rfl (Dm (v:=.sl (θ Hb) (θ L) te.sz 0 (θ L)) (E! δ jo) (Xv.cons rfl (Dm (v:=te.enc q.2) ?_ (Xv.cons rfl (Wa (sz:=te.sz) (vs:=[te.enc q.2]) rfl ?_ (Xv.cons rfl ?_))))));show kB P te3 _ (BN _ (.tmp a7))=_;simp only[BN,Env.putO,GD];rw[D! (D 6 7 _ _ rfl rfl g!),j7];simp only[kB,b4,Qx,g2];rw[C! ⟨P!,by rw[l];omega⟩,Wz,<-l,H8];exact E! δ f.symm;simp only[Tt,bG];rw[C!];simp only[BN,Env.putO,GD,if_true,Bz,Hz];refine⟨J,bm,rfl,?_,g!,b0⟩;simp only[BN,Env.putO,GD,if_true,Bz,Hz,mn,qo,U,l,decide_true,Ys];have R:j<θ es:=by rcases Aw j (θ es)with h|h;exact h;rw[Cn h]at o;cases o
  have bl:((List.range (θ es)).filter λi=>! τ (i∈seen++[j])).length<((List.range (θ es)).filter λi=>! τ (i∈seen)).length:=flt (λi=>! τ (i∈seen)) (λi=>! τ (i∈seen++[j])) (λx f=>by simp at f⊢;exact f.1) j (by simpa using S) k! _ (H5.2 R);have O:kD (es.map (·.2)) (seen++[j])=L++[q.2]:=by rw[hL];exact ACL (by rw[B9,o];rfl)
  refine S4 (sx:=.tmp a8) (xx:=.tmp a10) (t:=ts2) (e:=e2) (id:=θ Hb) (g:=θ L) (g':=θ L+1) (n:=θ L) (sz:=te.sz) (m:=1) (cs:=te.E.cl L) (news:=(te.enc q.2).cells) rfl bN J bt ?_ (g0 _ _) (te.E.clen L) ?_ o! (.inl o!) ?_;show Env.get _ a8=_;simp only[Env.putO,GD];rw[D! (D 7 9 _ _ rfl rfl g!),D! (D 7 8 _ _ rfl rfl g!),C! trivial];simp only[BN,Env.putO,GD,if_true,Ka,CY,CO,IV,qv,D1];rw[s2];refine Xv.cons rfl (Dm (v:=.sl (θ Hb) (θ L+1) te.sz 0 (θ L+1)) ?_ (Xv.nil ?_));show δ (Env.get _ a11)=_;simp only[Env.putO,GD,if_true];have Q:te.E.cl L++(te.enc q.2).cells=te.E.cl (L++[q.2]):=by simp[TC.cl];rfl
  rw[Q];have a':(L++[q.2]).length=θ L+1:=k!
  show∃env2 H2,FN N _ _ _ env2 H2/\_;refine⟨_,_,?_,ih _ (DG bl hr) (seen++[j]) ?_ ?_ (Am _) (by rw[O];omega)⟩;rw[O,a'];generalize M:Env.putO _ (δ out) _=E3;have V:∀u∈(out,AZ.sl (θ Hb) (θ L+1) te.sz 0 (θ L+1))::(a2,AZ.itp (θ Hb+1) id)::base,u∈E3:=by intro u I;rw[<-M];simp only[Env.putO];rcases A3.1 I with rfl|I;exact zA;rcases A3.1 I with rfl|I;exact E6 (E6 (E6 (E6 (E6 ji (D 1 7 _ _ rfl rfl g!)) (D 1 8 _ _ rfl rfl g!)) (D 1 9 _ _ rfl rfl g!)) (D 1 10 _ _ rfl rfl g!)) (D 1 0 _ _ rfl rfl g!);have:=hb u I;simp only[A3,not_or]at this;exact E6 (E6 (E6 (E6 (E6 (jb u I) this.2.2.2.2.2.2.2.1) this.2.2.2.2.2.2.2.2.1) this.2.2.2.2.2.2.2.2.2.1) this.2.2.2.2.2.2.2.2.2.2.1) this.1
  clear M;have w1:=FN.subset (N:=N) (H:=Hb++[FO.live (θ L+1) (te.E.cl (L++[q.2])),FO.it (θ es) (seen++[j]),FO.live 0 (te.enc q.2).cells]) V;have W:(Hb++[FO.live (θ L+1) (te.E.cl (L++[q.2])),FO.it (θ es) (seen++[j]),FO.live 0 (te.enc q.2).cells]).take (θ Hb+2)=Hb++[FO.live (θ L+1) (te.E.cl (L++[q.2])),FO.it (θ es) (seen++[j])]:=by rw[gX,BG o!,show θ Hb+2-θ Hb=2 by omega];rfl
  have w2:=FN.cut (N:=N) (n0:=θ Hb+2) (env:=(out,AZ.sl (θ Hb) (θ L+1) te.sz 0 (θ L+1))::(a2,AZ.itp (θ Hb+1) id)::base) (H:=Hb++[FO.live (θ L+1) (te.E.cl (L++[q.2])),FO.it (θ es) (seen++[j]),FO.live 0 (te.enc q.2).cells]) k! (λt v X=>by
   rcases A3.1 X with e|X;injection e with _ e;subst e;exact G! o!;rcases A3.1 X with e|X;injection e with _ e;subst e;simp only[AZ.idsAll,BS,K!];omega;exact R1 (λi hi=>G! (by have:=N! hi;omega)) v (ar _ X)) (by
   rw[W];intro e c;rcases Al.1 c with c|c;exact AFM (λi hi=>G! (by have:=N! hi;omega)) e (ao e c);rcases A3.1 c with rfl|c;exact AJB te _ _ _;simp only[A7]at c;subst c;rfl)
  rw[W]at w2;have a1:(Hb++[FO.live (θ L) (te.E.cl L),FO.it (θ es) seen]).length=θ Hb+2:=k!
  rw[a1];exact(w1.of_le k!).trans w2;refine H6.2 ⟨hn,k!,λx f y hy=>?_⟩;simp only[A7]at hy;subst hy;rintro rfl;exact S f;intro x f;rcases Al.1 f with f|f;exact hl x f;simp only[A7]at f;subst f;exact R
def pY(h:pX d S=δ O):∃x k i y l r z n A o B q,
  d=.seq (.region x k η) (.block i (.loop (.seq (.region y l η) (.seq (.cond (.tmp O.a4) .skip (.exit i)) (.block r (.seq (.region z n η) (.region A o η)))))))/\S=.region B q η/\
  yu k.toList=δ (O.c0,O.a1,O.a2,O.ty1,O.ty2)/\vk l.toList=δ (O.a2,O.a3,O.a4)/\vn n.toList=δ (O.a2,O.a5,O.a6,O.a7,O.te1,O.te2)/\
  vo o.toList=δ (O.out,O.a7,O.a8,O.a9,O.a10,O.a11,O.te3,O.ts1,O.ts2)/\yv q.toList=δ (O.out,O.a12,O.a13,O.F,O.G)/\O.tmps.Nodup:=by
 unfold pX at h;split at h;split at h;rename_i s t u v w;split at h;rename_i j;simp only[BS]at j;have⟨⟨b,c,a,e,f,g⟩,hn⟩:=j;have b:=DA b;have c:=DA c;have a:=DA a;have e:=DA e;have f:=DA f;have g:=DA g;subst b c a e f g;cases h;exact⟨_,_,_,_,_,_,_,_,_,_,_,_,rfl,rfl,s,t,u,v,w,tB hn⟩;cases h;cases h;cases h
def AFB{cs:Ψ RJ}(cm:∀c∈cs,c.Ok P){a m}{p:Y2}(hp:pX a m=δ p){env}{H}{R:Type}{k:Bb→Aq→Ω R}{r:R}(ok:Oc env H)(o:AFA P N cs p env H k=δ r):
  ∃A H',J0 P N a (B5 env) (BC H) (gO (λE h=>J0 P N m E h (Vj .normal (B5 A) (BC H'))) (λ_ _ _=>False))/\k A H'=δ r/\Oc A H'/\EC p.tmps env H A H':=by
 obtain⟨i1,o1,T,i2,o2,J,i3,o3,i4,o4,i5,o5,rfl,rfl,p1,p2,p3,p4,p5,b0⟩:=pY hp;unfold AFA at o;split at o;rename_i c cg b3;split at o;rename_i ro id hc;split at o;rename_i cW kk n I F te G g a0 hF hE;split at o;rename_i cz;split at o;rename_i y1 kt et b8 n2 c1 n3 z e1 s1 e2 s2 t1 t2 t3 t4 t5 t6 t7;split at o;rename_i hb;have cA:n=te:=by have:=Ty.beq_eq _ _ cz;injection this
 subst cA;simp only[BS]at hb;obtain⟨⟨bG,b7,V,cc,W,bz,Y,Z,ca,cb,ad⟩,U,b9,b',bN⟩:=hb;have bG:=DA bG;have V:=DA V;have W:=DA W;have bz:=DA bz;have Y:=DA Y;have Z:=DA Z;have ad:=Pe ad;subst V W Y Z cc;have cS:P.underlying kt=δ (.int kk):=by split at U;rename_i k2 e;rw[e,N! U];cases U
 cases al:τ (((θ I:Nat):Int)<=16777216)with
 |false=>rw[al]at o;cases o
 |true=>
  have bl:θ I<=16777216:=by have:=N! al;omega
  rw[al]at o;obtain⟨s,hs,o⟩:=DR.1 (show σ _ _=δ r from o);have hs:=AB1 hs;cases L:ξ (θ s) (θ I)with
  |false=>rw[L]at o;cases o
  |true=>
   rw[L]at o;have o:k ((p.out,.c (.own (θ H) 0 n (θ s)))::av p.tmps env) (H++[.buf η n s (θ s) 0,.dead])=δ r:=o;have L:=DA L;obtain⟨c2,q1,x1,c3,q2,x2,l1⟩:=tD p1;obtain⟨c4,q3,x3,cB,c5,q4,x4,l5⟩:=tH p5;have D:=λ(i j a b:Nat)=>AIa (i:=i) (j:=j) (a:=a) (b:=b) b0;have hN:∀t∈p.tmps,t<N:=λt ht=>Pe (F6.1 bN t ht);have d1:Ps N o1.toList=ζ:=by rw[l1];simp[Ps,mn,qo,R3,BS,K!];exact⟨hN _ (by simp[Y2.tmps]),hN _ (by simp[Y2.tmps])⟩
   have d5:Ps N o5.toList=ζ:=by rw[l5];simp[Ps,mn,qo,R3,BS,K!];exact⟨hN _ (by simp[Y2.tmps]),hN _ (by simp[Y2.tmps])⟩
   have M:(B5 env).get p.out=.nils:=by rw[Vh,b3];rfl
   have ag:(B5 env).get p.c0=.ptr c 0 0:=by rw[Vh,cg];rfl
   have ci:p.c0≠p.out:=λe=>by rw[e,M]at ag;cases ag
   have ch:c<θ H:=HB hc;have a1:id<θ H:=HB a0;have d:(BC H).length=θ H:=CT H;have cd:(BC H)[c]?=δ (.live 0 [.mp id]):=by rw[D5,hc];rfl
   have O:(BC H)[id]?=δ (.mp kk (I.map λp=>(p.1,n.enc p.2))):=by rw[D5,a0];rfl
   have x:∀q∈B5 (av p.tmps env),q∈B5 env/\q.1∉p.tmps:=λq y=>by obtain⟨u,hu,rfl⟩:=Bo.1 y;exact⟨Bo.2 ⟨u,(W9 hu).1,rfl⟩,(W9 hu).2⟩
   have cf:∀q∈B5 (av p.tmps env),(q.2.idsAll λj=>decide (j<(BC H).length))=ζ:=λq y=>by obtain⟨u,hu,rfl⟩:=Bo.1 y;rw[d];exact il (nC b9 u hu)
   have ce:∀e∈BC H,(e.idsAll λj=>decide (j<(BC H).length))=ζ:=by rw[d];exact nD b'
   have step:CL H (H++[.buf η n s (θ s) 0,.dead]):=by have:=(CL.push H (.buf η n s (θ s) 0)).trans (CL.push _ .dead);rwa[A5]at this
   have b4:(Bu.own (θ H) 0 n (θ s)).ok (H++[.buf η n s (θ s) 0,.dead]):=by apply XL (b:=η) (l:=s);rw[Cm (Am _),Gw];rfl
   refine⟨(p.out,.c (.own (θ H) 0 n (θ s)))::av p.tmps env,H++[.buf η n s (θ s) 0,.dead],?_,o,⟨λq y=>?_,?_⟩,step,λu hu _=>?_⟩;refine J0.weak (FN.virt (t:=p.out) (sz:=n.sz) M) (J0.seq (Fk d1 ?_));rw[l1];have cv:Cd P ((B5 env).put p.out (.sl (BC H).length 0 n.sz 0 0)) (BC H++[.live 0 []]) (.load p.ty1 (.tmp p.c0))=δ (.mp id):=by simp[Cd,BN,GD];rw[D! ci,ag];simp[kB,t1,Qx];rw[CW (by rw[d];exact ch),cd];rfl
   have a':(BC H++[FO.live 0 []])[id]?=δ (.mp kk (I.map λp=>(p.1,n.enc p.2))):=by rw[CW (by rw[d];exact a1),O]
   refine Xv.cons rfl (Dm cv (Xv.cons rfl (Jn.range (id:=id) (k:=kk) (es:=I.map λp=>(p.1,n.enc p.2)) rfl ?_ t2 a' (Xv.nil ?_))));simp[BN,Env.putO,GD,if_true];rw[BY,Ae,A5];dsimp[gO,Env.putO];refine J0.block (J0.of_loopW ?_);have ar:[p.out,p.a2,p.a3,p.a4,p.a5,p.a6,p.a7,p.a8,p.a9,p.a10,p.a11].Sublist p.tmps:=.cons₂ _ (.cons _ (.cons₂ _ (.cons₂ _ (.cons₂ _ (.cons₂ _ (.cons₂ _ (.cons₂ _ (.cons₂ _ (.cons₂ _ (.cons₂ _ (.cons₂ _ (.cons _ (.cons _ .slnil)))))))))))));have b6:=ADh (P:=P) (N:=N) (te:=n) (kk:=kk) (es:=I) (Hb:=BC H) (base:=B5 (av p.tmps env)) (id:=id) (out:=p.out) (a2:=p.a2) (a3:=p.a3) (a4:=p.a4) (a5:=p.a5) (a6:=p.a6) (a7:=p.a7) (a8:=p.a8) (a9:=p.a9) (a10:=p.a10) (a11:=p.a11)
    (b1:=T) (b2:=J) (i2:=i2) (i3:=i3) (i4:=i4) (bb:=b8) p2 p3 p4 ?_ ?_ ?_ cf ce O b7 t5 bz t3 t4 t6 t7 ca cb ad bl (θ I) [] RW (λj B=>by cases B) (by simpa using List.length_filter_le _ (List.range (θ I))) (by have:=EV (λj=>! τ (j∈([]:Ψ Nat))) (List.range (θ I));simpa[kD]using this)
   refine Hy.mono (Hy.weak ?_ b6) ?_;refine FN.subset (N:=N) (H:=BC H++[FO.live 0 [],FO.it (θ I) []]) λq y=>?_;rcases A3.1 y with rfl|y;exact E6 (E6 zA (D 0 1 _ _ rfl rfl g!)) (D 0 2 _ _ rfl rfl g!);rcases A3.1 y with rfl|y;exact zA;obtain⟨T,J⟩:=x q y;simp[Y2.tmps,A3,not_or]at J;exact E6 (E6 (E6 T J.1) J.2.1) J.2.2.1;rintro e E h ⟨rfl,C,K,b5,Q,ap,ao⟩;show rA T _ (.exit T) E h;simp[rA,if_true,gO];refine J0.weak (FN.subset b5) (J0.after (Fk d5 ?_));rw[l5];obtain⟨bt,hf⟩:=uz hF;have ax:θ s=θ C:=by rw[L,<-K.length_eq,BY]
   have hA:=cm _ bt C () s (hs C K) ax h (BC H).length ao;simp[RJ.f]at hf;rw[hf]at hA;refine Xv.cons rfl (Dm (v:=.sl (BC H).length (θ C) n.sz 0 (θ C)) (E! δ qF) (Xv.cons rfl (Jn.mono (mV (F:=p.F) (vs:=[.sl (BC H).length (θ C) n.sz 0 (θ C),.fn (.func G) [] []]) ?_ hE hA) ?_)));show δ (Sum.inl (p.F,[]++[Env.get _ p.a12,AZ.fn (.func p.G) [] []]++[]))=_;simp only[Env.putO,GD,if_true,bG];rfl;rintro _ _ ⟨rfl,rfl⟩;refine Xv.nil ⟨_,_,?_,rfl,rfl,rfl⟩;have ct:(h.set (BC H).length (.live (θ C) (n.E.cl s))).length=θ h:=k!
   rw[<-ct];refine XO (by simp[BC];rw[Q,d]) λX g' w _=>?_;have hr:T4 (cx X g' (h.set (BC H).length (.live (θ C) (n.E.cl s))) w) (cx X g' (h.set (BC H).length (.live (θ C) (n.E.cl s))) w) (h.set (BC H).length (.live (θ C) (n.E.cl s))) (BC (H++[.buf η n s (θ s) 0,.dead])):=by
    refine⟨by simp[BC];rw[Q,d],λj e' B=>?_⟩;have same:(h.set (BC H).length (.live (θ C) (n.E.cl s)))[j]?=δ e'->e'=.dead\/_:=λhh=>(T4.refl (cx X g' (h.set (BC H).length (.live (θ C) (n.E.cl s))) w) (h.set (BC H).length (.live (θ C) (n.E.cl s)))).2 j e' hh;have cn:BC (H++[.buf η n s (θ s) 0,.dead])=BC H++[FO.live (θ s) (n.E.cl s),FO.dead]:=by simp[BC,Dp.enc]
    rw[cn]at B;rcases RY j (BC H).length with bm|rfl|cG;rw[CW bm]at B;exact same (by rw[DT o!,ap j bm];exact B);rw[Cm (Am _),Gw]at B;exact same (by rw[GY o!,<-ax];exact B);rw[Cm o!]at B;rcases RY (j-(BC H).length) 1 with q|q|q;omega;rw[q]at B;injection B with B;exact .inl B.symm;rw[Cn w!]at B;cases B
   refine⟨hr.onto,λt v' S=>⟨v',?_,λc r=>r.later hr.later⟩⟩;simp[Env.putO];have S:(t,v')∈(p.out,AZ.sl (BC H).length (θ s) n.sz 0 (θ s))::B5 (av p.tmps env):=by rw[d];exact S
   rcases A3.1 S with e|S;cases e;rw[ax];exact E6 (E6 H4 (D 0 12 _ _ rfl rfl g!)) (D 0 13 _ _ rfl rfl g!);obtain⟨T,J⟩:=x _ S;simp only[Y2.tmps,A3,not_or]at J;exact E6 (E6 (CQ _ S) J.2.2.2.2.2.2.2.2.2.2.2.2.1) J.2.2.2.2.2.2.2.2.2.2.2.2.2.1;exact b0.sublist ar;exact λt ht=>hN t (ar.subset ht);exact λq y S=>(x q y).2 (ar.subset S);rcases A3.1 y with rfl|y;exact J2 b4;exact step.tv (ok.env q (W9 y).1);intro e he;rcases Al.1 he with he|he;exact step.ent (ok.heap e he);simp[A3,List.not_mem_nil,or_false]at he;rcases he with rfl|rfl;rfl;trivial;show Bb.get _ u=_;have:p.out≠u:=λe=>hu (by rw[<-e];simp[Y2.tmps]);simp[Bb.get,beq_false this];exact rM hu env
 cases o;cases o;cases o;cases o;cases o;cases o
end
abbrev Sem:=∀{R:Type},Bb->Aq->(Exit->Bb->Aq->Ω R)->Ω R
def qW:Ψ (Nat×Ty)->Bb->Aq->Ω (Bb×Aq)
 |[],env,H=>δ (env,H)
 |(t,ty)::r,env,H=>
  match env.get t with
  |.c .nil=>qW r (env.put t (.c (.own (θ H) 0 ty 0))) (H++[.buf η ty [] 0 0])
  |_=>ε
def um:Nat->Ψ Bu->Ω (Ψ Bu×Ψ Bu)
 |0,.nil::r=>δ ([],r)
 |n+1,x::r=>match um n r with|some (a,b)=>δ (x::a,b)|none=>ε
 |_,_=>ε
def mh:Ψ (Nat×Nat×Ty)->Aq->Ω Aq
 |[],H=>δ H
 |(b,i,ty)::r,H=>
  match H[b]? with
  |some (.live η cs)=>
   match um i cs with
   |some (x,y)=>mh r (H.set b (.live η (x++ .own (θ H) 0 ty 0::y))++[.buf η ty [] 0 0])
   |none=>ε
  |_=>ε
def AHt(h:Hint)(env:Bb)(H:Aq):Ω (Bb×Aq):=
 match qW h.virt env H with
 |some (e,H1)=>match mh h.virtC H1 with|some H2=>δ (e,H2)|none=>ε
 |none=>ε
def AHg(h:Hint)(n:Nat)(eb:Bb)(H0:Aq)(S:Ψ Nat)(k:Exit->Bb->Aq->Ω R)(o:yp h.exits):Ω R:=
 AJY h.exits o λx sl ds=>
  match XG sl ds eb H0 with
  |some (e,hh)=>match wQ n e&&(nh n hh&&S.all λj=>JV j (L6 sl))with|true=>k x e hh|false=>ε
  |none=>ε
def AFY(h:Hint)(A:Ψ Nat)(run:Sem):Sem:=λenv H k=>
 match AHt h env H with
 |none=>ε
 |some (env0,H0)=>
  match sF env0 with
  |false=>ε
  |true=>(run env0 (Ku (L6 h.slots) 0 H0) λx e1 h1=>ABw h.exits x e1 h1).bind λo=>AHg h (θ H0) (Rb A (L6 h.slots) H0 env0) H0 (L6 h.slots) k o
def ACz(h:Hint)(x:Exit)(env:Bb)(H:Aq):Ω (Step (DL (gL h.slots)) (yp h.exits)):=
 match xF .normal x with
 |true=>match zw h.slots env H with|some s=>δ (.next s)|none=>ε
 |false=>match ABw h.exits x env H with|some o=>δ (.done o)|none=>ε
noncomputable def xU(h:Hint)(A:Ψ Nat)(run:Sem):Sem:=λenv H k=>
 match AHt h env H with
 |none=>ε
 |some (env1,H1)=>
  match Ih (h.kill++oJ env1 H1 h.slots) env1 H1 with
  |(env0,H0)=>
   match sF env0,ZL env0 H0 h.slots with
   |true,δ ds=>
    match ABr (gL h.slots) ds with
    |some s0=>(Ad (λs=>
      match XG h.slots (dvs (gL h.slots) s) (Rb A (L6 h.slots) H0 env0) (Ku (L6 h.slots) 0 H0)with
      |some (e,hh)=>match wQ (θ H0) e&&nh (θ H0) hh with|true=>run e hh λx e1 h1=>ACz h x e1 h1|false=>ε
      |none=>ε) s0).bind λo=>AHg h (θ H0) (Rb A (L6 h.slots) H0 env0) H0 (L6 h.slots) k o
    |none=>ε
   |_,_=>ε
def ACn(c:Operand)(ra rb:Sem):Sem:=λenv H k=>
 match Jo env c with
 |.c (.bl v)=>cond v (ra env H k) (rb env H k)
 |_=>ε
def ABO(id:Nat)(r:Sem):Sem:=λenv H k=>r env H λe env' H'=>
 match e with
 |.exit id'=>match ξ id' id with|true=>k .normal env' H'|false=>k (.exit id') env' H'
 |e=>k e env' H'
def xQ(o:Ω Hint)(A:Ψ Nat)(run:Sem):Sem:=
 match o with
 |some h=>λenv H k=>AFY (h.rel (θ H)) A run env H k
 |none=>run
section
variable {R:Type}
def mv1(t n:Nat)(env:Bb)(H:Aq)(k:Bb->Aq->Ω R):Ω R:=
 match env.get t with
 |.c (.own m ver te _)=>
  match ξ m n with
  |true=>k env H
  |false=>
   match H[n]?,H[m]? with
   |some (.buf η t1 _ n1 v1),δ (.buf η t2 l2 n2 v2)=>
    match ξ ver v2,(Ty.list t1).beq (Ty.list t2)&&(Ty.list te).beq (Ty.list t2)with
    |true,ζ=>bif τ (n1<n2)then k (env.put t (.c (.own n (v1+1) t2 n2))) ((H.set n (.buf η t2 l2 n2 (v1+1))).set m .dead)else ε
    |_,_=>ε
   |_,_=>k env H
 |_=>k env H
def mvs:Ψ PY->Bb->Aq->(Bb->Aq->Ω R)->Ω R
 |[],e,h,k=>k e h
 |.g t n::r,e,h,k=>mv1 t n e h λe h=>mvs r e h k
 |_::r,e,h,k=>mvs r e h k
end
def AFm(ss:Ψ PY)(run:Sem):Sem:=λenv H k=>run env H λx e1 h1=>
 match xF .normal x with
 |true=>mvs ss e1 h1 λe2 h2=>k x e2 h2
 |false=>k x e1 h1
structure AEq where
 main:Sem
 pre:Sem
 suf:Sem
def Qb:Sem:=λ_ _ _=>ε
def AGO(a b:Sem):Sem:=λenv H k=>a env H λe env' H'=>match e with|.normal=>b env' H' k|e=>k e env' H'
noncomputable def AC8(h:Hint)(A:Ψ Nat)(s:AEq):Sem:=λenv H k=>s.pre env H λx e1 h1=>match x with|.normal=>xU h A (AGO s.suf s.pre) e1 h1 k|x=>k x e1 h1
noncomputable def vW(o:Ω Hint)(A:Ψ Nat)(s:AEq):Sem:=
 match o with
 |some h=>λenv H k=>match ξ h.kind 8 with|true=>AC8 (h.rel (θ H)) A s env H k|false=>xU (h.rel (θ H)) A (AFm (h.rel (θ H)).slots s.main) env H k
 |none=>Qb
def jg:Bb->Bb
 |[]=>[]
 |(t,v)::r=>match L4 v.refs with|[]=>(t,v)::jg r|_=>jg r
def AB7(P:Program)(call:TB)(N:Nat)(me:FuncId)(f:Operand)(ps:Array Tmp)(a b:Code):Sem:=λenv H k=>
 match Jo env f with
 |.c (.raw (.fn (.func G) first caps))=>
  match Enters P G with
  |true=>call (.fn G) (first.map tvA++[.c (.raw (.yf (θ H)))]++caps.map tvA) (H++[.lp η me N (jg env) ps a b .ready]) λ_ H'=>
   match H'[θ H]? with
   |some (.lp η _ _ _ _ _ _ .ready)=>k .normal env (H'.set (θ H) .dead)
   |some (.lp η _ _ _ _ _ _ .ret)=>k .ret env (H'.set (θ H) .dead)
   |some (.lp η _ _ _ _ _ _ (.exit x))=>k (.exit x) env (H'.set (θ H) .dead)
   |_=>ε
  |false=>ε
 |_=>ε
noncomputable def gJ(P:Program)(cs:Ψ RJ)(call:TB)(N:Nat)(me:FuncId)(hs:Ψ Hint):Code->AEq
 |.skip=>⟨λenv H k=>k .normal env H,Qb,Qb⟩
 |.ret=>⟨λenv H k=>k .ret env H,Qb,Qb⟩
 |.exit id=>⟨λenv H k=>k (.exit id) env H,Qb,Qb⟩
 |.seq a (.seq m r)=>⟨λenv H k=>
  match pX a m with
  |some p=>AFA P N cs p env H λenv' H'=>(gJ P cs call N me hs r).main env' H' k
  |none=>AGO (gJ P cs call N me hs a).main (gJ P cs call N me hs (.seq m r)).main env H k,
  AGO (gJ P cs call N me hs a).main (gJ P cs call N me hs (.seq m r)).pre,(gJ P cs call N me hs (.seq m r)).suf⟩
 |.seq a b=>⟨xQ (tz hs a b) (Pg hs (.seq a b)) (AGO (gJ P cs call N me hs a).main (gJ P cs call N me hs b).main),(gJ P cs call N me hs a).main,(gJ P cs call N me hs b).main⟩
 |.cond c a b=>⟨xQ (hintOf hs (.cond c a b)) (Pg hs (.cond c a b)) (ACn c (gJ P cs call N me hs a).main (gJ P cs call N me hs b).main),Qb,Qb⟩
 |.block id b=>⟨xQ (hintOf hs (.block id b)) (Pg hs (.block id b)) (ABO id (gJ P cs call N me hs b).main),Qb,Qb⟩
 |.loop b=>⟨vW (hintOf hs (.loop b)) (Pg hs (.loop b)) (gJ P cs call N me hs b),Qb,Qb⟩
 |.region id ops η=>⟨xQ (hintOf hs (.region id ops η)) (Pg hs (.region id ops η)) λenv H k=>
  match Ps N ops.toList with
  |true=>AAu P cs call ops (guards ops) η ops.toList 0 env H λenv' H'=>k .normal env' H'
  |false=>ε,Qb,Qb⟩
 |.region id ops ζ=>⟨λenv H k=>
  match P.follows .mixedOrders&&ADG ops N (AB2 ops)&&XN P ops&&sF env with
  |true=>ACJ P cs call ops (If ops.toList []) (guards ops) (match oC 3 id hs with|some _=>ζ|none=>η) (AB2 ops) [] env H λenv' H'=>k .normal env' H'
  |false=>ε,Qb,Qb⟩
 |.rangeFunc f ps a b=>⟨AB7 P call N me f ps a b,Qb,Qb⟩
 |_=>⟨Qb,Qb,Qb⟩
noncomputable def tc(P:Program)(cs:Ψ RJ)(call:TB)(N:Nat)(me:FuncId)(hs:Ψ Hint)(c:Code):Sem:=(gJ P cs call N me hs c).main
def AH8{g}(j:∀m r,S≠.seq m r)(env:Bb)(H:Aq)(k:Exit→Bb→Aq→Ω R):
  tc P f u N F g (.seq d S) env H k=xQ (tz g d S) (Pg g (.seq d S)) (λenv H k=>tc P f u N F g d env H λe c i=>match e with|.normal=>tc P f u N F g S c i k|e=>k e c i) env H k:=by
 cases S<;>first|rfl|exact O! rfl (j _ _)
def J3(P:Program)(N:Nat)(A:Ψ Nat)(c:Code)(run:Sem):Prop:=∀{R:Type}env H k(r:R),Oc env H->run env H k=δ r->
 ∃e env' H',uC P N c (B5 env) (BC H) (Vj e (B5 env') (BC H'))/\k e env' H'=δ r/\Oc env' H'/\EC A env H env' H'
theorem ADL:∀{l}{env}{H}{a:Bb}{b:Aq},Oc env H→qW l env H=δ (a,b)→
  Oc a b/\EC (l.map (·.1)) env H a b/\∀N,FN N (θ H) (B5 env) (BC H) (B5 a) (BC b)
 |[],env,H,a,b,ok,h=>by grind[qW,EC.refl,FN.refl,CT]
 |(t,ty)::r,env,H,a,b,ok,h=>by
  simp only[qW]at h;split at h;rename_i m;have st:CL H (H++[.buf η ty [] 0 0]):=CL.push H _;have g:(H++[Dp.buf η ty [] 0 0])[θ H]?=δ (.buf η ty [] 0 0):=k!
  have i:Oc (env.put t (.c (.own (θ H) 0 ty 0))) (H++[.buf η ty [] 0 0]):=by refine⟨dM (d:=δ t) (st.env ok.env) (J2 (XL g)),λe f=>?_⟩;rcases Al.1 f with f|f;exact st.ent (ok.heap e f);rw[A7.1 f];rfl
  obtain⟨o,p,q⟩:=ADL i h;refine⟨o,?_,λN=>?_⟩;have s:EC [t] env H (env.put t (.c (.own (θ H) 0 ty 0))) (H++[.buf η ty [] 0 0]):=⟨st,λu n _=>qU λe=>n (by simp[e])⟩
  exact EC.trans ok.env s p;have w:=FN.virt (N:=N) (env:=B5 env) (H:=BC H) (t:=t) (sz:=ty.sz) (by rw[Vh,m];rfl);have j:=(q N).of_le (n0:=θ H) k!;rw[ln]at j;have k:BC (H++[.buf η ty [] 0 0])=BC H++[.live 0 []]:=by simp[BC,Dp.enc,TC.cl]
  rw[k]at j;rw[CT]at w;exact w.trans j;cases h
def sZ:∀{n}{e x y:Ψ Bu},um n e=δ (x,y)->e=x++ .nil::y
 |0,[],_,_,h=>by cases h
 |0,z::r,x,y,h=>by
  cases z<;>simp only[um]at h<;>try (cases h;done)
  injection h with h;injection h with c d;subst c d;rfl
 |n+1,[],_,_,h=>by cases h
 |n+1,z::r,x,y,h=>by simp only[um]at h;split at h;rename_i a b hr;injection h with h;injection h with c d;subst c d;rw[sZ hr];rfl;cases h
theorem AA4{env}:∀{l}{H c:Aq},Oc env H→mh l H=δ c→
  Oc env c/\CL H c/\∀N,FN N (θ H) (B5 env) (BC H) (B5 env) (BC c)
 |[],H,c,ok,h=>by grind[mh,Option.some.injEq,CL.refl,FN.refl,B5,BC,CT]
 |(b,i,ty)::r,H,c,ok,h=>by
  simp only[mh]at h;split at h;rename_i I v;split at h;rename_i x y B;have m:=sZ B;subst m;have D:b<θ H:=q!
  have f:CL H (H++[Dp.buf η ty [] 0 0]):=CL.push H _;have a:H.set b (Dp.live η (x++Bu.own (θ H) 0 ty 0::y))++[Dp.buf η ty [] 0 0]=(H++[Dp.buf η ty [] 0 0]).set b (Dp.live η (x++Bu.own (θ H) 0 ty 0::y)):=q!
  have j:(H++[Dp.buf η ty [] 0 0])[b]?=δ (Dp.live η (x++Bu.nil::y)):=q!
  have g:CL (H++[Dp.buf η ty [] 0 0]) ((H++[Dp.buf η ty [] 0 0]).set b (Dp.live η (x++Bu.own (θ H) 0 ty 0::y))):=CL.set j rfl λ_ _ _ _ _ e=>by cases e
  have n:(H++[Dp.buf η ty [] 0 0])[θ H]?=δ (.buf η ty [] 0 0):=k!
  have t:lok H (x++Bu.nil::y):=ok.heap _ (BQ v);have s:∀e∈H++[Dp.buf η ty [] 0 0],e.ok (H++[Dp.buf η ty [] 0 0]):=λe d=>by rcases Al.1 d with d|d;exact f.ent (ok.heap e d);rw[A7.1 d];rfl
  have u:lok (H++[Dp.buf η ty [] 0 0]) (x++Bu.own (θ H) 0 ty 0::y):=by have q:=JU.1 (f.lok t);refine JU.2 ⟨q.1,λz o=>?_⟩;rcases A3.1 o with rfl|o;exact XL n;exact q.2 z (CQ _ o)
  rw[a]at h;have p:Oc env ((H++[Dp.buf η ty [] 0 0]).set b (Dp.live η (x++Bu.own (θ H) 0 ty 0::y))):=⟨g.env (f.env ok.env),heap_set g s (g.lok u)⟩
  obtain⟨E,F,G⟩:=AA4 p h;refine⟨E,(f.trans g).trans F,λN=>?_⟩;have k:(BC H)[b]?=δ (.live 0 (lvs (x++Bu.nil::y))):=by rw[D5,v];rfl
  have C:(lvs (x++Bu.nil::y))[(lvs x).length]?=δ .nils:=by grind[Gz,Hr,Bu.enc]
  have w:=FN.virtC (N:=N) (env:=B5 env) (sz:=ty.sz) k C;have A:BC ((H++[Dp.buf η ty [] 0 0]).set b (Dp.live η (x++Bu.own (θ H) 0 ty 0::y)))=(BC H).set b (.live 0 ((lvs (x++Bu.nil::y)).set (lvs x).length (.sl (BC H).length 0 ty.sz 0 0)))++[.live 0 []]:=by
   rw[<-a];have:(lvs (x++Bu.nil::y)).set (lvs x).length (.sl (BC H).length 0 ty.sz 0 0)=lvs (x++Bu.own (θ H) 0 ty 0::y):=by grind[Gz,Hr,CT,Bu.enc]
   grind[BC,Dp.enc,TC.cl,List.map_set]
  rw[<-A,CT]at w;exact w.trans ((G N).of_le k!);cases h;cases h
theorem ADC(ok:Oc e c)(b:AHt A e c=δ (L,D)):
  Oc L D/\EC (A.virt.map (·.1)) e c L D/\∀N,FN N (θ c) (B5 e) (BC c) (B5 L) (BC D):=by
 unfold AHt at b;split at b;rename_i h d n;obtain⟨a1,a2,a3⟩:=ADL ok n;split at b;rename_i f m;injection b with b;injection b with k l;subst k l;obtain⟨g,i,j⟩:=AA4 a1 m;have o:EC [] h d h f:=⟨i,λ_ _ _=>rfl⟩
 exact⟨g,(EC.trans ok.env a2 o).mono λt p=>q!,λN=>(a3 N).trans ((j N).of_le a2.step.len)⟩;cases b;cases b
theorem ww{A S}{H}:∀{env:Bb},(env.map (·.1)).Nodup->∀t,env.get t=WL->(Rb A S H env).get t=WL
 |[],_,_,_=>rfl
 |(u,v)::r,nd,t,h=>by have a:=Gv.1 nd;simp only[Bb.get]at h;by_cases b:u=t;subst b;have hn:∀p∈Rb A S H r,p.1≠u:=λp c e=>a.1 (Bo.2 ⟨p,(R9 a.2 p c).2.2,e⟩);grind[Rb,Bb.get,oF];rw[beq_false b]at h;have d:=ww (A:=A) (S:=S) (H:=H) a.2 t h;grind[Rb,Bb.get,beq_false]
theorem ACs{h:Hint}{A B:Ψ Nat}{env0:Bb}{e:Aq}{D:Bb}{E:Aq}(m:Oc env0 e)(nd:(env0.map (·.1)).Nodup)(M:ABB A (L6 h.slots) env0 e D E)
  {env1:Bb}{u:Aq} (C:Oc env1 u) (st:EC B D E env1 u) (K:∀t,t∈B->t∈A) (J:∀t,t∈h.tmps->t∈A) {x:Exit}{o:yp h.exits} (Q:ABw h.exits x env1 u=δ o)
  {R:Type}{k:Exit->Bb->Aq->Ω R}{r:R} (f:AHg h (θ e) (Rb A (L6 h.slots) e env0) e (L6 h.slots) k o=δ r) (N:Nat):
  ∃g i,FN N (θ e) (B5 env1) (BC u) (B5 g) (BC i)/\k x g i=δ r/\Oc g i/\EC A env0 e g i:=by
 obtain⟨rfl,L,p,S,y⟩:=xi Q;have f:=xh f;split at f;rename_i g i O;split at f;rename_i v;simp at v;have sub:∀j,JV j (L6 (yq h.exits o).2.1)=η->JV j (L6 h.slots)=η:=λj d=>XI λG=>q!
 obtain⟨w,W,Y,z⟩:=ACd m nd M C st K L m.heap rfl (AFc e) (λ_ _ _ _ q=>q) (λj H d c=>by
  cases H with
  |dead=>grind
  |live b V=>exact .inr ⟨_,sub j d,by rw[JT,c,DQ,sub j d];rfl,rfl,.inr (.inl ⟨_,_,_,_,rfl,rfl,Dj.refl _⟩)⟩
  |buf b t l n U=>exact .inr ⟨_,sub j d,by rw[JT,c,DQ,sub j d];rfl,rfl,.inr (.inr (.inl ⟨_,_,_,_,_,_,_,rfl,rfl⟩))⟩
  |mp b k t X=>exact .inr ⟨_,sub j d,by rw[JT,c,DQ,sub j d];rfl,rfl,.inr (.inr (.inr (.inr ⟨_,_,_,_,_,rfl,rfl⟩)))⟩
  |lp ro F n env Z a b s=>exact .inr ⟨_,sub j d,by rw[JT,c,DQ,sub j d];rfl,rfl,.inr (.inr (.inr (.inl ⟨_,_,_,_,_,_,_,_,_,rfl,rfl⟩)))⟩) O v.1 v.2.1 N
 refine⟨g,i,w,f,z.ok,z.step,λt T P=>?_⟩;have I:=XI λG=>T (J t (by refine Al.2 (.inr (Gu.2 ⟨p,S,?_⟩));rw[<-y];exact G));rw[z.get t I];grind[zh,WL,ww,my,AFa,XI];cases f;cases f
def oE:Code->Code
 |.seq _ (.seq m r)=>oE (.seq m r)
 |.seq _ b=>b
 |c=>c
section
variable {P:Program}{N:Nat}{env:Env}{H:As}{Q:Exit->Env->As->Prop}{X:Nat->Prop}{h:Gh}{a:Act}{w:World}
def bL(P:Program)(N:Nat):Code->Env->As->(Exit->Env->As->Prop)->Prop
 |.seq a (.seq m r),env,H,Q=>J0 P N a env H (gO (λe h=>bL P N (.seq m r) e h Q) Q)
 |.seq a _,env,H,Q=>J0 P N a env H Q
 |_,_,_,_=>False
def bL.mono{i:Exit->Env->As->Prop}(l:∀e d g,Q e d g->i e d g):∀{c}{env}{H},bL P N c env H Q->bL P N c env H i:=by
 intro c;induction c with
 |seq a b _ f=>
  intro env H h;by_cases j:∃m r,b=.seq m r;obtain⟨m,r,rfl⟩:=j;refine J0.mono (show J0 P N a env H _ from h) λe E h k=>?_;cases e with
  |normal=>exact f k
  |_=>exact l _ _ _ k
  have e:∀Q,bL P N (.seq a b) env H Q=J0 P N a env H Q:=λQ=>by cases b<;>first|rfl|exact O! ⟨_,_,rfl⟩ j
  rw[e]at h⊢;exact J0.mono h l
 |_=>intro env H h;exact h.elim
def bL.run:∀{c}{env}{H}{h}{a}{w},bL P N c env H Q→St X h N env H a w→aj M w→
  (∀e g d i b f,Q e b f->St X i N b f g d->G3 h H w i f d->Wr a w g d->Exit.then (λa w=>(oE c).wpIn (FR M) 0 P B a w) B e g d)->c.wpIn (FR M) 0 P B a w:=by
 intro c;induction c with
 |seq x y _ u=>
  intro env H h a w p s k o;by_cases t:∃m M,y=.seq m M;obtain⟨m,y,rfl⟩:=t;refine wpIn_seq (wpIn_mono ((show J0 P N x env H _ from p) M X h a w s k) ?_);rintro e g d ⟨i,b,f,q,l,j,n⟩;cases e with
  |normal=>exact u q l (k.later j) λe a2 G D env2 z E F v A=>o e a2 G D env2 z E F (j.trans v) (n.trans l.sim j v A)
  |_=>exact o _ g d i b f q l j n
  have r:bL P N (.seq x y) env H Q=J0 P N x env H Q:=by cases y<;>first|rfl|exact O! ⟨_,_,rfl⟩ t
  have C:oE (.seq x y)=y:=by cases y<;>first|rfl|exact O! ⟨_,_,rfl⟩ t
  rw[r]at p;rw[C]at o;refine wpIn_seq (wpIn_mono (p M X h a w s k) ?_);rintro e g d ⟨i,b,f,q,l,j,n⟩;exact o e g d i b f q l j n
 |_=>intro env H h a w p;exact p.elim
def lB(P:Program)(N:Nat)(c:Code)(env:Env)(H:As)(Q:Exit->Env->As->Prop):Prop:=
 ∀r X h a w(K:Exit->Act->World->Prop),St X h N env H a w->aj r w->
  (∀e a' w' h' env' H',Q e env' H'->St X h' N env' H' a' w'->G3 h H w h' H' w'->Wr a w a' w'->K e a' w')->
  (oE c).wpIn (FR r) 0 P (Exit.then (λa w=>mT (FR r) 0 P c K a w) K) a w
def bL.loop(hn:θ H=n)(p:bL P N d env H (gO (λenv2 l=>∃c m,FN N n env2 l c m∧lB P N d c m Q) Q))(s:St X h N env H a w)(k:aj M w)
  (v:∀e i f j b g,Q e b g->St X j N b g i f->G3 h H w j g f->Wr a w i f->B e i f):mT (FR M) 0 P d B a w:=by
 refine dK (bL.run p s k λe a2 y u env2 l q z C t=>?_);cases e with
 |normal=>obtain⟨c,m,x,G⟩:=q;obtain⟨E,A,F,I⟩:=x.2 X u a2 y z;have o:=FN.ext hn x.1 F I C;exact G M X E a2 y B A (k.later o) λe i f j b g J L r D=>v e i f j b g J L (o.trans r) (t.trans A.sim o r D)
 |_=>exact v _ a2 y u env2 l q z C t
def fG(p:bL P N d env H (gO (λenv2 i=>∃b f,FN N (θ H) env2 i b f/\lB P N d b f Q) Q)):Hy P N d env H Q:=λr X g a w s k=>bL.loop rfl p s k λe o t l c h q m n j=>⟨l,c,h,q,m,n,j⟩
def lB.unroll(p:J0 P N (oE d) env H (gO (λenv1 j=>bL P N d env1 j (gO (λenv2 l=>∃b m,FN N (θ H) env2 l b m/\lB P N d b m Q) Q)) Q)):lB P N d env H Q:=by
 intro r X g a w K s k n;apply wpIn_mono (p r X g a w s k);rintro e a1 V ⟨J,env1,j,q,o,i,v⟩;cases e with
 |normal=>
  refine dK (bL.run q o (k.later i) λe a2 t x env2 l q z C G=>?_);have h:=i.trans C;have c:=v.trans o.sim i C G;cases e with
  |normal=>obtain⟨b,m,y,O⟩:=q;obtain⟨L,A,M,R⟩:=y.2 X x a2 t z;have u:=FN.ext rfl y.1 M R h;exact O r X L a2 t K A (k.later u) λe E U I f D S T B F=>n e E U I f D S T (u.trans B) (c.trans A.sim u B F)
  |_=>exact n _ a2 t x env2 l q z h c
 |_=>exact n _ a1 V J env1 j q o i v
def lB.after(p:lB P N d env H (λe b f=>∃env2 c,FN N (θ H) b f env2 c/\Q e env2 c)):lB P N d env H Q:=by intro r X g a w K s k o;refine p r X g a w K s k λe h j m b f ⟨env2,c,i,q⟩ v y l=>?_;obtain⟨n,x,t,u⟩:=i.2 X m h j v;exact o e h j n env2 c q x (FN.ext rfl i.1 t u y) l
end
variable {P:Program}{N:Nat}
variable {j:Sem}{Z:AEq}
theorem AAU{h:Hint}(hr:J3 P N E d j)(n:∀t,t∈E->t∈b)(m:∀t,t∈h.tmps->t∈b):J3 P N b d (AFY h b j):=by
 intro R env H k r ok a;unfold AFY at a;dsimp only at a;split at a;cases a;rename_i env0 f v;split at a;cases a;rename_i hn;obtain⟨o,s,a⟩:=bnd a;obtain⟨B,C,D⟩:=ADC ok v;have nd:=bH hn;obtain⟨e,env1,c,a1,k1,g,i⟩:=hr env0 (Ku (L6 h.slots) 0 f) _ o (mS B) s;have q:ABB b (L6 h.slots) env0 f env0 (Ku (L6 h.slots) 0 f):=⟨mS B,CL.refl _,Ic _ _,λ_ _=>rfl,λp u=>(R9 nd p u).1⟩
 obtain⟨A,l,w,x,y,z⟩:=ACs B nd q g i n m k1 a N;refine⟨e,A,l,?_,x,y,?_⟩;rw[rp]at a1;refine uC.weak (by rw[CT];exact D N) (uC.after (a1.mono ?_));rintro _ _ _ ⟨rfl,rfl,rfl⟩;exact⟨_,_,by rw[CT];exact w,rfl,rfl,rfl⟩;exact(EC.trans ok.env C z).mono λt F=>by grind[Hint.tmps]
def AIO(L0:Env->As->(Exit->Env->As->Prop)->Prop)(A:Ψ Nat)(run:Sem):Prop:=∀{R:Type}env H k(r:R),Oc env H->run env H k=δ r->
 ∃e env' H',L0 (B5 env) (BC H) (Vj e (B5 env') (BC H'))/\k e env' H'=δ r/\Oc env' H'/\EC A env H env' H'
theorem AAb{L0 L:Env→As→(Exit→Env→As→Prop)→Prop}(V:∀{env}{H}{Q Q':Exit→Env→As→Prop},(∀e f U,Q e f U→Q' e f U)→L0 env H Q→L0 env H Q')
  (hu:∀{env}{H}{Q},L0 env H (gO (λf U=>∃env2 J,FN N (θ H) f U env2 J/\L env2 J Q) Q)->L env H Q)
  (ha:∀{env:Env}{H}{Q:Exit->Env->As->Prop},L env H (λe f U=>∃env2 J,FN N (θ H) f U env2 J/\Q e env2 J)->L env H Q)
  {A B:Ψ Nat}{h:Hint}{run:Sem} (hr:AIO L0 B run) (hB:∀t,t∈B->t∈A) (hA:∀t,t∈h.tmps->t∈A) {R:Type} (env:Bb) (H:Aq) (k:Exit->Bb->Aq->Ω R) (r:R) (ok:Oc env H) (m:xU h A run env H k=δ r):
  ∃i g x u v,FN N (θ H) (B5 env) (BC H) (B5 i) (BC g)/\L (B5 i) (BC g) (Vj x (B5 u) (BC v))/\k x u v=δ r/\Oc u v/\EC A env H u v:=by
 unfold xU at m;dsimp only at m;split at m;cases m
 ·rename_i G Hv hv;obtain⟨a',sv,wv⟩:=ADC ok hv;obtain⟨y,sf,wf⟩:=SH (h.kill++oJ G Hv h.slots) a';generalize Ih (h.kill++oJ G Hv h.slots) G Hv=fz at m y sf wf;obtain⟨env0,d⟩:=fz;simp only at m y sf wf;split at m
  ·rename_i ds hn hc;split at m
   ·rename_i s0 a6;obtain⟨o,ho,m⟩:=bnd m;have nd:=bH hn;have z:∀e∈Ku (L6 h.slots) 0 d,e.ok (Ku (L6 h.slots) 0 d):=(mS y).heap;have hC:=ABl (C:=λs o=>∀r,AHg h (θ d) (Rb A (L6 h.slots) d env0) d (L6 h.slots) k o=δ r->
     ∃i g,XG h.slots (dvs (gL h.slots) s) (Rb A (L6 h.slots) d env0) (Ku (L6 h.slots) 0 d)=δ (i,g)/\wQ (θ d) i=ζ/\nh (θ d) g=ζ/\(ABB A (L6 h.slots) env0 d i g->∃x u v,L (B5 i) (BC g) (Vj x (B5 u) (BC v))/\k x u v=δ r/\Oc u v/\EC A env0 d u v)) (λs q Y=>by
     split at Y
     ·rename_i i g hi;split at Y
      ·rename_i I;simp only[BS]at I;have body:∀D:ABB A (L6 h.slots) env0 d i g,∃e env1 K,L0 (B5 i) (BC g) (Vj e (B5 env1) (BC K))/\ACz h e env1 K=δ q/\Oc env1 K/\EC B i g env1 K:=λD=>hr i g _ q D.ok Y;cases q with
       |next s'=>
        intro o ih r m;obtain⟨ad,ao,i1,i2,i3,i4⟩:=ih r m;refine⟨i,g,hi,I.1,I.2,λD=>?_⟩;obtain⟨e,env1,K,a1,k1,S,T⟩:=body D;unfold ACz at k1;split at k1;rename_i hx;have:=uv hx;subst this;split at k1;rename_i s1 a7;injection k1 with k1;injection k1 with k1;subst k1;have a0:=oh a7;obtain⟨w,ea,ha,E⟩:=ACd (Hx:=Ku (L6 h.slots) 0 d) y nd D S T hB a0 z (Ic _ _) (.refl _) (λ_ _ _ _ q=>ox q) (λj e' O c=>by
         cases hH:d[j]? with
         |none=>grind[JT]
         |some Z=>
          have hl:=c;rw[JT,hH,DQ,O]at c;simp only[Br,Ap]at c;subst c;cases Z with
          |dead=>exact .inl rfl
          |live b cs=>exact .inr ⟨_,O,hl,rfl,.inr (.inl ⟨_,_,_,_,rfl,rfl,Dj.refl _⟩)⟩
          |buf b t l n bb=>exact .inr ⟨_,O,hl,rfl,.inr (.inr (.inl ⟨_,_,_,_,_,_,_,rfl,rfl⟩))⟩
          |mp b k t es=>exact .inr ⟨_,O,hl,rfl,.inr (.inr (.inr (.inr ⟨_,_,_,_,_,rfl,rfl⟩)))⟩
          |lp ro F n env ps a b s=>exact .inr ⟨_,O,hl,rfl,.inr (.inr (.inr (.inl ⟨_,_,_,_,_,_,_,_,_,rfl,rfl⟩)))⟩) i1 i2 i3 N
        have a2:ABB A (L6 h.slots) env0 d ad ao:=⟨E.ok,E.step,by rw[E.len,Ic],E.same,λp P=>by
         obtain⟨X,b2,b3⟩:=R9 nd p P;have M:JV p.1 A=η:=by grind[kA,JV]
         rw[E.get p.1 (XI λV=>VG M (hA _ (by unfold Hint.tmps;simp only[List.mem_append];exact .inl (.inr V))))];rw[my nd p.1 (by rw[X];exact b2)];exact X⟩
        obtain⟨x,u,v,l1,l2,l3,l4⟩:=i4 a2;refine⟨x,u,v,hu (V ?_ a1),l2,l3,l4⟩;rintro _ _ _ ⟨rfl,rfl,rfl⟩;exact⟨_,_,by rw[CT,D.len];exact w,l1⟩;cases k1;split at k1<;>grind
       |done o=>
        intro r m;refine⟨i,g,hi,I.1,I.2,λD=>?_⟩;obtain⟨e,env1,K,a1,k1,S,T⟩:=body D;unfold ACz at k1;split at k1;split at k1<;>grind;rename_i hx;split at k1;rename_i o1 a5;injection k1 with k1;injection k1 with k1;subst k1;obtain⟨u,v,w,q1,q2,q3⟩:=ACs y nd D S T hB hA a5 m N;have a4:e≠.normal:=by rintro rfl;cases hx
        refine⟨e,u,v,ha (hu (V ?_ a1)),q1,q2,q3⟩;intro e1 ag bl a8;obtain⟨ap,ar,ax⟩:=a8;subst ap ar ax;have al:∃env2 J,FN N (BC g).length (B5 env1) (BC K) env2 J/\Vj e1 (B5 u) (BC v) e1 env2 J:=⟨_,_,by rw[CT,D.len];exact w,rfl,rfl,rfl⟩
        cases e1 with
        |normal=>exact(a4 rfl).elim
        |_=>exact al
        cases k1
      cases Y
     cases Y) ho
    obtain⟨i,g,i1,i2,i3,i4⟩:=hC r m;have a3:=sE a6;rw[a3]at i1;have a9:Oc (Rb A (L6 h.slots) d env0) (Ku (L6 h.slots) 0 d):=⟨λp P=>(mS y).env p (R9 nd p P).2.2,z⟩
    have E:=NC y hc i1 a9 (by rw[Ic];exact Am _) (λp P=>⟨p.2,(R9 nd p P).2.2,Xu.refl _⟩) (λj e' O c=>by
     rw[JT]at c;cases hH:d[j]? with
     |none=>rw[hH]at c;cases c
     |some Z=>
      rw[hH,DQ,O]at c;simp only[Br,Ap]at c;subst c;refine⟨Z,rfl,?_⟩;cases Z with
      |dead=>exact .inl rfl
      |live b cs=>exact .inr (.inl ⟨_,_,_,_,rfl,rfl,Dj.refl _⟩)
      |buf b t l n bb=>exact .inr (.inr (.inl ⟨_,_,_,_,_,_,_,rfl,rfl⟩))
      |mp b k t es=>exact .inr (.inr (.inr (.inr ⟨_,_,_,_,_,rfl,rfl⟩)))
      |lp ro F n env ps a b s=>exact .inr (.inr (.inr (.inl ⟨_,_,_,_,_,_,_,_,_,rfl,rfl⟩)))) (AHa d)
    have w:=E.weak (N:=N) (by rw[Ic];exact Am _) (by rw[Ic];exact i2) (by rw[Ic];exact i3);rw[Ic]at w;have D:ABB A (L6 h.slots) env0 d i g:=⟨E.ok,E.step,by rw[E.len,Ic],E.same,λp P=>by
     obtain⟨X,b2,b3⟩:=R9 nd p P;have M:JV p.1 A=η:=by grind[kA,JV]
     rw[E.get p.1 (XI λV=>VG M (hA _ (by unfold Hint.tmps;simp only[List.mem_append];exact .inl (.inr V))))];rw[my nd p.1 (by rw[X];exact b2)];exact X⟩
    obtain⟨x,u,v,l1,l2,l3,l4⟩:=i4 D;have w3:FN N (θ H) (B5 env) (BC H) (B5 i) (BC g):=((wv N).trans ((wf N).of_le (by rw[CT];exact sv.step.len))).trans (w.of_le (Cs sv.step.len sf.step.len));refine⟨_,_,x,u,v,w3,l1,l2,l3,?_⟩;exact(EC.trans ok.env (EC.trans ok.env sv sf) l4).mono λt W=>by rcases Al.1 W with W|W;rw[D1]at W;exact hA t (by unfold Hint.tmps;simp only[List.mem_append];exact .inl (.inl (.inr W)));exact W
   cases m
  cases m
def AFd(hr:J3 P N E d j)(m:∀t,t∈E->t∈b)(l:∀t,t∈A.tmps->t∈b):J3 P N b (.loop d) (xU A b j):=by
 intro R env H k r ok f;obtain⟨s,u,x,i,B,w,l1,l2,o,p⟩:=AAb (N:=N) (L0:=λenv H Q=>J0 P N d env H Q) (L:=λenv H Q=>Hy P N d env H Q) (λn a=>a.mono n) (Hy.unroll ·) (Hy.after ·)
  (λenv H k r ok f=>by obtain⟨e,c,g,a,q⟩:=hr env H k r ok f;exact⟨e,c,g,a.awp,q⟩) m l env H k r ok f
 exact⟨x,i,B,uC.weak (by rw[CT];exact w) l1,l2,o,p⟩
def ACZ(P:Program)(N:Nat)(A:Ψ Nat)(c:Code)(run:Sem):Prop:=AIO (bL P N c) A run
def AFf(n:ACZ P N E d Z.pre)(y:J3 P N E (oE d) Z.suf)(i:∀t,t∈E->t∈b)(v:∀t,t∈A.tmps->t∈b):J3 P N b (.loop d) (AC8 A b Z):=by
 intro R env H k r ok g;unfold AC8 at g;obtain⟨e,env1,f,a1,k1,h,c⟩:=n env H _ r ok g;cases e with
 |normal=>
  obtain⟨m,I,x,q,u,w,l1,l2,D,F⟩:=AAb (N:=N) (L0:=λenv H Q=>J0 P N (oE d) env H (gO (λe A=>bL P N d e A Q) Q)) (L:=λenv H Q=>lB P N d env H Q)
   (λo a=>a.mono λe B A z=>by
    cases e with
    |normal=>exact bL.mono o z
    |_=>exact o _ _ _ z) (λ{env H Q} a=>lB.unroll (a.mono λe B A z=>by
    cases e<;>exact z)) (lB.after ·)
   (B:=E) (run:=AGO Z.suf Z.pre) (λenv H k r ok g=>by
    obtain⟨e,env1,f,a1,k1,h,c⟩:=y env H _ r ok g;cases e with
    |normal=>obtain⟨m,env2,p,a2,C,l,G⟩:=n env1 f k r h k1;refine⟨m,env2,p,a1.awp.mono ?_,C,l,(EC.trans ok.env c G).mono λt j=>(Al.1 j).elim id id⟩;rintro _ _ _ ⟨rfl,rfl,rfl⟩;exact a2
    |_=>refine⟨_,env1,f,a1.awp.mono ?_,k1,h,c⟩;rintro _ _ _ ⟨rfl,rfl,rfl⟩;exact⟨rfl,rfl,rfl⟩) i v env1 f k r h k1
  refine⟨x,q,u,fG (bL.mono ?_ a1),l2,D,(EC.trans ok.env c F).mono λt j=>(Al.1 j).elim (i t) id⟩;rintro _ _ _ ⟨rfl,rfl,rfl⟩;exact⟨_,_,w.of_le (by rw[CT];exact c.step.len),l1⟩
 |_=>refine⟨_,env1,f,fG (bL.mono ?_ a1),k1,h,c.mono i⟩;rintro _ _ _ ⟨rfl,rfl,rfl⟩;exact⟨rfl,rfl,rfl⟩
def AFD{A B}{n}(o:J3 P N A d j)(p:J3 P N B S n):J3 P N (A++B) (.cond z d S) (ACn z j n):=by
 intro R env H k r ok f;unfold ACn at f;dsimp only at f;split at f;rename_i v q;have m:BN (B5 env) z=.bool v:=by have:=MA env z;rw[q]at this;exact this
 cases v with
 |true=>obtain⟨e,a,g,a1,i,c,l⟩:=o env H k r ok f;exact⟨e,a,g,D9 (λ_ e=>by cases e) (J0.cond m (λ_=>a1.awp) (λe=>by cases e)),i,c,l.mono λt h=>Al.2 (.inl h)⟩
 |false=>obtain⟨e,a,g,a1,i,c,l⟩:=p env H k r ok f;exact⟨e,a,g,D9 (λ_ e=>by cases e) (J0.cond m (λe=>by cases e) (λ_=>a1.awp)),i,c,l.mono λt h=>Al.2 (.inr h)⟩
 cases f
def ADb{A}(hr:J3 P N A d j):J3 P N A (.block n d) (ABO n j):=by
 intro R env H k r ok m;obtain⟨e,a,g,a1,f,i,b⟩:=hr env H _ r ok m;cases e with
 |exit c=>
  simp only at f;split at f;rename_i l;have:=DA l;refine⟨.normal,a,g,D9 (λ_ e=>by cases e) (J0.block (a1.awp.mono ?_)),f,i,b⟩;rintro _ _ _ ⟨rfl,rfl,rfl⟩;simp only[rA,C! this];exact⟨rfl,rfl,rfl⟩;rename_i l;have h:c≠n:=λe=>t!
  refine⟨.exit c,a,g,D9 (λ_ e=>by cases e) (J0.block (a1.awp.mono ?_)),f,i,b⟩;rintro _ _ _ ⟨rfl,rfl,rfl⟩;simp only[rA,D! h];exact⟨rfl,rfl,rfl⟩
 |_=>refine⟨_,a,g,D9 (λ_ e=>by cases e) (J0.block (a1.awp.mono ?_)),f,i,b⟩;rintro _ _ _ ⟨rfl,rfl,rfl⟩;exact⟨rfl,rfl,rfl⟩
end Go.Ab
namespace Go.Ab
variable {N n G:Nat}{R K:Type}{b E:Ψ Nat}{c D:Aq}{d S:Code}{e L Y:Bb}{f:Ψ RJ}{F:FuncId}{P:Program}{j:Sem}{k:Bool}{l:AZ}{p:Ψ TV}{q:Ψ PY}{s:Ψ AZ}{u:TB}{x:Ty}{y:Env}{z:Operand}{C:Int}{J:Exit}{O:Y2}{T:Value}{V:Func}{Z:AEq}
section
variable {P:Program}{N:Nat}{env:Env}{H:As}{Q:Exit->Env->As->Prop}{X:Nat->Prop}{h:Gh}{w:World}
def Gst(N:Nat)(env:Env)(H:As)(env2:Env)(H2:As):Prop:=
 ∀X h a w,St X h N env H a w->∃h2,St X h2 N env2 H2 a w/\G3 h H w h2 H2 w
def J0.afterG(h:J0 P N d env H (λe b f=>∃env2 c,Gst N b f env2 c/\Q e env2 c)):J0 P N d env H Q:=by intro r X g a w s k;apply wpIn_mono (h r X g a w s k);rintro e i t ⟨l,b,f,⟨env2,c,n,q⟩,o,u,j⟩;obtain⟨m,p,v⟩:=n X l i t o;exact⟨m,env2,c,q,p,u.trans v,j⟩
def Hy.afterG(h:Hy P N d env H (λe b f=>∃env2 c,Gst N b f env2 c/\Q e env2 c)):Hy P N d env H Q:=by intro r X g a w s k;apply Xi (h r X g a w s k);rintro e i t ⟨l,b,f,⟨env2,c,n,q⟩,o,u,j⟩;obtain⟨m,p,v⟩:=n X l i t o;exact⟨m,env2,c,q,p,u.trans v,j⟩
def uC.afterG(h:uC P N d env H (λe a c=>∃env2 b,Gst N a c env2 b/\Q e env2 b)):uC P N d env H Q:=by
 cases d with
 |loop x=>exact Hy.afterG h
 |_=>exact J0.afterG h
def mvH(H:As)(n m:Nat)(e:FO):As:=(H.set n e).set m .dead
def jf{e f:FO}(g:n≠N)(hn:n<θ H)(a:(mvH H n N f)[G]?=δ e)(d:e≠.dead):(G=n/\e=f)\/(G≠n/\G≠N/\H[G]?=δ e):=by unfold mvH at a;by_cases b:G=N;subst b;rw[Yv]at a;rw[C! rfl]at a;split at a;injection a with a;exact O! a.symm d;cases a;rw[DT (b ·.symm)]at a;by_cases c:G=n;subst c;rw[GY hn]at a;injection a with a;exact .inl ⟨rfl,a.symm⟩;rw[DT (c ·.symm)]at a;exact .inr ⟨c,b,a⟩
def G3.mv{n m gn b:Nat}{cn d:Ψ AZ}(s:Ig X h H w)(hn:H[n]?=δ (.live gn cn))(j:H[m]?=δ (.live b d))(f:n≠m)(v:gn<b):G3 h H w (h.at_ n (h.io m) (h.gen m) (h.cap m)) (mvH H n m (.live b d)) w:=by have i:h.gen n=gn:=(s.live n gn cn hn).1;have g:h.gen m=b:=(s.live m b d j).1;have p:n<θ H:=(F8.1 hn).1;refine⟨rfl,rfl,rfl,Am _,λ_ _ _=>rfl,by simp[mvH],λid _=>?_,λid _ e=>?_,λB t=>?_,λ_ r hr=>⟨r,hr⟩⟩;simp only[Gh.at_];split;rename_i q;rw[q,i,g];omega;exact Am _;simp only[Gh.at_]at e⊢;split at e;rename_i q;rw[q,i,g]at e;omega;rename_i q;simp[q];obtain⟨id,e,o,c,a⟩:=t;rcases jf f p o c with⟨rfl,rfl⟩|⟨k,u,l⟩;simp only[Gh.at_,if_true]at a;exact .inl ⟨m,_,j,k!,a⟩;simp only[Gh.at_,D! k]at a;exact .inl ⟨id,e,l,c,a⟩
theorem Ig.mv{n m gn R:Nat}{cn cm:List AZ}(s:Ig X h H w)(hn:H[n]? =some (.live gn cn))(O:H[m]? =some (.live R cm))(d:n≠m)(hg:gn<R):Ig X (h.at_ n (h.io m) (h.gen m) (h.cap m)) (mvH H n m (.live R cm)) w:=by
 have hx:=G3.mv s hn O d hg;have E:=hx.later X;have F:n<H.length:=(F8.1 hn).1;refine⟨λB V=>⟨(s.out B V).1,λho=>?_⟩,λid g cs A=>?_,λid L A=>?_,λid M e e' B A K D i o c=>?_,λid e A W=>?_⟩
 ·rcases hx.fresh B ho with q|q
  ·exact(s.out B V).2 q
  ·have:=(s.out B V).1;omega
 ·rcases jf d F A (by simp)with⟨rfl,q⟩|⟨l,N,y⟩
  ·injection q with P q2;subst P q2;obtain⟨a,b⟩:=s.live m g cs O;refine⟨by simp[cx,Gh.at_];exact a,?_⟩;rcases b with⟨p,u⟩|⟨B,z,T,Q,f,p,u,G,I,J,x⟩
   ·exact .inl ⟨by simp only[cx,Gh.at_,if_true];exact p,u⟩
   ·exact .inr ⟨B,z,T,Q,f,by simp only[cx,Gh.at_,if_true];exact p,u,by simp only[cx,Gh.at_,if_true];exact G,I,J,λj v C=>⟨(x j v C).1,(x j v C).2.1,(x j v C).2.2.later E⟩⟩
  ·obtain⟨a,b⟩:=s.live id g cs y;refine⟨by simp only[cx,Gh.at_,if_neg l];exact a,?_⟩;rcases b with⟨p,u⟩|⟨B,z,T,Q,f,p,u,G,I,J,x⟩
   ·exact .inl ⟨by simp only[cx,Gh.at_,if_neg l];exact p,u⟩
   ·exact .inr ⟨B,z,T,Q,f,by simp only[cx,Gh.at_,if_neg l];exact p,u,by simp only[cx,Gh.at_,if_neg l];exact G,I,J,λj v C=>⟨(x j v C).1,(x j v C).2.1,(x j v C).2.2.later E⟩⟩
 ·rcases jf d F A (by simp)with⟨rfl,q⟩|⟨l,N,y⟩
  ·cases q
  ·obtain⟨a,B,r,p,u,G,I,J,x,b7,b8,Z⟩:=s.lp id L y;exact⟨by simp only[cx,Gh.at_,if_neg l];exact a,B,r,by simp only[cx,Gh.at_,if_neg l];exact p,u,G,I,J,x,b7,b8,λt v hv=>⟨(Z t v hv).1,(Z t v hv).2.later E⟩⟩
 ·rcases jf d F A D with⟨P,q2⟩|⟨l,N,y⟩
  ·rcases jf d F K i with⟨Y,q4⟩|⟨S,h5,U⟩
   ·rw[P,Y]
   ·subst P;simp only[Gh.at_,if_true]at o;simp only[Gh.at_,if_neg S]at c;exact absurd (s.inj m M _ _ B O U (by simp) i o c).symm h5
  ·rcases jf d F K i with⟨Y,q4⟩|⟨S,h5,U⟩
   ·subst Y;simp only[Gh.at_,if_true]at c;simp only[Gh.at_,if_neg l]at o;exact absurd (s.inj id m _ _ B y O D (by simp) o c) N
   ·simp only[Gh.at_,if_neg l]at o;simp only[Gh.at_,if_neg S]at c;exact s.inj id M e e' B y U D i o c
 ·rcases jf d F A (by rintro rfl;cases W)with⟨rfl,q⟩|⟨l,N,y⟩
  ·subst q;cases W
  ·have b:=s.bld id e y W;cases e with
   |mp k es=>simpa only[BAt,Gh.at_,if_neg l]using b
   |it k sn=>simpa only[BAt,Gh.at_,if_neg l]using b
   |_=>trivial
def Gst.mv{n m gn b:Nat}{cn f:Ψ AZ}(hn:H[n]?=δ (.live gn cn))(i:H[m]?=δ (.live b f))(e:n≠m)(l:gn<b)
  (A:∀t v,(t,v)∈y->(t,v)∈env\/∃sz d len,v=.sl n b sz d len/\(t,AZ.sl m b sz d len)∈env):Gst N env H y (mvH H n m (.live b f)):=by
 intro X h a w s;have o:=G3.mv s.sim hn i e l;have j:h.gen m=b:=(s.sim.live m b f i).1;have G:n<θ H:=(F8.1 hn).1;refine⟨_,⟨s.sim.mv hn i e l,λt v z=>?_,s.size⟩,o⟩;rcases A t v z with q|⟨sz,d,len,rfl,q⟩;exact⟨(s.env t v q).1,(s.env t v q).2.later (o.later X)⟩;obtain⟨p,k⟩:=s.env t _ q;refine⟨p,?_⟩;generalize a.tmps.getD t undef=c at k;cases k with
 |sl x u g r=>refine .sl (by simp[cx,mvH];exact G) (by simp only[cx,Gh.at_,if_true];rw[j];exact Am _) g λ_=>?_;rcases r j with q|⟨B,cap,C,D,E,F⟩;exact .inl ⟨by simp only[cx,Gh.at_,if_true];exact q.1,q.2⟩;exact .inr ⟨B,cap,by simp only[cx,Gh.at_,if_true];exact C,D,by simp only[cx,Gh.at_,if_true];exact E,F⟩
end
section
variable {R:Type}{P:Program}{N:Nat}
def Gst.refl(N:Nat)(env:Env)(H:As):Gst N env H env H:=λ_ h _ w s=>⟨h,s,G3.refl h H w⟩
def Gst.trans{N}{f g i}{c d e}(a:Gst N f c g d)(b:Gst N g d i e):Gst N f c i e:=λX h x w s=>by obtain⟨j,l,n⟩:=a X h x w s;obtain⟨k,m,o⟩:=b X j x w l;exact⟨k,m,n.trans o⟩
def AJQ{k:Bb->Aq->Ω R}{r:R}(ok:Oc e c)(h:mv1 G n e c k=δ r):∃a g,Gst N (B5 e) (BC c) (B5 a) (BC g)/\k a g=δ r/\Oc a g/\EC [G] e c a g:=by
 have same:k e c=δ r->∃a g,Gst N (B5 e) (BC c) (B5 a) (BC g)/\k a g=δ r/\Oc a g/\EC [G] e c a g:=λq=>⟨e,c,.refl _ _ _,q,ok,⟨.refl c,λ_ _ _=>rfl⟩⟩
 unfold mv1 at h;split at h;rename_i m j H J I;split at h;exact same h;rename_i b;have b:m≠n:=λq=>by rw[q,HT]at b;cases b
 split at h;rename_i W l1 F l X l2 E Y hn w;split at h;rename_i D z;have D:=DA D;subst D;simp only[BS]at z;have x:=Ty.beq_eq _ _ z.1;have y:=Ty.beq_eq _ _ z.2;injection x with x;injection y with y;subst x y;cases f:τ (F<E)with
 |false=>rw[f]at h;cases h
 |true=>
  rw[f,B!]at h;have f:F<E:=N! f;have hr:Sz c m j H J:=by have:=mN ok.env G;rw[I]at this;exact this (.own m j H J) (by simp[TV.refs])
  obtain⟨_,A⟩:=hr.2 _ _ _ _ _ w;obtain⟨_,A⟩:=A rfl;subst A;have K:CL c (c.set n (.buf η H l2 E (l+1))):=CL.set hn rfl λ_ _ _ _ _ q=>by cases q;exact⟨_,_,_,_,rfl,.inl (Nat.lt_succ_self _)⟩
  have B:(c.set n (.buf η H l2 E (l+1)))[m]?=δ (.buf η H l2 E j):=by rw[DT (b ·.symm)];exact w
  have L:CL (c.set n (.buf η H l2 E (l+1))) ((c.set n (.buf η H l2 E (l+1))).set m .dead):=CL.set B rfl λ_ _ _ _ _ q=>by cases q
  have st:=K.trans L;have C:E=θ l2:=ok.heap _ (BQ w);have i:n<θ c:=(F8.1 hn).1;have o:=SP K ok.heap (show Dp.ok _ (.buf η H l2 E (l+1))from C);refine⟨_,_,?_,h,⟨dM (d:=δ G) (st.env ok.env) ?_,SP L o trivial⟩,⟨st,λu p _=>?_⟩⟩;have O:BC ((c.set n (.buf η H l2 E (l+1))).set m .dead)=mvH (BC c) n m (.live E (H.E.cl l2)):=by rw[Lg,Lg];rfl
  rw[O];refine Gst.mv (gn:=F) (cn:=H.E.cl l1) (by rw[D5,hn];rfl) (by rw[D5,w];rfl) (b ·.symm) f (λu v p=>?_);rw[ln]at p;unfold Env.put at p;rcases A3.1 p with q|q;injection q with P Q;subst P Q;refine .inr ⟨H.sz,0,E,rfl,?_⟩;exact Bo.2 ⟨_,Zy I (λq=>by cases q),rfl⟩;exact .inl (BZ.1 q).1;refine J2 ⟨by simpa using i,λS V T U M t=>?_⟩;rw[DT b,GY i]at t;cases t;exact⟨Am _,λ_=>⟨rfl,rfl⟩⟩;have s:u≠G:=λq=>p (by simp[q]);unfold Bb.put;simp only[Bb.get];rw[beq_false (s ·.symm)];exact th s e
 cases h;exact same h;exact same h
def ABt:∀{j}{env}{H}{k}{r:R},Oc env H->mvs j env H k=δ r->∃f i,Gst N (B5 env) (BC H) (B5 f) (BC i)/\k f i=δ r/\Oc f i/\EC (Wq j) env H f i
 |[],env,H,k,r,ok,h=>⟨env,H,.refl _ _ _,h,ok,⟨.refl H,λ_ _ _=>rfl⟩⟩
 |s::j,env,H,k,r,ok,h=>by
  have l:mvs j env H k=δ r->(∀t,t∈Wq j->t∈Wq (s::j))->∃f i,Gst N (B5 env) (BC H) (B5 f) (BC i)/\k f i=δ r/\Oc f i/\EC (Wq (s::j)) env H f i:=λq A=>by obtain⟨e,i,a,b,c,d⟩:=ABt ok q;exact⟨e,i,a,b,c,d.mono A⟩
  cases s with
  |g t n=>simp only[mvs]at h;obtain⟨E,D,a1,o,v,x⟩:=AJQ (N:=N) ok h;obtain⟨z,m,a2,p,w,y⟩:=ABt v o;exact⟨z,m,a1.trans a2,p,w,(x.trans ok.env y).mono λu C=>by simpa[Wq]using C⟩
  |_=>exact l h λt B=>by simp[Wq,B]
def AFn(hr:J3 P N E d j)(i:∀t,t∈E->t∈b)(o:∀t,t∈Wq q->t∈b):J3 P N b d (AFm q j):=by intro R env H k r ok p;obtain⟨e,env1,l,a1,k1,a,A⟩:=hr env H _ r ok p;split at k1;obtain⟨n,m,g,s,f,h⟩:=ABt (N:=N) a k1;refine⟨e,n,m,uC.afterG (a1.mono ?_),s,f,(A.trans ok.env h).mono λt B=>(Al.1 B).elim (i t) (o t)⟩;rintro x u v ⟨rfl,rfl,rfl⟩;exact⟨_,_,g,rfl,rfl,rfl⟩;exact⟨e,env1,l,a1,k1,a,A.mono i⟩
end
variable {P:Program}{N:Nat}
def J3.mono(h:J3 P N b d j)(f:∀t,t∈b->t∈E):J3 P N E d j:=λenv H k r ok g=>by obtain⟨e,a,B,i,A,l,m⟩:=h env H k r ok g;exact⟨e,a,B,i,A,l,m.mono f⟩
def vO{hs:Ψ Hint}{A B:Ψ Nat}(hr:J3 P N B d j)(c:∀t,t∈B->t∈A)(b:∀t,t∈sq hs d->t∈A):J3 P N A d (xQ (hintOf hs d) A j):=by
 unfold sq at b;generalize hintOf hs d=o at b⊢;cases o with
 |none=>exact hr.mono c
 |some h=>exact λenv H k r ok f=>AAU hr c (h:=h.rel (θ H)) (λt e=>b t (by rw[UK]at e;exact e)) env H k r ok f
def AFe{hs:Ψ Hint}{A B:Ψ Nat}(hr:J3 P N B d Z.main)(i:ACZ P N B d Z.pre)(g:J3 P N B (oE d) Z.suf)(e:∀t,t∈B->t∈A)(b:∀t,t∈sq hs (.loop d)->t∈A):J3 P N A (.loop d) (vW (hintOf hs (.loop d)) A Z):=by
 unfold sq at b;generalize hintOf hs (.loop d)=o at b⊢;cases o with
 |none=>exact λenv H k r ok a=>by cases a
 |some h=>
  intro R env H k r ok a;have a:vW (δ h) A Z env H k=δ r:=a;have b:∀t,t∈(h.rel (θ H)).tmps->t∈A:=λt c=>b t (by rw[UK]at c;exact c);cases f:ξ h.kind 8 with
  |true=>rw[show vW (δ h) A Z env H k=AC8 (h.rel (θ H)) A Z env H k by simp only[vW,f]]at a;exact AFf i g e b env H k r ok a
  |false=>rw[show vW (δ h) A Z env H k=xU (h.rel (θ H)) A (AFm (h.rel (θ H)).slots Z.main) env H k by simp only[vW,f]]at a;exact AFd (AFn hr e λt c=>b t (by unfold Hint.tmps;simp only[List.mem_append];exact .inl (.inr c))) (λ_ q=>q) b env H k r ok a
def XJ:∀{env}{p:Nat×TV},p∈jg env->p∈env/\L4 p.2.refs=[]
 |(t,v)::r,p,h=>by simp only[jg]at h;split at h;rename_i a;rcases A3.1 h with rfl|h;exact⟨H4,a⟩;exact⟨CQ _ (XJ h).1,(XJ h).2⟩;exact⟨CQ _ (XJ h).1,(XJ h).2⟩
theorem AED(A:XM P u){B:Array Tmp}:J3 P N b (.rangeFunc z B d S) (AB7 P u N F z B d S):=by
 intro R env H k r ok q;unfold AB7 at q;dsimp only at q;split at q;rename_i G first m hf
 split at q;rename_i hE;have Z:BN (B5 env) z=.fn (.func G) first m:=by rw[MA,hf];rfl
 have E:(Dp.lp η F N (jg env) B d S .ready).ok (H++[.lp η F N (jg env) B d S .ready]):=λp T id ag t n hm=>by have:=o0 hm;rw[(XJ T).2]at this;cases this
 have V:CL H (H++[.lp η F N (jg env) B d S .ready]):=CL.push H _;obtain⟨v,i,q1,K,q3,q4,q5⟩:=A (.fn G) _ _ _ r (λv Y=>by simp only[Al,Bo,A7]at Y;rcases Y with(⟨Q,_,rfl⟩|rfl)|⟨Q,_,rfl⟩;exact mf Q;exact J2 trivial;exact mf Q) (Qd ok.heap E) q
 have y:∀{ro}{f n e p c w}{s}{x},i[θ H]?=δ (.lp ro f n e p c w s)→ro=η→(∀L:nu,L.state=s.st→L.pending=s.pend→AGD P N (B5 env) (θ H) (Vj x (B5 env) (BC (i.set (θ H) .dead))) ((BC i).set (θ H) (.lp L)))→k x env (i.set (θ H) .dead)=δ r→
   ∃W g O,uC P N (.rangeFunc z B d S) (B5 env) (BC H) (Vj W (B5 g) (BC O))/\k W g O=δ r/\Oc g O/\EC b env H g O:=by
  intro ro f n e p c w s x o U hq q;subst U;have M:CL i (i.set (θ H) .dead):=CL.set o rfl λ_ _ _ _ _ h=>by cases h
  have st:=(V.trans q5).trans M;refine⟨x,env,_,D9 (λ_ e=>by cases e) (ni (B5 (jg env)) (λp T=>?_) Z hE ?_),q,⟨st.env ok.env,SP M q4 trivial⟩,st,λ_ _ _=>rfl⟩;obtain⟨Q,hu,rfl⟩:=Bo.1 T;exact Bo.2 ⟨Q,(XJ hu).1,rfl⟩;have J:Ei P G _ _ _:=q1;have a:(first.map tvA++[TV.c (.raw (.yf (θ H)))]++m.map tvA).map TV.enc=first++[.yf (BC H).length]++m:=by
   have X:∀l:Ψ AZ,(l.map tvA).map TV.enc=l:=by
    intro l;rw[RT];conv=>rhs;rw[<-gV l]
    grind[List.map_congr_left,jt]
   rw[Gt,Gt,X,X,CT];rfl
  rw[a,SE]at J;apply J.mono;rintro _ _ ⟨rfl,rfl⟩;rw[CT];have I:BC i=(BC i).set (θ H) (.lp ⟨n,B5 e,p,c,w,s.st,s.pend⟩):=by
   have hg:(BC i)[θ H]?=δ (.lp ⟨n,B5 e,p,c,w,s.st,s.pend⟩):=by rw[D5,o];rfl
   apply JN;intro j;by_cases ad:j=θ H<;>grind
  rw[I];exact hq _ rfl rfl
 have look:∀L:nu,θ H<θ i->((BC i).set (θ H) (.lp L))[θ H]?=δ (.lp L):=λL h=>by grind[List.getElem?_set_self,CT]
 have dead:∀L:nu,((BC i).set (θ H) (.lp L)).set (θ H) .dead=BC (i.set (θ H) .dead):=λL=>by rw[Y8,Lg];rfl
 split at K;rename_i o;refine y o rfl (λL C D=>⟨L,look L (HB o),by rw[C];simp[LS.st],?_⟩) K;rw[D,dead];exact⟨rfl,rfl,rfl⟩;rename_i o;refine y o rfl (λL C D=>⟨L,look L (HB o),by rw[C];simp[LS.st],?_⟩) K;rw[D,dead];exact J0.ret ⟨rfl,rfl,rfl⟩;rename_i x o;refine y o rfl (λL C D=>⟨L,look L (HB o),by rw[C];simp[LS.st],?_⟩) K;rw[D,dead];exact J0.exit ⟨rfl,rfl,rfl⟩;cases K;cases q;cases q
theorem AFC{hs:Ψ Hint}(h:pX d S=δ O):∀t∈O.tmps,t∈Pg hs d++Pg hs S:=by obtain⟨o,v,l,q,w,n,r,x,s,y,u,z,rfl,rfl,f,g,i,j,k,_⟩:=pY h;obtain⟨_,_,_,_,_,_,l1⟩:=tD f;obtain⟨_,_,_,_,_,_,l2⟩:=tE g;obtain⟨_,_,_,_,_,_,_,_,_,_,_,_,c⟩:=tF i;obtain⟨_,_,_,_,_,_,_,_,_,_,_,_,_,_,_,a⟩:=tG j;obtain⟨_,_,_,_,_,_,_,e⟩:=tH k;intro t b;simp only[Pg,l1,l2,c,a,e,ph,Al];simp only[Y2.tmps]at b;grind
theorem AH7(S:∀c∈f,c.Ok P)(O:XM P u)(y:FuncId)(d:Ψ Hint):∀c:Code,J3 P N (Pg d c) c (tc P f u N y d c)/\(∀m r,c=.seq m r->J3 P N (Pg d r) r (tc P f u N y d r))/\ACZ P N (Pg d c) c (gJ P f u N y d c).pre/\J3 P N (Pg d c) (oE c) (gJ P f u N y d c).suf:=by
 have L:∀A c,J3 P N A c Qb:=λA c R env H k r ok j=>by cases j
 have g:∀A c,ACZ P N A c Qb:=λA c R env H k r ok j=>by cases j
 intro c;induction c with
 |skip=>exact⟨λenv H k r ok j=>⟨.normal,env,H,D9 (λ_ e=>by cases e) (J0.skip ⟨rfl,rfl,rfl⟩),j,ok,EC.refl _ _ _⟩,λ_ _ e=>(by cases e),g _ _,L _ _⟩
 |ret=>exact⟨λenv H k r ok j=>⟨.ret,env,H,D9 (λ_ e=>by cases e) (J0.ret ⟨rfl,rfl,rfl⟩),j,ok,EC.refl _ _ _⟩,λ_ _ e=>(by cases e),g _ _,L _ _⟩
 |exit id=>exact⟨λenv H k r ok j=>⟨.exit id,env,H,D9 (λ_ e=>by cases e) (J0.exit ⟨rfl,rfl,rfl⟩),j,ok,EC.refl _ _ _⟩,λ_ _ e=>(by cases e),g _ _,L _ _⟩
 |seq a b D w=>
  refine⟨?_,λm r e=>(by injection e with V C;subst V C;exact w.1),?_,?_⟩;rotate_left;by_cases I:∃m z,b=.seq m z;obtain⟨m,z,rfl⟩:=I;intro env H k r ok j;obtain⟨e,env1,J,a1,k1,v,M⟩:=D.1 env H _ r ok (show tc P f u N y d a env H _=δ r from j);cases e with
  |normal=>obtain⟨C,env2,K,a2,Y,F,Z⟩:=w.2.2.1 env1 J k r v k1;refine⟨C,env2,K,J0.mono a1.awp ?_,Y,F,(EC.trans ok.env M Z).mono λt l=>Al.2 (.inl l)⟩;rintro _ _ _ ⟨rfl,rfl,rfl⟩;exact a2
  |_=>refine⟨_,env1,J,J0.mono a1.awp ?_,k1,v,M.mono λt l=>Al.2 (.inl (Al.2 (.inl l)))⟩;rintro _ _ _ ⟨rfl,rfl,rfl⟩;exact⟨rfl,rfl,rfl⟩
  intro env H k r ok j;have j:tc P f u N y d a env H k=δ r:=by cases b<;>first|exact j|exact O! ⟨_,_,rfl⟩ I
  obtain⟨e,env1,J,a1,k1,v,M⟩:=D.1 env H k r ok j;have C:∀Q,bL P N (.seq a b) (B5 env) (BC H) Q=J0 P N a (B5 env) (BC H) Q:=λQ=>by cases b<;>first|rfl|exact O! ⟨_,_,rfl⟩ I
  exact⟨e,env1,J,by rw[C];exact a1.awp,k1,v,M.mono λt l=>Al.2 (.inl (Al.2 (.inl l)))⟩;have mo:∀t,t∈Pg d b->t∈Pg d (.seq a b):=λt l=>Al.2 (.inl (Al.2 (.inr l)));intro R env H k r ok j;by_cases I:∃m z,b=.seq m z;obtain⟨m,z,rfl⟩:=I;exact J3.mono w.2.2.2 mo env H k r ok j;have q:J3 P N (Pg d (.seq a b)) b (tc P f u N y d b):=J3.mono w.1 mo;have j:tc P f u N y d b env H k=δ r:=by cases b<;>first|exact j|exact O! ⟨_,_,rfl⟩ I
  have C:oE (.seq a b)=b:=by cases b<;>first|rfl|exact O! ⟨_,_,rfl⟩ I
  rw[C];exact q env H k r ok j;have U:J3 P N (Pg d a++Pg d b) (.seq a b) (λenv H k=>tc P f u N y d a env H λe n G=>match e with|.normal=>tc P f u N y d b n G k|e=>k e n G):=by
   intro R env H k r ok j;obtain⟨e,env1,J,a1,k1,v,M⟩:=D.1 env H _ r ok j;cases e with
   |normal=>obtain⟨C,env2,K,a2,Y,F,Z⟩:=w.1 env1 J k r v k1;refine⟨C,env2,K,D9 (λ_ e=>by cases e) (J0.seq (a1.awp.mono ?_)),Y,F,EC.trans ok.env M Z⟩;rintro _ _ _ ⟨rfl,rfl,rfl⟩;exact a2.awp
   |_=>refine⟨_,env1,J,D9 (λ_ e=>by cases e) (J0.seq (a1.awp.mono ?_)),k1,v,M.mono λt l=>Al.2 (.inl l)⟩;rintro _ _ _ ⟨rfl,rfl,rfl⟩;exact⟨rfl,rfl,rfl⟩
  intro R env H k r ok j;by_cases I:∃m z,b=.seq m z;obtain⟨m,z,rfl⟩:=I;simp only[tc,gJ]at j;split at j;rename_i p hp;obtain⟨env1,J,a1,k1,v,M⟩:=AFB S hp ok j;obtain⟨C,env2,K,a2,Y,F,Z⟩:=w.2.1 m z rfl env1 J k r v k1;refine⟨C,env2,K,D9 (λ_ e=>by cases e) (J0.seq (a1.mono ?_)),Y,F,(EC.trans ok.env M Z).mono λt l=>?_⟩;intro e E h hx;cases e with
  |normal=>exact J0.seq (hx.mono (by rintro _ _ _ ⟨rfl,rfl,rfl⟩;exact a2.awp))
  |_=>exact hx.elim
  show t∈(Pg d a++((Pg d m++Pg d z)++wC d m z))++wC d a (.seq m z);rcases Al.1 l with l|l;rcases Al.1 (AFC (hs:=d) hp t l)with h|h<;>simp[h];simp[l];exact U.mono (λt l=>Al.2 (.inl l)) env H k r ok j;have j:tc P f u N y d (.seq a b) env H k=δ r:=j;rw[AH8 λm r e=>I ⟨m,r,e⟩]at j;have hA:∀t,t∈wC d a b->t∈Pg d (.seq a b):=λt l=>Al.2 (.inr l);have hB:∀t,t∈Pg d a++Pg d b->t∈Pg d (.seq a b):=λt l=>Al.2 (.inl l);unfold wC at hA;generalize tz d a b=o at j hA;cases o with
  |none=>exact U.mono hB env H k r ok j
  |some h=>exact AAU U hB (h:=h.rel (θ H)) (λt l=>hA t (by rw[UK]at l;exact l)) env H k r ok j
 |cond c a b D w=>have W:J3 P N (Pg d a++Pg d b) (.cond c a b) (ACn c (tc P f u N y d a) (tc P f u N y d b)):=AFD D.1 w.1;refine⟨?_,λ_ _ e=>(by cases e),g _ _,L _ _⟩;intro R;exact vO (hs:=d) (A:=Pg d (.cond c a b)) W (λt l=>Al.2 (.inl l)) (λt l=>Al.2 (.inr l))
 |block id b X=>have W:J3 P N (Pg d b) (.block id b) (ABO id (tc P f u N y d b)):=ADb X.1;refine⟨?_,λ_ _ e=>(by cases e),g _ _,L _ _⟩;intro R;exact vO (hs:=d) (A:=Pg d (.block id b)) W (λt l=>Al.2 (.inl l)) (λt l=>Al.2 (.inr l))
 |loop b X=>exact⟨AFe (hs:=d) (A:=Pg d (.loop b)) X.1 X.2.2.1 X.2.2.2 (λt l=>Al.2 (.inl l)) (λt l=>Al.2 (.inr l)),λ_ _ e=>(by cases e),g _ _,L _ _⟩
 |region id s B=>
  refine⟨?_,λ_ _ e=>(by cases e),(by cases B<;>exact g _ _),(by cases B<;>exact L _ _)⟩;cases B with
  |false=>
   have W:J3 P N (ph s.toList) (.region id s η) (λenv H k=>match Ps N s.toList with
    |true=>AAu P f u s (guards s) η s.toList 0 env H λn G=>k .normal n G
    |false=>ε):=by
    intro R env H k r ok j;dsimp only at j;split at j;rename_i T;obtain⟨n,G,r1,r2,r3,r4⟩:=jk (N:=N) S O _ _ _ _ _ _ ok j;refine⟨.normal,n,G,D9 (λ_ e=>by cases e) (Fk T ?_),r2,r3,r4⟩;show Xv P N s s.toList (B5 env) (BC H) (λV K=>Exit.normal=Exit.normal/\V=B5 n/\K=BC G);simpa using r1;cases j
   intro R;exact vO (hs:=d) (A:=Pg d (.region id s η)) W (λt l=>Al.2 (.inl l)) (λt l=>Al.2 (.inr l))
  |true=>
   intro R env H k r ok j;simp only[tc,gJ]at j;split at j;rename_i T;simp only[BS]at T;obtain⟨n,G,r1,r2,r3,r4⟩:=Zw (N:=N) S O _ _ _ _ _ _ ok j;refine⟨.normal,n,G,D9 (λ_ e=>by cases e) (ly T.1.1.1 _ T.1.1.2 T.1.2 ?_ ?_),r2,r3,r4.mono λt l=>Al.2 (.inl ?_)⟩;have:=bH T.2;rw[B5,RT];exact this;show RA P N s (AB2 s) [] (B5 env) (BC H) (λV K=>Exit.normal=Exit.normal/\V=B5 n/\K=BC G);simpa using r1;unfold wR at l;obtain⟨i,_,hi⟩:=T6.1 l;cases ho:s[i]? with
   |none=>rw[ho]at hi;cases hi
   |some o=>
    rw[ho]at hi;refine T6.2 ⟨o,?_,hi⟩;have:s.toList[i]?=δ o:=by simpa using ho
    exact BQ this
   cases j
 |rangeFunc x ps a b _ _=>exact⟨AED O,λ_ _ e=>(by cases e),g _ _,L _ _⟩
 |_=>exact⟨λenv H k r ok j=>(by simp only[tc,gJ,Qb]at j;cases j),λ_ _ e=>(by cases e),g _ _,L _ _⟩
theorem sN(b:∀c∈f,c.Ok P)(e:XM P u)(g:FuncId)(d:Ψ Hint)(c:Code):J3 P N (Pg d c) c (tc P f u N g d c):=by grind[AH7]
end Go.Ab
namespace Go.Ab
def fD:Nat->Ψ TV->Bb
 |_,[]=>[]
 |i,v::r=>(i,v)::fD (i+1) r
def o7(P:Program)(env:Bb)(H:Aq):Ψ ResultVar->Ω (Ψ TV)
 |[]=>δ []
 |.tmp t::r=>match o7 P env H r with|some vs=>δ (env.get t::vs)|none=>ε
 |.cell a t::r=>match o7 P env H r with|some vs=>loadT P H t (env.get a) λv=>δ (v::vs)|none=>ε
def AAT:Exit->Bool
 |.normal=>ζ
 |.ret=>ζ
 |_=>η
variable {N n G:Nat}{R K:Type}{c D:Aq}{e L Y:Bb}{f:Ψ RJ}{F:FuncId}{P:Program}{k:Bool}{l:AZ}{p:Ψ TV}{s:Ψ AZ}{x:Ty}{C:Int}{J:Exit}{T:Value}{V:Func}
def AKH(P:Program)(fn:Func)(k:TV->Aq->Ω R):Exit->Bb->Aq->Ω R:=λe env H=>
 match AAT e with
 |true=>match o7 P env H fn.results.toList with|some vs=>k (one vs) H|none=>ε
 |false=>ε
def AAx:Bb->Ψ Tmp->Ψ TV->Bb
 |env,t::ts,v::vs=>AAx (env.put t v) ts vs
 |env,_,_=>env
def AGI(id:Nat)(k:TV->Aq->Ω R):Exit->Bb->Aq->Ω R:=λe _ H=>
 match H[id]? with
 |some (.lp η F n env ps a b _)=>
  match e with
  |.normal=>k (.c (.bl ζ)) (H.set id (.lp η F n env ps a b .ready))
  |.ret=>k (.c (.bl η)) (H.set id (.lp η F n env ps a b .ret))
  |.exit x=>k (.c (.bl η)) (H.set id (.lp η F n env ps a b (.exit x)))
  |_=>ε
 |_=>ε
noncomputable def ACG(P:Program)(cs:Ψ RJ)(call:TB)(hs:FuncId->Ψ Hint)(id:Nat)(vs:Ψ TV)(H:Aq){R:Type}(k:TV->Aq->Ω R):Ω R:=
 match H[id]? with
 |some (.lp η F n env ps a b .ready)=>
  match ξ (θ vs) ps.size&&ps.toList.all λt=>Nat.blt t n with
  |true=>tc P cs call n F (hs F) a (AAx env ps.toList vs) H λe env1 H1=>
   match e with
   |.normal=>
    match H1[id]? with
    |some (.lp η F1 n1 e1 ps1 a1 b1 .ready)=>tc P cs call n F (hs F) b env1 (H1.set id (.lp η F1 n1 e1 ps1 a1 b1 .busy)) (AGI id k)
    |_=>ε
   |_=>ε
  |false=>ε
 |_=>ε
noncomputable def sU(P:Program)(cs:Ψ RJ)(hs:FuncId->Ψ Hint):Nat->TB
 |0=>λ_ _ _ _=>ε
 |n+1=>λtg vs H k=>
  match tg with
  |.fn F=>
   match P.funcs[F]? with
   |some fn=>
    match fn.body with
    |some c=>match Nat.ble (θ vs) fn.ntmps with|true=>tc P cs (sU P cs hs n) fn.ntmps F (hs F) c (fD 0 vs) H (AKH P fn k)|false=>ε
    |none=>ε
   |none=>ε
  |.yd id=>ACG P cs (sU P cs hs n) hs id vs H k
def vN(bt:Ty):(rs:Ψ Ty)->DL rs->bt.D->DL (rs++[bt])
 |[],_,b=>b
 |[_],y,b=>(y,b)
 |_::u::r,y,b=>(y.1,vN bt (u::r) y.2 b)
def refsOf(vs:Ψ TV):Ψ Nat:=vs.flatMap λv=>L4 v.refs
def AKE(P:Program)(fn:Func)(rs:Ψ Ty):Exit->Bb->Aq->Ω (DL rs):=λe env H=>
 match AAT e with
 |true=>
  match o7 P env H fn.results.toList with
  |some vs0=>match Ih (refsOf vs0) env H with|(ef,hf)=>match o7 P ef hf fn.results.toList with|some vs=>inp rs vs|none=>ε
  |none=>ε
 |false=>ε
def AKF(P:Program)(fn:Func)(bt:Ty)(rs:Ψ Ty):Exit->Bb->Aq->Ω (DL (rs++[bt])):=λe env H=>
 match AAT e with
 |true=>
  match o7 P env H fn.results.toList with
  |some vs0=>
   match Ih (refsOf vs0++(match (H[0]? :Ω Dp)with|some (.live _ cs)=>L4 cs|_=>[])) env H with
   |(ef,hf)=>
    match o7 P ef hf fn.results.toList,(hf[0]? :Ω Dp)with
    |some vs,δ (.live _ cs)=>match inp rs vs,bt.all cs with|some y,δ b=>δ (vN bt rs y b)|_,_=>ε
    |_,_=>ε
  |none=>ε
 |false=>ε
def vL:Nat->TV->Ψ TV->Ψ TV
 |0,v,l=>v::l
 |n+1,v,x::l=>x::vL n v l
 |_+1,v,[]=>[v]
noncomputable def zp(P:Program)(cs:Ψ RJ)(hs:FuncId->Ψ Hint)(n:Nat)(F:FuncId)(ds rs:Ψ Ty)(x:DL ds):Ω (DL rs):=
 match P.funcs[F]? with
 |some fn=>
  match fn.body with
  |some c=>match Nat.ble (xy ds x).length fn.ntmps with|true=>tc P cs (sU P cs hs n) fn.ntmps F (hs F) c (fD 0 (xy ds x)) [] (AKE P fn rs)|false=>ε
  |none=>ε
 |none=>ε
noncomputable def AE3(P:Program)(cs:Ψ RJ)(hs:FuncId->Ψ Hint)(n:Nat)(F:FuncId)(pos:Nat)(bt:Ty)(ds rs:Ψ Ty)(b:bt.D)(x:DL ds):Ω (DL (rs++[bt])):=
 match P.funcs[F]? with
 |some fn=>
  match fn.body with
  |some c=>
   match Nat.ble (vL pos (.c (.raw (.ptr 0 0 0))) (xy ds x)).length fn.ntmps with
   |true=>tc P cs (sU P cs hs n) fn.ntmps F (hs F) c (fD 0 (vL pos (.c (.raw (.ptr 0 0 0))) (xy ds x))) [.live η (bt.lvs b)] (AKF P fn bt rs)
   |false=>ε
  |none=>ε
 |none=>ε
theorem fE:∀l i,B5 (fD i l)=env0 i (l.map TV.enc)
 |[],_=>rfl
 |v::r,i=>by have:=fE r (i+1);grind[B5,fD,env0]
def lu{H:Aq}:∀{l:Ψ TV}{i},(∀v∈l,v.ok H)->∀p∈fD i l,p.2.ok H
 |[],_,_,p,a=>by cases a
 |v::r,i,h,p,a=>by simp only[fD]at a;rcases A3.1 a with rfl|a;exact h v k!;exact lu (λw b=>h w (by simp[b])) p a
theorem nQ{P}{env:Bb}{H:Aq}(d:∀p∈env,p.2.ok H)(c:∀e∈H,e.ok H):∀{l}{b:Ψ TV},o7 P env H l=δ b->T2 P (B5 env) (BC H) l=δ (b.map TV.enc)/\∀v∈b,v.ok H
 |[],b,h=>by simp only[o7,Ap]at h;subst h;exact⟨rfl,λv g=>by cases g⟩
 |.tmp t::r,b,h=>by simp only[o7]at h;split at h;rename_i k f;obtain⟨i,j⟩:=nQ d c f;grind[T2,o8,Vh,mN];cases h
 |.cell a t::r,b,h=>by simp only[o7]at h;split at h;rename_i k f;obtain⟨i,j⟩:=nQ d c f;obtain⟨u,m,n,o⟩:=tA c (mN d a) h;grind[T2,o8,Vh];cases h
def vu(d:∀a∈e,a.2.ok c)(H:∀b∈c,b.ok c)(h:o7 P e c V.results.toList=δ p):kC P V (B5 e) (BC c)=δ (nt (p.map TV.enc)):=by
 unfold kC;rw[(nQ d H h).1];cases p with
 |nil=>rfl
 |cons v r=>
  cases r with
  |nil=>rfl
  |cons u r=>rfl
def xu:∀a(b:Ψ TV)env,SU (B5 env) a (b.map TV.enc)=B5 (AAx env a b)
 |[],_,_=>rfl
 |_::_,[],_=>rfl
 |t::a,v::b,env=>by simp only[Bz,SU,AAx];rw[<-ln];exact xu a b (env.put t v)
def AAy{H:Aq}:∀b(a:Ψ TV)(env:Bb),(∀p∈env,p.2.ok H)->(∀v∈a,v.ok H)->∀p∈AAx env b a,p.2.ok H
 |[],_,_,h,_=>h
 |_::_,[],_,h,_=>h
 |t::b,v::a,env,h,hv=>AAy b a (env.put t v) (dM (d:=δ t) h (hv v k!)) λu c=>hv u (by simp[c])
def AIX{H}{F n env ps a b}{s e}(h:(Dp.lp k F n env ps a b s).ok c):(Dp.lp H F n env ps a b e).ok D:=h
theorem AC9{F n env ps a b}{s s':LS}(h:c[N]?=δ (.lp η F n env ps a b s)):CL c (c.set N (.lp η F n env ps a b s')):=CL.set h rfl (λ_ _ _ _ _ h=>by cases h) λ_ _ _ _ _ _ _ _ e=>q!
def ABn{F n env ps a b}{s:LS}(h:c[N]?=δ (.lp k F n env ps a b s)):(BC c)[N]?=δ (.lp ⟨n,B5 env,ps,a,b,s.st,s.pend⟩):=by rw[D5,h];rfl
theorem AEH{P:Program}{cs:List RJ}(K: ∀c∈cs,c.Ok P){hs:FuncId→List Hint}{g:TB}(J:XM P g){R:Type}{id:Nat}{S:List TV}{H:Aq}{k:TV→Aq→Option R}{r:R}(hv: ∀v∈S,v.ok H)(hH: ∀e∈H,e.ok H)
  (h:ACG P cs g hs id S H k=some r): ∃v d,zc P (S.map TV.enc) (BC H) v.enc (BC d) (.yd id)/\k v d=some r/\v.ok d/\(∀e∈d,e.ok d)/\CL H d:=by
 unfold ACG at h;split at h
 ·rename_i F n env ps a b he;split at h
  ·rename_i hb;simp only[BS]at hb;have M: ∀p∈env,p.2.ok H:=λp hp x hx=>by
    have:=(hH _ (BQ he)) p hp;cases x with
    |own i v t m=>grind
    |_=>trivial
   obtain⟨e,env1,T,a1,k1,w,s1⟩:=sN (N:=n) K J F (hs F) a _ H _ r ⟨AAy ps.toList S env M hv,hH⟩ h;split at k1
   ·split at k1
    ·rename_i F1 n1 Y z U V s;have B:CL T _:=AC9 (s':=.busy) s;obtain⟨x,env2,D,a2,j,O,s2⟩:=sN (N:=n) K J F (hs F) b _ _ _ r ⟨B.env w.env,SP B w.heap (AIX (w.heap _ (BQ s)))⟩ k1;unfold AGI at j;split at j
     ·rename_i F2 n2 Z A W X s0 u
      have l: ∀(v:Bool) (C:LS),k (.c (.bl v)) (D.set id (.lp false F2 n2 Z A W X C))=some r→(∀L:nu,(BC D)[id]? =some (.lp L)→L=⟨n2,B5 Z,A,W,X,s0.st,s0.pend⟩→AGJ id (C9 (.bool v) (BC (D.set id (.lp false F2 n2 Z A W X C)))) x (B5 env2) (BC D))→
        ∃v d,zc P (S.map TV.enc) (BC H) v.enc (BC d) (.yd id)/\k v d=some r/\v.ok d/\(∀e∈d,e.ok d)/\CL H d:=by
       intro v C hk hq;have Q:CL D _:=AC9 (s':=C) u;refine⟨.c (.bl v),_,?_,hk,J2 trivial,SP Q O.heap (AIX (O.heap _ (BQ u))),((s1.step.trans B).trans s2.step).trans Q⟩;intro N o c f env0 ho I hf q;refine Jn.yield ho I hf (ABn he) ?_ ?_ ?_
       ·grind[List.length,List.length_map,Array.length_toList,Nat.eq_of_beq_eq_true]
       ·simp_all
       ·show J0 P n a (SU (B5 env) ps.toList (c.args.toList.map (BN env0))) (BC H) _;rw[q,xu];refine a1.awp.mono ?_;rintro _ _ _ ⟨rfl,rfl,rfl⟩;refine⟨rfl,_,ABn s,rfl,?_⟩;have e3:(BC T).set id (.lp ⟨n1,B5 Y,z,U,V,.busy,LS.pend .ready⟩)=BC (T.set id (.lp false F1 n1 Y z U V .busy)):=by rw[Lg];rfl
        show J0 P n b (B5 env1) ((BC T).set id (.lp ⟨n1,B5 Y,z,U,V,.busy,LS.pend .ready⟩)) _;rw[e3];refine a2.awp.mono ?_;rintro _ _ _ ⟨rfl,rfl,rfl⟩;exact hq _ (ABn u) rfl
      split at j
      ·refine l true .ready j λL G E=>⟨L,G,rfl,?_⟩
       subst E;rw[Lg];rfl
      ·refine l false .ret j λL G E=>⟨L,G,rfl,?_⟩
       subst E;rw[Lg];rfl
      ·rename_i y;refine l false (.exit y) j λL G E=>⟨L,G,rfl,?_⟩
       subst E;rw[Lg];rfl
      ·cases j
     ·cases j
    ·cases k1
   ·cases k1
  ·cases h
 ·cases h
theorem lf{P}{j:Ψ RJ}(b:∀c∈j,c.Ok P){m:FuncId->Ψ Hint}:∀n,XM P (sU P j m n)
 |0=>by grind[sU]
 |n+1=>by
  intro z A H k r p l h;cases z with
  |yd id=>exact AEH b (lf b n) p l h
  |fn F=>
  simp only[sU]at h;split at h;rename_i fn y;split at h;rename_i c w;split at h;rename_i hn;obtain⟨e,d,f,a1,k1,a,q⟩:=sN (N:=fn.ntmps) b (lf b n) F (m F) c (fD 0 A) H _ r ⟨lu p,l⟩ h;unfold AKH at k1;split at k1;rename_i x;split at k1;rename_i s o;refine⟨one s,f,Km y w t! ?_,k1,vg (nQ a.env a.heap o).2,a.heap,q.step⟩;rw[<-fE];apply a1.awp.mono;rintro _ _ _ ⟨rfl,rfl,rfl⟩;have g:∃v t i,kC P fn (B5 d) (BC f)=δ v/\PX (BC H).length v (BC f) t i/\C9 (one s).enc (BC f) t i:=⟨_,_,_,vu a.env a.heap o,PX.refl _ _ (by rw[CT,CT];exact q.step.len),by rw[qO],rfl⟩
  rename_i u;cases u<;>first|exact g|cases x
  cases k1;cases k1;cases h;cases h;cases h
def Dj.tup{b a}(h:Dj b a):Xu (.tup b) (.tup a):=by
 intro x c r;cases r with
 |tup g hr=>refine .tup (by rw[g,h.1]) λj l d f e=>?_;obtain⟨v,i,k⟩:=h.2 j l f;exact k _ _ (hr j v d i e)
def X0{b}(h:Dj s b):Xu (nt s) (nt b):=by
 match s,b,h with
 |[],[],h=>exact Xu.refl _
 |[v],[w],h=>obtain⟨u,c,d⟩:=h.2 0 w rfl;simp at c;subst c;exact d
 |v::u::r,w::x::a,h=>exact Dj.tup h
def QJ:∀a x,∀v∈dZ a x,Pure v
 |[],_,v,h=>by cases h
 |[t],x,v,h=>by simp only[dZ,A7]at h;subst h;exact t.enc_pure x
 |t::u::r,x,v,h=>by simp only[dZ]at h;rcases A3.1 h with rfl|h;exact t.enc_pure x.1;exact QJ (u::r) x.2 v h
def Yz(h:∀v∈s,Pure v):Pure (nt s):=by
 match s,h with
 |[],_=>rfl
 |[v],h=>exact h v k!
 |v::u::r,h=>exact(Dn _ _).2 h
theorem vy{a H2:Aq}(j:θ H2<=θ a)(hr:HR a H2 [])(i:nh (θ H2) H2=ζ){d}(v:Xu l d)(k:Pure d):PX (θ H2) l (BC a) d (BC H2):=by
 refine⟨by rw[CT];exact Am _,λX h w c s r=>?_⟩;have q:=(HR.rel j hr (cx X h (BC a) w)).onto;have n:=s.rel q;have m:=(v _ c r).later q.later;have e:(BC H2++(BC a).drop (θ H2)).take (θ H2)=BC H2:=by grind[CT]
 have b:θ H2<=(BC H2++(BC a).drop (θ H2)).length:=by simp[BC]
 have g:=n.trunc b (by rw[e];exact nD i);have f:=m.trunc b (mX k _);rw[e]at g f;exact⟨h,g,f,λ_ _=>⟨rfl,rfl,rfl⟩,λB o=>q.own B (jh (n0:=θ H2) q!)⟩
def sW{n}:∀{a b},cJ n a=ζ->cJ n b=ζ->cJ n (a++b)=ζ
 |[],_,_,hb=>hb
 |x::r,b,ha,hb=>by obtain⟨c,e⟩:=xA ha;have d:=sW e hb;cases x<;>simp only[dS,cJ,BS,R3]at c⊢ <;>first|exact d|exact⟨c,d⟩
mutual
theorem Ty.lvs_clo{n:Nat}:∀(t:Ty)x,cJ n (t.lvs x)=ζ
 |.bool,_=>rfl
 |.int _,_=>rfl
 |.str,_=>rfl
 |.list _,_=>rfl
 |.arr _ _,_=>rfl
 |.prod ts,x=>ts.lvs_clo x
theorem TA.lvs_clo{n:Nat}:∀(a:TA)x,cJ n (a.lvs x)=ζ
 |.one t,x=>t.lvs_clo x
 |.cons t a,x=>sW (t.lvs_clo x.1) (a.lvs_clo x.2)
end
def sH(h:∀v∈s,Pure v)(a:Nat->Nat):AZ.renL a s=s:=by
 rw[PM];conv=>rhs;rw[<-gV s]
 exact Ng λv b=>(h v b).ren a
def vK{ρ:Nat->Nat}:∀{n}{v:AZ}{l:Ψ AZ},(∀v∈l,Pure v)->AZ.renL ρ (Wp n v l)=Wp n (v.ren ρ) l
 |0,v,l,h=>by simp only[Wp,AZ.renL,sH h]
 |n+1,v,[],h=>rfl
 |n+1,v,x::l,h=>by have b:=vK (ρ:=ρ) (n:=n) (v:=v) (l:=l) λu a=>h u (CQ _ a);simp only[Wp,AZ.renL,(h x H4).ren,b]
def xP:∀{n}{v u:AZ}{l},u∈Wp n v l->u=v\/u∈l
 |0,v,u,l,h=>by simpa[Wp]using h
 |n+1,v,u,[],h=>by simpa[Wp]using h
 |n+1,v,u,x::l,h=>by simp only[Wp]at h;rcases A3.1 h with rfl|h;exact .inr k!;rcases xP h with h|h;exact .inl h;exact .inr (by simp[h])
def AAR:∀{n}{v}{l},(vL n v l).map TV.enc=Wp n v.enc (l.map TV.enc)
 |0,_,_=>rfl
 |n+1,_,[]=>rfl
 |n+1,v,x::l=>by simp only[vL,Bz,Wp,AAR]
def AAS:∀{n}{v u:TV}{l},u∈vL n v l->u=v\/u∈l
 |0,v,u,l,h=>by simpa[vL]using h
 |n+1,v,u,[],h=>by simpa[vL]using h
 |n+1,v,u,x::l,h=>by simp only[vL]at h;rcases A3.1 h with rfl|h;exact .inr k!;rcases AAS h with h|h;exact .inl h;exact .inr (by simp[h])
theorem sV{t}:∀v∈(x.enc t).cells,Pure v:=by
 intro v a;have h:=x.enc_pure t;cases b:x.enc t with
 |agg c=>rw[b]at a h;exact((Dn _ _).1 h) v a
 |_=>grind[AZ.cells]
def jq(a:Ty):∀c y b,L7 a c (vN a c y b)=(y,b)
 |[],_,_=>rfl
 |[_],_,_=>rfl
 |_::u::r,y,b=>by simp only[vN,L7,jq a (u::r) y.2 b]
variable {P:Program}{cs:Ψ RJ}{hs:FuncId->Ψ Hint}{n:Nat}{F:FuncId}{ds rs:Ψ Ty}
def AJG{f}(k:AAT J=ζ)(ok:Oc e c)(hr:o7 P e c V.results.toList=δ p)(h:PX N (nt (p.map TV.enc)) (BC c) l f):
  AKi P V N (C9 l f) J (B5 e) (BC c):=by
 have d:∃v b a,kC P V (B5 e) (BC c)=δ v/\PX N v (BC c) b a/\C9 l f b a:=⟨_,_,_,vu ok.env ok.heap hr,h,rfl,rfl⟩
 cases J<;>first|exact d|cases k
def yV{g:DL ds->Ω (DL rs)}(d:∀c∈cs,c.Ok P)(t:∀x,g x=zp P cs hs n F ds rs x):(RJ.c0 F ds rs g).Ok P:=by
 intro x y a H;rw[t]at a;have key:Ei P F (dZ ds x) [] (C9 (nt (dZ rs y)) []):=by unfold zp at a;split at a;rename_i q s;split at a;rename_i c r;split at a;rename_i hn;obtain⟨e,o,z,a1,k1,l,B⟩:=sN (N:=q.ntmps) d (lf d n) F (hs F) c (fD 0 (xy ds x)) [] _ y ⟨lu (mg ds x),λe i=>by cases i⟩ a;unfold AKE at k1;split at k1;rename_i i;split at k1;rename_i m u;obtain⟨f,w,p⟩:=SH (refsOf m) l;simp only at k1 f w p;split at k1;rename_i C k;apply Km s r (by rw[<-Yq,BY];exact Pe hn);rw[<-Yq,<-fE];refine J0.after (a1.awp.mono ?_);rintro _ _ _ ⟨rfl,rfl,rfl⟩;exact⟨_,_,(p _).of_le (Bh _),AJG i f k (vy (H2:=[]) (Bh _) (λj A _ h=>by cases h) rfl (X0 (Zs k1)) (Yz (QJ rs y)))⟩;cases k1;cases k1;cases k1;cases a;cases a;cases a
 exact Vk (H:=H) [] key RW rfl rfl (λj b e h=>by cases h) (λe h=>by cases h) (λe h=>by cases h) (Yz (QJ rs y)) (sH (QJ ds x) _) ((Dn _ _).2 λv k=>(QJ ds x v k).all _)
theorem AHF{g:x.D->DL ds->Ω (DL (rs++[x]))}(m:∀c∈cs,c.Ok P)(T:∀b D,g b D=AE3 P cs hs n F N x ds rs b D):(RJ.c1 F N x ds rs g).Ok P:=by
 intro b D y f H id V;rw[T]at f;have key:∃r i,y=vN x rs r i/\Ei P F (Wp N (.ptr 0 0 0) (dZ ds D)) [.live 0 (x.enc b).cells] (C9 (nt (dZ rs r)) [.live 0 (x.enc i).cells]):=by
  unfold AE3 at f;split at f;rename_i M S;split at f;rename_i c R;split at f;rename_i hn;have t:Oc (fD 0 (vL N (.c (.raw (.ptr 0 0 0))) (xy ds D))) [.live η (x.lvs b)]:=by refine⟨lu λv d=>?_,λe s=>?_⟩;rcases AAS d with rfl|d;exact J2 trivial;grind[mg];rw[A7.1 s];exact x.lvs_ok b
  obtain⟨e,l,G,a1,k1,u,E⟩:=sN (N:=M.ntmps) m (lf m n) F (hs F) c _ _ _ y t f;unfold AKF at k1;split at k1;rename_i s;split at k1;rename_i z W;generalize C:(refsOf z++_)=ids at k1;obtain⟨k,w,A⟩:=SH ids u;generalize Ih ids l G=fz at k1 k w A;obtain⟨ef,U⟩:=fz;simp only at k1 k w A;split at k1;rename_i vs Y I d O;split at k1;rename_i r i hr q;injection k1 with k1;refine⟨r,i,k1.symm,?_⟩;have J:BC [.live η (x.lvs b)]=[.live 0 (x.enc b).cells]:=by simp only[BC,Bz,Hz,Dp.enc,x.lvs_enc]
  have K:BC [.live η (x.lvs i)]=[.live 0 (x.enc i).cells]:=by simp only[BC,Bz,Hz,Dp.enc,x.lvs_enc]
  have L:Wp N (.ptr 0 0 0) (dZ ds D)=(vL N (.c (.raw (.ptr 0 0 0))) (xy ds D)).map TV.enc:=by rw[AAR,Yq];rfl
  rw[<-J,<-K,L];apply Km S R (by rw[BY];exact Pe hn);rw[<-fE];refine J0.after (a1.awp.mono ?_);rintro _ _ _ ⟨rfl,rfl,rfl⟩;have o:1<=θ U:=Cs E.step.len w.step.len;refine⟨_,_,(A _).of_le (by rw[CT,CT];exact E.step.len),AJG s k d ?_⟩;rw[CT];refine vy (H2:=[.live η (x.lvs i)]) o (λj Z _ h=>?_) (by simp only[nh,x.lvs_clo,Ys]) (X0 (Zs hr)) (Yz (QJ rs r));match j,h with
  |0,h=>simp only[dT,Ap]at h;subst h;refine⟨_,O,.inr (.inl ⟨_,_,_,_,rfl,rfl,?_⟩)⟩;rw[x.lvs_enc];exact Fl q
  |j+1,h=>grind
  cases k1;cases k1;cases k1;cases k1;cases f;cases f;cases f
 obtain⟨r,i,rfl,key⟩:=key;rw[jq];have Q:AZ.renL ([id].getD · 0) (Wp N (.ptr 0 0 0) (dZ ds D))=Wp N (.ptr id 0 0) (dZ ds D):=by rw[vK (QJ ds D)];rfl
 exact Vk (H:=H) [id] key (Gv.2 ⟨k!,RW⟩) rfl rfl (λj X e p B=>by
   match j,p,B with
   |0,p,B=>grind[List.getElem?_cons_zero,Option.some.injEq]
   |j+1,p,_=>simp at p) (λe h=>by
   rw[A7.1 h];exact(Dn _ _).2 λv d=>sV v d) (λe h=>by
   rw[A7.1 h];exact(Dn _ _).2 λv d=>sV v d) (Yz (QJ rs r)) Q ((Dn _ _).2 λv d=>by
   rcases xP d with rfl|d;rfl;exact(QJ ds D v d).all _)
end Go.Ab
namespace Go.Ab
def ac:Ψ (Nat×Ψ Hint)->FuncId->Ψ Hint
 |[],_=>[]
 |(k,h)::r,F=>match ξ k F with|true=>h|false=>ac r F
theorem B4{P}:∀c∈([]:Ψ RJ),c.Ok P:=q!
variable {N n G:Nat}{R K:Type}{f:Ψ RJ}{F:FuncId}{P:Program}{k:Bool}{l:AZ}{s:Ψ AZ}{x:Ty}{C:Int}{T:Value}
theorem A1{P}{c:RJ}(h:c.Ok P)(b:∀c∈f,c.Ok P):∀d∈c::f,d.Ok P:=q!
def wi(a:Int):Int:=ι .i64 a
abbrev len{α:Type}(l:Ψ α):Int:=(θ l:Int)
def pp{A B:Type}(f:(A->Ω B)->A->Ω B):Nat->A->Ω B
 |0,_=>ε
 |n+1,x=>f (pp f n) x
noncomputable def tU{A B:Type}(f:(A->Ω B)->A->Ω B)(x:A):Ω B:=open Classical in if h:∃r n,pp f n x=δ r then δ h.choose else ε
theorem fF{f:(R->Ω K)->R->Ω K}{x:R}{r:K}(h:tU f x=δ r):∃n,pp f n x=δ r:=by unfold tU at h;split at h<;>grind
theorem iu{f:(R->Ω K)->R->Ω K}{x:R}{r:K}{n}(h:pp f n x=δ r):∃s,tU f x=δ s:=by unfold tU;rw[dif_pos ⟨r,n,h⟩];grind
def AHH{P:Program}{a:Ψ RJ}{hs:FuncId→Ψ Hint}{n:Nat}{F:FuncId}{ds rs:Ψ Ty}{f:(DL ds→Ω (DL rs))→DL ds→Ω (DL rs)}(b:∀c∈a,c.Ok P)
  (e:∀g x,f g x=zp P (.c0 F ds rs g::a) hs n F ds rs x):(RJ.c0 F ds rs (tU f)).Ok P:=by
 have key:∀m,(RJ.c0 F ds rs (pp f m)).Ok P:=by
  intro m;induction m with
  |zero=>intro x y d;cases d
  |succ m i=>exact yV (cs:=.c0 F ds rs (pp f m)::a) (A1 i b) λx=>e (pp f m) x
 intro x y d;obtain⟨m,h⟩:=fF d;exact key m x y h
def AKG(P:Program)(fn:Func)(te:Ty)(rs:Ψ Ty):Exit->Bb->Aq->Ω (DL (rs++[.list te])):=λe env H=>
 match AAT e with
 |true=>
  match o7 P env H fn.results.toList with
  |some vs0=>
   match Ih ((refsOf vs0).filter λi=>! ξ i 0) env H with
   |(ef,hf)=>
    match o7 P ef hf fn.results.toList,(hf[0]? :Ω Dp)with
    |some vs,δ (.buf _ t l _ _)=>if h:(Ty.list t).beq (Ty.list te)=ζ then(match inp rs vs with|some y=>δ (vN (.list te) rs y (Ty.cast h l))|none=>ε)else ε
    |_,_=>ε
  |none=>ε
 |false=>ε
def fnC:AZ->Bool
 |.fn (.func _) [] []=>ζ
 |_=>η
def zk(te:Ty)(ds:Ψ Ty)(post:Ψ AZ)(l:Ψ te.D)(x:DL ds):Ψ TV:=.c (.own 0 0 te (θ l))::(xy ds x++post.map λv=>.c (.raw v))
noncomputable def AE4(P:Program)(cs:Ψ RJ)(hs:FuncId->Ψ Hint)(n:Nat)(F:FuncId)(te:Ty)(ds rs:Ψ Ty)(post:Ψ AZ)(l:Ψ te.D)(x:DL ds):Ω (DL (rs++[.list te])):=
 match P.funcs[F]? with
 |some fn=>
  match fn.body with
  |some c=>
   match Nat.ble (zk te ds post l x).length fn.ntmps&&post.all fnC with
   |true=>tc P cs (sU P cs hs n) fn.ntmps F (hs F) c (fD 0 (zk te ds post l x)) [.buf η te l (θ l) 0] (AKG P fn te rs)
   |false=>ε
  |none=>ε
 |none=>ε
theorem AJJ(h:fnC l=ζ):∃F,l=.fn (.func F) [] []:=by unfold fnC at h;grind
def AFP(h:fnC l=ζ):Pure l:=by obtain⟨F,rfl⟩:=AJJ h;rfl
variable {P:Program}{cs:Ψ RJ}{hs:FuncId->Ψ Hint}{n:Nat}{F:FuncId}{ds rs:Ψ Ty}{te:Ty}{post:Ψ AZ}
def ADZ(l:Ψ te.D)(x:DL ds):(zk te ds post l x).map TV.enc=.sl 0 (θ l) te.sz 0 (θ l)::(dZ ds x++post):=by
 have e:(post.map λv=>TV.c (.raw v)).map TV.enc=post:=by
  rw[RT];conv=>rhs;rw[<-gV post]
  exact Ng λv _=>rfl
 simp only[zk,Bz,Gt,Yq,e];rfl
theorem Pr{g:Ψ te.D->DL ds->Ω (DL (rs++[.list te]))}(t:∀c∈cs,c.Ok P)(hg:∀l x,g l x=AE4 P cs hs n F te ds rs post l x):(RJ.c2 F te ds rs post g).Ok P:=by
 intro l x y k d H id C;rw[hg]at k;have key:∃r m,y=vN (.list te) rs r m/\(∀v∈post,Pure v)/\Ei P F (.sl 0 (θ l) te.sz 0 (θ l)::(dZ ds x++post)) [.live (θ l) (te.E.cl l)] (C9 (nt (dZ rs r)) [.live (θ m) (te.E.cl m)]):=by
  unfold AE4 at k;split at k;rename_i fn hf;split at k;rename_i c hb;split at k;rename_i hn;simp only[BS]at hn;have b:∀v∈post,Pure v:=λv a=>AFP (F6.1 hn.2 v a);have w:([Dp.buf η te l (θ l) 0]:Aq)[0]?=δ (.buf η te l (θ l) 0):=rfl;have K:Oc (fD 0 (zk te ds post l x)) [.buf η te l (θ l) 0]:=by refine⟨lu λv a=>?_,λe B=>?_⟩;rcases A3.1 a with rfl|a;exact J2 (XL w);rcases Al.1 a with a|a;grind[mg];obtain⟨u,_,rfl⟩:=Bo.1 a;exact J2 trivial;rw[A7.1 B];exact rfl
  obtain⟨e,s,W,a1,k1,L,U⟩:=sN (N:=fn.ntmps) t (lf t n) F (hs F) c _ _ _ y K k;unfold AKG at k1;split at k1;rename_i B;split at k1;rename_i O ad;generalize T:((refsOf O).filter _)=ids at k1;obtain⟨o,M,Q⟩:=SH ids L;generalize Ih ids s W=fz at k1 o M Q;obtain⟨ef,hh⟩:=fz;simp only at k1 o M Q;split at k1;rename_i vs X q l1 J V a R;split at k1;rename_i z;split at k1;rename_i r hr;injection k1 with k1;have i:=Ty.beq_eq _ _ z;injection i with i;subst i;have p:(Ty.cast z l1:Ψ q.D)=l1:=rfl;rw[p]at k1;have I:J=θ l1:=o.heap _ (BQ R);refine⟨r,l1,k1.symm,b,?_⟩;have Y:BC [.buf η q l (θ l) 0]=[.live (θ l) (q.E.cl l)]:=rfl;have Z:BC [.buf η q l1 J V]=[.live (θ l1) (q.E.cl l1)]:=by rw[<-I];rfl
  rw[<-Y,<-Z,<-ADZ];apply Km hf hb (by rw[BY];exact Pe hn.1);rw[<-fE];refine J0.after (a1.awp.mono ?_);rintro _ _ _ ⟨rfl,rfl,rfl⟩;have G:1<=θ hh:=Cs U.step.len M.step.len;refine⟨_,_,(Q _).of_le (by rw[CT,CT];exact U.step.len),AJG B o a ?_⟩;rw[CT];refine vy (H2:=[.buf η q l1 J V]) G (λj e' _ h=>?_) rfl (X0 (Zs hr)) (Yz (QJ rs r));match j,h with
  |0,h=>simp only[dT,Ap]at h;subst h;exact⟨_,R,.inr (.inr (.inl ⟨_,_,_,_,_,_,_,rfl,rfl⟩))⟩
  |j+1,h=>simp at h
  cases k1;cases k1;cases k1;cases k1;cases k1;cases k;cases k;cases k
 obtain⟨r,m,rfl,b,key⟩:=key;rw[jq]at d⊢;simp only at d⊢;rw[<-d];rw[<-d]at C key;have f:∀v∈dZ ds x++post,Pure v:=λv a=>(Al.1 a).elim (QJ ds x v) (b v);have ha:AZ.renL ([id].getD · 0) (.sl 0 (θ m) te.sz 0 (θ m)::(dZ ds x++post))=.sl id (θ m) te.sz 0 (θ m)::(dZ ds x++post):=by simp only[AZ.renL,sH f];rfl
 exact Vk (H:=H) [id] key (Gv.2 ⟨k!,RW⟩) rfl rfl (λj X e A S=>by
   match j,A,S with
   |0,A,S=>grind[List.getElem?_cons_zero,Option.some.injEq]
   |j+1,A,_=>simp at A) (λe h=>by
   rw[A7.1 h];exact(Dn _ _).2 (yQ te l)) (λe h=>by
   rw[A7.1 h];exact(Dn _ _).2 (yQ te m)) (Yz (QJ rs r)) ha ((Dn _ _).2 λv a=>by
   rcases A3.1 a with rfl|a;rfl;exact(f v a).all _)
def pd{f:(Ψ te.D×DL ds→Ω (DL (rs++[.list te])))→Ψ te.D×DL ds→Ω (DL (rs++[.list te]))}(a:∀c∈cs,c.Ok P)
  (d:∀g l x,f g (l,x)=AE4 P (.c2 F te ds rs post (λl x=>g (l,x))::cs) hs n F te ds rs post l x):(RJ.c2 F te ds rs post λl x=>tU f (l,x)).Ok P:=by
 have key:∀m,(RJ.c2 F te ds rs post λl x=>pp f m (l,x)).Ok P:=by
  intro m;induction m with
  |zero=>intro l x y b;cases b
  |succ m h=>exact Pr (cs:=.c2 F te ds rs post (λl x=>pp f m (l,x))::cs) (A1 h a) λl x=>d (pp f m) l x
 intro l x y b;obtain⟨m,e⟩:=fF b;exact key m l x y e
end Go.Ab
namespace Go.Ab
def clW(fn:Func):Nat->String:=λi=>
 match fn.body with
 |some (.seq (.region _ a _) (.seq (.seq (.region _ b _) (.cond _ (.seq (.region _ c _) _) _)) (.seq (.region _ d _) _)))=>(((a++b++c++d)[i]?).map (·.pos)).getD default
 |_=>default
def ADg(t b:TypeId)(w:Nat->String):Code:=
 .seq (.region 0 #[⟨δ 2,.assign (.const (.slice ε 0 0)),t,w 0, #[],ε⟩] η)
  (.seq (.seq (.region 1 #[⟨δ 3,.move (.tmp 0),t,w 1, #[],ε⟩,⟨δ 4,.binOp .eql t (.tmp 3) (.const (.slice ε 0 0)) t,b,w 2, #[⟨0,.data⟩],ε⟩] η)
    (.cond (.tmp 4) (.seq (.region 2 #[⟨δ 2,.assign (.const (.slice ε 0 0)),t,w 3, #[],ε⟩] η) .ret) .skip))
   (.seq (.region 3 #[⟨δ 5,.buildSlice t 0 #[],t,w 4, #[],ε⟩,⟨δ 6,.move (.tmp 0),t,w 5, #[],ε⟩,
     ⟨δ 7,.call {callee:=.builtin .append,args:= #[.tmp 5,.tmp 6],argTypes:= #[t,t]},t,w 6, #[⟨0,.data⟩,⟨1,.data⟩],ε⟩,
     ⟨δ 2,.assign (.tmp 7),t,w 7, #[⟨2,.data⟩,⟨2,.chain⟩,⟨0,.phase⟩,⟨1,.phase⟩,⟨2,.phase⟩],ε⟩] η) .ret))
def PX.none{n0:Nat}{H:As}{id g sz off:Nat}(hn:n0<=θ H)(b:id<θ H)(k:0<sz):PX n0 (.sl id g sz off 0) H (.vs sz []) (H.set id .dead):=by
 refine⟨by simpa using hn,λX h w c s r=>?_⟩;obtain⟨p,t⟩:=s.kill b;refine⟨h,p,?_,λ_ _=>⟨rfl,rfl,rfl⟩,λB o=>?_⟩;cases r with
 |sl l m n q=>obtain⟨a,cap,rfl⟩:=n;exact Bv.vs (rows:=[]) (λ_ _=>undef) (Bh _) k (λj e h=>by simp at h) (λh=>(h rfl).elim) (λj e i v h=>by simp at h)
 obtain⟨i,e,l,d,m⟩:=o;rcases Jm b l with⟨_,f⟩|⟨rfl,rfl⟩;exact⟨i,e,f,d,m⟩;exact(d rfl).elim
variable {N n G:Nat}{R K:Type}{f:Ψ RJ}{F:FuncId}{P:Program}{k:Bool}{s:Ψ AZ}{x:Ty}{C:Int}{T:Value}
theorem uj{P:Program}{F:FuncId}{t b:TypeId}{a:Ty}(o:(P.funcs[F]?).map (λx=>(x.body,x.ntmps,x.results))=some (some (ADg t b (((P.funcs[F]?).map clW).getD (λ_=>default))),8, #[.tmp 2]))(I:elT P t=some a)(j:jj 0 a #[] []=true):(RJ.cl F a).Ok P:=by
 generalize ((P.funcs[F]?).map clW).getD (λ_=>default)=w at o;obtain⟨x,T,B⟩:=Wx.1 o;injection B with O B;injection B with hn hr;intro l H U;obtain⟨e,A,u⟩:=lm I;have J:=(Rf A).1;have z: ∀env,Tt P env t 0 #[]=some (a.sz,[]):=by intro env;unfold Tt;simp only[A];refine if_pos ⟨a.sz_pos,u,rfl,rfl,Bh _,?_⟩;unfold jj at j;simp only[BS]at j;exact Pe j.2
 have main: ∀Q:AZ→As→Prop,(l=[]→Q (.vs a.sz []) (BC (H++[.dead])))→(∀r,l≠ []→app [] l=some r→Q (.sl H.length r.length a.sz 0 r.length) (BC (H++[.buf false a r r.length 0])))→
   (l=[]\/ ∃r,app [] l=some r)->Ei P F [.vs a.sz (l.map a.enc)] (BC H) Q:=by
  intro Q L M f;refine Km T O (by rw[hn];simp) ?_;rw[hn];refine J0.seq (Fk rfl (Xv.cons rfl (Dm (v:=.nils) rfl (Xv.nil (J0.seq (J0.seq (Fk rfl (Xv.cons rfl (Dm (v:=.vs a.sz (l.map a.enc)) rfl (Xv.cons rfl (u6 (sz:=a.sz) (rows:=l.map a.enc) rfl J rfl λK S=>Xv.nil ?_)))))))))));have k:K=true->l=[]:=λh=>by by_cases i:l=[]<;>simp_all
  have d:(BC H++[FO.live 0 []]).set (BC H).length FO.dead=BC (H++[.dead]):=by simp_all[T9,Am,Gw,BC,Dp.enc]
  refine J0.cond (b:=K) rfl (λy=>?_) (λR=>?_)
  ·refine J0.seq (Fk rfl (Xv.cons rfl (Dm (v:=.nils) rfl (Xv.nil (J0.weak (FN.virt (t:=2) (sz:=a.sz) rfl) (J0.ret (⟨.sl (BC H).length 0 a.sz 0 0,.vs a.sz [],(BC H++[FO.live 0 []]).set (BC H).length FO.dead,by simp[kC,hr,T2,o8,Env.putO,Env.put,Env.get],PX.none (by simp) (by simp) a.sz_pos,?_⟩)))))));rw[d];exact L (k y)
  ·refine J0.skip (J0.seq (Fk rfl (Xv.cons rfl (Un (sz:=a.sz) (vs:=[]) rfl (z _) (Xv.cons rfl (Dm (v:=.vs a.sz (l.map a.enc)) rfl (Xv.cons rfl ?_)))))));have G:Ka (BC H++[FO.live 0 []]) a.sz (.vs a.sz (l.map a.enc))=some (l.length,a.E.cl l):=by simp only[Ka,if_true,BY];rfl
   have p:0+l.length<=16777216:=by
    rcases f with rfl|⟨r,hr⟩
    ·simp
    ·obtain⟨M,_⟩:=pG hr;simpa using M
   refine S4 (sx:=.tmp 5) (xx:=.tmp 6) (H:=BC H++[FO.live 0 []]) (id:=(BC H).length) (g:=0) (g':=l.length) (n:=0) (cs:=[]) (m:=l.length) (news:=a.E.cl l) rfl A a.sz_pos u rfl (by simp) (by simp) G p (by
    rcases Wv l.length with q|q
    ·exact .inr ⟨q,q⟩
    ·exact .inl q) ?_
   refine Xv.cons rfl (Dm (v:=.sl (BC H).length l.length a.sz 0 (0+l.length)) rfl (Xv.nil (J0.ret ?_)));have N:(BC H++[FO.live 0 []]).set (BC H).length (.live l.length ([]++a.E.cl l))=BC (H++[.buf false a l l.length 0]):=by simp_all[T9,Am,Gw,BC,Dp.enc]
   by_cases i:l=[]
   ·subst i;refine⟨.sl (BC H).length 0 a.sz 0 0,.vs a.sz [],(BC H++[FO.live 0 []]).set (BC H).length FO.dead,by simp[kC,hr,T2,o8,Env.putO,Env.put,Env.get],?_,?_⟩
    ·have:=PX.none (n0:=(BC H).length) (H:=BC H++[FO.live 0 []]) (id:=(BC H).length) (g:=0) (off:=0) (by simp) (by simp) a.sz_pos;have e:(BC H++[FO.live 0 []]).set (BC H).length (.live ([]:List a.D).length ([]++a.E.cl []))=BC H++[FO.live 0 []]:=by rw[T9 _ _ (Am _),Gw];rfl
     rw[e];exact this
    ·rw[d];exact L rfl
   ·rcases f with h|⟨r,c⟩
    ·exact(i h).elim
    ·obtain⟨_,C⟩:=pG c;have s:l=r:=by simpa using C.symm
     subst s;refine⟨.sl (BC H).length l.length a.sz 0 l.length,_,_,by simp[kC,hr,T2,o8,Env.putO,Env.put,Env.get],PX.refl _ _ (by simp),?_⟩;grind[CT]
 refine⟨λi=>?_,λr i hr=>?_⟩
 ·subst i;exact main _ (λ_=>⟨rfl,rfl⟩) (λr h=>(h rfl).elim) (.inl rfl)
 ·exact main _ (λh=>(i h).elim) (λV _ c=>by rw[hr]at c;injection c with c;subst c;exact⟨rfl,rfl⟩) (.inr ⟨r,hr⟩)
abbrev i64:Ty:=.int .i64
abbrev hn(k i:Nat)(s:Ψ PY)(e:Ψ (Exit×Ψ PY)):Hint:=⟨k,i,[],[],[],[],s,e⟩
def k0{P:Program}{a d:Ψ Ty}{g:DL a→Ω (DL d)}(l:Ψ (Nat×Ψ Hint))(b:∀c∈f,c.Ok P)
  (e:g=λx=>zp P f (ac l) 13 F a d x:=by kernel_rfl):(RJ.c0 F a d g).Ok P:=yV b λx=>congrFun e x
def k1{P:Program}{a:Ty}{d h:Ψ Ty}{g:a.D→DL d→Ω (DL (h++[a]))}(l:Ψ (Nat×Ψ Hint))(e:∀c∈f,c.Ok P)
  (i:g=λb x=>AE3 P f (ac l) 13 F N a d h b x:=by kernel_rfl):(RJ.c1 F N a d h g).Ok P:=AHF e λb x=>congrFun (congrFun i b) x
noncomputable def ADI{α:Type}(key:α->Int)(l:Ψ α):Ω (Ψ α):=if(l.map key).Nodup/\θ l<=16777216 then δ (l.mergeSort λa b=>decide (key a<=key b))else ε
def ACO{key:R->Int}{l m:Ψ R}(hn:(l.map key).Nodup)(p:m.Perm l)(t:m.Pairwise λa b=>key a<=key b):m=l.mergeSort λa b=>decide (key a<=key b):=by
 have d:(l.mergeSort λa b=>decide (key a<=key b)).Perm l:=List.mergeSort_perm _ _;have o:(l.mergeSort λa b=>decide (key a<=key b)).Pairwise λa b=>key a<=key b:=by refine(List.pairwise_mergeSort (le:=λa b=>decide (key a<=key b)) ?_ ?_ l).imp λh=>N! h;intro a b c d o;simp only[K!]at*;omega;intro a b;simp only[Wy,K!];omega
 refine ql (le:=λa b=>key a<=key b) ?_ t o (p.trans d.symm);intro a b r s u v;have e:key a=key b:=o!
 have f:=p.subset r;have g:=d.subset s;obtain⟨i,k⟩:=Cu f;obtain⟨j,n⟩:=Cu g;have:=(List.getElem?_inj (l:=l.map key) (i:=i) (j:=j) (by rw[BY];exact(F8.1 k).1) hn).1 (by simp[k,n,e]);subst this;rw[k]at n;exact BL n
theorem w64(h: -9223372036854775808<=C/\C<=9223372036854775807):ι .i64 C=C:=by grind[IntKind.wrap_i64]
def ADz{body:K->Ω (Step K R)}(I:K->Prop)(Q:R->Prop)(b:K->Nat)(i:∀s,I s->(∃r,body s=δ (.done r)/\Q r)\/∃a,body s=δ (.next a)/\I a/\b a<b s){s:K}(h:I s):∃r,Ad body s=δ r/\Q r:=by
 have key:∀(n:Nat)(s:K),b s<n->I s->∃r,Ad body s=δ r/\Q r:=by
  intro n;induction n with
  |zero=>intro s j;omega
  |succ n k=>intro s j g;rcases i s g with⟨r,c,d⟩|⟨a,c,d,l⟩;exact⟨r,by rw[Eh,c],d⟩;obtain⟨r,e,f⟩:=k a o! d;exact⟨r,by rw[Eh,c];exact e,f⟩
 exact key (b s+1) s o! h
theorem AHX{l:Ψ R}{x:R}(h:l[N]?=δ x):ix l (N:Int)=δ x:=by unfold ix;grind[s?]
def AKO{l:Ψ R}(a:0<=C)(c:C<θ l):∃x,ix l C=δ x/\l[C.toNat]?=δ x:=by
 obtain⟨n,rfl⟩:=FY a;have hn:n<θ l:=o!
 exact⟨l[n],AHX (Ar hn),by simp[hn]⟩
def AI2{l a:Ψ R}(h:θ l+θ a<=16777216):app l a=δ (l++a):=C! h
theorem AG2(a:F5 n R)(h:N<n):F4 a (N:Int)=δ (a ⟨N,h⟩):=by grind[F4]
def Ao(o:Ω R)(Q:R->Prop):Prop:=∃r,o=δ r/\Q r
section
variable {α β γ:Type}
theorem AB{r:α}{Q:α->Prop}(h:Q r):Ao (.some r) Q:=⟨r,rfl,h⟩
def Ao.mono{o}{P Q:α->Prop}(h:Ao o P)(c:∀r,P r->Q r):Ao o Q:=by obtain⟨r,a,b⟩:=h;exact⟨r,a,c r b⟩
theorem AA{o}{k:α->Ω β}{P:α->Prop}{Q:β->Prop}(h:Ao o P)(b:∀r,P r->Ao (k r) Q):Ao (σ o k) Q:=by obtain⟨r,rfl,a⟩:=h;exact b r a
theorem EE{o}{k:α->Ω β}{P:α->Prop}{Q:β->Prop}(h:Ao o P)(b:∀r,o=.some r->P r->Ao (k r) Q):Ao (σ o k) Q:=by obtain⟨r,rfl,a⟩:=h;exact b r rfl a
def AM{o}{k:α->Ω β}{P:α->Prop}{Q:β->Prop}(a:∀r,P r->Ao (k r) Q)(h:Ao o P):Ao (σ o k) Q:=AA h a
def AJ{a b}{Q:α->Prop}(d:k=ζ->Ao a Q)(e:k=η->Ao b Q):Ao (bif k then a else b) Q:=by
 cases k with
 |true=>exact d rfl
 |false=>exact e rfl
def AC{p:Prop}{_:Decidable p}{a b}{Q:α->Prop}(c:p->Ao a Q)(d:¬p->Ao b Q):Ao (bif decide p then a else b) Q:=AJ (λh=>c (N! h)) (λh=>d (of_decide_eq_false h))
theorem AP{a b}{Q:α->Prop}(d:k=η->Ao a Q)(e:k=ζ->Ao b Q):Ao (bif !k then a else b) Q:=by
 cases k with
 |true=>exact e rfl
 |false=>exact d rfl
theorem AT{_:BEq R} [LawfulBEq R] {x y:R}{a b}{Q:α->Prop}(c:x=y->Ao a Q)(d:x≠y->Ao b Q):Ao (bif x==y then a else b) Q:=AJ (λh=>c (eq_of_beq h)) (λh=>d (ne_of_beq_false h))
theorem AK{_:BEq R} [LawfulBEq R] {x y:R}{a b}{Q:α->Prop}(c:x≠y->Ao a Q)(d:x=y->Ao b Q):Ao (bif x !=y then a else b) Q:=by refine AJ (λh=>c λe=>?_) (λh=>d ?_);subst e;simp at h;simpa using h
def Bi{a b:Ω α}{c:α->Ω β}{Q:β->Prop}(h:Ao (bif k then σ a c else σ b c) Q):Ao (σ (bif k then a else b) c) Q:=by cases k<;>exact h
theorem BA{a:α}{k:α->Ω β}{Q:β->Prop}(h:Ao (k a) Q):Ao (σ (.some a) k) Q:=h
def B0{o:Ω α}{f:α->Ω β}{k:β->Ω γ}{Q:γ->Prop}(h:Ao (σ o λv=>σ (f v) k) Q):Ao (σ (σ o f) k) Q:=by cases o<;>exact h
def LN{f:α->Ω γ}{g:β->Ω γ}{o:α⊕β}{k:γ->Ω R}{Q:R->Prop}(h:Ao (ν (λu=>σ (f u) k) (λu=>σ (g u) k) o) Q):Ao (σ (ν f g o) k) Q:=by cases o<;>exact h
theorem BB{u:α}{f:α->Ω γ}{g:β->Ω γ}{Q:γ->Prop}(h:Ao (f u) Q):Ao (ν f g (.inl u)) Q:=h
theorem Au{u:β}{f:α->Ω γ}{g:β->Ω γ}{Q:γ->Prop}(h:Ao (g u) Q):Ao (ν f g (.inr u)) Q:=h
theorem BE{f:α->Ω γ}{g:β->Ω γ}{o:α⊕β}{Q:γ->Prop}(a:∀u,o=.inl u->Ao (f u) Q)(b:∀u,o=.inr u->Ao (g u) Q):Ao (ν f g o) Q:=by
 cases o with
 |inl u=>exact a u rfl
 |inr u=>exact b u rfl
def Ao.get{o}{Q:α->Prop}{r:α}(h:Ao o Q)(e:o=.some r):Q r:=by obtain⟨s,a,b⟩:=h;rw[e]at a;injection a with a;rw[a];exact b
def Ao.and{o}{P Q:α->Prop}(h:Ao o P)(g:Ao o Q):Ao o λr=>P r/\Q r:=by obtain⟨r,a,b⟩:=h;exact⟨r,a,b,g.get a⟩
theorem AE{l:List α}{i:Int}(b:0<=i)(c:i<l.length):Ao (ix l i) λx=>l[i.toNat]? = .some x/\x∈l:=by obtain⟨x,d,a⟩:=AKO b c;exact⟨x,d,a,BQ a⟩
theorem Ac{l a:Ψ α}(h:θ l+θ a<=16777216):Ao (app l a) λr=>r=l++a/\θ r=θ l+θ a/\θ r<=16777216:=⟨_,AI2 h,rfl,k!,w!⟩
theorem Cb{a b:Bc}(h:θ a+θ b<=9223372036854775807):Ao (sapp a b) λr=>r=a++b/\θ r=θ a+θ b:=by refine⟨a++b,?_,rfl,k!⟩;unfold Go.Ab.sapp;rw[C! h]
theorem Cj{s:Bc}{lo hi:Int}(a:0<=lo)(b:lo<=hi)(c:hi<=s.length):Ao (US s lo hi) λr=>r=(s.drop lo.toNat).take (hi.toNat-lo.toNat)/\(r.length:Int)=hi-lo:=by refine⟨_,if_pos ⟨a,b,c⟩,rfl,?_⟩;rw[BK,Dr];omega
theorem Bs{s:List α}{lo hi:Int}(a:0<=lo)(b:lo<=hi)(c:hi<=s.length):Ao (WB s lo hi) λr=>r=(s.drop lo.toNat).take (hi.toNat-lo.toNat)/\(r.length:Int)=hi-lo:=by refine⟨_,if_pos ⟨a,b,c⟩,rfl,?_⟩;rw[BK,Dr];omega
def Vm{s:Bc}{i:Int}(a:0<=i)(c:i<θ s):Ao (six s i) λb=>0<=b/\b<256:=by
 obtain⟨n,rfl⟩:=FY a;have hn:n<θ s:=o!
 refine⟨(s[n].toNat:Int),?_,o!,?_⟩;unfold Go.Ab.six;simp[hn];have:=s[n].toNat_lt;omega
def Ca{a:F5 n α}(b:0<=C)(c:C<n):Ao (F4 a C) λx=>x=a ⟨C.toNat,o!⟩:=by obtain⟨k,rfl⟩:=FY b;exact⟨_,AG2 a o!,rfl⟩
theorem AAI{z:α}(a:0<=C)(b:C<=16777216):Ao (mk z C C) λr=>r=ς C.toNat z/\(θ r:Int)=C:=by refine⟨ς C.toNat z,?_,rfl,w!⟩;unfold Go.Ab.mk;rw[C! ⟨a,AY _,b⟩]
def AW{body:K→Ω (Step K R)}(I:K→Prop)(c:K→Nat){Q:R→Prop}{s:K}(e:I s)
  (h:∀s,I s->Ao (body s) λst=>match st with|.next a=>I a/\c a<c s|.done r=>Q r):Ao (Ad body s) Q:=by
 obtain⟨r,f,g⟩:=ADz (body:=body) I Q c (λs i=>by
  obtain⟨st,d,b⟩:=h s i;cases st with
  |next a=>exact .inr ⟨a,d,b.1,b.2⟩
  |done r=>exact .inl ⟨r,d,b⟩) e
 exact⟨r,f,g⟩
theorem Xt(n:Int):ι .u64 n=n%18446744073709551616:=by simp[ι,IntKind.bits,IntKind.signed]
theorem xz(n:Int):ι .u32 n=n%4294967296:=by simp[ι,IntKind.bits,IntKind.signed]
def AKu(n:Int):ι .u8 n=n%256:=by simp[ι,IntKind.bits,IntKind.signed]
def cL{Q:α->Prop}(h:False):Ao .none Q:=h.elim
theorem AX{x:Int}(h: -9223372036854775808<=x/\x<=9223372036854775807:=by omega):wi x=x:=w64 h
theorem l!{P:Prop}(h:P:=by (try dsimp[len]at*);(try first|omega|assumption|grind[AX])):P:=h
theorem i!{P:Prop}(h:P:=by simp only[len];omega):P:=h
theorem x!{P:Prop}(h:P:=by (repeat' with_reducible first|intro a|apply AC|apply AP|(apply BB;try dsimp only)|apply AT|apply AK|(apply BA;try dsimp only)|apply AJ|(apply Au;try dsimp only)|(apply BE<;>(intro u a;try subst a))|(refine AM ?_ (O6 ?_);intro r hr)|apply Bi|(apply AA (BM);intro r hr)|(apply AA (Mq);intro r hr)|(refine AM ?_ (cO ?_);intro r hr)|(refine AM ?_ (YB ?_);intro r hr)|(apply AA (Ta);intro r hr)|(refine AM ?_ (aO ?_);intro r hr)|(refine AM ?_ (aL ?_);intro r hr)|(refine AM ?_ (X8 ?_);intro r hr)|(apply AA (jO);intro r hr)|apply LN|(apply AA (EM);intro r hr)|apply AB|apply B0|(refine AM ?_ (Nw ?_);intro r hr)|apply cL|(refine AM ?_ (GC ?_ ?_);intro r hr)|(refine AM ?_ (fq ?_);intro r hr)|(refine AM ?_ (ZZ ?_);intro r hr)|(refine AM ?_ (IH ?_);intro r hr)|(refine AM ?_ (Rm ?_);intro r hr)|(rw[w _ _ rfl rfl];apply BA;dsimp only)|(refine AM ?_ (IL ?_);intro r hr)|(apply AA (Du);intro r hr)|(apply AA (Oz);intro r hr)|(apply AA (qB);intro r hr)|(refine AM ?_ (DZ ?_);intro r hr)|(refine AM ?_ (FG ?_);intro r hr)|(apply AA (GJ);intro r hr)|(refine AM ?_ (KM ?_);intro r hr)|(refine AM ?_ (Zi ?_);intro r hr)|(apply AA (Fe);intro r hr)|(refine AM ?_ (cP ?_);intro r hr)|(refine AM ?_ (DB ?_);intro r hr)|(refine AM ?_ (Vx ?_);intro r hr)|(refine AM ?_ (Ti ?_);intro r hr)|(refine AM ?_ (Se ?_);intro r hr)|(apply AA (M0);intro r hr)|(apply AA (Vw);intro r hr)|(refine AM ?_ (Pz ?_);intro r hr)|(refine AM ?_ (Yn ?_);intro r hr)|(refine AM ?_ (ZV ?_);intro r hr)|(apply AA (fj);intro r hr)|(refine AM ?_ (aN ?_);intro r hr)|(apply AA (fZ);intro r hr)|(refine AM ?_ (kg ?_);intro r hr)|(apply AA (G7);intro r hr)|(apply AA (qC);intro r hr)|(apply AA (Cf);intro r hr)|(refine AM ?_ (Zf ?_);intro r hr)|(apply AA (GA);intro r hr)|(apply AA (Ot);intro r hr)|(refine AM ?_ (Rn ?_);intro r hr)|(refine AM ?_ (Zg ?_);intro r hr)|(refine AM ?_ (Ze ?_);intro r hr)|(refine AM ?_ (Zj ?_);intro r hr)|(refine AM ?_ (Xf ?_ ?_);intro r hr)|(refine AM ?_ (Yj ?_);intro r hr)|(refine AM ?_ (aM ?_);intro r hr)|(apply AA (rW);intro r hr)|(refine AM ?_ (Qa ?_);intro r hr)|(apply AA (kp);intro r hr)|(refine AM ?_ (Yh ?_);intro r hr)|(refine AM ?_ (aR ?_);intro r hr)|(apply AA (qD);intro r hr)|(refine AM ?_ (ZU ?_);intro r hr)|(refine AM ?_ (aP ?_);intro r hr)|(refine AM ?_ (Za ?_);intro r hr)|(refine AM ?_ (WK ?_);intro r hr)|(refine AM ?_ (aT ?_);intro r hr)|(refine AM ?_ (cN ?_);intro r hr)|(apply AA (TY);intro r hr)|(refine AM ?_ (Zc ?_);intro r hr)|(refine AM ?_ (ZW ?_);intro r hr)|(refine AM ?_ (cR ?_);intro r hr)|(apply AA (Ea);intro r hr)|(refine AM ?_ (Rl ?_);intro r hr)|(apply AA (CD);intro r hr)|(refine AM ?_ (AE ?_ ?_);rintro r ⟨hr,b⟩)|(apply AA (Kz);intro r hr)|(refine AM ?_ (Ac ?_);rintro r ⟨hr,b,c⟩)|(refine AM ?_ (Zb ?_);intro r hr)|(refine AM ?_ (Zk ?_);intro r hr)|(refine AM ?_ (Gg ?_);intro r hr)|(refine AM ?_ (Vm ?_ ?_);rintro r ⟨hr,b⟩)|(refine AM ?_ (Yl ?_);intro r hr)|(refine AM ?_ (fX ?_);intro r hr)|(refine AM ?_ (Yk ?_);intro r hr)|(refine AM ?_ (Yi ?_);intro r hr)|(refine AM ?_ (YA ?_);intro r hr)|(apply AA (vF);intro r hr)|(refine AM ?_ (Cb ?_);rintro r ⟨hr,b⟩)|(apply AA (Ut);intro r hr)|(apply AA (cU);intro r hr)|(refine AM ?_ (Ca ?_ ?_);intro r hr)|(refine AM ?_ (ZY ?_);intro r hr)|(refine AM ?_ (Rp ?_);intro r hr)|(refine AM ?_ (X9 ?_);intro r hr)|(refine AM ?_ (ZX ?_);intro r hr)|(refine AM ?_ (Bs ?_ ?_ ?_);rintro r ⟨hr,b⟩)|(refine AM ?_ (Zl ?_);intro r hr)|(apply AA (fN);intro r hr)|(refine AM ?_ (Cj ?_ ?_ ?_);rintro r ⟨hr,b⟩));all_goals(first|((try dsimp[len]at*);first|omega|assumption|grind[AX])|grind|((try dsimp[len]at*);first|grind[DI,Dg,Dg.last,GG,Kv,QI,SB,VK,Z3,bO,len,oM,pB,qZ,AX]|grind[AX,Dg]|grind[SB,VK,GG,QI]|grind[QI,Kv,qZ,pB]|grind[Dg.last]|grind[oM]|grind[AX,bO]|grind[AX,Z3]|grind[DI]|((try simp (disch:=omega) only[AX,len]at*)<;>(try intros)<;>(try and_intros)<;>(try intros)<;>(first|omega|assumption|grind))))):P:=h
def AGf(x:Int):wi x=(x+9223372036854775808)%18446744073709551616-9223372036854775808:=by unfold wi;rw[IntKind.wrap_i64]
end
def Kj(I:K->Prop)(μ:K->Nat)(m:Nat)(Q:R->Prop):Step K R->Prop
 |.next s'=>I s'/\μ s'<m
 |.done r=>Q r
def CE{body:K->Ω (Step K R)}(I:K->Prop)(a:K->Nat){Q:R->Prop}{s:K}(b:I s)(c:∀s,I s->Ao (body s) (Kj I a (a s) Q)):Ao (Ad body s) Q:=AW I a b λs d=>(c s d).mono λst h=>by cases st<;>exact h
theorem Ao.next{I:K->Prop}{a:K->Nat}{m:Nat}{Q:R->Prop}{s:K}(h:I s)(b:a s<m):Ao (Option.some (Step.next s)) (Kj I a m Q):=⟨_,rfl,h,b⟩
theorem Ao.done{I:K->Prop}{a:K->Nat}{Q:R->Prop}{r:R}(h:Q r):Ao (Option.some (Step.done r)) (Kj I a N Q):=⟨_,rfl,h⟩
theorem k?{S R:Type}{I:S->Prop}{a:S->Nat}{m:Nat}{Q:R->Prop}{r:R}(h:Q r):Ao (some (Step.done r)) (Kj I a m Q):=⟨_,rfl,h⟩
theorem y!{S R:Type}{I:S->Prop}{a:S->Nat}{m:Nat}{Q:R->Prop}{s:S}(h:I s)(b:a s<m):Ao (some (Step.next s)) (Kj I a m Q):=⟨_,rfl,h,b⟩
theorem y?{α:Type}{p:Prop}{r:α}{Q:α->Prop}(h:Q r):p->Ao (some r) Q:=fun _=>⟨r,rfl,h⟩
theorem h!{P:Prop}(h:P:=by kernel_rfl):P:=h
theorem b!{P:Prop}(h:P:=by simp[len];omega):P:=h
open Go.ChangeShapes Go.WideShapes Go.ChangeAt Go.RowKit
def gh0:Gh:=⟨λ_=>ε,λ_=>0,λ_=>0⟩
def cx0(w:World):Cx:=cx (λ_=>False) gh0 [] w
def ALU(w:World):Ig (λ_=>False) gh0 [] w where
 out B h:=h.elim
 live id g cs h:=by simp at h
 lp id L h:=by simp at h
 inj id id' e e' B h:=by simp at h
 bld id e h:=by simp at h
theorem ABv{w}:¬(cx0 w).O N:=by rintro(h|⟨id,e,h,_⟩);exact h;grind
def ay{Q:AZ→As→Prop}(h:Ei P F s [] Q){w:World}{cargs:Array Value}(hn:cargs.size=θ s)
  (d:∀(j:Nat)(v:AZ)(c:Value),s[j]?=δ v->cargs[j]?=δ c->Bv (cx0 w) v c):
  Calls P F cargs w λe b=>∃c v x a,e=.returned c/\Q v a/\Bv x v c/\Below w.heap.size w b:=by
 refine(h (λ_=>False) gh0 w cargs (ALU w) hn d).mono ?_;rintro e b ⟨c,v,i,a,rfl,q,_,r,x⟩;refine⟨c,v,_,a,rfl,q,r,x.os,x.tape,x.output,x.size,λk g=>x.keep k g ?_⟩;rintro⟨id,e,f,_⟩;simp at f
def AEQ{w:World}{k:IntKind}{a:Addr}{len cap:Nat}{b:Ψ Int}(A:len≤cap)(D:θ b=cap)(t:∀i,i<θ b→w.cell? (a.add i)=δ (.int k (b.getD i 0)))(q:a.block<w.heap.size∨len=0):
  Bv (cx0 w) (.vs 1 ((b.take len).map λn=>.int k n)) (.slice (δ a) len cap):=by
 have d:((b.take len).map λn=>AZ.int k n).length=len:=w!
 have g:∀(j:Nat)(e:AZ),((b.take len).map λn=>AZ.int k n)[j]?=δ e->j<len/\e=.int k (b.getD j 0):=by
  intro j e h;rw[B9]at h;cases c:(b.take len)[j]? with
  |none=>rw[c]at h;cases h
  |some n=>
   rw[c]at h;simp only[Br,Ap]at h;subst h;have p:j<(b.take len).length:=by rcases Aw j (b.take len).length with h|h;exact h;rw[Cn h]at c;cases c
   simp only[BK]at p;rw[JO o!]at c;exact⟨o!,by rw[R7,c];rfl⟩
 have key:=Bv.vs (x:=cx0 w) (sz:=1) (rows:=(b.take len).map λn=>.int k n) (a:=δ a) (cap:=cap) (λj _=>.int k (b.getD j 0)) (by rw[d];exact A) o!
  (λj e h=>by rw[(g j e h).2];rfl)
  (λr=>by
   have C:0<len:=by rcases Wv len with h|h;subst h;simp at r;exact h
   have m:a.spot=ε:=by have:=t 0 o!;unfold World.cell? at this;split at this;split at this;cases this;rename_i u;simp only[Addr.add,if_true]at u;simpa using u;cases this
   obtain⟨B,s,E⟩:=a;simp only at m;subst m;refine⟨B,s,rfl,ABv,?_,λj e i v c l=>?_⟩;rcases q with h|h;exact h;omega;obtain⟨y,o⟩:=g j e c;subst o;have f:i=0:=by
    simp only[AZ.cells]at l;cases i with
    |zero=>rfl
    |succ i=>simp at l
   subst f;refine⟨?_,rfl⟩;have:=t j o!;simp only[Nat.mul_one,Lc];show w.cell? _=_;rw[<-this];unfold Addr.add;split;rename_i z;subst z;rfl;rfl)
  (λj e i v c l=>by
   obtain⟨y,o⟩:=g j e c;subst o;have f:v=.int k (b.getD j 0):=by
    simp only[AZ.cells]at l;cases i with
    |zero=>simpa using l.symm
    |succ i=>simp at l
   subst f;exact .int _ _)
 rw[d]at key;exact key
def AGd{w}:Bv (cx0 w) (.vs 1 []) (.slice ε 0 0):=Bv.vs (x:=cx0 w) (sz:=1) (rows:=[]) (a:=ε) (cap:=0) (λ_ _=>.nilFunc) k! o! (λj e h=>by simp at h) (O! rfl ·) (λj e i v h=>by simp at h)
open Go.RowKit
def lI{args:Ψ AZ}{v}(h:∀w(a:Array Value),a.size=θ args→(∀(j:Nat)(u:AZ)(c:Value),args[j]?=δ u→a[j]?=δ c→ ∃x,Bv x u c)→
  Calls P F a w λe i=>∃c,e=.returned c/\(∀x,Bv x v c)/\Below w.heap.size w i) (H:As):Ei P F args H (C9 v H):=by
 intro X g w a s p hr;refine(h w a p λj u c m n=>⟨_,hr j u c m n⟩).mono ?_;rintro e i ⟨c,rfl,q,b⟩;have l:G3 g H w g H i:=⟨b.os,b.tape,b.output,b.size,λB d _=>b.block B d,Am _,λ_ _=>Am _,λ_ _ _=>⟨rfl,rfl⟩,λB o=>.inl o,λB r hr=>⟨r,(b.block B (by rcases Aw B w.heap.size with h|h;exact h;simp[uS h]at hr)).trans hr⟩⟩
 exact⟨c,v,g,H,rfl,⟨rfl,rfl⟩,s.of_ext l (λid e k f=>.inl ⟨k,rfl,rfl,rfl,λB d=>b.block B (s.io_at k f d)⟩) s.inj,q _,l⟩
def AA5{x}{s:Ψ UInt8}(h:Bv x (.str s) T):T=.string ⟨s.toArray⟩:=by cases h;rename_i t h;subst h;rfl
def mi{x}{k:IntKind}(h:Bv x (.int k C) T):T=.int k C:=by cases h;rfl
def AGS{key:R->Int}{l:Ψ R}(hn:(l.map key).Nodup):∀a∈l,∀b∈l,key a=key b->a=b:=by intro a g b h e;obtain⟨i,c⟩:=Cu g;obtain⟨j,d⟩:=Cu h;have:=(List.getElem?_inj (l:=l.map key) (i:=i) (j:=j) (by rw[BY];exact(F8.1 c).1) hn).1 (by simp[c,d,e]);subst this;rw[c]at d;exact BL d
def ACP{key:R->Int}{l m:Ψ R}(hn:∀a∈l,∀b∈l,key a=key b->a=b)(f:m.Perm l)(k:m.Pairwise λa b=>key a<=key b):m=l.mergeSort λa b=>decide (key a<=key b):=by
 have d:(l.mergeSort λa b=>decide (key a<=key b)).Perm l:=List.mergeSort_perm _ _;have e:(l.mergeSort λa b=>decide (key a<=key b)).Pairwise λa b=>key a<=key b:=by refine(List.pairwise_mergeSort (le:=λa b=>decide (key a<=key b)) ?_ ?_ l).imp λh=>N! h;intro a b c d e;simp only[K!]at*;omega;intro a b;simp only[Wy,K!];omega
 refine ql (le:=λa b=>key a<=key b) ?_ k e (f.trans d.symm);intro a b i j n o;exact hn a (f.subset i) b (d.subset j) o!
end Go.Ab
