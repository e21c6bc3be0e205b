/- A layer over the model in which values are trees: its laws and a typed interpreter, part 3. Texts of the folder wip, laid in few files with shorter names by a program (wip/tools/pack.py); nothing is assumed. -/
import Derived.Test.YtacnadmajkjfbaaGreatK2
import Derived.ProofKit
set_option linter.unusedVariables false
set_option linter.unusedSimpArgs false
set_option linter.unusedSectionVars false
set_option linter.unnecessarySimpa false
set_option linter.deprecated false
set_option linter.defProp false
namespace Go.Ab
inductive Tgt where
 |fn (F:FuncId)
 |yd (id:Nat)
abbrev RJ:= ∀{R:Type},Tgt->List TV->An->(TV->An->Option R)->Option R
def bT(ops:Array Oper)(g:Option (Nat×Bool))(env:BY):Option Bool:=
 match g with
 |none=>some true
 |some (j,want)=>
  match (ops[j]?).bind (·.dst)with
  |some d=>match env.get d with| .c (.bl b)=>some (b==want)| .tup []=>some false|_=>none
  |none=>none
def KI:List Bd->List Nat
 |[]=>[]
 | .own id _ _ _::r=>id::KI r
 |_::r=>KI r
def behind(H:An)(v:TV):List Nat:=
 match v with
 | .c (.raw (.ptr id 0 0))=>match H[id]? with|some (.live false cs)=>KI cs|_=>[]
 |v=>KI v.refs
def HQ:List Nat->BY->An->BY×An
 |[],env,H=>(env,H)
 |id::r,env,H=>match frz id env H with|some (e,h)=>HQ r e h|none=>HQ r env H
def kA:List Sf->FuncId->Option Sf
 |[],_=>none
 |c::r,F=>match Nat.beq c.f F with|true=>some c|false=>kA r F
def eE(env:BY)(op:Op):Option (FuncId×List TV):=
 match op with
 | .call c=>
  match c.callee with
  | .value f=>match Ij env f with| .c (.raw (.fn (.func F) first caps))=>some (F,first.map vU++c.args.toList.map (Ij env)++caps.map vU)|_=>none
  |_=>none
 |_=>none
def ml(env:BY)(c:Call):Option (Nat×List TV):=
 match c.callee with
 | .value f=>match Ij env f with| .c (.raw (.yf id))=>some (id,c.args.toList.map (Ij env))|_=>none
 |_=>none
def dd(cs:List Sf)(env:BY)(H:An)(op:Op):List Nat:=
 match op with
 | .call c=>
  match eE env (.call c)with
  |some (F,vs)=>match kA cs F with|some ct=>(AB4 ct vs).flatMap (behind H)|none=>[]
  |none=>[]
 | .buildSlice _ _ parts=>parts.toList.flatMap λp=>KI (Ij env p.2).refs
 | .store _ a v=>match Ij env a with| .aptr .. =>KI (Ij env v).refs| .bptr .. =>KI (Ij env v).refs|_=>[]
 | .slice _ x _ _ _=>KI (Ij env x).refs
 |_=>[]
def Tk(H H':An):An:=H++H'.drop H.length
def isNil{α:Type}:List α->Bool
 |[]=>true
 |_=>false
section
variable {R:Type}
def oe(cs:List Sf)(env:BY)(H:An)(op:Op):List Nat:=
 match op with
 | .store _ a _=>yh (Ij env a)
 | .mapUpdate .. =>List.range H.length
 | .call c=>
  match eE env (.call c)with
  |some (F,vs)=>match kA cs F with|some ct=>yS ct vs|none=>(match isNil vs with|true=>[]|false=>List.range H.length)
  |none=>
   match ml env c with
   |some _=>List.range H.length
   |none=>match c with|{callee:=.builtin .append,args:=⟨[s,_]⟩,.. }=>yh (Ij env s)|_=>[]
 |_=>[]
def qB(P:Program)(cs:List Sf)(call:RJ)(env:BY)(H:An)(op:Op)(k:TV->An->Option R):Option R:=
 match op with
 | .alloc t=>rP P H t k
 | .box _ x=>yI H (Ij env x) k
 | .store t a v=>storeT P H t (Ij env a) (Ij env v) k
 | .buildSlice t len parts=>Wn P env H t len parts k
 | .makeSlice t x y=>bW P H t (Ij env x) (Ij env y) k
 | .makeMap t none=>mM P H t k
 | .mapUpdate t m x y=>gB P H t (Ij env m) (Ij env x) (Ij env y) k
 | .lookup t m x true=>o0 P H t (Ij env m) (Ij env x) k
 | .convert s d x=>
  match kd P d with
  | .bytes=>mi P H s d (Ij env x) k
  |_=>zE P env H (.convert s d x) λv=>k v H
 | .call c=>
  match eE env (.call c)with
  |some (F,vs)=>
   match Zu P F with
   |true=>
    match kA cs F with
    |some ct=>tM ct vs H k
    |none=>match isNil vs with|true=>call (.fn F) [] (H.map Df.lock) λv H'=>k v (Tk H H')|false=>call (.fn F) vs H k
   |false=>none
  |none=>
   match ml env c with
   |some (id,vs)=>call (.yd id) vs H k
   |none=>
    match c with
    |{callee:=.builtin .append,args:=⟨[s,x]⟩,argTypes:=⟨[t,t']⟩}=>match Nat.beq t t' with|true=>kj P H t (Ij env s) (Ij env x) k|false=>none
    |c=>zE P env H (.call c) λv=>k v H
 |op=>zE P env H op λv=>k v H
def force(f:Bool)(v:TV)(k:TV->Option R):Option R:=
 match f with
 |true=>match v with| .c (.bl b)=>cond b (k (.c (.bl true))) (k (.c (.bl false)))|v=>k v
 |false=>k v
def guards(ops:Array Oper):List Nat:=ops.toList.filterMap λo=>o.guard.map (·.1)
def Mm(j:Nat):List Nat->Bool
 |[]=>false
 |i::r=>match Nat.beq i j with|true=>true|false=>Mm j r
def AAb{α:Type}(l:List α)(i:Int)(z:α):Option (List α):=if 0<=i/\i<=(l.length:Int)then some (l.take i.toNat++List.replicate (l.length-i.toNat) z)else none
def tP(o1 o2:Oper):Option (Nat×TypeId×Operand×Operand):=
 match o1.dst,o1.op,o1.guard,o2.dst,o2.op,o2.guard with
 |some d,.slice t x (some lo) none none,none,none,.call {callee:=.builtin .clear,args:=⟨[.tmp d']⟩,argTypes:=⟨[t']⟩},none=>match Nat.beq d d'&&Nat.beq t t' with|true=>some (d,t,x,lo)|false=>none
 |_,_,_,_,_,_=>none
def AAR(P:Program)(H:An)(t:TypeId)(x lo:TV)(k:An->Option R):Option R:=
 match x,lo with
 | .c (.own id ver _ _),.c (.it _ i)=>
  match H[id]? with
  |some (.buf false t2 l n2 ver2)=>
   match Nat.beq ver ver2,yY P t,eI P t with
   |true,some te,some (none,e,_)=>
    if h:(Ty.list t2).beq (Ty.list te)=true then
     match mm P e with
     |some z=>match te.all z with|some zd=>(AAb (α:=te.D) (Ty.cast h l) i zd).bind λl'=>k (H.set id (.buf false te l' n2 ver2))|none=>none
     |none=>none
    else none
   |_,_,_=>none
  |_=>none
 |_,_=>none
def yN(o:Oper):List Oper->Option (Nat×TypeId×Operand×Operand)
 |o2::_=>tP o o2
 |[]=>none
def sn(P:Program)(cs:List Sf)(call:RJ)(ops:Array Oper)(gs:List Nat)(sk:Bool):List Oper->Nat->BY->An->(BY->An->Option R)->Option R
 |[],_,env,H,k=>k env H
 |o::r,j,env,H,k=>
  match sk with
  |true=>sn P cs call ops gs false r (j+1) env H k
  |false=>
   match yN o r with
   |some (d,t,x,lo)=>AAR P H t (Ij env x) (Ij env lo) λH'=>sn P cs call ops gs true r (j+1) (env.put d Sq) H' k
   |none=>
    match bT ops o.guard env with
    |some true=>
     match HQ (dd cs env H o.op) env H with
     |(env1,H1)=>qB P cs call env1 H1 o.op λv H'=>force (Mm j gs) v λv'=>sn P cs call ops gs false r (j+1) (env1.putO o.dst v') H' k
    |some false=>sn P cs call ops gs false r (j+1) (env.putO o.dst (.tup [])) H k
    |none=>none
end
def hY(H:An)(v:TV):Prop:= ∀id ver t n,Bd.own id ver t n∈v.refs-> ∀t' l n' ver',H[id]? ≠some (.buf false t' l n' ver')
structure E2(A:List Nat)(env:BY)(H:An)(env':BY)(H':An):Prop where
 step:B8 H H'
 same: ∀t,t∉A->hY H (env.get t)->env'.get t=env.get t
def hY.step{H c:An}(h:B8 H c){v:TV}(e:v.ok H)(k:hY H v):hY c v:=by intro b a t n d;have hr:=e (.own b a t n) d;exact h.nb b hr.1 (k b a t n d)
def E2.refl(A:List Nat)(env:BY)(H:An):E2 A env H env H:=⟨B8.refl H,λ_ _ _=>rfl⟩
def E2.trans{A B:List Nat}{d g i:BY}{c e f:An}(ok: ∀p∈d,p.2.ok c)(a:E2 A d c g e)(b:E2 B g e i f):E2 (A++B) d c i f:=by refine⟨a.step.trans b.step,λt l k=>?_⟩;have j:=a.same t (λh=>l (Q1 _ h)) k;rw[b.same t (λh=>l (List.mem_append_right _ h)) (by rw[j];exact k.step a.step (jU ok t)),j]
def E2.mono{A B:List Nat}{d e:BY}{b c:An}(a:E2 A d b e c)(h: ∀t,t∈A->t∈B):E2 B d b e c:=⟨a.step,λt g f=>a.same t (λq=>g (h t q)) f⟩
def oo{t u:Nat}(h:u≠t): ∀env:BY,(BY.del t env).get u=env.get u
 |[]=>rfl
 |(k,v)::r=>by
  simp only[BY.del];by_cases a:k=t
  ·subst a;rw[Ds];simp only[BY.get,beq_false (Ne.symm h)];exact oo h r
  ·rw[beq_false a];simp only[BY.get];rw[oo h r]
def iJ{t u:Nat}{v:TV}{env:BY}(h:u≠t):(env.put t v).get u=env.get u:=by simp only[BY.put,BY.get,beq_false (Ne.symm h)];exact oo h env
def o6{p:Nat×TV}{t:Nat}: ∀{env:BY},p∈BY.del t env->p∈env
 |(k,v)::r,h=>by
  simp only[BY.del]at h;split at h
  ·exact Bq _ (o6 h)
  ·rcases Al.1 h with rfl|h
   ·simp
   ·exact Bq _ (o6 h)
def bc{H:An}{env:BY}{d:Option Nat}{v:TV}(h: ∀p∈env,p.2.ok H)(b:v.ok H): ∀p∈env.putO d v,p.2.ok H:=by
 cases d with
 |none=>exact h
 |some t=>
  intro p a;rcases Al.1 a with rfl|a
  ·exact b
  ·exact h p (o6 a)
def gp{H:An}{d n b:Nat}{t:Ty}{l:List t.D}(h:H[d]? =some (.buf false t l n b)){z:Bd}(k: ∀a g f e,z= .own a g f e-> ∀j l2 i c,H[a]? ≠some (.buf false j l2 i c)):Mr d b t l z=z:=by
 cases z with
 |own a g f e=>
  simp only[Mr];split
  ·simp_all
  ·rfl
 |_=>rfl
mutual
theorem lr{H:An}{o n k:Nat}{t:Ty}{l:List t.D}(d:H[o]? =some (.buf false t l n k)): ∀{v:TV},hY H v->gq o k t l v=v
 | .c z,h=>by simp only[gq];rw[gp d λa j i f e=>h a j i f (by simp[TV.refs,e])]
 | .g b,h=>by
  simp only[gq,TV.g.injEq];have: ∀b:List Bd,(∀a j i f,Bd.own a j i f∈b-> ∀u l2 s m,H[a]? ≠some (.buf false u l2 s m))->b.map (Mr o k t l)=b:=by
   intro b;induction b with
   |nil=>intro _;rfl
   |cons z r q=>intro h;rw[BE,q λa j i f p=>h a j i f (by simp[p]),gp d λa j i f e=>h a j i f (by simp[e])]
  exact this b h
 | .tup vs,h=>by simp only[gq];rw[kE d (vs:=vs) h]
 | .aptr ..,_=>rfl
 | .bptr ..,_=>rfl
 | .vptr ..,_=>rfl
theorem kE{H:An}{i n c:Nat}{t:Ty}{l:List t.D}(b:H[i]? =some (.buf false t l n c)): ∀{vs:List TV},hY H (.tup vs)->aj i c t l vs=vs
 |[],_=>rfl
 |v::r,h=>by simp only[aj];rw[lr b (v:=v) λa g f e d=>h a g f e (by simp only[TV.refs,TV.refsL,Ar];exact .inl d),kE b (vs:=r) λa g f e d=>h a g f e (by simp only[TV.refs,TV.refsL,Ar]at d⊢;exact .inr d)]
end
def td{f:TV->TV}(a:f Sq=Sq)(t:Nat): ∀env:BY,BY.get (env.map λp=>(p.1,f p.2)) t=f (env.get t)
 |[]=>a.symm
 |(k,v)::r=>by
  simp only[BE,BY.get];split
  ·rfl
  ·exact td a t r
def wU{c:Nat}{env env2:BY}{H d:An}(h:frz c env H=some (env2,d))(t:Nat)(e:hY H (env.get t)):env2.get t=env.get t:=by
 unfold frz at h;split at h
 ·rename_i g l n b a;obtain⟨rfl,rfl⟩:=h;rw[td (f:=gq c b g l) rfl];exact lr a e
 ·cases h
def Pl: ∀(a:List Nat) {env:BY} {H:An},PB env H→PB (HQ a env H).1 (HQ a env H).2∧E2 [] env H (HQ a env H).1 (HQ a env H).2∧
  ∀N,F6 N (A3 H).length (Bw env) (A3 H) (Bw (HQ a env H).1) (A3 (HQ a env H).2)
 |[],env,H,ok=>⟨ok,E2.refl _ _ _,λN=>F6.refl N _ _⟩
 |id::r,env,H,ok=>by
  simp only[HQ];split
  ·rename_i e h b;obtain⟨f,c,j⟩:=AAY ok b;obtain⟨g,i,k⟩:=Pl r f;refine⟨g,(E2.trans (A:=[]) (B:=[]) ok.env ⟨c,λt _ d=>wU b t d⟩ i),λN=>(j N).trans ((k N).of_le (by rw[CO,CO];exact c.len))⟩
  ·exact Pl r ok
section
variable {P:Program} {N:Nat} {R:Type}
def tH(P:Program)(args:List AW)(H:Aq)(v:AW)(H':Aq):Tgt->Prop
 | .fn F=>Eo P F args H (DO v H')
 | .yd id=> ∀(N:Nat) (o:Oper) (c:Call) (f:Operand) (env:Env),o.op= .call c->c.callee= .value f->A8 env f= .yf id->c.args.toList.map (A8 env)=args->Ii P N o env H (DO v H')
def Ua(P:Program)(call:RJ):Prop:= ∀{R:Type} tg vs H (k:TV->An->Option R) r,(∀v∈vs,v.ok H)->(∀e∈H,e.ok H)->call tg vs H k=some r->
 ∃v H',tH P (vs.map TV.enc) (A3 H) v.enc (A3 H') tg/\k v H'=some r/\v.ok H'/\(∀e∈H',e.ok H')/\B8 H H'
def dZ{c:Array Oper}{g:Option (Nat×Bool)}{env:BY}(h:bT c g env=some true){A B:Prop}(a:A):VG c g (Bw env) A B:=by
 unfold bT at h;unfold VG;split at h
 ·exact a
 ·rename_i j e;unfold Tw;split at h
  ·rename_i d i;simp only[i,SB];split at h
   ·rename_i b f;simp only[f,TV.enc,Bd.one];grind
   ·cases h
   ·cases h
  ·cases h
def g8{a:Array Oper}{g:Option (Nat×Bool)}{env:BY}(h:bT a g env=some false){A B:Prop}(b:B):VG a g (Bw env) A B:=by
 unfold bT at h;unfold VG;split at h
 ·cases h
 ·rename_i j f;unfold Tw;split at h
  ·rename_i d i;simp only[i,SB];split at h
   ·rename_i c e;simp only[e,TV.enc,Bd.one];grind
   ·rename_i e;simp[e];exact b
   ·cases h
  ·cases h
def ou{a:Array Oper}{g:Option (Nat×Bool)}{env env1:BY}(e: ∀d b,env.get d= .c (.bl b)->env1.get d= .c (.bl b))(h:bT a g env=some true):bT a g env1=some true:=by
 cases g with
 |none=>rfl
 |some p=>simp only[bT]at h⊢;grind
def fu: ∀{a:List Sf} {F:FuncId} {c:Sf},kA a F=some c->c∈a/\c.f=F
 |d::r,F,c,h=>by
  simp only[kA]at h;split at h
  ·simp_all
  ·obtain⟨b,e⟩:=fu h;grind
def oR{env:BY}{i:Op}{F:FuncId}{e:List TV}(h:eE env i=some (F,e)):Go.Ab.callT (A8 (Bw env)) i=some (.inl (F,e.map TV.enc))/\ ∀H,(∀p∈env,p.2.ok H)-> ∀v∈e,v.ok H:=by
 unfold eE at h;split at h
 ·rename_i c;split at h
  ·rename_i f d;split at h
   ·rename_i G first b n
    simp only[AV,Br]at h;obtain⟨rfl,rfl⟩:=h;have j:A8 (Bw env) f= .fn (.func G) first b:=by rw[KO,n];rfl
    have k: ∀l:List AW,(l.map vU).map TV.enc=l:=by
     intro l;rw[HV];conv=>rhs;rw[<-Zx l]
     exact Fe λv _=>bm v
    refine⟨?_,λH m v g=>?_⟩
    ·simp only[Go.Ab.callT,d,j,HU,k,HV];congr 4;exact congrArg (first++ ·) (Fe λx _=>KO env x)
    ·simp only[Ar,BX]at g;rcases g with(⟨a,_,rfl⟩|⟨x,_,rfl⟩)|⟨a,_,rfl⟩
     ·exact bn a
     ·exact af m x
     ·exact bn a
   ·cases h
  ·cases h
 ·cases h
def rG{env:BY}{c:Call}{id:Nat}{b:List TV}(h:ml env c=some (id,b)):(∃f,c.callee= .value f/\A8 (Bw env) f= .yf id/\c.args.toList.map (A8 (Bw env))=b.map TV.enc)/\ ∀H,(∀p∈env,p.2.ok H)-> ∀v∈b,v.ok H:=by
 unfold ml at h;split at h
 ·rename_i f a;split at h
  ·rename_i k i;injection h with h;injection h with d e;subst d e;refine⟨⟨f,a,by rw[KO,i];rfl,?_⟩,λH g v j=>?_⟩
   ·rw[HV];exact Fe λx _=>KO env x
   ·obtain⟨x,_,rfl⟩:=BX.1 j;exact af g x
  ·cases h
 ·cases h
def AAv{o:Oper}{env:BY}{H:An}{k:TV->An->Option R}{r:R}(ok:PB env H)(h:zE P env H o.op (λv=>k v H)=some r): ∀F,iM P N o env H F k r:=by intro F;obtain⟨v,a,b,c⟩:=nz ok h;exact⟨v,H,Db a ⟨rfl,rfl⟩,b,c,ok.heap,B8.refl H,Frame.refl F H⟩
def mu(H:An):A3 (H.map Df.lock)=A3 H:=by simp only[A3,HV];exact Fe λe _=>mK e
def qa{H:An}(h: ∀e∈H,e.ok H): ∀e∈H.map Df.lock,e.ok (H.map Df.lock):=by
 have f: ∀g a t n,TC H g a t n->TC (H.map Df.lock) g a t n:=λg a t n q=>by
  refine⟨by simpa using q.1,λro z l y m c=>?_⟩;rw[Bb]at c;cases k:H[g]? with
  |none=>grind
  |some e=>
   rw[k]at c;simp at c;cases e<;>simp only[Df.lock]at c<;>first|(cases c;done)|skip
   injection c with _ o w p r;subst o p r;exact q.2 _ _ _ _ _ k
 have d: ∀x:Bd,x.ok H->x.ok (H.map Df.lock):=λx j=>by
  cases x with
  |own g a t n=>exact f _ _ _ _ j
  |_=>trivial
 intro e c;obtain⟨u,s,rfl⟩:=BX.1 c;have i:=h u s;cases u with
 |dead=>trivial
 |live b v=>exact λx j=>d x (i x j)
 |buf=>exact i
 |lp=>exact i
 |mp=>exact i
def vt{H a:An}(O: ∀e∈H,e.ok H)(N:B8 (H.map Df.lock) a)(J: ∀e∈a,e.ok a):
  (∀v:TV,v.ok a->v.ok (Tk H a))/\(∀e∈Tk H a,e.ok (Tk H a))/\B8 H (Tk H a)/\ ∀x:Cx,Rw x x (A3 a) (A3 (Tk H a)):=by
 have M:H.length<=a.length:=by simpa using N.len
 have d:(Tk H a).length=a.length:=by simp only[Tk,Ad,Fc];omega
 have p: ∀j,j<H.length->(Tk H a)[j]? =H[j]? :=λj s=>BW s;have F: ∀j,H.length<=j->(Tk H a)[j]? =a[j]? :=λj s=>by simp only[Tk];grind
 have keep: ∀(j:Nat) (e:Df),H[j]? =some e->e≠ .dead->a[j]? =some e.lock:=λj e s K=>by apply N.ro j e.lock (by rw[Bb,s];rfl);cases e<;>first|rfl|exact(K rfl).elim
 have C: ∀c k t n,TC a c k t n->TC (Tk H a) c k t n:=λc k t n q=>by
  refine⟨by rw[d];exact q.1,λro R l Q G f=>?_⟩;rcases Ag c H.length with h|h
  ·rw[p c h]at f;exact q.2 _ _ _ _ _ (keep c _ f (by simp))
  ·rw[F c h]at f;exact q.2 _ _ _ _ _ f
 have o: ∀x:Bd,x.ok a->x.ok (Tk H a):=λx E=>by
  cases x with
  |own c k t n=>exact C _ _ _ _ E
  |_=>trivial
 have D:B8 H (Tk H a):=by
  refine⟨by rw[d];exact M,λc k t n q=>⟨by rw[d];exact DD q.1 M,λro R l Q G f=>?_⟩,λc e f _=>?_,λc z h=>by rw[p c z];exact h,λc z _ _ _ _ _ _ _ _ h=>by rw[p c z]at h;exact⟨_,_,h⟩⟩
  ·rw[p c q.1]at f;exact q.2 _ _ _ _ _ f
  ·grind
 refine⟨λv P x E=>o x (P x E),λe f=>?_,D,λx=>⟨by rw[CO,CO,d],λj S s=>?_⟩⟩
 ·rcases Ar.1 f with f|f
  ·exact D.ent (O e f)
  ·have I:=J e (TG f);cases e with
   |dead=>trivial
   |live b u=>exact λx E=>o x (I x E)
   |buf=>exact I
   |lp=>exact I
   |mp=>exact I
 ·rw[E7]at s;cases B:(Tk H a)[j]? with
  |none=>grind
  |some y=>
   rw[B]at s;simp at s;subst s;have same:(A3 a)[j]? =some y.enc->y.enc= .dead\/(∃g u w,(A3 a)[j]? =some (.live g u)/\y.enc= .live g w/\w.length=u.length/\ ∀(i:Nat) (A:AW),w[i]? =some A-> ∃v,u[i]? =some v/\Conv x x v A)\/((A3 a)[j]? =some y.enc/\ ∀g u,y.enc≠ .live g u):=λh=>by
    cases y with
    |dead=>exact .inl rfl
    |live b u=>exact .inr (.inl ⟨_,_,_,h,rfl,rfl,λi A h=>⟨A,h,λ_ r=>r⟩⟩)
    |buf b t l m k=>exact .inr (.inl ⟨_,_,_,h,rfl,rfl,λi A h=>⟨A,h,λ_ r=>r⟩⟩)
    |lp=>exact .inr (.inr ⟨h,λ_ _ h=>by cases h⟩)
    |mp=>exact .inr (.inr ⟨h,λ_ _ h=>by cases h⟩)
   rcases Ag j H.length with h|h
   ·rw[p j h]at B;by_cases L:y= .dead
    ·subst L;exact .inl rfl
    ·apply same;rw[E7,keep j y B L];simp only[BB,mK]
   ·rw[F j h]at B;apply same;rw[E7,B];rfl
def j8{B:List Sf}(D: ∀c∈B,c.Ok P){i:RJ}(m:Ua P i){o:Oper}{env:BY}{H:An}{k:TV->An->Option R}{r:R}(ok:PB env H)(h:qB P B i env H o.op k=some r):iM P N o env H (oe B env H o.op) k r:=by
 have u: ∀z,o.op=z->zE P env H z (λv=>k v H)=some r-> ∀F,iM P N o env H F k r:=λz e h=>AAv ok (by rw[e];exact h);generalize a:o.op=z at h;unfold qB at h;split at h
 ·exact oO ok a h
 ·exact rU ok a h
 ·exact pM ok a h
 ·exact gT ok a h
 ·exact jY ok a h
 ·exact mN ok a h _
 ·exact jZ ok a h
 ·exact nB ok a h _
 ·split at h
  ·exact mj ok a h
  ·grind
 ·rename_i c;split at h
  ·rename_i F q l;obtain⟨A,J⟩:=oR l;split at h
   ·rename_i C;split at h
    ·rename_i Q n;obtain⟨S,T⟩:=fu n;obtain⟨v,d,q1,q2,q3,q4,q5,q6⟩:=pi (D Q S) (J H ok.env) ok.heap h;rw[T]at q1;exact⟨v,d,iD (by rw[a];exact A) C q1,q2,q3,q4,q5,by simp only[oe,l,n];exact q6⟩
    ·rename_i n;split at h
     ·rename_i b;have G:q=[]:=by cases q<;>first|rfl|cases b
      subst G;obtain⟨v,d,q1,q2,q3,q4,q5⟩:=m (.fn F) [] (H.map Df.lock) _ r (λv V=>by cases V) (qa ok.heap) h;obtain⟨K,L,M,O⟩:=vt ok.heap q5 q4;have I:Eo P F [] (A3 H) (DO v.enc (A3 d)):=by have:=q1;simp only[tH,mu]at this;grind
      refine⟨v,Tk H d,Ii.after (iD (by rw[a];exact A) C I) λX g w _=>?_,q2,K v q3,L,M,?_⟩
      ·have hr:=(O (cx X g (A3 d) w)).onto;exact⟨hr,λc r=>r.later hr.later⟩
      ·simp only[oe,l,n];exact λj p _=>BW p
     rename_i b;obtain⟨v,d,q1,q2,q3,q4,q5⟩:=m (.fn F) q H k r (J H ok.env) ok.heap h;have E:=b;exact⟨v,d,iD (by rw[a];exact A) C q1,q2,q3,q4,q5,by simp only[oe,l,n,E];exact λj p hn=>(hn (G5.2 p)).elim⟩
   ·cases h
  ·rename_i l;split at h
   ·rename_i W q y;obtain⟨⟨f,Y,Z,y3⟩,y4⟩:=rG y;obtain⟨v,d,q1,q2,q3,q4,q5⟩:=m (.yd W) q H k r (y4 H ok.env) ok.heap h;exact⟨v,d,q1 N o c f (Bw env) a Y Z y3,q2,q3,q4,q5,by simp only[oe,l,y];exact λj p hn=>(hn (G5.2 p)).elim⟩
   ·rename_i y;split at h
    ·rename_i s x t t';split at h
     ·rename_i U;have:=mq (N:=N) ok a (Ba U) h;simp only[oe,l,y];grind
     ·cases h
    ·grind
 ·grind
def fw{f:Bool}{v:TV}{k:TV->Option R}{r:R}(h:force f v k=some r):k v=some r:=by unfold force at h;grind
def jG(ops:List Oper):List Nat:=ops.filterMap (·.dst)
def lW{a b:Oper}{d:Nat}{t:TypeId}{x c:Operand}(h:tP a b=some (d,t,x,c)):a.dst=some d/\a.op= .slice t x (some c) none none/\a.guard=none/\b.dst=none/\b.op= .call {callee:=.builtin .clear,args:= #[.tmp d],argTypes:= #[t]}/\b.guard=none:=by
 unfold tP at h;split at h
 ·rename_i e f g i j k;split at h
  ·simp_all
  ·cases h
 ·cases h
def nV{a:Ty}{z:List AW}{b:a.D}(h:DU z (a.enc b).cells): ∀n:Nat,DU (List.replicate n z).flatten (a.E.cl (List.replicate n b))
 |0=>DU.refl _
 |n+1=>by exact DU.append h (nV h n)
def rY{o1 o2:Oper}{d:Nat}{t:TypeId}{x lo:Operand}{env:BY}{H:An}{k:An→Option R}{r:R}(ok:PB env H)(hc:tP o1 o2=some (d,t,x,lo))(h:AAR P H t (Ij env x) (Ij env lo) k=some r):
  ∃v I,Ii P N o1 (Bw env) (A3 H) (DO v (A3 H))/\Ii P N o2 ((Bw env).put d v) (A3 H) (DO (.tup []) (A3 I))/\k I=some r/\(∀e∈I,e.ok I)/\B8 H I:=by
 obtain⟨_,c2,_,c4,V,_⟩:=lW hc;unfold AAR at h;split at h
 ·rename_i c f t0 n0 kk i hx ad;split at h
  ·rename_i a l b as A;split at h
   ·rename_i te e a0 hb ap G;split at h
    ·rename_i T;split at h
     ·rename_i z hz;split at h
      ·rename_i zd ar;obtain⟨y,j,h⟩:=Dt.1 h;have U:=Ba hb;subst U;have w:=Ty.beq_eq _ _ T;injection w with w;subst w;have C:(Ty.cast T l:List a.D)=l:=rfl;rw[C]at j;have hr:TC H c f t0 n0:=by have:=af ok.env x;rw[hx]at this;exact this (.own c f t0 n0) (by simp[TV.refs])
       obtain⟨_,q⟩:=hr.2 _ _ _ _ _ A;obtain⟨rfl,rfl⟩:=q rfl;have hn:b=l.length:=ok.heap _ (BV A);obtain⟨e',J,O⟩:=dH ap;rw[J]at G;injection G with G;injection G with _ G;injection G with Y Z;subst Y Z;obtain⟨z1,z2⟩:=WC hz;have s:=FZ ar;have F:(lvs z).length=a.sz:=by rw[<-s.1,a.enc_len]
       unfold AAb at j;split at j
       ·rename_i hi;injection j with j;have Q:B8 H (H.set c (.buf false a y b f)):=B8.set A rfl λ_ _ _ _ _ e=>by grind
        have L:Df.ok (H.set c (.buf false a y b f)) (.buf false a y b f):=by show b=y.length;grind
        have p:(A3 H)[c]? =some (.live b (a.E.cl l)):=by rw[E7,A];rfl
        have B:c<(A3 H).length:=by grind
        have ex:A8 (Bw env) x= .sl c b a.sz 0 b:=by rw[KO,hx];rfl
        have el:A8 (Bw env) lo= .int kk i:=by rw[KO,ad];rfl
        have X:RI (A3 H) c b=true:=by simp[RI,p]
        have u: ∀v,A8 ((Bw env).put d v) (.tmp d)=v:=λv=>by simp[A8,Env.put,Env.get]
        have o:=a.E.clen l;have S:a.E.sz=a.sz:=rfl;rw[S]at o;have al:CR P (Bw env) (A3 H) o1.op=some (if i.toNat=0 then .sl c b a.sz 0 b else if i.toNat=b then .vs a.sz []else .sl c b a.sz (0+i.toNat*a.sz) (b-i.toNat)):=by
         rw[c2];have b1:UA 0 (some (AW.int kk i))=some i.toNat:=by simp[UA,mP,hi.1]
         have b2: ∀n,UA n none=some n:=λ_=>rfl;simp only[CR,ex,el,BB,fb,dm,b1,b2,J];rw[if_pos ⟨trivial,a.sz_pos,by omega,Aj _,Aj _,X,by simp⟩];grind
        have m: ∀W,a.E.cl l=W->(A3 H).set c (.live b W)=A3 H:=λW ax=>by apply M6;grind
        have g:DU (T4 (a.E.cl l) (i.toNat*a.sz) (List.replicate (b-i.toNat) (lvs z)).flatten) (a.E.cl y):=by
         have e1:a.E.cl y=a.E.cl (l.take i.toNat)++a.E.cl (List.replicate (b-i.toNat) zd):=by rw[<-j,hn];simp[Rz.cl]
         have e2:(a.E.cl l).take (i.toNat*a.sz)=a.E.cl (l.take i.toNat):=by
          have e3:a.E.cl l=a.E.cl (l.take i.toNat)++a.E.cl (l.drop i.toNat):=by
           conv=>lhs;rw[<-FG i.toNat l]
           simp only[Rz.cl,HU,U4]
          have e4:(a.E.cl (l.take i.toNat)).length=i.toNat*a.sz:=by rw[a.E.clen,Cn,S];grind
          grind
         have e5:(a.E.cl l).drop (i.toNat*a.sz+(List.replicate (b-i.toNat) (lvs z)).flatten.length)=[]:=by apply dx;simp[F];rw[<-EJ];grind
         unfold T4;rw[e1,e2,e5,DQ];exact(DU.refl _).append (nV s _)
        have M:Ii P N o2 ((Bw env).put d (if i.toNat=0 then .sl c b a.sz 0 b else if i.toNat=b then .vs a.sz []else .sl c b a.sz (0+i.toNat*a.sz) (b-i.toNat))) (A3 H) (DO (.tup []) (A3 (H.set c (.buf false a y b f)))):=by
         have e6:A3 (H.set c (.buf false a y b f))=(A3 H).set c (.live b (a.E.cl y)):=by rw[ND];rfl
         rw[e6];by_cases h0:i.toNat=0
         ·rw[if_pos h0];refine Ii.set_less B ?_ g;have:=Ii.clear (N:=N) (K:=DO (.tup []) _) V c4 J O z1 F (u (.sl c b a.sz 0 b)) p (by rw[o,hn];omega) ⟨rfl,rfl⟩;grind
         ·rw[if_neg h0];by_cases h1:i.toNat=b
          ·rw[if_pos h1];have e7:y=l:=by simp_all
           rw[e7,m _ rfl];exact ka V (PM J).1 (u _) ⟨rfl,rfl⟩
          ·rw[if_neg h1];refine Ii.set_less B ?_ g;have:=Ii.clear (N:=N) (K:=DO (.tup []) _) V c4 J O z1 F (u (.sl c b a.sz (0+i.toNat*a.sz) (b-i.toNat))) p (by rw[o,<-hn,DE,<-EJ];apply PJ;omega) ⟨rfl,rfl⟩;grind
        exact⟨_,_,Db al ⟨rfl,rfl⟩,M,h,SZ Q ok.heap L,Q⟩
       ·grind
      ·cases h
     ·cases h
    ·cases h
   ·cases h
  ·cases h
 ·cases h
def xi{N:Nat}{env:BY}{H:An}{d:Nat}{v:AW}:F6 N (A3 H).length ((Bw env).put d v) (A3 H) (Bw (env.put d Sq)) (A3 H):=by
 refine Tj rfl λX g w s=>⟨Rw.refl _ _,λt f m=>?_⟩
 rw[gh]at m;rcases Al.1 m with e|m
 ·injection e with a b;subst a b;exact⟨v,Gi,λc _=>.any c⟩
 ·exact⟨f,Bq _ m,λ_ r=>r⟩
def be{K:List Sf}(m: ∀c∈K,c.Ok P){p:RJ}(l:Ua P p){D:Array Oper}{gs:List Nat}: ∀(os:List Oper) (j:Nat) (env:BY) (H:An) (k:BY→An→Option R) (r:R),PB env H→sn P K p D gs false os j env H k=some r→
  ∃f i,T7 P N D os (Bw env) (A3 H) (λe h=>e=Bw f/\h=A3 i)/\k f i=some r/\PB f i/\E2 (jG os) env H f i
 |[],j,env,H,k,r,ok,h=>⟨env,H,⟨_,_,F6.refl _ _ _,rfl,rfl⟩,h,ok,E2.refl _ _ _⟩
 |o::os,j,env,H,k,r,ok,h=>by
  simp only[sn]at h;have B: ∀{e:BY} {h:An} {v:TV},E2 (jG [o]) e h (e.putO o.dst v) h:=by
   intro e h v;refine⟨B8.refl h,λt L _=>?_⟩;cases hd:o.dst with
   |none=>rfl
   |some d=>refine iJ λe=>L ?_;simp[jG,hd,e]
  have z: ∀t,t∈jG [o]++jG os->t∈jG (o::os):=by simpa[jG]using L
  split at h
  ·rename_i d t x lo y;cases os with
   |nil=>cases y
   |cons o2 F=>
    have hc:=y;obtain⟨T,c2,c3,c4,c5,c6⟩:=lW hc;obtain⟨v,C,S,w2,W,Z,st⟩:=rY (N:=N) ok hc h;have g:PB (env.put d Sq) C:=⟨bc (d:=some d) (st.env ok.env) bk,Z⟩
    obtain⟨f,i,O,ad,G,I⟩:=be m l F (j+1+1) _ C k r g W;refine⟨f,i,⟨Bw env,A3 H,F6.refl N _ _,?_⟩,ad,G,?_⟩
    ·rw[c3];apply Ii.mono S;rintro u _ ⟨rfl,rfl⟩;rw[T];refine⟨(Bw env).put d u,A3 H,F6.refl N _ _,?_⟩;rw[c6];apply Ii.mono w2;rintro _ _ ⟨rfl,rfl⟩;rw[c4];exact T7.weak xi O
    ·have s1:E2 (jG [o]) env H (env.put d Sq) C:=by refine⟨st,λu E _=>?_⟩;exact iJ λe=>E (by simp[jG,T,e])
     refine(E2.trans ok.env s1 I).mono λu E=>?_;rcases Ar.1 E with E|E
     ·grind
     ·simp only[jG,ij,T,c4];exact Bq _ E
  split at h
  ·rename_i V;obtain⟨M,t1,S⟩:=Pl (dd K env H o.op) ok;generalize HQ (dd K env H o.op) env H=q at h M t1 S;obtain⟨env1,C⟩:=q;obtain⟨v,J,e1,e2,e3,e4,e5,_⟩:=j8 (N:=N) m l M h;have U:=fw e2;have g:PB (env1.putO o.dst v) J:=⟨bc (e5.env M.env) e3,e4⟩
   obtain⟨f,i,O,F,G,I⟩:=be m l os (j+1) _ J k r g U;refine⟨f,i,?_,F,G,?_⟩
   ·refine⟨Bw env1,A3 C,S N,dZ ?_ ?_⟩
    ·exact ou (λd b hb=>by rw[t1.same d (λh=>by cases h) (by rw[hb];intro id ap t n hm;simp[TV.refs]at hm),hb]) V
    ·exact λrr X h0 a w s Q=>Te (e1 rr X h0 a w s Q) (by rintro a' w' ⟨c,u,h',al,ha,⟨rfl,rfl⟩,Y,hs,hx⟩;exact⟨c,_,h',_,ha,by show T7 P N D os ((Bw env1).putO o.dst v.enc) (A3 J) _;rw[<-U5];exact O,Y,hs,hx⟩)
   ·have s1:E2 (jG [o]) env1 C (env1.putO o.dst v) J:=by refine⟨e5,λt L W=>?_⟩;exact(B (h:=C)).same t L W
    have:=(E2.trans (A:=[]) ok.env t1 (E2.trans M.env s1 I))
    exact this.mono z
  ·rename_i V;have g:PB (env.putO o.dst (.tup [])) H:=⟨bc ok.env (Po λv Y=>by cases Y),ok.heap⟩
   obtain⟨f,i,O,F,G,I⟩:=be m l os (j+1) _ H k r g h;refine⟨f,i,⟨Bw env,A3 H,F6.refl N _ _,g8 V ?_⟩,F,G,(E2.trans ok.env B I).mono z⟩;have:(Bw env).putO o.dst (.tup [])=Bw (env.putO o.dst (.tup [])):=by rw[U5];rfl
   grind
  ·cases h
end
def isLen:Op->Bool
 | .call {callee:=.builtin .len,.. }=>true
 | .move _=>true
 | .assign _=>true
 | .extract _ _=>true
 |_=>false
def zG(env:BY)(op:Op):List Nat:=match isLen op with|true=>[]|false=>op.operands.toList.flatMap λx=>yh (Ij env x)
def Sa(o:Oper)(env:BY):BY:=(Se o).filterMap λt=>match env.get t with| .c (.raw .any)=>none|v=>some (t,v)
def dg(ids:List Nat):Nat->An->List Nat
 |_,[]=>[]
 |j,.live false cs::r=>match (KI cs).any λi=>Mm i ids with|true=>j::dg ids (j+1) r|false=>dg ids (j+1) r
 |j,_::r=>dg ids (j+1) r
section
variable {R:Type}
def quD(P:Program)(env:BY)(H:An)(op:Op)(k:TV->Option R):Option R:=
 match op with
 | .buildSlice t len parts=>js P env t len parts k
 |op=>zE P env H op k
def wL(P:Program)(cs:List Sf)(call:RJ)(env:BY)(H:An)(op:Op)(k:TV->An->Option R):Option R:=
 match op with
 | .box _ x=>yI H (Ij env x) k
 | .store t a v=>storeT P H t (Ij env a) (Ij env v) k
 | .makeSlice t x y=>bW P H t (Ij env x) (Ij env y) k
 | .buildSlice t len parts=>Wn P env H t len parts k
 | .call c=>
  match eE env (.call c)with
  |some (F,vs)=>
   match Zu P F with
   |true=>
    match kA cs F with
    |some ct=>tM ct vs H k
    |none=>match isNil vs with|true=>call (.fn F) [] (H.map Df.lock) λv H'=>k v (Tk H H')|false=>call (.fn F) vs H k
   |false=>none
  |none=>
   match ml env c with
   |some (id,vs)=>call (.yd id) vs H k
   |none=>
    match c with
    |{callee:=.builtin .append,args:=⟨[s,x]⟩,argTypes:=⟨[t,t']⟩}=>match Nat.beq t t' with|true=>kj P H t (Ij env s) (Ij env x) k|false=>none
    |_=>none
 |_=>none
def AAU(P:Program)(cs:List Sf)(call:RJ)(env:BY)(H:An)(op:Op)(k:TV->An->Option R):Option R:=
 match HQ (dd cs env H op) env H with
 |(ef,hf)=>wL P cs call ef hf op k
def py(cs:List Sf)(env:BY)(H:An)(op:Op):List Nat:=
 match dd cs env H op with
 |[]=>oe cs env H op
 |ids=>ids++dg ids 0 H++(match HQ ids env H with|(ef,hf)=>oe cs ef hf op)
def ABP:Op->Bool
 | .buildSlice .. =>true
 |_=>false
def sm(P:Program)(cs:List Sf)(call:RJ)(ops:Array Oper)(m:List Nat)(gs:List Nat)(ow:Bool):List Nat->List (Nat×List Nat)->BY->An->(BY->An->Option R)->Option R
 |[],_,env,H,k=>k env H
 |i::r,pend,env,H,k=>
  match ops[i]? with
  |none=>none
  |some o=>
   match o.op with
   | .alloc t=>
    match mm P t with
    |some z=>
     match o.guard.isNone&&r.all (λj=>OQ m i j||Hl ops j)with
     |true=>sm P cs call ops m gs ow r pend (env.putO o.dst (.c (.raw (.ptr H.length 0 0)))) (H++[.live false z]) k
     |false=>none
    |none=>none
   |op=>
    match bT ops o.guard env with
    |some false=>sm P cs call ops m gs ow r ((i,[])::pend) (env.putO o.dst (.tup [])) H k
    |some true=>
     match dq op&& !(ow&&ABP op)with
     |true=>
      match (zG env op).all λid=>Nat.blt id H.length with
      |true=>quD P env H op λv=>force (Mm i gs) v λv'=>sm P cs call ops m gs ow r ((i,zG env op)::pend) (env.putO o.dst v') H k
      |false=>none
     |false=>
      match r.all (λj=>OQ m i j||Hl ops j)&&pend.all (λp=>OQ m p.1 i||p.2.all λid=>!Mm id (py cs (Sa o env) H op))with
      |true=>AAU P cs call (Sa o env) H op λv H'=>force (Mm i gs) v λv'=>sm P cs call ops m gs ow r pend (env.putO o.dst v') H' k
      |false=>none
    |none=>none
variable {P:Program} {N:Nat} {o:Oper} {env:BY} {H:An} {r:R}
def uF(env:BY)(a:Op)(h:isLen a=false):vC (Bw env) a=zG env a:=by unfold vC zG;rw[h];simp only;congr 1;funext x;rw[KO,yi]
def fD.len{env:Env}{H:Aq}{v:AW}(b:isLen o.op=true)(e:CR P env H o.op=some v):fD P N o env H [] v:=by
 intro c f d _;refine Db (v:=v) ?_ ⟨rfl,rfl⟩;rw[ny (ag d),<-e];generalize o.op=op at b;unfold isLen at b;split at b
 ·rename_i args a;obtain⟨args⟩:=args;obtain⟨a⟩:=a;match args,a with
  |[x],[t]=>rfl
  |[],_=>rfl
  |_::_::_,_=>rfl
  |[_],[]=>rfl
  |[_],_::_::_=>rfl
 ·rfl
 ·rfl
 ·rfl
 ·cases b
def vA{k:TV->Option R}(ok:PB env H)(h:quD P env H o.op k=some r): ∃v,fD P N o (Bw env) (A3 H) (zG env o.op) v.enc/\k v=some r/\v.ok H:=by
 have e:zE P env H o.op k=some r-> ∃v,fD P N o (Bw env) (A3 H) (zG env o.op) v.enc/\k v=some r/\v.ok H:=λh=>by
  obtain⟨v,i,l,m⟩:=nz ok h;refine⟨v,?_,l,m⟩;cases n:isLen o.op with
  |true=>
   have:zG env o.op=[]:=by unfold zG;rw[n]
   rw[this];exact fD.len n i
  |false=>rw[<-uF _ _ n];exact UX i
 generalize b:o.op=op at h;unfold quD at h;split at h
 ·rename_i t len a;unfold js at h;split at h
  ·rename_i x q;split at h
   ·rename_i j;split at h
    ·rename_i J d;have z:=mU q j;refine⟨_,?_,h,JL trivial⟩;rw[<-b,<-uF _ _ (by rw[b];rfl)];have A:oZ P (Bw env) (A3 H) o.op=some (.vs x.sz ((a.toList.map λp=>Ij env p.2).map TV.enc)):=by rw[b];simp only[oZ,z]
     have B:=dN (N:=N) A;intro y f i l;have m:Ii P N o y f (DO (.vs x.sz ((a.toList.map λp:Nat×Operand=>Ij env p.2).map TV.enc)) f):=B y f i l;refine Ii.after (v:=.vs x.sz ((a.toList.map λp:Nat×Operand=>Ij env p.2).map TV.enc)) (H1:=f) m λX g w s=>⟨Rw.refl _ _,λc F=>?_⟩
     refine za (fq d) (dG d) (λv D=>?_) _ _ F;unfold ba at j;simp only[BM]at j;obtain⟨u,C,rfl⟩:=BX.1 D;have:=DG.1 j.1.1.2 u C;split at this
     ·rename_i I E;obtain⟨_,G,_⟩:=V9 E;rw[G,Zs];exact Ba this
     ·cases this
    ·cases h
   ·cases h
  ·cases h
 ·rw[<-b];exact e (by rw[b];exact h)
def ue{e:List Sf}{a:RJ}{f:Op}{k:TV->An->Option R}(h:wL P e a env H f k=some r):qB P e a env H f k=some r:=by
 unfold wL at h;unfold qB;split at h
 ·exact h
 ·exact h
 ·exact h
 ·exact h
 ·rename_i c;split at h
  ·rename_i F g b;simp only[b];exact h
  ·rename_i b;simp only[b];split at h
   ·rename_i i g d;try simp only[d]
    exact h
   ·rename_i d;try simp only[d]
    split at h
    ·exact h
    ·cases h
 ·cases h
def nr{o:Oper}{env:BY}{p:Nat×TV}(h:p∈Sa o env):p.1∈Se o/\p.2=env.get p.1/\p.2≠ .c (.raw .any):=by
 obtain⟨t,b,a⟩:=Nx.1 h;split at a
 ·cases a
 ·rename_i hn;injection a with a;subst a;exact⟨b,rfl,hn⟩
def yZ{v:TV}(h:v.enc= .any):v= .c (.raw .any):=by
 cases v with
 |c x=>
  cases x with
  |raw a=>simp only[TV.enc,Bd.one]at h;rw[h]
  |ar n t a=>cases h
  |_=>simp[TV.enc,Bd.one]at h
 |_=>simp[TV.enc]at h
def fL{t:Nat}: ∀{l:BY},(∀p∈l,p.1≠t)->BY.get l t=Sq
 |[],_=>rfl
 |(k,u)::r,h=>by simp only[BY.get,beq_false (h (k,u) (by simp))];exact fL λp a=>h p (by simp[a])
def nj{j:Nat}: ∀{l:List Nat},j∈l->Mm j l=true
 |i::r,h=>by
  simp only[Mm];rcases Al.1 h with rfl|h
  ·rw[Ds]
  ·rw[nj h];split<;>rfl
def zf(ids:List Nat)(H:An)(j:Nat):Prop:= ∀cs,H[j]? =some (.live false cs)-> ∀i∈KI cs,i∉ids
def kK{ids:List Nat}: ∀{H:An} {i j:Nat},i+j∉dg ids i H->zf ids H j
 |[],_,_,_,c,h=>by simp at h
 |e::r,i,0,hn,c,h=>by
  simp only[M7,AV]at h;subst h;simp only[dg]at hn;split at hn
  ·exact absurd (Gi) hn
  ·rename_i g;intro x k a;have:=ib.1 g x k;rw[nj a]at this;exact this rfl
 |e::r,i,j+1,hn,c,h=>by
  rw[eA]at h;have d:(i+1)+j∉dg ids (i+1) r:=by
   have f:i+1+j=i+(j+1):=by omega
   rw[f];intro a;apply hn;cases e with
   |live b c=>
    cases b with
    |false=>
     simp only[dg];split
     ·exact Bq _ a
     ·exact a
    |true=>exact a
   |dead=>exact a
   |buf=>exact a
   |lp=>exact a
   |mp=>exact a
  exact kK (ids:=ids) d c h
def gD{c b:Nat}{t:Ty}{l:List t.D}: ∀{a:List Bd},c∉KI a->a.map (Mr c b t l)=a
 |[],_=>rfl
 |x::r,h=>by
  cases x with
  |own e d f n=>simp only[KI,Al,not_or]at h;simp only[BE,Mr,beq_false h.1,Bool.false_and,gD h.2]
  |_=>simp only[KI]at h;simp only[BE,Mr,gD h]
def ai: ∀(a:List Nat) {env:BY} {H:An} {j:Nat},j∉a->zf a H j->(HQ a env H).2[j]? =H[j]?
 |[],_,_,_,_,_=>rfl
 |id::r,env,H,j,hj,hn=>by
  simp only[Al,not_or]at hj;simp only[HQ];split
  ·rename_i e h d;have m:h[j]? =H[j]? :=by
    unfold frz at d;split at d
    ·rename_i t l n q s;simp only[AV,Br]at d;rw[<-d.2,C1 (λe=>hj.1 e.symm),Bb];cases p:H[j]? with
     |none=>rfl
     |some o=>
      simp only[BB,AV];cases o with
      |live b c=>
       cases b with
       |false=>simp only[PN];rw[gD λf=>hn c p id f Gi]
       |true=>rfl
      |_=>rfl
    ·cases d
   rw[ai r hj.2 λc g i k f=>hn c (m▸g) i k (Bq _ f),m]
  ·exact ai r hj.2 λc g i k f=>hn c g i k (Bq _ f)
def rf{b:List Sf}(y: ∀c∈b,c.Ok P){g:RJ}(x:Ua P g){k:TV→An→Option R}(ok:PB env H)(h:AAU P b g (Sa o env) H o.op k=some r):
  ∃v f,Eff P N o (Bw env) (A3 H) (py b (Sa o env) H o.op) (DO v.enc (A3 f))/\k v f=some r/\v.ok f/\(∀e∈f,e.ok f)/\B8 H f:=by
 have A:PB (Sa o env) H:=⟨λp z=>by rw[(nr z).2.1];exact jU ok.env _,ok.heap⟩
 unfold AAU at h;obtain⟨l,u,B⟩:=Pl (dd b (Sa o env) H o.op) A;have C:=λj=>ai (dd b (Sa o env) H o.op) (env:=Sa o env) (H:=H) (j:=j);have w: ∀d,d∉py b (Sa o env) H o.op->d∉oe b (HQ (dd b (Sa o env) H o.op) (Sa o env) H).1 (HQ (dd b (Sa o env) H o.op) (Sa o env) H).2 o.op/\(HQ (dd b (Sa o env) H o.op) (Sa o env) H).2[d]? =H[d]? :=by
  intro d a;unfold py at a;split at a
  ·rename_i J;rw[J];exact⟨a,rfl⟩
  ·simp only[Ar,not_or]at a;refine⟨a.2,C d a.1.1 (kK (i:=0) (by rw[DE];exact a.1.2))⟩
 generalize HQ (dd b (Sa o env) H o.op) (Sa o env) H=fz at h l u B w;obtain⟨M,O⟩:=fz;simp only at h l u B w;obtain⟨v,f,q1,q2,q3,q4,q5,q6⟩:=j8 (N:=N) y x l (ue h);refine⟨v,f,⟨λn G=>Ii.before (F6.subset λq I=>?_) (Ii.before (B N) q1),?_⟩,q2,q3,q4,u.step.trans q5⟩
 ·obtain⟨p,z,rfl⟩:=BX.1 I;obtain⟨D,E,F⟩:=nr z;have s:=G p.1 D;rw[SB,<-E]at s;rcases NF (env:=n) (t:=p.1)with e|m
  ·rw[e]at s;exact absurd (yZ s.symm) F
  ·rw[s]at m;exact m
 ·rintro _ _ ⟨rfl,rfl⟩ d a hn;rw[CO]at a;obtain⟨K,L⟩:=w d hn;rw[E7,E7,q6 d (DD a u.step.len) K,L]
def Rt{j:Nat}: ∀{l:List Nat},Mm j l=false->j∉l
 |i::r,h=>by
  simp only[Mm]at h;split at h
  ·cases h
  ·rename_i b;intro a;rcases Al.1 a with rfl|a
   ·rw[Ds]at b;cases b
   ·exact Rt h a
 |[],_=>λh=>by cases h
def kY(ops:Array Oper)(l:List Nat):List Nat:=l.filterMap λi=>(ops[i]?).bind (·.dst)
def V6{M:List Sf}(u: ∀c∈M,c.Ok P){w:RJ}(s:Ua P w){b:Array Oper}{X:List Nat}{ow:Bool}: ∀(l:List Nat) (n:List (Nat×List Nat)) (env:BY) (H:An) (k:BY→An→Option R) (r:R),PB env H→
  sm P M w b (Hu b.toList []) X ow l n env H k=some r->
  ∃a q,RA P N b l n (Bw env) (A3 H) (λe h=>e=Bw a/\h=A3 q)/\k a q=some r/\PB a q/\E2 (kY b l) env H a q
 |[],n,env,H,k,r,ok,h=>⟨env,H,⟨rfl,rfl⟩,h,ok,E2.refl _ _ _⟩
 |i::l,n,env,H,k,r,ok,h=>by
  simp only[sm]at h;simp only[RA];cases K:b[i]? with
  |none=>rw[K]at h;cases h
  |some o=>
   rw[K]at h;simp only at h⊢;have m: ∀{e:BY} {h:An} {v:TV},E2 (kY b [i]) e h (e.putO o.dst v) h:=by
    intro e h v;refine⟨B8.refl h,λt J _=>?_⟩;cases hd:o.dst with
    |none=>rfl
    |some d=>refine iJ λe=>J ?_;simp[kY,K,hd,e]
   have g: ∀t,t∈kY b [i]++kY b l->t∈kY b (i::l):=by intro t J;rw[show kY b (i::l)=kY b ([i]++l)from rfl];simpa[kY,ii]using J
   split at h
   ·rename_i t T;split at h
    ·rename_i z hz;split at h
     ·rename_i A;simp only[BM]at A;obtain⟨z1,z2⟩:=WC hz;have I:=B8.push H (.live false z);have f:PB (env.putO o.dst (.c (.raw (.ptr H.length 0 0)))) (H++[.live false z]):=⟨bc (I.env ok.env) (JL trivial),Od ok.heap (z2 _)⟩
      obtain⟨a,q,x,D,E,F⟩:=V6 u s l _ _ _ _ _ f h;have G:o.guard=none:=by simpa using A.1
      refine⟨a,q,?_,D,E,?_⟩
      ·rw[G];refine .inr (.inr ⟨t,lvs z,T,z1,λj Q=>?_,?_⟩)
       ·have:=DG.1 A.2 j Q;simpa using this
       ·have O:Bw (env.putO o.dst (.c (.raw (.ptr H.length 0 0))))=(Bw env).putO o.dst (.ptr (A3 H).length 0 0):=by rw[U5,CO];rfl
        have W:A3 (H++[.live false z])=A3 H++[.live 0 (lvs z)]:=Pj _ _;rw[O,W]at x;exact x
      ·have V:E2 (kY b [i]) env H (env.putO o.dst (.c (.raw (.ptr H.length 0 0)))) (H++[.live false z]):=⟨I,(m (h:=H)).same⟩
       exact(E2.trans ok.env V F).mono g
     ·cases h
    ·cases h
   ·rename_i S;have y:Hl b i=false:=by
     cases Z:Hl b i with
     |false=>rfl
     |true=>obtain⟨t,J⟩:=(Tx K).1 Z;exact(S t J).elim
    split at h
    ·rename_i G;have f:PB (env.putO o.dst (.tup [])) H:=⟨bc ok.env (Po λv hv=>by cases hv),ok.heap⟩
     obtain⟨a,q,x,D,E,F⟩:=V6 u s l _ _ _ _ _ f h;have O:(Bw env).putO o.dst (.tup [])=Bw (env.putO o.dst (.tup [])):=by rw[U5];rfl
     exact⟨a,q,g8 G ⟨y,by rw[O];exact x⟩,D,E,(E2.trans ok.env m F).mono g⟩
    ·rename_i G;split at h
     ·split at h
      ·rename_i U;obtain⟨v,q1,q2,q3⟩:=vA (N:=N) ok h;have C:=fw q2;have f:PB (env.putO o.dst v) H:=⟨bc ok.env q3,ok.heap⟩
       obtain⟨a,q,x,D,E,F⟩:=V6 u s l _ _ _ _ _ f C;refine⟨a,q,dZ G (.inl ⟨y,v.enc,zG env o.op,q1,λid B=>?_,by rw[<-U5];exact x⟩),D,E,(E2.trans ok.env m F).mono g⟩;have:=DG.1 U id B;rw[CO];exact JF this
      ·cases h
     ·split at h
      ·rename_i A;simp only[BM]at A;obtain⟨v,L,q1,q2,q3,q4,q5⟩:=rf (N:=N) u s ok h;have C:=fw q2;have f:PB (env.putO o.dst v) L:=⟨bc (q5.env ok.env) q3,q4⟩
       obtain⟨a,q,x,D,E,F⟩:=V6 u s l _ _ _ _ _ f C;refine⟨a,q,dZ G (.inr (.inl ⟨y,py M (Sa o env) H o.op,λj Q=>by simpa using List.all_eq_true.1 A.1 j Q,λp hp=>?_,DO v.enc (A3 L),q1,?_,?_⟩)),D,E,?_⟩
       ·have:=DG.1 A.2 p hp;simp only[iX,DG,RP]at this;exact this.imp id λY id B=>Rt (Y id B)
       ·rintro _ _ ⟨rfl,rfl⟩;rw[CO,CO];exact q5.len
       ·rintro _ _ ⟨rfl,rfl⟩;rw[<-U5];exact x
       ·have V:E2 (kY b [i]) env H (env.putO o.dst v) L:=⟨q5,(m (h:=H)).same⟩
        exact(E2.trans ok.env V F).mono g
      ·cases h
    ·cases h
end
abbrev DV:=(t:Ty)×t.D
def wK:(ts:List Ty)->DL ts->List DV
 |[],_=>[]
 |[t],x=>[⟨t,x⟩]
 |t::u::r,x=>⟨t,x.1⟩::wK (u::r) x.2
def sJ:(ts:List Ty)->List DV->Option (DL ts)
 |[],[]=>some ()
 |[t],[⟨t',x⟩]=>if h:t'.beq t=true then some (Ty.cast h x)else none
 |t::u::r,⟨t',x⟩::ds=>if h:t'.beq t=true then match sJ (u::r) ds with|some y=>some (Ty.cast h x,y)|none=>none else none
 |_,_=>none
def tV{t a:Ty}(h:a.beq t=true)(x:a.D):(⟨t,Ty.cast h x⟩:DV)=⟨a,x⟩:=by have e:=Ty.beq_eq a t h;subst e;rfl
def ja: ∀{b:List Ty} {a:List DV} {s:DL b},sJ b a=some s->wK b s=a
 |[],[],s,_=>rfl
 |[],_::_,s,h=>by cases h
 |[t],[],s,h=>by cases h
 |[t],[⟨t',x⟩],s,h=>by
  simp only[sJ]at h;split at h
  ·rename_i c;injection h with h;subst h;simp only[wK,tV]
  ·cases h
 |[t],_::_::_,s,h=>by simp[sJ]at h
 |t::u::r,[],s,h=>by cases h
 |t::u::r,⟨t',x⟩::a,s,h=>by
  simp only[sJ]at h;split at h
  ·rename_i c;split at h
   ·rename_i y d;injection h with h;subst h;simp only[wK,tV,ja d]
   ·cases h
  ·cases h
inductive Part where
 |d (t:Ty)
 |o (id:Nat)
inductive TE where
 |t (tmp:Nat) (ty:Ty)
 |g (tmp id:Nat)
 |p (id:Nat) (ps:List Part)
 |u (id:Nat) (ty:Ty)
 |x (id:Nat)
 |k (tmp:Nat) (v:AW)
 |y (id:Nat) (s:LS)
 |m (id:Nat) (k:IntKind) (t:Ty)
def AAz:AW->AW->Bool
 | .ptr a b c,.ptr a' b' c'=>Nat.beq a a'&&(Nat.beq b b'&&Nat.beq c c')
 | .nilp,.nilp=>true
 | .nilf,.nilf=>true
 |_,_=>false
def zF{v w:AW}(h:AAz v w=true):v=w:=by
 unfold AAz at h;split at h
 ·simp only[BM]at h;rw[Ba h.1,Ba h.2.1,Ba h.2.2]
 ·rfl
 ·rfl
 ·cases h
def Kw:List TE->List Nat
 |[]=>[]
 | .p id _::r=>id::Kw r
 | .u id _::r=>id::Kw r
 | .x id::r=>id::Kw r
 | .y id _::r=>id::Kw r
 | .m id _ _::r=>id::Kw r
 |_::r=>Kw r
def kT:List TE->List Nat
 |[]=>[]
 | .t tmp _::r=>tmp::kT r
 | .g tmp _::r=>tmp::kT r
 | .k tmp _::r=>tmp::kT r
 |_::r=>kT r
def AAr:List Part->List Ty
 |[]=>[]
 | .d t::r=>t::AAr r
 |_::r=>AAr r
def bi:List TE->List Ty
 |[]=>[]
 | .t _ t::r=>t::bi r
 | .p _ ps::r=>AAr ps++bi r
 | .u _ t::r=>.list t::bi r
 | .m _ k t::r=>.list (.prod (.cons (.int k) (.one t)))::bi r
 |_::r=>bi r
def oY(H:An)(id:Nat):Bd->Bool
 | .own id' ver _ _=>match Nat.beq id id' with
  |true=>match H[id]? with|some (.buf _ _ _ _ ver')=>Nat.beq ver ver'|_=>false
  |false=>false
 |_=>false
def gd(H:An)(rest:List Nat):List Part->List Bd->Option (List DV)
 |[],[]=>some []
 | .d t::ps,cs=>
  match t.mk cs with
  |some (x,cs')=>match gd H rest ps cs' with|some ds=>some (⟨t,x⟩::ds)|none=>none
  |none=>none
 | .o id::ps,c::cs=>
  match oY H id c&& !Mm id rest with
  |true=>gd H rest ps cs
  |false=>none
 |_,_=>none
def Xf(env:BY)(H:An):List TE->Option (List DV)
 |[]=>some []
 | .t tmp ty::r=>
  match ty.data (env.get tmp),Xf env H r with
  |some x,some ds=>some (⟨ty,x⟩::ds)
  |_,_=>none
 | .g tmp id::r=>
  match env.get tmp with
  | .c x=>match oY H id x&& !Mm id (Kw r)with|true=>Xf env H r|false=>none
  |_=>none
 | .p id ps::r=>
  match H[id]? with
  |some (.live _ cs)=>
   match gd H (id::Kw r) ps cs,Xf env H r with
   |some a,some b=>some (a++b)
   |_,_=>none
  |_=>none
 | .u id ty::r=>
  match H[id]? with
  |some (.buf _ t l _ _)=>match t.beq ty,Xf env H r with|true,some ds=>some (⟨.list t,l⟩::ds)|_,_=>none
  |_=>none
 | .x _::r=>Xf env H r
 | .k tmp v::r=>
  match env.get tmp with
  | .c (.raw w)=>match AAz v w with|true=>Xf env H r|false=>none
  |_=>none
 | .y id s::r=>
  match H[id]? with
  |some (.lp _ _ _ _ _ _ _ s')=>match s.beq s' with|true=>Xf env H r|false=>none
  |_=>none
 | .m id k t::r=>
  match H[id]? with
  |some (.mp _ k' t' es)=>match decide (k'=k)&&t'.beq t,Xf env H r with|true,some ds=>some (⟨.list (.prod (.cons (.int k') (.one t'))),es⟩::ds)|_,_=>none
  |_=>none
def mE(H:An):List Part->List DV->Option (List Bd×List DV)
 |[],ds=>some ([],ds)
 | .d _::ps,⟨t,x⟩::ds=>match mE H ps ds with|some (cs,r)=>some (t.lvs x++cs,r)|none=>none
 | .o id::ps,ds=>
  match H[id]? with
  |some (.buf _ t _ n ver)=>match mE H ps ds with|some (cs,r)=>some (.own id ver t n::cs,r)|none=>none
  |_=>none
 |_,_=>none
def US:List TE->List DV->BY->An->Option (BY×An)
 |[],[],env,H=>some (env,H)
 | .t tmp _::r,⟨t,x⟩::ds,env,H=>US r ds ((tmp,t.tv x)::env) H
 | .g tmp id::r,ds,env,H=>
  match H[id]? with
  |some (.buf _ t _ n ver)=>US r ds ((tmp,.c (.own id ver t n))::env) H
  |_=>none
 | .p id ps::r,ds,env,H=>
  match H[id]? with
  |some (.live false _)=>match mE H ps ds with|some (cs,ds')=>US r ds' env (H.set id (.live false cs))|none=>none
  |_=>none
 | .u id _::r,⟨.list t,l⟩::ds,env,H=>
  match H[id]? with
  |some (.buf false t' _ _ ver)=>match t'.beq t with|true=>US r ds env (H.set id (.buf false t l l.length (ver+1)))|false=>none
  |_=>none
 | .x id::r,ds,env,H=>
  match H[id]? with
  |some e=>match e.ro||e.isLp with|false=>US r ds env (H.set id .dead)|true=>none
  |none=>none
 | .k tmp v::r,ds,env,H=>US r ds ((tmp,.c (.raw v))::env) H
 | .y id s::r,ds,env,H=>
  match H[id]? with
  |some (.lp false F n e ps a b _)=>US r ds env (H.set id (.lp false F n e ps a b s))
  |_=>none
 | .m id _ _::r,⟨.list (.prod (.cons (.int k) (.one t))),es⟩::ds,env,H=>
  match H[id]? with
  |some (.mp false k' t' _)=>match decide (k'=k)&&t'.beq t with|true=>US r ds env (H.set id (.mp false k t es))|false=>none
  |_=>none
 |_,_,_,_=>none
def AAH(e e':Df):Prop:=e'= .dead\/(∃b cs b' cs',e= .live b cs/\e'= .live b' cs'/\DU (lvs cs) (lvs cs'))\/(∃b t l n v b' v',e= .buf b t l n v/\e'= .buf b' t l n v')\/(∃ro ro' F n env ps a b s,e= .lp ro F n env ps a b s/\e'= .lp ro' F n env ps a b s)\/(∃b b' k t es,e= .mp b k t es/\e'= .mp b' k t es)
def HR(H1 H:An)(rest:List Nat):Prop:= ∀(j:Nat) (e':Df),Mm j rest=false->H[j]? =some e'-> ∃e,H1[j]? =some e/\AAH e e'
def Pn{j a:Nat}{r:List Nat}:Mm j (a::r)=false↔j≠a/\Mm j r=false:=by
 simp only[Mm];by_cases h:j=a
 ·subst h;simp[Ds]
 ·rw[beq_false λe=>h e.symm];simp[h]
def jx{H:An}{d:Nat}{c:Bd}(k:c.ok H)(h:oY H d c=true): ∃b t l n a,c= .own d a t n/\H[d]? =some (.buf b t l n a):=by
 unfold oY at h;split at h
 ·rename_i m a t n;split at h
  ·rename_i j;have g:=Ba j;subst g;split at h
   ·rename_i b p l o f e;have i:=Ba h;subst i;obtain⟨rfl,rfl⟩:=(k.2 _ _ _ _ _ e).2 rfl;exact⟨_,_,_,_,_,rfl,e⟩
   ·cases h
  ·cases h
 ·cases h
def VC{H:An}{e a n:Nat}{b:Bool}{t:Ty}{l:List t.D}(h:H[e]? =some (.buf b t l n a)):TC H e a t n:=by
 refine⟨?_,λro o k m f c=>?_⟩
 ·rcases Ag e H.length with d|d
  ·exact d
  ·rw[BP d]at h;cases h
 ·rw[h]at c;injection c with c;injection c with _ g _ i j;exact⟨by omega,λ_=>⟨g.symm,i.symm⟩⟩
def fo{s H:An}{i:List Nat}(hr:HR s H i): ∀{p:List Part} {m:List Bd} {a b j:List DV} {f:List Bd},lok s m→gd s i p m=some a→mE H p (a++b)=some (f,j)→
  j=b/\DU (lvs m) (lvs f)/\lok H f
 |[],[],a,b,j,f,ok,h,k=>by simp only[gd,AV]at h;subst h;simp only[CA,mE,AV,Br]at k;obtain⟨rfl,rfl⟩:=k;exact⟨rfl,DU.refl _,yp⟩
 |[],_::_,a,b,j,f,ok,h,k=>by simp[gd]at h
 | .d t::p,m,a,b,j,f,ok,h,k=>by
  simp only[gd]at h;split at h
  ·rename_i x R A;split at h
   ·rename_i S v;injection h with h;subst h;obtain⟨Q,rfl,M⟩:=t.mk_spec _ _ _ A;simp only[Dg,mE]at k;split at k
    ·rename_i E r w;simp only[AV,Br]at k;obtain⟨rfl,rfl⟩:=k;obtain⟨q1,q2,q3⟩:=fo hr (Gj.1 ok).2 v w;refine⟨q1,?_,Gj.2 ⟨t.lvs_ok x,q3⟩⟩;rw[GN,GN,t.lvs_enc];exact M.append q2
    ·cases k
   ·cases h
  ·cases h
 | .o id::p,[],a,b,j,f,ok,h,k=>by simp[gd]at h
 | .o id::p,c::m,a,b,j,f,ok,h,k=>by
  simp only[gd]at h;split at h
  ·rename_i u;simp only[BM,RP]at u;obtain⟨O,t,l,n,N,rfl,L⟩:=jx (ok c (by simp)) u.1;simp only[mE]at k;split at k
   ·rename_i P t2 l2 Z D C;split at k
    ·rename_i E r w;simp only[AV,Br]at k;obtain⟨rfl,rfl⟩:=k;obtain⟨q1,q2,q3⟩:=fo hr (λx A=>ok x (by simp[A])) h w;obtain⟨e,q,z⟩:=hr id _ u.2 C;rw[L]at q;injection q with q;subst q;rcases z with g|⟨_,_,_,_,g,_⟩|⟨_,_,_,_,_,_,_,g,K⟩|⟨_,_,_,_,_,_,_,_,_,g,_⟩|⟨_,_,_,_,_,g,_⟩
     ·cases g
     ·cases g
     rotate_left
     ·cases g
     ·cases g
     ·injection g with T F U G V;injection K with W I X J Y;subst F G I J;refine⟨q1,?_,λy B=>?_⟩
      ·rw[Gg,Gg];exact(DU.refl _).append q2
      ·rcases Al.1 B with rfl|B
       ·exact VC C
       ·exact q3 y B
    ·cases k
   ·cases k
  ·cases h
structure IS(env1:BY)(H1:An)(slots:List TE)(env:BY)(H:An)(env2:BY)(H2:An):Prop where
 get: ∀t,Mm t (kT slots)=false->env2.get t=env.get t
 ok:PB env2 H2
 env: ∀p∈env2,∃v,(p.1,v)∈env1/\Ub v.enc p.2.enc
 hr:HR H1 H2 []
 step:B8 H H2
 len:H2.length=H.length
 same: ∀j,Mm j (Kw slots)=false->H2[j]? =H[j]?
def dn{t:Nat}{v:TV}: ∀{env:BY},env.get t=v->v≠Sq->(t,v)∈env
 |[],h,hv=>absurd h.symm hv
 |(k,u)::r,h,hv=>by
  simp only[BY.get]at h;split at h
  ·rename_i a;have:=Ba a;subst this;subst h;exact Gi
  ·exact Bq _ (dn h hv)
def heap_set{H:An}{a:Nat}{e:Df}(c:B8 H (H.set a e))(ok: ∀x∈H,x.ok H)(b:e.ok (H.set a e)): ∀x∈H.set a e,x.ok (H.set a e):=by
 intro x d;rcases Q2 d with h|rfl
 ·exact c.ent (ok x h)
 ·exact b
def HR.set{c H:An}{d:Nat}{r:List Nat}{e f:Df}(h:HR c H (d::r))(g:c[d]? =some e)(hr:AAH e f):HR c (H.set d f) r:=by
 intro j x i a;rw[TF]at a;split at a
 ·rename_i b;subst b;split at a
  ·injection a with a;subst a;exact⟨e,g,hr⟩
  ·cases a
 ·rename_i b;exact h j x (Pn.2 ⟨λq=>b q.symm,i⟩) a
def vS.set{H g:An}{f:Nat}{m:Df}(h:vS H g)(i:f<H.length)(r: ∀ro F n env k a b s,g[f]? =some (.lp ro F n env k a b s)-> ∃c l,m= .lp c F n env k a b l):vS (H.set f m) g:=by
 intro j o ro F n env k a b s p;rw[Zw]at o;by_cases d:j=f
 ·subst d;obtain⟨c,l,q⟩:=r _ _ _ _ _ _ _ _ p;exact⟨c,l,by rw[EI i,q]⟩
 ·rw[C1 λe=>d e.symm];exact h j o _ _ _ _ _ _ _ _ p
def kG{env1:BY}{c:An}(b:Nat){r:List TE}{env:BY}{H:An}{env2:BY}{l:An}{e:Df}(d:H[b]? =some e)(a:(e.ro||e.isLp)=false)(p:H.length≤c.length)(lp:vS H c)
  (hr:HR c H (b::Kw r)) (ok:PB env H) (q0:PB env (H.set b .dead)->vS (H.set b .dead) c->HR c (H.set b .dead) (Kw r)->IS env1 c r env (H.set b .dead) env2 l):IS env1 c (.x b::r) env H env2 l:=by
 have g:e.ro=false:=by
  cases i:e.ro with
  |false=>rfl
  |true=>rw[i]at a;cases a
 have f:e.isLp=false:=by rw[g]at a;exact a
 have k:B8 H (H.set b .dead):=B8.set d g λ_ _ _ _ _ e=>by cases e
 have h:b<c.length:=by
  rcases Ag b H.length with m|m
  ·omega
  ·rw[BP m]at d;cases d
 have q:=q0 ⟨k.env ok.env,heap_set k ok.heap trivial⟩ (lp.set (Ez d) λ_ _ _ _ _ _ _ _ i=>by obtain⟨o,s,q⟩:=lp b (Ez d) _ _ _ _ _ _ _ _ i;rw[d]at q;injection q with q;rw[q]at f;cases f) (HR.set hr (Ay h) (.inl rfl));refine⟨q.get,q.ok,q.env,q.hr,k.trans q.step,by simpa using q.len,λj n=>?_⟩;have:=Pn.1 n;rw[q.same j this.2,C1 λe=>this.1 e.symm]
def Nl{env1:BY}{I:An}(o:PB env1 I): ∀{slots:List TE} {B:List DV} {env:BY} {H:An} {env2:BY} {E:An},Xf env1 I slots=some B→US slots B env H=some (env2,E)→PB env H→
  H.length<=I.length->(∀p∈env,∃v,(p.1,v)∈env1/\Ub v.enc p.2.enc)->HR I H (Kw slots)->vS H I->IS env1 I slots env H env2 E
 |[],B,env,H,env2,E,h,k,ok,hl,he,hr,lp=>by simp only[Xf,AV]at h;subst h;simp only[US,AV,Br]at k;obtain⟨rfl,rfl⟩:=k;exact⟨λ_ _=>rfl,ok,he,hr,B8.refl _,rfl,λ_ _=>rfl⟩
 | .t tmp ty::r,B,env,H,env2,E,h,k,ok,hl,he,hr,lp=>by
  simp only[Xf]at h;split at h
  ·rename_i x d N V;injection h with h;subst h;simp only[US]at k;have f:PB ((tmp,ty.tv x)::env) H:=⟨λp z=>by
    rcases Al.1 z with rfl|z
    ·exact ty.tv_ok x
    ·exact ok.env p z,ok.heap⟩
   have q:=Nl o V k f hl (λp z=>by
    rcases Al.1 z with rfl|z
    ·refine⟨env1.get tmp,dn rfl λe=>?_,?_⟩
     ·rw[e]at N;cases ty<;>cases N
     ·simp only[ty.tv_enc];exact LY N
    ·exact he p z) hr lp
   refine⟨λt K=>?_,q.ok,q.env,q.hr,q.step,q.len,q.same⟩;have:=Pn.1 K;rw[q.get t this.2];simp only[BY.get,beq_false λe=>this.1 e.symm]
  ·cases h
 | .g tmp id::r,B,env,H,env2,E,h,k,ok,hl,he,hr,lp=>by
  simp only[Xf]at h;split at h
  ·rename_i x N;split at h
   ·rename_i J;simp only[BM,RP]at J;have al:x.ok I:=jU o.env tmp x (by rw[N];simp[TV.refs]);obtain⟨b1,t,l,n,ap,rfl,C⟩:=jx al J.1;simp only[US]at k;split at k
    ·rename_i b2 T l2 n2 W h2;obtain⟨e,M,ad⟩:=hr id _ J.2 h2;rw[C]at M;injection M with M;subst M;rcases ad with i|⟨_,_,_,_,i,_⟩|⟨_,_,_,_,_,_,_,i,h1⟩|⟨_,_,_,_,_,_,_,_,_,i,_⟩|⟨_,_,_,_,_,i,_⟩
     ·cases i
     ·cases i
     rotate_left
     ·cases i
     ·cases i
     ·injection i with e1 X e3 e4 e5;injection h1 with f1 f2 f3 f4 f5;subst X e4 f2 f4;have f:PB ((tmp,.c (.own id W T n2))::env) H:=⟨λp z=>by
       rcases Al.1 z with rfl|z
       ·exact JL (VC h2)
       ·exact ok.env p z,ok.heap⟩
      have q:=Nl o h k f hl (λp z=>by
       rcases Al.1 z with rfl|z
       ·exact⟨_,dn N (λe=>by cases e),Ub.refl _⟩
       ·exact he p z) hr lp
      refine⟨λt K=>?_,q.ok,q.env,q.hr,q.step,q.len,q.same⟩;have:=Pn.1 K;rw[q.get t this.2];simp only[BY.get,beq_false λe=>this.1 e.symm]
    ·cases k
   ·cases h
  ·cases h
 | .p id S::r,B,env,H,env2,E,h,k,ok,hl,he,hr,lp=>by
  simp only[Xf]at h;split at h
  ·rename_i b cs C;split at h
   ·rename_i a b1 ha J;injection h with h;subst h;simp only[US]at k;split at k
    ·rename_i ar i;split at k
     ·rename_i O U hi;have Z:lok I cs:=by simpa only[Df.ok]using o.heap _ (BV C)
      obtain⟨rfl,q2,q3⟩:=fo hr Z ha hi;have D:B8 H (H.set id (.live false O)):=B8.set i rfl λ_ _ _ _ _ e=>by cases e
      have A:HR I (H.set id (.live false O)) (Kw r):=HR.set hr C (.inr (.inl ⟨_,_,_,_,rfl,rfl,q2⟩));have f:PB env (H.set id (.live false O)):=⟨D.env ok.env,heap_set D ok.heap (by simpa only[Df.ok]using D.lok q3)⟩
      have q:=Nl o J k f (by simpa using hl) he A (lp.set (Ez i) λ_ _ _ _ _ _ _ _ G=>by rw[C]at G;cases G);refine⟨q.get,q.ok,q.env,q.hr,D.trans q.step,by simpa using q.len,λj P=>?_⟩;have:=Pn.1 P;rw[q.same j this.2,C1 λe=>this.1 e.symm]
     ·cases k
    ·cases k
   ·cases h
  ·cases h
 | .u id ty::r,B,env,H,env2,E,h,k,ok,hl,he,hr,lp=>by
  simp only[Xf]at h;split at h
  ·rename_i b t l n ap C;split at h
   ·rename_i U J V;injection h with h;subst h;simp only[US]at k;split at k
    ·rename_i t' l0 n0 L i;split at k
     ·rename_i K;have e:=Ty.beq_eq _ _ K;subst e;have hn:n=l.length:=by simpa only[Df.ok]using o.heap _ (BV C)
      have D:B8 H (H.set id (.buf false t' l l.length (L+1))):=B8.set i rfl λro T l2 n2 v2 e=>by injection e with e1 X e3 e4 e5;subst X;exact⟨_,_,_,_,rfl,.inl (by omega)⟩
      have A:HR I (H.set id (.buf false t' l l.length (L+1))) (Kw r):=HR.set hr C (.inr (.inr (.inl ⟨_,_,_,_,_,_,_,rfl,by rw[hn]⟩)));have f:PB env (H.set id (.buf false t' l l.length (L+1))):=⟨D.env ok.env,heap_set D ok.heap rfl⟩
      have q:=Nl o V k f (by simpa using hl) he A (lp.set (Ez i) λ_ _ _ _ _ _ _ _ G=>by rw[C]at G;cases G);refine⟨q.get,q.ok,q.env,q.hr,D.trans q.step,by simpa using q.len,λj P=>?_⟩;have:=Pn.1 P;rw[q.same j this.2,C1 λe=>this.1 e.symm]
     ·cases k
    ·cases k
   ·cases h
  ·cases h
 | .x id::r,B,env,H,env2,E,h,k,ok,hl,he,hr,lp=>by
  simp only[Xf]at h;cases B with
  |nil=>
   simp only[US]at k;split at k
   ·rename_i e i;split at k
    ·rename_i Q;exact kG id i Q hl lp hr ok λf R A=>Nl o h k f (by simpa using hl) he A R
    ·cases k
   ·cases k
  |cons d B=>
   simp only[US]at k;split at k
   ·rename_i e i;split at k
    ·rename_i Q;exact kG id i Q hl lp hr ok λf R A=>Nl o h k f (by simpa using hl) he A R
    ·cases k
   ·cases k
 | .k tmp w::r,B,env,H,env2,E,h,k,ok,hl,he,hr,lp=>by
  have k':US r B ((tmp,.c (.raw w))::env) H=some (env2,E):=by cases B<;>simpa only[US]using k
  simp only[Xf]at h;split at h
  ·rename_i w' N;split at h
   ·rename_i J;have e:=zF J;subst e;have f:PB ((tmp,.c (.raw w))::env) H:=⟨λp z=>by
     rcases Al.1 z with rfl|z
     ·exact JL trivial
     ·exact ok.env p z,ok.heap⟩
    have hw:w≠ .any:=by rintro rfl;cases J
    have q:=Nl o h k' f hl (λp z=>by
     rcases Al.1 z with rfl|z
     ·refine⟨_,dn N (λe=>?_),Ub.refl _⟩;injection e with e;injection e with e;exact hw e
     ·exact he p z) hr lp
    refine⟨λt K=>?_,q.ok,q.env,q.hr,q.step,q.len,q.same⟩;have:=Pn.1 K;rw[q.get t this.2];simp only[BY.get,beq_false λe=>this.1 e.symm]
   ·cases h
  ·cases h
 | .y id s::r,B,env,H,env2,E,h,k,ok,hl,he,hr,lp=>by
  simp only[Xf]at h;split at h
  ·rename_i ax F1 n1 e1 p1 a1 b1 s1 C;split at h
   ·rename_i J;have e0:=LS.beq_eq J;subst e0;obtain⟨F,n,e,S,a,b,s0,i,k'⟩: ∃F n e S a b s0,H[id]? =some (.lp false F n e S a b s0)/\US r B env (H.set id (.lp false F n e S a b s))=some (env2,E):=by cases B<;>simp only[US]at k<;>split at k<;>first|exact⟨_,_,_,_,_,_,_,‹_›,k⟩|cases k
    obtain⟨a0,s2,q⟩:=lp id (Ez i) _ _ _ _ _ _ _ _ C;rw[i]at q;injection q with q;injection q with _ q2 q3 q4 q5 q6 q7 _;subst q2 q3 q4 q5 q6 q7;have D:B8 H (H.set id (.lp false F n e S a b s)):=B8.set i rfl (λ_ _ _ _ _ e=>by cases e) λ_ _ _ _ _ _ _ _ e=>by injection e with _ q2 q3 q4 q5 q6 q7 _;subst q2 q3 q4 q5 q6 q7;exact⟨_,_,rfl⟩
    have A:HR I (H.set id (.lp false F n e S a b s)) (Kw r):=HR.set hr C (.inr (.inr (.inr (.inl ⟨_,_,_,_,_,_,_,_,_,rfl,rfl⟩))));have f:PB env (H.set id (.lp false F n e S a b s)):=⟨D.env ok.env,heap_set D ok.heap (by have:=ok.heap _ (BV i);simpa only[Df.ok]using this)⟩
    have q:=Nl o h k' f (by simpa using hl) he A (lp.set (Ez i) λ_ _ _ _ _ _ _ _ G=>by rw[C]at G;injection G with G;injection G with _ q2 q3 q4 q5 q6 q7 _;subst q2 q3 q4 q5 q6 q7;exact⟨_,_,rfl⟩);refine⟨q.get,q.ok,q.env,q.hr,D.trans q.step,by simpa using q.len,λj P=>?_⟩;have:=Pn.1 P;rw[q.same j this.2,C1 λe=>this.1 e.symm]
   ·cases h
  ·cases h
 | .m id kk ty::r,B,env,H,env2,E,h,k,ok,hl,he,hr,lp=>by
  simp only[Xf]at h;split at h
  ·rename_i b k1 t1 Y C;split at h
   ·rename_i U J V;injection h with h;subst h;simp only[US]at k;split at k
    ·rename_i k2 T as i;split at k
     ·rename_i K;simp only[BM,decide_eq_true_eq]at K;obtain⟨rfl,K⟩:=K;have e:=Ty.beq_eq _ _ K;subst e;have D:B8 H (H.set id (.mp false k2 T Y)):=B8.set i rfl λ_ _ _ _ _ e=>by cases e
      have A:HR I (H.set id (.mp false k2 T Y)) (Kw r):=HR.set hr C (.inr (.inr (.inr (.inr ⟨_,_,_,_,_,rfl,rfl⟩))));have f:PB env (H.set id (.mp false k2 T Y)):=⟨D.env ok.env,heap_set D ok.heap trivial⟩
      have q:=Nl o V k f (by simpa using hl) he A (lp.set (Ez i) λ_ _ _ _ _ _ _ _ G=>by rw[C]at G;cases G);refine⟨q.get,q.ok,q.env,q.hr,D.trans q.step,by simpa using q.len,λj P=>?_⟩;have:=Pn.1 P;rw[q.same j this.2,C1 λe=>this.1 e.symm]
     ·cases k
    ·cases k
   ·cases h
  ·cases h
def Xe(n:Nat):List Bd->Bool
 |[]=>true
 | .own id _ _ _::r=>Nat.blt id n&&Xe n r
 | .raw v::r=>v.idsAll (λid=>Nat.blt id n)&&Xe n r
 |_::r=>Xe n r
mutual
def nQ(n:Nat):TV->Bool
 | .c x=>Xe n [x]
 | .g cs=>Xe n cs
 | .aptr id .. =>Nat.blt id n
 | .bptr id .. =>Nat.blt id n
 | .vptr cs post=>Xe n cs&&AW.idsAllL (λid=>Nat.blt id n) post
 | .tup vs=>oU n vs
def oU(n:Nat):List TV->Bool
 |[]=>true
 |v::r=>nQ n v&&oU n r
end
def ms(n:Nat):BY->Bool
 |[]=>true
 |(_,v)::r=>nQ n v&&ms n r
def eY(n:Nat):An->Bool
 |[]=>true
 | .live _ cs::r=>Xe n cs&&eY n r
 | .lp _ _ _ env _ _ _ _::r=>ms n env&&eY n r
 |_::r=>eY n r
def eD{n id:Nat}(h:Nat.blt id n=true):decide (id<n)=true:=by have:id+1<=n:=JF h;exact decide_eq_true this
def dh{v:AW}(h:Pure v)(n:Nat):(v.idsAll λid=>decide (id<n))=true:=PZ (λ_ h=>by cases h) v h
def qV{n:Nat}: ∀{x:Bd},Xe n [x]=true->(∀v∈x.enc,(v.idsAll λid=>decide (id<n))=true)/\(x.one.idsAll λid=>decide (id<n))=true
 | .bl _,_=>⟨λv b=>by simp only[Bd.enc,A5]at b;subst b;rfl,rfl⟩
 | .it _ _,_=>⟨λv b=>by simp only[Bd.enc,A5]at b;subst b;rfl,rfl⟩
 | .st _,_=>⟨λv b=>by simp only[Bd.enc,A5]at b;subst b;rfl,rfl⟩
 | .ls t l,_=>⟨λv b=>by simp only[Bd.enc,A5]at b;subst b;exact dh ((Ty.list t).enc_pure l) n,dh ((Ty.list t).enc_pure l) n⟩
 | .ar m t a,_=>by have h:=dh ((Ty.arr m t).enc_pure a) n;refine⟨λv b=>?_,h⟩;have e:(Ty.arr m t).enc a= .agg ((Ty.arr m t).enc a).cells:=Ty.agg_enc (t:=.arr m t) rfl a;rw[e]at h;simp only[AW.idsAll]at h;exact((De _ _).1 h) v b
 | .own id ver t m,h=>by simp only[Xe,Of]at h;have:=eD h;exact⟨λv b=>by simp only[Bd.enc,A5]at b;subst b;exact this,this⟩
 | .nil,_=>⟨λv b=>by simp only[Bd.enc,A5]at b;subst b;rfl,rfl⟩
 | .raw v,h=>by simp only[Xe,Of]at h;have:=PZ (λ_ h=>eD h) v h;exact⟨λu c=>by simp only[Bd.enc,A5]at c;subst c;exact this,this⟩
def nP{n:Nat}{x:Bd}{r:List Bd}(h:Xe n (x::r)=true):Xe n [x]=true/\Xe n r=true:=by cases x<;>simp only[Xe,Of,BM]at h⊢ <;>first|exact h|exact⟨trivial,h⟩
def eH{n:Nat}: ∀{b:List Bd},Xe n b=true->AW.idsAllL (λid=>decide (id<n)) (lvs b)=true
 |[],_=>rfl
 |x::r,h=>by
  obtain⟨c,d⟩:=nP h;rw[Gg,De];intro v a;rcases Ar.1 a with a|a
  ·exact(qV c).1 v a
  ·exact((De _ _).1 (eH d)) v a
mutual
theorem ae{n:Nat}: ∀{v:TV},nQ n v=true->(v.enc.idsAll λid=>decide (id<n))=true
 | .c x,h=>(qV h).2
 | .g cs,h=>eH h
 | .aptr ..,h=>eD h
 | .bptr ..,h=>eD h
 | .vptr cs post,h=>by
  simp only[nQ,BM]at h;simp only[TV.enc,AW.idsAll];rw[De];intro v a;rcases Ar.1 a with a|a
  ·exact((De _ _).1 (eH h.1)) v a
  ·exact((De _ _).1 (Ig (λ_ h=>eD h) post h.2)) v a
 | .tup vs,h=>by simp only[nQ]at h;simp only[TV.enc,AW.idsAll];exact jv h
theorem jv{n:Nat}: ∀{a:List TV},oU n a=true->AW.idsAllL (λid=>decide (id<n)) (TV.encL a)=true
 |[],_=>rfl
 |v::r,h=>by simp only[oU,BM]at h;simp only[TV.encL,AW.idsAllL,BM];exact⟨ae h.1,jv h.2⟩
end
def eF{n:Nat}: ∀{env:BY},ms n env=true-> ∀p∈env,nQ n p.2=true
 |[],_,p,a=>by cases a
 |(t,v)::r,h,p,a=>by
  simp only[ms,BM]at h;rcases Al.1 a with rfl|a
  ·exact h.1
  ·exact eF h.2 p a
def eG{n:Nat}: ∀{H:An},eY n H=true-> ∀e∈A3 H,(e.idsAll λid=>decide (id<n))=true
 |[],_,e,d=>by cases d
 |x::r,h,e,d=>by
  have j:eY n r=true:=by cases x<;>simp only[eY,BM]at h<;>first|exact h|exact h.2
  simp only[A3,BE,Al]at d;rcases d with rfl|d
  ·cases x with
   |dead=>rfl
   |live b i=>simp only[eY,BM]at h;exact eH h.1
   |buf b t l m q=>
    simp only[Df.enc,EM.idsAll];rw[De];intro v c;obtain⟨u,o,c⟩:=HW.1 c;obtain⟨y,_,rfl⟩:=BX.1 o;have h:=dh (t.E.pure y) n;cases g:t.E.f y with
    |agg i=>rw[g]at c h;simp only[AW.idsAll]at h;exact((De _ _).1 h) v c
    |_=>rw[g]at c h;simp only[AW.cells,A5]at c;rw[c];exact h
   |mp=>rfl
   |lp ro F m env w a b s=>simp only[eY,BM]at h;simp only[Df.enc,EM.idsAll,Bw,List.all_map,DG];exact λp k=>ae (eF h.1 p k)
  ·exact eG j e d
def F6.cut{N n0:Nat}{env:Env}{H:Aq}(hn:n0≤H.length)(d: ∀t v,(t,v)∈env→(v.idsAll λid=>decide (id<n0))=true)
  (c: ∀e∈H.take n0,(e.idsAll λid=>decide (id<n0))=true):F6 N n0 env H env (H.take n0):=
 ⟨by simp;omega,λX g a w s=>⟨g,⟨s.sim.trunc hn c,λt v m=>⟨(s.env t v m).1,(s.env t v m).2.trunc hn (d t v m)⟩,s.size⟩,λ_ _=>⟨rfl,rfl,rfl⟩,λB b=>bY b⟩⟩
def nS{H:An}{j:Nat}{e:EM}(h:(A3 H)[j]? =some e): ∃x,H[j]? =some x/\e=x.enc:=by simp only[A3,Bb,VP]at h;obtain⟨x,a,b⟩:=h;exact⟨x,a,b.symm⟩
def HR.rel{o u:An}(B:u.length<=o.length)(hr:HR o u [])(x:Cx):Rw x x (A3 o) (A3 u++(A3 o).drop u.length):=by
 refine⟨by simp[A3];omega,λj z w=>?_⟩;have same: ∀{y:Df},o[j]? =some y->z=y.enc->z= .dead\/(∃g p c,(A3 o)[j]? =some (.live g p)/\z= .live g c/\c.length=p.length/\ ∀(i:Nat) (f:AW),c[i]? =some f-> ∃v,p[i]? =some v/\Conv x x v f)\/((A3 o)[j]? =some z/\ ∀g p,z≠ .live g p):=by
  intro y A q;have d:(A3 o)[j]? =some y.enc:=by simp only[A3,Bb,A,BB]
  subst q;cases y with
  |dead=>exact .inl rfl
  |live b p=>exact .inr (.inl ⟨_,_,_,d,rfl,rfl,λi f h=>⟨f,h,λ_ r=>r⟩⟩)
  |buf b t l m H=>exact .inr (.inl ⟨_,_,_,d,rfl,rfl,λi f h=>⟨f,h,λ_ r=>r⟩⟩)
  |lp=>exact .inr (.inr ⟨d,λ_ _ h=>by cases h⟩)
  |mp=>exact .inr (.inr ⟨d,λ_ _ h=>by cases h⟩)
 rcases Ag j u.length with h|h
 ·rw[BW (by rw[CO];exact h)]at w;obtain⟨y,A,rfl⟩:=nS w;obtain⟨e,q,C⟩:=hr j y rfl A;rcases C with rfl|⟨b,p,D,c,rfl,rfl,B⟩|⟨b,t,l,m,v,D,f,rfl,rfl⟩|⟨ro,G,F,n,env,J,a,b,s,rfl,rfl⟩|⟨b,D,k,t,I,rfl,rfl⟩
  ·exact .inl rfl
  ·refine .inr (.inl ⟨0,lvs p,lvs c,by simp only[A3,Bb,q,BB,Df.enc],rfl,B.1,λi f E=>?_⟩);obtain⟨v,q1,q2⟩:=B.2 i f E;exact⟨v,q1,q2 x⟩
  ·exact same q rfl
  ·exact same q rfl
  ·exact same q rfl
 ·rw[CG (by rw[CO];exact h),Hm]at w;rw[CO]at w;have:u.length+(j-u.length)=j:=by omega
  rw[this]at w;obtain⟨y,A,q⟩:=nS w;exact same A q
def IS.weak{N:Nat}{env1:BY}{b:An}{slots:List TE}{env:BY}{H:An}{env2:BY}{a:An}(s:IS env1 b slots env H env2 a)(k:H.length≤b.length)(n:ms H.length env2=true)(o:eY H.length a=true):
  F6 N H.length (Bw env1) (A3 b) (Bw env2) (A3 a):=by
 have g:a.length<=b.length:=by rw[s.len];exact k
 have x:F6 N (A3 b).length (Bw env1) (A3 b) (Bw env2) (A3 a++(A3 b).drop a.length):=by refine Tj (by simp[A3];omega) λX h w _=>?_;have q:=(HR.rel g s.hr (cx X h (A3 b) w)).onto;refine⟨q,λt z m=>?_⟩;obtain⟨p,j,e⟩:=BX.1 m;injection e with d f;subst d f;obtain⟨v,u,i⟩:=s.env p j;exact⟨v.enc,BX.2 ⟨_,u,rfl⟩,λc r=>(i _ c r).later q.later⟩
 have l:(A3 a++(A3 b).drop a.length).take H.length=A3 a:=by rw[<-s.len,<-CO a,J5];rfl
 have y:F6 N H.length (Bw env2) (A3 a++(A3 b).drop a.length) (Bw env2) (A3 a):=by have:=F6.cut (N:=N) (n0:=H.length) (env:=Bw env2) (H:=A3 a++(A3 b).drop a.length) (by simp[A3,s.len]) (λt v m=>by obtain⟨p,j,e⟩:=BX.1 m;injection e with d f;subst d f;exact ae (eF n p j)) (by rw[l];exact eG o);rwa [l]at this
 exact(x.of_le (by rw[CO];exact k)).trans y
def qC:Exit->Exit->Bool
 | .normal,.normal=>true
 | .exit a,.exit b=>Nat.beq a b
 | .ret,.ret=>true
 |_,_=>false
def lZ{a b:Exit}(h:qC a b=true):a=b:=by cases a<;>cases b<;>simp only[qC]at h<;>first|rfl|cases h|exact congrArg _ (Ba h)
structure Hint where
 kind:Nat
 key:Nat
 virt:List (Nat×Ty)
 virtC:List (Nat×Nat×Ty)
 kill:List Nat
 drop:List Nat
 slots:List TE
 exits:List (Exit×List TE)
def Hint.tmps(h:Hint):List Nat:=h.drop++h.virt.map (·.1)++kT h.slots++h.exits.flatMap λp=>kT p.2
def kB(kind key:Nat):List Hint->Option Hint
 |[]=>none
 |h::r=>match Nat.beq kind h.kind&&Nat.beq key h.key with|true=>some h|false=>kB kind key r
def qF:Code->Option Nat
 | .region id _ _=>some id
 | .seq a b=>match qF a with|some x=>some x|none=>qF b
 | .cond _ a b=>match qF a with|some x=>some x|none=>qF b
 | .block _ b=>qF b
 | .loop b=>qF b
 |_=>none
def ly:Code->Bool
 | .seq a _=>ly a
 | .block _ b=>ly b
 | .loop _=>true
 |_=>false
def ABN(b:Code)(r:Nat)(hs:List Hint):Option Hint:=
 match ly b with
 |true=>(match kB 5 r hs with|some h=>some h|none=>kB 0 r hs)
 |false=>kB 0 r hs
def da(hs:List Hint):Code->Option Hint
 | .loop b=>match qF b with|some r=>ABN b r hs|none=>none
 | .block id _=>kB 1 id hs
 | .cond _ a b=>match qF (.seq a b)with|some r=>kB 2 r hs|none=>none
 |_=>none
def mA(hs:List Hint)(c:Code):List Nat:=
 match da hs c with
 |some h=>h.tmps
 |none=>[]
def kz(hs:List Hint):Code->Code->Option Hint
 | .region id _ _,.cond _ _ _=>kB 4 id hs
 |_,_=>none
def mf(hs:List Hint)(a b:Code):List Nat:=
 match kz hs a b with
 |some h=>h.tmps
 |none=>[]
def QM(hs:List Hint):Code->List Nat
 | .region _ ops _=>jG ops.toList
 | .seq a b=>(QM hs a++QM hs b)++mf hs a b
 | .cond c a b=>QM hs a++QM hs b++mA hs (.cond c a b)
 | .block id b=>QM hs b++mA hs (.block id b)
 | .loop b=>QM hs b++mA hs (.loop b)
 |_=>[]
def lM:TV->Bool
 | .c (.raw .any)=>true
 |_=>false
def vo{v:TV}(h:lM v=false):v≠Sq:=by rintro rfl;cases h
def kq(H:An)(id:Nat):Bool:=match H[id]? with|some (.buf false _ _ _ _)=>true|_=>false
def bu(A S:List Nat)(H:An)(t:Nat)(v:TV):Bool:=
 match Mm t A with
 |true=>false
 |false=>match lM v with
  |true=>false
  |false=>(KI v.refs).all λid=>!(Mm id S&&kq H id)
def PL(A S:List Nat)(H:An):BY->BY
 |[]=>[]
 |(t,v)::r=>match bu A S H t v with|true=>(t,v)::PL A S H r|false=>PL A S H r
def L9(S:List Nat):Nat->An->An
 |_,[]=>[]
 |j,e::r=>(match Mm j S with|true=>e|false=>e.lock)::L9 S (j+1) r
def jc:BY->Bool
 |[]=>true
 |(t,_)::r=>!Mm t (r.map (·.1))&&jc r
def Tc{j:Nat}{l:List Nat}(h:j∉l):Mm j l=false:=by
 cases a:Mm j l with
 |false=>rfl
 |true=>
  exfalso;apply h;clear h;induction l with
  |nil=>cases a
  |cons i r c=>
   simp only[Mm]at a;split at a
   ·rename_i b;rw[Ba b];exact Gi
   ·exact Bq _ (c a)
def W7: ∀{env:BY},jc env=true->(env.map (·.1)).Nodup
 |[],_=>PG
 |(t,v)::r,h=>by simp only[jc,BM,RP]at h;exact FF.2 ⟨Rt h.1,W7 h.2⟩
def eC{A S:List Nat}{H:An}: ∀{env:BY},(env.map (·.1)).Nodup-> ∀t,bu A S H t (env.get t)=true->(PL A S H env).get t=env.get t
 |[],_,t,_=>rfl
 |(u,v)::r,nd,t,h=>by
  have b:=FF.1 nd;simp only[BY.get]at h⊢;by_cases a:u=t
  ·subst a;rw[Ds]at h⊢;simp only[PL];rw[h];simp only[BY.get,Ds]
  ·rw[beq_false a]at h⊢;have c:=eC b.2 t h;simp only[PL];split
   ·simp only[BY.get,beq_false a];exact c
   ·exact c
def Pg{A S:List Nat}{H:An}: ∀{env:BY},(env.map (·.1)).Nodup-> ∀p∈PL A S H env,env.get p.1=p.2/\bu A S H p.1 p.2=true/\p∈env
 |[],_,p,h=>by cases h
 |(u,v)::r,nd,p,h=>by
  have a:=FF.1 nd;have tail:p∈PL A S H r->BY.get ((u,v)::r) p.1=p.2/\bu A S H p.1 p.2=true/\p∈(u,v)::r:=λh=>by obtain⟨q1,q2,q3⟩:=Pg a.2 p h;refine⟨?_,q2,Bq _ q3⟩;have c:u≠p.1:=λe=>a.1 (BX.2 ⟨p,q3,e.symm⟩);simp only[BY.get,beq_false c];exact q1
  simp only[PL]at h;split at h
  ·rename_i b;rcases Al.1 h with rfl|h
   ·exact⟨by simp only[BY.get,Ds],b,Gi⟩
   ·exact tail h
  ·exact tail h
def J0{S:List Nat}: ∀(H:An) (i j:Nat),(L9 S i H)[j]? =(H[j]?).map λe=>match Mm (i+j) S with|true=>e|false=>e.lock
 |[],i,j=>by simp[L9]
 |e::r,i,0=>by simp[L9]
 |e::r,i,j+1=>by
  simp only[L9,eA];rw[J0 r (i+1) j];have:i+1+j=i+(j+1):=by omega
  rw[this]
def J1{S:List Nat}: ∀(H:An) (i:Nat),(L9 S i H).length=H.length
 |[],_=>rfl
 |e::r,i=>by simp[L9,J1 r]
def nh{S:List Nat}: ∀(H:An) (i:Nat),A3 (L9 S i H)=A3 H
 |[],_=>rfl
 |e::r,i=>by
  have:=nh (S:=S) r (i+1);simp only[A3]at this;simp only[L9,A3,BE,this];split
  ·rfl
  ·rw[mK]
def mL{S:List Nat}{H:An}{f c:Nat}{t:Ty}{n:Nat}(h:TC H f c t n):TC (L9 S 0 H) f c t n:=by
 refine⟨by rw[J1];exact h.1,λro s l q g a=>?_⟩;rw[J0]at a;cases d:H[f]? with
 |none=>rw[d]at a;cases a
 |some e=>
  rw[d]at a;simp only[BB,AV]at a;split at a
  ·subst a;exact h.2 _ _ _ _ _ d
  ·cases e with
   |dead=>cases a
   |live b m=>cases a
   |lp=>cases a
   |mp=>cases a
   |buf b u p r v=>injection a with _ i o j k;subst i j k;exact h.2 _ _ _ _ _ d
def ni{S:List Nat}{H:An}{x:Bd}(h:x.ok H):x.ok (L9 S 0 H):=by
 cases x with
 |own b a t n=>exact mL h
 |_=>trivial
def iB{S:List Nat}{env:BY}{H:An}(ok:PB env H):PB env (L9 S 0 H):=by
 refine⟨λp o x h=>ni (ok.env p o x h),λe m=>?_⟩;obtain⟨j,a⟩:=G4.1 m;rw[J0]at a;cases g:H[j]? with
 |none=>rw[g]at a;cases a
 |some d=>
  rw[g]at a;simp only[BB,AV]at a;have f:=ok.heap d (BV g);have c:d.ok (L9 S 0 H):=by
   cases d with
   |dead=>trivial
   |live b k=>exact λx h=>ni (f x h)
   |buf b t l n i=>exact f
   |lp=>exact f
   |mp=>exact f
  split at a
  ·subst a;exact c
  ·subst a;cases d with
   |dead=>trivial
   |live b k=>exact c
   |buf b t l n i=>exact c
   |lp=>exact c
   |mp=>exact c
def yo{S:List Nat}(H:An):vS (L9 S 0 H) H:=by
 intro d c ro F n env e a b s h;rw[J0,h];simp only[BB];split
 ·exact⟨_,_,rfl⟩
 ·exact⟨_,_,rfl⟩
def wh{S:List Nat}(H:An):vS H (L9 S 0 H):=by
 intro f d ro F n env g a b s h;rw[J0]at h;cases c:H[f]? with
 |none=>rw[c]at h;cases h
 |some e=>
  rw[c]at h;simp only[BB,AV]at h;split at h
  ·subst h;exact⟨_,_,rfl⟩
  ·cases e with
   |lp=>injection h with _ q2 q3 q4 q5 q6 q7 _;subst q2 q3 q4 q5 q6 q7;exact⟨_,_,rfl⟩
   |mp=>cases h
   |_=>cases h
def gE{c a n:Nat}{t:Ty}: ∀{b:List Bd},Bd.own c a t n∈b->c∈KI b
 |[],h=>by cases h
 |x::r,h=>by
  rcases Al.1 h with rfl|h
  ·exact Gi
  ·have:=gE h;cases x<;>simp only[KI]<;>first|exact this|exact Bq _ this
def qS{A S:List Nat}{H:An}{t:Nat}{v:TV}(h:bu A S H t v=true)(o:v.ok H){g:An}(p:B8 (L9 S 0 H) g):hY g v:=by
 intro c q u n i;unfold bu at h;split at h
 ·cases h
 ·split at h
  ·cases h
  ·have b:=DG.1 h c (gE i);have f:c<H.length:=(o _ i).1;refine p.nb c (by rw[J1];exact f) λs l r j a=>?_;rw[J0,DE]at a;cases d:H[c]? with
   |none=>rw[d]at a;cases a
   |some e=>
    rw[d]at a;simp only[BB,AV]at a;split at a
    ·rename_i m;subst a;simp only[m,kq,d]at b;cases b
    ·cases e<;>simp only[Df.lock]at a<;>first|cases a|(injection a with k;cases k)
def we{A S:List Nat}{H:An}{t:Nat}{v:TV}(k:Mm t A=false)(l:lM v=false)(m:hY H v):bu A S H t v=true:=by
 unfold bu;rw[k,l];refine DG.2 λi d=>?_;have: ∃e f n,Bd.own i e f n∈v.refs:=by
  generalize v.refs=cs at d;induction cs with
  |nil=>cases d
  |cons x r j=>
   cases x with
   |own q e f n=>
    simp only[KI]at d;rcases Al.1 d with rfl|d
    ·exact⟨_,_,_,Gi⟩
    ·obtain⟨a,b,c,h⟩:=j d;exact⟨a,b,c,Bq _ h⟩
   |_=>obtain⟨a,b,c,h⟩:=j d;exact⟨a,b,c,Bq _ h⟩
 obtain⟨e,f,n,o⟩:=this;have:=m i e f n o;cases g:kq H i with
 |false=>simp
 |true=>
  exfalso;unfold kq at g;split at g
  ·rename_i p;exact this _ _ _ _ p
  ·cases g
def AAf:List Part->List Nat
 |[]=>[]
 | .o id::r=>id::AAf r
 |_::r=>AAf r
def fO(env:BY)(H:An):List TE->List Nat
 |[]=>[]
 | .t tmp _::r=>KI (env.get tmp).refs++fO env H r
 | .p id ps::r=>(match H[id]? with|some (.live _ cs)=>(KI cs).filter λi=>!Mm i (AAf ps)|_=>[])++fO env H r
 |_::r=>fO env H r
def pj(sl:List TE)(env:BY)(H:An):Option (DL (bi sl)):=
 match HQ (fO env H sl) env H with
 |(e,h)=>match Xf e h sl with|some ds=>sJ (bi sl) ds|none=>none
def pC:List (Exit×List TE)->Type
 |[]=>Unit
 |[p]=>DL (bi p.2)
 |p::q::r=>DL (bi p.2)⊕ pC (q::r)
def sO:(xs:List (Exit×List TE))->Exit->BY->An->Option (pC xs)
 |[],_,_,_=>none
 |[p],x,env,H=>match qC p.1 x with|true=>pj p.2 env H|false=>none
 |p::q::r,x,env,H=>
  match qC p.1 x with
  |true=>(match pj p.2 env H with|some s=>some (.inl s)|none=>none)
  |false=>(match sO (q::r) x env H with|some s=>some (.inr s)|none=>none)
def AAl{R:Type}:(xs:List (Exit×List TE))->pC xs->(Exit->List TE->List DV->Option R)->Option R
 |[],_,_=>none
 |[p],s,k=>k p.1 p.2 (wK (bi p.2) s)
 |p::q::r,o,k=>Sum.elim (λs=>k p.1 p.2 (wK (bi p.2) s)) (λs=>AAl (q::r) s k) o
def nD:(xs:List (Exit×List TE))->pC xs->Exit×List TE×List DV
 |[],_=>(.normal,[],[])
 |[p],s=>(p.1,p.2,wK (bi p.2) s)
 |p::q::r,.inl s=>(p.1,p.2,wK (bi p.2) s)
 |p::q::r,.inr s=>nD (q::r) s
def nt{R:Type}: ∀{xs:List (Exit×List TE)} {o:pC xs} {k:Exit->List TE->List DV->Option R} {r:R},AAl xs o k=some r->k (nD xs o).1 (nD xs o).2.1 (nD xs o).2.2=some r
 |[],_,_,_,h=>by cases h
 |[p],s,k,r,h=>h
 |p::q::t,.inl s,k,r,h=>h
 |p::q::t,.inr s,k,r,h=>nt (xs:=q::t) h
def xr(sl:List TE)(ds:List DV)(env:BY)(H:An):Prop:=Xf (HQ (fO env H sl) env H).1 (HQ (fO env H sl) env H).2 sl=some ds
def fm{a:List TE}{env:BY}{H:An}{s:DL (bi a)}(h:pj a env H=some s):xr a (wK (bi a) s) env H:=by
 unfold pj at h;unfold xr;split at h;rename_i e f c;split at h
 ·rename_i d b;rw[c,ja h];exact b
 ·cases h
def nu: ∀{xs:List (Exit×List TE)} {x:Exit} {env:BY} {H:An} {o:pC xs},sO xs x env H=some o→
  (nD xs o).1=x/\xr (nD xs o).2.1 (nD xs o).2.2 env H/\ ∃p∈xs,(nD xs o).2.1=p.2
 |[],_,_,_,_,h=>by cases h
 |[p],x,env,H,o,h=>by
  simp only[sO]at h;split at h
  ·rename_i a;exact⟨lZ a,fm h,p,by simp,rfl⟩
  ·cases h
 |p::q::r,x,env,H,o,h=>by
  simp only[sO]at h;split at h
  ·rename_i a;split at h
   ·rename_i s b;injection h with h;subst h;exact⟨lZ a,fm b,p,by simp,rfl⟩
   ·cases h
  ·split at h
   ·rename_i s b;injection h with h;subst h;obtain⟨q1,q2,c,q3,q4⟩:=nu (xs:=q::r) b;exact⟨q1,q2,c,Bq _ q3,q4⟩
   ·cases h
structure rK(A S:List Nat)(env0:BY)(H0:An)(e2:BY)(h2:An):Prop where
 ok:PB e2 h2
 step:B8 (L9 S 0 H0) h2
 len:h2.length=H0.length
 same: ∀j,Mm j S=false->h2[j]? =(L9 S 0 H0)[j]?
 get: ∀p∈PL A S H0 env0,e2.get p.1=p.2
def tK{A B S:List Nat}{env0:BY}{a:An}{P:BY}{z:An}(u:PB env0 a)(nd:(env0.map (·.1)).Nodup)(l:rK A S env0 a P z)
  {env1:BY} {i:An} (J:PB env1 i) (T:E2 B P z env1 i) (hB: ∀t,t∈B->t∈A) {v:List TE} {O:List DV} (hc:xr v O env1 i)
  {Hx:An} (M: ∀e∈Hx,e.ok Hx) (d:Hx.length=a.length) (I:vS Hx (L9 S 0 a)) (rx: ∀m g t n,TC a m g t n->TC Hx m g t n) (H: ∀(j:Nat) (o:Df),Mm j (Kw v)=false->Hx[j]? =some o->o= .dead\/ ∃e,Mm j S=false/\(L9 S 0 a)[j]? =some e/\e.ro=true/\AAH e o)
  {y:BY} {k:An} (hi:US v O (PL A S a env0) Hx=some (y,k)) (V:ms a.length y=true) (W:eY a.length k=true) (N:Nat):
  F6 N a.length (Bw env1) (A3 i) (Bw y) (A3 k)/\ ∃X ha,IS X ha v (PL A S a env0) Hx y k:=by
 obtain⟨L,E,wf⟩:=Pl (fO env1 i v) J;have C:a.length<=i.length:=by rw[<-l.len];exact T.step.len
 have f:=E2.trans l.ok.env T E;have K: ∀p∈PL A S a env0,p.2.ok Hx:=λp D x H=>by
  have:=u.env p (Pg nd p D).2.2 x H;cases x with
  |own m g t n=>exact rx _ _ _ _ this
  |_=>trivial
 have q:=Nl L hc hi ⟨K,M⟩ (by rw[d];exact D4 C E.step.len) (λp D=>by
  obtain⟨b1,b,U⟩:=Pg nd p D;have hk:=qS b (u.env p U) l.step;have Q:Mm p.1 A=false:=by
   unfold bu at b;cases G:Mm p.1 A with
   |false=>rfl
   |true=>rw[G]at b;cases b
  have r:lM p.2=false:=by
   unfold bu at b;rw[Q]at b;cases G:lM p.2 with
   |false=>rfl
   |true=>rw[G]at b;cases b
  have R:=l.get p D;have:=f.same p.1 (λh=>by rw[DQ]at h;exact Rt Q (hB _ h)) (by rw[R];exact hk);rw[R]at this;exact⟨p.2,dn this (vo r),Ub.refl _⟩) (λj o hj c=>by
   have F:j<a.length:=by
    rcases Ag j Hx.length with h|h
    ·rw[<-d];exact h
    ·rw[BP h]at c;cases c
   rcases H j o hj c with rfl|⟨e,Y,z,k,Z⟩
   ·exact⟨_,Ay (DD F (D4 C E.step.len)),.inl rfl⟩
   ·exact⟨e,f.step.ro j e (by rw[l.same j Y];exact z) k,Z⟩) (λm s _ _ _ _ _ _ _ _ hq=>by
  obtain⟨ad,s1,q1⟩:=(l.step.trans f.step).lp m (by rw[J1,<-d];exact s) _ _ _ _ _ _ _ _ hq;exact I m s _ _ _ _ _ _ _ _ q1)
 have w:=q.weak (N:=N) (by rw[d];exact D4 C E.step.len) (by rw[d];exact V) (by rw[d];exact W);rw[d]at w;exact⟨((wf N).of_le (by rw[CO];exact C)).trans w,_,_,q⟩
open Classical in
noncomputable def mV{α:Type}(g:List α->Unit->Option (List α))(l:List α):Option (List α):=if∀m,l.Perm m->g m ()=g l ()then g l ()else none
def sT{a:Type}{g:List a->Unit->Option (List a)}{l s:List a}(h:mV g l=some s): ∀m,l.Perm m->g m ()=some s:=by
 unfold mV at h;split at h
 ·rename_i c;exact λm b=>(c m b).trans h
 ·cases h
def pD:List Oper->Option (Nat×Nat×Nat×TypeId×TypeId)
 |[⟨some a1,.load ty1 (.tmp c0),_,_,_,none⟩,⟨some a2,.range ty2 (.tmp b1),_,_,_,none⟩]=>match Nat.beq a1 b1 with|true=>some (c0,a1,a2,ty1,ty2)|false=>none
 |_=>none
def mR:List Oper->Option (Nat×Nat×Nat)
 |[⟨some a3,.next (.tmp a2) false,_,_,_,none⟩,⟨some a4,.extract (.tmp b3) 0,_,_,_,none⟩]=>match Nat.beq a3 b3 with|true=>some (a2,a3,a4)|false=>none
 |_=>none
def mS:List Oper->Option (Nat×Nat×Nat×Nat×TypeId×TypeId)
 |[⟨some a5,.entry (.tmp a2),_,_,_,none⟩,⟨some a6,.extract (.tmp b5) 1,_,_,_,none⟩,⟨some a7,.alloc te1,_,_,_,none⟩,⟨none,.store te2 (.tmp b7) (.tmp b6),_,_,_,none⟩]=>
  match Nat.beq a5 b5&&(Nat.beq a6 b6&&Nat.beq a7 b7)with|true=>some (a2,a5,a6,a7,te1,te2)|false=>none
 |_=>none
def mT:List Oper->Option (Nat×Nat×Nat×Nat×Nat×Nat×TypeId×TypeId×TypeId)
 |[⟨some a8,.move (.tmp out),_,_,_,none⟩,⟨some a9,.load te3 (.tmp a7),_,_,_,none⟩,⟨some a10,.buildSlice ts1 1 ⟨[(0,.tmp b9)]⟩,_,_,_,none⟩,
   ⟨some a11,.call {callee:=.builtin .append,args:=⟨[.tmp b8,.tmp b10]⟩,argTypes:=⟨[ts2,ts3]⟩},_,_,_,none⟩,⟨some out2,.assign (.tmp b11),_,_,_,none⟩]=>
  match Nat.beq a8 b8&&(Nat.beq a9 b9&&(Nat.beq a10 b10&&(Nat.beq a11 b11&&(Nat.beq out out2&&Nat.beq ts2 ts3))))with|true=>some (out,a7,a8,a9,a10,a11,te3,ts1,ts2)|false=>none
 |_=>none
def pE:List Oper->Option (Nat×Nat×Nat×FuncId×FuncId)
 |[⟨some a12,.move (.tmp out),_,_,_,none⟩,⟨some a13,.call {callee:=.value (.func F),args:=⟨[.tmp b12,.func G]⟩,.. },_,_,_,none⟩]=>match Nat.beq a12 b12 with|true=>some (out,a12,a13,F,G)|false=>none
 |_=>none
def kL{l:List Oper}{c0 a1 a2:Nat}{ty1 ty2:TypeId}(h:pD l=some (c0,a1,a2,ty1,ty2)):
  ∃f d a g e b,l=[⟨some a1,.load ty1 (.tmp c0),f,d,a,none⟩,⟨some a2,.range ty2 (.tmp a1),g,e,b,none⟩]:=by
 unfold pD at h;split at h
 ·split at h
  ·rename_i c;have:=Ba c;subst this;simp only[AV,Br]at h;obtain⟨rfl,rfl,rfl,rfl,rfl⟩:=h;exact⟨_,_,_,_,_,_,rfl⟩
  ·cases h
 ·cases h
def kM{l:List Oper}{a2 a3 a4:Nat}(h:mR l=some (a2,a3,a4)):
  ∃f d a g e b,l=[⟨some a3,.next (.tmp a2) false,f,d,a,none⟩,⟨some a4,.extract (.tmp a3) 0,g,e,b,none⟩]:=by
 unfold mR at h;split at h
 ·split at h
  ·rename_i c;have:=Ba c;subst this;simp only[AV,Br]at h;obtain⟨rfl,rfl,rfl⟩:=h;exact⟨_,_,_,_,_,_,rfl⟩
  ·cases h
 ·cases h
def kN{l:List Oper}{a2 a5 a6 a7:Nat}{te1 te2:TypeId}(h:mS l=some (a2,a5,a6,a7,te1,te2)):
  ∃o j b p k c q m d r n e,l=[⟨some a5,.entry (.tmp a2),o,j,b,none⟩,⟨some a6,.extract (.tmp a5) 1,p,k,c,none⟩,⟨some a7,.alloc te1,q,m,d,none⟩,⟨none,.store te2 (.tmp a7) (.tmp a6),r,n,e,none⟩]:=by
 unfold mS at h;split at h
 ·split at h
  ·rename_i a;simp only[BM]at a;obtain⟨f,g,i⟩:=a;have:=Ba f;subst this;have:=Ba g;subst this;have:=Ba i;subst this;simp only[AV,Br]at h;obtain⟨rfl,rfl,rfl,rfl,rfl,rfl⟩:=h;exact⟨_,_,_,_,_,_,_,_,_,_,_,_,rfl⟩
  ·cases h
 ·cases h
def kO{l:List Oper}{out a7 a8 a9 a10 a11:Nat}{te3 ts1 ts2:TypeId}(h:mT l=some (out,a7,a8,a9,a10,a11,te3,ts1,ts2)):
  ∃t o b u p c v q d w r e x s f,l=[⟨some a8,.move (.tmp out),t,o,b,none⟩,⟨some a9,.load te3 (.tmp a7),u,p,c,none⟩,⟨some a10,.buildSlice ts1 1 #[(0,.tmp a9)],v,q,d,none⟩,⟨some a11,.call {callee:=.builtin .append,args:= #[.tmp a8,.tmp a10],argTypes:= #[ts2,ts2]},w,r,e,none⟩,⟨some out,.assign (.tmp a11),x,s,f,none⟩]:=by
 unfold mT at h;split at h
 ·split at h
  ·rename_i a;simp only[BM]at a;obtain⟨g,i,j,k,m,n⟩:=a;have:=Ba g;subst this;have:=Ba i;subst this;have:=Ba j;subst this;have:=Ba k;subst this;have:=Ba m;subst this;have:=Ba n;subst this;simp only[AV,Br]at h;obtain⟨rfl,rfl,rfl,rfl,rfl,rfl,rfl,rfl,rfl⟩:=h;exact⟨_,_,_,_,_,_,_,_,_,_,_,_,_,_,_,rfl⟩
  ·cases h
 ·cases h
def kP{l:List Oper}{out a12 a13:Nat}{F G:FuncId}(h:pE l=some (out,a12,a13,F,G)):
  ∃g e b a i f c,l=[⟨some a12,.move (.tmp out),g,e,b,none⟩,⟨some a13,.call {callee:=.value (.func F),args:= #[.tmp a12,.func G],argTypes:=a},i,f,c,none⟩]:=by
 unfold pE at h;split at h
 ·split at h
  ·rename_i d;have:=Ba d;subst this;simp only[AV,Br]at h;obtain⟨rfl,rfl,rfl,rfl,rfl⟩:=h;exact⟨_,_,_,_,_,_,_,rfl⟩
  ·cases h
 ·cases h
structure VF where
 c0:Nat
 a1:Nat
 a2:Nat
 a3:Nat
 a4:Nat
 a5:Nat
 a6:Nat
 a7:Nat
 a8:Nat
 a9:Nat
 a10:Nat
 a11:Nat
 a12:Nat
 a13:Nat
 out:Nat
 ty1:TypeId
 ty2:TypeId
 te1:TypeId
 te2:TypeId
 te3:TypeId
 ts1:TypeId
 ts2:TypeId
 F:FuncId
 G:FuncId
def o9:List Nat->Bool
 |[]=>true
 |t::r=>!Mm t r&&o9 r
def kJ: ∀{l:List Nat},o9 l=true->l.Nodup
 |[],_=>PG
 |t::r,h=>by simp only[o9,BM,RP]at h;exact FF.2 ⟨Rt h.1,kJ h.2⟩
def gf:Code->Code->Option VF
 | .seq (.region _ o1 false) (.block b1 (.loop (.seq (.region _ o2 false) (.seq (.cond (.tmp x4) .skip (.exit b2)) (.block _ (.seq (.region _ o3 false) (.region _ o4 false))))))),.region _ o5 false=>
  match pD o1.toList,mR o2.toList,mS o3.toList,mT o4.toList,pE o5.toList with
  |some (c0,a1,a2,ty1,ty2),some (x2,a3,a4),some (y2,a5,a6,a7,te1,te2),some (out,x7,a8,a9,a10,a11,te3,ts1,ts2),some (out2,a12,a13,F,G)=>
   match (Nat.beq b1 b2&&(Nat.beq a4 x4&&(Nat.beq a2 x2&&(Nat.beq a2 y2&&(Nat.beq a7 x7&&Nat.beq out out2)))))&&o9 [out,a1,a2,a3,a4,a5,a6,a7,a8,a9,a10,a11,a12,a13]with
   |true=>some ⟨c0,a1,a2,a3,a4,a5,a6,a7,a8,a9,a10,a11,a12,a13,out,ty1,ty2,te1,te2,te3,ts1,ts2,F,G⟩
   |false=>none
  |_,_,_,_,_=>none
 |_,_=>none
def VF.tmps(p:VF):List Nat:=[p.out,p.a1,p.a2,p.a3,p.a4,p.a5,p.a6,p.a7,p.a8,p.a9,p.a10,p.a11,p.a12,p.a13]
def Wy(A:List Nat):BY->BY
 |[]=>[]
 |(t,v)::r=>match Mm t A with|true=>Wy A r|false=>(t,v)::Wy A r
def TU{A:List Nat}: ∀{env:BY} {q:Nat×TV},q∈Wy A env->q∈env/\q.1∉A
 |[],_,h=>by cases h
 |(t,v)::r,q,h=>by
  simp only[Wy]at h;split at h
  ·exact⟨Bq _ (TU h).1,(TU h).2⟩
  ·rename_i a;rcases Al.1 h with rfl|h
   ·exact⟨Gi,Rt a⟩
   ·exact⟨Bq _ (TU h).1,(TU h).2⟩
def jF{A:List Nat}{u:Nat}(a:u∉A): ∀env:BY,(Wy A env).get u=env.get u
 |[]=>rfl
 |(t,v)::r=>by
  simp only[Wy,BY.get];split
  ·rename_i b;have:t≠u:=λe=>by subst e;rw[Tc a]at b;cases b
   rw[beq_false this];exact jF a r
  ·simp only[BY.get,jF a r]
noncomputable def wB(P:Program)(N:Nat)(cs:List Sf)(p:VF)(env:BY)(H:An){R:Type}(k:BY->An->Option R):Option R:=
 match env.get p.c0,env.get p.out with
 | .c (.raw (.ptr c 0 0)),.c .nil=>
  match H[c]? with
  |some (.live _ [.raw (.mp id)])=>
   match H[id]?,kA cs p.F,Zu P p.F with
   |some (.mp _ kk ty es),some (.c2 _ te [] [] [.fn (.func G) [] []] g),true=>
    if h:(Ty.list ty).beq (Ty.list te)=true then
     match tI P p.ty1,P.underlying p.ty2,tI P p.te2,tI P p.te3,WA P p.te1,eI P p.ts1,eI P p.ts2 with
     |some (false,_),some (.map kt _),some (_,n2),some (tr3,n3),some z,some (none,e1,s1),some (none,e2,s2)=>
      match (Nat.beq G p.G&&(te.isAgg&&(Nat.beq n2 te.sz&&(tr3&&(Nat.beq n3 te.sz&&(Nat.beq z.length te.sz&&(Nat.beq s1 te.sz&&(Nat.beq s2 te.sz&&(QK P e1&&(QK P e2&&Nat.ble te.sz 4096))))))))))&&
        ((match P.underlying kt with|some (.int k2)=>decide (k2=kk)|_=>false)&&(ms H.length (Wy p.tmps env)&&(eY H.length H&&p.tmps.all λt=>Nat.blt t N)))with
      |true=>cond (decide (((es.length:Nat):Int)≤16777216))
        ((mV g (Ty.cast h (es.map (·.2)))).bind λs=>cond (Nat.beq s.length es.length) (k ((p.out,.c (.own H.length 0 te s.length))::Wy p.tmps env) (H++[.buf false te s s.length 0,.dead])) none) none
      |false=>none
     |_,_,_,_,_,_,_=>none
    else none
   |_,_,_=>none
  |_=>none
 |_,_=>none
def En{env:Env}{q:Nat×AW}{d:Nat}{v:AW}(h:q∈env)(a:q.1≠d):q∈env.put d v:=Bq _ (Bi.2 ⟨h,by simpa using a⟩)
def pH{env:Env}{d:Nat}{v:AW}:(d,v)∈env.put d v:=Gi
def gz{env:Env}{d:Nat}{v:AW}:Env.get ((d,v)::env) d=v:=if_pos rfl
def qH{env:Env}{d t:Nat}{v:AW}(h:d≠t):Env.get ((d,v)::env) t=env.get t:=if_neg h
def bx{α:Type}(vals:List α)(seen:List Nat):List α:=seen.filterMap (vals[·]?)
def sq{c:Type}{a:List c}{b:List Nat}{j:Nat}{x:c}(h:a[j]? =some x):bx a (b++[j])=bx a b++[x]:=by simp[bx,h]
def qp{b:Type}: ∀a:List b,(List.range a.length).filterMap (a[·]?)=a
 |[]=>rfl
 |x::r=>by
  rw[BC,List.range_succ_eq_map,ij];simp only[M7,List.filterMap_map];have:((λi=>(x::r)[i]?)∘Nat.succ)=(r[·]?):=by funext i;simp
  rw[this,qp r]
def so{f:Type}{a:List f}{b:List Nat}(hn:b.Nodup)(e: ∀j∈b,j<a.length)(d: ∀j,j<a.length->j∈b):a.Perm (bx a b):=by
 have c:(List.range a.length).Perm b:=(fU List.nodup_range hn).2 λj=>⟨λh=>d j (G5.1 h),λh=>G5.2 (e j h)⟩
 have:=c.filterMap (a[·]?);rwa [qp]at this
section
variable {P:Program} {N:Nat} {env:Env} {H:Aq} {Q:Env->Aq->Prop} {ops:Array Oper}
def T7.nil(h:Q env H):T7 P N ops [] env H Q:=⟨_,_,F6.refl _ _ _,h⟩
def T7.cons{o:Oper}{os:List Oper}(b:o.guard=none)(h:Ii P N o env H λv a=>T7 P N ops os (env.putO o.dst v) a Q):T7 P N ops (o::os) env H Q:=by refine⟨_,_,F6.refl _ _ _,?_⟩;rw[b];exact h
end
section
variable {P:Program} {N:Nat}
def oT(t:Ty)(l:List t.D): ∀v∈t.E.cl l,Pure v:=by intro v a;obtain⟨u,b,a⟩:=HW.1 a;obtain⟨y,_,rfl⟩:=BX.1 b;exact SY (t.enc_pure y) v a
def xF{v:AW}(h:Pure v)(p:Nat->Bool):v.idsAll p=true:=PZ (λ_ h=>by cases h) v h
def wO{p q:Nat->Bool}(h: ∀a,p a=true->q a=true)(e:EM)(k:e.idsAll p=true):e.idsAll q=true:=by
 cases e with
 |live g b=>exact Ig h b k
 |lp L=>simp only[EM.idsAll,DG]at k⊢;exact λx c=>PZ h _ (k x c)
 |bld T e d l=>exact h _ k
 |brow o=>exact h _ k
 |_=>rfl
def AAP(t:Ty)(g:Nat)(l:List t.D)(p:Nat->Bool):(EM.live g (t.E.cl l)).idsAll p=true:=by simp only[EM.idsAll];rw[De];exact λv a=>xF (oT t l v a) p
def flt{d:Type}(p q:d->Bool)(a: ∀x,q x=true->p x=true)(e:d)(g:p e=true)(i:q e=false): ∀l:List d,e∈l->(l.filter q).length<(l.filter p).length
 |x::l,he=>by
  have f: ∀l:List d,(l.filter q).length<=(l.filter p).length:=by
   intro l;induction l with
   |nil=>simp
   |cons y l j=>
    simp only[Jw];by_cases b:q y=true
    ·simp[b,a y b,j]
    ·by_cases c:p y=true<;>simp[b,c]<;>omega
  rcases Al.1 he with rfl|h
  ·simp only[Jw,g,i,if_true,F3,if_false,BC];have:=f l;omega
  ·have:=flt p q a e g i l h;simp only[Jw];by_cases b:q x=true
   ·simp[b,a x b,this]
   ·by_cases c:p x=true<;>simp[b,c]<;>omega
def zq{l:List Nat}(h:l.Nodup){i j a b:Nat}(c:l[i]? =some a)(e:l[j]? =some b)(d:i≠j):a≠b:=by
 rintro rfl;have f:i<l.length:=by
  rcases Ag i l.length with q|q
  ·exact q
  ·rw[BP q]at c;cases c
 exact d ((List.getElem?_inj f h).1 (c.trans e.symm))
set_option maxHeartbeats 1000000 in
def uY{te:Ty}{kk:IntKind}{es:List (Int×te.D)}{Hb:Aq}{base:Env}{id a2 a3 a4 a5 a6 a7 a8 a9 a10 a11 out:Nat}{b1 b2:Nat}{i2 i3 i4:Nat}{o2 o3 o4:Array Oper}{te1 te2 te3 ts1 ts2:TypeId}{z:List AW}{e1 e2:TypeId}{bb:Bool}
  (h2:mR o2.toList=some (a2,a3,a4)) (h3:mS o3.toList=some (a2,a5,a6,a7,te1,te2)) (h4:mT o4.toList=some (out,a7,a8,a9,a10,a11,te3,ts1,ts2))
  (bN:[out,a2,a3,a4,a5,a6,a7,a8,a9,a10,a11].Nodup) (hN: ∀t∈[out,a2,a3,a4,a5,a6,a7,a8,a9,a10,a11],t<N) (hb: ∀q∈base,q.1∉ [out,a2,a3,a4,a5,a6,a7,a8,a9,a10,a11])
  (a0: ∀q∈base,(q.2.idsAll λj=>decide (j<Hb.length))=true) (as: ∀e∈Hb,(e.idsAll λj=>decide (j<Hb.length))=true)
  (he:Hb[id]? =some (.mp kk (es.map λp=>(p.1,te.enc p.2)))) (ax:te.isAgg=true) (hz:WA P te1=some z) (ad:z.length=te.sz) (b5:tI P te2=some (bb,te.sz)) (b6:tI P te3=some (true,te.sz))
  (b0:eI P ts1=some (none,e1,te.sz)) (b3:eI P ts2=some (none,e2,te.sz)) (bz:QK P e1=true) (bG:QK P e2=true) (b4:te.sz<=4096) (b7:es.length<=16777216):
  ∀(n:Nat) (c:List Nat),c.Nodup->(∀j∈c,j<es.length)->((List.range es.length).filter λj=>!decide (j∈c)).length<=n->(bx (es.map (·.2)) c).length+((List.range es.length).filter λj=>!decide (j∈c)).length<=es.length->
   MC P N (.seq (.region i2 o2 false) (.seq (.cond (.tmp a4) .skip (.exit b1)) (.block b2 (.seq (.region i3 o3 false) (.region i4 o4 false)))))
    ((out,.sl Hb.length (bx (es.map (·.2)) c).length te.sz 0 (bx (es.map (·.2)) c).length)::(a2,.itp (Hb.length+1) id)::base)
    (Hb++[.live (bx (es.map (·.2)) c).length (te.E.cl (bx (es.map (·.2)) c)),.it es.length c])
    λe E h=>e= .exit b1/\ ∃s,(es.map (·.2)).Perm s/\(∀q∈(out,AW.sl Hb.length s.length te.sz 0 s.length)::base,q∈E)/\h.length=Hb.length+2/\(∀j,j<Hb.length->h[j]? =Hb[j]?)/\h[Hb.length]? =some (.live s.length (te.E.cl s)):=by
 obtain⟨t1,p1,x1,t2,p2,x2,l2⟩:=kM h2;obtain⟨t3,p3,x3,t4,p4,x4,t5,p5,x5,t6,p6,x6,l3⟩:=kN h3;obtain⟨t7,p7,x7,t8,p8,x8,t9,p9,x9,b',b8,cb,ca,b9,cd,l4⟩:=kO h4;have D:=λ(i j a b:Nat)=>zq (i:=i) (j:=j) (a:=a) (b:=b) bN;simp only[Al,Zy,or_false,forall_eq_or_imp,forall_eq]at hN;have d2:On N o2.toList=true:=by rw[l2];simp[On,hN]
 have d3:On N o3.toList=true:=by rw[l3];simp[On,hN]
 have d4:On N o4.toList=true:=by rw[l4];simp[On,hN]
 have a1:id<Hb.length:=by
  rcases Ag id Hb.length with h|h
  ·exact h
  ·rw[BP h]at he;cases he
 have s0: ∀(A B C:EM),(Hb++[A,B]).set (Hb.length+1) C=Hb++[A,C]:=λA B C=>by rw[TI _ _ (by omega),show Hb.length+1-Hb.length=1 by omega];rfl
 have s1: ∀(A B C D:EM),(Hb++[A,B,C]).set (Hb.length+2) D=Hb++[A,B,D]:=λA B C D=>by rw[TI _ _ (by omega),show Hb.length+2-Hb.length=2 by omega];rfl
 have s2: ∀(A B C D:EM),(Hb++[A,B,C]).set Hb.length D=Hb++[D,B,C]:=λA B C D=>by rw[TI _ _ (Aj _),G6];rfl
 have g0: ∀(A:EM) (r:List EM),(Hb++A::r)[Hb.length]? =some A:=λA r=>by rw[CG (Aj _),G6];rfl
 have g1: ∀(A B:EM) (r:List EM),(Hb++A::B::r)[Hb.length+1]? =some B:=λA B r=>by rw[CG (by omega),show Hb.length+1-Hb.length=1 by omega];rfl
 have g2: ∀(A B C:EM) (r:List EM),(Hb++A::B::C::r)[Hb.length+2]? =some C:=λA B C r=>by rw[CG (by omega),show Hb.length+2-Hb.length=2 by omega];rfl
 have gm: ∀(r:List EM),(Hb++r)[id]? =some (.mp kk (es.map λp=>(p.1,te.enc p.2))):=λr=>by rw[BW a1];exact he
 have Z:(es.map (·.2)).length=es.length:=Cm _;have K:0<te.sz:=te.sz_pos;intro n;induction n using Nat.strongRecOn with
 |ind n ih=>
  intro c hn hl hr hm;obtain⟨L,hL⟩: ∃L,L=bx (es.map (·.2)) c:=⟨_,rfl⟩
  rw[<-hL]at hm⊢;refine RE (MA.seq (FX d2 ?_));rw[l2];apply T7.cons rfl;have f:(es.map λp=>(p.1,te.enc p.2)).length=es.length:=Cm _;have al:out≠a2:=D 0 1 _ _ rfl rfl (by decide);refine Ii.next (x:=.tmp a2) (id:=Hb.length+1) (m:=id) (k:=kk) (es:=es.map λp=>(p.1,te.enc p.2)) (seen:=c) rfl ?_ ?_ (gm _) ?_ ?_
  ·show Env.get _ a2=_;rw[qH al,gz]
  ·rw[f];exact g1 _ _ _
  ·intro I;refine T7.cons rfl (Db (v:=.bool false) ?_ (T7.nil ?_))
   ·show CR _ _ _ (.extract (.tmp a3) 0)=_;simp only[CR,A8,Env.putO,F8,if_true];rfl
   ·refine MA.seq (MA.cond (b:=false) ?_ (λh=>by cases h) (λ_=>MA.exit ?_))
    ·simp only[A8,Env.putO,F8,if_true]
    ·refine⟨rfl,L,?_,λq F=>?_,by simp,λj hj=>BW hj,g0 _ _⟩
     ·rw[hL];exact so hn (by rw[Z];exact hl) (by rw[Z];rw[f]at I;exact I)
     ·have ap:out≠a3:=D 0 2 _ _ rfl rfl (by decide);have ar:out≠a4:=D 0 3 _ _ rfl rfl (by decide);rcases Al.1 F with rfl|F
      ·exact En (En Gi ap) ar
      ·have:=hb q F;simp only[Al,not_or]at this;exact En (En (Bq _ (Bq _ F)) this.2.2.1) this.2.2.2.1
  ·intro j p hj T;rw[Bb]at hj;obtain⟨q,F,e⟩:=VP.1 hj;subst e;rw[f,s0];refine T7.cons rfl (Db (v:=.bool true) ?_ (T7.nil ?_))
   ·show CR _ _ _ (.extract (.tmp a3) 0)=_;simp only[CR,A8,Env.putO,F8,if_true];rfl
   ·have k2: ∀(m:Nat) (v w:AW),Env.get (Env.put (Env.put ((out,AW.sl Hb.length m te.sz 0 m)::(a2,AW.itp (Hb.length+1) id)::base) a3 v) a4 w) a2= .itp (Hb.length+1) id:=λm v w=>by rw[F8,if_neg (D 1 3 _ _ rfl rfl (by decide)),F8,if_neg (D 1 2 _ _ rfl rfl (by decide)),qH al,gz]
    have ko: ∀(m:Nat) (v w:AW),Env.get (Env.put (Env.put ((out,AW.sl Hb.length m te.sz 0 m)::(a2,AW.itp (Hb.length+1) id)::base) a3 v) a4 w) out= .sl Hb.length m te.sz 0 m:=λm v w=>by rw[F8,if_neg (D 0 3 _ _ rfl rfl (by decide)),F8,if_neg (D 0 2 _ _ rfl rfl (by decide)),gz]
    have kb: ∀(m:Nat) (v w:AW),∀q∈base,q∈Env.put (Env.put ((out,AW.sl Hb.length m te.sz 0 m)::(a2,AW.itp (Hb.length+1) id)::base) a3 v) a4 w:=λm v w q F=>by have:=hb q F;simp only[Al,not_or]at this;exact En (En (Bq _ (Bq _ F)) this.2.2.1) this.2.2.2.1
    have ki: ∀(m:Nat) (v w:AW),(a2,AW.itp (Hb.length+1) id)∈Env.put (Env.put ((out,AW.sl Hb.length m te.sz 0 m)::(a2,AW.itp (Hb.length+1) id)::base) a3 v) a4 w:=λm v w=>En (En (Bq _ Gi) (D 1 2 _ _ rfl rfl (by decide))) (D 1 3 _ _ rfl rfl (by decide));refine MA.seq (MA.cond (b:=true) ?_ (λ_=>MA.skip ?_) (λh=>by cases h))
    ·simp only[A8,Env.putO,F8,if_true]
    ·dsimp only[oI];refine MA.block (MA.seq (FX d3 ?_));rw[l3];generalize M:Env.putO (Env.putO ((out,AW.sl Hb.length L.length te.sz 0 L.length)::(a2,AW.itp (Hb.length+1) id)::base) (some a3) (.tup [.bool true,.int kk q.1,te.enc q.2])) (some a4) (.bool true)=E;have k2:Env.get E a2= .itp (Hb.length+1) id:=by rw[<-M];exact k2 _ _ _
     have ko:Env.get E out= .sl Hb.length L.length te.sz 0 L.length:=by rw[<-M];exact ko _ _ _
     have kb: ∀q∈base,q∈E:=by rw[<-M];exact kb _ _ _
     have ki:(a2,AW.itp (Hb.length+1) id)∈E:=by rw[<-M];exact ki _ _ _
     clear M;refine T7.cons rfl (Ii.entry (x:=.tmp a2) (id:=Hb.length+1) (m:=id) (j:=j) (k:=kk) (es:=es.map λp=>(p.1,te.enc p.2)) (seen:=c) (p:=(q.1,te.enc q.2)) rfl k2 ?_ (gm _) (by rw[Bb,F];rfl) ?_)
     ·rw[f];exact g1 _ _ _
     ·have l:te.enc q.2= .agg (te.enc q.2).cells:=Ty.agg_enc ax q.2;have o:(te.enc q.2).cells.length=te.sz:=te.enc_len q.2;have V:(te.enc q.2).solid=true:=by rw[l];rfl
      refine T7.cons rfl (Db (v:=te.enc q.2) ?_ (T7.cons rfl (Ii.alloc rfl hz ?_)))
      ·show CR _ _ _ (.extract (.tmp a5) 1)=_;simp only[CR,A8,Env.putO,F8,if_true];rfl
      have a':(Hb++[EM.live L.length (te.E.cl L),EM.it es.length (c++[j])]).length=Hb.length+2:=by simp
      rw[a',Ax];show T7 P N o3 _ _ (Hb++[EM.live L.length (te.E.cl L),EM.it es.length (c++[j]),EM.live 0 z]) _;refine T7.cons rfl (Ii.store (id:=Hb.length+2) (g:=0) (off:=0) (v:=te.enc q.2) (cs:=z) (b:=bb) rfl ?_ ?_ V (g2 _ _ _ _) (by rw[o];exact b5) (by rw[o,ad];omega) (T7.nil ?_))
      ·simp only[A8,Env.putO,F8,if_true]
      ·simp only[A8,Env.putO,F8];rw[if_neg (D 5 6 _ _ rfl rfl (by decide)),if_pos trivial]
      have U:T4 z 0 (te.enc q.2).cells=(te.enc q.2).cells:=by unfold T4;rw[List.take_zero,CA,o,<-ad,DE,List.drop_length,DQ]
      rw[U,s1];simp only[Env.putO];generalize G:Env.put (Env.put (Env.put E a5 (.tup [.int kk q.1,te.enc q.2])) a6 (te.enc q.2)) a7 (.ptr (Hb.length+2) 0 0)=E1;have j7:Env.get E1 a7= .ptr (Hb.length+2) 0 0:=by rw[<-G,F8,if_pos rfl]
      have jo:Env.get E1 out= .sl Hb.length L.length te.sz 0 L.length:=by rw[<-G,F8,if_neg (D 0 6 _ _ rfl rfl (by decide)),F8,if_neg (D 0 5 _ _ rfl rfl (by decide)),F8,if_neg (D 0 4 _ _ rfl rfl (by decide)),ko]
      have jb: ∀q∈base,q∈E1:=λu J=>by have:=hb u J;simp only[Al,not_or]at this;rw[<-G];exact En (En (En (kb u J) this.2.2.2.2.1) this.2.2.2.2.2.1) this.2.2.2.2.2.2.1
      have ji:(a2,AW.itp (Hb.length+1) id)∈E1:=by rw[<-G];exact En (En (En ki (D 1 4 _ _ rfl rfl (by decide))) (D 1 5 _ _ rfl rfl (by decide))) (D 1 6 _ _ rfl rfl (by decide))
      clear G;apply FX d4;rw[l4];refine T7.cons rfl (Db (v:=.sl Hb.length L.length te.sz 0 L.length) (congrArg some jo) (T7.cons rfl (Db (v:=te.enc q.2) ?_ (T7.cons rfl (Sz (sz:=te.sz) (vs:=[te.enc q.2]) rfl ?_ (T7.cons rfl ?_))))))
      ·show bv P te3 _ (A8 _ (.tmp a7))=_;simp only[A8,Env.putO,F8];rw[if_neg (D 6 7 _ _ rfl rfl (by decide)),j7];simp only[bv,b6,Ov,g2];rw[if_pos ⟨trivial,by rw[o];omega⟩,TO,<-o,fW];exact congrArg some l.symm
      ·simp only[Qs,b0];rw[if_pos]
       ·simp only[A8,Env.putO,F8,if_true,BE,G3]
       ·refine⟨K,bz,rfl,?_,by decide,b4⟩;simp only[A8,Env.putO,F8,if_true,BE,G3,YT,ia,V,o,decide_true,Pe]
      have S:j<es.length:=by
       rcases Ag j es.length with h|h
       ·exact h
       ·rw[BP h]at F;cases F
      have bt:((List.range es.length).filter λi=>!decide (i∈c++[j])).length<((List.range es.length).filter λi=>!decide (i∈c)).length:=flt (λi=>!decide (i∈c)) (λi=>!decide (i∈c++[j])) (λx l=>by simp at l⊢;exact l.1) j (by simpa using T) (by simp) _ (G5.2 S);have Q:bx (es.map (·.2)) (c++[j])=L++[q.2]:=by rw[hL];exact sq (by rw[Bb,F];rfl)
      refine QJ (sx:=.tmp a8) (xx:=.tmp a10) (t:=ts2) (e:=e2) (id:=Hb.length) (g:=L.length) (g':=L.length+1) (n:=L.length) (sz:=te.sz) (m:=1) (cs:=te.E.cl L) (news:=(te.enc q.2).cells) rfl b3 K bG ?_ (g0 _ _) (te.E.clen L) ?_ (by omega) (.inl (by omega)) ?_
      ·show Env.get _ a8=_;simp only[Env.putO,F8];rw[if_neg (D 7 9 _ _ rfl rfl (by decide)),if_neg (D 7 8 _ _ rfl rfl (by decide)),if_pos trivial]
      ·simp only[A8,Env.putO,F8,if_true,M3,BC,BH,Es,iq,DQ]
      rw[s2];refine T7.cons rfl (Db (v:=.sl Hb.length (L.length+1) te.sz 0 (L.length+1)) ?_ (T7.nil ?_))
      ·show some (Env.get _ a11)=_;simp only[Env.putO,F8,if_true]
      have R:te.E.cl L++(te.enc q.2).cells=te.E.cl (L++[q.2]):=by simp[Rz.cl];rfl
      rw[R];have bl:(L++[q.2]).length=L.length+1:=by simp
      show∃env2 H2,F6 N _ _ _ env2 H2/\_;refine⟨_,_,?_,ih _ (DD bt hr) (c++[j]) ?_ ?_ (Aj _) (by rw[Q];omega)⟩
      ·rw[Q,bl];generalize O:Env.putO _ (some out) _=E3;have W: ∀u∈(out,AW.sl Hb.length (L.length+1) te.sz 0 (L.length+1))::(a2,AW.itp (Hb.length+1) id)::base,u∈E3:=by
        intro u J;rw[<-O];simp only[Env.putO];rcases Al.1 J with rfl|J
        ·exact pH
        ·rcases Al.1 J with rfl|J
         ·exact En (En (En (En (En ji (D 1 7 _ _ rfl rfl (by decide))) (D 1 8 _ _ rfl rfl (by decide))) (D 1 9 _ _ rfl rfl (by decide))) (D 1 10 _ _ rfl rfl (by decide))) (D 1 0 _ _ rfl rfl (by decide))
         ·have:=hb u J;simp only[Al,not_or]at this;exact En (En (En (En (En (jb u J) this.2.2.2.2.2.2.2.1) this.2.2.2.2.2.2.2.2.1) this.2.2.2.2.2.2.2.2.2.1) this.2.2.2.2.2.2.2.2.2.2.1) this.1
       clear O;have w1:=F6.subset (N:=N) (H:=Hb++[EM.live (L.length+1) (te.E.cl (L++[q.2])),EM.it es.length (c++[j]),EM.live 0 (te.enc q.2).cells]) W;have X:(Hb++[EM.live (L.length+1) (te.E.cl (L++[q.2])),EM.it es.length (c++[j]),EM.live 0 (te.enc q.2).cells]).take (Hb.length+2)=Hb++[EM.live (L.length+1) (te.E.cl (L++[q.2])),EM.it es.length (c++[j])]:=by rw[fV,Dq (by omega),show Hb.length+2-Hb.length=2 by omega];rfl
       have w2:=F6.cut (N:=N) (n0:=Hb.length+2) (env:=(out,AW.sl Hb.length (L.length+1) te.sz 0 (L.length+1))::(a2,AW.itp (Hb.length+1) id)::base) (H:=Hb++[EM.live (L.length+1) (te.E.cl (L++[q.2])),EM.it es.length (c++[j]),EM.live 0 (te.enc q.2).cells]) (by simp) (λt v Y=>by
        rcases Al.1 Y with e|Y
        ·injection e with _ e;subst e;exact decide_eq_true (by omega)
        ·rcases Al.1 Y with e|Y
         ·injection e with _ e;subst e;simp only[AW.idsAll,BM,decide_eq_true_eq];omega
         ·exact PZ (λi hi=>decide_eq_true (by have:=of_decide_eq_true hi;omega)) v (a0 _ Y)) (by
        rw[X];intro e d;rcases Ar.1 d with d|d
        ·exact wO (λi hi=>decide_eq_true (by have:=of_decide_eq_true hi;omega)) e (as e d)
        ·rcases Al.1 d with rfl|d
         ·exact AAP te _ _ _
         ·simp only[A5]at d;subst d;rfl)
       rw[X]at w2;have bd:(Hb++[EM.live L.length (te.E.cl L),EM.it es.length c]).length=Hb.length+2:=by simp
       rw[bd];exact(w1.of_le (by simp)).trans w2
      ·refine PF.2 ⟨hn,by simp,λx l y hy=>?_⟩;simp only[A5]at hy;subst hy;rintro rfl;exact T l
      ·intro x l;rcases Ar.1 l with l|l
       ·exact hl x l
       ·simp only[A5]at l;subst l;exact S
def gg{a m:Code}{p:VF}(h:gf a m=some p): ∃x k i y l r z n A o B q,
  a= .seq (.region x k false) (.block i (.loop (.seq (.region y l false) (.seq (.cond (.tmp p.a4) .skip (.exit i)) (.block r (.seq (.region z n false) (.region A o false)))))))/\m= .region B q false/\
  pD k.toList=some (p.c0,p.a1,p.a2,p.ty1,p.ty2)/\mR l.toList=some (p.a2,p.a3,p.a4)/\mS n.toList=some (p.a2,p.a5,p.a6,p.a7,p.te1,p.te2)/\
  mT o.toList=some (p.out,p.a7,p.a8,p.a9,p.a10,p.a11,p.te3,p.ts1,p.ts2)/\pE q.toList=some (p.out,p.a12,p.a13,p.F,p.G)/\p.tmps.Nodup:=by
 unfold gf at h;split at h
 ·split at h
  ·rename_i s t u v w;split at h
   ·rename_i j;simp only[BM]at j;obtain⟨⟨b,c,d,e,f,g⟩,hn⟩:=j;have b:=Ba b;have c:=Ba c;have d:=Ba d;have e:=Ba e;have f:=Ba f;have g:=Ba g;subst b c d e f g;injection h with h;subst h;exact⟨_,_,_,_,_,_,_,_,_,_,_,_,rfl,rfl,s,t,u,v,w,kJ hn⟩
   ·cases h
  ·cases h
 ·cases h
set_option maxHeartbeats 1000000 in
def wC{cs:List Sf}(c1: ∀c∈cs,c.Ok P){a m:Code}{p:VF}(hp:gf a m=some p){env:BY}{H:An}{R:Type}{k:BY→An→Option R}{r:R}(ok:PB env H)(o:wB P N cs p env H k=some r):
  ∃A H',MA P N a (Bw env) (A3 H) (oI (λE h=>MA P N m E h (Vb .normal (Bw A) (A3 H'))) (λ_ _ _=>False))/\k A H'=some r/\PB A H'/\E2 p.tmps env H A H':=by
 obtain⟨i1,o1,U,i2,o2,J,i3,o3,i4,o4,i5,o5,rfl,rfl,p1,p2,p3,p4,p5,b4⟩:=gg hp;unfold wB at o;split at o
 ·rename_i c co b5;split at o
  ·rename_i ro M hc;split at o
   ·rename_i c' kk n I F te G g a' hF hE;split at o
    ·rename_i c5;split at o
     ·rename_i y1 kt et b' n2 df n3 z e1 s1 e2 s2 t1 t2 t3 t4 t5 t6 t7;split at o
      ·rename_i hb;have c6:n=te:=by have:=Ty.beq_eq _ _ c5;injection this
       subst c6;simp only[BM]at hb;obtain⟨⟨bG,b9,W,cf,Y,bz,Z,ad,cd,ce,al⟩,V,ca,cb,bN⟩:=hb;have bG:=Ba bG;have W:=Ba W;have Y:=Ba Y;have bz:=Ba bz;have Z:=Ba Z;have ad:=Ba ad;have al:=JF al;subst W Y Z ad cf;have c9:P.underlying kt=some (.int kk):=by
        split at V
        ·rename_i k2 e;rw[e,of_decide_eq_true V]
        ·cases V
       cases ar:decide (((I.length:Nat):Int)<=16777216)with
       |false=>rw[ar]at o;cases o
       |true=>
        have bt:I.length<=16777216:=by have:=of_decide_eq_true ar;omega
        rw[ar]at o;obtain⟨s,hs,o⟩:=Dt.1 (show Option.bind _ _=some r from o);have hs:=sT hs;cases L:Nat.beq s.length I.length with
        |false=>rw[L]at o;cases o
        |true=>
         rw[L]at o;have o:k ((p.out,.c (.own H.length 0 n s.length))::Wy p.tmps env) (H++[.buf false n s s.length 0,.dead])=some r:=o;have L:=Ba L;obtain⟨ds,q1,x1,d0,q2,x2,l1⟩:=kL p1;obtain⟨d2,q3,x3,c7,d3,q4,x4,l5⟩:=kP p5;have D:=λ(i j a b:Nat)=>zq (i:=i) (j:=j) (a:=a) (b:=b) b4;have hN: ∀t∈p.tmps,t<N:=λt ht=>JF (DG.1 bN t ht);have d1:On N o1.toList=true:=by rw[l1];simp only[On,YT,ia,Of,BM,decide_eq_true_eq];exact⟨hN _ (by simp[VF.tmps]),hN _ (by simp[VF.tmps])⟩
         have d5:On N o5.toList=true:=by rw[l5];simp only[On,YT,ia,Of,BM,decide_eq_true_eq];exact⟨hN _ (by simp[VF.tmps]),hN _ (by simp[VF.tmps])⟩
         have O:(Bw env).get p.out= .nils:=by rw[SB,b5];rfl
         have ap:(Bw env).get p.c0= .ptr c 0 0:=by rw[SB,co];rfl
         have cv:p.c0≠p.out:=λe=>by rw[e,O]at ap;cases ap
         have ct:c<H.length:=Ez hc;have bd:M<H.length:=Ez a';have d:(A3 H).length=H.length:=CO H;have ch:(A3 H)[c]? =some (.live 0 [.mp M]):=by rw[E7,hc];rfl
         have Q:(A3 H)[M]? =some (.mp kk (I.map λp=>(p.1,n.enc p.2))):=by rw[E7,a'];rfl
         have x: ∀q∈Bw (Wy p.tmps env),q∈Bw env/\q.1∉p.tmps:=λq y=>by obtain⟨u,hu,rfl⟩:=BX.1 y;exact⟨BX.2 ⟨u,(TU hu).1,rfl⟩,(TU hu).2⟩
         have cm: ∀q∈Bw (Wy p.tmps env),(q.2.idsAll λj=>decide (j<(A3 H).length))=true:=λq y=>by obtain⟨u,hu,rfl⟩:=BX.1 y;rw[d];exact ae (eF ca u hu)
         have ci: ∀e∈A3 H,(e.idsAll λj=>decide (j<(A3 H).length))=true:=by rw[d];exact eG cb
         have step:B8 H (H++[.buf false n s s.length 0,.dead]):=by have:=(B8.push H (.buf false n s s.length 0)).trans (B8.push _ .dead);rwa [Ax]at this
         have b6:(Bd.own H.length 0 n s.length).ok (H++[.buf false n s s.length 0,.dead]):=by apply VC (b:=false) (l:=s);rw[CG (Aj _),G6];rfl
         refine⟨(p.out,.c (.own H.length 0 n s.length))::Wy p.tmps env,H++[.buf false n s s.length 0,.dead],?_,o,⟨λq y=>?_,?_⟩,step,λu hu _=>?_⟩
         ·refine MA.weak (F6.virt (t:=p.out) (sz:=n.sz) O) (MA.seq (FX d1 ?_));rw[l1];have c4:CR P ((Bw env).put p.out (.sl (A3 H).length 0 n.sz 0 0)) (A3 H++[.live 0 []]) (.load p.ty1 (.tmp p.c0))=some (.mp M):=by simp only[CR,A8,F8];rw[if_neg cv,ap];simp only[bv,t1,Ov];rw[BW (by rw[d];exact ct),ch];rfl
          have bl:(A3 H++[EM.live 0 []])[M]? =some (.mp kk (I.map λp=>(p.1,n.enc p.2))):=by rw[BW (by rw[d];exact bd),Q]
          refine T7.cons rfl (Db c4 (T7.cons rfl (Ii.range (id:=M) (k:=kk) (es:=I.map λp=>(p.1,n.enc p.2)) rfl ?_ t2 bl (T7.nil ?_))))
          ·simp only[A8,Env.putO,F8,if_true]
          rw[Cm,Ad,Ax];dsimp only[oI,Env.putO];refine MA.block (MA.of_loopW ?_);have a0:[p.out,p.a2,p.a3,p.a4,p.a5,p.a6,p.a7,p.a8,p.a9,p.a10,p.a11].Sublist p.tmps:=.cons₂ _ (.cons _ (.cons₂ _ (.cons₂ _ (.cons₂ _ (.cons₂ _ (.cons₂ _ (.cons₂ _ (.cons₂ _ (.cons₂ _ (.cons₂ _ (.cons₂ _ (.cons _ (.cons _ .slnil)))))))))))));have b8:=uY (P:=P) (N:=N) (te:=n) (kk:=kk) (es:=I) (Hb:=A3 H) (base:=Bw (Wy p.tmps env)) (id:=M) (out:=p.out) (a2:=p.a2) (a3:=p.a3) (a4:=p.a4) (a5:=p.a5) (a6:=p.a6) (a7:=p.a7) (a8:=p.a8) (a9:=p.a9) (a10:=p.a10) (a11:=p.a11)
           (b1:=U) (b2:=J) (i2:=i2) (i3:=i3) (i4:=i4) (bb:=b') p2 p3 p4 ?_ ?_ ?_ cm ci Q b9 t5 bz t3 t4 t6 t7 cd ce al bt I.length [] PG (λj B=>by cases B) (by simpa using List.length_filter_le _ (List.range I.length)) (by have:=J4 (λj=>!decide (j∈([]:List Nat))) (List.range I.length);simpa[bx]using this)
          ·refine MC.mono (MC.weak ?_ b8) ?_
           ·refine F6.subset (N:=N) (H:=A3 H++[EM.live 0 [],EM.it I.length []]) λq y=>?_;rcases Al.1 y with rfl|y
            ·exact En (En pH (D 0 1 _ _ rfl rfl (by decide))) (D 0 2 _ _ rfl rfl (by decide))
            ·rcases Al.1 y with rfl|y
             ·exact pH
             ·obtain⟨U,J⟩:=x q y;simp only[VF.tmps,Al,not_or]at J;exact En (En (En U J.1) J.2.1) J.2.2.1
           ·rintro e E h ⟨rfl,C,K,b7,S,ax,as⟩;show iv U _ (.exit U) E h;simp only[iv,if_true,oI];apply MA.weak (F6.subset b7);refine MA.after (FX d5 ?_);rw[l5];obtain⟨b3,hf⟩:=fu hF;have a1:s.length=C.length:=by rw[L,<-K.length_eq,Cm]
            have hA:=c1 _ b3 C () s (hs C K) a1 h (A3 H).length as;simp only[Sf.f]at hf;rw[hf]at hA;refine T7.cons rfl (Db (v:=.sl (A3 H).length C.length n.sz 0 C.length) (congrArg some gz) (T7.cons rfl (Ii.mono (iD (F:=p.F) (vs:=[.sl (A3 H).length C.length n.sz 0 C.length,.fn (.func G) [] []]) ?_ hE hA) ?_)))
            ·show some (Sum.inl (p.F,[]++[Env.get _ p.a12,AW.fn (.func p.G) [] []]++[]))=_;simp only[Env.putO,F8,if_true,bG];rfl
            ·rintro _ _ ⟨rfl,rfl⟩;refine T7.nil ⟨_,_,?_,rfl,rfl,rfl⟩;have c3:(h.set (A3 H).length (.live C.length (n.E.cl s))).length=h.length:=by simp
             rw[<-c3];refine Tj (by simp[A3];rw[S,d]) λX g' w _=>?_;have hr:Rw (cx X g' (h.set (A3 H).length (.live C.length (n.E.cl s))) w) (cx X g' (h.set (A3 H).length (.live C.length (n.E.cl s))) w) (h.set (A3 H).length (.live C.length (n.E.cl s))) (A3 (H++[.buf false n s s.length 0,.dead])):=by
              refine⟨by simp[A3];rw[S,d],λj e' B=>?_⟩;have same:(h.set (A3 H).length (.live C.length (n.E.cl s)))[j]? =some e'->e'= .dead\/_:=λhh=>(Rw.refl (cx X g' (h.set (A3 H).length (.live C.length (n.E.cl s))) w) (h.set (A3 H).length (.live C.length (n.E.cl s)))).2 j e' hh;have c2:A3 (H++[.buf false n s s.length 0,.dead])=A3 H++[EM.live s.length (n.E.cl s),EM.dead]:=by simp[A3,Df.enc]
              rw[c2]at B;rcases Q7 j (A3 H).length with b0|rfl|c8
              ·rw[BW b0]at B;exact same (by rw[C1 (by omega),ax j b0];exact B)
              ·rw[CG (Aj _),G6]at B;exact same (by rw[EI (by omega),<-a1];exact B)
              ·rw[CG (by omega)]at B;rcases Q7 (j-(A3 H).length) 1 with q|q|q
               ·omega
               ·rw[q]at B;injection B with B;exact .inl B.symm
               ·rw[BP (by simp;omega)]at B;cases B
             refine⟨hr.onto,λt v' T=>⟨v',?_,λc r=>r.later hr.later⟩⟩;simp only[Env.putO];have T:(t,v')∈(p.out,AW.sl (A3 H).length s.length n.sz 0 s.length)::Bw (Wy p.tmps env):=by rw[d];exact T
             rcases Al.1 T with e|T
             ·injection e with e1 e2;subst e1 e2;rw[a1];exact En (En Gi (D 0 12 _ _ rfl rfl (by decide))) (D 0 13 _ _ rfl rfl (by decide))
             ·obtain⟨U,J⟩:=x _ T;simp only[VF.tmps,Al,not_or]at J;exact En (En (Bq _ T) J.2.2.2.2.2.2.2.2.2.2.2.2.1) J.2.2.2.2.2.2.2.2.2.2.2.2.2.1
          ·exact b4.sublist a0
          ·exact λt ht=>hN t (a0.subset ht)
          ·exact λq y T=>(x q y).2 (a0.subset T)
         ·rcases Al.1 y with rfl|y
          ·exact JL b6
          ·exact step.tv (ok.env q (TU y).1)
         ·intro e he;rcases Ar.1 he with he|he
          ·exact step.ent (ok.heap e he)
          ·simp only[Al,Zy,or_false]at he;rcases he with rfl|rfl
           ·rfl
           ·trivial
         ·show BY.get _ u=_;have:p.out≠u:=λe=>hu (by rw[<-e];simp[VF.tmps]);simp only[BY.get,beq_false this];exact jF hu env
      ·cases o
     ·cases o
    ·cases o
   ·cases o
  ·cases o
 ·cases o
end
abbrev Sem:= ∀{R:Type},BY->An->(Exit->BY->An->Option R)->Option R
def iK:List (Nat×Ty)->BY->An->Option (BY×An)
 |[],env,H=>some (env,H)
 |(t,ty)::r,env,H=>
  match env.get t with
  | .c .nil=>iK r (env.put t (.c (.own H.length 0 ty 0))) (H++[.buf false ty [] 0 0])
  |_=>none
def lX:Nat->List Bd->Option (List Bd×List Bd)
 |0,.nil::r=>some ([],r)
 |n+1,x::r=>match lX n r with|some (a,b)=>some (x::a,b)|none=>none
 |_,_=>none
def dp:List (Nat×Nat×Ty)->An->Option An
 |[],H=>some H
 |(b,i,ty)::r,H=>
  match H[b]? with
  |some (.live false cs)=>
   match lX i cs with
   |some (x,y)=>dp r (H.set b (.live false (x++ .own H.length 0 ty 0::y))++[.buf false ty [] 0 0])
   |none=>none
  |_=>none
def zB(h:Hint)(env:BY)(H:An):Option (BY×An):=
 match iK h.virt env H with
 |some (e,H1)=>match dp h.virtC H1 with|some H2=>some (e,H2)|none=>none
 |none=>none
def yv(h:Hint)(n:Nat)(eb:BY)(H0:An)(S:List Nat){R:Type}(k:Exit->BY->An->Option R)(o:pC h.exits):Option R:=
 AAl h.exits o λx sl ds=>
  match US sl ds eb H0 with
  |some (e,hh)=>match ms n e&&(eY n hh&&S.all λj=>Mm j (Kw sl))with|true=>k x e hh|false=>none
  |none=>none
def wa(h:Hint)(A:List Nat)(run:Sem):Sem:=λenv H k=>
 match zB h env H with
 |none=>none
 |some (env0,H0)=>
  match jc env0 with
  |false=>none
  |true=>(run env0 (L9 (Kw h.slots) 0 H0) λx e1 h1=>sO h.exits x e1 h1).bind λo=>yv h H0.length (PL A (Kw h.slots) H0 env0) H0 (Kw h.slots) k o
def tf(h:Hint)(x:Exit)(env:BY)(H:An):Option (Step (DL (bi h.slots)) (pC h.exits)):=
 match qC .normal x with
 |true=>match pj h.slots env H with|some s=>some (.next s)|none=>none
 |false=>match sO h.exits x env H with|some o=>some (.done o)|none=>none
noncomputable def wj(h:Hint)(A:List Nat)(run:Sem):Sem:=λenv H k=>
 match zB h env H with
 |none=>none
 |some (env1,H1)=>
  match HQ (h.kill++fO env1 H1 h.slots) env1 H1 with
  |(env0,H0)=>
   match jc env0,Xf env0 H0 h.slots with
   |true,some ds=>
    match sJ (bi h.slots) ds with
    |some s0=>(Ae (λs=>
      match US h.slots (wK (bi h.slots) s) (PL A (Kw h.slots) H0 env0) (L9 (Kw h.slots) 0 H0)with
      |some (e,hh)=>match ms H0.length e&&eY H0.length hh with|true=>run e hh λx e1 h1=>tf h x e1 h1|false=>none
      |none=>none) s0).bind λo=>yv h H0.length (PL A (Kw h.slots) H0 env0) H0 (Kw h.slots) k o
    |none=>none
   |_,_=>none
def tQ(c:Operand)(ra rb:Sem):Sem:=λenv H k=>
 match Ij env c with
 | .c (.bl v)=>cond v (ra env H k) (rb env H k)
 |_=>none
def oQ(id:Nat)(r:Sem):Sem:=λenv H k=>r env H λe env' H'=>
 match e with
 | .exit id'=>match Nat.beq id' id with|true=>k .normal env' H'|false=>k (.exit id') env' H'
 |e=>k e env' H'
def qQ(o:Option Hint)(A:List Nat)(run:Sem):Sem:=
 match o with
 |some h=>wa h A run
 |none=>run
noncomputable def zn(o:Option Hint)(A:List Nat)(run:Sem):Sem:=
 match o with
 |some h=>wj h A run
 |none=>λ_ _ _=>none
def bX:BY->BY
 |[]=>[]
 |(t,v)::r=>match KI v.refs with|[]=>(t,v)::bX r|_=>bX r
def sX(P:Program)(call:RJ)(N:Nat)(me:FuncId)(f:Operand)(ps:Array Tmp)(a b:Code):Sem:=λenv H k=>
 match Ij env f with
 | .c (.raw (.fn (.func G) first caps))=>
  match Zu P G with
  |true=>call (.fn G) (first.map vU++[.c (.raw (.yf H.length))]++caps.map vU) (H++[.lp false me N (bX env) ps a b .ready]) λ_ H'=>
   match H'[H.length]? with
   |some (.lp false _ _ _ _ _ _ .ready)=>k .normal env (H'.set H.length .dead)
   |some (.lp false _ _ _ _ _ _ .ret)=>k .ret env (H'.set H.length .dead)
   |some (.lp false _ _ _ _ _ _ (.exit x))=>k (.exit x) env (H'.set H.length .dead)
   |_=>none
  |false=>none
 |_=>none
noncomputable def gI(P:Program)(cs:List Sf)(call:RJ)(N:Nat)(me:FuncId)(hs:List Hint):Code->Sem
 | .skip=>λenv H k=>k .normal env H
 | .ret=>λenv H k=>k .ret env H
 | .exit id=>λenv H k=>k (.exit id) env H
 | .seq a (.seq m r)=>λenv H k=>
  match gf a m with
  |some p=>wB P N cs p env H λenv' H'=>gI P cs call N me hs r env' H' k
  |none=>gI P cs call N me hs a env H λe env' H'=>match e with| .normal=>gI P cs call N me hs (.seq m r) env' H' k|e=>k e env' H'
 | .seq a b=>qQ (kz hs a b) (QM hs (.seq a b)) λenv H k=>gI P cs call N me hs a env H λe env' H'=>match e with| .normal=>gI P cs call N me hs b env' H' k|e=>k e env' H'
 | .cond c a b=>qQ (da hs (.cond c a b)) (QM hs (.cond c a b)) (tQ c (gI P cs call N me hs a) (gI P cs call N me hs b))
 | .block id b=>qQ (da hs (.block id b)) (QM hs (.block id b)) (oQ id (gI P cs call N me hs b))
 | .loop b=>zn (da hs (.loop b)) (QM hs (.loop b)) (gI P cs call N me hs b)
 | .region _ ops false=>λenv H k=>
  match On N ops.toList with
  |true=>sn P cs call ops (guards ops) false ops.toList 0 env H λenv' H'=>k .normal env' H'
  |false=>none
 | .region id ops true=>λenv H k=>
  match P.follows .mixedOrders&&uG ops N (sU ops)&&Ti P ops&&jc env with
  |true=>sm P cs call ops (Hu ops.toList []) (guards ops) (match kB 3 id hs with|some _=>true|none=>false) (sU ops) [] env H λenv' H'=>k .normal env' H'
  |false=>none
 | .rangeFunc f ps a b=>sX P call N me f ps a b
 |_=>λ_ _ _=>none
def zQ{P:Program}{g:List Sf}{c:RJ}{N:Nat}{h:FuncId}{f:List Hint}{a b:Code}(j: ∀m r,b≠ .seq m r){R:Type}(env:BY)(H:An)(k:Exit→BY→An→Option R):
  gI P g c N h f (.seq a b) env H k=qQ (kz f a b) (QM f (.seq a b)) (λenv H k=>gI P g c N h f a env H λe d i=>match e with| .normal=>gI P g c N h f b d i k|e=>k e d i) env H k:=by
 cases b<;>first|rfl|exact absurd rfl (j _ _)
def PA(P:Program)(N:Nat)(A:List Nat)(c:Code)(run:Sem):Prop:= ∀{R:Type} (env:BY) (H:An) (k:Exit->BY->An->Option R) (r:R),PB env H->run env H k=some r->
 ∃e env' H',nE P N c (Bw env) (A3 H) (Vb e (Bw env') (A3 H'))/\k e env' H'=some r/\PB env' H'/\E2 A env H env' H'
def uL: ∀{l:List (Nat×Ty)} {env:BY} {H:An} {a:BY} {b:An},PB env H→iK l env H=some (a,b)→
  PB a b/\E2 (l.map (·.1)) env H a b/\ ∀N,F6 N H.length (Bw env) (A3 H) (Bw a) (A3 b)
 |[],env,H,a,b,ok,h=>by simp only[iK,AV,Br]at h;obtain⟨rfl,rfl⟩:=h;exact⟨ok,E2.refl _ _ _,λN=>by have:=F6.refl N (Bw env) (A3 H);rwa [CO]at this⟩
 |(t,ty)::r,env,H,a,b,ok,h=>by
  simp only[iK]at h;split at h
  ·rename_i n;have j:B8 H (H++[.buf false ty [] 0 0]):=B8.push H _;have g:(H++[Df.buf false ty [] 0 0])[H.length]? =some (.buf false ty [] 0 0):=by simp
   have i:PB (env.put t (.c (.own H.length 0 ty 0))) (H++[.buf false ty [] 0 0]):=by
    refine⟨bc (d:=some t) (j.env ok.env) (JL (VC g)),λe f=>?_⟩;rcases Ar.1 f with f|f
    ·exact j.ent (ok.heap e f)
    ·rw[A5.1 f];rfl
   obtain⟨q1,q2,q3⟩:=uL i h;refine⟨q1,?_,λN=>?_⟩
   ·have p:E2 [t] env H (env.put t (.c (.own H.length 0 ty 0))) (H++[.buf false ty [] 0 0]):=⟨j,λu o _=>iJ λe=>o (by simp[e])⟩
    exact E2.trans ok.env p q2
   ·have w:=F6.virt (N:=N) (env:=Bw env) (H:=A3 H) (t:=t) (sz:=ty.sz) (by rw[SB,n];rfl);have k:=(q3 N).of_le (n0:=H.length) (by simp);rw[gh]at k;have m:A3 (H++[.buf false ty [] 0 0])=A3 H++[.live 0 []]:=by simp[A3,Df.enc,Rz.cl]
    rw[m]at k;rw[CO]at w;exact w.trans k
  ·cases h
def jy: ∀{n:Nat} {e x y:List Bd},lX n e=some (x,y)->e=x++ .nil::y
 |0,[],_,_,h=>by cases h
 |0,z::r,x,y,h=>by
  cases z<;>simp only[lX]at h<;>try (cases h;done)
  injection h with h;injection h with c d;subst c d;rfl
 |n+1,[],_,_,h=>by cases h
 |n+1,z::r,x,y,h=>by
  simp only[lX]at h;split at h
  ·rename_i a b hr;injection h with h;injection h with c d;subst c d;rw[jy hr];rfl
  ·cases h
def rD{env:BY}: ∀{l:List (Nat×Nat×Ty)} {H c:An},PB env H→dp l H=some c→
  PB env c/\B8 H c/\ ∀N,F6 N H.length (Bw env) (A3 H) (Bw env) (A3 c)
 |[],H,c,ok,h=>by simp only[dp,AV]at h;subst h;exact⟨ok,B8.refl _,λN=>by have:=F6.refl N (Bw env) (A3 H);rwa [CO]at this⟩
 |(b,i,ty)::r,H,c,ok,h=>by
  simp only[dp]at h;split at h
  ·rename_i F d;split at h
   ·rename_i x y D;have p:=jy D;subst p;have g:b<H.length:=by
     rcases Ag b H.length with m|m
     ·exact m
     ·rw[BP m]at d;cases d
    have j:B8 H (H++[Df.buf false ty [] 0 0]):=B8.push H _;have a:H.set b (Df.live false (x++Bd.own H.length 0 ty 0::y))++[Df.buf false ty [] 0 0]=(H++[Df.buf false ty [] 0 0]).set b (Df.live false (x++Bd.own H.length 0 ty 0::y)):=by rw[List.set_append_left _ _ g]
    have n:(H++[Df.buf false ty [] 0 0])[b]? =some (Df.live false (x++Bd.nil::y)):=by rw[BW g];exact d
    have k:B8 (H++[Df.buf false ty [] 0 0]) ((H++[Df.buf false ty [] 0 0]).set b (Df.live false (x++Bd.own H.length 0 ty 0::y))):=B8.set n rfl λ_ _ _ _ _ e=>by cases e
    have s:(H++[Df.buf false ty [] 0 0])[H.length]? =some (.buf false ty [] 0 0):=by simp
    have A:lok H (x++Bd.nil::y):=ok.heap _ (BV d);have v: ∀e∈H++[Df.buf false ty [] 0 0],e.ok (H++[Df.buf false ty [] 0 0]):=λe f=>by
     rcases Ar.1 f with f|f
     ·exact j.ent (ok.heap e f)
     ·rw[A5.1 f];rfl
    have B:lok (H++[Df.buf false ty [] 0 0]) (x++Bd.own H.length 0 ty 0::y):=by
     have q:=Gj.1 (j.lok A);refine Gj.2 ⟨q.1,λz t=>?_⟩;rcases Al.1 t with rfl|t
     ·exact VC s
     ·exact q.2 z (Bq _ t)
    rw[a]at h;have u:PB env ((H++[Df.buf false ty [] 0 0]).set b (Df.live false (x++Bd.own H.length 0 ty 0::y))):=⟨k.env (j.env ok.env),heap_set k v (k.lok B)⟩
    obtain⟨q1,q2,q3⟩:=rD u h;refine⟨q1,(j.trans k).trans q2,λN=>?_⟩;have o:(A3 H)[b]? =some (.live 0 (lvs (x++Bd.nil::y))):=by rw[E7,d];rfl
    have E:(lvs (x++Bd.nil::y))[(lvs x).length]? =some .nils:=by rw[GN,Gg];simp[Bd.enc]
    have w:=F6.virtC (N:=N) (env:=Bw env) (sz:=ty.sz) o E;have C:A3 ((H++[Df.buf false ty [] 0 0]).set b (Df.live false (x++Bd.own H.length 0 ty 0::y)))=(A3 H).set b (.live 0 ((lvs (x++Bd.nil::y)).set (lvs x).length (.sl (A3 H).length 0 ty.sz 0 0)))++[.live 0 []]:=by
     rw[<-a];have:(lvs (x++Bd.nil::y)).set (lvs x).length (.sl (A3 H).length 0 ty.sz 0 0)=lvs (x++Bd.own H.length 0 ty 0::y):=by rw[GN,Gg,GN,Gg,CO];simp[Bd.enc]
     rw[this];simp[A3,Df.enc,Rz.cl,List.map_set]
    rw[<-C,CO]at w;exact w.trans ((q3 N).of_le (by simp))
   ·cases h
  ·cases h
def uD{h:Hint}{env:BY}{H:An}{a:BY}{c:An}(ok:PB env H)(b:zB h env H=some (a,c)):
  PB a c/\E2 (h.virt.map (·.1)) env H a c/\ ∀N,F6 N H.length (Bw env) (A3 H) (Bw a) (A3 c):=by
 unfold zB at b;split at b
 ·rename_i e d o;obtain⟨a1,a2,a3⟩:=uL ok o;split at b
  ·rename_i f m;injection b with b;injection b with k l;subst k l;obtain⟨g,i,j⟩:=rD a1 m;have p:E2 [] e d e f:=⟨i,λ_ _ _=>rfl⟩
   exact⟨g,(E2.trans ok.env a2 p).mono λt n=>by rwa [DQ]at n,λN=>(a3 N).trans ((j N).of_le a2.step.len)⟩
  ·cases b
 ·cases b
def nO{A S:List Nat}{H:An}: ∀{env:BY},(env.map (·.1)).Nodup-> ∀t,env.get t=Sq->(PL A S H env).get t=Sq
 |[],_,_,_=>rfl
 |(u,v)::r,nd,t,h=>by
  have a:=FF.1 nd;simp only[BY.get]at h;by_cases b:u=t
  ·subst b;rw[Ds]at h;simp only at h;have hn: ∀p∈PL A S H r,p.1≠u:=λp d e=>a.1 (BX.2 ⟨p,(Pg a.2 p d).2.2,e⟩);simp only[PL];split
   ·simp only[BY.get,Ds];exact h
   ·exact fL hn
  ·rw[beq_false b]at h;have c:=nO (A:=A) (S:=S) (H:=H) a.2 t h;simp only[PL];split
   ·simp only[BY.get,beq_false b];exact c
   ·exact c
def tW{h:Hint}{A B:List Nat}{env0:BY}{e:An}{H:BY}{I:An}(u:PB env0 e)(nd:(env0.map (·.1)).Nodup)(Q:rK A (Kw h.slots) env0 e H I)
  {env1:BY} {v:An} (G:PB env1 v) (W:E2 B H I env1 v) (O: ∀t,t∈B->t∈A) (M: ∀t,t∈h.tmps->t∈A) {x:Exit} {o:pC h.exits} (T:sO h.exits x env1 v=some o)
  {R:Type} {k:Exit->BY->An->Option R} {r:R} (f:yv h e.length (PL A (Kw h.slots) e env0) e (Kw h.slots) k o=some r) (N:Nat):
  ∃g i,F6 N e.length (Bw env1) (A3 v) (Bw g) (A3 i)/\k x g i=some r/\PB g i/\E2 A env0 e g i:=by
 obtain⟨rfl,P,p,U,D⟩:=nu T;have f:=nt f;split at f
 ·rename_i g i S;split at f
  ·rename_i y;simp only[BM]at y;have sub: ∀j,Mm j (Kw (nD h.exits o).2.1)=false->Mm j (Kw h.slots)=false:=λj c=>Tc λC=>by have:=DG.1 y.2.2 j C;rw[c]at this;cases this
   obtain⟨w,Z,m,E⟩:=tK u nd Q G W O P u.heap rfl (wh e) (λ_ _ _ _ q=>q) (λj K c d=>by
    cases K with
    |dead=>exact .inl rfl
    |live b Y=>exact .inr ⟨_,sub j c,by rw[J0,d,DE,sub j c];rfl,rfl,.inr (.inl ⟨_,_,_,_,rfl,rfl,DU.refl _⟩)⟩
    |buf b t l n X=>exact .inr ⟨_,sub j c,by rw[J0,d,DE,sub j c];rfl,rfl,.inr (.inr (.inl ⟨_,_,_,_,_,_,_,rfl,rfl⟩))⟩
    |mp b k t es=>exact .inr ⟨_,sub j c,by rw[J0,d,DE,sub j c];rfl,rfl,.inr (.inr (.inr (.inr ⟨_,_,_,_,_,rfl,rfl⟩)))⟩
    |lp ro F n env ps a b s=>exact .inr ⟨_,sub j c,by rw[J0,d,DE,sub j c];rfl,rfl,.inr (.inr (.inr (.inl ⟨_,_,_,_,_,_,_,_,_,rfl,rfl⟩)))⟩) S y.1 y.2.1 N
   refine⟨g,i,w,f,E.ok,E.step,λt J z=>?_⟩;have L:Mm t (kT (nD h.exits o).2.1)=false:=Tc λC=>J (M t (by unfold Hint.tmps;refine Ar.2 (.inr (HW.2 ⟨p,U,?_⟩));rw[<-D];exact C));rw[E.get t L];cases m:lM (env0.get t)with
   |true=>
    have:env0.get t=Sq:=by
     unfold lM at m;split at m
     ·rename_i V;exact V
     ·cases m
    rw[nO nd t this,this]
   |false=>exact eC nd t (we (Tc J) m z)
  ·cases f
 ·cases f
variable {P:Program} {N:Nat}
def qP{c:Code}{A B:List Nat}{h:Hint}{f:Sem}(hr:PA P N B c f)(q: ∀t,t∈B->t∈A)(l: ∀t,t∈h.tmps->t∈A):PA P N A c (wa h A f):=by
 intro R env H k r ok a;unfold wa at a;dsimp only at a;split at a
 ·cases a
 ·rename_i env0 g x;split at a
  ·cases a
  ·rename_i hn;obtain⟨o,u,a⟩:=bnd a;obtain⟨b,y,z⟩:=uD ok x;have nd:=W7 hn;obtain⟨e,env1,C,a1,k1,i,j⟩:=hr env0 (L9 (Kw h.slots) 0 g) _ o (iB b) u;have s:rK A (Kw h.slots) env0 g env0 (L9 (Kw h.slots) 0 g):=⟨iB b,B8.refl _,J1 _ _,λ_ _=>rfl,λp v=>(Pg nd p v).1⟩
   obtain⟨m,n,w,q1,q2,q3⟩:=tW b nd s i j q l k1 a N;refine⟨e,m,n,?_,q1,q2,?_⟩
   ·rw[nh]at a1;refine nE.weak (by rw[CO];exact z N) (nE.after (a1.mono ?_));rintro _ _ _ ⟨rfl,rfl,rfl⟩;exact⟨_,_,by rw[CO];exact w,rfl,rfl,rfl⟩
   ·exact(E2.trans ok.env y q3).mono λt d=>by
     rcases Ar.1 d with d|d
     ·exact l t (by unfold Hint.tmps;simp only[List.mem_append];exact .inl (.inl (.inr d)))
     ·exact d
def wk{c:Code}{A B:List Nat}{h:Hint}{Y:Sem}(hr:PA P N B c Y)(hB: ∀t,t∈B->t∈A)(hA: ∀t,t∈h.tmps->t∈A):PA P N A (.loop c) (wj h A Y):=by
 intro R env H k r ok g;unfold wj at g;dsimp only at g;split at g
 ·cases g
 ·rename_i E Hv hv;obtain⟨bb,sv,wv⟩:=uD ok hv;obtain⟨m,sf,wf⟩:=Pl (h.kill++fO E Hv h.slots) bb;generalize HQ (h.kill++fO E Hv h.slots) E Hv=fz at g m sf wf;obtain⟨env0,f⟩:=fz;simp only at g m sf wf;split at g
  ·rename_i ds hn hc;split at g
   ·rename_i s0 a7;obtain⟨o,ho,g⟩:=bnd g;have nd:=W7 hn;have v: ∀e∈L9 (Kw h.slots) 0 f,e.ok (L9 (Kw h.slots) 0 f):=(iB m).heap;have hC:=sF (C:=λs o=> ∀r,yv h f.length (PL A (Kw h.slots) f env0) f (Kw h.slots) k o=some r->
     ∃u i,US h.slots (wK (bi h.slots) s) (PL A (Kw h.slots) f env0) (L9 (Kw h.slots) 0 f)=some (u,i)/\ms f.length u=true/\eY f.length i=true/\(rK A (Kw h.slots) env0 f u i-> ∃x D G,MC P N c (Bw u) (A3 i) (Vb x (Bw D) (A3 G))/\k x D G=some r/\PB D G/\E2 A env0 f D G)) (λs q X=>by
     split at X
     ·rename_i u i hi;split at X
      ·rename_i I;simp only[BM]at I;have body: ∀y:rK A (Kw h.slots) env0 f u i,∃e env1 K,nE P N c (Bw u) (A3 i) (Vb e (Bw env1) (A3 K))/\tf h e env1 K=some q/\PB env1 K/\E2 B u i env1 K:=λy=>hr u i _ q y.ok X;cases q with
       |next s'=>
        intro o ih r g;obtain⟨ad,ar,i1,i2,i3,i4⟩:=ih r g;refine⟨u,i,hi,I.1,I.2,λy=>?_⟩;obtain⟨e,env1,K,a1,k1,S,T⟩:=body y;unfold tf at k1;split at k1
        ·rename_i hx;have:=lZ hx;subst this;split at k1
         ·rename_i s1 a8;injection k1 with k1;injection k1 with k1;subst k1;have a2:=fm a8;obtain⟨w,ea,ha,z⟩:=tK (Hx:=L9 (Kw h.slots) 0 f) m nd y S T hB a2 v (J1 _ _) (.refl _) (λ_ _ _ _ q=>mL q) (λj e' M d=>by
           cases W:f[j]? with
           |none=>rw[J0,W]at d;cases d
           |some Z=>
            have hl:=d;rw[J0,W,DE,M]at d;simp only[BB,AV]at d;subst d;cases Z with
            |dead=>exact .inl rfl
            |live b cs=>exact .inr ⟨_,M,hl,rfl,.inr (.inl ⟨_,_,_,_,rfl,rfl,DU.refl _⟩)⟩
            |buf b t l n bd=>exact .inr ⟨_,M,hl,rfl,.inr (.inr (.inl ⟨_,_,_,_,_,_,_,rfl,rfl⟩))⟩
            |mp b k t es=>exact .inr ⟨_,M,hl,rfl,.inr (.inr (.inr (.inr ⟨_,_,_,_,_,rfl,rfl⟩)))⟩
            |lp ro F n env ps a b s=>exact .inr ⟨_,M,hl,rfl,.inr (.inr (.inr (.inl ⟨_,_,_,_,_,_,_,_,_,rfl,rfl⟩)))⟩) i1 i2 i3 N
          have a3:rK A (Kw h.slots) env0 f ad ar:=⟨z.ok,z.step,by rw[z.len,J1],z.same,λp Q=>by
           obtain⟨V,J,b3⟩:=Pg nd p Q;have L:Mm p.1 A=false:=by
            unfold bu at J;cases O:Mm p.1 A with
            |false=>rfl
            |true=>rw[O]at J;cases J
           rw[z.get p.1 (Tc λO=>Rt L (hA _ (by unfold Hint.tmps;simp only[List.mem_append];exact .inl (.inr O))))];rw[eC nd p.1 (by rw[V];exact J)];exact V⟩
          obtain⟨x,D,G,l1,l2,l3,l4⟩:=i4 a3;refine⟨x,D,G,RE (a1.awp.mono ?_),l2,l3,l4⟩;rintro _ _ _ ⟨rfl,rfl,rfl⟩;exact⟨_,_,by rw[CO,y.len];exact w,l1⟩
         ·cases k1
        ·split at k1
         ·injection k1 with k1;cases k1
         ·cases k1
       |done o=>
        intro r g;refine⟨u,i,hi,I.1,I.2,λy=>?_⟩;obtain⟨e,env1,K,a1,k1,S,T⟩:=body y;unfold tf at k1;split at k1
        ·split at k1
         ·injection k1 with k1;cases k1
         ·cases k1
        ·rename_i hx;split at k1
         ·rename_i o1 a6;injection k1 with k1;injection k1 with k1;subst k1;obtain⟨D,G,w,q1,q2,q3⟩:=tW m nd y S T hB hA a6 g N;have a5:e≠ .normal:=by rintro rfl;cases hx
          refine⟨e,D,G,MC.after (RE (a1.awp.mono ?_)),q1,q2,q3⟩;intro e1 al bl a9;obtain⟨as,ax,a0⟩:=a9;subst as ax a0;have ap: ∃env2 H2,F6 N (A3 i).length (Bw env1) (A3 K) env2 H2/\Vb e1 (Bw D) (A3 G) e1 env2 H2:=⟨_,_,by rw[CO,y.len];exact w,rfl,rfl,rfl⟩
          cases e1 with
          |normal=>exact(a5 rfl).elim
          |_=>exact ap
         ·cases k1
      ·cases X
     ·cases X) ho
    obtain⟨u,i,i1,i2,i3,i4⟩:=hC r g;have a4:=ja a7;rw[a4]at i1;have a':PB (PL A (Kw h.slots) f env0) (L9 (Kw h.slots) 0 f):=⟨λp Q=>(iB m).env p (Pg nd p Q).2.2,v⟩
    have z:=Nl m hc i1 a' (by rw[J1];exact Aj _) (λp Q=>⟨p.2,(Pg nd p Q).2.2,Ub.refl _⟩) (λj e' M d=>by
     rw[J0]at d;cases W:f[j]? with
     |none=>rw[W]at d;cases d
     |some Z=>
      rw[W,DE,M]at d;simp only[BB,AV]at d;subst d;refine⟨Z,rfl,?_⟩;cases Z with
      |dead=>exact .inl rfl
      |live b cs=>exact .inr (.inl ⟨_,_,_,_,rfl,rfl,DU.refl _⟩)
      |buf b t l n bd=>exact .inr (.inr (.inl ⟨_,_,_,_,_,_,_,rfl,rfl⟩))
      |mp b k t es=>exact .inr (.inr (.inr (.inr ⟨_,_,_,_,_,rfl,rfl⟩)))
      |lp ro F n env ps a b s=>exact .inr (.inr (.inr (.inl ⟨_,_,_,_,_,_,_,_,_,rfl,rfl⟩)))) (yo f)
    have w:=z.weak (N:=N) (by rw[J1];exact Aj _) (by rw[J1];exact i2) (by rw[J1];exact i3);rw[J1]at w;have y:rK A (Kw h.slots) env0 f u i:=⟨z.ok,z.step,by rw[z.len,J1],z.same,λp Q=>by
     obtain⟨V,J,b3⟩:=Pg nd p Q;have L:Mm p.1 A=false:=by
      unfold bu at J;cases O:Mm p.1 A with
      |false=>rfl
      |true=>rw[O]at J;cases J
     rw[z.get p.1 (Tc λO=>Rt L (hA _ (by unfold Hint.tmps;simp only[List.mem_append];exact .inl (.inr O))))];rw[eC nd p.1 (by rw[V];exact J)];exact V⟩
    obtain⟨x,D,G,l1,l2,l3,l4⟩:=i4 y;have w3:F6 N H.length (Bw env) (A3 H) (Bw u) (A3 i):=((wv N).trans ((wf N).of_le (by rw[CO];exact sv.step.len))).trans (w.of_le (D4 sv.step.len sf.step.len));refine⟨x,D,G,nE.weak (by rw[CO];exact w3) l1,l2,l3,?_⟩;exact(E2.trans ok.env (E2.trans ok.env sv sf) l4).mono λt U=>by
     rcases Ar.1 U with U|U
     ·rw[DQ]at U;exact hA t (by unfold Hint.tmps;simp only[List.mem_append];exact .inl (.inl (.inr U)))
     ·exact U
   ·cases g
  ·cases g
def wE{c:Operand}{a b:Code}{A B:List Nat}{ra j:Sem}(l:PA P N A a ra)(m:PA P N B b j):PA P N (A++B) (.cond c a b) (tQ c ra j):=by
 intro R env H k r ok f;unfold tQ at f;dsimp only at f;split at f
 ·rename_i v n;have i:A8 (Bw env) c= .bool v:=by have:=KO env c;rw[n]at this;exact this
  cases v with
  |true=>obtain⟨e,d,g,a1,q1,q2,q3⟩:=l env H k r ok f;exact⟨e,d,g,D2 (λ_ e=>by cases e) (MA.cond i (λ_=>a1.awp) (λe=>by cases e)),q1,q2,q3.mono λt h=>Ar.2 (.inl h)⟩
  |false=>obtain⟨e,d,g,a1,q1,q2,q3⟩:=m env H k r ok f;exact⟨e,d,g,D2 (λ_ e=>by cases e) (MA.cond i (λe=>by cases e) (λ_=>a1.awp)),q1,q2,q3.mono λt h=>Ar.2 (.inr h)⟩
 ·cases f
def uT{j:Nat}{b:Code}{A:List Nat}{d:Sem}(hr:PA P N A b d):PA P N A (.block j b) (oQ j d):=by
 intro R env H k r ok h;unfold oQ at h;dsimp only at h;obtain⟨e,a,g,a1,q1,q2,q3⟩:=hr env H _ r ok h;cases e with
 |exit c=>
  simp only at q1;split at q1
  ·rename_i f;have:=Ba f;refine⟨.normal,a,g,D2 (λ_ e=>by cases e) (MA.block (a1.awp.mono ?_)),q1,q2,q3⟩;rintro _ _ _ ⟨rfl,rfl,rfl⟩;simp only[iv,if_pos this];exact⟨rfl,rfl,rfl⟩
  ·rename_i f;have i:c≠j:=λe=>by rw[e,Ds]at f;cases f
   refine⟨.exit c,a,g,D2 (λ_ e=>by cases e) (MA.block (a1.awp.mono ?_)),q1,q2,q3⟩;rintro _ _ _ ⟨rfl,rfl,rfl⟩;simp only[iv,if_neg i];exact⟨rfl,rfl,rfl⟩
 |_=>refine⟨_,a,g,D2 (λ_ e=>by cases e) (MA.block (a1.awp.mono ?_)),q1,q2,q3⟩;rintro _ _ _ ⟨rfl,rfl,rfl⟩;exact⟨rfl,rfl,rfl⟩
end Go.Ab
namespace Go.Ab
variable {P:Program} {N:Nat}
def PA.mono{A B:List Nat}{c:Code}{b:Sem}(h:PA P N A c b)(f: ∀t,t∈A->t∈B):PA P N B c b:=λenv H k r ok g=>by obtain⟨e,a,d,q1,q2,q3,q4⟩:=h env H k r ok g;exact⟨e,a,d,q1,q2,q3,q4.mono f⟩
def qR{hs:List Hint}{c:Code}{A B:List Nat}{a:Sem}(hr:PA P N B c a)(d: ∀t,t∈B->t∈A)(b: ∀t,t∈mA hs c->t∈A):PA P N A c (qQ (da hs c) A a):=by
 unfold mA at b;generalize da hs c=o at b⊢;cases o with
 |none=>exact hr.mono d
 |some h=>exact qP hr d b
def wl{hs:List Hint}{c:Code}{A B:List Nat}{a:Sem}(hr:PA P N B c a)(d: ∀t,t∈B->t∈A)(b: ∀t,t∈mA hs (.loop c)->t∈A):PA P N A (.loop c) (zn (da hs (.loop c)) A a):=by
 unfold mA at b;generalize da hs (.loop c)=o at b⊢;cases o with
 |none=>exact λenv H k r ok e=>by cases e
 |some h=>exact wk hr d b
def Td: ∀{env:BY} {p:Nat×TV},p∈bX env->p∈env/\KI p.2.refs=[]
 |(t,v)::r,p,h=>by
  simp only[bX]at h;split at h
  ·rename_i a;rcases Al.1 h with rfl|h
   ·exact⟨Gi,a⟩
   ·exact⟨Bq _ (Td h).1,(Td h).2⟩
  ·exact⟨Bq _ (Td h).1,(Td h).2⟩
def vB{y:RJ}(T:Ua P y){S:FuncId}{f:Operand}{C:Array Tmp}{a b:Code}{A:List Nat}:PA P N A (.rangeFunc f C a b) (sX P y N S f C a b):=by
 intro R env H k r ok w;unfold sX at w;dsimp only at w;split at w
 ·rename_i G first o hf
  split at w
  ·rename_i hE;have e1:A8 (Bw env) f= .fn (.func G) first o:=by rw[KO,hf];rfl
   have I:(Df.lp false S N (bX env) C a b .ready).ok (H++[.lp false S N (bX env) C a b .ready]):=λp U id ad t n hm=>by have:=gE hm;rw[(Td U).2]at this;cases this
   have W:B8 H (H++[.lp false S N (bX env) C a b .ready]):=B8.push H _;obtain⟨v,i,q1,q2,q3,q4,q5⟩:=T (.fn G) _ _ _ r (λv Z=>by
    simp only[Ar,BX,A5]at Z;rcases Z with(⟨u,_,rfl⟩|rfl)|⟨u,_,rfl⟩
    ·exact bn u
    ·exact JL trivial
    ·exact bn u) (Od ok.heap I) w
   have z: ∀{ro:Bool} {F n e p c d} {s:LS} {x:Exit},i[H.length]? =some (.lp ro F n e p c d s)→ro=false→(∀L:fB,L.state=s.st→L.pending=s.pend→xL P N (Bw env) H.length (Vb x (Bw env) (A3 (i.set H.length .dead))) ((A3 i).set H.length (.lp L)))→k x env (i.set H.length .dead)=some r→
     ∃X g Q,nE P N (.rangeFunc f C a b) (Bw env) (A3 H) (Vb X (Bw g) (A3 Q))/\k X g Q=some r/\PB g Q/\E2 A env H g Q:=by
    intro ro F n e p c d s x m V hq w;subst V;have O:B8 i (i.set H.length .dead):=B8.set m rfl λ_ _ _ _ _ h=>by cases h
    have st:=(W.trans q5).trans O;refine⟨x,env,_,D2 (λ_ e=>by cases e) (eZ (Bw (bX env)) (λp U=>?_) e1 hE ?_),w,⟨st.env ok.env,SZ O q4 trivial⟩,st,λ_ _ _=>rfl⟩
    ·obtain⟨u,hu,rfl⟩:=BX.1 U;exact BX.2 ⟨u,(Td hu).1,rfl⟩
    ·have M:Eo P G _ _ _:=q1;have B:(first.map vU++[TV.c (.raw (.yf H.length))]++o.map vU).map TV.enc=first++[.yf (A3 H).length]++o:=by
      have Y: ∀l:List AW,(l.map vU).map TV.enc=l:=by
       intro l;rw[HV];conv=>rhs;rw[<-Zx l]
       exact Fe λv _=>bm v
      rw[HU,HU,Y,Y,CO];rfl
     rw[B,Pj]at M;apply M.mono;rintro _ _ ⟨rfl,rfl⟩;rw[CO];have K:A3 i=(A3 i).set H.length (.lp ⟨n,Bw e,p,c,d,s.st,s.pend⟩):=by
      have hg:(A3 i)[H.length]? =some (.lp ⟨n,Bw e,p,c,d,s.st,s.pend⟩):=by rw[E7,m];rfl
      apply M6;intro j;by_cases J:j=H.length
      ·subst J;rw[EI (by rw[CO];exact Ez m),hg]
      ·rw[C1 λe=>J e.symm]
     rw[K];exact hq _ rfl rfl
   have look: ∀L:fB,H.length<i.length->((A3 i).set H.length (.lp L))[H.length]? =some (.lp L):=λL h=>by rw[EI (by rw[CO];exact h)]
   have q: ∀L:fB,((A3 i).set H.length (.lp L)).set H.length .dead=A3 (i.set H.length .dead):=λL=>by rw[Zz,ND];rfl
   split at q2
   ·rename_i m;refine z m rfl (λL D E=>⟨L,look L (Ez m),by rw[D];simp[LS.st],?_⟩) q2;rw[E,q];exact⟨rfl,rfl,rfl⟩
   ·rename_i m;refine z m rfl (λL D E=>⟨L,look L (Ez m),by rw[D];simp[LS.st],?_⟩) q2;rw[E,q];exact MA.ret ⟨rfl,rfl,rfl⟩
   ·rename_i x m;refine z m rfl (λL D E=>⟨L,look L (Ez m),by rw[D];simp[LS.st],?_⟩) q2;rw[E,q];exact MA.exit ⟨rfl,rfl,rfl⟩
   ·cases q2
  ·cases w
 ·cases w
def wD{a m:Code}{p:VF}{hs:List Hint}(h:gf a m=some p): ∀t∈p.tmps,t∈QM hs a++QM hs m:=by obtain⟨o,v,l,q,w,n,r,x,s,y,u,z,rfl,rfl,f,g,i,j,k,_⟩:=gg h;obtain⟨_,_,_,_,_,_,l1⟩:=kL f;obtain⟨_,_,_,_,_,_,l2⟩:=kM g;obtain⟨_,_,_,_,_,_,_,_,_,_,_,_,c⟩:=kN i;obtain⟨_,_,_,_,_,_,_,_,_,_,_,_,_,_,_,d⟩:=kO j;obtain⟨_,_,_,_,_,_,_,e⟩:=kP k;intro t b;simp only[QM,l1,l2,c,d,e,jG,ij,List.filterMap_nil,Ar,Al,Zy,or_false];simp only[VF.tmps,Al,Zy,or_false]at b;rcases b with h|h|h|h|h|h|h|h|h|h|h|h|h|h<;>simp[h]
def zP{u:List Sf}(B: ∀c∈u,c.Ok P){j:RJ}(z:Ua P j)(x:FuncId)(d:List Hint): ∀c:Code,PA P N (QM d c) c (gI P u j N x d c)/\ ∀m r,c= .seq m r->PA P N (QM d r) r (gI P u j N x d r):=by
 intro c;induction c with
 |skip=>exact⟨λenv H k r ok g=>⟨.normal,env,H,D2 (λ_ e=>by cases e) (MA.skip ⟨rfl,rfl,rfl⟩),g,ok,E2.refl _ _ _⟩,λ_ _ e=>by cases e⟩
 |ret=>exact⟨λenv H k r ok g=>⟨.ret,env,H,D2 (λ_ e=>by cases e) (MA.ret ⟨rfl,rfl,rfl⟩),g,ok,E2.refl _ _ _⟩,λ_ _ e=>by cases e⟩
 |exit I=>exact⟨λenv H k r ok g=>⟨.exit I,env,H,D2 (λ_ e=>by cases e) (MA.exit ⟨rfl,rfl,rfl⟩),g,ok,E2.refl _ _ _⟩,λ_ _ e=>by cases e⟩
 |seq a b D s=>
  refine⟨?_,λm r e=>by injection e with L M;subst L M;exact s.1⟩;have G:PA P N (QM d a++QM d b) (.seq a b) (λenv H k=>gI P u j N x d a env H λe n w=>match e with| .normal=>gI P u j N x d b n w k|e=>k e n w):=by
   intro R env H k r ok g;obtain⟨e,env1,O,a1,k1,v,S⟩:=D.1 env H _ r ok g;cases e with
   |normal=>obtain⟨M,env2,y,a2,X,F,s2⟩:=s.1 env1 O k r v k1;refine⟨M,env2,y,D2 (λ_ e=>by cases e) (MA.seq (a1.awp.mono ?_)),X,F,E2.trans ok.env S s2⟩;rintro _ _ _ ⟨rfl,rfl,rfl⟩;exact a2.awp
   |_=>refine⟨_,env1,O,D2 (λ_ e=>by cases e) (MA.seq (a1.awp.mono ?_)),k1,v,S.mono λt l=>Ar.2 (.inl l)⟩;rintro _ _ _ ⟨rfl,rfl,rfl⟩;exact⟨rfl,rfl,rfl⟩
  intro R env H k r ok g;by_cases hq: ∃m J,b= .seq m J
  ·obtain⟨m,J,rfl⟩:=hq;simp only[gI]at g;split at g
   ·rename_i p hp;obtain⟨env1,O,a1,k1,v,S⟩:=wC B hp ok g;obtain⟨M,env2,y,a2,X,F,s2⟩:=s.2 m J rfl env1 O k r v k1;refine⟨M,env2,y,D2 (λ_ e=>by cases e) (MA.seq (a1.mono ?_)),X,F,(E2.trans ok.env S s2).mono λt l=>?_⟩
    ·intro e E h hx;cases e with
     |normal=>exact MA.seq (hx.mono (by rintro _ _ _ ⟨rfl,rfl,rfl⟩;exact a2.awp))
     |_=>exact hx.elim
    ·show t∈(QM d a++((QM d m++QM d J)++mf d m J))++mf d a (.seq m J);rcases Ar.1 l with l|l
     ·rcases Ar.1 (wD (hs:=d) hp t l)with h|h<;>simp[h]
     ·simp[l]
   ·exact G.mono (λt l=>Ar.2 (.inl l)) env H k r ok g
  ·have g:gI P u j N x d (.seq a b) env H k=some r:=g;rw[zQ λm r e=>hq ⟨m,r,e⟩]at g;have U: ∀t,t∈mf d a b->t∈QM d (.seq a b):=λt l=>Ar.2 (.inr l);have hB: ∀t,t∈QM d a++QM d b->t∈QM d (.seq a b):=λt l=>Ar.2 (.inl l);unfold mf at U;generalize kz d a b=o at g U;cases o with
   |none=>exact G.mono hB env H k r ok g
   |some h=>exact qP G hB U env H k r ok g
 |cond c a b D s=>have T:PA P N (QM d a++QM d b) (.cond c a b) (tQ c (gI P u j N x d a) (gI P u j N x d b)):=wE D.1 s.1;refine⟨?_,λ_ _ e=>by cases e⟩;intro R;exact qR (hs:=d) (A:=QM d (.cond c a b)) T (λt l=>Ar.2 (.inl l)) (λt l=>Ar.2 (.inr l))
 |block I b W=>have T:PA P N (QM d b) (.block I b) (oQ I (gI P u j N x d b)):=uT W.1;refine⟨?_,λ_ _ e=>by cases e⟩;intro R;exact qR (hs:=d) (A:=QM d (.block I b)) T (λt l=>Ar.2 (.inl l)) (λt l=>Ar.2 (.inr l))
 |loop b W=>exact⟨wl (hs:=d) (A:=QM d (.loop b)) W.1 (λt l=>Ar.2 (.inl l)) (λt l=>Ar.2 (.inr l)),λ_ _ e=>by cases e⟩
 |region I q K=>
  refine⟨?_,λ_ _ e=>by cases e⟩;intro R env H k r ok g;cases K with
  |false=>
   simp only[gI]at g;split at g
   ·rename_i C;obtain⟨n,w,Y,Z,r3,r4⟩:=be (N:=N) B z _ _ _ _ _ _ ok g;refine⟨.normal,n,w,D2 (λ_ e=>by cases e) (FX C ?_),Z,r3,r4⟩;show T7 P N q q.toList (Bw env) (A3 H) (λL y=>Exit.normal=Exit.normal/\L=Bw n/\y=A3 w);simpa using Y
   ·cases g
  |true=>
   simp only[gI]at g;split at g
   ·rename_i C;simp only[BM]at C;obtain⟨n,w,Y,Z,r3,r4⟩:=V6 (N:=N) B z _ _ _ _ _ _ ok g;refine⟨.normal,n,w,D2 (λ_ e=>by cases e) (dL C.1.1.1 _ C.1.1.2 C.1.2 ?_ ?_),Z,r3,r4.mono λt l=>?_⟩
    ·have:=W7 C.2;rw[Bw,HV];exact this
    ·show RA P N q (sU q) [] (Bw env) (A3 H) (λL y=>Exit.normal=Exit.normal/\L=Bw n/\y=A3 w);simpa using Y
    ·unfold kY at l;obtain⟨i,_,Q⟩:=Nx.1 l;cases V:q[i]? with
     |none=>rw[V]at Q;cases Q
     |some o=>
      rw[V]at Q;refine Nx.2 ⟨o,?_,Q⟩;have:q.toList[i]? =some o:=by simpa using V
      exact BV this
   ·cases g
 |rangeFunc f ps a b _ _=>exact⟨vB z,λ_ _ e=>by cases e⟩
 |_=>exact⟨λenv H k r ok g=>(by simp only[gI]at g;cases g),λ_ _ e=>by cases e⟩
def jl{f:List Sf}(d: ∀c∈f,c.Ok P){a:RJ}(b:Ua P a)(g:FuncId)(e:List Hint)(c:Code):PA P N (QM e c) c (gI P f a N g e c):=(zP d b g e c).1
end Go.Ab
namespace Go.Ab
def Y9:Nat->List TV->BY
 |_,[]=>[]
 |i,v::r=>(i,v)::Y9 (i+1) r
def gH(P:Program)(env:BY)(H:An):List ResultVar->Option (List TV)
 |[]=>some []
 | .tmp t::r=>match gH P env H r with|some vs=>some (env.get t::vs)|none=>none
 | .cell a t::r=>match gH P env H r with|some vs=>loadT P H t (env.get a) λv=>some (v::vs)|none=>none
def qN:Exit->Bool
 | .normal=>true
 | .ret=>true
 |_=>false
def ABM(P:Program)(fn:Func){R:Type}(k:TV->An->Option R):Exit->BY->An->Option R:=λe env H=>
 match qN e with
 |true=>match gH P env H fn.results.toList with|some vs=>k (one vs) H|none=>none
 |false=>none
def qv:BY->List Tmp->List TV->BY
 |env,t::ts,v::vs=>qv (env.put t v) ts vs
 |env,_,_=>env
def xR(id:Nat){R:Type}(k:TV->An->Option R):Exit->BY->An->Option R:=λe _ H=>
 match H[id]? with
 |some (.lp false F n env ps a b _)=>
  match e with
  | .normal=>k (.c (.bl true)) (H.set id (.lp false F n env ps a b .ready))
  | .ret=>k (.c (.bl false)) (H.set id (.lp false F n env ps a b .ret))
  | .exit x=>k (.c (.bl false)) (H.set id (.lp false F n env ps a b (.exit x)))
  |_=>none
 |_=>none
noncomputable def si(P:Program)(cs:List Sf)(call:RJ)(hs:FuncId->List Hint)(id:Nat)(vs:List TV)(H:An){R:Type}(k:TV->An->Option R):Option R:=
 match H[id]? with
 |some (.lp false F n env ps a b .ready)=>
  match Nat.beq vs.length ps.size&&ps.toList.all λt=>Nat.blt t n with
  |true=>gI P cs call n F (hs F) a (qv env ps.toList vs) H λe env1 H1=>
   match e with
   | .normal=>
    match H1[id]? with
    |some (.lp false F1 n1 e1 ps1 a1 b1 .ready)=>gI P cs call n F (hs F) b env1 (H1.set id (.lp false F1 n1 e1 ps1 a1 b1 .busy)) (xR id k)
    |_=>none
   |_=>none
  |false=>none
 |_=>none
noncomputable def ga(P:Program)(cs:List Sf)(hs:FuncId->List Hint):Nat->RJ
 |0=>λ_ _ _ _=>none
 |n+1=>λtg vs H k=>
  match tg with
  | .fn F=>
   match P.funcs[F]? with
   |some fn=>
    match fn.body with
    |some c=>match Nat.ble vs.length fn.ntmps with|true=>gI P cs (ga P cs hs n) fn.ntmps F (hs F) c (Y9 0 vs) H (ABM P fn k)|false=>none
    |none=>none
   |none=>none
  | .yd id=>si P cs (ga P cs hs n) hs id vs H k
def mF(bt:Ty):(rs:List Ty)->DL rs->bt.D->DL (rs++[bt])
 |[],_,b=>b
 |[_],y,b=>(y,b)
 |_::u::r,y,b=>(y.1,mF bt (u::r) y.2 b)
def gG(vs:List TV):List Nat:=vs.flatMap λv=>KI v.refs
def ABJ(P:Program)(fn:Func)(rs:List Ty):Exit->BY->An->Option (DL rs):=λe env H=>
 match qN e with
 |true=>
  match gH P env H fn.results.toList with
  |some vs0=>match HQ (gG vs0) env H with|(ef,hf)=>match gH P ef hf fn.results.toList with|some vs=>uo rs vs|none=>none
  |none=>none
 |false=>none
def ABK(P:Program)(fn:Func)(bt:Ty)(rs:List Ty):Exit->BY->An->Option (DL (rs++[bt])):=λe env H=>
 match qN e with
 |true=>
  match gH P env H fn.results.toList with
  |some vs0=>
   match HQ (gG vs0++(match (H[0]? :Option Df)with|some (.live _ cs)=>KI cs|_=>[])) env H with
   |(ef,hf)=>
    match gH P ef hf fn.results.toList,(hf[0]? :Option Df)with
    |some vs,some (.live _ cs)=>match uo rs vs,bt.all cs with|some y,some b=>some (mF bt rs y b)|_,_=>none
    |_,_=>none
  |none=>none
 |false=>none
def mD:Nat->TV->List TV->List TV
 |0,v,l=>v::l
 |n+1,v,x::l=>x::mD n v l
 |_+1,v,[]=>[v]
noncomputable def tL(P:Program)(cs:List Sf)(hs:FuncId->List Hint)(n:Nat)(F:FuncId)(ds rs:List Ty)(x:DL ds):Option (DL rs):=
 match P.funcs[F]? with
 |some fn=>
  match fn.body with
  |some c=>match Nat.ble (pP ds x).length fn.ntmps with|true=>gI P cs (ga P cs hs n) fn.ntmps F (hs F) c (Y9 0 (pP ds x)) [] (ABJ P fn rs)|false=>none
  |none=>none
 |none=>none
noncomputable def vu(P:Program)(cs:List Sf)(hs:FuncId->List Hint)(n:Nat)(F:FuncId)(pos:Nat)(bt:Ty)(ds rs:List Ty)(b:bt.D)(x:DL ds):Option (DL (rs++[bt])):=
 match P.funcs[F]? with
 |some fn=>
  match fn.body with
  |some c=>
   match Nat.ble (mD pos (.c (.raw (.ptr 0 0 0))) (pP ds x)).length fn.ntmps with
   |true=>gI P cs (ga P cs hs n) fn.ntmps F (hs F) c (Y9 0 (mD pos (.c (.raw (.ptr 0 0 0))) (pP ds x))) [.live false (bt.lvs b)] (ABK P fn bt rs)
   |false=>none
  |none=>none
 |none=>none
def ZA: ∀(l:List TV) (i:Nat),Bw (Y9 i l)=env0 i (l.map TV.enc)
 |[],_=>rfl
 |v::r,i=>by have:=ZA r (i+1);simp only[Bw]at this;simp only[Y9,Bw,BE,env0,this]
def dI{H:An}: ∀{l:List TV} {i:Nat},(∀v∈l,v.ok H)-> ∀p∈Y9 i l,p.2.ok H
 |[],_,_,p,a=>by cases a
 |v::r,i,h,p,a=>by
  simp only[Y9]at a;rcases Al.1 a with rfl|a
  ·exact h v (by simp)
  ·exact dI (λw b=>h w (by simp[b])) p a
def eO{P:Program}{env:BY}{H:An}(d: ∀p∈env,p.2.ok H)(g: ∀e∈H,e.ok H): ∀{l:List ResultVar} {c:List TV},gH P env H l=some c->Qw P (Bw env) (A3 H) l=some (c.map TV.enc)/\ ∀v∈c,v.ok H
 |[],c,h=>by simp only[gH,AV]at h;subst h;exact⟨rfl,λv b=>by cases b⟩
 | .tmp t::r,c,h=>by
  simp only[gH]at h;split at h
  ·rename_i m i;injection h with h;subst h;obtain⟨q1,q2⟩:=eO d g i;refine⟨by simp only[Qw,di,q1,BE,SB],λv b=>?_⟩;rcases Al.1 b with rfl|b
   ·exact jU d t
   ·exact q2 v b
  ·cases h
 | .cell a t::r,c,h=>by
  simp only[gH]at h;split at h
  ·rename_i m i;obtain⟨q1,q2⟩:=eO d g i;obtain⟨u,j,f,k⟩:=kI g (jU d a) h;injection f with f;subst f;refine⟨by simp only[Qw,di,q1,BE,SB,j],λv b=>?_⟩;rcases Al.1 b with rfl|b
   ·exact k
   ·exact q2 v b
  ·cases h
def mZ{P:Program}{b:Func}{env:BY}{H:An}{a:List TV}(d: ∀p∈env,p.2.ok H)(c: ∀e∈H,e.ok H)(h:gH P env H b.results.toList=some a):bw P b (Bw env) (A3 H)=some (jf (a.map TV.enc)):=by
 unfold bw;rw[(eO d c h).1];cases a with
 |nil=>rfl
 |cons v r=>
  cases r with
  |nil=>rfl
  |cons u r=>rfl
def oG: ∀(a:List Tmp) (b:List TV) (env:BY),Oi (Bw env) a (b.map TV.enc)=Bw (qv env a b)
 |[],_,_=>rfl
 |_::_,[],_=>rfl
 |t::a,v::b,env=>by simp only[BE,Oi,qv];rw[<-gh];exact oG a b (env.put t v)
def qw{H:An}: ∀(b:List Tmp) (a:List TV) (env:BY),(∀p∈env,p.2.ok H)->(∀v∈a,v.ok H)-> ∀p∈qv env b a,p.2.ok H
 |[],_,_,h,_=>h
 |_::_,[],_,h,_=>h
 |t::b,v::a,env,h,hv=>qw b a (env.put t v) (bc (d:=some t) h (hv v (by simp))) λu c=>hv u (by simp[c])
def zo{H d:An}{ro c:Bool}{F n env ps a b}{s e:LS}(h:(Df.lp ro F n env ps a b s).ok H):(Df.lp c F n env ps a b e).ok d:=h
def uA{H:An}{c:Nat}{F n env ps a b}{s s':LS}(h:H[c]? =some (.lp false F n env ps a b s)):B8 H (H.set c (.lp false F n env ps a b s')):=B8.set h rfl (λ_ _ _ _ _ h=>by cases h) λ_ _ _ _ _ _ _ _ e=>by injection e with _ q2 q3 q4 q5 q6 q7 _;subst q2 q3 q4 q5 q6 q7;exact⟨_,_,rfl⟩
def sG{H:An}{c:Nat}{ro:Bool}{F n env ps a b}{s:LS}(h:H[c]? =some (.lp ro F n env ps a b s)):(A3 H)[c]? =some (.lp ⟨n,Bw env,ps,a,b,s.st,s.pend⟩):=by rw[E7,h];rfl
def vG{P:Program}{cs:List Sf}(M: ∀c∈cs,c.Ok P){hs:FuncId→List Hint}{l:RJ}(K:Ua P l){R:Type}{j:Nat}{T:List TV}{H:An}{k:TV→An→Option R}{r:R}(hv: ∀v∈T,v.ok H)(hH: ∀e∈H,e.ok H)
  (h:si P cs l hs j T H k=some r): ∃v d,tH P (T.map TV.enc) (A3 H) v.enc (A3 d) (.yd j)/\k v d=some r/\v.ok d/\(∀e∈d,e.ok d)/\B8 H d:=by
 unfold si at h;split at h
 ·rename_i F n env ps a b he;split at h
  ·rename_i hb;simp only[BM]at hb;have O: ∀p∈env,p.2.ok H:=λp hp x hx=>by
    have:=(hH _ (BV he)) p hp;cases x with
    |own i v t m=>exact(this i v t m hx).elim
    |_=>trivial
   obtain⟨e,env1,U,a1,k1,z,s1⟩:=jl (N:=n) M K F (hs F) a _ H _ r ⟨qw ps.toList T env O hv,hH⟩ h;split at k1
   ·split at k1
    ·rename_i F1 n1 Z A V W u;have C:B8 U _:=uA (s':=.busy) u;obtain⟨x,env2,E,a2,q,Q,s2⟩:=jl (N:=n) M K F (hs F) b _ _ _ r ⟨C.env z.env,SZ C z.heap (zo (z.heap _ (BV u)))⟩ k1;unfold xR at q;split at q
     ·rename_i F2 n2 e2 B X Y s0 w
      have s: ∀(v:Bool) (D:LS),k (.c (.bl v)) (E.set j (.lp false F2 n2 e2 B X Y D))=some r→(∀L:fB,(A3 E)[j]? =some (.lp L)→L=⟨n2,Bw e2,B,X,Y,s0.st,s0.pend⟩→xS j (DO (.bool v) (A3 (E.set j (.lp false F2 n2 e2 B X Y D)))) x (Bw env2) (A3 E))→
        ∃v d,tH P (T.map TV.enc) (A3 H) v.enc (A3 d) (.yd j)/\k v d=some r/\v.ok d/\(∀e∈d,e.ok d)/\B8 H d:=by
       intro v D hk hq;have S:B8 E _:=uA (s':=D) w;refine⟨.c (.bl v),_,?_,hk,JL trivial,SZ S Q.heap (zo (Q.heap _ (BV w))),((s1.step.trans C).trans s2.step).trans S⟩;intro N o c f env0 ho J hf g;apply Ii.yield ho J hf (sG he)
       ·have:=congrArg List.length g;simp only[Cm,DF]at this;rw[this];exact Ba hb.1
       ·refine DG.2 λt ht=>?_;exact eD (DG.1 hb.2 t ht)
       ·show MA P n a (Oi (Bw env) ps.toList (c.args.toList.map (A8 env0))) (A3 H) _;rw[g,oG];apply a1.awp.mono;rintro _ _ _ ⟨rfl,rfl,rfl⟩;refine⟨rfl,_,sG u,rfl,?_⟩;have e3:(A3 U).set j (.lp ⟨n1,Bw Z,A,V,W,.busy,LS.pend .ready⟩)=A3 (U.set j (.lp false F1 n1 Z A V W .busy)):=by rw[ND];rfl
        show MA P n b (Bw env1) ((A3 U).set j (.lp ⟨n1,Bw Z,A,V,W,.busy,LS.pend .ready⟩)) _;rw[e3];apply a2.awp.mono;rintro _ _ _ ⟨rfl,rfl,rfl⟩;exact hq _ (sG w) rfl
      split at q
      ·refine s true .ready q λL I G=>⟨L,I,rfl,?_⟩
       subst G;rw[ND];rfl
      ·refine s false .ret q λL I G=>⟨L,I,rfl,?_⟩
       subst G;rw[ND];rfl
      ·rename_i y;refine s false (.exit y) q λL I G=>⟨L,I,rfl,?_⟩
       subst G;rw[ND];rfl
      ·cases q
     ·cases q
    ·cases k1
   ·cases k1
  ·cases h
 ·cases h
def dE{P:Program}{j:List Sf}(b: ∀c∈j,c.Ok P){m:FuncId->List Hint}: ∀n,Ua P (ga P j m n)
 |0=>by intro F u H k r _ _ h;simp only[ga]at h;cases h
 |n+1=>by
  intro A u H k r p l h;cases A with
  |yd B=>simp only[ga]at h;exact vG b (dE b n) p l h
  |fn F=>
  simp only[ga]at h;split at h
  ·rename_i fn z;split at h
   ·rename_i c x;split at h
    ·rename_i hn;obtain⟨e,d,f,a1,k1,a,q⟩:=jl (N:=fn.ntmps) b (dE b n) F (m F) c (Y9 0 u) H _ r ⟨dI p,l⟩ h;unfold ABM at k1;split at k1
     ·rename_i y;split at k1
      ·rename_i s o;refine⟨one s,f,JN z x (by rw[Cm];exact JF hn) ?_,k1,pB (eO a.env a.heap o).2,a.heap,q.step⟩;rw[<-ZA];apply a1.awp.mono;rintro _ _ _ ⟨rfl,rfl,rfl⟩;have g: ∃v t i,bw P fn (Bw d) (A3 f)=some v/\Nt (A3 H).length v (A3 f) t i/\DO (one s).enc (A3 f) t i:=⟨_,_,_,mZ a.env a.heap o,Nt.refl _ _ (by rw[CO,CO];exact q.step.len),by rw[ku],rfl⟩
       rename_i w;cases w<;>first|exact g|cases y
      ·cases k1
     ·cases k1
    ·cases h
   ·cases h
  ·cases h
def DU.tup{b a:List AW}(h:DU b a):Ub (.tup b) (.tup a):=by
 intro x c r;cases r with
 |tup g hr=>refine .tup (by rw[g,h.1]) λj i d f e=>?_;obtain⟨v,q1,q2⟩:=h.2 j i f;exact q2 _ _ (hr j v d q1 e)
def UE{a b:List AW}(h:DU a b):Ub (jf a) (jf b):=by
 match a,b,h with
 |[],[],h=>exact Ub.refl _
 |[v],[w],h=>obtain⟨u,q1,q2⟩:=h.2 0 w rfl;simp only[M7,AV]at q1;subst q1;exact q2
 |v::u::r,w::x::s,h=>exact DU.tup h
 |[],_::_,h=>exact absurd h.1 (by simp)
 |_::_,[],h=>exact absurd h.1 (by simp)
 |[_],_::_::_,h=>exact absurd h.1 (by simp)
 |_::_::_,[_],h=>exact absurd h.1 (by simp)
def OR: ∀(a:List Ty) (x:DL a),∀v∈fh a x,Pure v
 |[],_,v,h=>by cases h
 |[t],x,v,h=>by simp only[fh,A5]at h;subst h;exact t.enc_pure x
 |t::u::r,x,v,h=>by
  simp only[fh]at h;rcases Al.1 h with rfl|h
  ·exact t.enc_pure x.1
  ·exact OR (u::r) x.2 v h
def U9{l:List AW}(h: ∀v∈l,Pure v):Pure (jf l):=by
 match l,h with
 |[],_=>rfl
 |[v],h=>exact h v (by simp)
 |v::u::r,h=>exact(De _ _).2 h
def mb{a H2:An}(k:H2.length<=a.length)(hr:HR a H2 [])(i:eY H2.length H2=true){v d:AW}(m:Ub v d)(l:Pure d):Nt H2.length v (A3 a) d (A3 H2):=by
 refine⟨by rw[CO];exact Aj _,λX h w c s r=>?_⟩;have q:=(HR.rel k hr (cx X h (A3 a) w)).onto;have o:=s.rel q;have n:Bh (cx X h (A3 H2++(A3 a).drop H2.length) w) d c:=(m _ c r).later q.later;have e:(A3 H2++(A3 a).drop H2.length).take H2.length=A3 H2:=by rw[<-CO H2,J5];rfl
 have b:H2.length<=(A3 H2++(A3 a).drop H2.length).length:=by simp[A3]
 have g:=o.trunc b (by rw[e];exact eG i);have f:=n.trunc b (dh l _);rw[e]at g f;exact⟨h,g,f,λ_ _=>⟨rfl,rfl,rfl⟩,λB j=>q.own B (bY (n0:=H2.length) (by rw[e];exact j))⟩
def ju{n:Nat}: ∀{a b:List Bd},Xe n a=true->Xe n b=true->Xe n (a++b)=true
 |[],_,_,hb=>hb
 |x::r,b,ha,hb=>by obtain⟨c,e⟩:=nP ha;have d:=ju e hb;cases x<;>simp only[Dg,Xe,BM,Of]at c⊢ <;>first|exact d|exact⟨c,d⟩
mutual
theorem Ty.lvs_clo{n:Nat}: ∀(t:Ty) (x:t.D),Xe n (t.lvs x)=true
 | .bool,_=>rfl
 | .int _,_=>rfl
 | .str,_=>rfl
 | .list _,_=>rfl
 | .arr _ _,_=>rfl
 | .prod ts,x=>ts.lvs_clo x
theorem QL.lvs_clo{n:Nat}: ∀(a:QL) (x:a.D),Xe n (a.lvs x)=true
 | .one t,x=>t.lvs_clo x
 | .cons t a,x=>ju (t.lvs_clo x.1) (a.lvs_clo x.2)
end
def jg{l:List AW}(h: ∀v∈l,Pure v)(a:Nat->Nat):AW.renL a l=l:=by
 rw[Nm];conv=>rhs;rw[<-Zx l]
 exact Fe λv b=>(h v b).ren a
def mC{ρ:Nat->Nat}: ∀{n:Nat} {v:AW} {l:List AW},(∀v∈l,Pure v)->AW.renL ρ (TB n v l)=TB n (v.ren ρ) l
 |0,v,l,h=>by simp only[TB,AW.renL,jg h]
 |n+1,v,[],h=>rfl
 |n+1,v,x::l,h=>by have b:=mC (ρ:=ρ) (n:=n) (v:=v) (l:=l) λu a=>h u (Bq _ a);simp only[TB,AW.renL,(h x Gi).ren,b]
def na: ∀{n:Nat} {v u:AW} {l:List AW},u∈TB n v l->u=v\/u∈l
 |0,v,u,l,h=>by simpa[TB]using h
 |n+1,v,u,[],h=>by simpa[TB]using h
 |n+1,v,u,x::l,h=>by
  simp only[TB]at h;rcases Al.1 h with rfl|h
  ·exact .inr (by simp)
  ·rcases na h with h|h
   ·exact .inl h
   ·exact .inr (by simp[h])
def qL: ∀{n:Nat} {v:TV} {l:List TV},(mD n v l).map TV.enc=TB n v.enc (l.map TV.enc)
 |0,_,_=>rfl
 |n+1,_,[]=>rfl
 |n+1,v,x::l=>by simp only[mD,BE,TB,qL]
def qM: ∀{n:Nat} {v u:TV} {l:List TV},u∈mD n v l->u=v\/u∈l
 |0,v,u,l,h=>by simpa[mD]using h
 |n+1,v,u,[],h=>by simpa[mD]using h
 |n+1,v,u,x::l,h=>by
  simp only[mD]at h;rcases Al.1 h with rfl|h
  ·exact .inr (by simp)
  ·rcases qM h with h|h
   ·exact .inl h
   ·exact .inr (by simp[h])
def jt{t:Ty}{x:t.D}: ∀v∈(t.enc x).cells,Pure v:=by
 intro v a;have h:=t.enc_pure x;cases b:t.enc x with
 |agg c=>rw[b]at a h;exact((De _ _).1 h) v a
 |_=>rw[b]at a h;simp only[AW.cells,A5]at a;rw[a];exact h
def bh(a:Ty): ∀(c:List Ty) (y:DL c) (b:a.D),LJ a c (mF a c y b)=(y,b)
 |[],_,_=>rfl
 |[_],_,_=>rfl
 |_::u::r,y,b=>by simp only[mF,LJ,bh a (u::r) y.2 b]
variable {P:Program} {cs:List Sf} {hs:FuncId->List Hint} {n:Nat} {F:FuncId} {ds rs:List Ty}
def AAV{f:Func}{e:Exit}{env:BY}{H:An}{g:Nat}{j:List TV}{i:AW}{c:Aq}(k:qN e=true)(ok:PB env H)(hr:gH P env H f.results.toList=some j)(h:Nt g (jf (j.map TV.enc)) (A3 H) i c):
  ABj P f g (DO i c) e (Bw env) (A3 H):=by
 have d: ∃v b a,bw P f (Bw env) (A3 H)=some v/\Nt g v (A3 H) b a/\DO i c b a:=⟨_,_,_,mZ ok.env ok.heap hr,h,rfl,rfl⟩
 cases e<;>first|exact d|cases k
def tR{g:DL ds->Option (DL rs)}(i: ∀c∈cs,c.Ok P)(w: ∀x,g x=tL P cs hs n F ds rs x):(Sf.c0 F ds rs g).Ok P:=by
 intro x y a H;rw[w]at a;have key:Eo P F (fh ds x) [] (DO (jf (fh rs y)) []):=by
  unfold tL at a;split at a
  ·rename_i s u;split at a
   ·rename_i c t;split at a
    ·rename_i hn;obtain⟨e,f,r,a1,k1,o,D⟩:=jl (N:=s.ntmps) i (dE i n) F (hs F) c (Y9 0 (pP ds x)) [] _ y ⟨dI (gL ds x),λe l=>by cases l⟩ a;unfold ABJ at k1;split at k1
     ·rename_i l;split at k1
      ·rename_i k z;obtain⟨d,q,p⟩:=Pl (gG k) o;generalize HQ (gG k) f r=fz at k1 d q p;obtain⟨B,C⟩:=fz;simp only at k1 d q p;split at k1
       ·rename_i E m;apply JN u t (by rw[<-XA,Cm];exact JF hn);rw[<-XA,<-ZA];refine MA.after (a1.awp.mono ?_);rintro _ _ _ ⟨rfl,rfl,rfl⟩;refine⟨_,_,(p _).of_le (Cc _),AAV l d m ?_⟩;exact mb (H2:=[]) (Cc _) (λj A _ h=>by cases h) rfl (UE (V3 k1)) (U9 (OR rs y))
       ·cases k1
      ·cases k1
     ·cases k1
    ·cases a
   ·cases a
  ·cases a
 exact Eo.frame (H:=H) [] key PG rfl rfl (λj b e h=>by cases h) (λe h=>by cases h) (λe h=>by cases h) (U9 (OR rs y)) (jg (OR ds x) _) ((De _ _).2 λv m=>(OR ds x v m).all _)
def yR{pos:Nat}{a:Ty}{g:a.D->DL ds->Option (DL (rs++[a]))}(o: ∀c∈cs,c.Ok P)(V: ∀b x,g b x=vu P cs hs n F pos a ds rs b x):(Sf.c1 F pos a ds rs g).Ok P:=by
 intro b x y f H w u;rw[V]at f;have key: ∃r i,y=mF a rs r i/\Eo P F (TB pos (.ptr 0 0 0) (fh ds x)) [.live 0 (a.enc b).cells] (DO (jf (fh rs r)) [.live 0 (a.enc i).cells]):=by
  unfold vu at f;split at f
  ·rename_i Q U;split at f
   ·rename_i c T;split at f
    ·rename_i hn;have z:PB (Y9 0 (mD pos (.c (.raw (.ptr 0 0 0))) (pP ds x))) [.live false (a.lvs b)]:=by
      refine⟨dI λv d=>?_,λe t=>?_⟩
      ·rcases qM d with rfl|d
       ·exact JL trivial
       ·exact gL ds x v d
      ·rw[A5.1 t];exact a.lvs_ok b
     obtain⟨e,m,J,a1,k1,A,I⟩:=jl (N:=Q.ntmps) o (dE o n) F (hs F) c _ _ _ y z f;unfold ABK at k1;split at k1
     ·rename_i t;split at k1
      ·rename_i C X;generalize G:(gG C++_)=ids at k1;obtain⟨k,B,E⟩:=Pl ids A;generalize HQ ids m J=fz at k1 k B E;obtain⟨ef,W⟩:=fz;simp only at k1 k B E;split at k1
       ·rename_i vs Z K d R;split at k1
        ·rename_i r i hr s;injection k1 with k1;refine⟨r,i,k1.symm,?_⟩;have L:A3 [.live false (a.lvs b)]=[.live 0 (a.enc b).cells]:=by simp only[A3,BE,G3,Df.enc,a.lvs_enc]
         have M:A3 [.live false (a.lvs i)]=[.live 0 (a.enc i).cells]:=by simp only[A3,BE,G3,Df.enc,a.lvs_enc]
         have O:TB pos (.ptr 0 0 0) (fh ds x)=(mD pos (.c (.raw (.ptr 0 0 0))) (pP ds x)).map TV.enc:=by rw[qL,XA];rfl
         rw[<-L,<-M,O];apply JN U T (by rw[Cm];exact JF hn);rw[<-ZA];refine MA.after (a1.awp.mono ?_);rintro _ _ _ ⟨rfl,rfl,rfl⟩;have p:1<=W.length:=D4 I.step.len B.step.len;refine⟨_,_,(E _).of_le (by rw[CO,CO];exact I.step.len),AAV t k d ?_⟩;rw[CO];refine mb (H2:=[.live false (a.lvs i)]) p (λj e' _ h=>?_) (by simp only[eY,a.lvs_clo,Pe]) (UE (V3 hr)) (U9 (OR rs r));match j,h with
         |0,h=>simp only[M7,AV]at h;subst h;refine⟨_,R,.inr (.inl ⟨_,_,_,_,rfl,rfl,?_⟩)⟩;rw[a.lvs_enc];exact FZ s
         |j+1,h=>simp at h
        ·cases k1
       ·cases k1
      ·cases k1
     ·cases k1
    ·cases f
   ·cases f
  ·cases f
 obtain⟨r,i,rfl,key⟩:=key;rw[bh];have S:AW.renL (λj=>[w].getD j 0) (TB pos (.ptr 0 0 0) (fh ds x))=TB pos (.ptr w 0 0) (fh ds x):=by rw[mC (OR ds x)];rfl
 exact Eo.frame (H:=H) [w] key (FF.2 ⟨by simp,PG⟩) rfl rfl (λj Y e l q=>by
   match j,l,q with
   |0,l,q=>simp only[M7,AV]at l q;subst l q;exact u
   |j+1,l,_=>simp at l) (λe h=>by
   rw[A5.1 h];exact(De _ _).2 λv d=>jt v d) (λe h=>by
   rw[A5.1 h];exact(De _ _).2 λv d=>jt v d) (U9 (OR rs r)) S ((De _ _).2 λv d=>by
   rcases na d with rfl|d
   ·rfl
   ·exact(OR ds x v d).all _)
end Go.Ab
namespace Go.Ab
def YD:List (Nat×List Hint)->FuncId->List Hint
 |[],_=>[]
 |(k,h)::r,F=>match Nat.beq k F with|true=>h|false=>YD r F
def CW{P:Program}: ∀c∈([]:List Sf),c.Ok P:=λ_ h=>by cases h
def A9{P:Program}{c:Sf}{b:List Sf}(h:c.Ok P)(e: ∀c∈b,c.Ok P): ∀d∈c::b,d.Ok P:=λd a=>by
 rcases Al.1 a with rfl|a
 ·exact h
 ·exact e d a
def wi(a:Int):Int:=IntKind.wrap .i64 a
abbrev len{α:Type}(l:List α):Int:=(l.length:Int)
def dK{A B:Type}(f:(A->Option B)->A->Option B):Nat->A->Option B
 |0,_=>none
 |n+1,x=>f (dK f n) x
noncomputable def oh{A B:Type}(f:(A->Option B)->A->Option B)(x:A):Option B:=open Classical in if h: ∃r n,dK f n x=some r then some h.choose else none
def ZB{A B:Type}{f:(A->Option B)->A->Option B}{x:A}{r:B}(h:oh f x=some r): ∃n,dK f n x=some r:=by
 unfold oh at h;split at h
 ·rename_i a;injection h with h;obtain⟨n,hn⟩:=a.choose_spec;exact⟨n,by rw[hn,h]⟩
 ·cases h
def ah{A B:Type}{f:(A->Option B)->A->Option B}{x:A}{r:B}{n:Nat}(h:dK f n x=some r): ∃s,oh f x=some s:=by unfold oh;rw[dif_pos ⟨r,n,h⟩];exact⟨_,rfl⟩
def yT{P:Program}{a:List Sf}{hs:FuncId→List Hint}{n:Nat}{F:FuncId}{ds rs:List Ty}{f:(DL ds→Option (DL rs))→DL ds→Option (DL rs)}(b: ∀c∈a,c.Ok P)
  (e: ∀g x,f g x=tL P (.c0 F ds rs g::a) hs n F ds rs x):(Sf.c0 F ds rs (oh f)).Ok P:=by
 have key: ∀m,(Sf.c0 F ds rs (dK f m)).Ok P:=by
  intro m;induction m with
  |zero=>intro x y d;cases d
  |succ m i=>exact tR (cs:=.c0 F ds rs (dK f m)::a) (A9 i b) λx=>e (dK f m) x
 intro x y d;obtain⟨m,h⟩:=ZB d;exact key m x y h
def ABL(P:Program)(fn:Func)(te:Ty)(rs:List Ty):Exit->BY->An->Option (DL (rs++[.list te])):=λe env H=>
 match qN e with
 |true=>
  match gH P env H fn.results.toList with
  |some vs0=>
   match HQ ((gG vs0).filter λi=>!Nat.beq i 0) env H with
   |(ef,hf)=>
    match gH P ef hf fn.results.toList,(hf[0]? :Option Df)with
    |some vs,some (.buf _ t l _ _)=>if h:(Ty.list t).beq (Ty.list te)=true then(match uo rs vs with|some y=>some (mF (.list te) rs y (Ty.cast h l))|none=>none)else none
    |_,_=>none
  |none=>none
 |false=>none
def fnC:AW->Bool
 | .fn (.func _) [] []=>true
 |_=>false
def pe(te:Ty)(ds:List Ty)(post:List AW)(l:List te.D)(x:DL ds):List TV:=.c (.own 0 0 te l.length)::(pP ds x++post.map λv=>.c (.raw v))
noncomputable def vv(P:Program)(cs:List Sf)(hs:FuncId->List Hint)(n:Nat)(F:FuncId)(te:Ty)(ds rs:List Ty)(post:List AW)(l:List te.D)(x:DL ds):Option (DL (rs++[.list te])):=
 match P.funcs[F]? with
 |some fn=>
  match fn.body with
  |some c=>
   match Nat.ble (pe te ds post l x).length fn.ntmps&&post.all fnC with
   |true=>gI P cs (ga P cs hs n) fn.ntmps F (hs F) c (Y9 0 (pe te ds post l x)) [.buf false te l l.length 0] (ABL P fn te rs)
   |false=>none
  |none=>none
 |none=>none
def AAX{v:AW}(h:fnC v=true): ∃F,v= .fn (.func F) [] []:=by
 unfold fnC at h;split at h
 ·exact⟨_,rfl⟩
 ·cases h
def wS{v:AW}(h:fnC v=true):Pure v:=by obtain⟨F,rfl⟩:=AAX h;rfl
variable {P:Program} {cs:List Sf} {hs:FuncId->List Hint} {n:Nat} {F:FuncId} {ds rs:List Ty} {te:Ty} {post:List AW}
def uS(l:List te.D)(x:DL ds):(pe te ds post l x).map TV.enc= .sl 0 l.length te.sz 0 l.length::(fh ds x++post):=by
 have e:(post.map λv=>TV.c (.raw v)).map TV.enc=post:=by
  rw[HV];conv=>rhs;rw[<-Zx post]
  exact Fe λv _=>rfl
 simp only[pe,BE,HU,XA,e];rfl
def Mq{g:List te.D->DL ds->Option (DL (rs++[.list te]))}(w: ∀c∈cs,c.Ok P)(hg: ∀l x,g l x=vv P cs hs n F te ds rs post l x):(Sf.c2 F te ds rs post g).Ok P:=by
 intro l x y k d H K z;rw[hg]at k;have key: ∃r m,y=mF (.list te) rs r m/\(∀v∈post,Pure v)/\Eo P F (.sl 0 l.length te.sz 0 l.length::(fh ds x++post)) [.live l.length (te.E.cl l)] (DO (jf (fh rs r)) [.live m.length (te.E.cl m)]):=by
  unfold vv at k;split at k
  ·rename_i fn hf;split at k
   ·rename_i c hb;split at k
    ·rename_i hn;simp only[BM]at hn;have b: ∀v∈post,Pure v:=λv a=>wS (DG.1 hn.2 v a);have A:([Df.buf false te l l.length 0]:An)[0]? =some (.buf false te l l.length 0):=rfl;have M:PB (Y9 0 (pe te ds post l x)) [.buf false te l l.length 0]:=by
      refine⟨dI λv a=>?_,λe G=>?_⟩
      ·rcases Al.1 a with rfl|a
       ·exact JL (VC A)
       ·rcases Ar.1 a with a|a
        ·exact gL ds x v a
        ·obtain⟨u,_,rfl⟩:=BX.1 a;exact JL trivial
      ·rw[A5.1 G];exact rfl
     obtain⟨e,t,X,a1,k1,O,V⟩:=jl (N:=fn.ntmps) w (dE w n) F (hs F) c _ _ _ y M k;unfold ABL at k1;split at k1
     ·rename_i G;split at k1
      ·rename_i R ad;generalize U:((gG R).filter _)=ids at k1;obtain⟨o,Q,S⟩:=Pl ids O;generalize HQ ids t X=fz at k1 o Q S;obtain⟨ef,hh⟩:=fz;simp only at k1 o Q S;split at k1
       ·rename_i vs Y s l1 L W a T;split at k1
        ·rename_i B;split at k1
         ·rename_i r hr;injection k1 with k1;have i:=Ty.beq_eq _ _ B;injection i with i;subst i;have p:(Ty.cast B l1:List s.D)=l1:=rfl;rw[p]at k1;have J:L=l1.length:=o.heap _ (BV T);refine⟨r,l1,k1.symm,b,?_⟩;have Z:A3 [.buf false s l l.length 0]=[.live l.length (s.E.cl l)]:=rfl;have e2:A3 [.buf false s l1 L W]=[.live l1.length (s.E.cl l1)]:=by rw[<-J];rfl
          rw[<-Z,<-e2,<-uS];apply JN hf hb (by rw[Cm];exact JF hn.1);rw[<-ZA];refine MA.after (a1.awp.mono ?_);rintro _ _ _ ⟨rfl,rfl,rfl⟩;have I:1<=hh.length:=D4 V.step.len Q.step.len;refine⟨_,_,(S _).of_le (by rw[CO,CO];exact V.step.len),AAV G o a ?_⟩;rw[CO];refine mb (H2:=[.buf false s l1 L W]) I (λj e' _ h=>?_) rfl (UE (V3 hr)) (U9 (OR rs r));match j,h with
          |0,h=>simp only[M7,AV]at h;subst h;exact⟨_,T,.inr (.inr (.inl ⟨_,_,_,_,_,_,_,rfl,rfl⟩))⟩
          |j+1,h=>simp at h
         ·cases k1
        ·cases k1
       ·cases k1
      ·cases k1
     ·cases k1
    ·cases k
   ·cases k
  ·cases k
 obtain⟨r,m,rfl,b,key⟩:=key;rw[bh]at d⊢;simp only at d⊢;rw[<-d];rw[<-d]at z key;have f: ∀v∈fh ds x++post,Pure v:=λv a=>(Ar.1 a).elim (OR ds x v) (b v);have ha:AW.renL (λj=>[K].getD j 0) (.sl 0 m.length te.sz 0 m.length::(fh ds x++post))= .sl K m.length te.sz 0 m.length::(fh ds x++post):=by simp only[AW.renL,jg f];rfl
 exact Eo.frame (H:=H) [K] key (FF.2 ⟨by simp,PG⟩) rfl rfl (λj Y e q C=>by
   match j,q,C with
   |0,q,C=>simp only[M7,AV]at q C;subst q C;exact z
   |j+1,q,_=>simp at q) (λe h=>by
   rw[A5.1 h];exact(De _ _).2 (oT te l)) (λe h=>by
   rw[A5.1 h];exact(De _ _).2 (oT te m)) (U9 (OR rs r)) ha ((De _ _).2 λv a=>by
   rcases Al.1 a with rfl|a
   ·rfl
   ·exact(f v a).all _)
def pu{f:(List te.D×DL ds→Option (DL (rs++[.list te])))→List te.D×DL ds→Option (DL (rs++[.list te]))}(a: ∀c∈cs,c.Ok P)
  (d: ∀g l x,f g (l,x)=vv P (.c2 F te ds rs post (λl x=>g (l,x))::cs) hs n F te ds rs post l x):(Sf.c2 F te ds rs post λl x=>oh f (l,x)).Ok P:=by
 have key: ∀m,(Sf.c2 F te ds rs post λl x=>dK f m (l,x)).Ok P:=by
  intro m;induction m with
  |zero=>intro l x y b;cases b
  |succ m h=>exact Mq (cs:=.c2 F te ds rs post (λl x=>dK f m (l,x))::cs) (A9 h a) λl x=>d (dK f m) l x
 intro l x y b;obtain⟨m,e⟩:=ZB b;exact key m l x y e
end Go.Ab
namespace Go.Ab
def clW(fn:Func):Nat->String:=λi=>
 match fn.body with
 |some (.seq (.region _ a _) (.seq (.seq (.region _ b _) (.cond _ (.seq (.region _ c _) _) _)) (.seq (.region _ d _) _)))=>(((a++b++c++d)[i]?).map (·.pos)).getD default
 |_=>default
def uX(t b:TypeId)(w:Nat->String):Code:=
 .seq (.region 0 #[⟨some 2,.assign (.const (.slice none 0 0)),t,w 0, #[],none⟩] false)
  (.seq (.seq (.region 1 #[⟨some 3,.move (.tmp 0),t,w 1, #[],none⟩,⟨some 4,.binOp .eql t (.tmp 3) (.const (.slice none 0 0)) t,b,w 2, #[⟨0,.data⟩],none⟩] false)
    (.cond (.tmp 4) (.seq (.region 2 #[⟨some 2,.assign (.const (.slice none 0 0)),t,w 3, #[],none⟩] false) .ret) .skip))
   (.seq (.region 3 #[⟨some 5,.buildSlice t 0 #[],t,w 4, #[],none⟩,⟨some 6,.move (.tmp 0),t,w 5, #[],none⟩,
     ⟨some 7,.call {callee:=.builtin .append,args:= #[.tmp 5,.tmp 6],argTypes:= #[t,t]},t,w 6, #[⟨0,.data⟩,⟨1,.data⟩],none⟩,
     ⟨some 2,.assign (.tmp 7),t,w 7, #[⟨2,.data⟩,⟨2,.chain⟩,⟨0,.phase⟩,⟨1,.phase⟩,⟨2,.phase⟩],none⟩] false) .ret))
def Nt.none{n0:Nat}{H:Aq}{id g sz off:Nat}(hn:n0<=H.length)(b:id<H.length)(k:0<sz):Nt n0 (.sl id g sz off 0) H (.vs sz []) (H.set id .dead):=by
 refine⟨by simpa using hn,λX h w c s r=>?_⟩;obtain⟨p,t⟩:=s.kill b;refine⟨h,p,?_,λ_ _=>⟨rfl,rfl,rfl⟩,λB o=>?_⟩
 ·cases r with
  |sl l m n q=>obtain⟨a,cap,rfl⟩:=n;exact Bh.vs (rows:=[]) (λ_ _=>undef) (Cc _) k (λj e h=>by simp at h) (λh=>(h rfl).elim) (λj e i v h=>by simp at h)
 ·obtain⟨i,e,l,d,m⟩:=o;rcases Ih b l with⟨_,f⟩|⟨rfl,rfl⟩
  ·exact⟨i,e,f,d,m⟩
  ·exact(d rfl).elim
theorem vz{P:Program}{F:FuncId}{t b:TypeId}{a:Ty}(p:(P.funcs[F]?).map (λz=>(z.body,z.ntmps,z.results))=some (some (uX t b (((P.funcs[F]?).map clW).getD (λ_=>default))),8, #[.tmp 2]))(M:yY P t=some a)(k:ba 0 a #[] []=true):(Sf.cl F a).Ok P:=by
 generalize ((P.funcs[F]?).map clW).getD (λ_=>default)=w at p;obtain⟨z,U,J⟩:=VP.1 p;injection J with S J;injection J with hn hr;intro l H V;obtain⟨e,I,x⟩:=dH M;have N:=(PM I).1;have G: ∀env,Qs P env t 0 #[]=some (a.sz,[]):=by intro env;unfold Qs;simp only[I];refine if_pos ⟨a.sz_pos,x,rfl,rfl,Cc _,?_⟩;unfold ba at k;simp only[BM]at k;exact JF k.2
 have j: ∀Q:AW→Aq→Prop,(l=[]→Q (.vs a.sz []) (A3 (H++[.dead])))→(∀r,l≠ []→Fg [] l=some r→Q (.sl H.length r.length a.sz 0 r.length) (A3 (H++[.buf false a r r.length 0])))→
   (l=[]\/ ∃r,Fg [] l=some r)->Eo P F [.vs a.sz (l.map a.enc)] (A3 H) Q:=by
  intro Q R A i;refine JN U S (by rw[hn];simp) ?_;rw[hn];refine MA.seq (FX rfl (T7.cons rfl (Db (v:=.nils) rfl (T7.nil ?_))));refine MA.seq (MA.seq (FX rfl (T7.cons rfl (Db (v:=.vs a.sz (l.map a.enc)) rfl (T7.cons rfl (lg (sz:=a.sz) (rows:=l.map a.enc) rfl N rfl λO C=>T7.nil ?_))))));have o:O=true->l=[]:=λh=>by
   by_cases f:l=[]
   ·exact f
   ·rw[C (by simpa using f)]at h;cases h
  have d:(A3 H++[EM.live 0 []]).set (A3 H).length EM.dead=A3 (H++[.dead]):=by rw[TI _ _ (Aj _),G6];simp[A3,Df.enc]
  refine MA.cond (b:=O) rfl (λB=>?_) (λT=>?_)
  ·refine MA.seq (FX rfl (T7.cons rfl (Db (v:=.nils) rfl (T7.nil ?_))));refine MA.weak (F6.virt (t:=2) (sz:=a.sz) rfl) (MA.ret ?_);refine⟨.sl (A3 H).length 0 a.sz 0 0,.vs a.sz [],(A3 H++[EM.live 0 []]).set (A3 H).length EM.dead,by simp[bw,hr,Qw,di,Env.putO,Env.put,Env.get],Nt.none (by simp) (by simp) a.sz_pos,?_⟩;rw[d];exact R (o B)
  ·refine MA.skip ?_;refine MA.seq (FX rfl (T7.cons rfl (Rb (sz:=a.sz) (vs:=[]) rfl (G _) (T7.cons rfl (Db (v:=.vs a.sz (l.map a.enc)) rfl (T7.cons rfl ?_))))));have L:M3 (A3 H++[EM.live 0 []]) a.sz (.vs a.sz (l.map a.enc))=some (l.length,a.E.cl l):=by simp only[M3,if_true,Cm];rfl
   have s:0+l.length<=16777216:=by
    rcases i with rfl|⟨r,hr⟩
    ·simp
    ·obtain⟨A,_⟩:=gQ hr;simpa using A
   refine QJ (sx:=.tmp 5) (xx:=.tmp 6) (H:=A3 H++[EM.live 0 []]) (id:=(A3 H).length) (g:=0) (g':=l.length) (n:=0) (cs:=[]) (m:=l.length) (news:=a.E.cl l) rfl I a.sz_pos x rfl (by simp) (by simp) L s (by
    rcases Q6 l.length with q|q
    ·exact .inr ⟨q,q⟩
    ·exact .inl q) ?_
   refine T7.cons rfl (Db (v:=.sl (A3 H).length l.length a.sz 0 (0+l.length)) rfl (T7.nil ?_));refine MA.ret ?_;have y:(A3 H++[EM.live 0 []]).set (A3 H).length (.live l.length ([]++a.E.cl l))=A3 (H++[.buf false a l l.length 0]):=by rw[TI _ _ (Aj _),G6];simp[A3,Df.enc]
   by_cases f:l=[]
   ·subst f;refine⟨.sl (A3 H).length 0 a.sz 0 0,.vs a.sz [],(A3 H++[EM.live 0 []]).set (A3 H).length EM.dead,by simp[bw,hr,Qw,di,Env.putO,Env.put,Env.get],?_,?_⟩
    ·have:=Nt.none (n0:=(A3 H).length) (H:=A3 H++[EM.live 0 []]) (id:=(A3 H).length) (g:=0) (off:=0) (by simp) (by simp) a.sz_pos;have e:(A3 H++[EM.live 0 []]).set (A3 H).length (.live ([]:List a.D).length ([]++a.E.cl []))=A3 H++[EM.live 0 []]:=by rw[TI _ _ (Aj _),G6];rfl
     rw[e];exact this
    ·rw[d];exact R rfl
   ·rcases i with h|⟨r,c⟩
    ·exact(f h).elim
    ·obtain⟨_,K⟩:=gQ c;have u:l=r:=by simpa using K.symm
     subst u;refine⟨.sl (A3 H).length l.length a.sz 0 l.length,_,_,by simp[bw,hr,Qw,di,Env.putO,Env.put,Env.get],Nt.refl _ _ (by simp),?_⟩;rw[y,CO];exact A l f c
 refine⟨λf=>?_,λr f hr=>?_⟩
 ·subst f;exact j _ (λ_=>⟨rfl,rfl⟩) (λr h=>(h rfl).elim) (.inl rfl)
 ·exact j _ (λh=>(f h).elim) (λW _ c=>by rw[hr]at c;injection c with c;subst c;exact⟨rfl,rfl⟩) (.inr ⟨r,hr⟩)
abbrev i64:Ty:=.int .i64
abbrev hn(k i:Nat)(s:List TE)(e:List (Exit×List TE)):Hint:=⟨k,i,[],[],[],[],s,e⟩
def k0{P:Program}{e:List Sf}{F:FuncId}{a d:List Ty}{g:DL a→Option (DL d)}(l:List (Nat×List Hint))(b: ∀c∈e,c.Ok P)
  (f:g=λx=>tL P e (YD l) 13 F a d x):(Sf.c0 F a d g).Ok P:=tR b λx=>congrFun f x
def k1{P:Program}{h:List Sf}{F:FuncId}{pos:Nat}{a:Ty}{d f:List Ty}{g:a.D→DL d→Option (DL (f++[a]))}(l:List (Nat×List Hint))(e: ∀c∈h,c.Ok P)
  (i:g=λb x=>vu P h (YD l) 13 F pos a d f b x):(Sf.c1 F pos a d f g).Ok P:=yR e λb x=>congrFun (congrFun i b) x
def w64{x:Int}(h: -9223372036854775808<=x/\x<=9223372036854775807):IntKind.wrap .i64 x=x:=by rw[IntKind.wrap_i64];omega
def uv{S R:Type}{body:S->Option (Step S R)}(I:S->Prop)(Q:R->Prop)(b:S->Nat)(i: ∀s,I s->(∃r,body s=some (.done r)/\Q r)\/ ∃a,body s=some (.next a)/\I a/\b a<b s){s:S}(h:I s): ∃r,Ae body s=some r/\Q r:=by
 have key: ∀(n:Nat) (s:S),b s<n->I s-> ∃r,Ae body s=some r/\Q r:=by
  intro n;induction n with
  |zero=>intro s j;omega
  |succ n k=>
   intro s j g;rcases i s g with⟨r,c,d⟩|⟨a,c,d,l⟩
   ·exact⟨r,by rw[Cg,c],d⟩
   ·obtain⟨r,e,f⟩:=k a (by omega) d;exact⟨r,by rw[Cg,c];exact e,f⟩
 exact key (b s+1) s (by omega) h
def yl{a:Type}{l:List a}{i:Nat}{x:a}(h:l[i]? =some x):ix l (i:Int)=some x:=by unfold ix;rw[if_pos (by omega),DP,h]
def ABQ{b:Type}{l:List b}{i:Int}(a:0<=i)(c:i<l.length): ∃x,ix l i=some x/\l[i.toNat]? =some x:=by
 obtain⟨n,rfl⟩:=Er a;have hn:n<l.length:=by omega
 exact⟨l[n],yl (Ay hn),by simp[hn]⟩
def AAL{b:Type}{l a:List b}(h:l.length+a.length<=16777216):Fg l a=some (l++a):=if_pos h
def yF{b:Type}{n:Nat}(a:Qy n b){i:Nat}(h:i<n):Ky a (i:Int)=some (a ⟨i,h⟩):=by unfold Ky;rw[dif_pos ⟨by omega,by simpa using h⟩];simp
def A2{α:Type}(o:Option α)(Q:α->Prop):Prop:= ∃r,o=some r/\Q r
section
variable {α β γ:Type}
def AA{r:α}{Q:α->Prop}(h:Q r):A2 (.some r) Q:=⟨r,rfl,h⟩
def A2.mono{o:Option α}{P Q:α->Prop}(h:A2 o P)(c: ∀r,P r->Q r):A2 o Q:=by obtain⟨r,a,b⟩:=h;exact⟨r,a,c r b⟩
def AB{o:Option α}{k:α->Option β}{P:α->Prop}{Q:β->Prop}(h:A2 o P)(b: ∀r,P r->A2 (k r) Q):A2 (Option.bind o k) Q:=by obtain⟨r,rfl,a⟩:=h;exact b r a
def Gr{o:Option α}{k:α->Option β}{P:α->Prop}{Q:β->Prop}(h:A2 o P)(b: ∀r,o= .some r->P r->A2 (k r) Q):A2 (Option.bind o k) Q:=by obtain⟨r,rfl,a⟩:=h;exact b r rfl a
def AF{o:Option α}{k:α->Option β}{P:α->Prop}{Q:β->Prop}(a: ∀r,P r->A2 (k r) Q)(h:A2 o P):A2 (Option.bind o k) Q:=AB h a
def AE{c:Bool}{a b:Option α}{Q:α->Prop}(d:c=true->A2 a Q)(e:c=false->A2 b Q):A2 (bif c then a else b) Q:=by
 cases c with
 |true=>exact d rfl
 |false=>exact e rfl
def AC{p:Prop}{_:Decidable p}{a b:Option α}{Q:α->Prop}(c:p->A2 a Q)(d: ¬p->A2 b Q):A2 (bif decide p then a else b) Q:=AE (λh=>c (of_decide_eq_true h)) (λh=>d (of_decide_eq_false h))
def AO{c:Bool}{a b:Option α}{Q:α->Prop}(d:c=false->A2 a Q)(e:c=true->A2 b Q):A2 (bif !c then a else b) Q:=by
 cases c with
 |true=>exact e rfl
 |false=>exact d rfl
def AS{β:Type}{_:BEq β} [LawfulBEq β] {x y:β}{a b:Option α}{Q:α->Prop}(c:x=y->A2 a Q)(d:x≠y->A2 b Q):A2 (bif x==y then a else b) Q:=AE (λh=>c (eq_of_beq h)) (λh=>d (ne_of_beq_false h))
def AK{β:Type}{_:BEq β} [LawfulBEq β] {x y:β}{a b:Option α}{Q:α->Prop}(c:x≠y->A2 a Q)(d:x=y->A2 b Q):A2 (bif x !=y then a else b) Q:=by
 refine AE (λh=>c λe=>?_) (λh=>d ?_)
 ·subst e;simp at h
 ·simpa using h
def BN{c:Bool}{a b:Option α}{k:α->Option β}{Q:β->Prop}(h:A2 (bif c then Option.bind a k else Option.bind b k) Q):A2 (Option.bind (bif c then a else b) k) Q:=by cases c<;>exact h
def A4{a:α}{k:α->Option β}{Q:β->Prop}(h:A2 (k a) Q):A2 (Option.bind (.some a) k) Q:=h
def BT{o:Option α}{f:α->Option β}{k:β->Option γ}{Q:γ->Prop}(h:A2 (Option.bind o λv=>Option.bind (f v) k) Q):A2 (Option.bind (Option.bind o f) k) Q:=by cases o<;>exact h
def Js{a:Type}{f:α->Option γ}{g:β->Option γ}{o:α ⊕ β}{k:γ->Option a}{Q:a->Prop}(h:A2 (Sum.elim (λu=>Option.bind (f u) k) (λu=>Option.bind (g u) k) o) Q):A2 (Option.bind (Sum.elim f g o) k) Q:=by cases o<;>exact h
def BK{u:α}{f:α->Option γ}{g:β->Option γ}{Q:γ->Prop}(h:A2 (f u) Q):A2 (Sum.elim f g (.inl u)) Q:=h
def BG{u:β}{f:α->Option γ}{g:β->Option γ}{Q:γ->Prop}(h:A2 (g u) Q):A2 (Sum.elim f g (.inr u)) Q:=h
def Az{f:α->Option γ}{g:β->Option γ}{o:α ⊕ β}{Q:γ->Prop}(a: ∀u,o= .inl u->A2 (f u) Q)(b: ∀u,o= .inr u->A2 (g u) Q):A2 (Sum.elim f g o) Q:=by
 cases o with
 |inl u=>exact a u rfl
 |inr u=>exact b u rfl
def A2.get{o:Option α}{Q:α->Prop}{r:α}(h:A2 o Q)(e:o= .some r):Q r:=by obtain⟨s,a,b⟩:=h;rw[e]at a;injection a with a;rw[a];exact b
def A2.and{o:Option α}{P Q:α->Prop}(h:A2 o P)(g:A2 o Q):A2 o λr=>P r/\Q r:=by obtain⟨r,a,b⟩:=h;exact⟨r,a,b,g.get a⟩
def AD{l:List α}{i:Int}(b:0<=i)(c:i<l.length):A2 (ix l i) λx=>l[i.toNat]? = .some x/\x∈l:=by obtain⟨x,d,a⟩:=ABQ b c;exact⟨x,d,a,BV a⟩
def Ac{l a:List α}(h:l.length+a.length<=16777216):A2 (Fg l a) λr=>r=l++a/\r.length=l.length+a.length/\r.length<=16777216:=⟨_,AAL h,rfl,by simp,by simp;omega⟩
def CE{a b:Bf}(h:a.length+b.length<=9223372036854775807):A2 (sapp a b) λr=>r=a++b/\r.length=a.length+b.length:=by refine⟨a++b,?_,rfl,by simp⟩;unfold Go.Ab.sapp;rw[if_pos h]
def C3{s:Bf}{a b:Int}(c:0<=a)(d:a<=b)(e:b<=s.length):A2 (Ry s a b) λr=>r=(s.drop a.toNat).take (b.toNat-a.toNat)/\(r.length:Int)=b-a:=by refine⟨_,if_pos ⟨c,d,e⟩,rfl,?_⟩;rw[Cn,Fc];omega
def B0{s:List α}{lo hi:Int}(a:0<=lo)(b:lo<=hi)(c:hi<=s.length):A2 (Zm s lo hi) λr=>r=(s.drop lo.toNat).take (hi.toNat-lo.toNat)/\(r.length:Int)=hi-lo:=by refine⟨_,if_pos ⟨a,b,c⟩,rfl,?_⟩;rw[Cn,Fc];omega
def Pk{s:Bf}{i:Int}(a:0<=i)(c:i<s.length):A2 (six s i) λb=>0<=b/\b<256:=by
 obtain⟨n,rfl⟩:=Er a;have hn:n<s.length:=by omega
 refine⟨(s[n].toNat:Int),?_,by omega,?_⟩
 ·unfold Go.Ab.six;simp[hn]
 ·have:=s[n].toNat_lt;omega
def Dl{n:Nat}{a:Qy n α}{i:Int}(b:0<=i)(c:i<n):A2 (Ky a i) λx=>x=a ⟨i.toNat,by omega⟩:=by obtain⟨k,rfl⟩:=Er b;exact⟨_,yF a (by omega),rfl⟩
def kC{z:α}{n:Int}(a:0<=n)(b:n<=16777216):A2 (mk z n n) λr=>r=List.replicate n.toNat z/\(r.length:Int)=n:=by refine⟨List.replicate n.toNat z,?_,rfl,by simp;omega⟩;unfold Go.Ab.mk;rw[if_pos ⟨a,Ah _,b⟩]
def AM{S R:Type}{body:S→Option (Step S R)}(I:S→Prop)(c:S→Nat){Q:R→Prop}{s:S}(d:I s)
  (g: ∀s,I s->A2 (body s) λb=>match b with| .next a=>I a/\c a<c s| .done r=>Q r):A2 (Ae body s) Q:=by
 obtain⟨r,e,f⟩:=uv (body:=body) I Q c (λs h=>by
  obtain⟨b,q1,q2⟩:=g s h;cases b with
  |next a=>exact .inr ⟨a,q1,q2.1,q2.2⟩
  |done r=>exact .inl ⟨r,q1,q2⟩) d
 exact⟨r,e,f⟩
def TD(n:Int):IntKind.wrap .u64 n=n%18446744073709551616:=by simp[IntKind.wrap,IntKind.bits,IntKind.signed]
def rF(n:Int):IntKind.wrap .u32 n=n%4294967296:=by simp[IntKind.wrap,IntKind.bits,IntKind.signed]
def zb(n:Int):IntKind.wrap .u8 n=n%256:=by simp[IntKind.wrap,IntKind.bits,IntKind.signed]
def Xg{Q:α->Prop}(h:False):A2 .none Q:=h.elim
theorem AY{x:Int}(h: -9223372036854775808<=x/\x<=9223372036854775807):wi x=x:=w64 h
def xj(x:Int):wi x=(x+9223372036854775808)%18446744073709551616-9223372036854775808:=by unfold wi;rw[IntKind.wrap_i64]
end
open Go.ChangeShapes Go.WideShapes Go.ChangeAt Go.RowKit
def gh0:Gh:=⟨λ_=>none,λ_=>0,λ_=>0⟩
def zk(w:World):Cx:=cx (λ_=>False) gh0 [] w
def ACD(w:World):Ik (λ_=>False) gh0 [] w where
 out B h:=h.elim
 live id g cs h:=by simp at h
 lp id L h:=by simp at h
 inj id id' e e' B h:=by simp at h
 bld id e h:=by simp at h
def sN{w:World}{B:Nat}: ¬(zk w).O B:=by
 rintro(h|⟨a,e,h,_⟩)
 ·exact h
 ·simp at h
def gi{P:Program}{F:FuncId}{args:List AW}{Q:AW→Aq→Prop}(h:Eo P F args [] Q){w:World}{cargs:Array Value}(hn:cargs.size=args.length)
  (d: ∀(j:Nat) (v:AW) (c:Value),args[j]? =some v->cargs[j]? =some c->Bh (zk w) v c):
  Calls P F cargs w λe b=> ∃c v x a,e= .returned c/\Q v a/\Bh x v c/\Below w.heap.size w b:=by
 refine(h (λ_=>False) gh0 w cargs (ACD w) hn d).mono ?_;rintro e b ⟨c,v,i,a,rfl,q,_,r,x⟩;refine⟨c,v,_,a,rfl,q,r,x.os,x.tape,x.output,x.size,λk g=>x.keep k g ?_⟩;rintro⟨l,e,f,_⟩;simp at f
def vQ{w:World}{k:IntKind}{a:Addr}{len cap:Nat}{b:List Int}(A:len≤cap)(D:b.length=cap)(t: ∀i,i<b.length→w.cell? (a.add i)=some (.int k (b.getD i 0)))(q:a.block<w.heap.size∨len=0):
  Bh (zk w) (.vs 1 ((b.take len).map λn=>.int k n)) (.slice (some a) len cap):=by
 have d:((b.take len).map λn=>AW.int k n).length=len:=by simp;omega
 have g: ∀(j:Nat) (e:AW),((b.take len).map λn=>AW.int k n)[j]? =some e->j<len/\e= .int k (b.getD j 0):=by
  intro j e h;rw[Bb]at h;cases c:(b.take len)[j]? with
  |none=>rw[c]at h;cases h
  |some n=>
   rw[c]at h;simp only[BB,AV]at h;subst h;have p:j<(b.take len).length:=by
    rcases Ag j (b.take len).length with h|h
    ·exact h
    ·rw[BP h]at c;cases c
   simp only[Cn]at p;rw[List.getElem?_take_of_lt (by omega)]at c;exact⟨by omega,by rw[Dr,c];rfl⟩
 have key:=Bh.vs (x:=zk w) (sz:=1) (rows:=(b.take len).map λn=>.int k n) (a:=some a) (cap:=cap) (λj _=>.int k (b.getD j 0)) (by rw[d];exact A) (by omega)
  (λj e h=>by rw[(g j e h).2];rfl)
  (λr=>by
   have C:0<len:=by
    rcases Q6 len with h|h
    ·subst h;simp at r
    ·exact h
   have m:a.spot=none:=by
    have:=t 0 (by omega);unfold World.cell? at this;split at this
    ·split at this
     ·cases this
     ·rename_i u;simp only[Addr.add,if_true]at u;simpa using u
    ·cases this
   obtain⟨B,s,E⟩:=a;simp only at m;subst m;refine⟨B,s,rfl,sN,?_,λj e i v c l=>?_⟩
   ·rcases q with h|h
    ·exact h
    ·omega
   ·obtain⟨y,o⟩:=g j e c;subst o;have f:i=0:=by
     simp only[AW.cells]at l;cases i with
     |zero=>rfl
     |succ i=>simp at l
    subst f;refine⟨?_,rfl⟩;have:=t j (by omega);simp only[Nat.mul_one,N0];show w.cell? _=_;rw[<-this];unfold Addr.add;split
    ·rename_i z;subst z;rfl
    ·rfl)
  (λj e i v c l=>by
   obtain⟨y,o⟩:=g j e c;subst o;have f:v= .int k (b.getD j 0):=by
    simp only[AW.cells]at l;cases i with
    |zero=>simpa using l.symm
    |succ i=>simp at l
   subst f;exact .int _ _)
 rw[d]at key;exact key
def xh{w:World}:Bh (zk w) (.vs 1 []) (.slice none 0 0):=Bh.vs (x:=zk w) (sz:=1) (rows:=[]) (a:=none) (cap:=0) (λ_ _=>.nilFunc) (by simp) (by omega) (λj e h=>by simp at h) (λh=>absurd rfl h) (λj e i v h=>by simp at h)
end Go.Ab
