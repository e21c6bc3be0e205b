/- A layer over the model in which values are trees: its laws and a typed interpreter, part 4. Texts of the folder wip, laid in few files with shorter names by a program (wip/tools/pack.py); nothing is assumed. -/
import Derived.Test.YtacnadmajkjfbaaGreatK3
import Derived.KernelRfl
import Derived.ProofKit
noncomputable section
set_option linter.unusedVariables false
set_option linter.unusedSimpArgs false
set_option linter.unusedSectionVars false
set_option linter.defProp false
set_option linter.unnecessarySimpa false
set_option linter.deprecated false
namespace Go.Ab
def isLen:Op->Bool
 | .call {callee:=.builtin .len,.. }=>true
 | .move _=>true
 | .assign _=>true
 | .extract _ _=>true
 |_=>false
def rdT(env:BS)(op:Op):List Nat:=match isLen op with|true=>[]|false=>op.operands.toList.flatMap λx=>zB (Iq env x)
def Tq(o:Oper)(env:BS):BS:=(TU o).filterMap λt=>match env.get t with| .c (.raw .any)=>none|v=>some (t,v)
def dX(ids:List Nat):Nat->An->List Nat
 |_,[]=>[]
 |j,.live false cs::r=>match (KD cs).any λi=>NT i ids with|true=>j::dX ids (j+1) r|false=>dX ids (j+1) r
 |j,_::r=>dX ids (j+1) r
variable {N n y:Nat}{a z:List Nat}{R L:Type}{b A:An}{c:List SV}{d G:Code}{e:List Oper}{F:FuncId}{f I M:BS}{P:Program}{g:List AV}{i:AV}{j:Bool}{k:Q9}{m K:TypeId}{p:Ty}{q:Int}{t:List TV}{u:Env}{v:World}{w:TV}{x:Exit}{C:Dl}{D:Ba}{E:Operand}{o:Oper}{J:Func}
section
variable {R:Type}
def quD(P:Program)(env:BS)(H:An)(op:Op)(k:TV->Option R):Option R:=
 match op with
 | .buildSlice t len parts=>jj P env t len parts k
 |op=>zZ P env H op k
def wV(P:Program)(cs:List SV)(call:Q9)(env:BS)(H:An)(op:Op)(k:TV->An->Option R):Option R:=
 match op with
 | .box _ x=>yV H (Iq env x) k
 | .store t a v=>storeT P H t (Iq env a) (Iq env v) k
 | .makeSlice t x y=>bM P H t (Iq env x) (Iq env y) k
 | .buildSlice t len parts=>Wb P env H t len parts k
 | .call c=>
  match dm env (.call c)with
  |some (F,vs)=>
   match Zj P F with
   |true=>
    match jx cs F with
    |some ct=>tV ct vs H k
    |none=>match isNil vs with|true=>call (.fn F) [] (H.map Dl.lock) λv H'=>k v (Ta H H')|false=>call (.fn F) vs H k
   |false=>none
  |none=>
   match mi env c with
   |some (id,vs)=>call (.yd id) vs H k
   |none=>
    match c with
    |{callee:=.builtin .append,args:=⟨[s,x]⟩,argTypes:=⟨[t,t']⟩}=>match Nat.beq t t' with|true=>kV P H t (Iq env s) (Iq env x) k|false=>none
    |_=>none
 |_=>none
def ABl(P:Program)(cs:List SV)(call:Q9)(env:BS)(H:An)(op:Op)(k:TV->An->Option R):Option R:=
 match Hy (er cs env H op) env H with
 |(ef,hf)=>wV P cs call ef hf op k
def qE(cs:List SV)(env:BS)(H:An)(op:Op):List Nat:=
 match er cs env H op with
 |[]=>oi cs env H op
 |ids=>ids++dX ids 0 H++(match Hy ids env H with|(ef,hf)=>oi cs ef hf op)
def ABt:Op->Bool
 | .buildSlice .. =>true
 |_=>false
def tC(P:Program)(cs:List SV)(call:Q9)(ops:Array Oper)(m:List Nat)(gs:List Nat)(ow:Bool):List Nat->List (Nat×List Nat)->BS->An->(BS->An->Option R)->Option R
 |[],_,env,H,k=>k env H
 |i::r,pend,env,H,k=>
  match ops[i]? with
  |none=>none
  |some o=>
   match o.op with
   | .alloc t=>
    match mj P t with
    |some z=>
     match o.guard.isNone&&r.all (λj=>OD m i j||Hn ops j)with
     |true=>tC P cs call ops m gs ow r pend (env.putO o.dst (.c (.raw (.ptr H.length 0 0)))) (H++[.live false z]) k
     |false=>none
    |none=>none
   |op=>
    match bJ ops o.guard env with
    |some false=>tC P cs call ops m gs ow r ((i,[])::pend) (env.putO o.dst (.tup [])) H k
    |some true=>
     match dq op&& !(ow&&ABt op)with
     |true=>
      match (rdT env op).all λid=>Nat.blt id H.length with
      |true=>quD P env H op λv=>force (NT i gs) v λv'=>tC P cs call ops m gs ow r ((i,rdT env op)::pend) (env.putO o.dst v') H k
      |false=>none
     |false=>
      match r.all (λj=>OD m i j||Hn ops j)&&pend.all (λp=>OD m p.1 i||p.2.all λid=>!NT id (qE cs (Tq o env) H op))with
      |true=>ABl P cs call (Tq o env) H op λv H'=>force (NT i gs) v λv'=>tC P cs call ops m gs ow r pend (env.putO o.dst v') H' k
      |false=>none
    |none=>none
variable {P:Program} {N:Nat} {o:Oper} {env:BS} {H:An} {r:R}
theorem uN(env:BS)(a:Op)(h:isLen a=false):vL (Br env) a=rdT env a:=by grind[vL,rdT,KH,zC]
theorem eV.len{env:Env}{H:As}{v:AV}(b:isLen o.op=true)(e:CQ P env H o.op=some v):eV P N o env H [] v:=by
 intro c f d _;refine DY (v:=v) ?_ ⟨rfl,rfl⟩;rw[oB (aW d),<-e];generalize o.op=op at b;unfold isLen at b;split at b;rename_i args a;obtain⟨args⟩:=args;obtain⟨a⟩:=a;match args,a with
 |[x],[t]=>rfl
 |[],_=>rfl
 |_::_::_,_=>rfl
 |[_],[]=>rfl
 |[_],_::_::_=>rfl
 rfl;rfl;rfl;cases b
theorem vJ{k:TV->Option R}(ok:O0 env H)(h:quD P env H o.op k=some r): ∃v,eV P N o (Br env) (A5 H) (rdT env o.op) v.enc/\k v=some r/\v.ok H:=by
 have n:zZ P env H o.op k=some r-> ∃v,eV P N o (Br env) (A5 H) (rdT env o.op) v.enc/\k v=some r/\v.ok H:=λh=>by
  obtain⟨v,f,i,j⟩:=oC ok h;refine⟨v,?_,i,j⟩;cases z:isLen o.op with
  |true=>grind[rdT,eV.len]
  |false=>rw[<-uN _ _ z];exact UN f
 generalize b:o.op=op at h;unfold quD at h;split at h;rename_i t len a;unfold jj at h;split at h;rename_i q l;split at h;rename_i e;split at h;rename_i F d;have E:=mR l e;refine⟨_,?_,h,JR trivial⟩;rw[<-b,<-uN _ _ (by rw[b];rfl)];have y:og P (Br env) (A5 H) o.op=some (.vs q.sz ((a.toList.map λp=>Iq env p.2).map TV.enc)):=by grind[og]
 have A:=dG (N:=N) y;intro x m f i;have j:=A x m f i;refine Io.after (v:=.vs q.sz ((a.toList.map λp:Nat×Operand=>Iq env p.2).map TV.enc)) (H1:=m) j λX g w s=>⟨Rm.refl _ _,λc D=>zw (fZ d) (cy d) (λv C=>?_) _ _ D⟩
 unfold bR at e;simp only[BO]at e;obtain⟨u,B,rfl⟩:=Bl.1 C;have:=Fx.1 e.1.1.2 u B;split at this;simp_all[Vy,Zg];cases this;cases h;cases h;cases h;grind
theorem uo{b:Op}{a:TV->An->Option R}(h:wV P c k env H b a=some r):qH P c k env H b a=some r:=by unfold wV at h;unfold qH;split at h<;>grind
theorem nv{p:Nat×TV}(h:p∈Tq o f):p.1∈TU o/\p.2=f.get p.1/\p.2≠ .c (.raw .any):=by obtain⟨t,b,a⟩:=Ni.1 h;grind
theorem yx(h:w.enc= .any):w= .c (.raw .any):=by
 cases w with
 |c x=>
  cases x with
  |ar n t a=>cases h
  |_=>grind[TV.enc,Ba.one]
 |_=>simp[TV.enc]at h
theorem ec{t:Nat}: ∀{l:BS},(∀p∈l,p.1≠t)->BS.get l t=Se
 |[],_=>rfl
 |(k,u)::r,h=>by simp only[BS.get,beq_false (h (k,u) (by simp))];exact ec λp a=>h p (by simp[a])
theorem nm{j:Nat}: ∀{l:List Nat},j∈l->NT j l=true
 |i::r,h=>by simp only[NT];rcases Am.1 h with rfl|h;rw[HY];rw[nm h];split<;>rfl
def z0(ids:List Nat)(H:An)(j:Nat):Prop:= ∀cs,H[j]? =some (.live false cs)-> ∀i∈KD cs,i∉ids
theorem kE{ids:List Nat}: ∀{H:An} {i j:Nat},i+j∉dX ids i H->z0 ids H j
 |e::r,i,0,hn,c,h=>by grind[dX,nm]
 |e::r,i,j+1,hn,c,h=>by
  have d:(i+1)+j∉dX ids (i+1) r:=by
   have f:i+1+j=i+(j+1):=by omega
   rw[f];intro a;apply hn;cases e with
   |live b c=>cases b<;>grind[dX]
   |dead=>exact a
   |buf=>exact a
   |lp=>exact a
   |mp=>exact a
  exact kE (ids:=ids) d c h
def ft{id b:Nat}{t:Ty}{l:List t.D}: ∀{a:List Ba},id∉KD a->a.map (Ma id b t l)=a
 |[],_=>rfl
 |x::r,h=>by
  cases x with
  |own d c e n=>simp only[KD,Am,not_or]at h;simp only[BZ,Ma,beq_false h.1,Bool.false_and,ft h.2]
  |_=>simp only[KD]at h;simp only[BZ,Ma,ft h]
def aY: ∀(a:List Nat) {env:BS} {H:An} {j:Nat},j∉a->z0 a H j->(Hy a env H).2[j]? =H[j]?
 |[],_,_,_,_,_=>rfl
 |id::r,env,H,j,hj,hn=>by
  simp at hj;simp only[Hy];split;rename_i e h d;have m:h[j]? =H[j]? :=by
   unfold frz at d;split at d;rename_i t l n q s;simp at d;rw[<-d.2,D1 (λe=>hj.1 e.symm),CL];cases p:H[j]? with
   |none=>rfl
   |some o=>
    simp;cases o with
    |live b c=>
     cases b with
     |false=>simp only[PD];rw[ft λf=>hn c p id f JK]
     |true=>rfl
    |_=>rfl
   cases d
  rw[aY r hj.2 λc g i k f=>hn c (m▸g) i k (CD _ f),m];exact aY r hj.2 λc g i k f=>hn c g i k (CD _ f)
theorem sF(l: ∀b∈c,b.Ok P)(g:UQ P k){f:TV→An→Option R}(ok:O0 env H)(h:ABl P c k (Tq o env) H o.op f=some r):
  ∃v d,Eff P N o (Br env) (A5 H) (qE c (Tq o env) H o.op) (DW v.enc (A5 d))/\f v d=some r/\v.ok d/\(∀e∈d,e.ok d)/\B0 H d:=by
 have n:O0 (Tq o env) H:=⟨λp m=>by rw[(nv m).2.1];exact jI ok.env _,ok.heap⟩
 obtain⟨s,u,A⟩:=Pf (er c (Tq o env) H o.op) n;have w:=λj=>aY (er c (Tq o env) H o.op) (env:=Tq o env) (H:=H) (j:=j);have x: ∀id,id∉qE c (Tq o env) H o.op->id∉oi c (Hy (er c (Tq o env) H o.op) (Tq o env) H).1 (Hy (er c (Tq o env) H o.op) (Tq o env) H).2 o.op/\(Hy (er c (Tq o env) H o.op) (Tq o env) H).2[id]? =H[id]? :=by intro id a;unfold qE at a;split at a;rename_i z;rw[z];exact⟨a,rfl⟩;simp only[Ar,not_or]at a;refine⟨a.2,w id a.1.1 (kE (i:=0) (by grind))⟩
 obtain⟨v,d,q1,q2,q3,q4,q5,q6⟩:=jv (N:=N) l g s (uo h);refine⟨v,d,⟨λt G=>Io.before (F3.subset λq y=>?_) (Io.before (A N) q1),?_⟩,q2,q3,q4,u.step.trans q5⟩;obtain⟨p,m,rfl⟩:=Bl.1 y;obtain⟨D,E,F⟩:=nv m;grind[Rz,Mv,yx];rintro _ _ ⟨rfl,rfl⟩ id a hn;rw[CR]at a;obtain⟨B,C⟩:=x id hn;rw[E7,E7,q6 id (DB a u.step.len) B,C]
def Rj{j:Nat}: ∀{l:List Nat},NT j l=false->j∉l
 |i::r,h=>by simp only[NT]at h;split at h;cases h;rename_i b;intro a;rcases Am.1 a with rfl|a;rw[HY]at b;cases b;exact Rj h a
 |[],_=>λh=>by cases h
def mr(ops:Array Oper)(l:List Nat):List Nat:=l.filterMap λi=>(ops[i]?).bind (·.dst)
theorem Vv{L:List SV}(u: ∀c∈L,c.Ok P){w:Q9}(s:UQ P w){b:Array Oper}{X:List Nat}{ow:Bool}: ∀(l:List Nat) (n:List (Nat×List Nat)) (env:BS) (H:An) (k:BS→An→Option R) (r:R),O0 env H→
  tC P L w b (Hu b.toList []) X ow l n env H k=some r->
  ∃a q,RA P N b l n (Br env) (A5 H) (λe h=>e=Br a/\h=A5 q)/\k a q=some r/\O0 a q/\E2 (mr b l) env H a q
 |[],n,env,H,k,r,ok,h=>⟨env,H,⟨rfl,rfl⟩,h,ok,E2.refl _ _ _⟩
 |i::l,n,env,H,k,r,ok,h=>by
  simp only[tC]at h;simp only[RA];cases J:b[i]? with
  |none=>rw[J]at h;cases h
  |some o=>
   rw[J]at h;simp only at h⊢;have m: ∀{e:BS} {h:An} {v:TV},E2 (mr b [i]) e h (e.putO o.dst v) h:=by
    intro e h v;refine⟨B0.refl h,λt T _=>?_⟩;cases hd:o.dst with
    |none=>rfl
    |some d=>refine iD λe=>T ?_;simp[mr,J,hd,e]
   have g: ∀t,t∈mr b [i]++mr b l->t∈mr b (i::l):=by grind[mr]
   split at h;rename_i t Q;split at h;rename_i z hz;split at h;rename_i F;simp only[BO]at F;obtain⟨z1,z2⟩:=V1 hz;have I:=B0.push H (.live false z);have f:O0 (env.putO o.dst (.c (.raw (.ptr H.length 0 0)))) (H++[.live false z]):=⟨bS (I.env ok.env) (JR trivial),OR ok.heap (z2 _)⟩
   obtain⟨a,q,x,C,D,E⟩:=Vv u s l _ _ _ _ _ f h;have G:o.guard=none:=by simpa using F.1
   refine⟨a,q,?_,C,D,?_⟩;rw[G];refine .inr (.inr ⟨t,lvs z,Q,z1,λj V=>?_,?_⟩);grind[List.all_eq_true];have M:Br (env.putO o.dst (.c (.raw (.ptr H.length 0 0))))=(Br env).putO o.dst (.ptr (A5 H).length 0 0):=by rw[Ux,CR];rfl
   have W:A5 (H++[.live false z])=A5 H++[.live 0 (lvs z)]:=Pd _ _;rw[M,W]at x;exact x;have U:E2 (mr b [i]) env H (env.putO o.dst (.c (.raw (.ptr H.length 0 0)))) (H++[.live false z]):=⟨I,(m (h:=H)).same⟩
   exact(E2.trans ok.env U E).mono g;cases h;cases h;rename_i O;have y:Hn b i=false:=by
    cases Z:Hn b i with
    |false=>rfl
    |true=>obtain⟨t,T⟩:=(To J).1 Z;exact(O t T).elim
   split at h;rename_i G;have f:O0 (env.putO o.dst (.tup [])) H:=⟨bS ok.env (Ph λv hv=>by cases hv),ok.heap⟩
   obtain⟨a,q,x,C,D,E⟩:=Vv u s l _ _ _ _ _ f h;have M:(Br env).putO o.dst (.tup [])=Br (env.putO o.dst (.tup [])):=by rw[Ux];rfl
   exact⟨a,q,gv G ⟨y,by rw[M];exact x⟩,C,D,(E2.trans ok.env m E).mono g⟩;rename_i G;split at h;split at h;rename_i S;obtain⟨v,q1,q2,q3⟩:=vJ (N:=N) ok h;have B:=ff q2;have f:O0 (env.putO o.dst v) H:=⟨bS ok.env q3,ok.heap⟩
   obtain⟨a,q,x,C,D,E⟩:=Vv u s l _ _ _ _ _ f B;refine⟨a,q,dS G (.inl ⟨y,v.enc,rdT env o.op,q1,λid A=>?_,by rw[<-Ux];exact x⟩),C,D,(E2.trans ok.env m E).mono g⟩;have:=Fx.1 S id A;rw[CR];exact Nm this;cases h;split at h;rename_i F;simp only[BO]at F;obtain⟨v,K,q1,q2,q3,q4,q5⟩:=sF (N:=N) u s ok h;have B:=ff q2;have f:O0 (env.putO o.dst v) K:=⟨bS (q5.env ok.env) q3,q4⟩
   obtain⟨a,q,x,C,D,E⟩:=Vv u s l _ _ _ _ _ f B;refine⟨a,q,dS G (.inr (.inl ⟨y,qE L (Tq o env) H o.op,λj V=>by simpa using List.all_eq_true.1 F.1 j V,λp hp=>?_,DW v.enc (A5 K),q1,?_,?_⟩)),C,D,?_⟩;have:=Fx.1 F.2 p hp;simp only[dh,Fx,Ut]at this;exact this.imp id λY id A=>Rj (Y id A);rintro _ _ ⟨rfl,rfl⟩;rw[CR,CR];exact q5.len;rintro _ _ ⟨rfl,rfl⟩;rw[<-Ux];exact x;have U:E2 (mr b [i]) env H (env.putO o.dst v) K:=⟨q5,(m (h:=H)).same⟩
   exact(E2.trans ok.env U E).mono g;cases h;cases h
end
abbrev DV:=(t:Ty)×t.D
def wU:(ts:List Ty)->DL ts->List DV
 |[],_=>[]
 |[t],x=>[⟨t,x⟩]
 |t::u::r,x=>⟨t,x.1⟩::wU (u::r) x.2
def sU:(ts:List Ty)->List DV->Option (DL ts)
 |[],[]=>some ()
 |[t],[⟨t',x⟩]=>if h:t'.beq t=true then some (Ty.cast h x)else none
 |t::u::r,⟨t',x⟩::ds=>if h:t'.beq t=true then match sU (u::r) ds with|some y=>some (Ty.cast h x,y)|none=>none else none
 |_,_=>none
def ti{a:Ty}(h:a.beq p=true)(x:a.D):(⟨p,Ty.cast h x⟩:DV)=⟨a,x⟩:=by have e:=Ty.beq_eq a p h;subst e;rfl
theorem jP: ∀{b:List Ty} {a:List DV} {s:DL b},sU b a=some s->wU b s=a
 |[],[],s,_=>rfl
 |[],_::_,s,h=>by cases h
 |[t],[],s,h=>by cases h
 |[t],[⟨t',x⟩],s,h=>by simp only[sU]at h;split at h;rename_i c;injection h with h;subst h;simp only[wU,ti];cases h
 |[t],_::_::_,s,h=>by simp[sU]at h
 |t::u::r,[],s,h=>by cases h
 |t::u::r,⟨t',x⟩::a,s,h=>by simp only[sU]at h;split at h;rename_i c;split at h;rename_i y d;injection h with h;subst h;simp only[wU,ti,jP d];cases h;cases h
inductive Part where
 |d (t:Ty)
 |o (id:Nat)
inductive S2 where
 |t (tmp:Nat) (ty:Ty)
 |g (tmp id:Nat)
 |p (id:Nat) (ps:List Part)
 |u (id:Nat) (ty:Ty)
 |x (id:Nat)
 |k (tmp:Nat) (v:AV)
 |y (id:Nat) (s:LS)
 |m (id:Nat) (k:IntKind) (t:Ty)
def ABM:AV->AV->Bool
 | .ptr a b c,.ptr a' b' c'=>Nat.beq a a'&&(Nat.beq b b'&&Nat.beq c c')
 | .nilp,.nilp=>true
 | .nilf,.nilf=>true
 |_,_=>false
def za{w:AV}(h:ABM i w=true):i=w:=by unfold ABM at h;split at h<;>simp_all
def Ks:List S2->List Nat
 |[]=>[]
 | .p id _::r=>id::Ks r
 | .u id _::r=>id::Ks r
 | .x id::r=>id::Ks r
 | .y id _::r=>id::Ks r
 | .m id _ _::r=>id::Ks r
 |_::r=>Ks r
def mb:List S2->List Nat
 |[]=>[]
 | .t tmp _::r=>tmp::mb r
 | .g tmp _::r=>tmp::mb r
 | .k tmp _::r=>tmp::mb r
 |_::r=>mb r
def ABE:List Part->List Ty
 |[]=>[]
 | .d t::r=>t::ABE r
 |_::r=>ABE r
def bX:List S2->List Ty
 |[]=>[]
 | .t _ t::r=>t::bX r
 | .p _ ps::r=>ABE ps++bX r
 | .u _ t::r=>.list t::bX r
 | .m _ k t::r=>.list (.prod (.cons (.int k) (.one t)))::bX r
 |_::r=>bX r
def od(H:An)(id:Nat):Ba->Bool
 | .own id' ver _ _=>match Nat.beq id id' with
  |true=>match H[id]? with|some (.buf _ _ _ _ ver')=>Nat.beq ver ver'|_=>false
  |false=>false
 |_=>false
def jp(H:An)(rest:List Nat):List Part->List Ba->Option (List DV)
 |[],[]=>some []
 | .d t::ps,cs=>
  match t.mk cs with
  |some (x,cs')=>match jp H rest ps cs' with|some ds=>some (⟨t,x⟩::ds)|none=>none
  |none=>none
 | .o id::ps,c::cs=>
  match od H id c&& !NT id rest with
  |true=>jp H rest ps cs
  |false=>none
 |_,_=>none
def XV(env:BS)(H:An):List S2->Option (List DV)
 |[]=>some []
 | .t tmp ty::r=>
  match ty.data (env.get tmp),XV env H r with
  |some x,some ds=>some (⟨ty,x⟩::ds)
  |_,_=>none
 | .g tmp id::r=>
  match env.get tmp with
  | .c x=>match od H id x&& !NT id (Ks r)with|true=>XV env H r|false=>none
  |_=>none
 | .p id ps::r=>
  match H[id]? with
  |some (.live _ cs)=>
   match jp H (id::Ks r) ps cs,XV env H r with
   |some a,some b=>some (a++b)
   |_,_=>none
  |_=>none
 | .u id ty::r=>
  match H[id]? with
  |some (.buf _ t l _ _)=>match t.beq ty,XV env H r with|true,some ds=>some (⟨.list t,l⟩::ds)|_,_=>none
  |_=>none
 | .x _::r=>XV env H r
 | .k tmp v::r=>
  match env.get tmp with
  | .c (.raw w)=>match ABM v w with|true=>XV env H r|false=>none
  |_=>none
 | .y id s::r=>
  match H[id]? with
  |some (.lp _ _ _ _ _ _ _ s')=>match s.beq s' with|true=>XV env H r|false=>none
  |_=>none
 | .m id k t::r=>
  match H[id]? with
  |some (.mp _ k' t' es)=>match decide (k'=k)&&t'.beq t,XV env H r with|true,some ds=>some (⟨.list (.prod (.cons (.int k') (.one t'))),es⟩::ds)|_,_=>none
  |_=>none
def ly(H:An):List Part->List DV->Option (List Ba×List DV)
 |[],ds=>some ([],ds)
 | .d _::ps,⟨t,x⟩::ds=>match ly H ps ds with|some (cs,r)=>some (t.lvs x++cs,r)|none=>none
 | .o id::ps,ds=>
  match H[id]? with
  |some (.buf _ t _ n ver)=>match ly H ps ds with|some (cs,r)=>some (.own id ver t n::cs,r)|none=>none
  |_=>none
 |_,_=>none
def UH:List S2->List DV->BS->An->Option (BS×An)
 |[],[],env,H=>some (env,H)
 | .t tmp _::r,⟨t,x⟩::ds,env,H=>UH r ds ((tmp,t.tv x)::env) H
 | .g tmp id::r,ds,env,H=>
  match H[id]? with
  |some (.buf _ t _ n ver)=>UH r ds ((tmp,.c (.own id ver t n))::env) H
  |_=>none
 | .p id ps::r,ds,env,H=>
  match H[id]? with
  |some (.live false _)=>match ly H ps ds with|some (cs,ds')=>UH r ds' env (H.set id (.live false cs))|none=>none
  |_=>none
 | .u id _::r,⟨.list t,l⟩::ds,env,H=>
  match H[id]? with
  |some (.buf false t' _ _ ver)=>match t'.beq t with|true=>UH r ds env (H.set id (.buf false t l l.length (ver+1)))|false=>none
  |_=>none
 | .x id::r,ds,env,H=>
  match H[id]? with
  |some e=>match e.ro||e.isLp with|false=>UH r ds env (H.set id .dead)|true=>none
  |none=>none
 | .k tmp v::r,ds,env,H=>UH r ds ((tmp,.c (.raw v))::env) H
 | .y id s::r,ds,env,H=>
  match H[id]? with
  |some (.lp false F n e ps a b _)=>UH r ds env (H.set id (.lp false F n e ps a b s))
  |_=>none
 | .m id _ _::r,⟨.list (.prod (.cons (.int k) (.one t))),es⟩::ds,env,H=>
  match H[id]? with
  |some (.mp false k' t' _)=>match decide (k'=k)&&t'.beq t with|true=>UH r ds env (H.set id (.mp false k t es))|false=>none
  |_=>none
 |_,_,_,_=>none
def AAb(e e':Dl):Prop:=e'= .dead\/(∃b cs b' cs',e= .live b cs/\e'= .live b' cs'/\DQ (lvs cs) (lvs cs'))\/(∃b t l n v b' v',e= .buf b t l n v/\e'= .buf b' t l n v')\/(∃ro ro' F n env ps a b s,e= .lp ro F n env ps a b s/\e'= .lp ro' F n env ps a b s)\/(∃b b' k t es,e= .mp b k t es/\e'= .mp b' k t es)
def HR(H1 H:An)(rest:List Nat):Prop:= ∀(j:Nat) (e':Dl),NT j rest=false->H[j]? =some e'-> ∃e,H1[j]? =some e/\AAb e e'
theorem Pg:NT N (n::a)=false↔N≠n/\NT N a=false:=by simp[NT];by_cases h:N=n;simp_all;grind[beq_false]
theorem jr(j:D.ok b)(h:od b N D=true): ∃H t l n a,D= .own N a t n/\b[N]? =some (.buf H t l n a):=by unfold od at h;split at h;rename_i k a t n;split at h;rename_i i;have e:=DN i;subst e;split at h;rename_i H o l m d g;have f:=DN h;subst f;have⟨rfl,rfl⟩:=(j.2 _ _ _ _ _ g).2 rfl;grind;cases h;cases h;cases h
theorem U1{b:Bool}{l:List p.D}(h:A[N]? =some (.buf b p l n y)):S0 A N y p n:=by refine⟨?_,λro g e f c d=>?_⟩;grind;grind
theorem fY{q H:An}{i:List Nat}(hr:HR q H i): ∀{p:List Part} {m:List Ba} {a b j:List DV} {f:List Ba},lok q m→jp q i p m=some a→ly H p (a++b)=some (f,j)→
  j=b/\DQ (lvs m) (lvs f)/\lok H f
 |[],[],a,b,j,f,ok,h,k=>by grind[jp,Option.some.injEq,ly,Prod.mk.injEq,DQ.refl,zJ]
 |[],_::_,a,b,j,f,ok,h,k=>by simp[jp]at h
 | .d t::p,m,a,b,j,f,ok,h,k=>by simp[jp]at h;split at h;rename_i x R z;split at h;rename_i S u;cases h;obtain⟨Q,rfl,M⟩:=t.mk_spec _ _ _ z;simp[Dn,ly]at k;split at k;rename_i E r v;obtain⟨rfl,rfl⟩:=k;have⟨q1,q2,q3⟩:=fY hr (IY.1 ok).2 u v;refine⟨q1,?_,IY.2 ⟨t.lvs_ok x,q3⟩⟩;rw[Gi,Gi,t.lvs_enc];exact M.append q2;cases k;cases h;cases h
 | .o id::p,c::m,a,b,j,f,ok,h,k=>by
  simp[jp]at h;split at h
  ·rename_i s;simp[BO,Ut]at s;obtain⟨O,t,l,n,N,rfl,L⟩:=jr (ok c (by simp)) s.1;simp[ly]at k;split at k
   ·rename_i P t2 l2 Z D B;split at k
    ·rename_i E r v;obtain⟨rfl,rfl⟩:=k;have⟨q1,q2,q3⟩:=fY hr (λx z=>ok x (by simp[z])) h v;have⟨e,C,w⟩:=hr id _ s.2 B;rw[L]at C;cases C;rcases w with g|⟨_,_,_,_,g,_⟩|⟨_,_,_,_,_,_,_,g,K⟩|⟨_,_,_,_,_,_,_,_,_,g,_⟩|⟨_,_,_,_,_,g,_⟩;cases g;cases g;rotate_left;cases g;cases g;injection g with T F U G V;injection K with W I X J Y;subst F G I J;refine⟨q1,?_,λy A=>?_⟩;rw[HN,HN];exact(DQ.refl _).append q2;rcases Am.1 A with rfl|A;exact U1 B;exact q3 y A
    cases k
   cases k
  cases h
structure IS(env1:BS)(H1:An)(slots:List S2)(env:BS)(H:An)(env2:BS)(H2:An):Prop where
 get: ∀t,NT t (mb slots)=false->env2.get t=env.get t
 ok:O0 env2 H2
 env: ∀p∈env2,∃v,(p.1,v)∈env1/\UR v.enc p.2.enc
 hr:HR H1 H2 []
 step:B0 H H2
 len:H2.length=H.length
 same: ∀j,NT j (Ks slots)=false->H2[j]? =H[j]?
def dd{t:Nat}{v:TV}: ∀{env:BS},env.get t=v->v≠Se->(t,v)∈env
 |[],h,hv=>absurd h.symm hv
 |(k,u)::r,h,hv=>by simp only[BS.get]at h;split at h;simp_all;exact CD _ (dd h hv)
def heap_set(H:B0 b (b.set N C))(ok: ∀x∈b,x.ok b)(a:C.ok (b.set N C)): ∀x∈b.set N C,x.ok (b.set N C):=by intro x c;rcases Nk c with h|rfl;exact H.ent (ok x h);exact a
theorem HR.set{a H:An}{id:Nat}{d:Dl}(h:HR a H (id::z))(g:a[id]? =some C)(hr:AAb C d):HR a (H.set id d) z:=by intro j x f c;rw[Uv]at c;split at c;grind;rename_i b;exact h j x (Pg.2 ⟨λq=>b q.symm,f⟩) c
theorem ve.set{H c:An}{id:Nat}{i:Dl}(h:ve H c)(l:id<H.length)(p: ∀ro F n env f a b s,c[id]? =some (.lp ro F n env f a b s)-> ∃g o,i= .lp g F n env f a b o):ve (H.set id i) c:=by intro j k ro F n env f a b s m;rw[Zk]at k;by_cases d:j=id;grind;rw[D1 λe=>d e.symm];exact h j k _ _ _ _ _ _ _ _ m
variable {l:List S2}
theorem kA(id:Nat){g:An}(c:A[id]? =some C)(h:(C.ro||C.isLp)=false)(m:A.length≤b.length)(lp:ve A b)
  (hr:HR b A (id::Ks l)) (ok:O0 I A) (q0:O0 I (A.set id .dead)->ve (A.set id .dead) b->HR b (A.set id .dead) (Ks l)->IS f b l I (A.set id .dead) M g):IS f b (.x id::l) I A M g:=by
 have H:C.isLp=false:=by grind
 have a:B0 A (A.set id .dead):=B0.set c (by grind) λ_ _ _ _ _ C=>by cases C
 have d:id<b.length:=by grind
 have q:=q0 ⟨a.env ok.env,heap_set a ok.heap trivial⟩ (lp.set (Gv c) λ_ _ _ _ _ _ _ _ k=>by have⟨r,n,q⟩:=lp id (Gv c) _ _ _ _ _ _ _ _ k;rw[c]at q;injection q with q;rw[q]at H;cases H) (HR.set hr (Ay d) (.inl rfl));refine⟨q.get,q.ok,q.env,q.hr,a.trans q.step,by simpa using q.len,λj i=>?_⟩;have:=Pg.1 i;rw[q.same j this.2,D1 λC=>this.1 C.symm]
def NS{env1:BS}{I:An}(o:O0 env1 I): ∀{slots:List S2} {B:List DV} {env:BS} {H:An} {env2:BS} {E:An},XV env1 I slots=some B→UH slots B env H=some (env2,E)→O0 env H→
  H.length<=I.length->(∀p∈env,∃v,(p.1,v)∈env1/\UR v.enc p.2.enc)->HR I H (Ks slots)->ve H I->IS env1 I slots env H env2 E
 |[],B,env,H,env2,E,h,k,ok,hl,he,hr,lp=>by simp only[XV,Ai]at h;subst h;simp only[UH,Ai,EU]at k;obtain⟨rfl,rfl⟩:=k;exact⟨λ_ _=>rfl,ok,he,hr,B0.refl _,rfl,λ_ _=>rfl⟩
 | .t tmp ty::r,B,env,H,env2,E,h,k,ok,hl,he,hr,lp=>by
  simp[XV]at h;split at h;rename_i x d M U;cases h;simp[UH]at k;have f:O0 ((tmp,ty.tv x)::env) H:=⟨λp z=>by rcases Am.1 z with rfl|z;exact ty.tv_ok x;exact ok.env p z,ok.heap⟩
  have q:=NS o U k f hl (λp z=>by rcases Am.1 z with rfl|z;refine⟨env1.get tmp,dd rfl λe=>?_,?_⟩;rw[e]at M;cases ty<;>cases M;simp[ty.tv_enc];exact LM M;exact he p z) hr lp;refine⟨λt K=>?_,q.ok,q.env,q.hr,q.step,q.len,q.same⟩;have:=Pg.1 K;rw[q.get t this.2];simp[BS.get,beq_false λe=>this.1 e.symm];cases h
 | .g tmp id::r,B,env,H,env2,E,h,k,ok,hl,he,hr,lp=>by
  simp[XV]at h;split at h
  ·rename_i x M;split at h
   ·rename_i J;simp[BO,Ut]at J;have ad:x.ok I:=jI o.env tmp x (by rw[M];simp[TV.refs]);obtain⟨b1,t,l,n,al,rfl,C⟩:=jr ad J.1;simp[UH]at k;split at k
    ·rename_i b2 S l2 n2 W h2;have⟨e,V,Z⟩:=hr id _ J.2 h2;rw[C]at V;cases V;rcases Z with i|⟨_,_,_,_,i,_⟩|⟨_,_,_,_,_,_,_,i,h1⟩|⟨_,_,_,_,_,_,_,_,_,i,_⟩|⟨_,_,_,_,_,i,_⟩;cases i;cases i;rotate_left;cases i;cases i;injection i with e1 e2 e3 e4 e5;injection h1 with f1 f2 f3 f4 f5;subst e2 e4 f2 f4;have f:O0 ((tmp,.c (.own id W S n2))::env) H:=⟨λp z=>by rcases Am.1 z with rfl|z;exact JR (U1 h2);exact ok.env p z,ok.heap⟩
     have q:=NS o h k f hl (λp z=>by rcases Am.1 z with rfl|z;exact⟨_,dd M (λe=>by cases e),UR.refl _⟩;exact he p z) hr lp;refine⟨λt K=>?_,q.ok,q.env,q.hr,q.step,q.len,q.same⟩;have:=Pg.1 K;rw[q.get t this.2];simp[BS.get,beq_false λe=>this.1 e.symm]
    cases k
   cases h
  cases h
 | .p id R::r,B,env,H,env2,E,h,k,ok,hl,he,hr,lp=>by
  simp[XV]at h;split at h;rename_i b cs C;split at h;rename_i a b1 ha J;cases h;simp[UH]at k;split at k;rename_i ap i;split at k;rename_i N T hi;have Y:lok I cs:=by simpa only[Dl.ok]using o.heap _ (BJ C)
  have⟨rfl,q2,q3⟩:=fY hr Y ha hi;have D:B0 H (H.set id (.live false N)):=B0.set i rfl λ_ _ _ _ _ e=>by cases e
  have A:HR I (H.set id (.live false N)) (Ks r):=HR.set hr C (.inr (.inl ⟨_,_,_,_,rfl,rfl,q2⟩));have f:O0 env (H.set id (.live false N)):=⟨D.env ok.env,heap_set D ok.heap (by simpa only[Dl.ok]using D.lok q3)⟩
  have q:=NS o J k f (by simpa using hl) he A (lp.set (Gv i) λ_ _ _ _ _ _ _ _ G=>by rw[C]at G;cases G);refine⟨q.get,q.ok,q.env,q.hr,D.trans q.step,by simpa using q.len,λj O=>?_⟩;have:=Pg.1 O;rw[q.same j this.2,D1 λe=>this.1 e.symm];cases k;cases k;cases h;cases h
 | .u id ty::r,B,env,H,env2,E,h,k,ok,hl,he,hr,lp=>by
  simp[XV]at h;split at h;rename_i b t l n al C;split at h;rename_i T J U;cases h;simp[UH]at k;split at k;rename_i t' l0 n0 L i;split at k;rename_i K;have e:=Ty.beq_eq _ _ K;subst e;have hn:n=l.length:=by simpa only[Dl.ok]using o.heap _ (BJ C)
  have D:B0 H (H.set id (.buf false t' l l.length (L+1))):=B0.set i rfl λro S l2 n2 v2 e=>by cases e;exact⟨_,_,_,_,rfl,.inl (by omega)⟩
  have A:HR I (H.set id (.buf false t' l l.length (L+1))) (Ks r):=HR.set hr C (.inr (.inr (.inl ⟨_,_,_,_,_,_,_,rfl,by rw[hn]⟩)));have f:O0 env (H.set id (.buf false t' l l.length (L+1))):=⟨D.env ok.env,heap_set D ok.heap rfl⟩
  have q:=NS o U k f (by simpa using hl) he A (lp.set (Gv i) λ_ _ _ _ _ _ _ _ G=>by rw[C]at G;cases G);refine⟨q.get,q.ok,q.env,q.hr,D.trans q.step,by simpa using q.len,λj O=>?_⟩;have:=Pg.1 O;rw[q.same j this.2,D1 λe=>this.1 e.symm];cases k;cases k;cases h;cases h
 | .x id::r,B,env,H,env2,E,h,k,ok,hl,he,hr,lp=>by
  simp[XV]at h;cases B with
  |nil=>simp[UH]at k;split at k;rename_i e i;split at k;rename_i P;exact kA id i P hl lp hr ok λf Q A=>NS o h k f (by simpa using hl) he A Q;cases k;cases k
  |cons d B=>simp[UH]at k;split at k;rename_i e i;split at k;rename_i P;exact kA id i P hl lp hr ok λf Q A=>NS o h k f (by simpa using hl) he A Q;cases k;cases k
 | .k tmp w::r,B,env,H,env2,E,h,k,ok,hl,he,hr,lp=>by
  have k':UH r B ((tmp,.c (.raw w))::env) H=some (env2,E):=by cases B<;>simpa only[UH]using k
  simp[XV]at h;split at h;rename_i w' M;split at h;rename_i J;have e:=za J;subst e;have f:O0 ((tmp,.c (.raw w))::env) H:=⟨λp z=>by rcases Am.1 z with rfl|z;exact JR trivial;exact ok.env p z,ok.heap⟩
  have hw:w≠ .any:=by rintro rfl;cases J
  have q:=NS o h k' f hl (λp z=>by rcases Am.1 z with rfl|z;refine⟨_,dd M (λe=>?_),UR.refl _⟩;injection e with e;injection e with e;exact hw e;exact he p z) hr lp;refine⟨λt K=>?_,q.ok,q.env,q.hr,q.step,q.len,q.same⟩;have:=Pg.1 K;rw[q.get t this.2];simp[BS.get,beq_false λe=>this.1 e.symm];cases h;cases h
 | .y id s::r,B,env,H,env2,E,h,k,ok,hl,he,hr,lp=>by
  simp[XV]at h;split at h;rename_i ax F1 n1 e1 p1 a1 b1 s1 C;split at h;rename_i J;have e0:=LS.beq_eq J;subst e0;obtain⟨F,n,e,R,a,b,s0,i,k'⟩: ∃F n e R a b s0,H[id]? =some (.lp false F n e R a b s0)/\UH r B env (H.set id (.lp false F n e R a b s))=some (env2,E):=by cases B<;>simp[UH]at k<;>split at k<;>first|exact⟨_,_,_,_,_,_,_,‹_›,k⟩|cases k
  have⟨a0,s2,q⟩:=lp id (Gv i) _ _ _ _ _ _ _ _ C;rw[i]at q;injection q with q;injection q with _ q2 q3 q4 q5 q6 q7 _;subst q2 q3 q4 q5 q6 q7;have D:B0 H (H.set id (.lp false F n e R a b s)):=B0.set i rfl (λ_ _ _ _ _ e=>by cases e) λ_ _ _ _ _ _ _ _ e=>by cases e;exact⟨_,_,rfl⟩
  have A:HR I (H.set id (.lp false F n e R a b s)) (Ks r):=HR.set hr C (.inr (.inr (.inr (.inl ⟨_,_,_,_,_,_,_,_,_,rfl,rfl⟩))));have f:O0 env (H.set id (.lp false F n e R a b s)):=⟨D.env ok.env,heap_set D ok.heap (by have:=ok.heap _ (BJ i);simpa only[Dl.ok]using this)⟩
  have q:=NS o h k' f (by simpa using hl) he A (lp.set (Gv i) λ_ _ _ _ _ _ _ _ G=>by rw[C]at G;injection G with G;cases G;exact⟨_,_,rfl⟩);refine⟨q.get,q.ok,q.env,q.hr,D.trans q.step,by simpa using q.len,λj O=>?_⟩;have:=Pg.1 O;rw[q.same j this.2,D1 λe=>this.1 e.symm];cases h;cases h
 | .m id kk ty::r,B,env,H,env2,E,h,k,ok,hl,he,hr,lp=>by
  simp[XV]at h;split at h;rename_i b k1 t1 X C;split at h;rename_i T J U;cases h;simp[UH]at k;split at k;rename_i k2 S ar i;split at k;rename_i K;simp[BO,decide_eq_true_eq]at K;have⟨rfl,K⟩:=K;have e:=Ty.beq_eq _ _ K;subst e;have D:B0 H (H.set id (.mp false k2 S X)):=B0.set i rfl λ_ _ _ _ _ e=>by cases e
  have A:HR I (H.set id (.mp false k2 S X)) (Ks r):=HR.set hr C (.inr (.inr (.inr (.inr ⟨_,_,_,_,_,rfl,rfl⟩))));have f:O0 env (H.set id (.mp false k2 S X)):=⟨D.env ok.env,heap_set D ok.heap trivial⟩
  have q:=NS o U k f (by simpa using hl) he A (lp.set (Gv i) λ_ _ _ _ _ _ _ _ G=>by rw[C]at G;cases G);refine⟨q.get,q.ok,q.env,q.hr,D.trans q.step,by simpa using q.len,λj O=>?_⟩;have:=Pg.1 O;rw[q.same j this.2,D1 λe=>this.1 e.symm];cases k;cases k;cases h;cases h
def XU(n:Nat):List Ba->Bool
 |[]=>true
 | .own id _ _ _::r=>Nat.blt id n&&XU n r
 | .raw v::r=>v.idsAll (λid=>Nat.blt id n)&&XU n r
 |_::r=>XU n r
mutual
def nP(n:Nat):TV->Bool
 | .c x=>XU n [x]
 | .g cs=>XU n cs
 | .aptr id .. =>Nat.blt id n
 | .bptr id .. =>Nat.blt id n
 | .vptr cs post=>XU n cs&&AV.idsAllL (λid=>Nat.blt id n) post
 | .tup vs=>oW n vs
def oW(n:Nat):List TV->Bool
 |[]=>true
 |v::r=>nP n v&&oW n r
end
def mq(n:Nat):BS->Bool
 |[]=>true
 |(_,v)::r=>nP n v&&mq n r
def eL(n:Nat):An->Bool
 |[]=>true
 | .live _ cs::r=>XU n cs&&eL n r
 | .lp _ _ _ env _ _ _ _::r=>mq n env&&eL n r
 |_::r=>eL n r
def gJ(h:Nat.blt N n=true):decide (N<n)=true:=by simp_all
def dY(h:Pure i)(n:Nat):(i.idsAll λid=>decide (id<n))=true:=PS (λ_ h=>by cases h) i h
def qa: ∀{x:Ba},XU n [x]=true->(∀v∈x.enc,(v.idsAll λid=>decide (id<n))=true)/\(x.one.idsAll λid=>decide (id<n))=true
 | .bl _,_=>⟨λv b=>by simp only[Ba.enc,A3]at b;subst b;rfl,rfl⟩
 | .it _ _,_=>⟨λv b=>by simp only[Ba.enc,A3]at b;subst b;rfl,rfl⟩
 | .st _,_=>⟨λv b=>by simp only[Ba.enc,A3]at b;subst b;rfl,rfl⟩
 | .ls t l,_=>⟨λv b=>by simp only[Ba.enc,A3]at b;subst b;exact dY ((Ty.list t).enc_pure l) n,dY ((Ty.list t).enc_pure l) n⟩
 | .ar m t a,_=>by have h:=dY ((Ty.arr m t).enc_pure a) n;refine⟨λv b=>?_,h⟩;exact((Db _ _).1 h) v b
 | .own id ver t m,h=>by simp only[XU,OS]at h;have:=gJ h;exact⟨λv b=>by simp only[Ba.enc,A3]at b;subst b;exact this,this⟩
 | .nil,_=>⟨λv b=>by simp only[Ba.enc,A3]at b;subst b;rfl,rfl⟩
 | .raw v,h=>by simp only[XU,OS]at h;have:=PS (λ_ h=>gJ h) v h;exact⟨λu c=>by simp only[Ba.enc,A3]at c;subst c;exact this,this⟩
def nO{r:List Ba}(h:XU n (D::r)=true):XU n [D]=true/\XU n r=true:=by cases D<;>simp only[XU,OS,BO]at h⊢ <;>first|exact h|exact⟨trivial,h⟩
def dr{n:Nat}: ∀{b:List Ba},XU n b=true->AV.idsAllL (λid=>decide (id<n)) (lvs b)=true
 |[],_=>rfl
 |x::r,h=>by obtain⟨c,d⟩:=nO h;rw[HN,Db];intro v a;rcases Ar.1 a with a|a;exact(qa c).1 v a;exact((Db _ _).1 (dr d)) v a
mutual
theorem aU{n:Nat}: ∀{v:TV},nP n v=true->(v.enc.idsAll λid=>decide (id<n))=true
 | .c x,h=>(qa h).2
 | .g cs,h=>dr h
 | .aptr ..,h=>gJ h
 | .bptr ..,h=>gJ h
 | .vptr cs post,h=>by simp only[nP,BO]at h;simp only[TV.enc,AV.idsAll];rw[Db];intro v a;rcases Ar.1 a with a|a;exact((Db _ _).1 (dr h.1)) v a;exact((Db _ _).1 (Il (λ_ h=>gJ h) post h.2)) v a
 | .tup vs,h=>by simp only[nP]at h;simp only[TV.enc,AV.idsAll];exact jn h
theorem jn{n:Nat}: ∀{a:List TV},oW n a=true->AV.idsAllL (λid=>decide (id<n)) (TV.encL a)=true
 |[],_=>rfl
 |v::r,h=>by simp only[oW,BO]at h;simp only[TV.encL,AV.idsAllL,BO];exact⟨aU h.1,jn h.2⟩
end
def dn{n:Nat}: ∀{env:BS},mq n env=true-> ∀p∈env,nP n p.2=true
 |[],_,p,a=>by cases a
 |(t,v)::r,h,p,a=>by simp only[mq,BO]at h;rcases Am.1 a with rfl|a;exact h.1;exact dn h.2 p a
def dp{n:Nat}: ∀{H:An},eL n H=true-> ∀e∈A5 H,(e.idsAll λid=>decide (id<n))=true
 |x::r,h,e,c=>by
  have g:eL n r=true:=by cases x<;>simp only[eL,BO]at h<;>first|exact h|exact h.2
  simp only[A5,BZ,Am]at c;rcases c with rfl|c;cases x with
  |dead=>rfl
  |live b o=>simp only[eL,BO]at h;exact dr h.1
  |buf b t l m k=>simp only[Dl.enc,ET.idsAll];rw[Db];intro v d;obtain⟨u,j,d⟩:=HX.1 d;obtain⟨y,_,rfl⟩:=Bl.1 j;have h:=dY (t.E.pure y) n;cases q:t.E.f y<;>simp_all[AV.idsAll,Db,AV.cells]
  |mp=>rfl
  |lp ro F m env w a b s=>simp only[eL,BO]at h;simp only[Dl.enc,ET.idsAll,Br,List.all_map,Fx];exact λp i=>aU (dn h.1 p i)
  exact dp g e c
def F3.cut{N n0:Nat}{env:Env}{H:As}(hn:n0≤H.length)(d: ∀t v,(t,v)∈env→(v.idsAll λid=>decide (id<n0))=true)
  (c: ∀e∈H.take n0,(e.idsAll λid=>decide (id<n0))=true):F3 N n0 env H env (H.take n0):=
 ⟨by simp;omega,λX g a w s=>⟨g,⟨s.sim.trunc hn c,λt v m=>⟨(s.env t v m).1,(s.env t v m).2.trunc hn (d t v m)⟩,s.size⟩,λ_ _=>⟨rfl,rfl,rfl⟩,λB b=>bP b⟩⟩
theorem nS{e:ET}(h:(A5 b)[N]? =some e): ∃x,b[N]? =some x/\e=x.enc:=by grind[A5]
theorem HR.rel(o:A.length<=b.length)(hr:HR b A [])(x:Cx):Rm x x (A5 b) (A5 A++(A5 b).drop A.length):=by
 refine⟨by simp[A5];omega,λj w z=>?_⟩;have same: ∀{y:Dl},b[j]? =some y->w=y.enc->w= .dead\/(∃g p c,(A5 b)[j]? =some (.live g p)/\w= .live g c/\c.length=p.length/\ ∀(i:Nat) (f:AV),c[i]? =some f-> ∃v,p[i]? =some v/\Conv x x v f)\/((A5 b)[j]? =some w/\ ∀g p,w≠ .live g p):=by
  intro y D q;have d:(A5 b)[j]? =some y.enc:=by grind[A5]
  subst q;cases y with
  |dead=>exact .inl rfl
  |live u p=>exact .inr (.inl ⟨_,_,_,d,rfl,rfl,λi f h=>⟨f,h,λ_ r=>r⟩⟩)
  |buf u t l m H=>exact .inr (.inl ⟨_,_,_,d,rfl,rfl,λi f h=>⟨f,h,λ_ r=>r⟩⟩)
  |lp=>exact .inr (.inr ⟨d,λ_ _ h=>by cases h⟩)
  |mp=>exact .inr (.inr ⟨d,λ_ _ h=>by cases h⟩)
 rcases Ap j A.length with h|h;rw[B6 (by rw[CR];exact h)]at z;obtain⟨y,D,rfl⟩:=nS z;obtain⟨e,q,B⟩:=hr j y rfl D;rcases B with rfl|⟨u,p,C,c,rfl,rfl,o⟩|⟨u,t,l,m,v,C,f,rfl,rfl⟩|⟨ro,G,F,n,env,J,a,u,s,rfl,rfl⟩|⟨u,C,k,t,I,rfl,rfl⟩;exact .inl rfl;refine .inr (.inl ⟨0,lvs p,lvs c,by simp only[A5,CL,q,Be,Dl.enc],rfl,o.1,λi f E=>?_⟩);obtain⟨v,q1,q2⟩:=o.2 i f E;exact⟨v,q1,q2 x⟩;exact same q rfl;exact same q rfl;exact same q rfl;rw[Cr (by rw[CR];exact h),OU]at z;rw[CR]at z;grind[nS]
def IS.weak{N:Nat}{b:An}{H:An}(s:IS f b l I H M A)(k:H.length≤b.length)(n:mq H.length M=true)(o:eL H.length A=true):
  F3 N H.length (Br f) (A5 b) (Br M) (A5 A):=by
 have g:A.length<=b.length:=by rw[s.len];exact k
 have x:F3 N (A5 b).length (Br f) (A5 b) (Br M) (A5 A++(A5 b).drop A.length):=by refine TY (by simp[A5];omega) λX h w _=>?_;have q:=(HR.rel g s.hr (cx X h (A5 b) w)).onto;refine⟨q,λt z m=>?_⟩;obtain⟨p,j,e⟩:=Bl.1 m;injection e with d a;subst d a;obtain⟨v,u,i⟩:=s.env p j;exact⟨v.enc,Bl.2 ⟨_,u,rfl⟩,λc r=>(i _ c r).later q.later⟩
 have B:(A5 A++(A5 b).drop A.length).take H.length=A5 A:=by rw[<-s.len,<-CR A,O6];rfl
 have y:F3 N H.length (Br M) (A5 A++(A5 b).drop A.length) (Br M) (A5 A):=by have:=F3.cut (N:=N) (n0:=H.length) (env:=Br M) (H:=A5 A++(A5 b).drop A.length) (by simp[A5,s.len]) (λt v m=>by obtain⟨p,j,e⟩:=Bl.1 m;injection e with d a;subst d a;exact aU (dn n p j)) (by rw[B];exact dp o);rwa [B]at this
 exact(x.of_le (by rw[CR];exact k)).trans y
def qI:Exit->Exit->Bool
 | .normal,.normal=>true
 | .exit a,.exit b=>Nat.beq a b
 | .ret,.ret=>true
 |_,_=>false
def lT{b:Exit}(h:qI x b=true):x=b:=by cases x<;>cases b<;>simp only[qI]at h<;>first|rfl|cases h|exact congrArg _ (DN h)
structure Hint where
 kind:Nat
 key:Nat
 virt:List (Nat×Ty)
 virtC:List (Nat×Nat×Ty)
 kill:List Nat
 drop:List Nat
 slots:List S2
 exits:List (Exit×List S2)
def Hint.tmps(h:Hint):List Nat:=h.drop++h.virt.map (·.1)++mb h.slots++h.exits.flatMap λp=>mb p.2
def gZ(kind key:Nat):List Hint->Option Hint
 |[]=>none
 |h::r=>match Nat.beq kind h.kind&&Nat.beq key h.key with|true=>some h|false=>gZ kind key r
def qM:Code->Option Nat
 | .region id _ _=>some id
 | .seq a b=>match qM a with|some x=>some x|none=>qM b
 | .cond _ a b=>match qM a with|some x=>some x|none=>qM b
 | .block _ b=>qM b
 | .loop b=>qM b
 |_=>none
def ln:Code->Bool
 | .seq a _=>ln a
 | .block _ b=>ln b
 | .loop _=>true
 |_=>false
def ABq(b:Code)(r:Nat)(hs:List Hint):Option Hint:=
 match ln b with
 |true=>(match gZ 5 r hs with|some h=>some h|none=>gZ 0 r hs)
 |false=>gZ 0 r hs
def bK(hs:List Hint):Code->Option Hint
 | .loop b=>match qM b with|some r=>ABq b r hs|none=>none
 | .block id _=>gZ 1 id hs
 | .cond _ a b=>match qM (.seq a b)with|some r=>gZ 2 r hs|none=>none
 | .region id _ _=>gZ 6 id hs
 |_=>none
def j8(hs:List Hint)(c:Code):List Nat:=
 match bK hs c with
 |some h=>h.tmps
 |none=>[]
def kg(hs:List Hint):Code->Code->Option Hint
 | .region id _ _,.cond _ _ _=>gZ 4 id hs
 |_,_=>none
def mc(hs:List Hint)(a b:Code):List Nat:=
 match kg hs a b with
 |some h=>h.tmps
 |none=>[]
def Pa(hs:List Hint):Code->List Nat
 | .region id ops d=>gX ops.toList++j8 hs (.region id ops d)
 | .seq a b=>(Pa hs a++Pa hs b)++mc hs a b
 | .cond c a b=>Pa hs a++Pa hs b++j8 hs (.cond c a b)
 | .block id b=>Pa hs b++j8 hs (.block id b)
 | .loop b=>Pa hs b++j8 hs (.loop b)
 |_=>[]
def pj:TV->Bool
 | .c (.raw .any)=>true
 |_=>false
def vz(h:pj w=false):w≠Se:=by rintro rfl;cases h
def ox(H:An)(id:Nat):Bool:=match H[id]? with|some (.buf false _ _ _ _)=>true|_=>false
def bh(A S:List Nat)(H:An)(t:Nat)(v:TV):Bool:=
 match NT t A with
 |true=>false
 |false=>match pj v with
  |true=>false
  |false=>(KD v.refs).all λid=>!(NT id S&&ox H id)
def PB(A S:List Nat)(H:An):BS->BS
 |[]=>[]
 |(t,v)::r=>match bh A S H t v with|true=>(t,v)::PB A S H r|false=>PB A S H r
def Lo(S:List Nat):Nat->An->An
 |_,[]=>[]
 |j,e::r=>(match NT j S with|true=>e|false=>e.lock)::Lo S (j+1) r
def jQ:BS->Bool
 |[]=>true
 |(t,_)::r=>!NT t (r.map (·.1))&&jQ r
theorem TQ(h:N∉a):NT N a=false:=by
 cases j:NT N a with
 |false=>rfl
 |true=>induction a<;>grind[NT,Nat.eq_of_beq_eq_true]
def Wt: ∀{env:BS},jQ env=true->(env.map (·.1)).Nodup
 |[],_=>O5
 |(t,v)::r,h=>by simp only[jQ,BO,Ut]at h;exact Fe.2 ⟨Rj h.1,Wt h.2⟩
theorem dl{A S:List Nat}{H:An}: ∀{env:BS},(env.map (·.1)).Nodup-> ∀t,bh A S H t (env.get t)=true->(PB A S H env).get t=env.get t
 |[],_,t,_=>rfl
 |(u,v)::r,nd,t,h=>by have a:=Fe.1 nd;simp only[BS.get]at h⊢;by_cases b:u=t;grind[Nat.beq_refl,PB,BS.get];rw[beq_false b]at h⊢;have c:=dl a.2 t h;grind[PB,BS.get,beq_false]
theorem Pb{A S:List Nat}{H:An}: ∀{env:BS},(env.map (·.1)).Nodup-> ∀p∈PB A S H env,env.get p.1=p.2/\bh A S H p.1 p.2=true/\p∈env
 |(u,v)::r,nd,p,h=>by
  have a:=Fe.1 nd;have tail:p∈PB A S H r->BS.get ((u,v)::r) p.1=p.2/\bh A S H p.1 p.2=true/\p∈(u,v)::r:=λh=>by obtain⟨q1,q2,q3⟩:=Pb a.2 p h;grind[BS.get,beq_false]
  grind[PB,BS.get,Nat.beq_refl]
theorem Jv{S:List Nat}: ∀(H:An) (i j:Nat),(Lo S i H)[j]? =(H[j]?).map λe=>match NT (i+j) S with|true=>e|false=>e.lock
 |[],i,j=>by simp[Lo]
 |e::r,i,0=>by simp[Lo]
 |e::r,i,j+1=>by simp only[Lo,nL];rw[Jv r (i+1) j];grind
def Jw{S:List Nat}: ∀(H:An) (i:Nat),(Lo S i H).length=H.length
 |[],_=>rfl
 |e::r,i=>by simp[Lo,Jw r]
theorem nk{S:List Nat}: ∀(H:An) (i:Nat),A5 (Lo S i H)=A5 H
 |[],_=>rfl
 |e::r,i=>by have:=nk (S:=S) r (i+1);grind[A5,Lo,mG]
theorem mH(h:S0 b N n p y):S0 (Lo a 0 b) N n p y:=by
 refine⟨by rw[Jw];exact h.1,λro r l H f S=>?_⟩;rw[Jv]at S;cases d:b[N]? with
 |none=>grind
 |some e=>
  rw[d]at S;simp at S;split at S;subst S;exact h.2 _ _ _ _ _ d;cases e with
  |dead=>cases S
  |live c k=>cases S
  |lp=>cases S
  |mp=>cases S
  |buf c s o q u=>injection S with _ g m i j;subst g i j;exact h.2 _ _ _ _ _ d
def nl(h:D.ok b):D.ok (Lo a 0 b):=by
 cases D with
 |own id S t n=>exact mH h
 |_=>trivial
theorem gz(ok:O0 f b):O0 f (Lo a 0 b):=by
 refine⟨λp o x g=>nl (ok.env p o x g),λe m=>?_⟩;obtain⟨j,S⟩:=F8.1 m;rw[Jv]at S;cases i:b[j]? with
 |none=>grind
 |some c=>
  rw[i]at S;simp at S;have d:=ok.heap c (BJ i);have H:c.ok (Lo a 0 b):=by
   cases c with
   |dead=>trivial
   |live q k=>exact λx g=>nl (d x g)
   |buf q t l n h=>exact d
   |lp=>exact d
   |mp=>exact d
  split at S;grind;subst S;cases c with
  |dead=>trivial
  |live q k=>exact H
  |buf q t l n h=>exact H
  |lp=>exact H
  |mp=>exact H
theorem zI(H:An):ve (Lo a 0 H) H:=by intro id c ro F n env d S b s h;rw[Jv,h];split;grind;exact⟨_,_,rfl⟩
theorem wz(H:An):ve H (Lo a 0 H):=by
 intro id d ro F n env f S b s h;rw[Jv]at h;cases c:H[id]? with
 |none=>grind
 |some e=>
  rw[c]at h;simp at h;split at h;grind;cases e with
  |lp=>injection h with _ q2 q3 q4 q5 q6 q7 _;grind
  |_=>cases h
def fu{id a n:Nat}{t:Ty}: ∀{b:List Ba},Ba.own id a t n∈b->id∈KD b
 |x::r,h=>by rcases Am.1 h with rfl|h;exact JK;have:=fu h;cases x<;>simp only[KD]<;>first|exact this|exact CD _ this
def qX(h:bh a z b N w=true)(m:w.ok b)(o:B0 (Lo z 0 b) A):gw A w:=by
 intro id p s n g;unfold bh at h;split at h;cases h;split at h;cases h;have H:=Fx.1 h id (fu g);have d:id<b.length:=(m _ g).1;refine o.nb id (by rw[Jw];exact d) λr l q i S=>?_;rw[Jv,D4]at S;cases c:b[id]? with
 |none=>rw[c]at S;cases S
 |some e=>rw[c]at S;simp only[Be,Ai]at S;split at S;rename_i k;subst S;simp only[k,ox,c]at H;cases H;cases e<;>simp only[Dl.lock]at S<;>first|cases S|(injection S with j;cases j)
theorem wx(g:NT N a=false)(i:pj w=false)(j:gw b w):bh a z b N w=true:=by
 unfold bh;rw[g,i];refine Fx.2 λid e=>?_;have: ∃d f n,Ba.own id d f n∈w.refs:=by
  generalize w.refs=cs at e;induction cs with
  |nil=>cases e
  |cons x r m=>
   cases x with
   |own l d f n=>grind[KD]
   |_=>obtain⟨A,S,c,h⟩:=m e;grind
 obtain⟨d,f,n,k⟩:=this;have:=j id d f n k;grind[ox]
def AA1:List Part->List Nat
 |[]=>[]
 | .o id::r=>id::AA1 r
 |_::r=>AA1 r
def fA(env:BS)(H:An):List S2->List Nat
 |[]=>[]
 | .t tmp _::r=>KD (env.get tmp).refs++fA env H r
 | .p id ps::r=>(match H[id]? with|some (.live _ cs)=>(KD cs).filter λi=>!NT i (AA1 ps)|_=>[])++fA env H r
 |_::r=>fA env H r
def pw(sl:List S2)(env:BS)(H:An):Option (DL (bX sl)):=
 match Hy (fA env H sl) env H with
 |(e,h)=>match XV e h sl with|some ds=>sU (bX sl) ds|none=>none
def pG:List (Exit×List S2)->Type
 |[]=>Unit
 |[p]=>DL (bX p.2)
 |p::q::r=>DL (bX p.2)⊕ pG (q::r)
def sZ:(xs:List (Exit×List S2))->Exit->BS->An->Option (pG xs)
 |[],_,_,_=>none
 |[p],x,env,H=>match qI p.1 x with|true=>pw p.2 env H|false=>none
 |p::q::r,x,env,H=>
  match qI p.1 x with
  |true=>(match pw p.2 env H with|some s=>some (.inl s)|none=>none)
  |false=>(match sZ (q::r) x env H with|some s=>some (.inr s)|none=>none)
def AA8{R:Type}:(xs:List (Exit×List S2))->pG xs->(Exit->List S2->List DV->Option R)->Option R
 |[],_,_=>none
 |[p],s,k=>k p.1 p.2 (wU (bX p.2) s)
 |p::q::r,o,k=>Sum.elim (λs=>k p.1 p.2 (wU (bX p.2) s)) (λs=>AA8 (q::r) s k) o
def pH:(xs:List (Exit×List S2))->pG xs->Exit×List S2×List DV
 |[],_=>(.normal,[],[])
 |[p],s=>(p.1,p.2,wU (bX p.2) s)
 |p::q::r,.inl s=>(p.1,p.2,wU (bX p.2) s)
 |p::q::r,.inr s=>pH (q::r) s
def ny{R:Type}: ∀{xs:List (Exit×List S2)} {o:pG xs} {k:Exit->List S2->List DV->Option R} {r:R},AA8 xs o k=some r->k (pH xs o).1 (pH xs o).2.1 (pH xs o).2.2=some r
 |[],_,_,_,h=>by cases h
 |[p],s,k,r,h=>h
 |p::q::t,.inl s,k,r,h=>h
 |p::q::t,.inr s,k,r,h=>ny (xs:=q::t) h
def yH(sl:List S2)(ds:List DV)(env:BS)(H:An):Prop:=XV (Hy (fA env H sl) env H).1 (Hy (fA env H sl) env H).2 sl=some ds
theorem fX{s:DL (bX l)}(h:pw l f b=some s):yH l (wU (bX l) s) f b:=by grind[pw,yH,jP]
def nz: ∀{xs:List (Exit×List S2)} {x:Exit} {env:BS} {H:An} {o:pG xs},sZ xs x env H=some o→
  (pH xs o).1=x/\yH (pH xs o).2.1 (pH xs o).2.2 env H/\ ∃p∈xs,(pH xs o).2.1=p.2
 |[p],x,env,H,o,h=>by simp only[sZ]at h;split at h;rename_i a;exact⟨lT a,fX h,p,by simp,rfl⟩;cases h
 |p::q::r,x,env,H,o,h=>by simp only[sZ]at h;split at h;rename_i a;split at h;rename_i s b;injection h with h;subst h;exact⟨lT a,fX b,p,by simp,rfl⟩;cases h;split at h;rename_i s b;injection h with h;subst h;obtain⟨q1,q2,c,q3,q4⟩:=nz (xs:=q::r) b;exact⟨q1,q2,c,CD _ q3,q4⟩;cases h
structure rT(A S:List Nat)(env0:BS)(H0:An)(e2:BS)(h2:An):Prop where
 ok:O0 e2 h2
 step:B0 (Lo S 0 H0) h2
 len:h2.length=H0.length
 same: ∀j,NT j S=false->h2[j]? =(Lo S 0 H0)[j]?
 get: ∀p∈PB A S H0 env0,e2.get p.1=p.2
theorem tT{A B S:List Nat}{env0:BS}{a:An}{L:BS}{s:An}(m:O0 env0 a)(nd:(env0.map (·.1)).Nodup)(g:rT A S env0 a L s)
  {env1:BS} {d:An} (G:O0 env1 d) (M:E2 B L s env1 d) (V: ∀t,t∈B->t∈A) {o:List S2} {K:List DV} (X:yH o K env1 d)
  {Hx:An} (J: ∀e∈Hx,e.ok Hx) (y:Hx.length=a.length) (F:ve Hx (Lo S 0 a)) (rx: ∀id c t n,S0 a id c t n->S0 Hx id c t n) (E: ∀(j:Nat) (i:Dl),NT j (Ks o)=false->Hx[j]? =some i->i= .dead\/ ∃e,NT j S=false/\(Lo S 0 a)[j]? =some e/\e.ro=true/\AAb e i)
  {r:BS} {f:An} (Z:UH o K (PB A S a env0) Hx=some (r,f)) (ce:mq a.length r=true) (ch:eL a.length f=true) (N:Nat):
  F3 N a.length (Br env1) (A5 d) (Br r) (A5 f)/\ ∃Q W,IS Q W o (PB A S a env0) Hx r f:=by
 obtain⟨I,z,wf⟩:=Pf (fA env1 d o) G;have u:a.length<=d.length:=by rw[<-g.len];exact M.step.len
 have b:=E2.trans g.ok.env M z;have H: ∀p∈PB A S a env0,p.2.ok Hx:=λp v x E=>by
  have:=m.env p (Pb nd p v).2.2 x E;cases x with
  |own id c t n=>exact rx _ _ _ _ this
  |_=>trivial
 have q:=NS I X Z ⟨H,J⟩ (by rw[y];exact Do u z.step.len) (λp v=>by
  obtain⟨b1,O,P⟩:=Pb nd p v;have hk:=qX O (m.env p P) g.step;have U:NT p.1 A=false:=by grind[bh]
  have k:pj p.2=false:=by grind[bh]
  have Y:=g.get p v;have:=b.same p.1 (λh=>by rw[Dm]at h;exact Rj U (V _ h)) (by grind);rw[Y]at this;exact⟨p.2,dd this (vz k),UR.refl _⟩) (λj i hj C=>by
   have D:j<a.length:=by grind
   rcases E j i hj C with rfl|⟨e,R,s,f,T⟩;exact⟨_,Ay (DB D (Do u z.step.len)),.inl rfl⟩;exact⟨e,b.step.ro j e (by rw[g.same j R];exact s) f,T⟩) (λid l _ _ _ _ _ _ _ _ hq=>by
  obtain⟨ad,s1,q1⟩:=(g.step.trans b.step).lp id (by rw[Jw,<-y];exact l) _ _ _ _ _ _ _ _ hq;exact F id l _ _ _ _ _ _ _ _ q1)
 have w:=q.weak (N:=N) (by rw[y];exact Do u z.step.len) (by grind) (by grind);rw[y]at w;exact⟨((wf N).of_le (by rw[CR];exact u)).trans w,_,_,q⟩
open Classical in
noncomputable def mS{α:Type}(g:List α->Unit->Option (List α))(l:List α):Option (List α):=if∀m,l.Perm m->g m ()=g l ()then g l ()else none
theorem sj{g:List R->Unit->Option (List R)}{l s:List R}(h:mS g l=some s): ∀m,l.Perm m->g m ()=some s:=by grind[mS]
def pI:List Oper->Option (Nat×Nat×Nat×TypeId×TypeId)
 |[⟨some a1,.load ty1 (.tmp c0),_,_,_,none⟩,⟨some a2,.range ty2 (.tmp b1),_,_,_,none⟩]=>match Nat.beq a1 b1 with|true=>some (c0,a1,a2,ty1,ty2)|false=>none
 |_=>none
def mN:List Oper->Option (Nat×Nat×Nat)
 |[⟨some a3,.next (.tmp a2) false,_,_,_,none⟩,⟨some a4,.extract (.tmp b3) 0,_,_,_,none⟩]=>match Nat.beq a3 b3 with|true=>some (a2,a3,a4)|false=>none
 |_=>none
def mO:List Oper->Option (Nat×Nat×Nat×Nat×TypeId×TypeId)
 |[⟨some a5,.entry (.tmp a2),_,_,_,none⟩,⟨some a6,.extract (.tmp b5) 1,_,_,_,none⟩,⟨some a7,.alloc te1,_,_,_,none⟩,⟨none,.store te2 (.tmp b7) (.tmp b6),_,_,_,none⟩]=>
  match Nat.beq a5 b5&&(Nat.beq a6 b6&&Nat.beq a7 b7)with|true=>some (a2,a5,a6,a7,te1,te2)|false=>none
 |_=>none
def mP:List Oper->Option (Nat×Nat×Nat×Nat×Nat×Nat×TypeId×TypeId×TypeId)
 |[⟨some a8,.move (.tmp out),_,_,_,none⟩,⟨some a9,.load te3 (.tmp a7),_,_,_,none⟩,⟨some a10,.buildSlice ts1 1 ⟨[(0,.tmp b9)]⟩,_,_,_,none⟩,
   ⟨some a11,.call {callee:=.builtin .append,args:=⟨[.tmp b8,.tmp b10]⟩,argTypes:=⟨[ts2,ts3]⟩},_,_,_,none⟩,⟨some out2,.assign (.tmp b11),_,_,_,none⟩]=>
  match Nat.beq a8 b8&&(Nat.beq a9 b9&&(Nat.beq a10 b10&&(Nat.beq a11 b11&&(Nat.beq out out2&&Nat.beq ts2 ts3))))with|true=>some (out,a7,a8,a9,a10,a11,te3,ts1,ts2)|false=>none
 |_=>none
def pJ:List Oper->Option (Nat×Nat×Nat×FuncId×FuncId)
 |[⟨some a12,.move (.tmp out),_,_,_,none⟩,⟨some a13,.call {callee:=.value (.func F),args:=⟨[.tmp b12,.func G]⟩,.. },_,_,_,none⟩]=>match Nat.beq a12 b12 with|true=>some (out,a12,a13,F,G)|false=>none
 |_=>none
def kF(h:pI e=some (N,n,y,m,K)):
  ∃l c a f d b,e=[⟨some n,.load m (.tmp N),l,c,a,none⟩,⟨some y,.range K (.tmp n),f,d,b,none⟩]:=by
 unfold pI at h;split at h;split at h<;>simp_all;cases h
def kG(h:mN e=some (N,n,y)):
  ∃l c a f d b,e=[⟨some n,.next (.tmp N) false,l,c,a,none⟩,⟨some y,.extract (.tmp n) 0,f,d,b,none⟩]:=by
 unfold mN at h;split at h;split at h<;>simp_all;cases h
def kH{a7:Nat}(h:mO e=some (N,n,y,a7,m,K)):
  ∃j o a k f b p g c l i d,e=[⟨some n,.entry (.tmp N),j,o,a,none⟩,⟨some y,.extract (.tmp n) 1,k,f,b,none⟩,⟨some a7,.alloc m,p,g,c,none⟩,⟨none,.store K (.tmp a7) (.tmp y),l,i,d,none⟩]:=by
 unfold mO at h;split at h;split at h<;>simp_all;cases h
def kI{a9 a10 a11:Nat}{ts2:TypeId}(h:mP e=some (N,n,y,a9,a10,a11,m,K,ts2)):
  ∃s f a l g b o i c p j d q k r,e=[⟨some y,.move (.tmp N),s,f,a,none⟩,⟨some a9,.load m (.tmp n),l,g,b,none⟩,⟨some a10,.buildSlice K 1 #[(0,.tmp a9)],o,i,c,none⟩,⟨some a11,.call {callee:=.builtin .append,args:= #[.tmp y,.tmp a10],argTypes:= #[ts2,ts2]},p,j,d,none⟩,⟨some N,.assign (.tmp a11),q,k,r,none⟩]:=by
 unfold mP at h;split at h;split at h<;>simp_all;cases h
def kJ{G:FuncId}(h:pJ e=some (N,n,y,F,G)):
  ∃f d b a g l c,e=[⟨some n,.move (.tmp N),f,d,b,none⟩,⟨some y,.call {callee:=.value (.func F),args:= #[.tmp n,.func G],argTypes:=a},g,l,c,none⟩]:=by
 unfold pJ at h;split at h;split at h<;>simp_all;cases h
structure U5 where
 c0:Nat
 a1:Nat
 a2:Nat
 a3:Nat
 a4:Nat
 a5:Nat
 a6:Nat
 a7:Nat
 a8:Nat
 a9:Nat
 a10:Nat
 a11:Nat
 a12:Nat
 a13:Nat
 out:Nat
 ty1:TypeId
 ty2:TypeId
 te1:TypeId
 te2:TypeId
 te3:TypeId
 ts1:TypeId
 ts2:TypeId
 F:FuncId
 G:FuncId
def pE:List Nat->Bool
 |[]=>true
 |t::r=>!NT t r&&pE r
def kD: ∀{l:List Nat},pE l=true->l.Nodup
 |[],_=>O5
 |t::r,h=>by simp only[pE,BO,Ut]at h;exact Fe.2 ⟨Rj h.1,kD h.2⟩
def gU:Code->Code->Option U5
 | .seq (.region _ o1 false) (.block b1 (.loop (.seq (.region _ o2 false) (.seq (.cond (.tmp x4) .skip (.exit b2)) (.block _ (.seq (.region _ o3 false) (.region _ o4 false))))))),.region _ o5 false=>
  match pI o1.toList,mN o2.toList,mO o3.toList,mP o4.toList,pJ o5.toList with
  |some (c0,a1,a2,ty1,ty2),some (x2,a3,a4),some (y2,a5,a6,a7,te1,te2),some (out,x7,a8,a9,a10,a11,te3,ts1,ts2),some (out2,a12,a13,F,G)=>
   match (Nat.beq b1 b2&&(Nat.beq a4 x4&&(Nat.beq a2 x2&&(Nat.beq a2 y2&&(Nat.beq a7 x7&&Nat.beq out out2)))))&&pE [out,a1,a2,a3,a4,a5,a6,a7,a8,a9,a10,a11,a12,a13]with
   |true=>some ⟨c0,a1,a2,a3,a4,a5,a6,a7,a8,a9,a10,a11,a12,a13,out,ty1,ty2,te1,te2,te3,ts1,ts2,F,G⟩
   |false=>none
  |_,_,_,_,_=>none
 |_,_=>none
def U5.tmps(p:U5):List Nat:=[p.out,p.a1,p.a2,p.a3,p.a4,p.a5,p.a6,p.a7,p.a8,p.a9,p.a10,p.a11,p.a12,p.a13]
def Wn(A:List Nat):BS->BS
 |[]=>[]
 |(t,v)::r=>match NT t A with|true=>Wn A r|false=>(t,v)::Wn A r
def TI{A:List Nat}: ∀{env:BS} {q:Nat×TV},q∈Wn A env->q∈env/\q.1∉A
 |[],_,h=>by cases h
 |(t,v)::r,q,h=>by simp only[Wn]at h;split at h;exact⟨CD _ (TI h).1,(TI h).2⟩;rename_i a;rcases Am.1 h with rfl|h;exact⟨JK,Rj a⟩;exact⟨CD _ (TI h).1,(TI h).2⟩
theorem iq{A:List Nat}{u:Nat}(a:u∉A): ∀env:BS,(Wn A env).get u=env.get u
 |[]=>rfl
 |(t,v)::r=>by
  simp only[Wn,BS.get];split;rename_i b;have:t≠u:=λe=>by grind[TQ]
  rw[beq_false this];exact iq a r;simp[BS.get,iq a r]
noncomputable def wK(P:Program)(N:Nat)(cs:List SV)(p:U5)(env:BS)(H:An){R:Type}(k:BS->An->Option R):Option R:=
 match env.get p.c0,env.get p.out with
 | .c (.raw (.ptr c 0 0)),.c .nil=>
  match H[c]? with
  |some (.live _ [.raw (.mp id)])=>
   match H[id]?,jx cs p.F,Zj P p.F with
   |some (.mp _ kk ty es),some (.c2 _ te [] [] [.fn (.func G) [] []] g),true=>
    if h:(Ty.list ty).beq (Ty.list te)=true then
     match tI P p.ty1,P.underlying p.ty2,tI P p.te2,tI P p.te3,Vz P p.te1,eI P p.ts1,eI P p.ts2 with
     |some (false,_),some (.map kt _),some (_,n2),some (tr3,n3),some z,some (none,e1,s1),some (none,e2,s2)=>
      match (Nat.beq G p.G&&(te.isAgg&&(Nat.beq n2 te.sz&&(tr3&&(Nat.beq n3 te.sz&&(Nat.beq z.length te.sz&&(Nat.beq s1 te.sz&&(Nat.beq s2 te.sz&&(QG P e1&&(QG P e2&&Nat.ble te.sz 4096))))))))))&&
        ((match P.underlying kt with|some (.int k2)=>decide (k2=kk)|_=>false)&&(mq H.length (Wn p.tmps env)&&(eL H.length H&&p.tmps.all λt=>Nat.blt t N)))with
      |true=>cond (decide (((es.length:Nat):Int)≤16777216))
        ((mS g (Ty.cast h (es.map (·.2)))).bind λs=>cond (Nat.beq s.length es.length) (k ((p.out,.c (.own H.length 0 te s.length))::Wn p.tmps env) (H++[.buf false te s s.length 0,.dead])) none) none
      |false=>none
     |_,_,_,_,_,_,_=>none
    else none
   |_,_,_=>none
  |_=>none
 |_,_=>none
theorem Eo{q:Nat×AV}{v:AV}(h:q∈u)(a:q.1≠N):q∈u.put N v:=CD _ (Bb.2 ⟨h,by grind⟩)
def pM:(N,i)∈u.put N i:=JK
def gu{v:AV}:Env.get ((N,v)::u) N=v:=if_pos rfl
def qO{v:AV}(h:N≠n):Env.get ((N,v)::u) n=u.get n:=if_neg h
def bk(vals:List R)(seen:List Nat):List R:=seen.filterMap (vals[·]?)
theorem tE{b:List R}{x:R}(h:b[N]? =some x):bk b (a++[N])=bk b a++[x]:=by grind[bk]
theorem qw{b:Type}: ∀a:List b,(List.range a.length).filterMap (a[·]?)=a
 |[]=>rfl
 |x::r=>by
  rw[BV,List.range_succ_eq_map,List.filterMap_cons];simp;have:((λi=>(x::r)[i]?)∘Nat.succ)=(r[·]?):=by grind
  rw[this,qw r]
def tD{d:List R}(hn:a.Nodup)(c: ∀j∈a,j<d.length)(b: ∀j,j<d.length->j∈a):d.Perm (bk d a):=by have:=((fF List.nodup_range hn).2 λj=>⟨λh=>b j (IR.1 h),λh=>IR.2 (c j h)⟩).filterMap (d[·]?);rwa [qw]at this
section
variable {P:Program} {N:Nat} {env:Env} {H:As} {Q:Env->As->Prop} {ops:Array Oper}
def Tw.nil(h:Q env H):Tw P N ops [] env H Q:=⟨_,_,F3.refl _ _ _,h⟩
def Tw.cons(b:o.guard=none)(h:Io P N o env H λv a=>Tw P N ops e (env.putO o.dst v) a Q):Tw P N ops (o::e) env H Q:=by refine⟨_,_,F3.refl _ _ _,?_⟩;rw[b];exact h
end
variable {s:Hint}{B:U5}
section
variable {P:Program} {N:Nat}
theorem oV(t:Ty)(l:List t.D): ∀v∈t.E.cl l,Pure v:=by intro v a;have⟨u,b,a⟩:=HX.1 a;obtain⟨y,_,rfl⟩:=Bl.1 b;exact SM (t.enc_pure y) v a
theorem xS(h:Pure i)(p:Nat->Bool):i.idsAll p=true:=PS (λ_ h=>by cases h) i h
theorem wY{p q:Nat->Bool}(h: ∀id,p id=true->q id=true)(e:ET)(k:e.idsAll p=true):e.idsAll q=true:=by cases e<;>grind[Il,ET.idsAll,List.all_eq_true,PS]
theorem AAk(t:Ty)(g:Nat)(l:List t.D)(p:Nat->Bool):(ET.live g (t.E.cl l)).idsAll p=true:=by grind[ET.idsAll,Db,xS,oV]
theorem flt{a:Type}(p q:a->Bool)(b: ∀x,q x=true->p x=true)(e:a)(d:p e=true)(f:q e=false): ∀l:List a,e∈l->(l.filter q).length<(l.filter p).length
 |x::l,he=>by
  have c: ∀l:List a,(l.filter q).length<=(l.filter p).length:=by intro l;induction l<;>grind
  rcases Am.1 he with rfl|h;grind;have:=flt p q b e d f l h;grind
theorem AAI(h:z.Nodup){i j a b:Nat}(d:z[i]? =some a)(e:z[j]? =some b)(c:i≠j):a≠b:=by grind[List.getElem?_inj]
set_option maxHeartbeats 1000000 in
def ui{te:Ty}{kk:IntKind}{es:List (Int×te.D)}{Hb:As}{base:Env}{id a2 a3 a4 a5 a6 a7 a8 a9 a10 a11 out:Nat}{b1 b2:Nat}{i2 i3 i4:Nat}{o2 o3 o4:Array Oper}{te1 te2 te3 ts1 ts2:TypeId}{z:List AV}{e1 e2:TypeId}{bb:Bool}
  (h2:mN o2.toList=some (a2,a3,a4)) (h3:mO o3.toList=some (a2,a5,a6,a7,te1,te2)) (h4:mP o4.toList=some (out,a7,a8,a9,a10,a11,te3,ts1,ts2))
  (bN:[out,a2,a3,a4,a5,a6,a7,a8,a9,a10,a11].Nodup) (hN: ∀t∈[out,a2,a3,a4,a5,a6,a7,a8,a9,a10,a11],t<N) (hb: ∀q∈base,q.1∉ [out,a2,a3,a4,a5,a6,a7,a8,a9,a10,a11])
  (a0: ∀q∈base,(q.2.idsAll λj=>decide (j<Hb.length))=true) (ar: ∀e∈Hb,(e.idsAll λj=>decide (j<Hb.length))=true)
  (he:Hb[id]? =some (.mp kk (es.map λp=>(p.1,te.enc p.2)))) (ax:te.isAgg=true) (hz:Vz P te1=some z) (Z:z.length=te.sz) (b5:tI P te2=some (bb,te.sz)) (b6:tI P te3=some (true,te.sz))
  (b0:eI P ts1=some (none,e1,te.sz)) (b3:eI P ts2=some (none,e2,te.sz)) (bz:QG P e1=true) (bG:QG P e2=true) (b4:te.sz<=4096) (b7:es.length<=16777216):
  ∀(n:Nat) (seen:List Nat),seen.Nodup->(∀j∈seen,j<es.length)->((List.range es.length).filter λj=>!decide (j∈seen)).length<=n->(bk (es.map (·.2)) seen).length+((List.range es.length).filter λj=>!decide (j∈seen)).length<=es.length->
   Lr P N (.seq (.region i2 o2 false) (.seq (.cond (.tmp a4) .skip (.exit b1)) (.block b2 (.seq (.region i3 o3 false) (.region i4 o4 false)))))
    ((out,.sl Hb.length (bk (es.map (·.2)) seen).length te.sz 0 (bk (es.map (·.2)) seen).length)::(a2,.itp (Hb.length+1) id)::base)
    (Hb++[.live (bk (es.map (·.2)) seen).length (te.E.cl (bk (es.map (·.2)) seen)),.it es.length seen])
    λe E h=>e= .exit b1/\ ∃s,(es.map (·.2)).Perm s/\(∀q∈(out,AV.sl Hb.length s.length te.sz 0 s.length)::base,q∈E)/\h.length=Hb.length+2/\(∀j,j<Hb.length->h[j]? =Hb[j]?)/\h[Hb.length]? =some (.live s.length (te.E.cl s)):=by
 obtain⟨t1,p1,x1,t2,p2,x2,l2⟩:=kG h2;obtain⟨t3,p3,x3,t4,p4,x4,t5,p5,x5,t6,p6,x6,l3⟩:=kH h3;obtain⟨t7,p7,x7,t8,p8,x8,t9,p9,x9,b',b8,cb,ca,b9,cc,l4⟩:=kI h4;have D:=λ(i j a b:Nat)=>AAI (i:=i) (j:=j) (a:=a) (b:=b) bN;simp only[Am,List.not_mem_nil,or_false,forall_eq_or_imp,forall_eq]at hN;have d2:Ns N o2.toList=true:=by rw[l2];simp[Ns,hN]
 have d3:Ns N o3.toList=true:=by rw[l3];simp[Ns,hN]
 have d4:Ns N o4.toList=true:=by rw[l4];simp[Ns,hN]
 have a1:id<Hb.length:=by rcases Ap id Hb.length with h|h;exact h;rw[Cs h]at he;cases he
 have s0: ∀(A B C:ET),(Hb++[A,B]).set (Hb.length+1) C=Hb++[A,C]:=λA B C=>by rw[Qx _ _ (by omega),show Hb.length+1-Hb.length=1 by omega];rfl
 have s1: ∀(A B C D:ET),(Hb++[A,B,C]).set (Hb.length+2) D=Hb++[A,B,D]:=λA B C D=>by rw[Qx _ _ (by omega),show Hb.length+2-Hb.length=2 by omega];rfl
 have s2: ∀(A B C D:ET),(Hb++[A,B,C]).set Hb.length D=Hb++[D,B,C]:=λA B C D=>by rw[Qx _ _ (Ak _),IT];rfl
 have g0: ∀(A:ET) (r:List ET),(Hb++A::r)[Hb.length]? =some A:=λA r=>by rw[Cr (Ak _),IT];rfl
 have g1: ∀(A B:ET) (r:List ET),(Hb++A::B::r)[Hb.length+1]? =some B:=λA B r=>by rw[Cr (by omega),show Hb.length+1-Hb.length=1 by omega];rfl
 have g2: ∀(A B C:ET) (r:List ET),(Hb++A::B::C::r)[Hb.length+2]? =some C:=λA B C r=>by rw[Cr (by omega),show Hb.length+2-Hb.length=2 by omega];rfl
 have gm: ∀(r:List ET),(Hb++r)[id]? =some (.mp kk (es.map λp=>(p.1,te.enc p.2))):=λr=>by rw[B6 a1];exact he
 have Y:(es.map (·.2)).length=es.length:=Dc _;have J:0<te.sz:=te.sz_pos;intro n;induction n using Nat.strongRecOn with
 |ind n ih=>
  intro seen hn hl hr hm;obtain⟨L,hL⟩: ∃L,L=bk (es.map (·.2)) seen:=⟨_,rfl⟩
  rw[<-hL]at hm⊢;refine Q4 (Lq.seq (FW d2 ?_));rw[l2];apply Tw.cons rfl;have d:(es.map λp=>(p.1,te.enc p.2)).length=es.length:=Dc _;have ad:out≠a2:=D 0 1 _ _ rfl rfl (by decide);refine Io.next (x:=.tmp a2) (id:=Hb.length+1) (m:=id) (k:=kk) (es:=es.map λp=>(p.1,te.enc p.2)) (seen:=seen) rfl ?_ ?_ (gm _) ?_ ?_
  show Env.get _ a2=_;rw[qO ad,gu];rw[d];exact g1 _ _ _;intro G;refine Tw.cons rfl (DY (v:=.bool false) ?_ (Tw.nil ?_));show CQ _ _ _ (.extract (.tmp a3) 0)=_;simp only[CQ,BA,Env.putO,F6,if_true];rfl;refine Lq.seq (Lq.cond (b:=false) ?_ (λh=>by cases h) (λ_=>Lq.exit ?_));simp only[BA,Env.putO,F6,if_true];refine⟨rfl,L,?_,λq o=>?_,by simp,λj hj=>B6 hj,g0 _ _⟩;rw[hL];exact tD hn (by rw[Y];exact hl) (by rw[Y];rw[d]at G;exact G);have al:out≠a3:=D 0 2 _ _ rfl rfl (by decide);have ap:out≠a4:=D 0 3 _ _ rfl rfl (by decide);rcases Am.1 o with rfl|o;exact Eo (Eo JK al) ap;have:=hb q o;simp only[Am,not_or]at this;exact Eo (Eo (CD _ (CD _ o)) this.2.2.1) this.2.2.2.1;intro j p hj S;rw[CL]at hj;obtain⟨q,o,e⟩:=Zs.1 hj;subst e;rw[d,s0];refine Tw.cons rfl (DY (v:=.bool true) ?_ (Tw.nil ?_));show CQ _ _ _ (.extract (.tmp a3) 0)=_;simp only[CQ,BA,Env.putO,F6,if_true];rfl;have k2: ∀(m:Nat) (v w:AV),Env.get (Env.put (Env.put ((out,AV.sl Hb.length m te.sz 0 m)::(a2,AV.itp (Hb.length+1) id)::base) a3 v) a4 w) a2= .itp (Hb.length+1) id:=λm v w=>by rw[F6,if_neg (D 1 3 _ _ rfl rfl (by decide)),F6,if_neg (D 1 2 _ _ rfl rfl (by decide)),qO ad,gu]
  have ko: ∀(m:Nat) (v w:AV),Env.get (Env.put (Env.put ((out,AV.sl Hb.length m te.sz 0 m)::(a2,AV.itp (Hb.length+1) id)::base) a3 v) a4 w) out= .sl Hb.length m te.sz 0 m:=λm v w=>by rw[F6,if_neg (D 0 3 _ _ rfl rfl (by decide)),F6,if_neg (D 0 2 _ _ rfl rfl (by decide)),gu]
  have kb: ∀(m:Nat) (v w:AV),∀q∈base,q∈Env.put (Env.put ((out,AV.sl Hb.length m te.sz 0 m)::(a2,AV.itp (Hb.length+1) id)::base) a3 v) a4 w:=λm v w q o=>by have:=hb q o;simp only[Am,not_or]at this;exact Eo (Eo (CD _ (CD _ o)) this.2.2.1) this.2.2.2.1
  have ki: ∀(m:Nat) (v w:AV),(a2,AV.itp (Hb.length+1) id)∈Env.put (Env.put ((out,AV.sl Hb.length m te.sz 0 m)::(a2,AV.itp (Hb.length+1) id)::base) a3 v) a4 w:=λm v w=>Eo (Eo (CD _ JK) (D 1 2 _ _ rfl rfl (by decide))) (D 1 3 _ _ rfl rfl (by decide));refine Lq.seq (Lq.cond (b:=true) ?_ (λ_=>Lq.skip ?_) (λh=>by cases h));simp only[BA,Env.putO,F6,if_true];dsimp only[oL];refine Lq.block (Lq.seq (FW d3 ?_));rw[l3];generalize K:Env.putO (Env.putO ((out,AV.sl Hb.length L.length te.sz 0 L.length)::(a2,AV.itp (Hb.length+1) id)::base) (some a3) (.tup [.bool true,.int kk q.1,te.enc q.2])) (some a4) (.bool true)=E;have k2:Env.get E a2= .itp (Hb.length+1) id:=by rw[<-K];exact k2 _ _ _
  have ko:Env.get E out= .sl Hb.length L.length te.sz 0 L.length:=by rw[<-K];exact ko _ _ _
  have kb: ∀q∈base,q∈E:=by rw[<-K];exact kb _ _ _
  have ki:(a2,AV.itp (Hb.length+1) id)∈E:=by rw[<-K];exact ki _ _ _
  clear K;refine Tw.cons rfl (Io.entry (x:=.tmp a2) (id:=Hb.length+1) (m:=id) (j:=j) (k:=kk) (es:=es.map λp=>(p.1,te.enc p.2)) (seen:=seen) (p:=(q.1,te.enc q.2)) rfl k2 ?_ (gm _) (by rw[CL,o];rfl) ?_);rw[d];exact g1 _ _ _;have f:te.enc q.2= .agg (te.enc q.2).cells:=Ty.agg_enc ax q.2;have l:(te.enc q.2).cells.length=te.sz:=te.enc_len q.2;have U:(te.enc q.2).solid=true:=by rw[f];rfl
  refine Tw.cons rfl (DY (v:=te.enc q.2) ?_ (Tw.cons rfl (Io.alloc rfl hz ?_)));show CQ _ _ _ (.extract (.tmp a5) 1)=_;simp only[CQ,BA,Env.putO,F6,if_true];rfl;have a':(Hb++[ET.live L.length (te.E.cl L),ET.it es.length (seen++[j])]).length=Hb.length+2:=by simp
  rw[a',Ax];show Tw P N o3 _ _ (Hb++[ET.live L.length (te.E.cl L),ET.it es.length (seen++[j]),ET.live 0 z]) _;refine Tw.cons rfl (Io.store (id:=Hb.length+2) (g:=0) (off:=0) (v:=te.enc q.2) (cs:=z) (b:=bb) rfl ?_ ?_ U (g2 _ _ _ _) (by rw[l];exact b5) (by rw[l,Z];omega) (Tw.nil ?_));simp only[BA,Env.putO,F6,if_true];simp only[BA,Env.putO,F6];rw[if_neg (D 5 6 _ _ rfl rfl (by decide)),if_pos trivial];have T:Tt z 0 (te.enc q.2).cells=(te.enc q.2).cells:=by unfold Tt;rw[List.take_zero,B5,l,<-Z,D4,List.drop_length,Dm]
  rw[T,s1];simp only[Env.putO];generalize F:Env.put (Env.put (Env.put E a5 (.tup [.int kk q.1,te.enc q.2])) a6 (te.enc q.2)) a7 (.ptr (Hb.length+2) 0 0)=E1;have j7:Env.get E1 a7= .ptr (Hb.length+2) 0 0:=by rw[<-F,F6,if_pos rfl]
  have jo:Env.get E1 out= .sl Hb.length L.length te.sz 0 L.length:=by rw[<-F,F6,if_neg (D 0 6 _ _ rfl rfl (by decide)),F6,if_neg (D 0 5 _ _ rfl rfl (by decide)),F6,if_neg (D 0 4 _ _ rfl rfl (by decide)),ko]
  have jb: ∀q∈base,q∈E1:=λu I=>by have:=hb u I;simp only[Am,not_or]at this;rw[<-F];exact Eo (Eo (Eo (kb u I) this.2.2.2.2.1) this.2.2.2.2.2.1) this.2.2.2.2.2.2.1
  have ji:(a2,AV.itp (Hb.length+1) id)∈E1:=by rw[<-F];exact Eo (Eo (Eo ki (D 1 4 _ _ rfl rfl (by decide))) (D 1 5 _ _ rfl rfl (by decide))) (D 1 6 _ _ rfl rfl (by decide))
  clear F;apply FW d4;rw[l4];refine Tw.cons rfl (DY (v:=.sl Hb.length L.length te.sz 0 L.length) (congrArg some jo) (Tw.cons rfl (DY (v:=te.enc q.2) ?_ (Tw.cons rfl (Sm (sz:=te.sz) (vs:=[te.enc q.2]) rfl ?_ (Tw.cons rfl ?_))))));show bi P te3 _ (BA _ (.tmp a7))=_;simp only[BA,Env.putO,F6];rw[if_neg (D 6 7 _ _ rfl rfl (by decide)),j7];simp only[bi,b6,Og,g2];rw[if_pos ⟨trivial,by rw[l];omega⟩,iQ,<-l,List.take_length];exact congrArg some f.symm;simp only[Qo,b0];rw[if_pos];simp only[BA,Env.putO,F6,if_true,BZ,HV];refine⟨J,bz,rfl,?_,by decide,b4⟩;simp only[BA,Env.putO,F6,if_true,BZ,HV,iL,iM,U,l,decide_true,PY];have R:j<es.length:=by rcases Ap j es.length with h|h;exact h;rw[Cs h]at o;cases o
  have bt:((List.range es.length).filter λi=>!decide (i∈seen++[j])).length<((List.range es.length).filter λi=>!decide (i∈seen)).length:=flt (λi=>!decide (i∈seen)) (λi=>!decide (i∈seen++[j])) (λx f=>by simp at f⊢;exact f.1) j (by simpa using S) (by simp) _ (IR.2 R);have O:bk (es.map (·.2)) (seen++[j])=L++[q.2]:=by rw[hL];exact tE (by rw[CL,o];rfl)
  refine QF (sx:=.tmp a8) (xx:=.tmp a10) (t:=ts2) (e:=e2) (id:=Hb.length) (g:=L.length) (g':=L.length+1) (n:=L.length) (sz:=te.sz) (m:=1) (cs:=te.E.cl L) (news:=(te.enc q.2).cells) rfl b3 J bG ?_ (g0 _ _) (te.E.clen L) ?_ (by omega) (.inl (by omega)) ?_;show Env.get _ a8=_;simp only[Env.putO,F6];rw[if_neg (D 7 9 _ _ rfl rfl (by decide)),if_neg (D 7 8 _ _ rfl rfl (by decide)),if_pos trivial];simp only[BA,Env.putO,F6,if_true,Mm,BV,Bt,I0,iT,Dm];rw[s2];refine Tw.cons rfl (DY (v:=.sl Hb.length (L.length+1) te.sz 0 (L.length+1)) ?_ (Tw.nil ?_));show some (Env.get _ a11)=_;simp only[Env.putO,F6,if_true];have Q:te.E.cl L++(te.enc q.2).cells=te.E.cl (L++[q.2]):=by simp[SW.cl];rfl
  rw[Q];have bl:(L++[q.2]).length=L.length+1:=by simp
  show∃env2 H2,F3 N _ _ _ env2 H2/\_;refine⟨_,_,?_,ih _ (DB bt hr) (seen++[j]) ?_ ?_ (Ak _) (by rw[O];omega)⟩;rw[O,bl];generalize M:Env.putO _ (some out) _=E3;have V: ∀u∈(out,AV.sl Hb.length (L.length+1) te.sz 0 (L.length+1))::(a2,AV.itp (Hb.length+1) id)::base,u∈E3:=by intro u I;rw[<-M];simp only[Env.putO];rcases Am.1 I with rfl|I;exact pM;rcases Am.1 I with rfl|I;exact Eo (Eo (Eo (Eo (Eo ji (D 1 7 _ _ rfl rfl (by decide))) (D 1 8 _ _ rfl rfl (by decide))) (D 1 9 _ _ rfl rfl (by decide))) (D 1 10 _ _ rfl rfl (by decide))) (D 1 0 _ _ rfl rfl (by decide));have:=hb u I;simp only[Am,not_or]at this;exact Eo (Eo (Eo (Eo (Eo (jb u I) this.2.2.2.2.2.2.2.1) this.2.2.2.2.2.2.2.2.1) this.2.2.2.2.2.2.2.2.2.1) this.2.2.2.2.2.2.2.2.2.2.1) this.1
  clear M;have w1:=F3.subset (N:=N) (H:=Hb++[ET.live (L.length+1) (te.E.cl (L++[q.2])),ET.it es.length (seen++[j]),ET.live 0 (te.enc q.2).cells]) V;have W:(Hb++[ET.live (L.length+1) (te.E.cl (L++[q.2])),ET.it es.length (seen++[j]),ET.live 0 (te.enc q.2).cells]).take (Hb.length+2)=Hb++[ET.live (L.length+1) (te.E.cl (L++[q.2])),ET.it es.length (seen++[j])]:=by rw[fH,Cg (by omega),show Hb.length+2-Hb.length=2 by omega];rfl
  have w2:=F3.cut (N:=N) (n0:=Hb.length+2) (env:=(out,AV.sl Hb.length (L.length+1) te.sz 0 (L.length+1))::(a2,AV.itp (Hb.length+1) id)::base) (H:=Hb++[ET.live (L.length+1) (te.E.cl (L++[q.2])),ET.it es.length (seen++[j]),ET.live 0 (te.enc q.2).cells]) (by simp) (λt v X=>by
   rcases Am.1 X with e|X;injection e with _ e;subst e;exact decide_eq_true (by omega);rcases Am.1 X with e|X;injection e with _ e;subst e;simp only[AV.idsAll,BO,decide_eq_true_eq];omega;exact PS (λi hi=>decide_eq_true (by have:=of_decide_eq_true hi;omega)) v (a0 _ X)) (by
   rw[W];intro e c;rcases Ar.1 c with c|c;exact wY (λi hi=>decide_eq_true (by have:=of_decide_eq_true hi;omega)) e (ar e c);rcases Am.1 c with rfl|c;exact AAk te _ _ _;simp only[A3]at c;subst c;rfl)
  rw[W]at w2;have bd:(Hb++[ET.live L.length (te.E.cl L),ET.it es.length seen]).length=Hb.length+2:=by simp
  rw[bd];exact(w1.of_le (by simp)).trans w2;refine O4.2 ⟨hn,by simp,λx f y hy=>?_⟩;simp only[A3]at hy;subst hy;rintro rfl;exact S f;intro x f;rcases Ar.1 f with f|f;exact hl x f;simp only[A3]at f;subst f;exact R
def gV(h:gU d G=some B): ∃x k i y l r z n A o a q,
  d= .seq (.region x k false) (.block i (.loop (.seq (.region y l false) (.seq (.cond (.tmp B.a4) .skip (.exit i)) (.block r (.seq (.region z n false) (.region A o false)))))))/\G= .region a q false/\
  pI k.toList=some (B.c0,B.a1,B.a2,B.ty1,B.ty2)/\mN l.toList=some (B.a2,B.a3,B.a4)/\mO n.toList=some (B.a2,B.a5,B.a6,B.a7,B.te1,B.te2)/\
  mP o.toList=some (B.out,B.a7,B.a8,B.a9,B.a10,B.a11,B.te3,B.ts1,B.ts2)/\pJ q.toList=some (B.out,B.a12,B.a13,B.F,B.G)/\B.tmps.Nodup:=by
 unfold gU at h;split at h;split at h;rename_i s t u v w;split at h;rename_i j;simp only[BO]at j;have⟨⟨b,c,m,e,f,g⟩,hn⟩:=j;have b:=DN b;have c:=DN c;have m:=DN m;have e:=DN e;have f:=DN f;have g:=DN g;subst b c m e f g;cases h;exact⟨_,_,_,_,_,_,_,_,_,_,_,_,rfl,rfl,s,t,u,v,w,kD hn⟩;cases h;cases h;cases h
set_option maxHeartbeats 1000000 in
def wL{cs:List SV}(cv: ∀c∈cs,c.Ok P){a m:Code}{p:U5}(hp:gU a m=some p){env:BS}{H:An}{R:Type}{k:BS→An→Option R}{r:R}(ok:O0 env H)(o:wK P N cs p env H k=some r):
  ∃A H',Lq P N a (Br env) (A5 H) (oL (λE h=>Lq P N m E h (VN .normal (Br A) (A5 H'))) (λ_ _ _=>False))/\k A H'=some r/\O0 A H'/\E2 p.tmps env H A H':=by
 obtain⟨i1,o1,T,i2,o2,J,i3,o3,i4,o4,i5,o5,rfl,rfl,p1,p2,p3,p4,p5,b4⟩:=gV hp;unfold wK at o;split at o;rename_i c cm b5;split at o;rename_i ro id hc;split at o;rename_i c' kk n I F te G g a' hF hE;split at o;rename_i c4;split at o;rename_i y1 kt et b' n2 df n3 z e1 s1 e2 s2 t1 t2 t3 t4 t5 t6 t7;split at o;rename_i hb;have c5:n=te:=by have:=Ty.beq_eq _ _ c4;injection this
 subst c5;simp only[BO]at hb;obtain⟨⟨bG,b9,V,ce,W,bz,Y,Z,cc,cd,ad⟩,U,ca,cb,bN⟩:=hb;have bG:=DN bG;have V:=DN V;have W:=DN W;have bz:=DN bz;have Y:=DN Y;have Z:=DN Z;have ad:=Nm ad;subst V W Y Z ce;have c9:P.underlying kt=some (.int kk):=by split at U;rename_i k2 e;rw[e,of_decide_eq_true U];cases U
 cases ap:decide (((I.length:Nat):Int)<=16777216)with
 |false=>rw[ap]at o;cases o
 |true=>
  have bt:I.length<=16777216:=by have:=of_decide_eq_true ap;omega
  rw[ap]at o;obtain⟨s,hs,o⟩:=Dp.1 (show Option.bind _ _=some r from o);have hs:=sj hs;cases L:Nat.beq s.length I.length with
  |false=>rw[L]at o;cases o
  |true=>
   rw[L]at o;have o:k ((p.out,.c (.own H.length 0 n s.length))::Wn p.tmps env) (H++[.buf false n s s.length 0,.dead])=some r:=o;have L:=DN L;obtain⟨ds,q1,x1,d0,q2,x2,l1⟩:=kF p1;obtain⟨d2,q3,x3,c6,d3,q4,x4,l5⟩:=kJ p5;have D:=λ(i j a b:Nat)=>AAI (i:=i) (j:=j) (a:=a) (b:=b) b4;have hN: ∀t∈p.tmps,t<N:=λt ht=>Nm (Fx.1 bN t ht);have d1:Ns N o1.toList=true:=by rw[l1];simp[Ns,iL,iM,OS,BO,decide_eq_true_eq];exact⟨hN _ (by simp[U5.tmps]),hN _ (by simp[U5.tmps])⟩
   have d5:Ns N o5.toList=true:=by rw[l5];simp[Ns,iL,iM,OS,BO,decide_eq_true_eq];exact⟨hN _ (by simp[U5.tmps]),hN _ (by simp[U5.tmps])⟩
   have M:(Br env).get p.out= .nils:=by rw[Rz,b5];rfl
   have al:(Br env).get p.c0= .ptr c 0 0:=by rw[Rz,cm];rfl
   have ct:p.c0≠p.out:=λe=>by rw[e,M]at al;cases al
   have co:c<H.length:=Gv hc;have bd:id<H.length:=Gv a';have d:(A5 H).length=H.length:=CR H;have cf:(A5 H)[c]? =some (.live 0 [.mp id]):=by rw[E7,hc];rfl
   have O:(A5 H)[id]? =some (.mp kk (I.map λp=>(p.1,n.enc p.2))):=by rw[E7,a'];rfl
   have x: ∀q∈Br (Wn p.tmps env),q∈Br env/\q.1∉p.tmps:=λq y=>by obtain⟨u,hu,rfl⟩:=Bl.1 y;exact⟨Bl.2 ⟨u,(TI hu).1,rfl⟩,(TI hu).2⟩
   have ci: ∀q∈Br (Wn p.tmps env),(q.2.idsAll λj=>decide (j<(A5 H).length))=true:=λq y=>by obtain⟨u,hu,rfl⟩:=Bl.1 y;rw[d];exact aU (dn ca u hu)
   have ch: ∀e∈A5 H,(e.idsAll λj=>decide (j<(A5 H).length))=true:=by rw[d];exact dp cb
   have step:B0 H (H++[.buf false n s s.length 0,.dead]):=by have:=(B0.push H (.buf false n s s.length 0)).trans (B0.push _ .dead);rwa [Ax]at this
   have b6:(Ba.own H.length 0 n s.length).ok (H++[.buf false n s s.length 0,.dead]):=by apply U1 (b:=false) (l:=s);rw[Cr (Ak _),IT];rfl
   refine⟨(p.out,.c (.own H.length 0 n s.length))::Wn p.tmps env,H++[.buf false n s s.length 0,.dead],?_,o,⟨λq y=>?_,?_⟩,step,λu hu _=>?_⟩;refine Lq.weak (F3.virt (t:=p.out) (sz:=n.sz) M) (Lq.seq (FW d1 ?_));rw[l1];have c3:CQ P ((Br env).put p.out (.sl (A5 H).length 0 n.sz 0 0)) (A5 H++[.live 0 []]) (.load p.ty1 (.tmp p.c0))=some (.mp id):=by simp[CQ,BA,F6];rw[if_neg ct,al];simp[bi,t1,Og];rw[B6 (by rw[d];exact co),cf];rfl
   have bl:(A5 H++[ET.live 0 []])[id]? =some (.mp kk (I.map λp=>(p.1,n.enc p.2))):=by rw[B6 (by rw[d];exact bd),O]
   refine Tw.cons rfl (DY c3 (Tw.cons rfl (Io.range (id:=id) (k:=kk) (es:=I.map λp=>(p.1,n.enc p.2)) rfl ?_ t2 bl (Tw.nil ?_))));simp[BA,Env.putO,F6,if_true];rw[Dc,Ag,Ax];dsimp[oL,Env.putO];refine Lq.block (Lq.of_loopW ?_);have a0:[p.out,p.a2,p.a3,p.a4,p.a5,p.a6,p.a7,p.a8,p.a9,p.a10,p.a11].Sublist p.tmps:=.cons₂ _ (.cons _ (.cons₂ _ (.cons₂ _ (.cons₂ _ (.cons₂ _ (.cons₂ _ (.cons₂ _ (.cons₂ _ (.cons₂ _ (.cons₂ _ (.cons₂ _ (.cons _ (.cons _ .slnil)))))))))))));have b8:=ui (P:=P) (N:=N) (te:=n) (kk:=kk) (es:=I) (Hb:=A5 H) (base:=Br (Wn p.tmps env)) (id:=id) (out:=p.out) (a2:=p.a2) (a3:=p.a3) (a4:=p.a4) (a5:=p.a5) (a6:=p.a6) (a7:=p.a7) (a8:=p.a8) (a9:=p.a9) (a10:=p.a10) (a11:=p.a11)
    (b1:=T) (b2:=J) (i2:=i2) (i3:=i3) (i4:=i4) (bb:=b') p2 p3 p4 ?_ ?_ ?_ ci ch O b9 t5 bz t3 t4 t6 t7 cc cd ad bt I.length [] O5 (λj B=>by cases B) (by simpa using List.length_filter_le _ (List.range I.length)) (by have:=LD (λj=>!decide (j∈([]:List Nat))) (List.range I.length);simpa[bk]using this)
   refine Lr.mono (Lr.weak ?_ b8) ?_;refine F3.subset (N:=N) (H:=A5 H++[ET.live 0 [],ET.it I.length []]) λq y=>?_;rcases Am.1 y with rfl|y;exact Eo (Eo pM (D 0 1 _ _ rfl rfl (by decide))) (D 0 2 _ _ rfl rfl (by decide));rcases Am.1 y with rfl|y;exact pM;obtain⟨T,J⟩:=x q y;simp[U5.tmps,Am,not_or]at J;exact Eo (Eo (Eo T J.1) J.2.1) J.2.2.1;rintro e E h ⟨rfl,C,K,b7,Q,ax,ar⟩;show iY T _ (.exit T) E h;simp[iY,if_true,oL];refine Lq.weak (F3.subset b7) (Lq.after (FW d5 ?_));rw[l5];obtain⟨b3,hf⟩:=fb hF;have a1:s.length=C.length:=by rw[L,<-K.length_eq,Dc]
   have hA:=cv _ b3 C () s (hs C K) a1 h (A5 H).length ar;simp[SV.f]at hf;rw[hf]at hA;refine Tw.cons rfl (DY (v:=.sl (A5 H).length C.length n.sz 0 C.length) (congrArg some gu) (Tw.cons rfl (Io.mono (g9 (F:=p.F) (vs:=[.sl (A5 H).length C.length n.sz 0 C.length,.fn (.func G) [] []]) ?_ hE hA) ?_)));show some (Sum.inl (p.F,[]++[Env.get _ p.a12,AV.fn (.func p.G) [] []]++[]))=_;simp only[Env.putO,F6,if_true,bG];rfl;rintro _ _ ⟨rfl,rfl⟩;refine Tw.nil ⟨_,_,?_,rfl,rfl,rfl⟩;have c2:(h.set (A5 H).length (.live C.length (n.E.cl s))).length=h.length:=by simp
   rw[<-c2];refine TY (by simp[A5];rw[Q,d]) λX g' w _=>?_;have hr:Rm (cx X g' (h.set (A5 H).length (.live C.length (n.E.cl s))) w) (cx X g' (h.set (A5 H).length (.live C.length (n.E.cl s))) w) (h.set (A5 H).length (.live C.length (n.E.cl s))) (A5 (H++[.buf false n s s.length 0,.dead])):=by
    refine⟨by simp[A5];rw[Q,d],λj e' B=>?_⟩;have same:(h.set (A5 H).length (.live C.length (n.E.cl s)))[j]? =some e'->e'= .dead\/_:=λhh=>(Rm.refl (cx X g' (h.set (A5 H).length (.live C.length (n.E.cl s))) w) (h.set (A5 H).length (.live C.length (n.E.cl s)))).2 j e' hh;have c1:A5 (H++[.buf false n s s.length 0,.dead])=A5 H++[ET.live s.length (n.E.cl s),ET.dead]:=by simp[A5,Dl.enc]
    rw[c1]at B;rcases O7 j (A5 H).length with b0|rfl|c8;rw[B6 b0]at B;exact same (by rw[D1 (by omega),ax j b0];exact B);rw[Cr (Ak _),IT]at B;exact same (by rw[G9 (by omega),<-a1];exact B);rw[Cr (by omega)]at B;rcases O7 (j-(A5 H).length) 1 with q|q|q;omega;rw[q]at B;injection B with B;exact .inl B.symm;rw[Cs (by simp;omega)]at B;cases B
   refine⟨hr.onto,λt v' S=>⟨v',?_,λc r=>r.later hr.later⟩⟩;simp[Env.putO];have S:(t,v')∈(p.out,AV.sl (A5 H).length s.length n.sz 0 s.length)::Br (Wn p.tmps env):=by rw[d];exact S
   rcases Am.1 S with e|S;cases e;rw[a1];exact Eo (Eo JK (D 0 12 _ _ rfl rfl (by decide))) (D 0 13 _ _ rfl rfl (by decide));obtain⟨T,J⟩:=x _ S;simp only[U5.tmps,Am,not_or]at J;exact Eo (Eo (CD _ S) J.2.2.2.2.2.2.2.2.2.2.2.2.1) J.2.2.2.2.2.2.2.2.2.2.2.2.2.1;exact b4.sublist a0;exact λt ht=>hN t (a0.subset ht);exact λq y S=>(x q y).2 (a0.subset S);rcases Am.1 y with rfl|y;exact JR b6;exact step.tv (ok.env q (TI y).1);intro e he;rcases Ar.1 he with he|he;exact step.ent (ok.heap e he);simp[Am,List.not_mem_nil,or_false]at he;rcases he with rfl|rfl;rfl;trivial;show BS.get _ u=_;have:p.out≠u:=λe=>hu (by rw[<-e];simp[U5.tmps]);simp[BS.get,beq_false this];exact iq hu env
 cases o;cases o;cases o;cases o;cases o;cases o
end
abbrev Sem:= ∀{R:Type},BS->An->(Exit->BS->An->Option R)->Option R
def iE:List (Nat×Ty)->BS->An->Option (BS×An)
 |[],env,H=>some (env,H)
 |(t,ty)::r,env,H=>
  match env.get t with
  | .c .nil=>iE r (env.put t (.c (.own H.length 0 ty 0))) (H++[.buf false ty [] 0 0])
  |_=>none
def lR:Nat->List Ba->Option (List Ba×List Ba)
 |0,.nil::r=>some ([],r)
 |n+1,x::r=>match lR n r with|some (a,b)=>some (x::a,b)|none=>none
 |_,_=>none
def dg:List (Nat×Nat×Ty)->An->Option An
 |[],H=>some H
 |(b,i,ty)::r,H=>
  match H[b]? with
  |some (.live false cs)=>
   match lR i cs with
   |some (x,y)=>dg r (H.set b (.live false (x++ .own H.length 0 ty 0::y))++[.buf false ty [] 0 0])
   |none=>none
  |_=>none
def zX(h:Hint)(env:BS)(H:An):Option (BS×An):=
 match iE h.virt env H with
 |some (e,H1)=>match dg h.virtC H1 with|some H2=>some (e,H2)|none=>none
 |none=>none
def zO(h:Hint)(n:Nat)(eb:BS)(H0:An)(S:List Nat)(k:Exit->BS->An->Option R)(o:pG h.exits):Option R:=
 AA8 h.exits o λx sl ds=>
  match UH sl ds eb H0 with
  |some (e,hh)=>match mq n e&&(eL n hh&&S.all λj=>NT j (Ks sl))with|true=>k x e hh|false=>none
  |none=>none
def wu(h:Hint)(A:List Nat)(run:Sem):Sem:=λenv H k=>
 match zX h env H with
 |none=>none
 |some (env0,H0)=>
  match jQ env0 with
  |false=>none
  |true=>(run env0 (Lo (Ks h.slots) 0 H0) λx e1 h1=>sZ h.exits x e1 h1).bind λo=>zO h H0.length (PB A (Ks h.slots) H0 env0) H0 (Ks h.slots) k o
def tz(h:Hint)(x:Exit)(env:BS)(H:An):Option (Step (DL (bX h.slots)) (pG h.exits)):=
 match qI .normal x with
 |true=>match pw h.slots env H with|some s=>some (.next s)|none=>none
 |false=>match sZ h.exits x env H with|some o=>some (.done o)|none=>none
noncomputable def w7(h:Hint)(A:List Nat)(run:Sem):Sem:=λenv H k=>
 match zX h env H with
 |none=>none
 |some (env1,H1)=>
  match Hy (h.kill++fA env1 H1 h.slots) env1 H1 with
  |(env0,H0)=>
   match jQ env0,XV env0 H0 h.slots with
   |true,some ds=>
    match sU (bX h.slots) ds with
    |some s0=>(Ad (λs=>
      match UH h.slots (wU (bX h.slots) s) (PB A (Ks h.slots) H0 env0) (Lo (Ks h.slots) 0 H0)with
      |some (e,hh)=>match mq H0.length e&&eL H0.length hh with|true=>run e hh λx e1 h1=>tz h x e1 h1|false=>none
      |none=>none) s0).bind λo=>zO h H0.length (PB A (Ks h.slots) H0 env0) H0 (Ks h.slots) k o
    |none=>none
   |_,_=>none
def tZ(c:Operand)(ra rb:Sem):Sem:=λenv H k=>
 match Iq env c with
 | .c (.bl v)=>cond v (ra env H k) (rb env H k)
 |_=>none
def rq(id:Nat)(r:Sem):Sem:=λenv H k=>r env H λe env' H'=>
 match e with
 | .exit id'=>match Nat.beq id' id with|true=>k .normal env' H'|false=>k (.exit id') env' H'
 |e=>k e env' H'
def nh(o:Option Hint)(A:List Nat)(run:Sem):Sem:=
 match o with
 |some h=>wu h A run
 |none=>run
noncomputable def AAF(o:Option Hint)(A:List Nat)(run:Sem):Sem:=
 match o with
 |some h=>w7 h A run
 |none=>λ_ _ _=>none
def bO:BS->BS
 |[]=>[]
 |(t,v)::r=>match KD v.refs with|[]=>(t,v)::bO r|_=>bO r
def sq(P:Program)(call:Q9)(N:Nat)(me:FuncId)(f:Operand)(ps:Array Tmp)(a b:Code):Sem:=λenv H k=>
 match Iq env f with
 | .c (.raw (.fn (.func G) first caps))=>
  match Zj P G with
  |true=>call (.fn G) (first.map vg++[.c (.raw (.yf H.length))]++caps.map vg) (H++[.lp false me N (bO env) ps a b .ready]) λ_ H'=>
   match H'[H.length]? with
   |some (.lp false _ _ _ _ _ _ .ready)=>k .normal env (H'.set H.length .dead)
   |some (.lp false _ _ _ _ _ _ .ret)=>k .ret env (H'.set H.length .dead)
   |some (.lp false _ _ _ _ _ _ (.exit x))=>k (.exit x) env (H'.set H.length .dead)
   |_=>none
  |false=>none
 |_=>none
noncomputable def gD(P:Program)(cs:List SV)(call:Q9)(N:Nat)(me:FuncId)(hs:List Hint):Code->Sem
 | .skip=>λenv H k=>k .normal env H
 | .ret=>λenv H k=>k .ret env H
 | .exit id=>λenv H k=>k (.exit id) env H
 | .seq a (.seq m r)=>λenv H k=>
  match gU a m with
  |some p=>wK P N cs p env H λenv' H'=>gD P cs call N me hs r env' H' k
  |none=>gD P cs call N me hs a env H λe env' H'=>match e with| .normal=>gD P cs call N me hs (.seq m r) env' H' k|e=>k e env' H'
 | .seq a b=>nh (kg hs a b) (Pa hs (.seq a b)) λenv H k=>gD P cs call N me hs a env H λe env' H'=>match e with| .normal=>gD P cs call N me hs b env' H' k|e=>k e env' H'
 | .cond c a b=>nh (bK hs (.cond c a b)) (Pa hs (.cond c a b)) (tZ c (gD P cs call N me hs a) (gD P cs call N me hs b))
 | .block id b=>nh (bK hs (.block id b)) (Pa hs (.block id b)) (rq id (gD P cs call N me hs b))
 | .loop b=>AAF (bK hs (.loop b)) (Pa hs (.loop b)) (gD P cs call N me hs b)
 | .region id ops false=>nh (bK hs (.region id ops false)) (Pa hs (.region id ops false)) λenv H k=>
  match Ns N ops.toList with
  |true=>rA P cs call ops (guards ops) false ops.toList 0 env H λenv' H'=>k .normal env' H'
  |false=>none
 | .region id ops true=>λenv H k=>
  match P.follows .mixedOrders&&uO ops N (sm ops)&&TX P ops&&jQ env with
  |true=>tC P cs call ops (Hu ops.toList []) (guards ops) (match gZ 3 id hs with|some _=>true|none=>false) (sm ops) [] env H λenv' H'=>k .normal env' H'
  |false=>none
 | .rangeFunc f ps a b=>sq P call N me f ps a b
 |_=>λ_ _ _=>none
def zk{f:List Hint}(j: ∀m r,G≠ .seq m r)(env:BS)(H:An)(g:Exit→BS→An→Option R):
  gD P c k N F f (.seq d G) env H g=nh (kg f d G) (Pa f (.seq d G)) (λenv H g=>gD P c k N F f d env H λe h i=>match e with| .normal=>gD P c k N F f G h i g|e=>g e h i) env H g:=by
 cases G<;>first|rfl|exact absurd rfl (j _ _)
def Oh(P:Program)(N:Nat)(A:List Nat)(c:Code)(run:Sem):Prop:= ∀{R:Type} (env:BS) (H:An) (k:Exit->BS->An->Option R) (r:R),O0 env H->run env H k=some r->
 ∃e env' H',nB P N c (Br env) (A5 H) (VN e (Br env') (A5 H'))/\k e env' H'=some r/\O0 env' H'/\E2 A env H env' H'
theorem uU: ∀{l:List (Nat×Ty)} {env:BS} {H:An} {a:BS} {b:An},O0 env H→iE l env H=some (a,b)→
  O0 a b/\E2 (l.map (·.1)) env H a b/\ ∀N,F3 N H.length (Br env) (A5 H) (Br a) (A5 b)
 |[],env,H,a,b,ok,h=>by grind[iE,E2.refl,F3.refl,CR]
 |(t,ty)::r,env,H,a,b,ok,h=>by
  simp only[iE]at h;split at h;rename_i n;have j:B0 H (H++[.buf false ty [] 0 0]):=B0.push H _;have g:(H++[Dl.buf false ty [] 0 0])[H.length]? =some (.buf false ty [] 0 0):=by simp
  have i:O0 (env.put t (.c (.own H.length 0 ty 0))) (H++[.buf false ty [] 0 0]):=by refine⟨bS (d:=some t) (j.env ok.env) (JR (U1 g)),λe f=>?_⟩;rcases Ar.1 f with f|f;exact j.ent (ok.heap e f);rw[A3.1 f];rfl
  obtain⟨q1,q2,q3⟩:=uU i h;refine⟨q1,?_,λN=>?_⟩;have p:E2 [t] env H (env.put t (.c (.own H.length 0 ty 0))) (H++[.buf false ty [] 0 0]):=⟨j,λu o _=>iD λe=>o (by simp[e])⟩
  exact E2.trans ok.env p q2;have w:=F3.virt (N:=N) (env:=Br env) (H:=A5 H) (t:=t) (sz:=ty.sz) (by rw[Rz,n];rfl);have k:=(q3 N).of_le (n0:=H.length) (by simp);rw[gY]at k;have m:A5 (H++[.buf false ty [] 0 0])=A5 H++[.live 0 []]:=by simp[A5,Dl.enc,SW.cl]
  rw[m]at k;rw[CR]at w;exact w.trans k;cases h
def js: ∀{n:Nat} {e x y:List Ba},lR n e=some (x,y)->e=x++ .nil::y
 |0,[],_,_,h=>by cases h
 |0,z::r,x,y,h=>by
  cases z<;>simp only[lR]at h<;>try (cases h;done)
  injection h with h;injection h with c d;subst c d;rfl
 |n+1,[],_,_,h=>by cases h
 |n+1,z::r,x,y,h=>by simp only[lR]at h;split at h;rename_i a b hr;injection h with h;injection h with c d;subst c d;rw[js hr];rfl;cases h
theorem rL{env:BS}: ∀{l:List (Nat×Nat×Ty)} {H c:An},O0 env H→dg l H=some c→
  O0 env c/\B0 H c/\ ∀N,F3 N H.length (Br env) (A5 H) (Br env) (A5 c)
 |[],H,c,ok,h=>by grind[dg,Option.some.injEq,B0.refl,F3.refl,Br,A5,CR]
 |(b,i,ty)::r,H,c,ok,h=>by
  simp only[dg]at h;split at h;rename_i E v;split at h;rename_i x y B;have m:=js B;subst m;have D:b<H.length:=by grind
  have f:B0 H (H++[Dl.buf false ty [] 0 0]):=B0.push H _;have a:H.set b (Dl.live false (x++Ba.own H.length 0 ty 0::y))++[Dl.buf false ty [] 0 0]=(H++[Dl.buf false ty [] 0 0]).set b (Dl.live false (x++Ba.own H.length 0 ty 0::y)):=by grind
  have j:(H++[Dl.buf false ty [] 0 0])[b]? =some (Dl.live false (x++Ba.nil::y)):=by grind
  have g:B0 (H++[Dl.buf false ty [] 0 0]) ((H++[Dl.buf false ty [] 0 0]).set b (Dl.live false (x++Ba.own H.length 0 ty 0::y))):=B0.set j rfl λ_ _ _ _ _ e=>by cases e
  have n:(H++[Dl.buf false ty [] 0 0])[H.length]? =some (.buf false ty [] 0 0):=by simp
  have t:lok H (x++Ba.nil::y):=ok.heap _ (BJ v);have s: ∀e∈H++[Dl.buf false ty [] 0 0],e.ok (H++[Dl.buf false ty [] 0 0]):=λe d=>by rcases Ar.1 d with d|d;exact f.ent (ok.heap e d);rw[A3.1 d];rfl
  have u:lok (H++[Dl.buf false ty [] 0 0]) (x++Ba.own H.length 0 ty 0::y):=by have q:=IY.1 (f.lok t);refine IY.2 ⟨q.1,λz o=>?_⟩;rcases Am.1 o with rfl|o;exact U1 n;exact q.2 z (CD _ o)
  rw[a]at h;have p:O0 env ((H++[Dl.buf false ty [] 0 0]).set b (Dl.live false (x++Ba.own H.length 0 ty 0::y))):=⟨g.env (f.env ok.env),heap_set g s (g.lok u)⟩
  obtain⟨q1,q2,q3⟩:=rL p h;refine⟨q1,(f.trans g).trans q2,λN=>?_⟩;have k:(A5 H)[b]? =some (.live 0 (lvs (x++Ba.nil::y))):=by rw[E7,v];rfl
  have C:(lvs (x++Ba.nil::y))[(lvs x).length]? =some .nils:=by grind[Gi,HN,Ba.enc]
  have w:=F3.virtC (N:=N) (env:=Br env) (sz:=ty.sz) k C;have A:A5 ((H++[Dl.buf false ty [] 0 0]).set b (Dl.live false (x++Ba.own H.length 0 ty 0::y)))=(A5 H).set b (.live 0 ((lvs (x++Ba.nil::y)).set (lvs x).length (.sl (A5 H).length 0 ty.sz 0 0)))++[.live 0 []]:=by
   rw[<-a];have:(lvs (x++Ba.nil::y)).set (lvs x).length (.sl (A5 H).length 0 ty.sz 0 0)=lvs (x++Ba.own H.length 0 ty 0::y):=by grind[Gi,HN,CR,Ba.enc]
   grind[A5,Dl.enc,SW.cl,List.map_set]
  rw[<-A,CR]at w;exact w.trans ((q3 N).of_le (by simp));cases h;cases h
theorem uL(ok:O0 f b)(H:zX s f b=some (I,A)):
  O0 I A/\E2 (s.virt.map (·.1)) f b I A/\ ∀N,F3 N b.length (Br f) (A5 b) (Br I) (A5 A):=by
 unfold zX at H;split at H;rename_i e d n;obtain⟨a1,a2,a3⟩:=uU ok n;split at H;rename_i h m;injection H with H;injection H with k l;subst k l;obtain⟨g,i,j⟩:=rL a1 m;have o:E2 [] e d e h:=⟨i,λ_ _ _=>rfl⟩
 exact⟨g,(E2.trans ok.env a2 o).mono λt p=>by grind,λN=>(a3 N).trans ((j N).of_le a2.step.len)⟩;cases H;cases H
theorem nM{A S:List Nat}{H:An}: ∀{env:BS},(env.map (·.1)).Nodup-> ∀t,env.get t=Se->(PB A S H env).get t=Se
 |[],_,_,_=>rfl
 |(u,v)::r,nd,t,h=>by have a:=Fe.1 nd;simp only[BS.get]at h;by_cases b:u=t;subst b;have hn: ∀p∈PB A S H r,p.1≠u:=λp c e=>a.1 (Bl.2 ⟨p,(Pb a.2 p c).2.2,e⟩);grind[PB,BS.get,ec];rw[beq_false b]at h;have d:=nM (A:=A) (S:=S) (H:=H) a.2 t h;grind[PB,BS.get,beq_false]
theorem tj{h:Hint}{A B:List Nat}{env0:BS}{e:An}{D:BS}{E:An}(m:O0 env0 e)(nd:(env0.map (·.1)).Nodup)(M:rT A (Ks h.slots) env0 e D E)
  {env1:BS} {u:An} (C:O0 env1 u) (U:E2 B D E env1 u) (K: ∀t,t∈B->t∈A) (J: ∀t,t∈h.tmps->t∈A) {x:Exit} {o:pG h.exits} (Q:sZ h.exits x env1 u=some o)
  {R:Type} {k:Exit->BS->An->Option R} {r:R} (f:zO h e.length (PB A (Ks h.slots) e env0) e (Ks h.slots) k o=some r) (N:Nat):
  ∃g i,F3 N e.length (Br env1) (A5 u) (Br g) (A5 i)/\k x g i=some r/\O0 g i/\E2 A env0 e g i:=by
 obtain⟨rfl,L,p,S,y⟩:=nz Q;have f:=ny f;split at f;rename_i g i O;split at f;rename_i v;simp at v;have sub: ∀j,NT j (Ks (pH h.exits o).2.1)=false->NT j (Ks h.slots)=false:=λj d=>TQ λG=>by grind
 obtain⟨w,X,Z,z⟩:=tT m nd M C U K L m.heap rfl (wz e) (λ_ _ _ _ q=>q) (λj H d c=>by
  cases H with
  |dead=>grind
  |live b W=>exact .inr ⟨_,sub j d,by rw[Jv,c,D4,sub j d];rfl,rfl,.inr (.inl ⟨_,_,_,_,rfl,rfl,DQ.refl _⟩)⟩
  |buf b t l n V=>exact .inr ⟨_,sub j d,by rw[Jv,c,D4,sub j d];rfl,rfl,.inr (.inr (.inl ⟨_,_,_,_,_,_,_,rfl,rfl⟩))⟩
  |mp b k t Y=>exact .inr ⟨_,sub j d,by rw[Jv,c,D4,sub j d];rfl,rfl,.inr (.inr (.inr (.inr ⟨_,_,_,_,_,rfl,rfl⟩)))⟩
  |lp ro F n env ps a b s=>exact .inr ⟨_,sub j d,by rw[Jv,c,D4,sub j d];rfl,rfl,.inr (.inr (.inr (.inl ⟨_,_,_,_,_,_,_,_,_,rfl,rfl⟩)))⟩) O v.1 v.2.1 N
 refine⟨g,i,w,f,z.ok,z.step,λt T P=>?_⟩;have I:=TQ λG=>T (J t (by refine Ar.2 (.inr (HX.2 ⟨p,S,?_⟩));rw[<-y];exact G));rw[z.get t I];grind[pj,Se,nM,dl,wx,TQ];cases f;cases f
variable {P:Program} {N:Nat}
variable {h:Sem}
theorem qW(hr:Oh P N z d h)(n: ∀t,t∈z->t∈a)(m: ∀t,t∈s.tmps->t∈a):Oh P N a d (wu s a h):=by
 intro R env H k r ok c;unfold wu at c;dsimp only at c;split at c;cases c;rename_i env0 f v;split at c;cases c;rename_i hn;obtain⟨o,B,c⟩:=bnd c;obtain⟨b,x,y⟩:=uL ok v;have nd:=Wt hn;obtain⟨e,env1,A,a1,k1,g,i⟩:=hr env0 (Lo (Ks s.slots) 0 f) _ o (gz b) B;have q:rT a (Ks s.slots) env0 f env0 (Lo (Ks s.slots) 0 f):=⟨gz b,B0.refl _,Jw _ _,λ_ _=>rfl,λp u=>(Pb nd p u).1⟩
 obtain⟨j,l,w,q1,q2,q3⟩:=tj b nd q g i n m k1 c N;refine⟨e,j,l,?_,q1,q2,?_⟩;rw[nk]at a1;refine nB.weak (by rw[CR];exact y N) (nB.after (a1.mono ?_));rintro _ _ _ ⟨rfl,rfl,rfl⟩;exact⟨_,_,by rw[CR];exact w,rfl,rfl,rfl⟩;exact(E2.trans ok.env x q3).mono λt C=>by grind[Hint.tmps]
theorem w8(hr:Oh P N z d h)(hB: ∀t,t∈z->t∈a)(X: ∀t,t∈s.tmps->t∈a):Oh P N a (.loop d) (w7 s a h):=by
 intro R env H k r ok g;unfold w7 at g;dsimp only at g;split at g;cases g
 ·rename_i E Hv hv;obtain⟨bd,sv,wv⟩:=uL ok hv;obtain⟨m,sf,wf⟩:=Pf (s.kill++fA E Hv s.slots) bd;generalize Hy (s.kill++fA E Hv s.slots) E Hv=fz at g m sf wf;obtain⟨env0,f⟩:=fz;simp only at g m sf wf;split at g
  ·rename_i ds hn hc;split at g
   ·rename_i s0 a8;obtain⟨o,ho,g⟩:=bnd g;have nd:=Wt hn;have v: ∀e∈Lo (Ks s.slots) 0 f,e.ok (Lo (Ks s.slots) 0 f):=(gz m).heap;have hC:=sQ (C:=λV o=> ∀r,zO s f.length (PB a (Ks s.slots) f env0) f (Ks s.slots) k o=some r->
     ∃u i,UH s.slots (wU (bX s.slots) V) (PB a (Ks s.slots) f env0) (Lo (Ks s.slots) 0 f)=some (u,i)/\mq f.length u=true/\eL f.length i=true/\(rT a (Ks s.slots) env0 f u i-> ∃x D G,Lr P N d (Br u) (A5 i) (VN x (Br D) (A5 G))/\k x D G=some r/\O0 D G/\E2 a env0 f D G)) (λV q U=>by
     split at U
     ·rename_i u i hi;split at U
      ·rename_i I;simp only[BO]at I;have body: ∀y:rT a (Ks s.slots) env0 f u i,∃e env1 J,nB P N d (Br u) (A5 i) (VN e (Br env1) (A5 J))/\tz s e env1 J=some q/\O0 env1 J/\E2 z u i env1 J:=λy=>hr u i _ q y.ok U;cases q with
       |next s'=>
        intro o ih r g;obtain⟨ad,ar,i1,i2,i3,i4⟩:=ih r g;refine⟨u,i,hi,I.1,I.2,λy=>?_⟩;obtain⟨e,env1,J,a1,k1,O,Q⟩:=body y;unfold tz at k1;split at k1;rename_i hx;have:=lT hx;subst this;split at k1;rename_i s1 a9;injection k1 with k1;injection k1 with k1;subst k1;have a3:=fX a9;obtain⟨w,ea,ha,B⟩:=tT (Hx:=Lo (Ks s.slots) 0 f) m nd y O Q hB a3 v (Jw _ _) (.refl _) (λ_ _ _ _ q=>mH q) (λj e' L c=>by
         cases Y:f[j]? with
         |none=>grind[Jv]
         |some W=>
          have Z:=c;rw[Jv,Y,D4,L]at c;simp only[Be,Ai]at c;subst c;cases W with
          |dead=>exact .inl rfl
          |live b cs=>exact .inr ⟨_,L,Z,rfl,.inr (.inl ⟨_,_,_,_,rfl,rfl,DQ.refl _⟩)⟩
          |buf b t l n bl=>exact .inr ⟨_,L,Z,rfl,.inr (.inr (.inl ⟨_,_,_,_,_,_,_,rfl,rfl⟩))⟩
          |mp b k t es=>exact .inr ⟨_,L,Z,rfl,.inr (.inr (.inr (.inr ⟨_,_,_,_,_,rfl,rfl⟩)))⟩
          |lp ro F n env ps A b V=>exact .inr ⟨_,L,Z,rfl,.inr (.inr (.inr (.inl ⟨_,_,_,_,_,_,_,_,_,rfl,rfl⟩)))⟩) i1 i2 i3 N
        have a4:rT a (Ks s.slots) env0 f ad ar:=⟨B.ok,B.step,by rw[B.len,Jw],B.same,λp M=>by
         obtain⟨T,b2,b3⟩:=Pb nd p M;have K:NT p.1 a=false:=by grind[bh,NT]
         rw[B.get p.1 (TQ λhm=>Rj K (X _ (by unfold Hint.tmps;simp only[List.mem_append];exact .inl (.inr hm))))];rw[dl nd p.1 (by rw[T];exact b2)];exact T⟩
        obtain⟨x,D,G,l1,l2,l3,l4⟩:=i4 a4;refine⟨x,D,G,Q4 (a1.awp.mono ?_),l2,l3,l4⟩;rintro _ _ _ ⟨rfl,rfl,rfl⟩;exact⟨_,_,by rw[CR,y.len];exact w,l1⟩;cases k1;split at k1<;>grind
       |done o=>
        intro r g;refine⟨u,i,hi,I.1,I.2,λy=>?_⟩;obtain⟨e,env1,J,a1,k1,O,Q⟩:=body y;unfold tz at k1;split at k1;split at k1<;>grind;rename_i hx;split at k1;rename_i o1 a7;injection k1 with k1;injection k1 with k1;subst k1;obtain⟨D,G,w,q1,q2,q3⟩:=tj m nd y O Q hB X a7 g N;have a6:e≠ .normal:=by rintro rfl;cases hx
        refine⟨e,D,G,Lr.after (Q4 (a1.awp.mono ?_)),q1,q2,q3⟩;intro e1 al bt a';obtain⟨ax,a0,a2⟩:=a';subst ax a0 a2;have ap: ∃env2 H2,F3 N (A5 i).length (Br env1) (A5 J) env2 H2/\VN e1 (Br D) (A5 G) e1 env2 H2:=⟨_,_,by rw[CR,y.len];exact w,rfl,rfl,rfl⟩
        cases e1 with
        |normal=>exact(a6 rfl).elim
        |_=>exact ap
        cases k1
      cases U
     cases U) ho
    obtain⟨u,i,i1,i2,i3,i4⟩:=hC r g;have a5:=jP a8;rw[a5]at i1;have bb:O0 (PB a (Ks s.slots) f env0) (Lo (Ks s.slots) 0 f):=⟨λp M=>(gz m).env p (Pb nd p M).2.2,v⟩
    have B:=NS m hc i1 bb (by rw[Jw];exact Ak _) (λp M=>⟨p.2,(Pb nd p M).2.2,UR.refl _⟩) (λj e' L c=>by
     rw[Jv]at c;cases Y:f[j]? with
     |none=>rw[Y]at c;cases c
     |some W=>
      rw[Y,D4,L]at c;simp only[Be,Ai]at c;subst c;refine⟨W,rfl,?_⟩;cases W with
      |dead=>exact .inl rfl
      |live b cs=>exact .inr (.inl ⟨_,_,_,_,rfl,rfl,DQ.refl _⟩)
      |buf b t l n bl=>exact .inr (.inr (.inl ⟨_,_,_,_,_,_,_,rfl,rfl⟩))
      |mp b k t es=>exact .inr (.inr (.inr (.inr ⟨_,_,_,_,_,rfl,rfl⟩)))
      |lp ro F n env ps A b V=>exact .inr (.inr (.inr (.inl ⟨_,_,_,_,_,_,_,_,_,rfl,rfl⟩)))) (zI f)
    have w:=B.weak (N:=N) (by rw[Jw];exact Ak _) (by rw[Jw];exact i2) (by rw[Jw];exact i3);rw[Jw]at w;have y:rT a (Ks s.slots) env0 f u i:=⟨B.ok,B.step,by rw[B.len,Jw],B.same,λp M=>by
     obtain⟨T,b2,b3⟩:=Pb nd p M;have K:NT p.1 a=false:=by grind[bh,NT]
     rw[B.get p.1 (TQ λhm=>Rj K (X _ (by unfold Hint.tmps;simp only[List.mem_append];exact .inl (.inr hm))))];rw[dl nd p.1 (by rw[T];exact b2)];exact T⟩
    obtain⟨x,D,G,l1,l2,l3,l4⟩:=i4 y;have w3:F3 N H.length (Br env) (A5 H) (Br u) (A5 i):=((wv N).trans ((wf N).of_le (by rw[CR];exact sv.step.len))).trans (w.of_le (Do sv.step.len sf.step.len));refine⟨x,D,G,nB.weak (by rw[CR];exact w3) l1,l2,l3,?_⟩;exact(E2.trans ok.env (E2.trans ok.env sv sf) l4).mono λt S=>by rcases Ar.1 S with S|S;rw[Dm]at S;exact X t (by unfold Hint.tmps;simp only[List.mem_append];exact .inl (.inl (.inr S)));exact S
   cases g
  cases g
def wN{A B:List Nat}{j:Sem}(l:Oh P N A d h)(m:Oh P N B G j):Oh P N (A++B) (.cond E d G) (tZ E h j):=by
 intro R env H k r ok f;unfold tZ at f;dsimp only at f;split at f;rename_i v n;have i:BA (Br env) E= .bool v:=by have:=KH env E;rw[n]at this;exact this
 cases v with
 |true=>obtain⟨e,c,g,a1,q1,q2,q3⟩:=l env H k r ok f;exact⟨e,c,g,D2 (λ_ e=>by cases e) (Lq.cond i (λ_=>a1.awp) (λe=>by cases e)),q1,q2,q3.mono λt a=>Ar.2 (.inl a)⟩
 |false=>obtain⟨e,c,g,a1,q1,q2,q3⟩:=m env H k r ok f;exact⟨e,c,g,D2 (λ_ e=>by cases e) (Lq.cond i (λe=>by cases e) (λ_=>a1.awp)),q1,q2,q3.mono λt a=>Ar.2 (.inr a)⟩
 cases f
def ub{A:List Nat}(hr:Oh P N A d h):Oh P N A (.block n d) (rq n h):=by
 intro R env H k r ok i;obtain⟨e,a,f,a1,q1,q2,q3⟩:=hr env H _ r ok i;cases e with
 |exit c=>
  simp only at q1;split at q1;rename_i b;have:=DN b;refine⟨.normal,a,f,D2 (λ_ e=>by cases e) (Lq.block (a1.awp.mono ?_)),q1,q2,q3⟩;rintro _ _ _ ⟨rfl,rfl,rfl⟩;simp only[iY,if_pos this];exact⟨rfl,rfl,rfl⟩;rename_i b;have g:c≠n:=λe=>by simp_all
  refine⟨.exit c,a,f,D2 (λ_ e=>by cases e) (Lq.block (a1.awp.mono ?_)),q1,q2,q3⟩;rintro _ _ _ ⟨rfl,rfl,rfl⟩;simp only[iY,if_neg g];exact⟨rfl,rfl,rfl⟩
 |_=>refine⟨_,a,f,D2 (λ_ e=>by cases e) (Lq.block (a1.awp.mono ?_)),q1,q2,q3⟩;rintro _ _ _ ⟨rfl,rfl,rfl⟩;exact⟨rfl,rfl,rfl⟩
end Go.Ab
namespace Go.Ab
variable {P:Program} {N:Nat}
variable {N n y:Nat}{a z:List Nat}{R L:Type}{b A:An}{c:List SV}{d G:Code}{F:FuncId}{f I M:BS}{P:Program}{g:List AV}{h:Sem}{i:AV}{j:Bool}{k:Q9}{p:Ty}{q:Int}{t:List TV}{v:World}{x:Exit}{B:U5}{E:Operand}{J:Func}
def Oh.mono(c:Oh P N a d h)(f: ∀t,t∈a->t∈z):Oh P N z d h:=λenv H k r ok g=>by obtain⟨e,A,B,q1,q2,q3,q4⟩:=c env H k r ok g;exact⟨e,A,B,q1,q2,q3,q4.mono f⟩
def mA{hs:List Hint}{A B:List Nat}(hr:Oh P N B d h)(c: ∀t,t∈B->t∈A)(b: ∀t,t∈j8 hs d->t∈A):Oh P N A d (nh (bK hs d) A h):=by
 unfold j8 at b;generalize bK hs d=o at b⊢;cases o with
 |none=>exact hr.mono c
 |some a=>exact qW hr c b
def w9{hs:List Hint}{A B:List Nat}(hr:Oh P N B d h)(c: ∀t,t∈B->t∈A)(b: ∀t,t∈j8 hs (.loop d)->t∈A):Oh P N A (.loop d) (AAF (bK hs (.loop d)) A h):=by
 unfold j8 at b;generalize bK hs (.loop d)=o at b⊢;cases o with
 |none=>exact λenv H k r ok e=>by cases e
 |some a=>exact w8 hr c b
def TR: ∀{env:BS} {p:Nat×TV},p∈bO env->p∈env/\KD p.2.refs=[]
 |(t,v)::r,p,h=>by simp only[bO]at h;split at h;rename_i a;rcases Am.1 h with rfl|h;exact⟨JK,a⟩;exact⟨CD _ (TR h).1,(TR h).2⟩;exact⟨CD _ (TR h).1,(TR h).2⟩
theorem vK(S:UQ P k){C:Array Tmp}:Oh P N a (.rangeFunc E C d G) (sq P k N F E C d G):=by
 intro R env H y r ok w;unfold sq at w;dsimp only at w;split at w;rename_i Q first m hf
 split at w;rename_i hE;have e1:BA (Br env) E= .fn (.func Q) first m:=by rw[KH,hf];rfl
 have I:(Dl.lp false F N (bO env) C d G .ready).ok (H++[.lp false F N (bO env) C d G .ready]):=λp T id al t n hm=>by have:=fu hm;rw[(TR T).2]at this;cases this
 have V:B0 H (H++[.lp false F N (bO env) C d G .ready]):=B0.push H _;obtain⟨v,i,q1,q2,q3,q4,q5⟩:=S (.fn Q) _ _ _ r (λv Y=>by simp only[Ar,Bl,A3]at Y;rcases Y with(⟨u,_,rfl⟩|rfl)|⟨u,_,rfl⟩;exact de u;exact JR trivial;exact de u) (OR ok.heap I) w
 have z: ∀{ro:Bool} {A n e p c f} {s:LS} {x:Exit},i[H.length]? =some (.lp ro A n e p c f s)→ro=false→(∀L:eU,L.state=s.st→L.pending=s.pend→xZ P N (Br env) H.length (VN x (Br env) (A5 (i.set H.length .dead))) ((A5 i).set H.length (.lp L)))→y x env (i.set H.length .dead)=some r→
   ∃W g O,nB P N (.rangeFunc E C d G) (Br env) (A5 H) (VN W (Br g) (A5 O))/\y W g O=some r/\O0 g O/\E2 a env H g O:=by
  intro ro A n e p c f s x q U hq w;subst U;have M:B0 i (i.set H.length .dead):=B0.set q rfl λ_ _ _ _ _ h=>by cases h
  have Z:=(V.trans q5).trans M;refine⟨x,env,_,D2 (λ_ e=>by cases e) (eM (Br (bO env)) (λp T=>?_) e1 hE ?_),w,⟨Z.env ok.env,SN M q4 trivial⟩,Z,λ_ _ _=>rfl⟩;obtain⟨u,hu,rfl⟩:=Bl.1 T;exact Bl.2 ⟨u,(TR hu).1,rfl⟩;have K:Ep P Q _ _ _:=q1;have B:(first.map vg++[TV.c (.raw (.yf H.length))]++m.map vg).map TV.enc=first++[.yf (A5 H).length]++m:=by
   have X: ∀l:List AV,(l.map vg).map TV.enc=l:=by
    intro l;rw[Nh];conv=>rhs;rw[<-Zl l]
    grind[List.map_congr_left,ba]
   rw[Ng,Ng,X,X,CR];rfl
  rw[B,Pd]at K;apply K.mono;rintro _ _ ⟨rfl,rfl⟩;rw[CR];have J:A5 i=(A5 i).set H.length (.lp ⟨n,Br e,p,c,f,s.st,s.pend⟩):=by
   have hg:(A5 i)[H.length]? =some (.lp ⟨n,Br e,p,c,f,s.st,s.pend⟩):=by rw[E7,q];rfl
   apply Mo;intro j;by_cases ad:j=H.length<;>grind
  rw[J];exact hq _ rfl rfl
 have look: ∀L:eU,H.length<i.length->((A5 i).set H.length (.lp L))[H.length]? =some (.lp L):=λL h=>by grind[List.getElem?_set_self,CR]
 have o: ∀L:eU,((A5 i).set H.length (.lp L)).set H.length .dead=A5 (i.set H.length .dead):=λL=>by rw[VC,Mu];rfl
 split at q2;rename_i q;refine z q rfl (λL D b=>⟨L,look L (Gv q),by rw[D];simp[LS.st],?_⟩) q2;rw[b,o];exact⟨rfl,rfl,rfl⟩;rename_i q;refine z q rfl (λL D b=>⟨L,look L (Gv q),by rw[D];simp[LS.st],?_⟩) q2;rw[b,o];exact Lq.ret ⟨rfl,rfl,rfl⟩;rename_i x q;refine z q rfl (λL D b=>⟨L,look L (Gv q),by rw[D];simp[LS.st],?_⟩) q2;rw[b,o];exact Lq.exit ⟨rfl,rfl,rfl⟩;cases q2;cases w;cases w
theorem wM{hs:List Hint}(h:gU d G=some B): ∀t∈B.tmps,t∈Pa hs d++Pa hs G:=by obtain⟨o,v,l,q,w,n,r,x,s,y,u,z,rfl,rfl,f,g,i,j,k,_⟩:=gV h;obtain⟨_,_,_,_,_,_,l1⟩:=kF f;obtain⟨_,_,_,_,_,_,l2⟩:=kG g;obtain⟨_,_,_,_,_,_,_,_,_,_,_,_,c⟩:=kH i;obtain⟨_,_,_,_,_,_,_,_,_,_,_,_,_,_,_,a⟩:=kI j;obtain⟨_,_,_,_,_,_,_,e⟩:=kJ k;intro t b;simp only[Pa,l1,l2,c,a,e,gX,Ar];simp only[U5.tmps]at b;grind
theorem zj(B: ∀v∈c,v.Ok P)(z:UQ P k)(x:FuncId)(d:List Hint): ∀v:Code,Oh P N (Pa d v) v (gD P c k N x d v)/\ ∀m r,v= .seq m r->Oh P N (Pa d r) r (gD P c k N x d r):=by
 intro v;induction v with
 |skip=>exact⟨λenv H g r ok n=>⟨.normal,env,H,D2 (λ_ e=>by cases e) (Lq.skip ⟨rfl,rfl,rfl⟩),n,ok,E2.refl _ _ _⟩,λ_ _ e=>by cases e⟩
 |ret=>exact⟨λenv H g r ok n=>⟨.ret,env,H,D2 (λ_ e=>by cases e) (Lq.ret ⟨rfl,rfl,rfl⟩),n,ok,E2.refl _ _ _⟩,λ_ _ e=>by cases e⟩
 |exit id=>exact⟨λenv H g r ok n=>⟨.exit id,env,H,D2 (λ_ e=>by cases e) (Lq.exit ⟨rfl,rfl,rfl⟩),n,ok,E2.refl _ _ _⟩,λ_ _ e=>by cases e⟩
 |seq a b D s=>
  refine⟨?_,λm r e=>by injection e with K L;subst K L;exact s.1⟩;have G:Oh P N (Pa d a++Pa d b) (.seq a b) (λenv H g=>gD P c k N x d a env H λe j u=>match e with| .normal=>gD P c k N x d b j u g|e=>g e j u):=by
   intro R env H g r ok n;obtain⟨e,env1,O,a1,k1,w,S⟩:=D.1 env H _ r ok n;cases e with
   |normal=>obtain⟨L,env2,y,a2,W,F,s2⟩:=s.1 env1 O g r w k1;refine⟨L,env2,y,D2 (λ_ e=>by cases e) (Lq.seq (a1.awp.mono ?_)),W,F,E2.trans ok.env S s2⟩;rintro _ _ _ ⟨rfl,rfl,rfl⟩;exact a2.awp
   |_=>refine⟨_,env1,O,D2 (λ_ e=>by cases e) (Lq.seq (a1.awp.mono ?_)),k1,w,S.mono λt l=>Ar.2 (.inl l)⟩;rintro _ _ _ ⟨rfl,rfl,rfl⟩;exact⟨rfl,rfl,rfl⟩
  intro R env H g r ok n;by_cases hq: ∃m I,b= .seq m I;obtain⟨m,I,rfl⟩:=hq;simp only[gD]at n;split at n;rename_i p hp;obtain⟨env1,O,a1,k1,w,S⟩:=wL B hp ok n;obtain⟨L,env2,y,a2,W,F,s2⟩:=s.2 m I rfl env1 O g r w k1;refine⟨L,env2,y,D2 (λ_ e=>by cases e) (Lq.seq (a1.mono ?_)),W,F,(E2.trans ok.env S s2).mono λt l=>?_⟩;intro e E h hx;cases e with
  |normal=>exact Lq.seq (hx.mono (by rintro _ _ _ ⟨rfl,rfl,rfl⟩;exact a2.awp))
  |_=>exact hx.elim
  show t∈(Pa d a++((Pa d m++Pa d I)++mc d m I))++mc d a (.seq m I);rcases Ar.1 l with l|l;rcases Ar.1 (wM (hs:=d) hp t l)with h|h<;>simp[h];simp[l];exact G.mono (λt l=>Ar.2 (.inl l)) env H g r ok n;have n:gD P c k N x d (.seq a b) env H g=some r:=n;rw[zk λm r e=>hq ⟨m,r,e⟩]at n;have T: ∀t,t∈mc d a b->t∈Pa d (.seq a b):=λt l=>Ar.2 (.inr l);have hB: ∀t,t∈Pa d a++Pa d b->t∈Pa d (.seq a b):=λt l=>Ar.2 (.inl l);unfold mc at T;generalize kg d a b=o at n T;cases o with
  |none=>exact G.mono hB env H g r ok n
  |some h=>exact qW G hB T env H g r ok n
 |cond v a b D s=>have M:Oh P N (Pa d a++Pa d b) (.cond v a b) (tZ v (gD P c k N x d a) (gD P c k N x d b)):=wN D.1 s.1;refine⟨?_,λ_ _ e=>by cases e⟩;intro R;exact mA (hs:=d) (A:=Pa d (.cond v a b)) M (λt l=>Ar.2 (.inl l)) (λt l=>Ar.2 (.inr l))
 |block id b V=>have M:Oh P N (Pa d b) (.block id b) (rq id (gD P c k N x d b)):=ub V.1;refine⟨?_,λ_ _ e=>by cases e⟩;intro R;exact mA (hs:=d) (A:=Pa d (.block id b)) M (λt l=>Ar.2 (.inl l)) (λt l=>Ar.2 (.inr l))
 |loop b V=>exact⟨w9 (hs:=d) (A:=Pa d (.loop b)) V.1 (λt l=>Ar.2 (.inl l)) (λt l=>Ar.2 (.inr l)),λ_ _ e=>by cases e⟩
 |region id q J=>
  refine⟨?_,λ_ _ e=>by cases e⟩;cases J with
  |false=>
   have M:Oh P N (gX q.toList) (.region id q false) (λenv H g=>match Ns N q.toList with
    |true=>rA P c k q (guards q) false q.toList 0 env H λj u=>g .normal j u
    |false=>none):=by
    intro R env H g r ok n;dsimp only at n;split at n;rename_i C;obtain⟨j,u,X,Y,Z,r4⟩:=bT (N:=N) B z _ _ _ _ _ _ ok n;refine⟨.normal,j,u,D2 (λ_ e=>by cases e) (FW C ?_),Y,Z,r4⟩;show Tw P N q q.toList (Br env) (A5 H) (λK y=>Exit.normal=Exit.normal/\K=Br j/\y=A5 u);simpa using X;cases n
   intro R;exact mA (hs:=d) (A:=Pa d (.region id q false)) M (λt l=>Ar.2 (.inl l)) (λt l=>Ar.2 (.inr l))
  |true=>
   intro R env H g r ok n;simp only[gD]at n;split at n;rename_i C;simp only[BO]at C;obtain⟨j,u,X,Y,Z,r4⟩:=Vv (N:=N) B z _ _ _ _ _ _ ok n;refine⟨.normal,j,u,D2 (λ_ e=>by cases e) (dE C.1.1.1 _ C.1.1.2 C.1.2 ?_ ?_),Y,Z,r4.mono λt l=>Ar.2 (.inl ?_)⟩;have:=Wt C.2;rw[Br,Nh];exact this;show RA P N q (sm q) [] (Br env) (A5 H) (λK y=>Exit.normal=Exit.normal/\K=Br j/\y=A5 u);simpa using X;unfold mr at l;obtain⟨i,_,Q⟩:=Ni.1 l;cases U:q[i]? with
   |none=>rw[U]at Q;cases Q
   |some o=>
    rw[U]at Q;refine Ni.2 ⟨o,?_,Q⟩;have:q.toList[i]? =some o:=by simpa using U
    exact BJ this
   cases n
 |rangeFunc f ps a b _ _=>exact⟨vK z,λ_ _ e=>by cases e⟩
 |_=>exact⟨λenv H g r ok n=>(by simp only[gD]at n;cases n),λ_ _ e=>by cases e⟩
theorem jZ(f: ∀b∈c,b.Ok P)(e:UQ P k)(g:FuncId)(d:List Hint)(b:Code):Oh P N (Pa d b) b (gD P c k N g d b):=by grind[zj]
end Go.Ab
namespace Go.Ab
def Yx:Nat->List TV->BS
 |_,[]=>[]
 |i,v::r=>(i,v)::Yx (i+1) r
def fw(P:Program)(env:BS)(H:An):List ResultVar->Option (List TV)
 |[]=>some []
 | .tmp t::r=>match fw P env H r with|some vs=>some (env.get t::vs)|none=>none
 | .cell a t::r=>match fw P env H r with|some vs=>loadT P H t (env.get a) λv=>some (v::vs)|none=>none
def qU:Exit->Bool
 | .normal=>true
 | .ret=>true
 |_=>false
variable {N n y:Nat}{R L:Type}{b A:An}{c:List SV}{F:FuncId}{f I M:BS}{P:Program}{g:List AV}{i:AV}{j:Bool}{p:Ty}{q:Int}{t:List TV}{v:World}{x:Exit}{J:Func}
def ABp(P:Program)(fn:Func)(k:TV->An->Option R):Exit->BS->An->Option R:=λe env H=>
 match qU e with
 |true=>match fw P env H fn.results.toList with|some vs=>k (one vs) H|none=>none
 |false=>none
def rD:BS->List Tmp->List TV->BS
 |env,t::ts,v::vs=>rD (env.put t v) ts vs
 |env,_,_=>env
def xh(id:Nat)(k:TV->An->Option R):Exit->BS->An->Option R:=λe _ H=>
 match H[id]? with
 |some (.lp false F n env ps a b _)=>
  match e with
  | .normal=>k (.c (.bl true)) (H.set id (.lp false F n env ps a b .ready))
  | .ret=>k (.c (.bl false)) (H.set id (.lp false F n env ps a b .ret))
  | .exit x=>k (.c (.bl false)) (H.set id (.lp false F n env ps a b (.exit x)))
  |_=>none
 |_=>none
noncomputable def tA(P:Program)(cs:List SV)(call:Q9)(hs:FuncId->List Hint)(id:Nat)(vs:List TV)(H:An){R:Type}(k:TV->An->Option R):Option R:=
 match H[id]? with
 |some (.lp false F n env ps a b .ready)=>
  match Nat.beq vs.length ps.size&&ps.toList.all λt=>Nat.blt t n with
  |true=>gD P cs call n F (hs F) a (rD env ps.toList vs) H λe env1 H1=>
   match e with
   | .normal=>
    match H1[id]? with
    |some (.lp false F1 n1 e1 ps1 a1 b1 .ready)=>gD P cs call n F (hs F) b env1 (H1.set id (.lp false F1 n1 e1 ps1 a1 b1 .busy)) (xh id k)
    |_=>none
   |_=>none
  |false=>none
 |_=>none
noncomputable def jk(P:Program)(cs:List SV)(hs:FuncId->List Hint):Nat->Q9
 |0=>λ_ _ _ _=>none
 |n+1=>λtg vs H k=>
  match tg with
  | .fn F=>
   match P.funcs[F]? with
   |some fn=>
    match fn.body with
    |some c=>match Nat.ble vs.length fn.ntmps with|true=>gD P cs (jk P cs hs n) fn.ntmps F (hs F) c (Yx 0 vs) H (ABp P fn k)|false=>none
    |none=>none
   |none=>none
  | .yd id=>tA P cs (jk P cs hs n) hs id vs H k
def lz(bt:Ty):(rs:List Ty)->DL rs->bt.D->DL (rs++[bt])
 |[],_,b=>b
 |[_],y,b=>(y,b)
 |_::u::r,y,b=>(y.1,lz bt (u::r) y.2 b)
def jX(vs:List TV):List Nat:=vs.flatMap λv=>KD v.refs
def ABm(P:Program)(fn:Func)(rs:List Ty):Exit->BS->An->Option (DL rs):=λe env H=>
 match qU e with
 |true=>
  match fw P env H fn.results.toList with
  |some vs0=>match Hy (jX vs0) env H with|(ef,hf)=>match fw P ef hf fn.results.toList with|some vs=>uy rs vs|none=>none
  |none=>none
 |false=>none
def ABn(P:Program)(fn:Func)(bt:Ty)(rs:List Ty):Exit->BS->An->Option (DL (rs++[bt])):=λe env H=>
 match qU e with
 |true=>
  match fw P env H fn.results.toList with
  |some vs0=>
   match Hy (jX vs0++(match (H[0]? :Option Dl)with|some (.live _ cs)=>KD cs|_=>[])) env H with
   |(ef,hf)=>
    match fw P ef hf fn.results.toList,(hf[0]? :Option Dl)with
    |some vs,some (.live _ cs)=>match uy rs vs,bt.all cs with|some y,some b=>some (lz bt rs y b)|_,_=>none
    |_,_=>none
  |none=>none
 |false=>none
def lw:Nat->TV->List TV->List TV
 |0,v,l=>v::l
 |n+1,v,x::l=>x::lw n v l
 |_+1,v,[]=>[v]
noncomputable def tU(P:Program)(cs:List SV)(hs:FuncId->List Hint)(n:Nat)(F:FuncId)(ds rs:List Ty)(x:DL ds):Option (DL rs):=
 match P.funcs[F]? with
 |some fn=>
  match fn.body with
  |some c=>match Nat.ble (pV ds x).length fn.ntmps with|true=>gD P cs (jk P cs hs n) fn.ntmps F (hs F) c (Yx 0 (pV ds x)) [] (ABm P fn rs)|false=>none
  |none=>none
 |none=>none
noncomputable def wE(P:Program)(cs:List SV)(hs:FuncId->List Hint)(n:Nat)(F:FuncId)(pos:Nat)(bt:Ty)(ds rs:List Ty)(b:bt.D)(x:DL ds):Option (DL (rs++[bt])):=
 match P.funcs[F]? with
 |some fn=>
  match fn.body with
  |some c=>
   match Nat.ble (lw pos (.c (.raw (.ptr 0 0 0))) (pV ds x)).length fn.ntmps with
   |true=>gD P cs (jk P cs hs n) fn.ntmps F (hs F) c (Yx 0 (lw pos (.c (.raw (.ptr 0 0 0))) (pV ds x))) [.live false (bt.lvs b)] (ABn P fn bt rs)
   |false=>none
  |none=>none
 |none=>none
theorem Yy: ∀(l:List TV) (i:Nat),Br (Yx i l)=env0 i (l.map TV.enc)
 |[],_=>rfl
 |v::r,i=>by have:=Yy r (i+1);grind[Br,Yx,env0]
def dA{H:An}: ∀{l:List TV} {i:Nat},(∀v∈l,v.ok H)-> ∀p∈Yx i l,p.2.ok H
 |[],_,_,p,a=>by cases a
 |v::r,i,h,p,a=>by simp only[Yx]at a;rcases Am.1 a with rfl|a;exact h v (by simp);exact dA (λw b=>h w (by simp[b])) p a
theorem dz{P:Program}{env:BS}{H:An}(d: ∀p∈env,p.2.ok H)(c: ∀e∈H,e.ok H): ∀{l:List ResultVar} {b:List TV},fw P env H l=some b->Qs P (Br env) (A5 H) l=some (b.map TV.enc)/\ ∀v∈b,v.ok H
 |[],b,h=>by simp only[fw,Ai]at h;subst h;exact⟨rfl,λv g=>by cases g⟩
 | .tmp t::r,b,h=>by simp only[fw]at h;split at h;rename_i i f;obtain⟨q1,q2⟩:=dz d c f;grind[Qs,fx,Rz,jI];cases h
 | .cell a t::r,b,h=>by simp only[fw]at h;split at h;rename_i i f;obtain⟨q1,q2⟩:=dz d c f;obtain⟨u,j,k,m⟩:=kC c (jI d a) h;grind[Qs,fx,Rz];cases h
def mW(d: ∀p∈f,p.2.ok b)(c: ∀e∈b,e.ok b)(h:fw P f b J.results.toList=some t):bj P J (Br f) (A5 b)=some (jT (t.map TV.enc)):=by
 unfold bj;rw[(dz d c h).1];cases t with
 |nil=>rfl
 |cons v r=>
  cases r with
  |nil=>rfl
  |cons u r=>rfl
def oJ: ∀(a:List Tmp) (b:List TV) (env:BS),Pk (Br env) a (b.map TV.enc)=Br (rD env a b)
 |[],_,_=>rfl
 |_::_,[],_=>rfl
 |t::a,v::b,env=>by simp only[BZ,Pk,rD];rw[<-gY];exact oJ a b (env.put t v)
def rE{H:An}: ∀(b:List Tmp) (a:List TV) (env:BS),(∀p∈env,p.2.ok H)->(∀v∈a,v.ok H)-> ∀p∈rD env b a,p.2.ok H
 |[],_,_,h,_=>h
 |_::_,[],_,h,_=>h
 |t::b,v::a,env,h,hv=>rE b a (env.put t v) (bS (d:=some t) h (hv v (by simp))) λu c=>hv u (by simp[c])
def AAG{c:Bool}{F n env ps a H}{s e:LS}(h:(Dl.lp j F n env ps a H s).ok b):(Dl.lp c F n env ps a H e).ok A:=h
theorem uH{F n env ps a H}{s s':LS}(h:b[N]? =some (.lp false F n env ps a H s)):B0 b (b.set N (.lp false F n env ps a H s')):=B0.set h rfl (λ_ _ _ _ _ h=>by cases h) λ_ _ _ _ _ _ _ _ e=>by grind
def sR{F n env ps a H}{s:LS}(h:b[N]? =some (.lp j F n env ps a H s)):(A5 b)[N]? =some (.lp ⟨n,Br env,ps,a,H,s.st,s.pend⟩):=by rw[E7,h];rfl
theorem vP{P:Program}{cs:List SV}(K: ∀c∈cs,c.Ok P){hs:FuncId→List Hint}{g:Q9}(J:UQ P g){R:Type}{id:Nat}{S:List TV}{H:An}{k:TV→An→Option R}{r:R}(hv: ∀v∈S,v.ok H)(hH: ∀e∈H,e.ok H)
  (h:tA P cs g hs id S H k=some r): ∃v d,tS P (S.map TV.enc) (A5 H) v.enc (A5 d) (.yd id)/\k v d=some r/\v.ok d/\(∀e∈d,e.ok d)/\B0 H d:=by
 unfold tA at h;split at h;rename_i F n env ps a b he;split at h;rename_i hb;simp only[BO]at hb;have M: ∀p∈env,p.2.ok H:=λp hp x hx=>by
  have:=(hH _ (BJ he)) p hp;cases x with
  |own i v t m=>grind
  |_=>trivial
 obtain⟨e,env1,T,a1,k1,w,s1⟩:=jZ (N:=n) K J F (hs F) a _ H _ r ⟨rE ps.toList S env M hv,hH⟩ h;split at k1;split at k1;rename_i F1 n1 Y z U V s;have B:B0 T _:=uH (s':=.busy) s;obtain⟨x,env2,D,a2,j,O,s2⟩:=jZ (N:=n) K J F (hs F) b _ _ _ r ⟨B.env w.env,SN B w.heap (AAG (w.heap _ (BJ s)))⟩ k1;unfold xh at j;split at j;rename_i F2 n2 Z A W X s0 u
 have l: ∀(v:Bool) (C:LS),k (.c (.bl v)) (D.set id (.lp false F2 n2 Z A W X C))=some r→(∀L:eU,(A5 D)[id]? =some (.lp L)→L=⟨n2,Br Z,A,W,X,s0.st,s0.pend⟩→xi id (DW (.bool v) (A5 (D.set id (.lp false F2 n2 Z A W X C)))) x (Br env2) (A5 D))→
   ∃v d,tS P (S.map TV.enc) (A5 H) v.enc (A5 d) (.yd id)/\k v d=some r/\v.ok d/\(∀e∈d,e.ok d)/\B0 H d:=by
  intro v C hk hq;have Q:B0 D _:=uH (s':=C) u;refine⟨.c (.bl v),_,?_,hk,JR trivial,SN Q O.heap (AAG (O.heap _ (BJ u))),((s1.step.trans B).trans s2.step).trans Q⟩;intro N o c f env0 ho I hf q;apply Io.yield ho I hf (sR he);grind[List.length,List.length_map,Array.length_toList,Nat.eq_of_beq_eq_true];simp_all;show Lq P n a (Pk (Br env) ps.toList (c.args.toList.map (BA env0))) (A5 H) _;rw[q,oJ];apply a1.awp.mono;rintro _ _ _ ⟨rfl,rfl,rfl⟩;refine⟨rfl,_,sR s,rfl,?_⟩;have e3:(A5 T).set id (.lp ⟨n1,Br Y,z,U,V,.busy,LS.pend .ready⟩)=A5 (T.set id (.lp false F1 n1 Y z U V .busy)):=by rw[Mu];rfl
  show Lq P n b (Br env1) ((A5 T).set id (.lp ⟨n1,Br Y,z,U,V,.busy,LS.pend .ready⟩)) _;rw[e3];apply a2.awp.mono;rintro _ _ _ ⟨rfl,rfl,rfl⟩;exact hq _ (sR u) rfl
 split at j;refine l true .ready j λL G E=>⟨L,G,rfl,?_⟩
 subst E;rw[Mu];rfl;refine l false .ret j λL G E=>⟨L,G,rfl,?_⟩
 subst E;rw[Mu];rfl;rename_i y;refine l false (.exit y) j λL G E=>⟨L,G,rfl,?_⟩
 subst E;rw[Mu];rfl;cases j;cases j;cases k1;cases k1;cases h;cases h
theorem cu{P:Program}{j:List SV}(b: ∀c∈j,c.Ok P){m:FuncId->List Hint}: ∀n,UQ P (jk P j m n)
 |0=>by grind[jk]
 |n+1=>by
  intro z A H k r p l h;cases z with
  |yd id=>exact vP b (cu b n) p l h
  |fn F=>
  simp only[jk]at h;split at h;rename_i fn y;split at h;rename_i c w;split at h;rename_i hn;obtain⟨e,d,f,a1,k1,a,q⟩:=jZ (N:=fn.ntmps) b (cu b n) F (m F) c (Yx 0 A) H _ r ⟨dA p,l⟩ h;unfold ABp at k1;split at k1;rename_i x;split at k1;rename_i s o;refine⟨one s,f,JT y w (by simp_all) ?_,k1,pF (dz a.env a.heap o).2,a.heap,q.step⟩;rw[<-Yy];apply a1.awp.mono;rintro _ _ _ ⟨rfl,rfl,rfl⟩;have g: ∃v t i,bj P fn (Br d) (A5 f)=some v/\Nc (A5 H).length v (A5 f) t i/\DW (one s).enc (A5 f) t i:=⟨_,_,_,mW a.env a.heap o,Nc.refl _ _ (by rw[CR,CR];exact q.step.len),by rw[kZ],rfl⟩
  rename_i u;cases u<;>first|exact g|cases x
  cases k1;cases k1;cases h;cases h;cases h
def DQ.tup{b a:List AV}(h:DQ b a):UR (.tup b) (.tup a):=by
 intro x c r;cases r with
 |tup g hr=>refine .tup (by rw[g,h.1]) λj i d f e=>?_;obtain⟨v,q1,q2⟩:=h.2 j i f;exact q2 _ _ (hr j v d q1 e)
def T0{b:List AV}(h:DQ g b):UR (jT g) (jT b):=by
 match g,b,h with
 |[],[],h=>exact UR.refl _
 |[v],[w],h=>obtain⟨u,q1,q2⟩:=h.2 0 w rfl;simp at q1;subst q1;exact q2
 |v::u::r,w::x::s,h=>exact DQ.tup h
def OG: ∀(a:List Ty) (x:DL a),∀v∈fT a x,Pure v
 |[],_,v,h=>by cases h
 |[t],x,v,h=>by simp only[fT,A3]at h;subst h;exact t.enc_pure x
 |t::u::r,x,v,h=>by simp only[fT]at h;rcases Am.1 h with rfl|h;exact t.enc_pure x.1;exact OG (u::r) x.2 v h
def U0(h: ∀v∈g,Pure v):Pure (jT g):=by
 match g,h with
 |[],_=>rfl
 |[v],h=>exact h v (by simp)
 |v::u::r,h=>exact(Db _ _).2 h
theorem mY{a H2:An}(j:H2.length<=a.length)(hr:HR a H2 [])(v:eL H2.length H2=true){d:AV}(l:UR i d)(k:Pure d):Nc H2.length i (A5 a) d (A5 H2):=by
 refine⟨by rw[CR];exact Ak _,λX h w c s r=>?_⟩;have q:=(HR.rel j hr (cx X h (A5 a) w)).onto;have n:=s.rel q;have m:=(l _ c r).later q.later;have e:(A5 H2++(A5 a).drop H2.length).take H2.length=A5 H2:=by grind[CR]
 have b:H2.length<=(A5 H2++(A5 a).drop H2.length).length:=by simp[A5]
 have g:=n.trunc b (by rw[e];exact dp v);have f:=m.trunc b (dY k _);rw[e]at g f;exact⟨h,g,f,λ_ _=>⟨rfl,rfl,rfl⟩,λB o=>q.own B (bP (n0:=H2.length) (by grind))⟩
def jm{n:Nat}: ∀{a b:List Ba},XU n a=true->XU n b=true->XU n (a++b)=true
 |[],_,_,hb=>hb
 |x::r,b,ha,hb=>by obtain⟨c,e⟩:=nO ha;have d:=jm e hb;cases x<;>simp only[Dn,XU,BO,OS]at c⊢ <;>first|exact d|exact⟨c,d⟩
mutual
theorem Ty.lvs_clo{n:Nat}: ∀(t:Ty) (x:t.D),XU n (t.lvs x)=true
 | .bool,_=>rfl
 | .int _,_=>rfl
 | .str,_=>rfl
 | .list _,_=>rfl
 | .arr _ _,_=>rfl
 | .prod ts,x=>ts.lvs_clo x
theorem QH.lvs_clo{n:Nat}: ∀(a:QH) (x:a.D),XU n (a.lvs x)=true
 | .one t,x=>t.lvs_clo x
 | .cons t a,x=>jm (t.lvs_clo x.1) (a.lvs_clo x.2)
end
def jU(h: ∀v∈g,Pure v)(a:Nat->Nat):AV.renL a g=g:=by
 rw[NU];conv=>rhs;rw[<-Zl g]
 exact Lt λv b=>(h v b).ren a
def lu{ρ:Nat->Nat}: ∀{n:Nat} {v:AV} {l:List AV},(∀v∈l,Pure v)->AV.renL ρ (Sz n v l)=Sz n (v.ren ρ) l
 |0,v,l,h=>by simp only[Sz,AV.renL,jU h]
 |n+1,v,[],h=>rfl
 |n+1,v,x::l,h=>by have b:=lu (ρ:=ρ) (n:=n) (v:=v) (l:=l) λu a=>h u (CD _ a);simp only[Sz,AV.renL,(h x JK).ren,b]
def ng: ∀{n:Nat} {v u:AV} {l:List AV},u∈Sz n v l->u=v\/u∈l
 |0,v,u,l,h=>by simpa[Sz]using h
 |n+1,v,u,[],h=>by simpa[Sz]using h
 |n+1,v,u,x::l,h=>by simp only[Sz]at h;rcases Am.1 h with rfl|h;exact .inr (by simp);rcases ng h with h|h;exact .inl h;exact .inr (by simp[h])
def qS: ∀{n:Nat} {v:TV} {l:List TV},(lw n v l).map TV.enc=Sz n v.enc (l.map TV.enc)
 |0,_,_=>rfl
 |n+1,_,[]=>rfl
 |n+1,v,x::l=>by simp only[lw,BZ,Sz,qS]
def qT: ∀{n:Nat} {v u:TV} {l:List TV},u∈lw n v l->u=v\/u∈l
 |0,v,u,l,h=>by simpa[lw]using h
 |n+1,v,u,[],h=>by simpa[lw]using h
 |n+1,v,u,x::l,h=>by simp only[lw]at h;rcases Am.1 h with rfl|h;exact .inr (by simp);rcases qT h with h|h;exact .inl h;exact .inr (by simp[h])
theorem jl{x:p.D}: ∀v∈(p.enc x).cells,Pure v:=by
 intro v a;have h:=p.enc_pure x;cases b:p.enc x with
 |agg c=>rw[b]at a h;exact((Db _ _).1 h) v a
 |_=>grind[AV.cells]
def bW(a:Ty): ∀(c:List Ty) (y:DL c) (b:a.D),LC a c (lz a c y b)=(y,b)
 |[],_,_=>rfl
 |[_],_,_=>rfl
 |_::u::r,y,b=>by simp only[lz,LC,bW a (u::r) y.2 b]
variable {P:Program} {cs:List SV} {hs:FuncId->List Hint} {n:Nat} {F:FuncId} {ds rs:List Ty}
def AAq{c:As}(k:qU x=true)(ok:O0 f b)(hr:fw P f b J.results.toList=some t)(h:Nc N (jT (t.map TV.enc)) (A5 b) i c):
  ACD P J N (DW i c) x (Br f) (A5 b):=by
 have d: ∃v e a,bj P J (Br f) (A5 b)=some v/\Nc N v (A5 b) e a/\DW i c e a:=⟨_,_,_,mW ok.env ok.heap hr,h,rfl,rfl⟩
 cases x<;>first|exact d|cases k
def tc{g:DL ds->Option (DL rs)}(d: ∀c∈cs,c.Ok P)(t: ∀x,g x=tU P cs hs n F ds rs x):(SV.c0 F ds rs g).Ok P:=by
 intro x y a H;rw[t]at a;have key:Ep P F (fT ds x) [] (DW (jT (fT rs y)) []):=by unfold tU at a;split at a;rename_i q s;split at a;rename_i c r;split at a;rename_i hn;obtain⟨e,o,z,a1,k1,l,B⟩:=jZ (N:=q.ntmps) d (cu d n) F (hs F) c (Yx 0 (pV ds x)) [] _ y ⟨dA (gB ds x),λe i=>by cases i⟩ a;unfold ABm at k1;split at k1;rename_i i;split at k1;rename_i m u;obtain⟨f,w,p⟩:=Pf (jX m) l;simp only at k1 f w p;split at k1;rename_i C k;apply JT s r (by rw[<-Wx,Dc];exact Nm hn);rw[<-Wx,<-Yy];refine Lq.after (a1.awp.mono ?_);rintro _ _ _ ⟨rfl,rfl,rfl⟩;exact⟨_,_,(p _).of_le (B8 _),AAq i f k (mY (H2:=[]) (B8 _) (λj A _ h=>by cases h) rfl (T0 (Vs k1)) (U0 (OG rs y)))⟩;cases k1;cases k1;cases k1;cases a;cases a;cases a
 exact Ep.frame (H:=H) [] key O5 rfl rfl (λj b e h=>by cases h) (λe h=>by cases h) (λe h=>by cases h) (U0 (OG rs y)) (jU (OG ds x) _) ((Db _ _).2 λv k=>(OG ds x v k).all _)
theorem yi{g:p.D->DL ds->Option (DL (rs++[p]))}(m: ∀c∈cs,c.Ok P)(T: ∀b x,g b x=wE P cs hs n F N p ds rs b x):(SV.c1 F N p ds rs g).Ok P:=by
 intro b x y f H id V;rw[T]at f;have key: ∃r i,y=lz p rs r i/\Ep P F (Sz N (.ptr 0 0 0) (fT ds x)) [.live 0 (p.enc b).cells] (DW (jT (fT rs r)) [.live 0 (p.enc i).cells]):=by
  unfold wE at f;split at f;rename_i M S;split at f;rename_i c R;split at f;rename_i hn;have t:O0 (Yx 0 (lw N (.c (.raw (.ptr 0 0 0))) (pV ds x))) [.live false (p.lvs b)]:=by refine⟨dA λv d=>?_,λe s=>?_⟩;rcases qT d with rfl|d;exact JR trivial;grind[gB];rw[A3.1 s];exact p.lvs_ok b
  obtain⟨e,l,G,a1,k1,u,E⟩:=jZ (N:=M.ntmps) m (cu m n) F (hs F) c _ _ _ y t f;unfold ABn at k1;split at k1;rename_i s;split at k1;rename_i z W;generalize C:(jX z++_)=ids at k1;obtain⟨k,w,A⟩:=Pf ids u;generalize Hy ids l G=fz at k1 k w A;obtain⟨ef,U⟩:=fz;simp only at k1 k w A;split at k1;rename_i vs Y I d O;split at k1;rename_i r i hr q;injection k1 with k1;refine⟨r,i,k1.symm,?_⟩;have J:A5 [.live false (p.lvs b)]=[.live 0 (p.enc b).cells]:=by simp only[A5,BZ,HV,Dl.enc,p.lvs_enc]
  have K:A5 [.live false (p.lvs i)]=[.live 0 (p.enc i).cells]:=by simp only[A5,BZ,HV,Dl.enc,p.lvs_enc]
  have L:Sz N (.ptr 0 0 0) (fT ds x)=(lw N (.c (.raw (.ptr 0 0 0))) (pV ds x)).map TV.enc:=by rw[qS,Wx];rfl
  rw[<-J,<-K,L];apply JT S R (by rw[Dc];exact Nm hn);rw[<-Yy];refine Lq.after (a1.awp.mono ?_);rintro _ _ _ ⟨rfl,rfl,rfl⟩;have o:1<=U.length:=Do E.step.len w.step.len;refine⟨_,_,(A _).of_le (by rw[CR,CR];exact E.step.len),AAq s k d ?_⟩;rw[CR];refine mY (H2:=[.live false (p.lvs i)]) o (λj Z _ h=>?_) (by simp only[eL,p.lvs_clo,PY]) (T0 (Vs hr)) (U0 (OG rs r));match j,h with
  |0,h=>simp only[YK,Ai]at h;subst h;refine⟨_,O,.inr (.inl ⟨_,_,_,_,rfl,rfl,?_⟩)⟩;rw[p.lvs_enc];exact FY q
  |j+1,h=>grind
  cases k1;cases k1;cases k1;cases k1;cases f;cases f;cases f
 obtain⟨r,i,rfl,key⟩:=key;rw[bW];have Q:AV.renL (λj=>[id].getD j 0) (Sz N (.ptr 0 0 0) (fT ds x))=Sz N (.ptr id 0 0) (fT ds x):=by rw[lu (OG ds x)];rfl
 exact Ep.frame (H:=H) [id] key (Fe.2 ⟨by simp,O5⟩) rfl rfl (λj X e a B=>by
   match j,a,B with
   |0,a,B=>grind[List.getElem?_cons_zero,Option.some.injEq]
   |j+1,a,_=>simp at a) (λe h=>by
   rw[A3.1 h];exact(Db _ _).2 λv d=>jl v d) (λe h=>by
   rw[A3.1 h];exact(Db _ _).2 λv d=>jl v d) (U0 (OG rs r)) Q ((Db _ _).2 λv d=>by
   rcases ng d with rfl|d;rfl;exact(OG ds x v d).all _)
end Go.Ab
namespace Go.Ab
def X2:List (Nat×List Hint)->FuncId->List Hint
 |[],_=>[]
 |(k,h)::r,F=>match Nat.beq k F with|true=>h|false=>X2 r F
theorem CT{P:Program}: ∀c∈([]:List SV),c.Ok P:=by grind
variable {N n y:Nat}{R L:Type}{c:List SV}{F:FuncId}{P:Program}{g:List AV}{i:AV}{j:Bool}{p:Ty}{q:Int}{v:World}
theorem A9{P:Program}{a:SV}(h:a.Ok P)(b: ∀a∈c,a.Ok P): ∀d∈a::c,d.Ok P:=by grind
def wi(a:Int):Int:=IntKind.wrap .i64 a
abbrev len{α:Type}(l:List α):Int:=(l.length:Int)
def dD{A B:Type}(f:(A->Option B)->A->Option B):Nat->A->Option B
 |0,_=>none
 |n+1,x=>f (dD f n) x
noncomputable def om{A B:Type}(f:(A->Option B)->A->Option B)(x:A):Option B:=open Classical in if h: ∃r n,dD f n x=some r then some h.choose else none
theorem Yz{f:(R->Option L)->R->Option L}{x:R}{r:L}(h:om f x=some r): ∃n,dD f n x=some r:=by unfold om at h;split at h<;>grind
theorem aX{f:(R->Option L)->R->Option L}{x:R}{r:L}(h:dD f n x=some r): ∃s,om f x=some s:=by unfold om;rw[dif_pos ⟨r,n,h⟩];grind
def yk{P:Program}{hs:FuncId→List Hint}{n:Nat}{F:FuncId}{ds rs:List Ty}{f:(DL ds→Option (DL rs))→DL ds→Option (DL rs)}(b: ∀a∈c,a.Ok P)
  (e: ∀g x,f g x=tU P (.c0 F ds rs g::c) hs n F ds rs x):(SV.c0 F ds rs (om f)).Ok P:=by
 have key: ∀m,(SV.c0 F ds rs (dD f m)).Ok P:=by
  intro m;induction m with
  |zero=>intro x y d;cases d
  |succ m i=>exact tc (cs:=.c0 F ds rs (dD f m)::c) (A9 i b) λx=>e (dD f m) x
 intro x y d;obtain⟨m,h⟩:=Yz d;exact key m x y h
def ABo(P:Program)(fn:Func)(te:Ty)(rs:List Ty):Exit->BS->An->Option (DL (rs++[.list te])):=λe env H=>
 match qU e with
 |true=>
  match fw P env H fn.results.toList with
  |some vs0=>
   match Hy ((jX vs0).filter λi=>!Nat.beq i 0) env H with
   |(ef,hf)=>
    match fw P ef hf fn.results.toList,(hf[0]? :Option Dl)with
    |some vs,some (.buf _ t l _ _)=>if h:(Ty.list t).beq (Ty.list te)=true then(match uy rs vs with|some y=>some (lz (.list te) rs y (Ty.cast h l))|none=>none)else none
    |_,_=>none
  |none=>none
 |false=>none
def fnC:AV->Bool
 | .fn (.func _) [] []=>true
 |_=>false
def po(te:Ty)(ds:List Ty)(post:List AV)(l:List te.D)(x:DL ds):List TV:=.c (.own 0 0 te l.length)::(pV ds x++post.map λv=>.c (.raw v))
noncomputable def wF(P:Program)(cs:List SV)(hs:FuncId->List Hint)(n:Nat)(F:FuncId)(te:Ty)(ds rs:List Ty)(post:List AV)(l:List te.D)(x:DL ds):Option (DL (rs++[.list te])):=
 match P.funcs[F]? with
 |some fn=>
  match fn.body with
  |some c=>
   match Nat.ble (po te ds post l x).length fn.ntmps&&post.all fnC with
   |true=>gD P cs (jk P cs hs n) fn.ntmps F (hs F) c (Yx 0 (po te ds post l x)) [.buf false te l l.length 0] (ABo P fn te rs)
   |false=>none
  |none=>none
 |none=>none
theorem AAs(h:fnC i=true): ∃F,i= .fn (.func F) [] []:=by unfold fnC at h;grind
def wc(h:fnC i=true):Pure i:=by obtain⟨F,rfl⟩:=AAs h;rfl
variable {P:Program} {cs:List SV} {hs:FuncId->List Hint} {n:Nat} {F:FuncId} {ds rs:List Ty} {te:Ty} {post:List AV}
def ua(l:List te.D)(x:DL ds):(po te ds post l x).map TV.enc= .sl 0 l.length te.sz 0 l.length::(fT ds x++post):=by
 have e:(post.map λv=>TV.c (.raw v)).map TV.enc=post:=by
  rw[Nh];conv=>rhs;rw[<-Zl post]
  exact Lt λv _=>rfl
 simp only[po,BZ,Ng,Wx,e];rfl
theorem MZ{g:List te.D->DL ds->Option (DL (rs++[.list te]))}(t: ∀c∈cs,c.Ok P)(hg: ∀l x,g l x=wF P cs hs n F te ds rs post l x):(SV.c2 F te ds rs post g).Ok P:=by
 intro l x y k d H id C;rw[hg]at k;have key: ∃r m,y=lz (.list te) rs r m/\(∀v∈post,Pure v)/\Ep P F (.sl 0 l.length te.sz 0 l.length::(fT ds x++post)) [.live l.length (te.E.cl l)] (DW (jT (fT rs r)) [.live m.length (te.E.cl m)]):=by
  unfold wF at k;split at k;rename_i fn hf;split at k;rename_i c hb;split at k;rename_i hn;simp only[BO]at hn;have b: ∀v∈post,Pure v:=λv a=>wc (Fx.1 hn.2 v a);have w:([Dl.buf false te l l.length 0]:An)[0]? =some (.buf false te l l.length 0):=rfl;have K:O0 (Yx 0 (po te ds post l x)) [.buf false te l l.length 0]:=by refine⟨dA λv a=>?_,λe B=>?_⟩;rcases Am.1 a with rfl|a;exact JR (U1 w);rcases Ar.1 a with a|a;grind[gB];obtain⟨u,_,rfl⟩:=Bl.1 a;exact JR trivial;rw[A3.1 B];exact rfl
  obtain⟨e,s,W,a1,k1,L,U⟩:=jZ (N:=fn.ntmps) t (cu t n) F (hs F) c _ _ _ y K k;unfold ABo at k1;split at k1;rename_i B;split at k1;rename_i O ad;generalize T:((jX O).filter _)=ids at k1;obtain⟨o,M,Q⟩:=Pf ids L;generalize Hy ids s W=fz at k1 o M Q;obtain⟨ef,hh⟩:=fz;simp only at k1 o M Q;split at k1;rename_i vs X q l1 J V a R;split at k1;rename_i z;split at k1;rename_i r hr;injection k1 with k1;have i:=Ty.beq_eq _ _ z;injection i with i;subst i;have p:(Ty.cast z l1:List q.D)=l1:=rfl;rw[p]at k1;have I:J=l1.length:=o.heap _ (BJ R);refine⟨r,l1,k1.symm,b,?_⟩;have Y:A5 [.buf false q l l.length 0]=[.live l.length (q.E.cl l)]:=rfl;have Z:A5 [.buf false q l1 J V]=[.live l1.length (q.E.cl l1)]:=by rw[<-I];rfl
  rw[<-Y,<-Z,<-ua];apply JT hf hb (by rw[Dc];exact Nm hn.1);rw[<-Yy];refine Lq.after (a1.awp.mono ?_);rintro _ _ _ ⟨rfl,rfl,rfl⟩;have G:1<=hh.length:=Do U.step.len M.step.len;refine⟨_,_,(Q _).of_le (by rw[CR,CR];exact U.step.len),AAq B o a ?_⟩;rw[CR];refine mY (H2:=[.buf false q l1 J V]) G (λj e' _ h=>?_) rfl (T0 (Vs hr)) (U0 (OG rs r));match j,h with
  |0,h=>simp only[YK,Ai]at h;subst h;exact⟨_,R,.inr (.inr (.inl ⟨_,_,_,_,_,_,_,rfl,rfl⟩))⟩
  |j+1,h=>simp at h
  cases k1;cases k1;cases k1;cases k1;cases k1;cases k;cases k;cases k
 obtain⟨r,m,rfl,b,key⟩:=key;rw[bW]at d⊢;simp only at d⊢;rw[<-d];rw[<-d]at C key;have f: ∀v∈fT ds x++post,Pure v:=λv a=>(Ar.1 a).elim (OG ds x v) (b v);have ha:AV.renL (λj=>[id].getD j 0) (.sl 0 m.length te.sz 0 m.length::(fT ds x++post))= .sl id m.length te.sz 0 m.length::(fT ds x++post):=by simp only[AV.renL,jU f];rfl
 exact Ep.frame (H:=H) [id] key (Fe.2 ⟨by simp,O5⟩) rfl rfl (λj X e A S=>by
   match j,A,S with
   |0,A,S=>grind[List.getElem?_cons_zero,Option.some.injEq]
   |j+1,A,_=>simp at A) (λe h=>by
   rw[A3.1 h];exact(Db _ _).2 (oV te l)) (λe h=>by
   rw[A3.1 h];exact(Db _ _).2 (oV te m)) (U0 (OG rs r)) ha ((Db _ _).2 λv a=>by
   rcases Am.1 a with rfl|a;rfl;exact(f v a).all _)
def qA{f:(List te.D×DL ds→Option (DL (rs++[.list te])))→List te.D×DL ds→Option (DL (rs++[.list te]))}(a: ∀c∈cs,c.Ok P)
  (d: ∀g l x,f g (l,x)=wF P (.c2 F te ds rs post (λl x=>g (l,x))::cs) hs n F te ds rs post l x):(SV.c2 F te ds rs post λl x=>om f (l,x)).Ok P:=by
 have key: ∀m,(SV.c2 F te ds rs post λl x=>dD f m (l,x)).Ok P:=by
  intro m;induction m with
  |zero=>intro l x y b;cases b
  |succ m h=>exact MZ (cs:=.c2 F te ds rs post (λl x=>dD f m (l,x))::cs) (A9 h a) λl x=>d (dD f m) l x
 intro l x y b;obtain⟨m,e⟩:=Yz b;exact key m l x y e
end Go.Ab
namespace Go.Ab
def clW(fn:Func):Nat->String:=λi=>
 match fn.body with
 |some (.seq (.region _ a _) (.seq (.seq (.region _ b _) (.cond _ (.seq (.region _ c _) _) _)) (.seq (.region _ d _) _)))=>(((a++b++c++d)[i]?).map (·.pos)).getD default
 |_=>default
def uh(t b:TypeId)(w:Nat->String):Code:=
 .seq (.region 0 #[⟨some 2,.assign (.const (.slice none 0 0)),t,w 0, #[],none⟩] false)
  (.seq (.seq (.region 1 #[⟨some 3,.move (.tmp 0),t,w 1, #[],none⟩,⟨some 4,.binOp .eql t (.tmp 3) (.const (.slice none 0 0)) t,b,w 2, #[⟨0,.data⟩],none⟩] false)
    (.cond (.tmp 4) (.seq (.region 2 #[⟨some 2,.assign (.const (.slice none 0 0)),t,w 3, #[],none⟩] false) .ret) .skip))
   (.seq (.region 3 #[⟨some 5,.buildSlice t 0 #[],t,w 4, #[],none⟩,⟨some 6,.move (.tmp 0),t,w 5, #[],none⟩,
     ⟨some 7,.call {callee:=.builtin .append,args:= #[.tmp 5,.tmp 6],argTypes:= #[t,t]},t,w 6, #[⟨0,.data⟩,⟨1,.data⟩],none⟩,
     ⟨some 2,.assign (.tmp 7),t,w 7, #[⟨2,.data⟩,⟨2,.chain⟩,⟨0,.phase⟩,⟨1,.phase⟩,⟨2,.phase⟩],none⟩] false) .ret))
def Nc.none{n0:Nat}{H:As}{id g sz off:Nat}(hn:n0<=H.length)(b:id<H.length)(k:0<sz):Nc n0 (.sl id g sz off 0) H (.vs sz []) (H.set id .dead):=by
 refine⟨by simpa using hn,λX h w c s r=>?_⟩;obtain⟨p,t⟩:=s.kill b;refine⟨h,p,?_,λ_ _=>⟨rfl,rfl,rfl⟩,λB o=>?_⟩;cases r with
 |sl l m n q=>obtain⟨a,cap,rfl⟩:=n;exact Bf.vs (rows:=[]) (λ_ _=>undef) (B8 _) k (λj e h=>by simp at h) (λh=>(h rfl).elim) (λj e i v h=>by simp at h)
 obtain⟨i,e,l,d,m⟩:=o;rcases Im b l with⟨_,f⟩|⟨rfl,rfl⟩;exact⟨i,e,f,d,m⟩;exact(d rfl).elim
variable {N n y:Nat}{R L:Type}{c:List SV}{F:FuncId}{P:Program}{g:List AV}{j:Bool}{p:Ty}{q:Int}{v:World}
theorem wI{P:Program}{F:FuncId}{t b:TypeId}{a:Ty}(p:(P.funcs[F]?).map (λy=>(y.body,y.ntmps,y.results))=some (some (uh t b (((P.funcs[F]?).map clW).getD (λ_=>default))),8, #[.tmp 2]))(J:yu P t=some a)(k:bR 0 a #[] []=true):(SV.cl F a).Ok P:=by
 generalize ((P.funcs[F]?).map clW).getD (λ_=>default)=w at p;obtain⟨y,U,C⟩:=Zs.1 p;injection C with R C;injection C with hn hr;intro l H V;obtain⟨e,B,x⟩:=cz J;have K:=(PC B).1;have A: ∀env,Qo P env t 0 #[]=some (a.sz,[]):=by intro env;unfold Qo;simp only[B];refine if_pos ⟨a.sz_pos,x,rfl,rfl,B8 _,?_⟩;unfold bR at k;simp only[BO]at k;exact Nm k.2
 have i: ∀Q:AV→As→Prop,(l=[]→Q (.vs a.sz []) (A5 (H++[.dead])))→(∀r,l≠ []→app [] l=some r→Q (.sl H.length r.length a.sz 0 r.length) (A5 (H++[.buf false a r r.length 0])))→
   (l=[]\/ ∃r,app [] l=some r)->Ep P F [.vs a.sz (l.map a.enc)] (A5 H) Q:=by
  intro Q M N f;refine JT U R (by rw[hn];simp) ?_;rw[hn];refine Lq.seq (FW rfl (Tw.cons rfl (DY (v:=.nils) rfl (Tw.nil (Lq.seq (Lq.seq (FW rfl (Tw.cons rfl (DY (v:=.vs a.sz (l.map a.enc)) rfl (Tw.cons rfl (lX (sz:=a.sz) (rows:=l.map a.enc) rfl K rfl λL T=>Tw.nil ?_)))))))))));have o:L=true->l=[]:=λh=>by by_cases j:l=[]<;>simp_all
  have d:(A5 H++[ET.live 0 []]).set (A5 H).length ET.dead=A5 (H++[.dead]):=by simp_all[Qx,Ak,IT,A5,Dl.enc]
  refine Lq.cond (b:=L) rfl (λz=>?_) (λS=>?_);refine Lq.seq (FW rfl (Tw.cons rfl (DY (v:=.nils) rfl (Tw.nil (Lq.weak (F3.virt (t:=2) (sz:=a.sz) rfl) (Lq.ret (⟨.sl (A5 H).length 0 a.sz 0 0,.vs a.sz [],(A5 H++[ET.live 0 []]).set (A5 H).length ET.dead,by simp[bj,hr,Qs,fx,Env.putO,Env.put,Env.get],Nc.none (by simp) (by simp) a.sz_pos,?_⟩)))))));rw[d];exact M (o z);refine Lq.skip (Lq.seq (FW rfl (Tw.cons rfl (RS (sz:=a.sz) (vs:=[]) rfl (A _) (Tw.cons rfl (DY (v:=.vs a.sz (l.map a.enc)) rfl (Tw.cons rfl ?_)))))));have I:Mm (A5 H++[ET.live 0 []]) a.sz (.vs a.sz (l.map a.enc))=some (l.length,a.E.cl l):=by simp only[Mm,if_true,Dc];rfl
  have s:0+l.length<=16777216:=by rcases f with rfl|⟨r,hr⟩;simp;obtain⟨N,_⟩:=gI hr;simpa using N
  refine QF (sx:=.tmp 5) (xx:=.tmp 6) (H:=A5 H++[ET.live 0 []]) (id:=(A5 H).length) (g:=0) (g':=l.length) (n:=0) (cs:=[]) (m:=l.length) (news:=a.E.cl l) rfl B a.sz_pos x rfl (by simp) (by simp) I s (by rcases Qz l.length with q|q;exact .inr ⟨q,q⟩;exact .inl q) ?_;refine Tw.cons rfl (DY (v:=.sl (A5 H).length l.length a.sz 0 (0+l.length)) rfl (Tw.nil (Lq.ret ?_)));have O:(A5 H++[ET.live 0 []]).set (A5 H).length (.live l.length ([]++a.E.cl l))=A5 (H++[.buf false a l l.length 0]):=by simp_all[Qx,Ak,IT,A5,Dl.enc]
  by_cases j:l=[];subst j;refine⟨.sl (A5 H).length 0 a.sz 0 0,.vs a.sz [],(A5 H++[ET.live 0 []]).set (A5 H).length ET.dead,by simp[bj,hr,Qs,fx,Env.putO,Env.put,Env.get],?_,?_⟩;have:=Nc.none (n0:=(A5 H).length) (H:=A5 H++[ET.live 0 []]) (id:=(A5 H).length) (g:=0) (off:=0) (by simp) (by simp) a.sz_pos;have e:(A5 H++[ET.live 0 []]).set (A5 H).length (.live ([]:List a.D).length ([]++a.E.cl []))=A5 H++[ET.live 0 []]:=by rw[Qx _ _ (Ak _),IT];rfl
  rw[e];exact this;rw[d];exact M rfl;rcases f with h|⟨r,c⟩;exact(j h).elim;obtain⟨_,G⟩:=gI c;have u:l=r:=by simpa using G.symm
  subst u;refine⟨.sl (A5 H).length l.length a.sz 0 l.length,_,_,by simp[bj,hr,Qs,fx,Env.putO,Env.put,Env.get],Nc.refl _ _ (by simp),?_⟩;grind[CR]
 refine⟨λj=>?_,λr j hr=>?_⟩;subst j;exact i _ (λ_=>⟨rfl,rfl⟩) (λr h=>(h rfl).elim) (.inl rfl);exact i _ (λh=>(j h).elim) (λW _ c=>by rw[hr]at c;injection c with c;subst c;exact⟨rfl,rfl⟩) (.inr ⟨r,hr⟩)
abbrev i64:Ty:=.int .i64
abbrev hn(k i:Nat)(s:List S2)(e:List (Exit×List S2)):Hint:=⟨k,i,[],[],[],[],s,e⟩
def k0{a d:List Ty}{g:DL a→Option (DL d)}(l:List (Nat×List Hint))(b: ∀e∈c,e.Ok P)
  (f:g=λx=>tU P c (X2 l) 13 F a d x:=by kernel_rfl):(SV.c0 F a d g).Ok P:=tc b λx=>congrFun f x
def k1{P:Program}{a:Ty}{d f:List Ty}{g:a.D→DL d→Option (DL (f++[a]))}(l:List (Nat×List Hint))(e: ∀h∈c,h.Ok P)
  (i:g=λb x=>wE P c (X2 l) 13 F N a d f b x:=by kernel_rfl):(SV.c1 F N a d f g).Ok P:=yi e λb x=>congrFun (congrFun i b) x
theorem w64(h: -9223372036854775808<=q/\q<=9223372036854775807):IntKind.wrap .i64 q=q:=by grind[IntKind.wrap_i64]
def vB{body:L->Option (Step L R)}(I:L->Prop)(Q:R->Prop)(b:L->Nat)(i: ∀s,I s->(∃r,body s=some (.done r)/\Q r)\/ ∃a,body s=some (.next a)/\I a/\b a<b s){s:L}(h:I s): ∃r,Ad body s=some r/\Q r:=by
 have key: ∀(n:Nat) (s:L),b s<n->I s-> ∃r,Ad body s=some r/\Q r:=by
  intro n;induction n with
  |zero=>intro s j;omega
  |succ n k=>intro s j g;rcases i s g with⟨r,c,d⟩|⟨a,c,d,l⟩;exact⟨r,by rw[Cd,c],d⟩;obtain⟨r,e,f⟩:=k a (by omega) d;exact⟨r,by rw[Cd,c];exact e,f⟩
 exact key (b s+1) s (by omega) h
theorem zF{l:List R}{x:R}(h:l[N]? =some x):ix l (N:Int)=some x:=by unfold ix;grind[Int.toNat_natCast]
def ABu{l:List R}(a:0<=q)(c:q<l.length): ∃x,ix l q=some x/\l[q.toNat]? =some x:=by
 obtain⟨n,rfl⟩:=EZ a;have hn:n<l.length:=by omega
 exact⟨l[n],zF (Ay hn),by simp[hn]⟩
def AAg{l a:List R}(h:l.length+a.length<=16777216):app l a=some (l++a):=if_pos h
theorem yS(a:Qu n R)(h:N<n):Ku a (N:Int)=some (a ⟨N,h⟩):=by grind[Ku]
def Az(o:Option R)(Q:R->Prop):Prop:= ∃r,o=some r/\Q r
section
variable {α β γ:Type}
theorem AA{r:α}{Q:α->Prop}(h:Q r):Az (.some r) Q:=⟨r,rfl,h⟩
def Az.mono{o:Option α}{P Q:α->Prop}(h:Az o P)(c: ∀r,P r->Q r):Az o Q:=by obtain⟨r,a,b⟩:=h;exact⟨r,a,c r b⟩
theorem AB{o:Option α}{k:α->Option β}{P:α->Prop}{Q:β->Prop}(h:Az o P)(b: ∀r,P r->Az (k r) Q):Az (Option.bind o k) Q:=by obtain⟨r,rfl,a⟩:=h;exact b r a
theorem EM{o:Option α}{k:α->Option β}{P:α->Prop}{Q:β->Prop}(h:Az o P)(b: ∀r,o= .some r->P r->Az (k r) Q):Az (Option.bind o k) Q:=by obtain⟨r,rfl,a⟩:=h;exact b r rfl a
def AJ{o:Option α}{k:α->Option β}{P:α->Prop}{Q:β->Prop}(a: ∀r,P r->Az (k r) Q)(h:Az o P):Az (Option.bind o k) Q:=AB h a
def AI{a b:Option α}{Q:α->Prop}(d:j=true->Az a Q)(e:j=false->Az b Q):Az (bif j then a else b) Q:=by
 cases j with
 |true=>exact d rfl
 |false=>exact e rfl
def AC{p:Prop}{_:Decidable p}{a b:Option α}{Q:α->Prop}(c:p->Az a Q)(d: ¬p->Az b Q):Az (bif decide p then a else b) Q:=AI (λh=>c (of_decide_eq_true h)) (λh=>d (of_decide_eq_false h))
def AO{a b:Option α}{Q:α->Prop}(d:j=false->Az a Q)(e:j=true->Az b Q):Az (bif !j then a else b) Q:=by
 cases j with
 |true=>exact e rfl
 |false=>exact d rfl
theorem AQ{_:BEq R} [LawfulBEq R] {x y:R}{a b:Option α}{Q:α->Prop}(c:x=y->Az a Q)(d:x≠y->Az b Q):Az (bif x==y then a else b) Q:=AI (λh=>c (eq_of_beq h)) (λh=>d (ne_of_beq_false h))
theorem AL{_:BEq R} [LawfulBEq R] {x y:R}{a b:Option α}{Q:α->Prop}(c:x≠y->Az a Q)(d:x=y->Az b Q):Az (bif x !=y then a else b) Q:=by refine AI (λh=>c λe=>?_) (λh=>d ?_);subst e;simp at h;simpa using h
def BP{a b:Option α}{k:α->Option β}{Q:β->Prop}(h:Az (bif j then Option.bind a k else Option.bind b k) Q):Az (Option.bind (bif j then a else b) k) Q:=by cases j<;>exact h
def BE{a:α}{k:α->Option β}{Q:β->Prop}(h:Az (k a) Q):Az (Option.bind (.some a) k) Q:=h
def BX{o:Option α}{f:α->Option β}{k:β->Option γ}{Q:γ->Prop}(h:Az (Option.bind o λv=>Option.bind (f v) k) Q):Az (Option.bind (Option.bind o f) k) Q:=by cases o<;>exact h
def L3{f:α->Option γ}{g:β->Option γ}{o:α ⊕ β}{k:γ->Option R}{Q:R->Prop}(h:Az (Sum.elim (λu=>Option.bind (f u) k) (λu=>Option.bind (g u) k) o) Q):Az (Option.bind (Sum.elim f g o) k) Q:=by cases o<;>exact h
theorem BF{u:α}{f:α->Option γ}{g:β->Option γ}{Q:γ->Prop}(h:Az (f u) Q):Az (Sum.elim f g (.inl u)) Q:=h
theorem BC{u:β}{f:α->Option γ}{g:β->Option γ}{Q:γ->Prop}(h:Az (g u) Q):Az (Sum.elim f g (.inr u)) Q:=h
theorem A2{f:α->Option γ}{g:β->Option γ}{o:α ⊕ β}{Q:γ->Prop}(a: ∀u,o= .inl u->Az (f u) Q)(b: ∀u,o= .inr u->Az (g u) Q):Az (Sum.elim f g o) Q:=by
 cases o with
 |inl u=>exact a u rfl
 |inr u=>exact b u rfl
def Az.get{o:Option α}{Q:α->Prop}{r:α}(h:Az o Q)(e:o= .some r):Q r:=by obtain⟨s,a,b⟩:=h;rw[e]at a;injection a with a;rw[a];exact b
def Az.and{o:Option α}{P Q:α->Prop}(h:Az o P)(g:Az o Q):Az o λr=>P r/\Q r:=by obtain⟨r,a,b⟩:=h;exact⟨r,a,b,g.get a⟩
theorem AE{l:List α}{i:Int}(b:0<=i:=by omega)(c:i<l.length:=by omega):Az (ix l i) λx=>l[i.toNat]? = .some x/\x∈l:=by obtain⟨x,d,a⟩:=ABu b c;exact⟨x,d,a,BJ a⟩
theorem Ac{l a:List α}(h:l.length+a.length<=16777216):Az (app l a) λr=>r=l++a/\r.length=l.length+a.length/\r.length<=16777216:=⟨_,AAg h,rfl,by simp,by simp;omega⟩
def CY{a b:Bc}(h:a.length+b.length<=9223372036854775807):Az (sapp a b) λr=>r=a++b/\r.length=a.length+b.length:=by refine⟨a++b,?_,rfl,by simp⟩;unfold Go.Ab.sapp;rw[if_pos h]
theorem Dq{s:Bc}{b:Int}(c:0<=q:=by omega)(d:q<=b:=by omega)(e:b<=s.length:=by omega):Az (Ro s q b) λr=>r=(s.drop q.toNat).take (b.toNat-q.toNat)/\(r.length:Int)=b-q:=by refine⟨_,if_pos ⟨c,d,e⟩,rfl,?_⟩;rw[CH,HA];omega
def Bu{s:List α}{lo hi:Int}(a:0<=lo:=by omega)(b:lo<=hi:=by omega)(c:hi<=s.length:=by omega):Az (Za s lo hi) λr=>r=(s.drop lo.toNat).take (hi.toNat-lo.toNat)/\(r.length:Int)=hi-lo:=by refine⟨_,if_pos ⟨a,b,c⟩,rfl,?_⟩;rw[CH,HA];omega
def Pe{s:Bc}{i:Int}(a:0<=i)(c:i<s.length):Az (six s i) λb=>0<=b/\b<256:=by
 obtain⟨n,rfl⟩:=EZ a;have hn:n<s.length:=by omega
 refine⟨(s[n].toNat:Int),?_,by omega,?_⟩;unfold Go.Ab.six;simp[hn];have:=s[n].toNat_lt;omega
def Dh{a:Qu n α}(b:0<=q)(c:q<n):Az (Ku a q) λx=>x=a ⟨q.toNat,by omega⟩:=by obtain⟨k,rfl⟩:=EZ b;exact⟨_,yS a (by omega),rfl⟩
theorem jy{z:α}(a:0<=q)(b:q<=16777216):Az (mk z q q) λr=>r=List.replicate q.toNat z/\(r.length:Int)=q:=by refine⟨List.replicate q.toNat z,?_,rfl,by simp;omega⟩;unfold Go.Ab.mk;rw[if_pos ⟨a,Af _,b⟩]
def AM{body:L→Option (Step L R)}(I:L→Prop)(c:L→Nat){Q:R→Prop}{s:L}(d:I s)
  (g: ∀s,I s->Az (body s) λb=>match b with| .next a=>I a/\c a<c s| .done r=>Q r):Az (Ad body s) Q:=by
 obtain⟨r,e,f⟩:=vB (body:=body) I Q c (λs h=>by
  obtain⟨b,q1,q2⟩:=g s h;cases b with
  |next a=>exact .inr ⟨a,q1,q2.1,q2.2⟩
  |done r=>exact .inl ⟨r,q1,q2⟩) d
 exact⟨r,e,f⟩
def S1(n:Int):IntKind.wrap .u64 n=n%18446744073709551616:=by simp[IntKind.wrap,IntKind.bits,IntKind.signed]
theorem rN(n:Int):IntKind.wrap .u32 n=n%4294967296:=by simp[IntKind.wrap,IntKind.bits,IntKind.signed]
def zx(n:Int):IntKind.wrap .u8 n=n%256:=by simp[IntKind.wrap,IntKind.bits,IntKind.signed]
def XW{Q:α->Prop}(h:False):Az .none Q:=h.elim
theorem AW{x:Int}(h: -9223372036854775808<=x/\x<=9223372036854775807:=by omega):wi x=x:=w64 h
def yA(x:Int):wi x=(x+9223372036854775808)%18446744073709551616-9223372036854775808:=by unfold wi;rw[IntKind.wrap_i64]
end
open Go.ChangeShapes Go.WideShapes Go.ChangeAt Go.RowKit
def gh0:Gh:=⟨λ_=>none,λ_=>0,λ_=>0⟩
def cx0(w:World):Cx:=cx (λ_=>False) gh0 [] w
def ACl(w:World):Ip (λ_=>False) gh0 [] w where
 out B h:=h.elim
 live id g cs h:=by simp at h
 lp id L h:=by simp at h
 inj id id' e e' B h:=by simp at h
 bld id e h:=by simp at h
theorem sY: ¬(cx0 v).O N:=by rintro(h|⟨id,e,h,_⟩);exact h;grind
def ga{Q:AV→As→Prop}(h:Ep P F g [] Q){w:World}{cargs:Array Value}(hn:cargs.size=g.length)
  (d: ∀(j:Nat) (v:AV) (c:Value),g[j]? =some v->cargs[j]? =some c->Bf (cx0 w) v c):
  Calls P F cargs w λe b=> ∃c v x a,e= .returned c/\Q v a/\Bf x v c/\Below w.heap.size w b:=by
 refine(h (λ_=>False) gh0 w cargs (ACl w) hn d).mono ?_;rintro e b ⟨c,v,i,a,rfl,q,_,r,x⟩;refine⟨c,v,_,a,rfl,q,r,x.os,x.tape,x.output,x.size,λk l=>x.keep k l ?_⟩;rintro⟨id,e,f,_⟩;simp at f
def vZ{k:IntKind}{a:Addr}{b:List Int}(A:N≤n)(D:b.length=n)(t: ∀i,i<b.length→v.cell? (a.add i)=some (.int k (b.getD i 0)))(q:a.block<v.heap.size∨N=0):
  Bf (cx0 v) (.vs 1 ((b.take N).map λF=>.int k F)) (.slice (some a) N n):=by
 have d:((b.take N).map λF=>AV.int k F).length=N:=by simp;omega
 have g: ∀(j:Nat) (e:AV),((b.take N).map λF=>AV.int k F)[j]? =some e->j<N/\e= .int k (b.getD j 0):=by
  intro j e h;rw[CL]at h;cases c:(b.take N)[j]? with
  |none=>rw[c]at h;cases h
  |some F=>
   rw[c]at h;simp only[Be,Ai]at h;subst h;have p:j<(b.take N).length:=by rcases Ap j (b.take N).length with h|h;exact h;rw[Cs h]at c;cases c
   simp only[CH]at p;rw[dk (by omega)]at c;exact⟨by omega,by rw[I1,c];rfl⟩
 have key:=Bf.vs (x:=cx0 v) (sz:=1) (rows:=(b.take N).map λF=>.int k F) (a:=some a) (cap:=n) (λj _=>.int k (b.getD j 0)) (by rw[d];exact A) (by omega)
  (λj e h=>by rw[(g j e h).2];rfl)
  (λr=>by
   have C:0<N:=by rcases Qz N with h|h;subst h;simp at r;exact h
   have m:a.spot=none:=by have:=t 0 (by omega);unfold World.cell? at this;split at this;split at this;cases this;rename_i u;simp only[Addr.add,if_true]at u;simpa using u;cases this
   obtain⟨B,s,E⟩:=a;simp only at m;subst m;refine⟨B,s,rfl,sY,?_,λj e i w c l=>?_⟩;rcases q with h|h;exact h;omega;obtain⟨y,o⟩:=g j e c;subst o;have f:i=0:=by
    simp only[AV.cells]at l;cases i with
    |zero=>rfl
    |succ i=>simp at l
   subst f;refine⟨?_,rfl⟩;have:=t j (by omega);simp only[Nat.mul_one,Qy];show v.cell? _=_;rw[<-this];unfold Addr.add;split;rename_i z;subst z;rfl;rfl)
  (λj e i w c l=>by
   obtain⟨y,o⟩:=g j e c;subst o;have f:w= .int k (b.getD j 0):=by
    simp only[AV.cells]at l;cases i with
    |zero=>simpa using l.symm
    |succ i=>simp at l
   subst f;exact .int _ _)
 rw[d]at key;exact key
def xy:Bf (cx0 v) (.vs 1 []) (.slice none 0 0):=Bf.vs (x:=cx0 v) (sz:=1) (rows:=[]) (a:=none) (cap:=0) (λ_ _=>.nilFunc) (by simp) (by omega) (λj e h=>by simp at h) (λh=>absurd rfl h) (λj e i w h=>by simp at h)
end Go.Ab
