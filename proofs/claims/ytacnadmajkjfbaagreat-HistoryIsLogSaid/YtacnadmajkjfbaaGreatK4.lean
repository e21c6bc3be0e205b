/- A layer over the model in which values are trees: its laws and a typed interpreter, part 4. Texts of the folder wip, laid in few files with shorter names by a program (wip/tools/pack.py); nothing is assumed. -/
import Derived.Test.YtacnadmajkjfbaaGreatK3
import Derived.KernelRfl
import Derived.ProofKit
noncomputable section
set_option linter.unusedVariables false
set_option linter.unusedSimpArgs false
set_option linter.unusedSectionVars false
set_option linter.defProp false
set_option linter.unnecessarySimpa false
set_option linter.deprecated false
namespace Go.Ab
def isLen:Op->Bool
 | .call {callee:=.builtin .len,.. }=>true
 | .move _=>true
 | .assign _=>true
 | .extract _ _=>true
 |_=>false
def rdT(env:BS)(op:Op):List Nat:=match isLen op with|true=>[]|false=>op.operands.toList.flatMap λx=>yy (Ir env x)
def To(o:Oper)(env:BS):BS:=(TS o).filterMap λt=>match env.get t with| .c (.raw .any)=>none|v=>some (t,v)
def dY(ids:List Nat):Nat->Am->List Nat
 |_,[]=>[]
 |j,.live false cs::r=>match (KC cs).any λi=>NU i ids with|true=>j::dY ids (j+1) r|false=>dY ids (j+1) r
 |j,_::r=>dY ids (j+1) r
variable {N n y:Nat}{a z:List Nat}{R L:Type}{b A:Am}{c:List SW}{d G:Code}{e:List Oper}{F:FuncId}{f I M:BS}{P:Program}{g:List AV}{i:AV}{j:Bool}{k:Q9}{m K:TypeId}{p:Ty}{q:Int}{t:List TV}{u:Env}{v:World}{w:TV}{x:Exit}{C:Dl}{D:Ba}{E:Operand}{o:Oper}{J:Func}
section
variable {R:Type}
def quD(P:Program)(env:BS)(H:Am)(op:Op)(k:TV->Option R):Option R:=
 match op with
 | .buildSlice t len parts=>jg P env t len parts k
 |op=>zT P env H op k
def wQ(P:Program)(cs:List SW)(call:Q9)(env:BS)(H:Am)(op:Op)(k:TV->Am->Option R):Option R:=
 match op with
 | .box _ x=>yP H (Ir env x) k
 | .store t a v=>storeT P H t (Ir env a) (Ir env v) k
 | .makeSlice t x y=>bM P H t (Ir env x) (Ir env y) k
 | .buildSlice t len parts=>Wb P env H t len parts k
 | .call c=>
  match dp env (.call c)with
  |some (F,vs)=>
   match Zk P F with
   |true=>
    match jv cs F with
    |some ct=>tR ct vs H k
    |none=>match isNil vs with|true=>call (.fn F) [] (H.map Dl.lock) λv H'=>k v (TY H H')|false=>call (.fn F) vs H k
   |false=>none
  |none=>
   match mh env c with
   |some (id,vs)=>call (.yd id) vs H k
   |none=>
    match c with
    |{callee:=.builtin .append,args:=⟨[s,x]⟩,argTypes:=⟨[t,t']⟩}=>match Nat.beq t t' with|true=>kT P H t (Ir env s) (Ir env x) k|false=>none
    |_=>none
 |_=>none
def ABg(P:Program)(cs:List SW)(call:Q9)(env:BS)(H:Am)(op:Op)(k:TV->Am->Option R):Option R:=
 match Hz (er cs env H op) env H with
 |(ef,hf)=>wQ P cs call ef hf op k
def qA(cs:List SW)(env:BS)(H:Am)(op:Op):List Nat:=
 match er cs env H op with
 |[]=>od cs env H op
 |ids=>ids++dY ids 0 H++(match Hz ids env H with|(ef,hf)=>od cs ef hf op)
def ABo:Op->Bool
 | .buildSlice .. =>true
 |_=>false
def s8(P:Program)(cs:List SW)(call:Q9)(ops:Array Oper)(m:List Nat)(gs:List Nat)(ow:Bool):List Nat->List (Nat×List Nat)->BS->Am->(BS->Am->Option R)->Option R
 |[],_,env,H,k=>k env H
 |i::r,pend,env,H,k=>
  match ops[i]? with
  |none=>none
  |some o=>
   match o.op with
   | .alloc t=>
    match mi P t with
    |some z=>
     match o.guard.isNone&&r.all (λj=>OE m i j||Ho ops j)with
     |true=>s8 P cs call ops m gs ow r pend (env.putO o.dst (.c (.raw (.ptr H.length 0 0)))) (H++[.live false z]) k
     |false=>none
    |none=>none
   |op=>
    match bJ ops o.guard env with
    |some false=>s8 P cs call ops m gs ow r ((i,[])::pend) (env.putO o.dst (.tup [])) H k
    |some true=>
     match dq op&& !(ow&&ABo op)with
     |true=>
      match (rdT env op).all λid=>Nat.blt id H.length with
      |true=>quD P env H op λv=>force (NU i gs) v λv'=>s8 P cs call ops m gs ow r ((i,rdT env op)::pend) (env.putO o.dst v') H k
      |false=>none
     |false=>
      match r.all (λj=>OE m i j||Ho ops j)&&pend.all (λp=>OE m p.1 i||p.2.all λid=>!NU id (qA cs (To o env) H op))with
      |true=>ABg P cs call (To o env) H op λv H'=>force (NU i gs) v λv'=>s8 P cs call ops m gs ow r pend (env.putO o.dst v') H' k
      |false=>none
    |none=>none
variable {P:Program} {N:Nat} {o:Oper} {env:BS} {H:Am} {r:R}
theorem uJ(env:BS)(a:Op)(h:isLen a=false):vH (Br env) a=rdT env a:=by grind[vH,rdT,KG,yz]
theorem eV.len{env:Env}{H:As}{v:AV}(b:isLen o.op=true)(e:CQ P env H o.op=some v):eV P N o env H [] v:=by
 intro c f d _;refine DY (v:=v) ?_ ⟨rfl,rfl⟩;rw[nv (aW d),<-e];generalize o.op=op at b;unfold isLen at b;split at b;rename_i args a;obtain⟨args⟩:=args;obtain⟨a⟩:=a;match args,a with
 |[x],[t]=>rfl
 |[],_=>rfl
 |_::_::_,_=>rfl
 |[_],[]=>rfl
 |[_],_::_::_=>rfl
 rfl;rfl;rfl;cases b
theorem vF{k:TV->Option R}(ok:O0 env H)(h:quD P env H o.op k=some r): ∃v,eV P N o (Br env) (A6 H) (rdT env o.op) v.enc/\k v=some r/\v.ok H:=by
 have n:zT P env H o.op k=some r-> ∃v,eV P N o (Br env) (A6 H) (rdT env o.op) v.enc/\k v=some r/\v.ok H:=λh=>by
  obtain⟨v,f,i,j⟩:=ny ok h;refine⟨v,?_,i,j⟩;cases z:isLen o.op with
  |true=>grind[rdT,eV.len]
  |false=>rw[<-uJ _ _ z];exact UM f
 generalize b:o.op=op at h;unfold quD at h;split at h;rename_i t len a;unfold jg at h;split at h;rename_i q l;split at h;rename_i e;split at h;rename_i F d;have E:=mQ l e;refine⟨_,?_,h,JR trivial⟩;rw[<-b,<-uJ _ _ (by rw[b];rfl)];have y:oY P (Br env) (A6 H) o.op=some (.vs q.sz ((a.toList.map λp=>Ir env p.2).map TV.enc)):=by grind[oY]
 have A:=dH (N:=N) y;intro x m f i;have j:=A x m f i;refine Ip.after (v:=.vs q.sz ((a.toList.map λp:Nat×Operand=>Ir env p.2).map TV.enc)) (H1:=m) j λX g w s=>⟨Rn.refl _ _,λc D=>zo (fY d) (cz d) (λv C=>?_) _ _ D⟩
 unfold bR at e;simp only[BO]at e;obtain⟨u,B,rfl⟩:=Bl.1 C;have:=Fx.1 e.1.1.2 u B;split at this;simp_all[Vy,Zh];cases this;cases h;cases h;cases h;grind
theorem uk{a:Op}{b:TV->Am->Option R}(h:wQ P c k env H a b=some r):qD P c k env H a b=some r:=by unfold wQ at h;unfold qD;split at h<;>grind
theorem nq{p:Nat×TV}(h:p∈To o f):p.1∈TS o/\p.2=f.get p.1/\p.2≠ .c (.raw .any):=by obtain⟨t,b,a⟩:=Nj.1 h;grind
theorem yp(h:w.enc= .any):w= .c (.raw .any):=by
 cases w with
 |c x=>
  cases x with
  |ar n t a=>cases h
  |_=>grind[TV.enc,Ba.one]
 |_=>simp[TV.enc]at h
theorem ec{t:Nat}: ∀{l:BS},(∀p∈l,p.1≠t)->BS.get l t=Sf
 |[],_=>rfl
 |(k,u)::r,h=>by simp only[BS.get,beq_false (h (k,u) (by simp))];exact ec λp a=>h p (by simp[a])
theorem ni{j:Nat}: ∀{l:List Nat},j∈l->NU j l=true
 |i::r,h=>by simp only[NU];rcases An.1 h with rfl|h;rw[HY];rw[ni h];split<;>rfl
def zt(ids:List Nat)(H:Am)(j:Nat):Prop:= ∀cs,H[j]? =some (.live false cs)-> ∀i∈KC cs,i∉ids
theorem kC{ids:List Nat}: ∀{H:Am} {i j:Nat},i+j∉dY ids i H->zt ids H j
 |e::r,i,0,hn,c,h=>by grind[dY,ni]
 |e::r,i,j+1,hn,c,h=>by
  have d:(i+1)+j∉dY ids (i+1) r:=by
   have f:i+1+j=i+(j+1):=by omega
   rw[f];intro a;apply hn;cases e with
   |live b c=>cases b<;>grind[dY]
   |dead=>exact a
   |buf=>exact a
   |lp=>exact a
   |mp=>exact a
  exact kC (ids:=ids) d c h
def fm{id b:Nat}{t:Ty}{l:List t.D}: ∀{a:List Ba},id∉KC a->a.map (Mb id b t l)=a
 |[],_=>rfl
 |x::r,h=>by
  cases x with
  |own d c e n=>simp only[KC,An,not_or]at h;simp only[BZ,Mb,beq_false h.1,Bool.false_and,fm h.2]
  |_=>simp only[KC]at h;simp only[BZ,Mb,fm h]
def aY: ∀(a:List Nat) {env:BS} {H:Am} {j:Nat},j∉a->zt a H j->(Hz a env H).2[j]? =H[j]?
 |[],_,_,_,_,_=>rfl
 |id::r,env,H,j,hj,hn=>by
  simp at hj;simp only[Hz];split;rename_i e h d;have m:h[j]? =H[j]? :=by
   unfold frz at d;split at d;rename_i t l n q s;simp at d;rw[<-d.2,D3 (λe=>hj.1 e.symm),CL];cases p:H[j]? with
   |none=>rfl
   |some o=>
    simp;cases o with
    |live b c=>
     cases b with
     |false=>simp only[PD];rw[fm λf=>hn c p id f JK]
     |true=>rfl
    |_=>rfl
   cases d
  rw[aY r hj.2 λc g i k f=>hn c (m▸g) i k (CC _ f),m];exact aY r hj.2 λc g i k f=>hn c g i k (CC _ f)
theorem sB(l: ∀f∈c,f.Ok P)(g:UP P k){b:TV→Am→Option R}(ok:O0 env H)(h:ABg P c k (To o env) H o.op b=some r):
  ∃v d,Eff P N o (Br env) (A6 H) (qA c (To o env) H o.op) (DW v.enc (A6 d))/\b v d=some r/\v.ok d/\(∀e∈d,e.ok d)/\B4 H d:=by
 have n:O0 (To o env) H:=⟨λp m=>by rw[(nq m).2.1];exact jG ok.env _,ok.heap⟩
 obtain⟨s,u,A⟩:=Pf (er c (To o env) H o.op) n;have w:=λj=>aY (er c (To o env) H o.op) (env:=To o env) (H:=H) (j:=j);have x: ∀id,id∉qA c (To o env) H o.op->id∉od c (Hz (er c (To o env) H o.op) (To o env) H).1 (Hz (er c (To o env) H o.op) (To o env) H).2 o.op/\(Hz (er c (To o env) H o.op) (To o env) H).2[id]? =H[id]? :=by intro id a;unfold qA at a;split at a;rename_i z;rw[z];exact⟨a,rfl⟩;simp only[Ar,not_or]at a;refine⟨a.2,w id a.1.1 (kC (i:=0) (by grind))⟩
 obtain⟨v,d,q1,q2,q3,q4,q5,q6⟩:=jt (N:=N) l g s (uk h);refine⟨v,d,⟨λt G=>Ip.before (F3.subset λq y=>?_) (Ip.before (A N) q1),?_⟩,q2,q3,q4,u.step.trans q5⟩;obtain⟨p,m,rfl⟩:=Bl.1 y;obtain⟨D,E,F⟩:=nq m;grind[R0,Mw,yp];rintro _ _ ⟨rfl,rfl⟩ id a hn;rw[CR]at a;obtain⟨B,C⟩:=x id hn;rw[FA,FA,q6 id (DB a u.step.len) B,C]
def Rk{j:Nat}: ∀{l:List Nat},NU j l=false->j∉l
 |i::r,h=>by simp only[NU]at h;split at h;cases h;rename_i b;intro a;rcases An.1 a with rfl|a;rw[HY]at b;cases b;exact Rk h a
 |[],_=>λh=>by cases h
def mo(ops:Array Oper)(l:List Nat):List Nat:=l.filterMap λi=>(ops[i]?).bind (·.dst)
theorem Vv{L:List SW}(u: ∀c∈L,c.Ok P){w:Q9}(s:UP P w){b:Array Oper}{X:List Nat}{ow:Bool}: ∀(l:List Nat) (n:List (Nat×List Nat)) (env:BS) (H:Am) (k:BS→Am→Option R) (r:R),O0 env H→
  s8 P L w b (Hw b.toList []) X ow l n env H k=some r->
  ∃a q,RA P N b l n (Br env) (A6 H) (λe h=>e=Br a/\h=A6 q)/\k a q=some r/\O0 a q/\E5 (mo b l) env H a q
 |[],n,env,H,k,r,ok,h=>⟨env,H,⟨rfl,rfl⟩,h,ok,E5.refl _ _ _⟩
 |i::l,n,env,H,k,r,ok,h=>by
  simp only[s8]at h;simp only[RA];cases J:b[i]? with
  |none=>rw[J]at h;cases h
  |some o=>
   rw[J]at h;simp only at h⊢;have m: ∀{e:BS} {h:Am} {v:TV},E5 (mo b [i]) e h (e.putO o.dst v) h:=by
    intro e h v;refine⟨B4.refl h,λt T _=>?_⟩;cases hd:o.dst with
    |none=>rfl
    |some d=>refine iA λe=>T ?_;simp[mo,J,hd,e]
   have g: ∀t,t∈mo b [i]++mo b l->t∈mo b (i::l):=by grind[mo]
   split at h;rename_i t Q;split at h;rename_i z hz;split at h;rename_i F;simp only[BO]at F;obtain⟨z1,z2⟩:=V1 hz;have I:=B4.push H (.live false z);have f:O0 (env.putO o.dst (.c (.raw (.ptr H.length 0 0)))) (H++[.live false z]):=⟨bS (I.env ok.env) (JR trivial),OS ok.heap (z2 _)⟩
   obtain⟨a,q,x,C,D,E⟩:=Vv u s l _ _ _ _ _ f h;have G:o.guard=none:=by simpa using F.1
   refine⟨a,q,?_,C,D,?_⟩;rw[G];refine .inr (.inr ⟨t,lvs z,Q,z1,λj V=>?_,?_⟩);grind[List.all_eq_true];have M:Br (env.putO o.dst (.c (.raw (.ptr H.length 0 0))))=(Br env).putO o.dst (.ptr (A6 H).length 0 0):=by rw[Ux,CR];rfl
   have W:A6 (H++[.live false z])=A6 H++[.live 0 (lvs z)]:=Pd _ _;rw[M,W]at x;exact x;have U:E5 (mo b [i]) env H (env.putO o.dst (.c (.raw (.ptr H.length 0 0)))) (H++[.live false z]):=⟨I,(m (h:=H)).same⟩
   exact(E5.trans ok.env U E).mono g;cases h;cases h;rename_i O;have y:Ho b i=false:=by
    cases Z:Ho b i with
    |false=>rfl
    |true=>obtain⟨t,T⟩:=(Tm J).1 Z;exact(O t T).elim
   split at h;rename_i G;have f:O0 (env.putO o.dst (.tup [])) H:=⟨bS ok.env (Ph λv hv=>by cases hv),ok.heap⟩
   obtain⟨a,q,x,C,D,E⟩:=Vv u s l _ _ _ _ _ f h;have M:(Br env).putO o.dst (.tup [])=Br (env.putO o.dst (.tup [])):=by rw[Ux];rfl
   exact⟨a,q,gq G ⟨y,by rw[M];exact x⟩,C,D,(E5.trans ok.env m E).mono g⟩;rename_i G;split at h;split at h;rename_i S;obtain⟨v,q1,q2,q3⟩:=vF (N:=N) ok h;have B:=fe q2;have f:O0 (env.putO o.dst v) H:=⟨bS ok.env q3,ok.heap⟩
   obtain⟨a,q,x,C,D,E⟩:=Vv u s l _ _ _ _ _ f B;refine⟨a,q,dT G (.inl ⟨y,v.enc,rdT env o.op,q1,λid A=>?_,by rw[<-Ux];exact x⟩),C,D,(E5.trans ok.env m E).mono g⟩;have:=Fx.1 S id A;rw[CR];exact Nn this;cases h;split at h;rename_i F;simp only[BO]at F;obtain⟨v,K,q1,q2,q3,q4,q5⟩:=sB (N:=N) u s ok h;have B:=fe q2;have f:O0 (env.putO o.dst v) K:=⟨bS (q5.env ok.env) q3,q4⟩
   obtain⟨a,q,x,C,D,E⟩:=Vv u s l _ _ _ _ _ f B;refine⟨a,q,dT G (.inr (.inl ⟨y,qA L (To o env) H o.op,λj V=>by simpa using List.all_eq_true.1 F.1 j V,λp hp=>?_,DW v.enc (A6 K),q1,?_,?_⟩)),C,D,?_⟩;have:=Fx.1 F.2 p hp;simp only[di,Fx,Us]at this;exact this.imp id λY id A=>Rk (Y id A);rintro _ _ ⟨rfl,rfl⟩;rw[CR,CR];exact q5.len;rintro _ _ ⟨rfl,rfl⟩;rw[<-Ux];exact x;have U:E5 (mo b [i]) env H (env.putO o.dst v) K:=⟨q5,(m (h:=H)).same⟩
   exact(E5.trans ok.env U E).mono g;cases h;cases h
end
abbrev DV:=(t:Ty)×t.D
def wP:(ts:List Ty)->DL ts->List DV
 |[],_=>[]
 |[t],x=>[⟨t,x⟩]
 |t::u::r,x=>⟨t,x.1⟩::wP (u::r) x.2
def sQ:(ts:List Ty)->List DV->Option (DL ts)
 |[],[]=>some ()
 |[t],[⟨t',x⟩]=>if h:t'.beq t=true then some (Ty.cast h x)else none
 |t::u::r,⟨t',x⟩::ds=>if h:t'.beq t=true then match sQ (u::r) ds with|some y=>some (Ty.cast h x,y)|none=>none else none
 |_,_=>none
def tc{a:Ty}(h:a.beq p=true)(x:a.D):(⟨p,Ty.cast h x⟩:DV)=⟨a,x⟩:=by have e:=Ty.beq_eq a p h;subst e;rfl
theorem jN: ∀{b:List Ty} {a:List DV} {s:DL b},sQ b a=some s->wP b s=a
 |[],[],s,_=>rfl
 |[],_::_,s,h=>by cases h
 |[t],[],s,h=>by cases h
 |[t],[⟨t',x⟩],s,h=>by simp only[sQ]at h;split at h;rename_i c;injection h with h;subst h;simp only[wP,tc];cases h
 |[t],_::_::_,s,h=>by simp[sQ]at h
 |t::u::r,[],s,h=>by cases h
 |t::u::r,⟨t',x⟩::a,s,h=>by simp only[sQ]at h;split at h;rename_i c;split at h;rename_i y d;injection h with h;subst h;simp only[wP,tc,jN d];cases h;cases h
inductive Part where
 |d (t:Ty)
 |o (id:Nat)
inductive S3 where
 |t (tmp:Nat) (ty:Ty)
 |g (tmp id:Nat)
 |p (id:Nat) (ps:List Part)
 |u (id:Nat) (ty:Ty)
 |x (id:Nat)
 |k (tmp:Nat) (v:AV)
 |y (id:Nat) (s:LS)
 |m (id:Nat) (k:IntKind) (t:Ty)
def ABG:AV->AV->Bool
 | .ptr a b c,.ptr a' b' c'=>Nat.beq a a'&&(Nat.beq b b'&&Nat.beq c c')
 | .nilp,.nilp=>true
 | .nilf,.nilf=>true
 |_,_=>false
def zU{w:AV}(h:ABG i w=true):i=w:=by unfold ABG at h;split at h<;>simp_all
def Kr:List S3->List Nat
 |[]=>[]
 | .p id _::r=>id::Kr r
 | .u id _::r=>id::Kr r
 | .x id::r=>id::Kr r
 | .y id _::r=>id::Kr r
 | .m id _ _::r=>id::Kr r
 |_::r=>Kr r
def ma:List S3->List Nat
 |[]=>[]
 | .t tmp _::r=>tmp::ma r
 | .g tmp _::r=>tmp::ma r
 | .k tmp _::r=>tmp::ma r
 |_::r=>ma r
def AA8:List Part->List Ty
 |[]=>[]
 | .d t::r=>t::AA8 r
 |_::r=>AA8 r
def bX:List S3->List Ty
 |[]=>[]
 | .t _ t::r=>t::bX r
 | .p _ ps::r=>AA8 ps++bX r
 | .u _ t::r=>.list t::bX r
 | .m _ k t::r=>.list (.prod (.cons (.int k) (.one t)))::bX r
 |_::r=>bX r
def oW(H:Am)(id:Nat):Ba->Bool
 | .own id' ver _ _=>match Nat.beq id id' with
  |true=>match H[id]? with|some (.buf _ _ _ _ ver')=>Nat.beq ver ver'|_=>false
  |false=>false
 |_=>false
def jm(H:Am)(rest:List Nat):List Part->List Ba->Option (List DV)
 |[],[]=>some []
 | .d t::ps,cs=>
  match t.mk cs with
  |some (x,cs')=>match jm H rest ps cs' with|some ds=>some (⟨t,x⟩::ds)|none=>none
  |none=>none
 | .o id::ps,c::cs=>
  match oW H id c&& !NU id rest with
  |true=>jm H rest ps cs
  |false=>none
 |_,_=>none
def XV(env:BS)(H:Am):List S3->Option (List DV)
 |[]=>some []
 | .t tmp ty::r=>
  match ty.data (env.get tmp),XV env H r with
  |some x,some ds=>some (⟨ty,x⟩::ds)
  |_,_=>none
 | .g tmp id::r=>
  match env.get tmp with
  | .c x=>match oW H id x&& !NU id (Kr r)with|true=>XV env H r|false=>none
  |_=>none
 | .p id ps::r=>
  match H[id]? with
  |some (.live _ cs)=>
   match jm H (id::Kr r) ps cs,XV env H r with
   |some a,some b=>some (a++b)
   |_,_=>none
  |_=>none
 | .u id ty::r=>
  match H[id]? with
  |some (.buf _ t l _ _)=>match t.beq ty,XV env H r with|true,some ds=>some (⟨.list t,l⟩::ds)|_,_=>none
  |_=>none
 | .x _::r=>XV env H r
 | .k tmp v::r=>
  match env.get tmp with
  | .c (.raw w)=>match ABG v w with|true=>XV env H r|false=>none
  |_=>none
 | .y id s::r=>
  match H[id]? with
  |some (.lp _ _ _ _ _ _ _ s')=>match s.beq s' with|true=>XV env H r|false=>none
  |_=>none
 | .m id k t::r=>
  match H[id]? with
  |some (.mp _ k' t' es)=>match decide (k'=k)&&t'.beq t,XV env H r with|true,some ds=>some (⟨.list (.prod (.cons (.int k') (.one t'))),es⟩::ds)|_,_=>none
  |_=>none
def lw(H:Am):List Part->List DV->Option (List Ba×List DV)
 |[],ds=>some ([],ds)
 | .d _::ps,⟨t,x⟩::ds=>match lw H ps ds with|some (cs,r)=>some (t.lvs x++cs,r)|none=>none
 | .o id::ps,ds=>
  match H[id]? with
  |some (.buf _ t _ n ver)=>match lw H ps ds with|some (cs,r)=>some (.own id ver t n::cs,r)|none=>none
  |_=>none
 |_,_=>none
def UE:List S3->List DV->BS->Am->Option (BS×Am)
 |[],[],env,H=>some (env,H)
 | .t tmp _::r,⟨t,x⟩::ds,env,H=>UE r ds ((tmp,t.tv x)::env) H
 | .g tmp id::r,ds,env,H=>
  match H[id]? with
  |some (.buf _ t _ n ver)=>UE r ds ((tmp,.c (.own id ver t n))::env) H
  |_=>none
 | .p id ps::r,ds,env,H=>
  match H[id]? with
  |some (.live false _)=>match lw H ps ds with|some (cs,ds')=>UE r ds' env (H.set id (.live false cs))|none=>none
  |_=>none
 | .u id _::r,⟨.list t,l⟩::ds,env,H=>
  match H[id]? with
  |some (.buf false t' _ _ ver)=>match t'.beq t with|true=>UE r ds env (H.set id (.buf false t l l.length (ver+1)))|false=>none
  |_=>none
 | .x id::r,ds,env,H=>
  match H[id]? with
  |some e=>match e.ro||e.isLp with|false=>UE r ds env (H.set id .dead)|true=>none
  |none=>none
 | .k tmp v::r,ds,env,H=>UE r ds ((tmp,.c (.raw v))::env) H
 | .y id s::r,ds,env,H=>
  match H[id]? with
  |some (.lp false F n e ps a b _)=>UE r ds env (H.set id (.lp false F n e ps a b s))
  |_=>none
 | .m id _ _::r,⟨.list (.prod (.cons (.int k) (.one t))),es⟩::ds,env,H=>
  match H[id]? with
  |some (.mp false k' t' _)=>match decide (k'=k)&&t'.beq t with|true=>UE r ds env (H.set id (.mp false k t es))|false=>none
  |_=>none
 |_,_,_,_=>none
def AAV(e e':Dl):Prop:=e'= .dead\/(∃b cs b' cs',e= .live b cs/\e'= .live b' cs'/\DQ (lvs cs) (lvs cs'))\/(∃b t l n v b' v',e= .buf b t l n v/\e'= .buf b' t l n v')\/(∃ro ro' F n env ps a b s,e= .lp ro F n env ps a b s/\e'= .lp ro' F n env ps a b s)\/(∃b b' k t es,e= .mp b k t es/\e'= .mp b' k t es)
def HR(H1 H:Am)(rest:List Nat):Prop:= ∀(j:Nat) (e':Dl),NU j rest=false->H[j]? =some e'-> ∃e,H1[j]? =some e/\AAV e e'
theorem Pg:NU N (n::a)=false↔N≠n/\NU N a=false:=by simp[NU];by_cases h:N=n;simp_all;grind[beq_false]
theorem jp(j:D.ok b)(h:oW b N D=true): ∃H t l n a,D= .own N a t n/\b[N]? =some (.buf H t l n a):=by unfold oW at h;split at h;rename_i k a t n;split at h;rename_i i;have e:=DN i;subst e;split at h;rename_i H o l m d g;have f:=DN h;subst f;have⟨rfl,rfl⟩:=(j.2 _ _ _ _ _ g).2 rfl;grind;cases h;cases h;cases h
theorem U1{b:Bool}{l:List p.D}(h:A[N]? =some (.buf b p l n y)):S1 A N y p n:=by refine⟨?_,λro g e f c d=>?_⟩;grind;grind
theorem fX{q H:Am}{i:List Nat}(hr:HR q H i): ∀{p:List Part} {m:List Ba} {a b j:List DV} {f:List Ba},lok q m→jm q i p m=some a→lw H p (a++b)=some (f,j)→
  j=b/\DQ (lvs m) (lvs f)/\lok H f
 |[],[],a,b,j,f,ok,h,k=>by grind[jm,Option.some.injEq,lw,Prod.mk.injEq,DQ.refl,zD]
 |[],_::_,a,b,j,f,ok,h,k=>by simp[jm]at h
 | .d t::p,m,a,b,j,f,ok,h,k=>by simp[jm]at h;split at h;rename_i x R z;split at h;rename_i S u;cases h;obtain⟨Q,rfl,M⟩:=t.mk_spec _ _ _ z;simp[Do,lw]at k;split at k;rename_i E r v;obtain⟨rfl,rfl⟩:=k;have⟨q1,q2,q3⟩:=fX hr (IZ.1 ok).2 u v;refine⟨q1,?_,IZ.2 ⟨t.lvs_ok x,q3⟩⟩;rw[Gg,Gg,t.lvs_enc];exact M.append q2;cases k;cases h;cases h
 | .o id::p,c::m,a,b,j,f,ok,h,k=>by
  simp[jm]at h;split at h
  ·rename_i s;simp[BO,Us]at s;obtain⟨O,t,l,n,N,rfl,L⟩:=jp (ok c (by simp)) s.1;simp[lw]at k;split at k
   ·rename_i P t2 l2 Z D B;split at k
    ·rename_i E r v;obtain⟨rfl,rfl⟩:=k;have⟨q1,q2,q3⟩:=fX hr (λx z=>ok x (by simp[z])) h v;have⟨e,C,w⟩:=hr id _ s.2 B;rw[L]at C;cases C;rcases w with g|⟨_,_,_,_,g,_⟩|⟨_,_,_,_,_,_,_,g,K⟩|⟨_,_,_,_,_,_,_,_,_,g,_⟩|⟨_,_,_,_,_,g,_⟩;cases g;cases g;rotate_left;cases g;cases g;injection g with T F U G V;injection K with W I X J Y;subst F G I J;refine⟨q1,?_,λy A=>?_⟩;rw[HM,HM];exact(DQ.refl _).append q2;rcases An.1 A with rfl|A;exact U1 B;exact q3 y A
    cases k
   cases k
  cases h
structure IS(env1:BS)(H1:Am)(slots:List S3)(env:BS)(H:Am)(env2:BS)(H2:Am):Prop where
 get: ∀t,NU t (ma slots)=false->env2.get t=env.get t
 ok:O0 env2 H2
 env: ∀p∈env2,∃v,(p.1,v)∈env1/\UQ v.enc p.2.enc
 hr:HR H1 H2 []
 step:B4 H H2
 len:H2.length=H.length
 same: ∀j,NU j (Kr slots)=false->H2[j]? =H[j]?
def de{t:Nat}{v:TV}: ∀{env:BS},env.get t=v->v≠Sf->(t,v)∈env
 |[],h,hv=>absurd h.symm hv
 |(k,u)::r,h,hv=>by simp only[BS.get]at h;split at h;simp_all;exact CC _ (de h hv)
def heap_set(H:B4 b (b.set N C))(ok: ∀x∈b,x.ok b)(a:C.ok (b.set N C)): ∀x∈b.set N C,x.ok (b.set N C):=by intro x c;rcases Nl c with h|rfl;exact H.ent (ok x h);exact a
theorem HR.set{a H:Am}{id:Nat}{d:Dl}(h:HR a H (id::z))(g:a[id]? =some C)(hr:AAV C d):HR a (H.set id d) z:=by intro j x f c;rw[Uv]at c;split at c;grind;rename_i b;exact h j x (Pg.2 ⟨λq=>b q.symm,f⟩) c
theorem vY.set{H c:Am}{id:Nat}{i:Dl}(h:vY H c)(l:id<H.length)(p: ∀ro F n env f a b s,c[id]? =some (.lp ro F n env f a b s)-> ∃g o,i= .lp g F n env f a b o):vY (H.set id i) c:=by intro j k ro F n env f a b s m;rw[Zl]at k;by_cases d:j=id;grind;rw[D3 λe=>d e.symm];exact h j k _ _ _ _ _ _ _ _ m
variable {l:List S3}
theorem j8(id:Nat){g:Am}(c:A[id]? =some C)(h:(C.ro||C.isLp)=false)(m:A.length≤b.length)(lp:vY A b)
  (hr:HR b A (id::Kr l)) (ok:O0 I A) (q0:O0 I (A.set id .dead)->vY (A.set id .dead) b->HR b (A.set id .dead) (Kr l)->IS f b l I (A.set id .dead) M g):IS f b (.x id::l) I A M g:=by
 have H:C.isLp=false:=by grind
 have a:B4 A (A.set id .dead):=B4.set c (by grind) λ_ _ _ _ _ C=>by cases C
 have d:id<b.length:=by grind
 have q:=q0 ⟨a.env ok.env,heap_set a ok.heap trivial⟩ (lp.set (Gu c) λ_ _ _ _ _ _ _ _ k=>by have⟨r,n,q⟩:=lp id (Gu c) _ _ _ _ _ _ _ _ k;rw[c]at q;injection q with q;rw[q]at H;cases H) (HR.set hr (Az d) (.inl rfl));refine⟨q.get,q.ok,q.env,q.hr,a.trans q.step,by simpa using q.len,λj i=>?_⟩;have:=Pg.1 i;rw[q.same j this.2,D3 λC=>this.1 C.symm]
def NT{env1:BS}{I:Am}(o:O0 env1 I): ∀{slots:List S3} {B:List DV} {env:BS} {H:Am} {env2:BS} {E:Am},XV env1 I slots=some B→UE slots B env H=some (env2,E)→O0 env H→
  H.length<=I.length->(∀p∈env,∃v,(p.1,v)∈env1/\UQ v.enc p.2.enc)->HR I H (Kr slots)->vY H I->IS env1 I slots env H env2 E
 |[],B,env,H,env2,E,h,k,ok,hl,he,hr,lp=>by simp only[XV,Ai]at h;subst h;simp only[UE,Ai,EV]at k;obtain⟨rfl,rfl⟩:=k;exact⟨λ_ _=>rfl,ok,he,hr,B4.refl _,rfl,λ_ _=>rfl⟩
 | .t tmp ty::r,B,env,H,env2,E,h,k,ok,hl,he,hr,lp=>by
  simp[XV]at h;split at h;rename_i x d M U;cases h;simp[UE]at k;have f:O0 ((tmp,ty.tv x)::env) H:=⟨λp z=>by rcases An.1 z with rfl|z;exact ty.tv_ok x;exact ok.env p z,ok.heap⟩
  have q:=NT o U k f hl (λp z=>by rcases An.1 z with rfl|z;refine⟨env1.get tmp,de rfl λe=>?_,?_⟩;rw[e]at M;cases ty<;>cases M;simp[ty.tv_enc];exact LM M;exact he p z) hr lp;refine⟨λt K=>?_,q.ok,q.env,q.hr,q.step,q.len,q.same⟩;have:=Pg.1 K;rw[q.get t this.2];simp[BS.get,beq_false λe=>this.1 e.symm];cases h
 | .g tmp id::r,B,env,H,env2,E,h,k,ok,hl,he,hr,lp=>by
  simp[XV]at h;split at h
  ·rename_i x M;split at h
   ·rename_i J;simp[BO,Us]at J;have ad:x.ok I:=jG o.env tmp x (by rw[M];simp[TV.refs]);obtain⟨b1,t,l,n,al,rfl,C⟩:=jp ad J.1;simp[UE]at k;split at k
    ·rename_i b2 S l2 n2 W h2;have⟨e,V,Z⟩:=hr id _ J.2 h2;rw[C]at V;cases V;rcases Z with i|⟨_,_,_,_,i,_⟩|⟨_,_,_,_,_,_,_,i,h1⟩|⟨_,_,_,_,_,_,_,_,_,i,_⟩|⟨_,_,_,_,_,i,_⟩;cases i;cases i;rotate_left;cases i;cases i;injection i with e1 e2 e3 e4 e5;injection h1 with f1 f2 f3 f4 f5;subst e2 e4 f2 f4;have f:O0 ((tmp,.c (.own id W S n2))::env) H:=⟨λp z=>by rcases An.1 z with rfl|z;exact JR (U1 h2);exact ok.env p z,ok.heap⟩
     have q:=NT o h k f hl (λp z=>by rcases An.1 z with rfl|z;exact⟨_,de M (λe=>by cases e),UQ.refl _⟩;exact he p z) hr lp;refine⟨λt K=>?_,q.ok,q.env,q.hr,q.step,q.len,q.same⟩;have:=Pg.1 K;rw[q.get t this.2];simp[BS.get,beq_false λe=>this.1 e.symm]
    cases k
   cases h
  cases h
 | .p id R::r,B,env,H,env2,E,h,k,ok,hl,he,hr,lp=>by
  simp[XV]at h;split at h;rename_i b cs C;split at h;rename_i a b1 ha J;cases h;simp[UE]at k;split at k;rename_i ap i;split at k;rename_i N T hi;have Y:lok I cs:=by simpa only[Dl.ok]using o.heap _ (BJ C)
  have⟨rfl,q2,q3⟩:=fX hr Y ha hi;have D:B4 H (H.set id (.live false N)):=B4.set i rfl λ_ _ _ _ _ e=>by cases e
  have A:HR I (H.set id (.live false N)) (Kr r):=HR.set hr C (.inr (.inl ⟨_,_,_,_,rfl,rfl,q2⟩));have f:O0 env (H.set id (.live false N)):=⟨D.env ok.env,heap_set D ok.heap (by simpa only[Dl.ok]using D.lok q3)⟩
  have q:=NT o J k f (by simpa using hl) he A (lp.set (Gu i) λ_ _ _ _ _ _ _ _ G=>by rw[C]at G;cases G);refine⟨q.get,q.ok,q.env,q.hr,D.trans q.step,by simpa using q.len,λj O=>?_⟩;have:=Pg.1 O;rw[q.same j this.2,D3 λe=>this.1 e.symm];cases k;cases k;cases h;cases h
 | .u id ty::r,B,env,H,env2,E,h,k,ok,hl,he,hr,lp=>by
  simp[XV]at h;split at h;rename_i b t l n al C;split at h;rename_i T J U;cases h;simp[UE]at k;split at k;rename_i t' l0 n0 L i;split at k;rename_i K;have e:=Ty.beq_eq _ _ K;subst e;have hn:n=l.length:=by simpa only[Dl.ok]using o.heap _ (BJ C)
  have D:B4 H (H.set id (.buf false t' l l.length (L+1))):=B4.set i rfl λro S l2 n2 v2 e=>by cases e;exact⟨_,_,_,_,rfl,.inl (by omega)⟩
  have A:HR I (H.set id (.buf false t' l l.length (L+1))) (Kr r):=HR.set hr C (.inr (.inr (.inl ⟨_,_,_,_,_,_,_,rfl,by rw[hn]⟩)));have f:O0 env (H.set id (.buf false t' l l.length (L+1))):=⟨D.env ok.env,heap_set D ok.heap rfl⟩
  have q:=NT o U k f (by simpa using hl) he A (lp.set (Gu i) λ_ _ _ _ _ _ _ _ G=>by rw[C]at G;cases G);refine⟨q.get,q.ok,q.env,q.hr,D.trans q.step,by simpa using q.len,λj O=>?_⟩;have:=Pg.1 O;rw[q.same j this.2,D3 λe=>this.1 e.symm];cases k;cases k;cases h;cases h
 | .x id::r,B,env,H,env2,E,h,k,ok,hl,he,hr,lp=>by
  simp[XV]at h;cases B with
  |nil=>simp[UE]at k;split at k;rename_i e i;split at k;rename_i P;exact j8 id i P hl lp hr ok λf Q A=>NT o h k f (by simpa using hl) he A Q;cases k;cases k
  |cons d B=>simp[UE]at k;split at k;rename_i e i;split at k;rename_i P;exact j8 id i P hl lp hr ok λf Q A=>NT o h k f (by simpa using hl) he A Q;cases k;cases k
 | .k tmp w::r,B,env,H,env2,E,h,k,ok,hl,he,hr,lp=>by
  have k':UE r B ((tmp,.c (.raw w))::env) H=some (env2,E):=by cases B<;>simpa only[UE]using k
  simp[XV]at h;split at h;rename_i w' M;split at h;rename_i J;have e:=zU J;subst e;have f:O0 ((tmp,.c (.raw w))::env) H:=⟨λp z=>by rcases An.1 z with rfl|z;exact JR trivial;exact ok.env p z,ok.heap⟩
  have hw:w≠ .any:=by rintro rfl;cases J
  have q:=NT o h k' f hl (λp z=>by rcases An.1 z with rfl|z;refine⟨_,de M (λe=>?_),UQ.refl _⟩;injection e with e;injection e with e;exact hw e;exact he p z) hr lp;refine⟨λt K=>?_,q.ok,q.env,q.hr,q.step,q.len,q.same⟩;have:=Pg.1 K;rw[q.get t this.2];simp[BS.get,beq_false λe=>this.1 e.symm];cases h;cases h
 | .y id s::r,B,env,H,env2,E,h,k,ok,hl,he,hr,lp=>by
  simp[XV]at h;split at h;rename_i ax F1 n1 e1 p1 a1 b1 s1 C;split at h;rename_i J;have e0:=LS.beq_eq J;subst e0;obtain⟨F,n,e,R,a,b,s0,i,k'⟩: ∃F n e R a b s0,H[id]? =some (.lp false F n e R a b s0)/\UE r B env (H.set id (.lp false F n e R a b s))=some (env2,E):=by cases B<;>simp[UE]at k<;>split at k<;>first|exact⟨_,_,_,_,_,_,_,‹_›,k⟩|cases k
  have⟨a0,s2,q⟩:=lp id (Gu i) _ _ _ _ _ _ _ _ C;rw[i]at q;injection q with q;injection q with _ q2 q3 q4 q5 q6 q7 _;subst q2 q3 q4 q5 q6 q7;have D:B4 H (H.set id (.lp false F n e R a b s)):=B4.set i rfl (λ_ _ _ _ _ e=>by cases e) λ_ _ _ _ _ _ _ _ e=>by cases e;exact⟨_,_,rfl⟩
  have A:HR I (H.set id (.lp false F n e R a b s)) (Kr r):=HR.set hr C (.inr (.inr (.inr (.inl ⟨_,_,_,_,_,_,_,_,_,rfl,rfl⟩))));have f:O0 env (H.set id (.lp false F n e R a b s)):=⟨D.env ok.env,heap_set D ok.heap (by have:=ok.heap _ (BJ i);simpa only[Dl.ok]using this)⟩
  have q:=NT o h k' f (by simpa using hl) he A (lp.set (Gu i) λ_ _ _ _ _ _ _ _ G=>by rw[C]at G;injection G with G;cases G;exact⟨_,_,rfl⟩);refine⟨q.get,q.ok,q.env,q.hr,D.trans q.step,by simpa using q.len,λj O=>?_⟩;have:=Pg.1 O;rw[q.same j this.2,D3 λe=>this.1 e.symm];cases h;cases h
 | .m id kk ty::r,B,env,H,env2,E,h,k,ok,hl,he,hr,lp=>by
  simp[XV]at h;split at h;rename_i b k1 t1 X C;split at h;rename_i T J U;cases h;simp[UE]at k;split at k;rename_i k2 S ar i;split at k;rename_i K;simp[BO,decide_eq_true_eq]at K;have⟨rfl,K⟩:=K;have e:=Ty.beq_eq _ _ K;subst e;have D:B4 H (H.set id (.mp false k2 S X)):=B4.set i rfl λ_ _ _ _ _ e=>by cases e
  have A:HR I (H.set id (.mp false k2 S X)) (Kr r):=HR.set hr C (.inr (.inr (.inr (.inr ⟨_,_,_,_,_,rfl,rfl⟩))));have f:O0 env (H.set id (.mp false k2 S X)):=⟨D.env ok.env,heap_set D ok.heap trivial⟩
  have q:=NT o U k f (by simpa using hl) he A (lp.set (Gu i) λ_ _ _ _ _ _ _ _ G=>by rw[C]at G;cases G);refine⟨q.get,q.ok,q.env,q.hr,D.trans q.step,by simpa using q.len,λj O=>?_⟩;have:=Pg.1 O;rw[q.same j this.2,D3 λe=>this.1 e.symm];cases k;cases k;cases h;cases h
def XU(n:Nat):List Ba->Bool
 |[]=>true
 | .own id _ _ _::r=>Nat.blt id n&&XU n r
 | .raw v::r=>v.idsAll (λid=>Nat.blt id n)&&XU n r
 |_::r=>XU n r
mutual
def nM(n:Nat):TV->Bool
 | .c x=>XU n [x]
 | .g cs=>XU n cs
 | .aptr id .. =>Nat.blt id n
 | .bptr id .. =>Nat.blt id n
 | .vptr cs post=>XU n cs&&AV.idsAllL (λid=>Nat.blt id n) post
 | .tup vs=>oS n vs
def oS(n:Nat):List TV->Bool
 |[]=>true
 |v::r=>nM n v&&oS n r
end
def mm(n:Nat):BS->Bool
 |[]=>true
 |(_,v)::r=>nM n v&&mm n r
def eL(n:Nat):Am->Bool
 |[]=>true
 | .live _ cs::r=>XU n cs&&eL n r
 | .lp _ _ _ env _ _ _ _::r=>mm n env&&eL n r
 |_::r=>eL n r
def gG(h:Nat.blt N n=true):decide (N<n)=true:=by simp_all
def dZ(h:Pure i)(n:Nat):(i.idsAll λid=>decide (id<n))=true:=PS (λ_ h=>by cases h) i h
def qW: ∀{x:Ba},XU n [x]=true->(∀v∈x.enc,(v.idsAll λid=>decide (id<n))=true)/\(x.one.idsAll λid=>decide (id<n))=true
 | .bl _,_=>⟨λv b=>by simp only[Ba.enc,A3]at b;subst b;rfl,rfl⟩
 | .it _ _,_=>⟨λv b=>by simp only[Ba.enc,A3]at b;subst b;rfl,rfl⟩
 | .st _,_=>⟨λv b=>by simp only[Ba.enc,A3]at b;subst b;rfl,rfl⟩
 | .ls t l,_=>⟨λv b=>by simp only[Ba.enc,A3]at b;subst b;exact dZ ((Ty.list t).enc_pure l) n,dZ ((Ty.list t).enc_pure l) n⟩
 | .ar m t a,_=>by have h:=dZ ((Ty.arr m t).enc_pure a) n;refine⟨λv b=>?_,h⟩;exact((Db _ _).1 h) v b
 | .own id ver t m,h=>by simp only[XU,OT]at h;have:=gG h;exact⟨λv b=>by simp only[Ba.enc,A3]at b;subst b;exact this,this⟩
 | .nil,_=>⟨λv b=>by simp only[Ba.enc,A3]at b;subst b;rfl,rfl⟩
 | .raw v,h=>by simp only[XU,OT]at h;have:=PS (λ_ h=>gG h) v h;exact⟨λu c=>by simp only[Ba.enc,A3]at c;subst c;exact this,this⟩
def nL{r:List Ba}(h:XU n (D::r)=true):XU n [D]=true/\XU n r=true:=by cases D<;>simp only[XU,OT,BO]at h⊢ <;>first|exact h|exact⟨trivial,h⟩
def du{n:Nat}: ∀{b:List Ba},XU n b=true->AV.idsAllL (λid=>decide (id<n)) (lvs b)=true
 |[],_=>rfl
 |x::r,h=>by obtain⟨c,d⟩:=nL h;rw[HM,Db];intro v a;rcases Ar.1 a with a|a;exact(qW c).1 v a;exact((Db _ _).1 (du d)) v a
mutual
theorem aU{n:Nat}: ∀{v:TV},nM n v=true->(v.enc.idsAll λid=>decide (id<n))=true
 | .c x,h=>(qW h).2
 | .g cs,h=>du h
 | .aptr ..,h=>gG h
 | .bptr ..,h=>gG h
 | .vptr cs post,h=>by simp only[nM,BO]at h;simp only[TV.enc,AV.idsAll];rw[Db];intro v a;rcases Ar.1 a with a|a;exact((Db _ _).1 (du h.1)) v a;exact((Db _ _).1 (Im (λ_ h=>gG h) post h.2)) v a
 | .tup vs,h=>by simp only[nM]at h;simp only[TV.enc,AV.idsAll];exact jl h
theorem jl{n:Nat}: ∀{a:List TV},oS n a=true->AV.idsAllL (λid=>decide (id<n)) (TV.encL a)=true
 |[],_=>rfl
 |v::r,h=>by simp only[oS,BO]at h;simp only[TV.encL,AV.idsAllL,BO];exact⟨aU h.1,jl h.2⟩
end
def dr{n:Nat}: ∀{env:BS},mm n env=true-> ∀p∈env,nM n p.2=true
 |[],_,p,a=>by cases a
 |(t,v)::r,h,p,a=>by simp only[mm,BO]at h;rcases An.1 a with rfl|a;exact h.1;exact dr h.2 p a
def dt{n:Nat}: ∀{H:Am},eL n H=true-> ∀e∈A6 H,(e.idsAll λid=>decide (id<n))=true
 |x::r,h,e,c=>by
  have g:eL n r=true:=by cases x<;>simp only[eL,BO]at h<;>first|exact h|exact h.2
  simp only[A6,BZ,An]at c;rcases c with rfl|c;cases x with
  |dead=>rfl
  |live b o=>simp only[eL,BO]at h;exact du h.1
  |buf b t l m k=>simp only[Dl.enc,EU.idsAll];rw[Db];intro v d;obtain⟨u,j,d⟩:=HX.1 d;obtain⟨y,_,rfl⟩:=Bl.1 j;have h:=dZ (t.E.pure y) n;cases q:t.E.f y<;>simp_all[AV.idsAll,Db,AV.cells]
  |mp=>rfl
  |lp ro F m env w a b s=>simp only[eL,BO]at h;simp only[Dl.enc,EU.idsAll,Br,List.all_map,Fx];exact λp i=>aU (dr h.1 p i)
  exact dt g e c
def F3.cut{N n0:Nat}{env:Env}{H:As}(hn:n0≤H.length)(d: ∀t v,(t,v)∈env→(v.idsAll λid=>decide (id<n0))=true)
  (c: ∀e∈H.take n0,(e.idsAll λid=>decide (id<n0))=true):F3 N n0 env H env (H.take n0):=
 ⟨by simp;omega,λX g a w s=>⟨g,⟨s.sim.trunc hn c,λt v m=>⟨(s.env t v m).1,(s.env t v m).2.trunc hn (d t v m)⟩,s.size⟩,λ_ _=>⟨rfl,rfl,rfl⟩,λB b=>bP b⟩⟩
theorem nP{e:EU}(h:(A6 b)[N]? =some e): ∃x,b[N]? =some x/\e=x.enc:=by grind[A6]
theorem HR.rel(u:A.length<=b.length)(hr:HR b A [])(x:Cx):Rn x x (A6 b) (A6 A++(A6 b).drop A.length):=by
 refine⟨by simp[A6];omega,λj w z=>?_⟩;have same: ∀{y:Dl},b[j]? =some y->w=y.enc->w= .dead\/(∃g p c,(A6 b)[j]? =some (.live g p)/\w= .live g c/\c.length=p.length/\ ∀(i:Nat) (f:AV),c[i]? =some f-> ∃v,p[i]? =some v/\Conv x x v f)\/((A6 b)[j]? =some w/\ ∀g p,w≠ .live g p):=by
  intro y D q;have d:(A6 b)[j]? =some y.enc:=by grind[A6]
  subst q;cases y with
  |dead=>exact .inl rfl
  |live o p=>exact .inr (.inl ⟨_,_,_,d,rfl,rfl,λi f h=>⟨f,h,λ_ r=>r⟩⟩)
  |buf o t l m H=>exact .inr (.inl ⟨_,_,_,d,rfl,rfl,λi f h=>⟨f,h,λ_ r=>r⟩⟩)
  |lp=>exact .inr (.inr ⟨d,λ_ _ h=>by cases h⟩)
  |mp=>exact .inr (.inr ⟨d,λ_ _ h=>by cases h⟩)
 rcases Ap j A.length with h|h;rw[B6 (by rw[CR];exact h)]at z;obtain⟨y,D,rfl⟩:=nP z;obtain⟨e,q,B⟩:=hr j y rfl D;rcases B with rfl|⟨o,p,C,c,rfl,rfl,u⟩|⟨o,t,l,m,v,C,f,rfl,rfl⟩|⟨ro,G,F,n,env,J,a,o,s,rfl,rfl⟩|⟨o,C,k,t,I,rfl,rfl⟩;exact .inl rfl;refine .inr (.inl ⟨0,lvs p,lvs c,by simp only[A6,CL,q,Be,Dl.enc],rfl,u.1,λi f E=>?_⟩);obtain⟨v,q1,q2⟩:=u.2 i f E;exact⟨v,q1,q2 x⟩;exact same q rfl;exact same q rfl;exact same q rfl;rw[Cr (by rw[CR];exact h),OU]at z;rw[CR]at z;grind[nP]
def IS.weak{N:Nat}{b:Am}{H:Am}(s:IS f b l I H M A)(k:H.length≤b.length)(n:mm H.length M=true)(o:eL H.length A=true):
  F3 N H.length (Br f) (A6 b) (Br M) (A6 A):=by
 have g:A.length<=b.length:=by rw[s.len];exact k
 have x:F3 N (A6 b).length (Br f) (A6 b) (Br M) (A6 A++(A6 b).drop A.length):=by refine TW (by simp[A6];omega) λX h w _=>?_;have q:=(HR.rel g s.hr (cx X h (A6 b) w)).onto;refine⟨q,λt z m=>?_⟩;obtain⟨p,j,e⟩:=Bl.1 m;injection e with d a;subst d a;obtain⟨v,u,i⟩:=s.env p j;exact⟨v.enc,Bl.2 ⟨_,u,rfl⟩,λc r=>(i _ c r).later q.later⟩
 have B:(A6 A++(A6 b).drop A.length).take H.length=A6 A:=by rw[<-s.len,<-CR A,O6];rfl
 have y:F3 N H.length (Br M) (A6 A++(A6 b).drop A.length) (Br M) (A6 A):=by have:=F3.cut (N:=N) (n0:=H.length) (env:=Br M) (H:=A6 A++(A6 b).drop A.length) (by simp[A6,s.len]) (λt v m=>by obtain⟨p,j,e⟩:=Bl.1 m;injection e with d a;subst d a;exact aU (dr n p j)) (by rw[B];exact dt o);rwa [B]at this
 exact(x.of_le (by rw[CR];exact k)).trans y
def qE:Exit->Exit->Bool
 | .normal,.normal=>true
 | .exit a,.exit b=>Nat.beq a b
 | .ret,.ret=>true
 |_,_=>false
def lR{b:Exit}(h:qE x b=true):x=b:=by cases x<;>cases b<;>simp only[qE]at h<;>first|rfl|cases h|exact congrArg _ (DN h)
structure Hint where
 kind:Nat
 key:Nat
 virt:List (Nat×Ty)
 virtC:List (Nat×Nat×Ty)
 kill:List Nat
 drop:List Nat
 slots:List S3
 exits:List (Exit×List S3)
def Hint.tmps(h:Hint):List Nat:=h.drop++h.virt.map (·.1)++ma h.slots++h.exits.flatMap λp=>ma p.2
def gW(kind key:Nat):List Hint->Option Hint
 |[]=>none
 |h::r=>match Nat.beq kind h.kind&&Nat.beq key h.key with|true=>some h|false=>gW kind key r
def qH:Code->Option Nat
 | .region id _ _=>some id
 | .seq a b=>match qH a with|some x=>some x|none=>qH b
 | .cond _ a b=>match qH a with|some x=>some x|none=>qH b
 | .block _ b=>qH b
 | .loop b=>qH b
 |_=>none
def ll:Code->Bool
 | .seq a _=>ll a
 | .block _ b=>ll b
 | .loop _=>true
 |_=>false
def ABl(b:Code)(r:Nat)(hs:List Hint):Option Hint:=
 match ll b with
 |true=>(match gW 5 r hs with|some h=>some h|none=>gW 0 r hs)
 |false=>gW 0 r hs
def bK(hs:List Hint):Code->Option Hint
 | .loop b=>match qH b with|some r=>ABl b r hs|none=>none
 | .block id _=>gW 1 id hs
 | .cond _ a b=>match qH (.seq a b)with|some r=>gW 2 r hs|none=>none
 | .region id _ _=>gW 6 id hs
 |_=>none
def jz(hs:List Hint)(c:Code):List Nat:=
 match bK hs c with
 |some h=>h.tmps
 |none=>[]
def ke(hs:List Hint):Code->Code->Option Hint
 | .region id _ _,.cond _ _ _=>gW 4 id hs
 |_,_=>none
def mb(hs:List Hint)(a b:Code):List Nat:=
 match ke hs a b with
 |some h=>h.tmps
 |none=>[]
def Pa(hs:List Hint):Code->List Nat
 | .region id ops d=>gU ops.toList++jz hs (.region id ops d)
 | .seq a b=>(Pa hs a++Pa hs b)++mb hs a b
 | .cond c a b=>Pa hs a++Pa hs b++jz hs (.cond c a b)
 | .block id b=>Pa hs b++jz hs (.block id b)
 | .loop b=>Pa hs b++jz hs (.loop b)
 |_=>[]
def pe:TV->Bool
 | .c (.raw .any)=>true
 |_=>false
def vt(h:pe w=false):w≠Sf:=by rintro rfl;cases h
def oo(H:Am)(id:Nat):Bool:=match H[id]? with|some (.buf false _ _ _ _)=>true|_=>false
def bi(A S:List Nat)(H:Am)(t:Nat)(v:TV):Bool:=
 match NU t A with
 |true=>false
 |false=>match pe v with
  |true=>false
  |false=>(KC v.refs).all λid=>!(NU id S&&oo H id)
def PB(A S:List Nat)(H:Am):BS->BS
 |[]=>[]
 |(t,v)::r=>match bi A S H t v with|true=>(t,v)::PB A S H r|false=>PB A S H r
def Lq(S:List Nat):Nat->Am->Am
 |_,[]=>[]
 |j,e::r=>(match NU j S with|true=>e|false=>e.lock)::Lq S (j+1) r
def jO:BS->Bool
 |[]=>true
 |(t,_)::r=>!NU t (r.map (·.1))&&jO r
theorem TN(h:N∉a):NU N a=false:=by
 cases j:NU N a with
 |false=>rfl
 |true=>induction a<;>grind[NU,Nat.eq_of_beq_eq_true]
def Wt: ∀{env:BS},jO env=true->(env.map (·.1)).Nodup
 |[],_=>O5
 |(t,v)::r,h=>by simp only[jO,BO,Us]at h;exact Ff.2 ⟨Rk h.1,Wt h.2⟩
theorem dn{A S:List Nat}{H:Am}: ∀{env:BS},(env.map (·.1)).Nodup-> ∀t,bi A S H t (env.get t)=true->(PB A S H env).get t=env.get t
 |[],_,t,_=>rfl
 |(u,v)::r,nd,t,h=>by have a:=Ff.1 nd;simp only[BS.get]at h⊢;by_cases b:u=t;grind[Nat.beq_refl,PB,BS.get];rw[beq_false b]at h⊢;have c:=dn a.2 t h;grind[PB,BS.get,beq_false]
theorem Pb{A S:List Nat}{H:Am}: ∀{env:BS},(env.map (·.1)).Nodup-> ∀p∈PB A S H env,env.get p.1=p.2/\bi A S H p.1 p.2=true/\p∈env
 |(u,v)::r,nd,p,h=>by
  have a:=Ff.1 nd;have tail:p∈PB A S H r->BS.get ((u,v)::r) p.1=p.2/\bi A S H p.1 p.2=true/\p∈(u,v)::r:=λh=>by obtain⟨q1,q2,q3⟩:=Pb a.2 p h;grind[BS.get,beq_false]
  grind[PB,BS.get,Nat.beq_refl]
theorem Ju{S:List Nat}: ∀(H:Am) (i j:Nat),(Lq S i H)[j]? =(H[j]?).map λe=>match NU (i+j) S with|true=>e|false=>e.lock
 |[],i,j=>by simp[Lq]
 |e::r,i,0=>by simp[Lq]
 |e::r,i,j+1=>by simp only[Lq,nI];rw[Ju r (i+1) j];grind
def Jv{S:List Nat}: ∀(H:Am) (i:Nat),(Lq S i H).length=H.length
 |[],_=>rfl
 |e::r,i=>by simp[Lq,Jv r]
theorem ng{S:List Nat}: ∀(H:Am) (i:Nat),A6 (Lq S i H)=A6 H
 |[],_=>rfl
 |e::r,i=>by have:=ng (S:=S) r (i+1);grind[A6,Lq,mF]
theorem mG(h:S1 b N n p y):S1 (Lq a 0 b) N n p y:=by
 refine⟨by rw[Jv];exact h.1,λro r l H f S=>?_⟩;rw[Ju]at S;cases d:b[N]? with
 |none=>grind
 |some e=>
  rw[d]at S;simp at S;split at S;subst S;exact h.2 _ _ _ _ _ d;cases e with
  |dead=>cases S
  |live c k=>cases S
  |lp=>cases S
  |mp=>cases S
  |buf c s o q u=>injection S with _ g m i j;subst g i j;exact h.2 _ _ _ _ _ d
def nh(h:D.ok b):D.ok (Lq a 0 b):=by
 cases D with
 |own id S t n=>exact mG h
 |_=>trivial
theorem gw(ok:O0 f b):O0 f (Lq a 0 b):=by
 refine⟨λp o x g=>nh (ok.env p o x g),λe m=>?_⟩;obtain⟨j,q⟩:=F8.1 m;rw[Ju]at q;cases i:b[j]? with
 |none=>grind
 |some c=>
  rw[i]at q;simp at q;have d:=ok.heap c (BJ i);have S:c.ok (Lq a 0 b):=by
   cases c with
   |dead=>trivial
   |live H k=>exact λx g=>nh (d x g)
   |buf H t l n h=>exact d
   |lp=>exact d
   |mp=>exact d
  split at q;grind;subst q;cases c with
  |dead=>trivial
  |live H k=>exact S
  |buf H t l n h=>exact S
  |lp=>exact S
  |mp=>exact S
theorem zC(H:Am):vY (Lq a 0 H) H:=by intro id c ro F n env d S b s h;rw[Ju,h];split;grind;exact⟨_,_,rfl⟩
theorem wo(H:Am):vY H (Lq a 0 H):=by
 intro id d ro F n env f S b s h;rw[Ju]at h;cases c:H[id]? with
 |none=>grind
 |some e=>
  rw[c]at h;simp at h;split at h;grind;cases e with
  |lp=>injection h with _ q2 q3 q4 q5 q6 q7 _;grind
  |_=>cases h
def fo{id a n:Nat}{t:Ty}: ∀{b:List Ba},Ba.own id a t n∈b->id∈KC b
 |x::r,h=>by rcases An.1 h with rfl|h;exact JK;have:=fo h;cases x<;>simp only[KC]<;>first|exact this|exact CC _ this
def qT(h:bi a z b N w=true)(m:w.ok b)(o:B4 (Lq z 0 b) A):gr A w:=by
 intro id p s n g;unfold bi at h;split at h;cases h;split at h;cases h;have H:=Fx.1 h id (fo g);have d:id<b.length:=(m _ g).1;refine o.nb id (by rw[Jv];exact d) λr l q i S=>?_;rw[Ju,D6]at S;cases c:b[id]? with
 |none=>rw[c]at S;cases S
 |some e=>rw[c]at S;simp only[Be,Ai]at S;split at S;rename_i k;subst S;simp only[k,oo,c]at H;cases H;cases e<;>simp only[Dl.lock]at S<;>first|cases S|(injection S with j;cases j)
theorem wk(g:NU N a=false)(i:pe w=false)(j:gr b w):bi a z b N w=true:=by
 unfold bi;rw[g,i];refine Fx.2 λid e=>?_;have: ∃d f n,Ba.own id d f n∈w.refs:=by
  generalize w.refs=cs at e;induction cs with
  |nil=>cases e
  |cons x r m=>
   cases x with
   |own l d f n=>grind[KC]
   |_=>obtain⟨A,S,c,h⟩:=m e;grind
 obtain⟨d,f,n,k⟩:=this;have:=j id d f n k;grind[oo]
def AAv:List Part->List Nat
 |[]=>[]
 | .o id::r=>id::AAv r
 |_::r=>AAv r
def fA(env:BS)(H:Am):List S3->List Nat
 |[]=>[]
 | .t tmp _::r=>KC (env.get tmp).refs++fA env H r
 | .p id ps::r=>(match H[id]? with|some (.live _ cs)=>(KC cs).filter λi=>!NU i (AAv ps)|_=>[])++fA env H r
 |_::r=>fA env H r
def po(sl:List S3)(env:BS)(H:Am):Option (DL (bX sl)):=
 match Hz (fA env H sl) env H with
 |(e,h)=>match XV e h sl with|some ds=>sQ (bX sl) ds|none=>none
def pC:List (Exit×List S3)->Type
 |[]=>Unit
 |[p]=>DL (bX p.2)
 |p::q::r=>DL (bX p.2)⊕ pC (q::r)
def sV:(xs:List (Exit×List S3))->Exit->BS->Am->Option (pC xs)
 |[],_,_,_=>none
 |[p],x,env,H=>match qE p.1 x with|true=>po p.2 env H|false=>none
 |p::q::r,x,env,H=>
  match qE p.1 x with
  |true=>(match po p.2 env H with|some s=>some (.inl s)|none=>none)
  |false=>(match sV (q::r) x env H with|some s=>some (.inr s)|none=>none)
def AA2{R:Type}:(xs:List (Exit×List S3))->pC xs->(Exit->List S3->List DV->Option R)->Option R
 |[],_,_=>none
 |[p],s,k=>k p.1 p.2 (wP (bX p.2) s)
 |p::q::r,o,k=>Sum.elim (λs=>k p.1 p.2 (wP (bX p.2) s)) (λs=>AA2 (q::r) s k) o
def pD:(xs:List (Exit×List S3))->pC xs->Exit×List S3×List DV
 |[],_=>(.normal,[],[])
 |[p],s=>(p.1,p.2,wP (bX p.2) s)
 |p::q::r,.inl s=>(p.1,p.2,wP (bX p.2) s)
 |p::q::r,.inr s=>pD (q::r) s
def nr{R:Type}: ∀{xs:List (Exit×List S3)} {o:pC xs} {k:Exit->List S3->List DV->Option R} {r:R},AA2 xs o k=some r->k (pD xs o).1 (pD xs o).2.1 (pD xs o).2.2=some r
 |[],_,_,_,h=>by cases h
 |[p],s,k,r,h=>h
 |p::q::t,.inl s,k,r,h=>h
 |p::q::t,.inr s,k,r,h=>nr (xs:=q::t) h
def yB(sl:List S3)(ds:List DV)(env:BS)(H:Am):Prop:=XV (Hz (fA env H sl) env H).1 (Hz (fA env H sl) env H).2 sl=some ds
theorem fW{s:DL (bX l)}(h:po l f b=some s):yB l (wP (bX l) s) f b:=by grind[po,yB,jN]
def nt: ∀{xs:List (Exit×List S3)} {x:Exit} {env:BS} {H:Am} {o:pC xs},sV xs x env H=some o→
  (pD xs o).1=x/\yB (pD xs o).2.1 (pD xs o).2.2 env H/\ ∃p∈xs,(pD xs o).2.1=p.2
 |[p],x,env,H,o,h=>by simp only[sV]at h;split at h;rename_i a;exact⟨lR a,fW h,p,by simp,rfl⟩;cases h
 |p::q::r,x,env,H,o,h=>by simp only[sV]at h;split at h;rename_i a;split at h;rename_i s b;injection h with h;subst h;exact⟨lR a,fW b,p,by simp,rfl⟩;cases h;split at h;rename_i s b;injection h with h;subst h;obtain⟨q1,q2,c,q3,q4⟩:=nt (xs:=q::r) b;exact⟨q1,q2,c,CC _ q3,q4⟩;cases h
structure rP(A S:List Nat)(env0:BS)(H0:Am)(e2:BS)(h2:Am):Prop where
 ok:O0 e2 h2
 step:B4 (Lq S 0 H0) h2
 len:h2.length=H0.length
 same: ∀j,NU j S=false->h2[j]? =(Lq S 0 H0)[j]?
 get: ∀p∈PB A S H0 env0,e2.get p.1=p.2
theorem tP{A B S:List Nat}{env0:BS}{a:Am}{L:BS}{s:Am}(m:O0 env0 a)(nd:(env0.map (·.1)).Nodup)(g:rP A S env0 a L s)
  {env1:BS} {d:Am} (G:O0 env1 d) (M:E5 B L s env1 d) (V: ∀t,t∈B->t∈A) {o:List S3} {K:List DV} (X:yB o K env1 d)
  {Hx:Am} (J: ∀e∈Hx,e.ok Hx) (y:Hx.length=a.length) (F:vY Hx (Lq S 0 a)) (rx: ∀id c t n,S1 a id c t n->S1 Hx id c t n) (E: ∀(j:Nat) (i:Dl),NU j (Kr o)=false->Hx[j]? =some i->i= .dead\/ ∃e,NU j S=false/\(Lq S 0 a)[j]? =some e/\e.ro=true/\AAV e i)
  {r:BS} {f:Am} (Z:UE o K (PB A S a env0) Hx=some (r,f)) (ce:mm a.length r=true) (ch:eL a.length f=true) (N:Nat):
  F3 N a.length (Br env1) (A6 d) (Br r) (A6 f)/\ ∃Q W,IS Q W o (PB A S a env0) Hx r f:=by
 obtain⟨I,z,wf⟩:=Pf (fA env1 d o) G;have u:a.length<=d.length:=by rw[<-g.len];exact M.step.len
 have b:=E5.trans g.ok.env M z;have H: ∀p∈PB A S a env0,p.2.ok Hx:=λp v x E=>by
  have:=m.env p (Pb nd p v).2.2 x E;cases x with
  |own id c t n=>exact rx _ _ _ _ this
  |_=>trivial
 have q:=NT I X Z ⟨H,J⟩ (by rw[y];exact Dp u z.step.len) (λp v=>by
  obtain⟨b1,O,P⟩:=Pb nd p v;have hk:=qT O (m.env p P) g.step;have U:NU p.1 A=false:=by grind[bi]
  have k:pe p.2=false:=by grind[bi]
  have Y:=g.get p v;have:=b.same p.1 (λh=>by rw[Dn]at h;exact Rk U (V _ h)) (by grind);rw[Y]at this;exact⟨p.2,de this (vt k),UQ.refl _⟩) (λj i hj C=>by
   have D:j<a.length:=by grind
   rcases E j i hj C with rfl|⟨e,R,s,f,T⟩;exact⟨_,Az (DB D (Dp u z.step.len)),.inl rfl⟩;exact⟨e,b.step.ro j e (by rw[g.same j R];exact s) f,T⟩) (λid l _ _ _ _ _ _ _ _ hq=>by
  obtain⟨ad,s1,q1⟩:=(g.step.trans b.step).lp id (by rw[Jv,<-y];exact l) _ _ _ _ _ _ _ _ hq;exact F id l _ _ _ _ _ _ _ _ q1)
 have w:=q.weak (N:=N) (by rw[y];exact Dp u z.step.len) (by grind) (by grind);rw[y]at w;exact⟨((wf N).of_le (by rw[CR];exact u)).trans w,_,_,q⟩
open Classical in
noncomputable def mR{α:Type}(g:List α->Unit->Option (List α))(l:List α):Option (List α):=if∀m,l.Perm m->g m ()=g l ()then g l ()else none
theorem se{g:List R->Unit->Option (List R)}{l s:List R}(h:mR g l=some s): ∀m,l.Perm m->g m ()=some s:=by grind[mR]
def pE:List Oper->Option (Nat×Nat×Nat×TypeId×TypeId)
 |[⟨some a1,.load ty1 (.tmp c0),_,_,_,none⟩,⟨some a2,.range ty2 (.tmp b1),_,_,_,none⟩]=>match Nat.beq a1 b1 with|true=>some (c0,a1,a2,ty1,ty2)|false=>none
 |_=>none
def mM:List Oper->Option (Nat×Nat×Nat)
 |[⟨some a3,.next (.tmp a2) false,_,_,_,none⟩,⟨some a4,.extract (.tmp b3) 0,_,_,_,none⟩]=>match Nat.beq a3 b3 with|true=>some (a2,a3,a4)|false=>none
 |_=>none
def mN:List Oper->Option (Nat×Nat×Nat×Nat×TypeId×TypeId)
 |[⟨some a5,.entry (.tmp a2),_,_,_,none⟩,⟨some a6,.extract (.tmp b5) 1,_,_,_,none⟩,⟨some a7,.alloc te1,_,_,_,none⟩,⟨none,.store te2 (.tmp b7) (.tmp b6),_,_,_,none⟩]=>
  match Nat.beq a5 b5&&(Nat.beq a6 b6&&Nat.beq a7 b7)with|true=>some (a2,a5,a6,a7,te1,te2)|false=>none
 |_=>none
def mO:List Oper->Option (Nat×Nat×Nat×Nat×Nat×Nat×TypeId×TypeId×TypeId)
 |[⟨some a8,.move (.tmp out),_,_,_,none⟩,⟨some a9,.load te3 (.tmp a7),_,_,_,none⟩,⟨some a10,.buildSlice ts1 1 ⟨[(0,.tmp b9)]⟩,_,_,_,none⟩,
   ⟨some a11,.call {callee:=.builtin .append,args:=⟨[.tmp b8,.tmp b10]⟩,argTypes:=⟨[ts2,ts3]⟩},_,_,_,none⟩,⟨some out2,.assign (.tmp b11),_,_,_,none⟩]=>
  match Nat.beq a8 b8&&(Nat.beq a9 b9&&(Nat.beq a10 b10&&(Nat.beq a11 b11&&(Nat.beq out out2&&Nat.beq ts2 ts3))))with|true=>some (out,a7,a8,a9,a10,a11,te3,ts1,ts2)|false=>none
 |_=>none
def pF:List Oper->Option (Nat×Nat×Nat×FuncId×FuncId)
 |[⟨some a12,.move (.tmp out),_,_,_,none⟩,⟨some a13,.call {callee:=.value (.func F),args:=⟨[.tmp b12,.func G]⟩,.. },_,_,_,none⟩]=>match Nat.beq a12 b12 with|true=>some (out,a12,a13,F,G)|false=>none
 |_=>none
def kD(h:pE e=some (N,n,y,m,K)):
  ∃l c a f d b,e=[⟨some n,.load m (.tmp N),l,c,a,none⟩,⟨some y,.range K (.tmp n),f,d,b,none⟩]:=by
 unfold pE at h;split at h;split at h<;>simp_all;cases h
def kE(h:mM e=some (N,n,y)):
  ∃l c a f d b,e=[⟨some n,.next (.tmp N) false,l,c,a,none⟩,⟨some y,.extract (.tmp n) 0,f,d,b,none⟩]:=by
 unfold mM at h;split at h;split at h<;>simp_all;cases h
def kF{a7:Nat}(h:mN e=some (N,n,y,a7,m,K)):
  ∃j p a k f b l g c o i d,e=[⟨some n,.entry (.tmp N),j,p,a,none⟩,⟨some y,.extract (.tmp n) 1,k,f,b,none⟩,⟨some a7,.alloc m,l,g,c,none⟩,⟨none,.store K (.tmp a7) (.tmp y),o,i,d,none⟩]:=by
 unfold mN at h;split at h;split at h<;>simp_all;cases h
def kG{a9 a10 a11:Nat}{ts2:TypeId}(h:mO e=some (N,n,y,a9,a10,a11,m,K,ts2)):
  ∃l f a r g b o i c p j d q k s,e=[⟨some y,.move (.tmp N),l,f,a,none⟩,⟨some a9,.load m (.tmp n),r,g,b,none⟩,⟨some a10,.buildSlice K 1 #[(0,.tmp a9)],o,i,c,none⟩,⟨some a11,.call {callee:=.builtin .append,args:= #[.tmp y,.tmp a10],argTypes:= #[ts2,ts2]},p,j,d,none⟩,⟨some N,.assign (.tmp a11),q,k,s,none⟩]:=by
 unfold mO at h;split at h;split at h<;>simp_all;cases h
def kH{G:FuncId}(h:pF e=some (N,n,y,F,G)):
  ∃f d b a g l c,e=[⟨some n,.move (.tmp N),f,d,b,none⟩,⟨some y,.call {callee:=.value (.func F),args:= #[.tmp n,.func G],argTypes:=a},g,l,c,none⟩]:=by
 unfold pF at h;split at h;split at h<;>simp_all;cases h
structure U5 where
 c0:Nat
 a1:Nat
 a2:Nat
 a3:Nat
 a4:Nat
 a5:Nat
 a6:Nat
 a7:Nat
 a8:Nat
 a9:Nat
 a10:Nat
 a11:Nat
 a12:Nat
 a13:Nat
 out:Nat
 ty1:TypeId
 ty2:TypeId
 te1:TypeId
 te2:TypeId
 te3:TypeId
 ts1:TypeId
 ts2:TypeId
 F:FuncId
 G:FuncId
def pA:List Nat->Bool
 |[]=>true
 |t::r=>!NU t r&&pA r
def kB: ∀{l:List Nat},pA l=true->l.Nodup
 |[],_=>O5
 |t::r,h=>by simp only[pA,BO,Us]at h;exact Ff.2 ⟨Rk h.1,kB h.2⟩
def gR:Code->Code->Option U5
 | .seq (.region _ o1 false) (.block b1 (.loop (.seq (.region _ o2 false) (.seq (.cond (.tmp x4) .skip (.exit b2)) (.block _ (.seq (.region _ o3 false) (.region _ o4 false))))))),.region _ o5 false=>
  match pE o1.toList,mM o2.toList,mN o3.toList,mO o4.toList,pF o5.toList with
  |some (c0,a1,a2,ty1,ty2),some (x2,a3,a4),some (y2,a5,a6,a7,te1,te2),some (out,x7,a8,a9,a10,a11,te3,ts1,ts2),some (out2,a12,a13,F,G)=>
   match (Nat.beq b1 b2&&(Nat.beq a4 x4&&(Nat.beq a2 x2&&(Nat.beq a2 y2&&(Nat.beq a7 x7&&Nat.beq out out2)))))&&pA [out,a1,a2,a3,a4,a5,a6,a7,a8,a9,a10,a11,a12,a13]with
   |true=>some ⟨c0,a1,a2,a3,a4,a5,a6,a7,a8,a9,a10,a11,a12,a13,out,ty1,ty2,te1,te2,te3,ts1,ts2,F,G⟩
   |false=>none
  |_,_,_,_,_=>none
 |_,_=>none
def U5.tmps(p:U5):List Nat:=[p.out,p.a1,p.a2,p.a3,p.a4,p.a5,p.a6,p.a7,p.a8,p.a9,p.a10,p.a11,p.a12,p.a13]
def Wn(A:List Nat):BS->BS
 |[]=>[]
 |(t,v)::r=>match NU t A with|true=>Wn A r|false=>(t,v)::Wn A r
def TG{A:List Nat}: ∀{env:BS} {q:Nat×TV},q∈Wn A env->q∈env/\q.1∉A
 |[],_,h=>by cases h
 |(t,v)::r,q,h=>by simp only[Wn]at h;split at h;exact⟨CC _ (TG h).1,(TG h).2⟩;rename_i a;rcases An.1 h with rfl|h;exact⟨JK,Rk a⟩;exact⟨CC _ (TG h).1,(TG h).2⟩
theorem ik{A:List Nat}{u:Nat}(a:u∉A): ∀env:BS,(Wn A env).get u=env.get u
 |[]=>rfl
 |(t,v)::r=>by
  simp only[Wn,BS.get];split;rename_i b;have:t≠u:=λe=>by grind[TN]
  rw[beq_false this];exact ik a r;simp[BS.get,ik a r]
noncomputable def wF(P:Program)(N:Nat)(cs:List SW)(p:U5)(env:BS)(H:Am){R:Type}(k:BS->Am->Option R):Option R:=
 match env.get p.c0,env.get p.out with
 | .c (.raw (.ptr c 0 0)),.c .nil=>
  match H[c]? with
  |some (.live _ [.raw (.mp id)])=>
   match H[id]?,jv cs p.F,Zk P p.F with
   |some (.mp _ kk ty es),some (.c2 _ te [] [] [.fn (.func G) [] []] g),true=>
    if h:(Ty.list ty).beq (Ty.list te)=true then
     match tI P p.ty1,P.underlying p.ty2,tI P p.te2,tI P p.te3,Vz P p.te1,eI P p.ts1,eI P p.ts2 with
     |some (false,_),some (.map kt _),some (_,n2),some (tr3,n3),some z,some (none,e1,s1),some (none,e2,s2)=>
      match (Nat.beq G p.G&&(te.isAgg&&(Nat.beq n2 te.sz&&(tr3&&(Nat.beq n3 te.sz&&(Nat.beq z.length te.sz&&(Nat.beq s1 te.sz&&(Nat.beq s2 te.sz&&(QG P e1&&(QG P e2&&Nat.ble te.sz 4096))))))))))&&
        ((match P.underlying kt with|some (.int k2)=>decide (k2=kk)|_=>false)&&(mm H.length (Wn p.tmps env)&&(eL H.length H&&p.tmps.all λt=>Nat.blt t N)))with
      |true=>cond (decide (((es.length:Nat):Int)≤16777216))
        ((mR g (Ty.cast h (es.map (·.2)))).bind λs=>cond (Nat.beq s.length es.length) (k ((p.out,.c (.own H.length 0 te s.length))::Wn p.tmps env) (H++[.buf false te s s.length 0,.dead])) none) none
      |false=>none
     |_,_,_,_,_,_,_=>none
    else none
   |_,_,_=>none
  |_=>none
 |_,_=>none
theorem Er{q:Nat×AV}{v:AV}(h:q∈u)(a:q.1≠N):q∈u.put N v:=CC _ (Bc.2 ⟨h,by grind⟩)
def pI:(N,i)∈u.put N i:=JK
def gp{v:AV}:Env.get ((N,v)::u) N=v:=if_pos rfl
def qJ{v:AV}(h:N≠n):Env.get ((N,v)::u) n=u.get n:=if_neg h
def bm(vals:List R)(seen:List Nat):List R:=seen.filterMap (vals[·]?)
theorem tA{b:List R}{x:R}(h:b[N]? =some x):bm b (a++[N])=bm b a++[x]:=by grind[bm]
theorem qq{b:Type}: ∀a:List b,(List.range a.length).filterMap (a[·]?)=a
 |[]=>rfl
 |x::r=>by
  rw[BV,List.range_succ_eq_map,List.filterMap_cons];simp;have:((λi=>(x::r)[i]?)∘Nat.succ)=(r[·]?):=by grind
  rw[this,qq r]
def s9{d:List R}(hn:a.Nodup)(c: ∀j∈a,j<d.length)(b: ∀j,j<d.length->j∈a):d.Perm (bm d a):=by have:=((fE List.nodup_range hn).2 λj=>⟨λh=>b j (IT.1 h),λh=>IT.2 (c j h)⟩).filterMap (d[·]?);rwa [qq]at this
section
variable {P:Program} {N:Nat} {env:Env} {H:As} {Q:Env->As->Prop} {ops:Array Oper}
def Tu.nil(h:Q env H):Tu P N ops [] env H Q:=⟨_,_,F3.refl _ _ _,h⟩
def Tu.cons(b:o.guard=none)(h:Ip P N o env H λv a=>Tu P N ops e (env.putO o.dst v) a Q):Tu P N ops (o::e) env H Q:=by refine⟨_,_,F3.refl _ _ _,?_⟩;rw[b];exact h
end
variable {s:Hint}{B:U5}
section
variable {P:Program} {N:Nat}
theorem oR(t:Ty)(l:List t.D): ∀v∈t.E.cl l,Pure v:=by intro v a;have⟨u,b,a⟩:=HX.1 a;obtain⟨y,_,rfl⟩:=Bl.1 b;exact SN (t.enc_pure y) v a
theorem xM(h:Pure i)(p:Nat->Bool):i.idsAll p=true:=PS (λ_ h=>by cases h) i h
theorem wT{p q:Nat->Bool}(h: ∀id,p id=true->q id=true)(e:EU)(k:e.idsAll p=true):e.idsAll q=true:=by cases e<;>grind[Im,EU.idsAll,List.all_eq_true,PS]
theorem AAe(t:Ty)(g:Nat)(l:List t.D)(p:Nat->Bool):(EU.live g (t.E.cl l)).idsAll p=true:=by grind[EU.idsAll,Db,xM,oR]
theorem flt{a:Type}(p q:a->Bool)(b: ∀x,q x=true->p x=true)(e:a)(d:p e=true)(f:q e=false): ∀l:List a,e∈l->(l.filter q).length<(l.filter p).length
 |x::l,he=>by
  have c: ∀l:List a,(l.filter q).length<=(l.filter p).length:=by intro l;induction l<;>grind
  rcases An.1 he with rfl|h;grind;have:=flt p q b e d f l h;grind
theorem AAC(h:z.Nodup){i j a b:Nat}(d:z[i]? =some a)(e:z[j]? =some b)(c:i≠j):a≠b:=by grind[List.getElem?_inj]
set_option maxHeartbeats 1000000 in
def ud{te:Ty}{kk:IntKind}{es:List (Int×te.D)}{Hb:As}{base:Env}{id a2 a3 a4 a5 a6 a7 a8 a9 a10 a11 out:Nat}{b1 b2:Nat}{i2 i3 i4:Nat}{o2 o3 o4:Array Oper}{te1 te2 te3 ts1 ts2:TypeId}{z:List AV}{e1 e2:TypeId}{bb:Bool}
  (h2:mM o2.toList=some (a2,a3,a4)) (h3:mN o3.toList=some (a2,a5,a6,a7,te1,te2)) (h4:mO o4.toList=some (out,a7,a8,a9,a10,a11,te3,ts1,ts2))
  (bN:[out,a2,a3,a4,a5,a6,a7,a8,a9,a10,a11].Nodup) (hN: ∀t∈[out,a2,a3,a4,a5,a6,a7,a8,a9,a10,a11],t<N) (hb: ∀q∈base,q.1∉ [out,a2,a3,a4,a5,a6,a7,a8,a9,a10,a11])
  (a0: ∀q∈base,(q.2.idsAll λj=>decide (j<Hb.length))=true) (ar: ∀e∈Hb,(e.idsAll λj=>decide (j<Hb.length))=true)
  (he:Hb[id]? =some (.mp kk (es.map λp=>(p.1,te.enc p.2)))) (ax:te.isAgg=true) (hz:Vz P te1=some z) (Z:z.length=te.sz) (b5:tI P te2=some (bb,te.sz)) (b6:tI P te3=some (true,te.sz))
  (b0:eI P ts1=some (none,e1,te.sz)) (b3:eI P ts2=some (none,e2,te.sz)) (bz:QG P e1=true) (bG:QG P e2=true) (b4:te.sz<=4096) (b7:es.length<=16777216):
  ∀(n:Nat) (seen:List Nat),seen.Nodup->(∀j∈seen,j<es.length)->((List.range es.length).filter λj=>!decide (j∈seen)).length<=n->(bm (es.map (·.2)) seen).length+((List.range es.length).filter λj=>!decide (j∈seen)).length<=es.length->
   Ls P N (.seq (.region i2 o2 false) (.seq (.cond (.tmp a4) .skip (.exit b1)) (.block b2 (.seq (.region i3 o3 false) (.region i4 o4 false)))))
    ((out,.sl Hb.length (bm (es.map (·.2)) seen).length te.sz 0 (bm (es.map (·.2)) seen).length)::(a2,.itp (Hb.length+1) id)::base)
    (Hb++[.live (bm (es.map (·.2)) seen).length (te.E.cl (bm (es.map (·.2)) seen)),.it es.length seen])
    λe E h=>e= .exit b1/\ ∃s,(es.map (·.2)).Perm s/\(∀q∈(out,AV.sl Hb.length s.length te.sz 0 s.length)::base,q∈E)/\h.length=Hb.length+2/\(∀j,j<Hb.length->h[j]? =Hb[j]?)/\h[Hb.length]? =some (.live s.length (te.E.cl s)):=by
 obtain⟨t1,p1,x1,t2,p2,x2,l2⟩:=kE h2;obtain⟨t3,p3,x3,t4,p4,x4,t5,p5,x5,t6,p6,x6,l3⟩:=kF h3;obtain⟨t7,p7,x7,t8,p8,x8,t9,p9,x9,b',b8,cb,ca,b9,cc,l4⟩:=kG h4;have D:=λ(i j a b:Nat)=>AAC (i:=i) (j:=j) (a:=a) (b:=b) bN;simp only[An,List.not_mem_nil,or_false,forall_eq_or_imp,forall_eq]at hN;have d2:Nt N o2.toList=true:=by rw[l2];simp[Nt,hN]
 have d3:Nt N o3.toList=true:=by rw[l3];simp[Nt,hN]
 have d4:Nt N o4.toList=true:=by rw[l4];simp[Nt,hN]
 have a1:id<Hb.length:=by rcases Ap id Hb.length with h|h;exact h;rw[Cs h]at he;cases he
 have s0: ∀(A B C:EU),(Hb++[A,B]).set (Hb.length+1) C=Hb++[A,C]:=λA B C=>by rw[Qx _ _ (by omega),show Hb.length+1-Hb.length=1 by omega];rfl
 have s1: ∀(A B C D:EU),(Hb++[A,B,C]).set (Hb.length+2) D=Hb++[A,B,D]:=λA B C D=>by rw[Qx _ _ (by omega),show Hb.length+2-Hb.length=2 by omega];rfl
 have s2: ∀(A B C D:EU),(Hb++[A,B,C]).set Hb.length D=Hb++[D,B,C]:=λA B C D=>by rw[Qx _ _ (Ak _),IU];rfl
 have g0: ∀(A:EU) (r:List EU),(Hb++A::r)[Hb.length]? =some A:=λA r=>by rw[Cr (Ak _),IU];rfl
 have g1: ∀(A B:EU) (r:List EU),(Hb++A::B::r)[Hb.length+1]? =some B:=λA B r=>by rw[Cr (by omega),show Hb.length+1-Hb.length=1 by omega];rfl
 have g2: ∀(A B C:EU) (r:List EU),(Hb++A::B::C::r)[Hb.length+2]? =some C:=λA B C r=>by rw[Cr (by omega),show Hb.length+2-Hb.length=2 by omega];rfl
 have gm: ∀(r:List EU),(Hb++r)[id]? =some (.mp kk (es.map λp=>(p.1,te.enc p.2))):=λr=>by rw[B6 a1];exact he
 have Y:(es.map (·.2)).length=es.length:=Dc _;have J:0<te.sz:=te.sz_pos;intro n;induction n using Nat.strongRecOn with
 |ind n ih=>
  intro seen hn hl hr hm;obtain⟨L,hL⟩: ∃L,L=bm (es.map (·.2)) seen:=⟨_,rfl⟩
  rw[<-hL]at hm⊢;refine Q4 (Lr.seq (FX d2 ?_));rw[l2];apply Tu.cons rfl;have d:(es.map λp=>(p.1,te.enc p.2)).length=es.length:=Dc _;have ad:out≠a2:=D 0 1 _ _ rfl rfl (by decide);refine Ip.next (x:=.tmp a2) (id:=Hb.length+1) (m:=id) (k:=kk) (es:=es.map λp=>(p.1,te.enc p.2)) (seen:=seen) rfl ?_ ?_ (gm _) ?_ ?_
  show Env.get _ a2=_;rw[qJ ad,gp];rw[d];exact g1 _ _ _;intro G;refine Tu.cons rfl (DY (v:=.bool false) ?_ (Tu.nil ?_));show CQ _ _ _ (.extract (.tmp a3) 0)=_;simp only[CQ,BA,Env.putO,F6,if_true];rfl;refine Lr.seq (Lr.cond (b:=false) ?_ (λh=>by cases h) (λ_=>Lr.exit ?_));simp only[BA,Env.putO,F6,if_true];refine⟨rfl,L,?_,λq o=>?_,by simp,λj hj=>B6 hj,g0 _ _⟩;rw[hL];exact s9 hn (by rw[Y];exact hl) (by rw[Y];rw[d]at G;exact G);have al:out≠a3:=D 0 2 _ _ rfl rfl (by decide);have ap:out≠a4:=D 0 3 _ _ rfl rfl (by decide);rcases An.1 o with rfl|o;exact Er (Er JK al) ap;have:=hb q o;simp only[An,not_or]at this;exact Er (Er (CC _ (CC _ o)) this.2.2.1) this.2.2.2.1;intro j p hj S;rw[CL]at hj;obtain⟨q,o,e⟩:=Zt.1 hj;subst e;rw[d,s0];refine Tu.cons rfl (DY (v:=.bool true) ?_ (Tu.nil ?_));show CQ _ _ _ (.extract (.tmp a3) 0)=_;simp only[CQ,BA,Env.putO,F6,if_true];rfl;have k2: ∀(m:Nat) (v w:AV),Env.get (Env.put (Env.put ((out,AV.sl Hb.length m te.sz 0 m)::(a2,AV.itp (Hb.length+1) id)::base) a3 v) a4 w) a2= .itp (Hb.length+1) id:=λm v w=>by rw[F6,if_neg (D 1 3 _ _ rfl rfl (by decide)),F6,if_neg (D 1 2 _ _ rfl rfl (by decide)),qJ ad,gp]
  have ko: ∀(m:Nat) (v w:AV),Env.get (Env.put (Env.put ((out,AV.sl Hb.length m te.sz 0 m)::(a2,AV.itp (Hb.length+1) id)::base) a3 v) a4 w) out= .sl Hb.length m te.sz 0 m:=λm v w=>by rw[F6,if_neg (D 0 3 _ _ rfl rfl (by decide)),F6,if_neg (D 0 2 _ _ rfl rfl (by decide)),gp]
  have kb: ∀(m:Nat) (v w:AV),∀q∈base,q∈Env.put (Env.put ((out,AV.sl Hb.length m te.sz 0 m)::(a2,AV.itp (Hb.length+1) id)::base) a3 v) a4 w:=λm v w q o=>by have:=hb q o;simp only[An,not_or]at this;exact Er (Er (CC _ (CC _ o)) this.2.2.1) this.2.2.2.1
  have ki: ∀(m:Nat) (v w:AV),(a2,AV.itp (Hb.length+1) id)∈Env.put (Env.put ((out,AV.sl Hb.length m te.sz 0 m)::(a2,AV.itp (Hb.length+1) id)::base) a3 v) a4 w:=λm v w=>Er (Er (CC _ JK) (D 1 2 _ _ rfl rfl (by decide))) (D 1 3 _ _ rfl rfl (by decide));refine Lr.seq (Lr.cond (b:=true) ?_ (λ_=>Lr.skip ?_) (λh=>by cases h));simp only[BA,Env.putO,F6,if_true];dsimp only[oH];refine Lr.block (Lr.seq (FX d3 ?_));rw[l3];generalize K:Env.putO (Env.putO ((out,AV.sl Hb.length L.length te.sz 0 L.length)::(a2,AV.itp (Hb.length+1) id)::base) (some a3) (.tup [.bool true,.int kk q.1,te.enc q.2])) (some a4) (.bool true)=E;have k2:Env.get E a2= .itp (Hb.length+1) id:=by rw[<-K];exact k2 _ _ _
  have ko:Env.get E out= .sl Hb.length L.length te.sz 0 L.length:=by rw[<-K];exact ko _ _ _
  have kb: ∀q∈base,q∈E:=by rw[<-K];exact kb _ _ _
  have ki:(a2,AV.itp (Hb.length+1) id)∈E:=by rw[<-K];exact ki _ _ _
  clear K;refine Tu.cons rfl (Ip.entry (x:=.tmp a2) (id:=Hb.length+1) (m:=id) (j:=j) (k:=kk) (es:=es.map λp=>(p.1,te.enc p.2)) (seen:=seen) (p:=(q.1,te.enc q.2)) rfl k2 ?_ (gm _) (by rw[CL,o];rfl) ?_);rw[d];exact g1 _ _ _;have f:te.enc q.2= .agg (te.enc q.2).cells:=Ty.agg_enc ax q.2;have l:(te.enc q.2).cells.length=te.sz:=te.enc_len q.2;have U:(te.enc q.2).solid=true:=by rw[f];rfl
  refine Tu.cons rfl (DY (v:=te.enc q.2) ?_ (Tu.cons rfl (Ip.alloc rfl hz ?_)));show CQ _ _ _ (.extract (.tmp a5) 1)=_;simp only[CQ,BA,Env.putO,F6,if_true];rfl;have a':(Hb++[EU.live L.length (te.E.cl L),EU.it es.length (seen++[j])]).length=Hb.length+2:=by simp
  rw[a',Ax];show Tu P N o3 _ _ (Hb++[EU.live L.length (te.E.cl L),EU.it es.length (seen++[j]),EU.live 0 z]) _;refine Tu.cons rfl (Ip.store (id:=Hb.length+2) (g:=0) (off:=0) (v:=te.enc q.2) (cs:=z) (b:=bb) rfl ?_ ?_ U (g2 _ _ _ _) (by rw[l];exact b5) (by rw[l,Z];omega) (Tu.nil ?_));simp only[BA,Env.putO,F6,if_true];simp only[BA,Env.putO,F6];rw[if_neg (D 5 6 _ _ rfl rfl (by decide)),if_pos trivial];have T:Tr z 0 (te.enc q.2).cells=(te.enc q.2).cells:=by unfold Tr;rw[List.take_zero,CD,l,<-Z,D6,List.drop_length,Dn]
  rw[T,s1];simp only[Env.putO];generalize F:Env.put (Env.put (Env.put E a5 (.tup [.int kk q.1,te.enc q.2])) a6 (te.enc q.2)) a7 (.ptr (Hb.length+2) 0 0)=E1;have j7:Env.get E1 a7= .ptr (Hb.length+2) 0 0:=by rw[<-F,F6,if_pos rfl]
  have jo:Env.get E1 out= .sl Hb.length L.length te.sz 0 L.length:=by rw[<-F,F6,if_neg (D 0 6 _ _ rfl rfl (by decide)),F6,if_neg (D 0 5 _ _ rfl rfl (by decide)),F6,if_neg (D 0 4 _ _ rfl rfl (by decide)),ko]
  have jb: ∀q∈base,q∈E1:=λu I=>by have:=hb u I;simp only[An,not_or]at this;rw[<-F];exact Er (Er (Er (kb u I) this.2.2.2.2.1) this.2.2.2.2.2.1) this.2.2.2.2.2.2.1
  have ji:(a2,AV.itp (Hb.length+1) id)∈E1:=by rw[<-F];exact Er (Er (Er ki (D 1 4 _ _ rfl rfl (by decide))) (D 1 5 _ _ rfl rfl (by decide))) (D 1 6 _ _ rfl rfl (by decide))
  clear F;apply FX d4;rw[l4];refine Tu.cons rfl (DY (v:=.sl Hb.length L.length te.sz 0 L.length) (congrArg some jo) (Tu.cons rfl (DY (v:=te.enc q.2) ?_ (Tu.cons rfl (Sn (sz:=te.sz) (vs:=[te.enc q.2]) rfl ?_ (Tu.cons rfl ?_))))));show bj P te3 _ (BA _ (.tmp a7))=_;simp only[BA,Env.putO,F6];rw[if_neg (D 6 7 _ _ rfl rfl (by decide)),j7];simp only[bj,b6,Og,g2];rw[if_pos ⟨trivial,by rw[l];omega⟩,iN,<-l,List.take_length];exact congrArg some f.symm;simp only[Qo,b0];rw[if_pos];simp only[BA,Env.putO,F6,if_true,BZ,HV];refine⟨J,bz,rfl,?_,by decide,b4⟩;simp only[BA,Env.putO,F6,if_true,BZ,HV,iI,iJ,U,l,decide_true,PY];have R:j<es.length:=by rcases Ap j es.length with h|h;exact h;rw[Cs h]at o;cases o
  have bt:((List.range es.length).filter λi=>!decide (i∈seen++[j])).length<((List.range es.length).filter λi=>!decide (i∈seen)).length:=flt (λi=>!decide (i∈seen)) (λi=>!decide (i∈seen++[j])) (λx f=>by simp at f⊢;exact f.1) j (by simpa using S) (by simp) _ (IT.2 R);have O:bm (es.map (·.2)) (seen++[j])=L++[q.2]:=by rw[hL];exact tA (by rw[CL,o];rfl)
  refine QF (sx:=.tmp a8) (xx:=.tmp a10) (t:=ts2) (e:=e2) (id:=Hb.length) (g:=L.length) (g':=L.length+1) (n:=L.length) (sz:=te.sz) (m:=1) (cs:=te.E.cl L) (news:=(te.enc q.2).cells) rfl b3 J bG ?_ (g0 _ _) (te.E.clen L) ?_ (by omega) (.inl (by omega)) ?_;show Env.get _ a8=_;simp only[Env.putO,F6];rw[if_neg (D 7 9 _ _ rfl rfl (by decide)),if_neg (D 7 8 _ _ rfl rfl (by decide)),if_pos trivial];simp only[BA,Env.putO,F6,if_true,Mn,BV,Bt,I0,iQ,Dn];rw[s2];refine Tu.cons rfl (DY (v:=.sl Hb.length (L.length+1) te.sz 0 (L.length+1)) ?_ (Tu.nil ?_));show some (Env.get _ a11)=_;simp only[Env.putO,F6,if_true];have Q:te.E.cl L++(te.enc q.2).cells=te.E.cl (L++[q.2]):=by simp[SX.cl];rfl
  rw[Q];have bl:(L++[q.2]).length=L.length+1:=by simp
  show∃env2 H2,F3 N _ _ _ env2 H2/\_;refine⟨_,_,?_,ih _ (DB bt hr) (seen++[j]) ?_ ?_ (Ak _) (by rw[O];omega)⟩;rw[O,bl];generalize M:Env.putO _ (some out) _=E3;have V: ∀u∈(out,AV.sl Hb.length (L.length+1) te.sz 0 (L.length+1))::(a2,AV.itp (Hb.length+1) id)::base,u∈E3:=by intro u I;rw[<-M];simp only[Env.putO];rcases An.1 I with rfl|I;exact pI;rcases An.1 I with rfl|I;exact Er (Er (Er (Er (Er ji (D 1 7 _ _ rfl rfl (by decide))) (D 1 8 _ _ rfl rfl (by decide))) (D 1 9 _ _ rfl rfl (by decide))) (D 1 10 _ _ rfl rfl (by decide))) (D 1 0 _ _ rfl rfl (by decide));have:=hb u I;simp only[An,not_or]at this;exact Er (Er (Er (Er (Er (jb u I) this.2.2.2.2.2.2.2.1) this.2.2.2.2.2.2.2.2.1) this.2.2.2.2.2.2.2.2.2.1) this.2.2.2.2.2.2.2.2.2.2.1) this.1
  clear M;have w1:=F3.subset (N:=N) (H:=Hb++[EU.live (L.length+1) (te.E.cl (L++[q.2])),EU.it es.length (seen++[j]),EU.live 0 (te.enc q.2).cells]) V;have W:(Hb++[EU.live (L.length+1) (te.E.cl (L++[q.2])),EU.it es.length (seen++[j]),EU.live 0 (te.enc q.2).cells]).take (Hb.length+2)=Hb++[EU.live (L.length+1) (te.E.cl (L++[q.2])),EU.it es.length (seen++[j])]:=by rw[fG,Cb (by omega),show Hb.length+2-Hb.length=2 by omega];rfl
  have w2:=F3.cut (N:=N) (n0:=Hb.length+2) (env:=(out,AV.sl Hb.length (L.length+1) te.sz 0 (L.length+1))::(a2,AV.itp (Hb.length+1) id)::base) (H:=Hb++[EU.live (L.length+1) (te.E.cl (L++[q.2])),EU.it es.length (seen++[j]),EU.live 0 (te.enc q.2).cells]) (by simp) (λt v X=>by
   rcases An.1 X with e|X;injection e with _ e;subst e;exact decide_eq_true (by omega);rcases An.1 X with e|X;injection e with _ e;subst e;simp only[AV.idsAll,BO,decide_eq_true_eq];omega;exact PS (λi hi=>decide_eq_true (by have:=of_decide_eq_true hi;omega)) v (a0 _ X)) (by
   rw[W];intro e c;rcases Ar.1 c with c|c;exact wT (λi hi=>decide_eq_true (by have:=of_decide_eq_true hi;omega)) e (ar e c);rcases An.1 c with rfl|c;exact AAe te _ _ _;simp only[A3]at c;subst c;rfl)
  rw[W]at w2;have bd:(Hb++[EU.live L.length (te.E.cl L),EU.it es.length seen]).length=Hb.length+2:=by simp
  rw[bd];exact(w1.of_le (by simp)).trans w2;refine O4.2 ⟨hn,by simp,λx f y hy=>?_⟩;simp only[A3]at hy;subst hy;rintro rfl;exact S f;intro x f;rcases Ar.1 f with f|f;exact hl x f;simp only[A3]at f;subst f;exact R
def gS(h:gR d G=some B): ∃x k i y l r z n A o m q,
  d= .seq (.region x k false) (.block i (.loop (.seq (.region y l false) (.seq (.cond (.tmp B.a4) .skip (.exit i)) (.block r (.seq (.region z n false) (.region A o false)))))))/\G= .region m q false/\
  pE k.toList=some (B.c0,B.a1,B.a2,B.ty1,B.ty2)/\mM l.toList=some (B.a2,B.a3,B.a4)/\mN n.toList=some (B.a2,B.a5,B.a6,B.a7,B.te1,B.te2)/\
  mO o.toList=some (B.out,B.a7,B.a8,B.a9,B.a10,B.a11,B.te3,B.ts1,B.ts2)/\pF q.toList=some (B.out,B.a12,B.a13,B.F,B.G)/\B.tmps.Nodup:=by
 unfold gR at h;split at h;split at h;rename_i s t u v w;split at h;rename_i j;simp only[BO]at j;have⟨⟨b,c,a,e,f,g⟩,hn⟩:=j;have b:=DN b;have c:=DN c;have a:=DN a;have e:=DN e;have f:=DN f;have g:=DN g;subst b c a e f g;cases h;exact⟨_,_,_,_,_,_,_,_,_,_,_,_,rfl,rfl,s,t,u,v,w,kB hn⟩;cases h;cases h;cases h
set_option maxHeartbeats 1000000 in
def wG{cs:List SW}(cv: ∀c∈cs,c.Ok P){a m:Code}{p:U5}(hp:gR a m=some p){env:BS}{H:Am}{R:Type}{k:BS→Am→Option R}{r:R}(ok:O0 env H)(o:wF P N cs p env H k=some r):
  ∃A H',Lr P N a (Br env) (A6 H) (oH (λE h=>Lr P N m E h (VN .normal (Br A) (A6 H'))) (λ_ _ _=>False))/\k A H'=some r/\O0 A H'/\E5 p.tmps env H A H':=by
 obtain⟨i1,o1,T,i2,o2,J,i3,o3,i4,o4,i5,o5,rfl,rfl,p1,p2,p3,p4,p5,b4⟩:=gS hp;unfold wF at o;split at o;rename_i c cm b5;split at o;rename_i ro id hc;split at o;rename_i c' kk n I F te G g a' hF hE;split at o;rename_i c4;split at o;rename_i y1 kt et b' n2 df n3 z e1 s1 e2 s2 t1 t2 t3 t4 t5 t6 t7;split at o;rename_i hb;have c5:n=te:=by have:=Ty.beq_eq _ _ c4;injection this
 subst c5;simp only[BO]at hb;obtain⟨⟨bG,b9,V,ce,W,bz,Y,Z,cc,cd,ad⟩,U,ca,cb,bN⟩:=hb;have bG:=DN bG;have V:=DN V;have W:=DN W;have bz:=DN bz;have Y:=DN Y;have Z:=DN Z;have ad:=Nn ad;subst V W Y Z ce;have c9:P.underlying kt=some (.int kk):=by split at U;rename_i k2 e;rw[e,of_decide_eq_true U];cases U
 cases ap:decide (((I.length:Nat):Int)<=16777216)with
 |false=>rw[ap]at o;cases o
 |true=>
  have bt:I.length<=16777216:=by have:=of_decide_eq_true ap;omega
  rw[ap]at o;obtain⟨s,hs,o⟩:=Dq.1 (show Option.bind _ _=some r from o);have hs:=se hs;cases L:Nat.beq s.length I.length with
  |false=>rw[L]at o;cases o
  |true=>
   rw[L]at o;have o:k ((p.out,.c (.own H.length 0 n s.length))::Wn p.tmps env) (H++[.buf false n s s.length 0,.dead])=some r:=o;have L:=DN L;obtain⟨ds,q1,x1,d0,q2,x2,l1⟩:=kD p1;obtain⟨d2,q3,x3,c6,d3,q4,x4,l5⟩:=kH p5;have D:=λ(i j a b:Nat)=>AAC (i:=i) (j:=j) (a:=a) (b:=b) b4;have hN: ∀t∈p.tmps,t<N:=λt ht=>Nn (Fx.1 bN t ht);have d1:Nt N o1.toList=true:=by rw[l1];simp[Nt,iI,iJ,OT,BO,decide_eq_true_eq];exact⟨hN _ (by simp[U5.tmps]),hN _ (by simp[U5.tmps])⟩
   have d5:Nt N o5.toList=true:=by rw[l5];simp[Nt,iI,iJ,OT,BO,decide_eq_true_eq];exact⟨hN _ (by simp[U5.tmps]),hN _ (by simp[U5.tmps])⟩
   have M:(Br env).get p.out= .nils:=by rw[R0,b5];rfl
   have al:(Br env).get p.c0= .ptr c 0 0:=by rw[R0,cm];rfl
   have ct:p.c0≠p.out:=λe=>by rw[e,M]at al;cases al
   have co:c<H.length:=Gu hc;have bd:id<H.length:=Gu a';have d:(A6 H).length=H.length:=CR H;have cf:(A6 H)[c]? =some (.live 0 [.mp id]):=by rw[FA,hc];rfl
   have O:(A6 H)[id]? =some (.mp kk (I.map λp=>(p.1,n.enc p.2))):=by rw[FA,a'];rfl
   have x: ∀q∈Br (Wn p.tmps env),q∈Br env/\q.1∉p.tmps:=λq y=>by obtain⟨u,hu,rfl⟩:=Bl.1 y;exact⟨Bl.2 ⟨u,(TG hu).1,rfl⟩,(TG hu).2⟩
   have ci: ∀q∈Br (Wn p.tmps env),(q.2.idsAll λj=>decide (j<(A6 H).length))=true:=λq y=>by obtain⟨u,hu,rfl⟩:=Bl.1 y;rw[d];exact aU (dr ca u hu)
   have ch: ∀e∈A6 H,(e.idsAll λj=>decide (j<(A6 H).length))=true:=by rw[d];exact dt cb
   have step:B4 H (H++[.buf false n s s.length 0,.dead]):=by have:=(B4.push H (.buf false n s s.length 0)).trans (B4.push _ .dead);rwa [Ax]at this
   have b6:(Ba.own H.length 0 n s.length).ok (H++[.buf false n s s.length 0,.dead]):=by apply U1 (b:=false) (l:=s);rw[Cr (Ak _),IU];rfl
   refine⟨(p.out,.c (.own H.length 0 n s.length))::Wn p.tmps env,H++[.buf false n s s.length 0,.dead],?_,o,⟨λq y=>?_,?_⟩,step,λu hu _=>?_⟩;refine Lr.weak (F3.virt (t:=p.out) (sz:=n.sz) M) (Lr.seq (FX d1 ?_));rw[l1];have c3:CQ P ((Br env).put p.out (.sl (A6 H).length 0 n.sz 0 0)) (A6 H++[.live 0 []]) (.load p.ty1 (.tmp p.c0))=some (.mp id):=by simp[CQ,BA,F6];rw[if_neg ct,al];simp[bj,t1,Og];rw[B6 (by rw[d];exact co),cf];rfl
   have bl:(A6 H++[EU.live 0 []])[id]? =some (.mp kk (I.map λp=>(p.1,n.enc p.2))):=by rw[B6 (by rw[d];exact bd),O]
   refine Tu.cons rfl (DY c3 (Tu.cons rfl (Ip.range (id:=id) (k:=kk) (es:=I.map λp=>(p.1,n.enc p.2)) rfl ?_ t2 bl (Tu.nil ?_))));simp[BA,Env.putO,F6,if_true];rw[Dc,Ag,Ax];dsimp[oH,Env.putO];refine Lr.block (Lr.of_loopW ?_);have a0:[p.out,p.a2,p.a3,p.a4,p.a5,p.a6,p.a7,p.a8,p.a9,p.a10,p.a11].Sublist p.tmps:=.cons₂ _ (.cons _ (.cons₂ _ (.cons₂ _ (.cons₂ _ (.cons₂ _ (.cons₂ _ (.cons₂ _ (.cons₂ _ (.cons₂ _ (.cons₂ _ (.cons₂ _ (.cons _ (.cons _ .slnil)))))))))))));have b8:=ud (P:=P) (N:=N) (te:=n) (kk:=kk) (es:=I) (Hb:=A6 H) (base:=Br (Wn p.tmps env)) (id:=id) (out:=p.out) (a2:=p.a2) (a3:=p.a3) (a4:=p.a4) (a5:=p.a5) (a6:=p.a6) (a7:=p.a7) (a8:=p.a8) (a9:=p.a9) (a10:=p.a10) (a11:=p.a11)
    (b1:=T) (b2:=J) (i2:=i2) (i3:=i3) (i4:=i4) (bb:=b') p2 p3 p4 ?_ ?_ ?_ ci ch O b9 t5 bz t3 t4 t6 t7 cc cd ad bt I.length [] O5 (λj B=>by cases B) (by simpa using List.length_filter_le _ (List.range I.length)) (by have:=LC (λj=>!decide (j∈([]:List Nat))) (List.range I.length);simpa[bm]using this)
   refine Ls.mono (Ls.weak ?_ b8) ?_;refine F3.subset (N:=N) (H:=A6 H++[EU.live 0 [],EU.it I.length []]) λq y=>?_;rcases An.1 y with rfl|y;exact Er (Er pI (D 0 1 _ _ rfl rfl (by decide))) (D 0 2 _ _ rfl rfl (by decide));rcases An.1 y with rfl|y;exact pI;obtain⟨T,J⟩:=x q y;simp[U5.tmps,An,not_or]at J;exact Er (Er (Er T J.1) J.2.1) J.2.2.1;rintro e E h ⟨rfl,C,K,b7,Q,ax,ar⟩;show iV T _ (.exit T) E h;simp[iV,if_true,oH];refine Lr.weak (F3.subset b7) (Lr.after (FX d5 ?_));rw[l5];obtain⟨b3,hf⟩:=fa hF;have a1:s.length=C.length:=by rw[L,<-K.length_eq,Dc]
   have hA:=cv _ b3 C () s (hs C K) a1 h (A6 H).length ar;simp[SW.f]at hf;rw[hf]at hA;refine Tu.cons rfl (DY (v:=.sl (A6 H).length C.length n.sz 0 C.length) (congrArg some gp) (Tu.cons rfl (Ip.mono (gy (F:=p.F) (vs:=[.sl (A6 H).length C.length n.sz 0 C.length,.fn (.func G) [] []]) ?_ hE hA) ?_)));show some (Sum.inl (p.F,[]++[Env.get _ p.a12,AV.fn (.func p.G) [] []]++[]))=_;simp only[Env.putO,F6,if_true,bG];rfl;rintro _ _ ⟨rfl,rfl⟩;refine Tu.nil ⟨_,_,?_,rfl,rfl,rfl⟩;have c2:(h.set (A6 H).length (.live C.length (n.E.cl s))).length=h.length:=by simp
   rw[<-c2];refine TW (by simp[A6];rw[Q,d]) λX g' w _=>?_;have hr:Rn (cx X g' (h.set (A6 H).length (.live C.length (n.E.cl s))) w) (cx X g' (h.set (A6 H).length (.live C.length (n.E.cl s))) w) (h.set (A6 H).length (.live C.length (n.E.cl s))) (A6 (H++[.buf false n s s.length 0,.dead])):=by
    refine⟨by simp[A6];rw[Q,d],λj e' B=>?_⟩;have same:(h.set (A6 H).length (.live C.length (n.E.cl s)))[j]? =some e'->e'= .dead\/_:=λhh=>(Rn.refl (cx X g' (h.set (A6 H).length (.live C.length (n.E.cl s))) w) (h.set (A6 H).length (.live C.length (n.E.cl s)))).2 j e' hh;have c1:A6 (H++[.buf false n s s.length 0,.dead])=A6 H++[EU.live s.length (n.E.cl s),EU.dead]:=by simp[A6,Dl.enc]
    rw[c1]at B;rcases O7 j (A6 H).length with b0|rfl|c8;rw[B6 b0]at B;exact same (by rw[D3 (by omega),ax j b0];exact B);rw[Cr (Ak _),IU]at B;exact same (by rw[G8 (by omega),<-a1];exact B);rw[Cr (by omega)]at B;rcases O7 (j-(A6 H).length) 1 with q|q|q;omega;rw[q]at B;injection B with B;exact .inl B.symm;rw[Cs (by simp;omega)]at B;cases B
   refine⟨hr.onto,λt v' S=>⟨v',?_,λc r=>r.later hr.later⟩⟩;simp[Env.putO];have S:(t,v')∈(p.out,AV.sl (A6 H).length s.length n.sz 0 s.length)::Br (Wn p.tmps env):=by rw[d];exact S
   rcases An.1 S with e|S;cases e;rw[a1];exact Er (Er JK (D 0 12 _ _ rfl rfl (by decide))) (D 0 13 _ _ rfl rfl (by decide));obtain⟨T,J⟩:=x _ S;simp only[U5.tmps,An,not_or]at J;exact Er (Er (CC _ S) J.2.2.2.2.2.2.2.2.2.2.2.2.1) J.2.2.2.2.2.2.2.2.2.2.2.2.2.1;exact b4.sublist a0;exact λt ht=>hN t (a0.subset ht);exact λq y S=>(x q y).2 (a0.subset S);rcases An.1 y with rfl|y;exact JR b6;exact step.tv (ok.env q (TG y).1);intro e he;rcases Ar.1 he with he|he;exact step.ent (ok.heap e he);simp[An,List.not_mem_nil,or_false]at he;rcases he with rfl|rfl;rfl;trivial;show BS.get _ u=_;have:p.out≠u:=λe=>hu (by rw[<-e];simp[U5.tmps]);simp[BS.get,beq_false this];exact ik hu env
 cases o;cases o;cases o;cases o;cases o;cases o
end
abbrev Sem:= ∀{R:Type},BS->Am->(Exit->BS->Am->Option R)->Option R
def iB:List (Nat×Ty)->BS->Am->Option (BS×Am)
 |[],env,H=>some (env,H)
 |(t,ty)::r,env,H=>
  match env.get t with
  | .c .nil=>iB r (env.put t (.c (.own H.length 0 ty 0))) (H++[.buf false ty [] 0 0])
  |_=>none
def lP:Nat->List Ba->Option (List Ba×List Ba)
 |0,.nil::r=>some ([],r)
 |n+1,x::r=>match lP n r with|some (a,b)=>some (x::a,b)|none=>none
 |_,_=>none
def dh:List (Nat×Nat×Ty)->Am->Option Am
 |[],H=>some H
 |(b,i,ty)::r,H=>
  match H[b]? with
  |some (.live false cs)=>
   match lP i cs with
   |some (x,y)=>dh r (H.set b (.live false (x++ .own H.length 0 ty 0::y))++[.buf false ty [] 0 0])
   |none=>none
  |_=>none
def zR(h:Hint)(env:BS)(H:Am):Option (BS×Am):=
 match iB h.virt env H with
 |some (e,H1)=>match dh h.virtC H1 with|some H2=>some (e,H2)|none=>none
 |none=>none
def zH(h:Hint)(n:Nat)(eb:BS)(H0:Am)(S:List Nat)(k:Exit->BS->Am->Option R)(o:pC h.exits):Option R:=
 AA2 h.exits o λx sl ds=>
  match UE sl ds eb H0 with
  |some (e,hh)=>match mm n e&&(eL n hh&&S.all λj=>NU j (Kr sl))with|true=>k x e hh|false=>none
  |none=>none
def wh(h:Hint)(A:List Nat)(run:Sem):Sem:=λenv H k=>
 match zR h env H with
 |none=>none
 |some (env0,H0)=>
  match jO env0 with
  |false=>none
  |true=>(run env0 (Lq (Kr h.slots) 0 H0) λx e1 h1=>sV h.exits x e1 h1).bind λo=>zH h H0.length (PB A (Kr h.slots) H0 env0) H0 (Kr h.slots) k o
def tk(h:Hint)(x:Exit)(env:BS)(H:Am):Option (Step (DL (bX h.slots)) (pC h.exits)):=
 match qE .normal x with
 |true=>match po h.slots env H with|some s=>some (.next s)|none=>none
 |false=>match sV h.exits x env H with|some o=>some (.done o)|none=>none
noncomputable def wq(h:Hint)(A:List Nat)(run:Sem):Sem:=λenv H k=>
 match zR h env H with
 |none=>none
 |some (env1,H1)=>
  match Hz (h.kill++fA env1 H1 h.slots) env1 H1 with
  |(env0,H0)=>
   match jO env0,XV env0 H0 h.slots with
   |true,some ds=>
    match sQ (bX h.slots) ds with
    |some s0=>(Ad (λs=>
      match UE h.slots (wP (bX h.slots) s) (PB A (Kr h.slots) H0 env0) (Lq (Kr h.slots) 0 H0)with
      |some (e,hh)=>match mm H0.length e&&eL H0.length hh with|true=>run e hh λx e1 h1=>tk h x e1 h1|false=>none
      |none=>none) s0).bind λo=>zH h H0.length (PB A (Kr h.slots) H0 env0) H0 (Kr h.slots) k o
    |none=>none
   |_,_=>none
def tV(c:Operand)(ra rb:Sem):Sem:=λenv H k=>
 match Ir env c with
 | .c (.bl v)=>cond v (ra env H k) (rb env H k)
 |_=>none
def rZ(id:Nat)(r:Sem):Sem:=λenv H k=>r env H λe env' H'=>
 match e with
 | .exit id'=>match Nat.beq id' id with|true=>k .normal env' H'|false=>k (.exit id') env' H'
 |e=>k e env' H'
def nY(o:Option Hint)(A:List Nat)(run:Sem):Sem:=
 match o with
 |some h=>wh h A run
 |none=>run
noncomputable def z7(o:Option Hint)(A:List Nat)(run:Sem):Sem:=
 match o with
 |some h=>wq h A run
 |none=>λ_ _ _=>none
def bO:BS->BS
 |[]=>[]
 |(t,v)::r=>match KC v.refs with|[]=>(t,v)::bO r|_=>bO r
def sj(P:Program)(call:Q9)(N:Nat)(me:FuncId)(f:Operand)(ps:Array Tmp)(a b:Code):Sem:=λenv H k=>
 match Ir env f with
 | .c (.raw (.fn (.func G) first caps))=>
  match Zk P G with
  |true=>call (.fn G) (first.map vc++[.c (.raw (.yf H.length))]++caps.map vc) (H++[.lp false me N (bO env) ps a b .ready]) λ_ H'=>
   match H'[H.length]? with
   |some (.lp false _ _ _ _ _ _ .ready)=>k .normal env (H'.set H.length .dead)
   |some (.lp false _ _ _ _ _ _ .ret)=>k .ret env (H'.set H.length .dead)
   |some (.lp false _ _ _ _ _ _ (.exit x))=>k (.exit x) env (H'.set H.length .dead)
   |_=>none
  |false=>none
 |_=>none
noncomputable def gA(P:Program)(cs:List SW)(call:Q9)(N:Nat)(me:FuncId)(hs:List Hint):Code->Sem
 | .skip=>λenv H k=>k .normal env H
 | .ret=>λenv H k=>k .ret env H
 | .exit id=>λenv H k=>k (.exit id) env H
 | .seq a (.seq m r)=>λenv H k=>
  match gR a m with
  |some p=>wF P N cs p env H λenv' H'=>gA P cs call N me hs r env' H' k
  |none=>gA P cs call N me hs a env H λe env' H'=>match e with| .normal=>gA P cs call N me hs (.seq m r) env' H' k|e=>k e env' H'
 | .seq a b=>nY (ke hs a b) (Pa hs (.seq a b)) λenv H k=>gA P cs call N me hs a env H λe env' H'=>match e with| .normal=>gA P cs call N me hs b env' H' k|e=>k e env' H'
 | .cond c a b=>nY (bK hs (.cond c a b)) (Pa hs (.cond c a b)) (tV c (gA P cs call N me hs a) (gA P cs call N me hs b))
 | .block id b=>nY (bK hs (.block id b)) (Pa hs (.block id b)) (rZ id (gA P cs call N me hs b))
 | .loop b=>z7 (bK hs (.loop b)) (Pa hs (.loop b)) (gA P cs call N me hs b)
 | .region id ops false=>nY (bK hs (.region id ops false)) (Pa hs (.region id ops false)) λenv H k=>
  match Nt N ops.toList with
  |true=>qw P cs call ops (guards ops) false ops.toList 0 env H λenv' H'=>k .normal env' H'
  |false=>none
 | .region id ops true=>λenv H k=>
  match P.follows .mixedOrders&&uK ops N (sg ops)&&TU P ops&&jO env with
  |true=>s8 P cs call ops (Hw ops.toList []) (guards ops) (match gW 3 id hs with|some _=>true|none=>false) (sg ops) [] env H λenv' H'=>k .normal env' H'
  |false=>none
 | .rangeFunc f ps a b=>sj P call N me f ps a b
 |_=>λ_ _ _=>none
def ze{f:List Hint}(j: ∀m r,G≠ .seq m r)(env:BS)(H:Am)(g:Exit→BS→Am→Option R):
  gA P c k N F f (.seq d G) env H g=nY (ke f d G) (Pa f (.seq d G)) (λenv H g=>gA P c k N F f d env H λe h i=>match e with| .normal=>gA P c k N F f G h i g|e=>g e h i) env H g:=by
 cases G<;>first|rfl|exact absurd rfl (j _ _)
def Oh(P:Program)(N:Nat)(A:List Nat)(c:Code)(run:Sem):Prop:= ∀{R:Type} (env:BS) (H:Am) (k:Exit->BS->Am->Option R) (r:R),O0 env H->run env H k=some r->
 ∃e env' H',m8 P N c (Br env) (A6 H) (VN e (Br env') (A6 H'))/\k e env' H'=some r/\O0 env' H'/\E5 A env H env' H'
theorem uQ: ∀{l:List (Nat×Ty)} {env:BS} {H:Am} {a:BS} {b:Am},O0 env H→iB l env H=some (a,b)→
  O0 a b/\E5 (l.map (·.1)) env H a b/\ ∀N,F3 N H.length (Br env) (A6 H) (Br a) (A6 b)
 |[],env,H,a,b,ok,h=>by grind[iB,E5.refl,F3.refl,CR]
 |(t,ty)::r,env,H,a,b,ok,h=>by
  simp only[iB]at h;split at h;rename_i n;have j:B4 H (H++[.buf false ty [] 0 0]):=B4.push H _;have g:(H++[Dl.buf false ty [] 0 0])[H.length]? =some (.buf false ty [] 0 0):=by simp
  have i:O0 (env.put t (.c (.own H.length 0 ty 0))) (H++[.buf false ty [] 0 0]):=by refine⟨bS (d:=some t) (j.env ok.env) (JR (U1 g)),λe f=>?_⟩;rcases Ar.1 f with f|f;exact j.ent (ok.heap e f);rw[A3.1 f];rfl
  obtain⟨q1,q2,q3⟩:=uQ i h;refine⟨q1,?_,λN=>?_⟩;have p:E5 [t] env H (env.put t (.c (.own H.length 0 ty 0))) (H++[.buf false ty [] 0 0]):=⟨j,λu o _=>iA λe=>o (by simp[e])⟩
  exact E5.trans ok.env p q2;have w:=F3.virt (N:=N) (env:=Br env) (H:=A6 H) (t:=t) (sz:=ty.sz) (by rw[R0,n];rfl);have k:=(q3 N).of_le (n0:=H.length) (by simp);rw[gV]at k;have m:A6 (H++[.buf false ty [] 0 0])=A6 H++[.live 0 []]:=by simp[A6,Dl.enc,SX.cl]
  rw[m]at k;rw[CR]at w;exact w.trans k;cases h
def jq: ∀{n:Nat} {e x y:List Ba},lP n e=some (x,y)->e=x++ .nil::y
 |0,[],_,_,h=>by cases h
 |0,z::r,x,y,h=>by
  cases z<;>simp only[lP]at h<;>try (cases h;done)
  injection h with h;injection h with c d;subst c d;rfl
 |n+1,[],_,_,h=>by cases h
 |n+1,z::r,x,y,h=>by simp only[lP]at h;split at h;rename_i a b hr;injection h with h;injection h with c d;subst c d;rw[jq hr];rfl;cases h
theorem rH{env:BS}: ∀{l:List (Nat×Nat×Ty)} {H c:Am},O0 env H→dh l H=some c→
  O0 env c/\B4 H c/\ ∀N,F3 N H.length (Br env) (A6 H) (Br env) (A6 c)
 |[],H,c,ok,h=>by grind[dh,Option.some.injEq,B4.refl,F3.refl,Br,A6,CR]
 |(b,i,ty)::r,H,c,ok,h=>by
  simp only[dh]at h;split at h;rename_i E v;split at h;rename_i x y B;have m:=jq B;subst m;have D:b<H.length:=by grind
  have f:B4 H (H++[Dl.buf false ty [] 0 0]):=B4.push H _;have a:H.set b (Dl.live false (x++Ba.own H.length 0 ty 0::y))++[Dl.buf false ty [] 0 0]=(H++[Dl.buf false ty [] 0 0]).set b (Dl.live false (x++Ba.own H.length 0 ty 0::y)):=by grind
  have j:(H++[Dl.buf false ty [] 0 0])[b]? =some (Dl.live false (x++Ba.nil::y)):=by grind
  have g:B4 (H++[Dl.buf false ty [] 0 0]) ((H++[Dl.buf false ty [] 0 0]).set b (Dl.live false (x++Ba.own H.length 0 ty 0::y))):=B4.set j rfl λ_ _ _ _ _ e=>by cases e
  have n:(H++[Dl.buf false ty [] 0 0])[H.length]? =some (.buf false ty [] 0 0):=by simp
  have t:lok H (x++Ba.nil::y):=ok.heap _ (BJ v);have s: ∀e∈H++[Dl.buf false ty [] 0 0],e.ok (H++[Dl.buf false ty [] 0 0]):=λe d=>by rcases Ar.1 d with d|d;exact f.ent (ok.heap e d);rw[A3.1 d];rfl
  have u:lok (H++[Dl.buf false ty [] 0 0]) (x++Ba.own H.length 0 ty 0::y):=by have q:=IZ.1 (f.lok t);refine IZ.2 ⟨q.1,λz o=>?_⟩;rcases An.1 o with rfl|o;exact U1 n;exact q.2 z (CC _ o)
  rw[a]at h;have p:O0 env ((H++[Dl.buf false ty [] 0 0]).set b (Dl.live false (x++Ba.own H.length 0 ty 0::y))):=⟨g.env (f.env ok.env),heap_set g s (g.lok u)⟩
  obtain⟨q1,q2,q3⟩:=rH p h;refine⟨q1,(f.trans g).trans q2,λN=>?_⟩;have k:(A6 H)[b]? =some (.live 0 (lvs (x++Ba.nil::y))):=by rw[FA,v];rfl
  have C:(lvs (x++Ba.nil::y))[(lvs x).length]? =some .nils:=by grind[Gg,HM,Ba.enc]
  have w:=F3.virtC (N:=N) (env:=Br env) (sz:=ty.sz) k C;have A:A6 ((H++[Dl.buf false ty [] 0 0]).set b (Dl.live false (x++Ba.own H.length 0 ty 0::y)))=(A6 H).set b (.live 0 ((lvs (x++Ba.nil::y)).set (lvs x).length (.sl (A6 H).length 0 ty.sz 0 0)))++[.live 0 []]:=by
   rw[<-a];have:(lvs (x++Ba.nil::y)).set (lvs x).length (.sl (A6 H).length 0 ty.sz 0 0)=lvs (x++Ba.own H.length 0 ty 0::y):=by grind[Gg,HM,CR,Ba.enc]
   grind[A6,Dl.enc,SX.cl,List.map_set]
  rw[<-A,CR]at w;exact w.trans ((q3 N).of_le (by simp));cases h;cases h
theorem uH(ok:O0 f b)(H:zR s f b=some (I,A)):
  O0 I A/\E5 (s.virt.map (·.1)) f b I A/\ ∀N,F3 N b.length (Br f) (A6 b) (Br I) (A6 A):=by
 unfold zR at H;split at H;rename_i e d n;obtain⟨a1,a2,a3⟩:=uQ ok n;split at H;rename_i h m;injection H with H;injection H with k l;subst k l;obtain⟨g,i,j⟩:=rH a1 m;have o:E5 [] e d e h:=⟨i,λ_ _ _=>rfl⟩
 exact⟨g,(E5.trans ok.env a2 o).mono λt p=>by grind,λN=>(a3 N).trans ((j N).of_le a2.step.len)⟩;cases H;cases H
theorem nJ{A S:List Nat}{H:Am}: ∀{env:BS},(env.map (·.1)).Nodup-> ∀t,env.get t=Sf->(PB A S H env).get t=Sf
 |[],_,_,_=>rfl
 |(u,v)::r,nd,t,h=>by have a:=Ff.1 nd;simp only[BS.get]at h;by_cases b:u=t;subst b;have hn: ∀p∈PB A S H r,p.1≠u:=λp c e=>a.1 (Bl.2 ⟨p,(Pb a.2 p c).2.2,e⟩);grind[PB,BS.get,ec];rw[beq_false b]at h;have d:=nJ (A:=A) (S:=S) (H:=H) a.2 t h;grind[PB,BS.get,beq_false]
theorem td{h:Hint}{A B:List Nat}{env0:BS}{e:Am}{D:BS}{E:Am}(m:O0 env0 e)(nd:(env0.map (·.1)).Nodup)(M:rP A (Kr h.slots) env0 e D E)
  {env1:BS} {u:Am} (C:O0 env1 u) (U:E5 B D E env1 u) (K: ∀t,t∈B->t∈A) (J: ∀t,t∈h.tmps->t∈A) {x:Exit} {o:pC h.exits} (Q:sV h.exits x env1 u=some o)
  {R:Type} {k:Exit->BS->Am->Option R} {r:R} (f:zH h e.length (PB A (Kr h.slots) e env0) e (Kr h.slots) k o=some r) (N:Nat):
  ∃g i,F3 N e.length (Br env1) (A6 u) (Br g) (A6 i)/\k x g i=some r/\O0 g i/\E5 A env0 e g i:=by
 obtain⟨rfl,L,p,S,y⟩:=nt Q;have f:=nr f;split at f;rename_i g i O;split at f;rename_i v;simp at v;have sub: ∀j,NU j (Kr (pD h.exits o).2.1)=false->NU j (Kr h.slots)=false:=λj d=>TN λG=>by grind
 obtain⟨w,X,Z,z⟩:=tP m nd M C U K L m.heap rfl (wo e) (λ_ _ _ _ q=>q) (λj H d c=>by
  cases H with
  |dead=>grind
  |live b W=>exact .inr ⟨_,sub j d,by rw[Ju,c,D6,sub j d];rfl,rfl,.inr (.inl ⟨_,_,_,_,rfl,rfl,DQ.refl _⟩)⟩
  |buf b t l n V=>exact .inr ⟨_,sub j d,by rw[Ju,c,D6,sub j d];rfl,rfl,.inr (.inr (.inl ⟨_,_,_,_,_,_,_,rfl,rfl⟩))⟩
  |mp b k t Y=>exact .inr ⟨_,sub j d,by rw[Ju,c,D6,sub j d];rfl,rfl,.inr (.inr (.inr (.inr ⟨_,_,_,_,_,rfl,rfl⟩)))⟩
  |lp ro F n env ps a b s=>exact .inr ⟨_,sub j d,by rw[Ju,c,D6,sub j d];rfl,rfl,.inr (.inr (.inr (.inl ⟨_,_,_,_,_,_,_,_,_,rfl,rfl⟩)))⟩) O v.1 v.2.1 N
 refine⟨g,i,w,f,z.ok,z.step,λt T P=>?_⟩;have I:=TN λG=>T (J t (by refine Ar.2 (.inr (HX.2 ⟨p,S,?_⟩));rw[<-y];exact G));rw[z.get t I];grind[pe,Sf,nJ,dn,wk,TN];cases f;cases f
variable {P:Program} {N:Nat}
variable {h:Sem}
theorem qS(hr:Oh P N z d h)(n: ∀t,t∈z->t∈a)(m: ∀t,t∈s.tmps->t∈a):Oh P N a d (wh s a h):=by
 intro R env H k r ok A;unfold wh at A;dsimp only at A;split at A;cases A;rename_i env0 f v;split at A;cases A;rename_i hn;obtain⟨o,B,A⟩:=bnd A;obtain⟨b,x,y⟩:=uH ok v;have nd:=Wt hn;obtain⟨e,env1,c,a1,k1,g,i⟩:=hr env0 (Lq (Kr s.slots) 0 f) _ o (gw b) B;have q:rP a (Kr s.slots) env0 f env0 (Lq (Kr s.slots) 0 f):=⟨gw b,B4.refl _,Jv _ _,λ_ _=>rfl,λp u=>(Pb nd p u).1⟩
 obtain⟨j,l,w,q1,q2,q3⟩:=td b nd q g i n m k1 A N;refine⟨e,j,l,?_,q1,q2,?_⟩;rw[ng]at a1;refine m8.weak (by rw[CR];exact y N) (m8.after (a1.mono ?_));rintro _ _ _ ⟨rfl,rfl,rfl⟩;exact⟨_,_,by rw[CR];exact w,rfl,rfl,rfl⟩;exact(E5.trans ok.env x q3).mono λt C=>by grind[Hint.tmps]
theorem wu(hr:Oh P N z d h)(hB: ∀t,t∈z->t∈a)(X: ∀t,t∈s.tmps->t∈a):Oh P N a (.loop d) (wq s a h):=by
 intro R env H k r ok g;unfold wq at g;dsimp only at g;split at g;cases g
 ·rename_i E Hv hv;obtain⟨bd,sv,wv⟩:=uH ok hv;obtain⟨m,sf,wf⟩:=Pf (s.kill++fA E Hv s.slots) bd;generalize Hz (s.kill++fA E Hv s.slots) E Hv=fz at g m sf wf;obtain⟨env0,f⟩:=fz;simp only at g m sf wf;split at g
  ·rename_i ds hn hc;split at g
   ·rename_i s0 a8;obtain⟨o,ho,g⟩:=bnd g;have nd:=Wt hn;have v: ∀e∈Lq (Kr s.slots) 0 f,e.ok (Lq (Kr s.slots) 0 f):=(gw m).heap;have hC:=sM (C:=λV o=> ∀r,zH s f.length (PB a (Kr s.slots) f env0) f (Kr s.slots) k o=some r->
     ∃u i,UE s.slots (wP (bX s.slots) V) (PB a (Kr s.slots) f env0) (Lq (Kr s.slots) 0 f)=some (u,i)/\mm f.length u=true/\eL f.length i=true/\(rP a (Kr s.slots) env0 f u i-> ∃x D G,Ls P N d (Br u) (A6 i) (VN x (Br D) (A6 G))/\k x D G=some r/\O0 D G/\E5 a env0 f D G)) (λV q U=>by
     split at U
     ·rename_i u i hi;split at U
      ·rename_i I;simp only[BO]at I;have body: ∀y:rP a (Kr s.slots) env0 f u i,∃e env1 J,m8 P N d (Br u) (A6 i) (VN e (Br env1) (A6 J))/\tk s e env1 J=some q/\O0 env1 J/\E5 z u i env1 J:=λy=>hr u i _ q y.ok U;cases q with
       |next s'=>
        intro o ih r g;obtain⟨ad,ar,i1,i2,i3,i4⟩:=ih r g;refine⟨u,i,hi,I.1,I.2,λy=>?_⟩;obtain⟨e,env1,J,a1,k1,O,Q⟩:=body y;unfold tk at k1;split at k1;rename_i hx;have:=lR hx;subst this;split at k1;rename_i s1 a9;injection k1 with k1;injection k1 with k1;subst k1;have a3:=fW a9;obtain⟨w,ea,ha,c⟩:=tP (Hx:=Lq (Kr s.slots) 0 f) m nd y O Q hB a3 v (Jv _ _) (.refl _) (λ_ _ _ _ q=>mG q) (λj e' L A=>by
         cases Y:f[j]? with
         |none=>grind[Ju]
         |some W=>
          have Z:=A;rw[Ju,Y,D6,L]at A;simp only[Be,Ai]at A;subst A;cases W with
          |dead=>exact .inl rfl
          |live b cs=>exact .inr ⟨_,L,Z,rfl,.inr (.inl ⟨_,_,_,_,rfl,rfl,DQ.refl _⟩)⟩
          |buf b t l n bl=>exact .inr ⟨_,L,Z,rfl,.inr (.inr (.inl ⟨_,_,_,_,_,_,_,rfl,rfl⟩))⟩
          |mp b k t es=>exact .inr ⟨_,L,Z,rfl,.inr (.inr (.inr (.inr ⟨_,_,_,_,_,rfl,rfl⟩)))⟩
          |lp ro F n env ps B b V=>exact .inr ⟨_,L,Z,rfl,.inr (.inr (.inr (.inl ⟨_,_,_,_,_,_,_,_,_,rfl,rfl⟩)))⟩) i1 i2 i3 N
        have a4:rP a (Kr s.slots) env0 f ad ar:=⟨c.ok,c.step,by rw[c.len,Jv],c.same,λp M=>by
         obtain⟨T,b2,b3⟩:=Pb nd p M;have K:NU p.1 a=false:=by grind[bi,NU]
         rw[c.get p.1 (TN λhm=>Rk K (X _ (by unfold Hint.tmps;simp only[List.mem_append];exact .inl (.inr hm))))];rw[dn nd p.1 (by rw[T];exact b2)];exact T⟩
        obtain⟨x,D,G,l1,l2,l3,l4⟩:=i4 a4;refine⟨x,D,G,Q4 (a1.awp.mono ?_),l2,l3,l4⟩;rintro _ _ _ ⟨rfl,rfl,rfl⟩;exact⟨_,_,by rw[CR,y.len];exact w,l1⟩;cases k1;split at k1<;>grind
       |done o=>
        intro r g;refine⟨u,i,hi,I.1,I.2,λy=>?_⟩;obtain⟨e,env1,J,a1,k1,O,Q⟩:=body y;unfold tk at k1;split at k1;split at k1<;>grind;rename_i hx;split at k1;rename_i o1 a7;injection k1 with k1;injection k1 with k1;subst k1;obtain⟨D,G,w,q1,q2,q3⟩:=td m nd y O Q hB X a7 g N;have a6:e≠ .normal:=by rintro rfl;cases hx
        refine⟨e,D,G,Ls.after (Q4 (a1.awp.mono ?_)),q1,q2,q3⟩;intro e1 al bt a';obtain⟨ax,a0,a2⟩:=a';subst ax a0 a2;have ap: ∃env2 H2,F3 N (A6 i).length (Br env1) (A6 J) env2 H2/\VN e1 (Br D) (A6 G) e1 env2 H2:=⟨_,_,by rw[CR,y.len];exact w,rfl,rfl,rfl⟩
        cases e1 with
        |normal=>exact(a6 rfl).elim
        |_=>exact ap
        cases k1
      cases U
     cases U) ho
    obtain⟨u,i,i1,i2,i3,i4⟩:=hC r g;have a5:=jN a8;rw[a5]at i1;have bb:O0 (PB a (Kr s.slots) f env0) (Lq (Kr s.slots) 0 f):=⟨λp M=>(gw m).env p (Pb nd p M).2.2,v⟩
    have c:=NT m hc i1 bb (by rw[Jv];exact Ak _) (λp M=>⟨p.2,(Pb nd p M).2.2,UQ.refl _⟩) (λj e' L A=>by
     rw[Ju]at A;cases Y:f[j]? with
     |none=>rw[Y]at A;cases A
     |some W=>
      rw[Y,D6,L]at A;simp only[Be,Ai]at A;subst A;refine⟨W,rfl,?_⟩;cases W with
      |dead=>exact .inl rfl
      |live b cs=>exact .inr (.inl ⟨_,_,_,_,rfl,rfl,DQ.refl _⟩)
      |buf b t l n bl=>exact .inr (.inr (.inl ⟨_,_,_,_,_,_,_,rfl,rfl⟩))
      |mp b k t es=>exact .inr (.inr (.inr (.inr ⟨_,_,_,_,_,rfl,rfl⟩)))
      |lp ro F n env ps B b V=>exact .inr (.inr (.inr (.inl ⟨_,_,_,_,_,_,_,_,_,rfl,rfl⟩)))) (zC f)
    have w:=c.weak (N:=N) (by rw[Jv];exact Ak _) (by rw[Jv];exact i2) (by rw[Jv];exact i3);rw[Jv]at w;have y:rP a (Kr s.slots) env0 f u i:=⟨c.ok,c.step,by rw[c.len,Jv],c.same,λp M=>by
     obtain⟨T,b2,b3⟩:=Pb nd p M;have K:NU p.1 a=false:=by grind[bi,NU]
     rw[c.get p.1 (TN λhm=>Rk K (X _ (by unfold Hint.tmps;simp only[List.mem_append];exact .inl (.inr hm))))];rw[dn nd p.1 (by rw[T];exact b2)];exact T⟩
    obtain⟨x,D,G,l1,l2,l3,l4⟩:=i4 y;have w3:F3 N H.length (Br env) (A6 H) (Br u) (A6 i):=((wv N).trans ((wf N).of_le (by rw[CR];exact sv.step.len))).trans (w.of_le (Dp sv.step.len sf.step.len));refine⟨x,D,G,m8.weak (by rw[CR];exact w3) l1,l2,l3,?_⟩;exact(E5.trans ok.env (E5.trans ok.env sv sf) l4).mono λt S=>by rcases Ar.1 S with S|S;rw[Dn]at S;exact X t (by unfold Hint.tmps;simp only[List.mem_append];exact .inl (.inl (.inr S)));exact S
   cases g
  cases g
def wI{A B:List Nat}{j:Sem}(l:Oh P N A d h)(m:Oh P N B G j):Oh P N (A++B) (.cond E d G) (tV E h j):=by
 intro R env H k r ok f;unfold tV at f;dsimp only at f;split at f;rename_i v n;have i:BA (Br env) E= .bool v:=by have:=KG env E;rw[n]at this;exact this
 cases v with
 |true=>obtain⟨e,c,g,a1,q1,q2,q3⟩:=l env H k r ok f;exact⟨e,c,g,D4 (λ_ e=>by cases e) (Lr.cond i (λ_=>a1.awp) (λe=>by cases e)),q1,q2,q3.mono λt a=>Ar.2 (.inl a)⟩
 |false=>obtain⟨e,c,g,a1,q1,q2,q3⟩:=m env H k r ok f;exact⟨e,c,g,D4 (λ_ e=>by cases e) (Lr.cond i (λe=>by cases e) (λ_=>a1.awp)),q1,q2,q3.mono λt a=>Ar.2 (.inr a)⟩
 cases f
def uX{A:List Nat}(hr:Oh P N A d h):Oh P N A (.block n d) (rZ n h):=by
 intro R env H k r ok i;obtain⟨e,a,f,a1,q1,q2,q3⟩:=hr env H _ r ok i;cases e with
 |exit c=>
  simp only at q1;split at q1;rename_i b;have:=DN b;refine⟨.normal,a,f,D4 (λ_ e=>by cases e) (Lr.block (a1.awp.mono ?_)),q1,q2,q3⟩;rintro _ _ _ ⟨rfl,rfl,rfl⟩;simp only[iV,if_pos this];exact⟨rfl,rfl,rfl⟩;rename_i b;have g:c≠n:=λe=>by simp_all
  refine⟨.exit c,a,f,D4 (λ_ e=>by cases e) (Lr.block (a1.awp.mono ?_)),q1,q2,q3⟩;rintro _ _ _ ⟨rfl,rfl,rfl⟩;simp only[iV,if_neg g];exact⟨rfl,rfl,rfl⟩
 |_=>refine⟨_,a,f,D4 (λ_ e=>by cases e) (Lr.block (a1.awp.mono ?_)),q1,q2,q3⟩;rintro _ _ _ ⟨rfl,rfl,rfl⟩;exact⟨rfl,rfl,rfl⟩
end Go.Ab
namespace Go.Ab
variable {P:Program} {N:Nat}
variable {N n y:Nat}{a z:List Nat}{R L:Type}{b A:Am}{c:List SW}{d G:Code}{F:FuncId}{f I M:BS}{P:Program}{g:List AV}{h:Sem}{i:AV}{j:Bool}{k:Q9}{p:Ty}{q:Int}{t:List TV}{v:World}{x:Exit}{B:U5}{E:Operand}{J:Func}
def Oh.mono(B:Oh P N a d h)(f: ∀t,t∈a->t∈z):Oh P N z d h:=λenv H k r ok g=>by obtain⟨e,c,A,q1,q2,q3,q4⟩:=B env H k r ok g;exact⟨e,c,A,q1,q2,q3,q4.mono f⟩
def lz{hs:List Hint}{A B:List Nat}(hr:Oh P N B d h)(c: ∀t,t∈B->t∈A)(b: ∀t,t∈jz hs d->t∈A):Oh P N A d (nY (bK hs d) A h):=by
 unfold jz at b;generalize bK hs d=o at b⊢;cases o with
 |none=>exact hr.mono c
 |some a=>exact qS hr c b
def ww{hs:List Hint}{A B:List Nat}(hr:Oh P N B d h)(c: ∀t,t∈B->t∈A)(b: ∀t,t∈jz hs (.loop d)->t∈A):Oh P N A (.loop d) (z7 (bK hs (.loop d)) A h):=by
 unfold jz at b;generalize bK hs (.loop d)=o at b⊢;cases o with
 |none=>exact λenv H k r ok e=>by cases e
 |some a=>exact wu hr c b
def TO: ∀{env:BS} {p:Nat×TV},p∈bO env->p∈env/\KC p.2.refs=[]
 |(t,v)::r,p,h=>by simp only[bO]at h;split at h;rename_i a;rcases An.1 h with rfl|h;exact⟨JK,a⟩;exact⟨CC _ (TO h).1,(TO h).2⟩;exact⟨CC _ (TO h).1,(TO h).2⟩
theorem vG(S:UP P k){C:Array Tmp}:Oh P N a (.rangeFunc E C d G) (sj P k N F E C d G):=by
 intro R env H y r ok w;unfold sj at w;dsimp only at w;split at w;rename_i A first m hf
 split at w;rename_i hE;have e1:BA (Br env) E= .fn (.func A) first m:=by rw[KG,hf];rfl
 have I:(Dl.lp false F N (bO env) C d G .ready).ok (H++[.lp false F N (bO env) C d G .ready]):=λp T id al t n hm=>by have:=fo hm;rw[(TO T).2]at this;cases this
 have V:B4 H (H++[.lp false F N (bO env) C d G .ready]):=B4.push H _;obtain⟨v,i,q1,q2,q3,q4,q5⟩:=S (.fn A) _ _ _ r (λv Y=>by simp only[Ar,Bl,A3]at Y;rcases Y with(⟨u,_,rfl⟩|rfl)|⟨u,_,rfl⟩;exact dg u;exact JR trivial;exact dg u) (OS ok.heap I) w
 have z: ∀{ro:Bool} {f n e p c b} {s:LS} {x:Exit},i[H.length]? =some (.lp ro f n e p c b s)→ro=false→(∀L:eU,L.state=s.st→L.pending=s.pend→xT P N (Br env) H.length (VN x (Br env) (A6 (i.set H.length .dead))) ((A6 i).set H.length (.lp L)))→y x env (i.set H.length .dead)=some r→
   ∃W g O,m8 P N (.rangeFunc E C d G) (Br env) (A6 H) (VN W (Br g) (A6 O))/\y W g O=some r/\O0 g O/\E5 a env H g O:=by
  intro ro f n e p c b s x q U hq w;subst U;have M:B4 i (i.set H.length .dead):=B4.set q rfl λ_ _ _ _ _ h=>by cases h
  have Z:=(V.trans q5).trans M;refine⟨x,env,_,D4 (λ_ e=>by cases e) (eM (Br (bO env)) (λp T=>?_) e1 hE ?_),w,⟨Z.env ok.env,SO M q4 trivial⟩,Z,λ_ _ _=>rfl⟩;obtain⟨u,hu,rfl⟩:=Bl.1 T;exact Bl.2 ⟨u,(TO hu).1,rfl⟩;have K:Es P A _ _ _:=q1;have B:(first.map vc++[TV.c (.raw (.yf H.length))]++m.map vc).map TV.enc=first++[.yf (A6 H).length]++m:=by
   have X: ∀l:List AV,(l.map vc).map TV.enc=l:=by
    intro l;rw[Ni];conv=>rhs;rw[<-Zm l]
    grind[List.map_congr_left,ba]
   rw[Nh,Nh,X,X,CR];rfl
  rw[B,Pd]at K;apply K.mono;rintro _ _ ⟨rfl,rfl⟩;rw[CR];have J:A6 i=(A6 i).set H.length (.lp ⟨n,Br e,p,c,b,s.st,s.pend⟩):=by
   have hg:(A6 i)[H.length]? =some (.lp ⟨n,Br e,p,c,b,s.st,s.pend⟩):=by rw[FA,q];rfl
   apply Mp;intro j;by_cases ad:j=H.length<;>grind
  rw[J];exact hq _ rfl rfl
 have look: ∀L:eU,H.length<i.length->((A6 i).set H.length (.lp L))[H.length]? =some (.lp L):=λL h=>by grind[List.getElem?_set_self,CR]
 have o: ∀L:eU,((A6 i).set H.length (.lp L)).set H.length .dead=A6 (i.set H.length .dead):=λL=>by rw[VC,Mv];rfl
 split at q2;rename_i q;refine z q rfl (λL D Q=>⟨L,look L (Gu q),by rw[D];simp[LS.st],?_⟩) q2;rw[Q,o];exact⟨rfl,rfl,rfl⟩;rename_i q;refine z q rfl (λL D Q=>⟨L,look L (Gu q),by rw[D];simp[LS.st],?_⟩) q2;rw[Q,o];exact Lr.ret ⟨rfl,rfl,rfl⟩;rename_i x q;refine z q rfl (λL D Q=>⟨L,look L (Gu q),by rw[D];simp[LS.st],?_⟩) q2;rw[Q,o];exact Lr.exit ⟨rfl,rfl,rfl⟩;cases q2;cases w;cases w
theorem wH{hs:List Hint}(h:gR d G=some B): ∀t∈B.tmps,t∈Pa hs d++Pa hs G:=by obtain⟨o,v,l,q,w,n,r,x,s,y,u,z,rfl,rfl,f,g,i,j,k,_⟩:=gS h;obtain⟨_,_,_,_,_,_,l1⟩:=kD f;obtain⟨_,_,_,_,_,_,l2⟩:=kE g;obtain⟨_,_,_,_,_,_,_,_,_,_,_,_,c⟩:=kF i;obtain⟨_,_,_,_,_,_,_,_,_,_,_,_,_,_,_,a⟩:=kG j;obtain⟨_,_,_,_,_,_,_,e⟩:=kH k;intro t b;simp only[Pa,l1,l2,c,a,e,gU,Ar];simp only[U5.tmps]at b;grind
theorem zc(B: ∀g∈c,g.Ok P)(z:UP P k)(x:FuncId)(d:List Hint): ∀g:Code,Oh P N (Pa d g) g (gA P c k N x d g)/\ ∀m r,g= .seq m r->Oh P N (Pa d r) r (gA P c k N x d r):=by
 intro g;induction g with
 |skip=>exact⟨λenv H v r ok n=>⟨.normal,env,H,D4 (λ_ e=>by cases e) (Lr.skip ⟨rfl,rfl,rfl⟩),n,ok,E5.refl _ _ _⟩,λ_ _ e=>by cases e⟩
 |ret=>exact⟨λenv H v r ok n=>⟨.ret,env,H,D4 (λ_ e=>by cases e) (Lr.ret ⟨rfl,rfl,rfl⟩),n,ok,E5.refl _ _ _⟩,λ_ _ e=>by cases e⟩
 |exit id=>exact⟨λenv H v r ok n=>⟨.exit id,env,H,D4 (λ_ e=>by cases e) (Lr.exit ⟨rfl,rfl,rfl⟩),n,ok,E5.refl _ _ _⟩,λ_ _ e=>by cases e⟩
 |seq a b D s=>
  refine⟨?_,λm r e=>by injection e with K L;subst K L;exact s.1⟩;have G:Oh P N (Pa d a++Pa d b) (.seq a b) (λenv H v=>gA P c k N x d a env H λe j u=>match e with| .normal=>gA P c k N x d b j u v|e=>v e j u):=by
   intro R env H v r ok n;obtain⟨e,env1,O,a1,k1,w,S⟩:=D.1 env H _ r ok n;cases e with
   |normal=>obtain⟨L,env2,y,a2,W,F,s2⟩:=s.1 env1 O v r w k1;refine⟨L,env2,y,D4 (λ_ e=>by cases e) (Lr.seq (a1.awp.mono ?_)),W,F,E5.trans ok.env S s2⟩;rintro _ _ _ ⟨rfl,rfl,rfl⟩;exact a2.awp
   |_=>refine⟨_,env1,O,D4 (λ_ e=>by cases e) (Lr.seq (a1.awp.mono ?_)),k1,w,S.mono λt l=>Ar.2 (.inl l)⟩;rintro _ _ _ ⟨rfl,rfl,rfl⟩;exact⟨rfl,rfl,rfl⟩
  intro R env H v r ok n;by_cases hq: ∃m I,b= .seq m I;obtain⟨m,I,rfl⟩:=hq;simp only[gA]at n;split at n;rename_i p hp;obtain⟨env1,O,a1,k1,w,S⟩:=wG B hp ok n;obtain⟨L,env2,y,a2,W,F,s2⟩:=s.2 m I rfl env1 O v r w k1;refine⟨L,env2,y,D4 (λ_ e=>by cases e) (Lr.seq (a1.mono ?_)),W,F,(E5.trans ok.env S s2).mono λt l=>?_⟩;intro e E h hx;cases e with
  |normal=>exact Lr.seq (hx.mono (by rintro _ _ _ ⟨rfl,rfl,rfl⟩;exact a2.awp))
  |_=>exact hx.elim
  show t∈(Pa d a++((Pa d m++Pa d I)++mb d m I))++mb d a (.seq m I);rcases Ar.1 l with l|l;rcases Ar.1 (wH (hs:=d) hp t l)with h|h<;>simp[h];simp[l];exact G.mono (λt l=>Ar.2 (.inl l)) env H v r ok n;have n:gA P c k N x d (.seq a b) env H v=some r:=n;rw[ze λm r e=>hq ⟨m,r,e⟩]at n;have T: ∀t,t∈mb d a b->t∈Pa d (.seq a b):=λt l=>Ar.2 (.inr l);have hB: ∀t,t∈Pa d a++Pa d b->t∈Pa d (.seq a b):=λt l=>Ar.2 (.inl l);unfold mb at T;generalize ke d a b=o at n T;cases o with
  |none=>exact G.mono hB env H v r ok n
  |some h=>exact qS G hB T env H v r ok n
 |cond g a b D s=>have M:Oh P N (Pa d a++Pa d b) (.cond g a b) (tV g (gA P c k N x d a) (gA P c k N x d b)):=wI D.1 s.1;refine⟨?_,λ_ _ e=>by cases e⟩;intro R;exact lz (hs:=d) (A:=Pa d (.cond g a b)) M (λt l=>Ar.2 (.inl l)) (λt l=>Ar.2 (.inr l))
 |block id b V=>have M:Oh P N (Pa d b) (.block id b) (rZ id (gA P c k N x d b)):=uX V.1;refine⟨?_,λ_ _ e=>by cases e⟩;intro R;exact lz (hs:=d) (A:=Pa d (.block id b)) M (λt l=>Ar.2 (.inl l)) (λt l=>Ar.2 (.inr l))
 |loop b V=>exact⟨ww (hs:=d) (A:=Pa d (.loop b)) V.1 (λt l=>Ar.2 (.inl l)) (λt l=>Ar.2 (.inr l)),λ_ _ e=>by cases e⟩
 |region id q J=>
  refine⟨?_,λ_ _ e=>by cases e⟩;cases J with
  |false=>
   have M:Oh P N (gU q.toList) (.region id q false) (λenv H v=>match Nt N q.toList with
    |true=>qw P c k q (guards q) false q.toList 0 env H λj u=>v .normal j u
    |false=>none):=by
    intro R env H v r ok n;dsimp only at n;split at n;rename_i C;obtain⟨j,u,X,Y,Z,r4⟩:=bT (N:=N) B z _ _ _ _ _ _ ok n;refine⟨.normal,j,u,D4 (λ_ e=>by cases e) (FX C ?_),Y,Z,r4⟩;show Tu P N q q.toList (Br env) (A6 H) (λK y=>Exit.normal=Exit.normal/\K=Br j/\y=A6 u);simpa using X;cases n
   intro R;exact lz (hs:=d) (A:=Pa d (.region id q false)) M (λt l=>Ar.2 (.inl l)) (λt l=>Ar.2 (.inr l))
  |true=>
   intro R env H v r ok n;simp only[gA]at n;split at n;rename_i C;simp only[BO]at C;obtain⟨j,u,X,Y,Z,r4⟩:=Vv (N:=N) B z _ _ _ _ _ _ ok n;refine⟨.normal,j,u,D4 (λ_ e=>by cases e) (dF C.1.1.1 _ C.1.1.2 C.1.2 ?_ ?_),Y,Z,r4.mono λt l=>Ar.2 (.inl ?_)⟩;have:=Wt C.2;rw[Br,Ni];exact this;show RA P N q (sg q) [] (Br env) (A6 H) (λK y=>Exit.normal=Exit.normal/\K=Br j/\y=A6 u);simpa using X;unfold mo at l;obtain⟨i,_,Q⟩:=Nj.1 l;cases U:q[i]? with
   |none=>rw[U]at Q;cases Q
   |some o=>
    rw[U]at Q;refine Nj.2 ⟨o,?_,Q⟩;have:q.toList[i]? =some o:=by simpa using U
    exact BJ this
   cases n
 |rangeFunc f ps a b _ _=>exact⟨vG z,λ_ _ e=>by cases e⟩
 |_=>exact⟨λenv H v r ok n=>(by simp only[gA]at n;cases n),λ_ _ e=>by cases e⟩
theorem jX(f: ∀b∈c,b.Ok P)(e:UP P k)(g:FuncId)(d:List Hint)(b:Code):Oh P N (Pa d b) b (gA P c k N g d b):=by grind[zc]
end Go.Ab
namespace Go.Ab
def Yy:Nat->List TV->BS
 |_,[]=>[]
 |i,v::r=>(i,v)::Yy (i+1) r
def ft(P:Program)(env:BS)(H:Am):List ResultVar->Option (List TV)
 |[]=>some []
 | .tmp t::r=>match ft P env H r with|some vs=>some (env.get t::vs)|none=>none
 | .cell a t::r=>match ft P env H r with|some vs=>loadT P H t (env.get a) λv=>some (v::vs)|none=>none
def qQ:Exit->Bool
 | .normal=>true
 | .ret=>true
 |_=>false
variable {N n y:Nat}{R L:Type}{b A:Am}{c:List SW}{F:FuncId}{f I M:BS}{P:Program}{g:List AV}{i:AV}{j:Bool}{p:Ty}{q:Int}{t:List TV}{v:World}{x:Exit}{J:Func}
def ABk(P:Program)(fn:Func)(k:TV->Am->Option R):Exit->BS->Am->Option R:=λe env H=>
 match qQ e with
 |true=>match ft P env H fn.results.toList with|some vs=>k (one vs) H|none=>none
 |false=>none
def qy:BS->List Tmp->List TV->BS
 |env,t::ts,v::vs=>qy (env.put t v) ts vs
 |env,_,_=>env
def xZ(id:Nat)(k:TV->Am->Option R):Exit->BS->Am->Option R:=λe _ H=>
 match H[id]? with
 |some (.lp false F n env ps a b _)=>
  match e with
  | .normal=>k (.c (.bl true)) (H.set id (.lp false F n env ps a b .ready))
  | .ret=>k (.c (.bl false)) (H.set id (.lp false F n env ps a b .ret))
  | .exit x=>k (.c (.bl false)) (H.set id (.lp false F n env ps a b (.exit x)))
  |_=>none
 |_=>none
noncomputable def su(P:Program)(cs:List SW)(call:Q9)(hs:FuncId->List Hint)(id:Nat)(vs:List TV)(H:Am){R:Type}(k:TV->Am->Option R):Option R:=
 match H[id]? with
 |some (.lp false F n env ps a b .ready)=>
  match Nat.beq vs.length ps.size&&ps.toList.all λt=>Nat.blt t n with
  |true=>gA P cs call n F (hs F) a (qy env ps.toList vs) H λe env1 H1=>
   match e with
   | .normal=>
    match H1[id]? with
    |some (.lp false F1 n1 e1 ps1 a1 b1 .ready)=>gA P cs call n F (hs F) b env1 (H1.set id (.lp false F1 n1 e1 ps1 a1 b1 .busy)) (xZ id k)
    |_=>none
   |_=>none
  |false=>none
 |_=>none
noncomputable def jh(P:Program)(cs:List SW)(hs:FuncId->List Hint):Nat->Q9
 |0=>λ_ _ _ _=>none
 |n+1=>λtg vs H k=>
  match tg with
  | .fn F=>
   match P.funcs[F]? with
   |some fn=>
    match fn.body with
    |some c=>match Nat.ble vs.length fn.ntmps with|true=>gA P cs (jh P cs hs n) fn.ntmps F (hs F) c (Yy 0 vs) H (ABk P fn k)|false=>none
    |none=>none
   |none=>none
  | .yd id=>su P cs (jh P cs hs n) hs id vs H k
def ly(bt:Ty):(rs:List Ty)->DL rs->bt.D->DL (rs++[bt])
 |[],_,b=>b
 |[_],y,b=>(y,b)
 |_::u::r,y,b=>(y.1,ly bt (u::r) y.2 b)
def jV(vs:List TV):List Nat:=vs.flatMap λv=>KC v.refs
def ABh(P:Program)(fn:Func)(rs:List Ty):Exit->BS->Am->Option (DL rs):=λe env H=>
 match qQ e with
 |true=>
  match ft P env H fn.results.toList with
  |some vs0=>match Hz (jV vs0) env H with|(ef,hf)=>match ft P ef hf fn.results.toList with|some vs=>uu rs vs|none=>none
  |none=>none
 |false=>none
def ABi(P:Program)(fn:Func)(bt:Ty)(rs:List Ty):Exit->BS->Am->Option (DL (rs++[bt])):=λe env H=>
 match qQ e with
 |true=>
  match ft P env H fn.results.toList with
  |some vs0=>
   match Hz (jV vs0++(match (H[0]? :Option Dl)with|some (.live _ cs)=>KC cs|_=>[])) env H with
   |(ef,hf)=>
    match ft P ef hf fn.results.toList,(hf[0]? :Option Dl)with
    |some vs,some (.live _ cs)=>match uu rs vs,bt.all cs with|some y,some b=>some (ly bt rs y b)|_,_=>none
    |_,_=>none
  |none=>none
 |false=>none
def lu:Nat->TV->List TV->List TV
 |0,v,l=>v::l
 |n+1,v,x::l=>x::lu n v l
 |_+1,v,[]=>[v]
noncomputable def tQ(P:Program)(cs:List SW)(hs:FuncId->List Hint)(n:Nat)(F:FuncId)(ds rs:List Ty)(x:DL ds):Option (DL rs):=
 match P.funcs[F]? with
 |some fn=>
  match fn.body with
  |some c=>match Nat.ble (pR ds x).length fn.ntmps with|true=>gA P cs (jh P cs hs n) fn.ntmps F (hs F) c (Yy 0 (pR ds x)) [] (ABh P fn rs)|false=>none
  |none=>none
 |none=>none
noncomputable def vz(P:Program)(cs:List SW)(hs:FuncId->List Hint)(n:Nat)(F:FuncId)(pos:Nat)(bt:Ty)(ds rs:List Ty)(b:bt.D)(x:DL ds):Option (DL (rs++[bt])):=
 match P.funcs[F]? with
 |some fn=>
  match fn.body with
  |some c=>
   match Nat.ble (lu pos (.c (.raw (.ptr 0 0 0))) (pR ds x)).length fn.ntmps with
   |true=>gA P cs (jh P cs hs n) fn.ntmps F (hs F) c (Yy 0 (lu pos (.c (.raw (.ptr 0 0 0))) (pR ds x))) [.live false (bt.lvs b)] (ABi P fn bt rs)
   |false=>none
  |none=>none
 |none=>none
theorem Yz: ∀(l:List TV) (i:Nat),Br (Yy i l)=env0 i (l.map TV.enc)
 |[],_=>rfl
 |v::r,i=>by have:=Yz r (i+1);grind[Br,Yy,env0]
def dC{H:Am}: ∀{l:List TV} {i:Nat},(∀v∈l,v.ok H)-> ∀p∈Yy i l,p.2.ok H
 |[],_,_,p,a=>by cases a
 |v::r,i,h,p,a=>by simp only[Yy]at a;rcases An.1 a with rfl|a;exact h v (by simp);exact dC (λw b=>h w (by simp[b])) p a
theorem eC{P:Program}{env:BS}{H:Am}(d: ∀p∈env,p.2.ok H)(c: ∀e∈H,e.ok H): ∀{l:List ResultVar} {b:List TV},ft P env H l=some b->Qs P (Br env) (A6 H) l=some (b.map TV.enc)/\ ∀v∈b,v.ok H
 |[],b,h=>by simp only[ft,Ai]at h;subst h;exact⟨rfl,λv g=>by cases g⟩
 | .tmp t::r,b,h=>by simp only[ft]at h;split at h;rename_i i f;obtain⟨q1,q2⟩:=eC d c f;grind[Qs,fu,R0,jG];cases h
 | .cell a t::r,b,h=>by simp only[ft]at h;split at h;rename_i i f;obtain⟨q1,q2⟩:=eC d c f;obtain⟨u,j,k,m⟩:=kA c (jG d a) h;grind[Qs,fu,R0];cases h
def mV(d: ∀p∈f,p.2.ok b)(c: ∀e∈b,e.ok b)(h:ft P f b J.results.toList=some t):bk P J (Br f) (A6 b)=some (jR (t.map TV.enc)):=by
 unfold bk;rw[(eC d c h).1];cases t with
 |nil=>rfl
 |cons v r=>
  cases r with
  |nil=>rfl
  |cons u r=>rfl
def oF: ∀(a:List Tmp) (b:List TV) (env:BS),Pk (Br env) a (b.map TV.enc)=Br (qy env a b)
 |[],_,_=>rfl
 |_::_,[],_=>rfl
 |t::a,v::b,env=>by simp only[BZ,Pk,qy];rw[<-gV];exact oF a b (env.put t v)
def qz{H:Am}: ∀(b:List Tmp) (a:List TV) (env:BS),(∀p∈env,p.2.ok H)->(∀v∈a,v.ok H)-> ∀p∈qy env b a,p.2.ok H
 |[],_,_,h,_=>h
 |_::_,[],_,h,_=>h
 |t::b,v::a,env,h,hv=>qz b a (env.put t v) (bS (d:=some t) h (hv v (by simp))) λu c=>hv u (by simp[c])
def AAA{c:Bool}{F n env ps a H}{s e:LS}(h:(Dl.lp j F n env ps a H s).ok b):(Dl.lp c F n env ps a H e).ok A:=h
theorem uD{F n env ps a H}{s s':LS}(h:b[N]? =some (.lp false F n env ps a H s)):B4 b (b.set N (.lp false F n env ps a H s')):=B4.set h rfl (λ_ _ _ _ _ h=>by cases h) λ_ _ _ _ _ _ _ _ e=>by grind
def sN{F n env ps a H}{s:LS}(h:b[N]? =some (.lp j F n env ps a H s)):(A6 b)[N]? =some (.lp ⟨n,Br env,ps,a,H,s.st,s.pend⟩):=by rw[FA,h];rfl
theorem vL{P:Program}{cs:List SW}(K: ∀c∈cs,c.Ok P){hs:FuncId→List Hint}{g:Q9}(J:UP P g){R:Type}{id:Nat}{S:List TV}{H:Am}{k:TV→Am→Option R}{r:R}(hv: ∀v∈S,v.ok H)(hH: ∀e∈H,e.ok H)
  (h:su P cs g hs id S H k=some r): ∃v d,tO P (S.map TV.enc) (A6 H) v.enc (A6 d) (.yd id)/\k v d=some r/\v.ok d/\(∀e∈d,e.ok d)/\B4 H d:=by
 unfold su at h;split at h;rename_i F n env ps a b he;split at h;rename_i hb;simp only[BO]at hb;have M: ∀p∈env,p.2.ok H:=λp hp x hx=>by
  have:=(hH _ (BJ he)) p hp;cases x with
  |own i v t m=>grind
  |_=>trivial
 obtain⟨e,env1,T,a1,k1,w,s1⟩:=jX (N:=n) K J F (hs F) a _ H _ r ⟨qz ps.toList S env M hv,hH⟩ h;split at k1;split at k1;rename_i F1 n1 Y z U V s;have B:B4 T _:=uD (s':=.busy) s;obtain⟨x,env2,D,a2,j,O,s2⟩:=jX (N:=n) K J F (hs F) b _ _ _ r ⟨B.env w.env,SO B w.heap (AAA (w.heap _ (BJ s)))⟩ k1;unfold xZ at j;split at j;rename_i F2 n2 Z A W X s0 u
 have l: ∀(v:Bool) (C:LS),k (.c (.bl v)) (D.set id (.lp false F2 n2 Z A W X C))=some r→(∀L:eU,(A6 D)[id]? =some (.lp L)→L=⟨n2,Br Z,A,W,X,s0.st,s0.pend⟩→xa id (DW (.bool v) (A6 (D.set id (.lp false F2 n2 Z A W X C)))) x (Br env2) (A6 D))→
   ∃v d,tO P (S.map TV.enc) (A6 H) v.enc (A6 d) (.yd id)/\k v d=some r/\v.ok d/\(∀e∈d,e.ok d)/\B4 H d:=by
  intro v C hk hq;have Q:B4 D _:=uD (s':=C) u;refine⟨.c (.bl v),_,?_,hk,JR trivial,SO Q O.heap (AAA (O.heap _ (BJ u))),((s1.step.trans B).trans s2.step).trans Q⟩;intro N o c f env0 ho I hf q;apply Ip.yield ho I hf (sN he);grind[List.length,List.length_map,Array.length_toList,Nat.eq_of_beq_eq_true];simp_all;show Lr P n a (Pk (Br env) ps.toList (c.args.toList.map (BA env0))) (A6 H) _;rw[q,oF];apply a1.awp.mono;rintro _ _ _ ⟨rfl,rfl,rfl⟩;refine⟨rfl,_,sN s,rfl,?_⟩;have e3:(A6 T).set id (.lp ⟨n1,Br Y,z,U,V,.busy,LS.pend .ready⟩)=A6 (T.set id (.lp false F1 n1 Y z U V .busy)):=by rw[Mv];rfl
  show Lr P n b (Br env1) ((A6 T).set id (.lp ⟨n1,Br Y,z,U,V,.busy,LS.pend .ready⟩)) _;rw[e3];apply a2.awp.mono;rintro _ _ _ ⟨rfl,rfl,rfl⟩;exact hq _ (sN u) rfl
 split at j;refine l true .ready j λL G E=>⟨L,G,rfl,?_⟩
 subst E;rw[Mv];rfl;refine l false .ret j λL G E=>⟨L,G,rfl,?_⟩
 subst E;rw[Mv];rfl;rename_i y;refine l false (.exit y) j λL G E=>⟨L,G,rfl,?_⟩
 subst E;rw[Mv];rfl;cases j;cases j;cases k1;cases k1;cases h;cases h
theorem cu{P:Program}{j:List SW}(b: ∀c∈j,c.Ok P){m:FuncId->List Hint}: ∀n,UP P (jh P j m n)
 |0=>by grind[jh]
 |n+1=>by
  intro z A H k r p l h;cases z with
  |yd id=>exact vL b (cu b n) p l h
  |fn F=>
  simp only[jh]at h;split at h;rename_i fn y;split at h;rename_i c w;split at h;rename_i hn;obtain⟨e,d,f,a1,k1,a,q⟩:=jX (N:=fn.ntmps) b (cu b n) F (m F) c (Yy 0 A) H _ r ⟨dC p,l⟩ h;unfold ABk at k1;split at k1;rename_i x;split at k1;rename_i s o;refine⟨one s,f,JT y w (by simp_all) ?_,k1,pB (eC a.env a.heap o).2,a.heap,q.step⟩;rw[<-Yz];apply a1.awp.mono;rintro _ _ _ ⟨rfl,rfl,rfl⟩;have g: ∃v t i,bk P fn (Br d) (A6 f)=some v/\Nd (A6 H).length v (A6 f) t i/\DW (one s).enc (A6 f) t i:=⟨_,_,_,mV a.env a.heap o,Nd.refl _ _ (by rw[CR,CR];exact q.step.len),by rw[kX],rfl⟩
  rename_i u;cases u<;>first|exact g|cases x
  cases k1;cases k1;cases h;cases h;cases h
def DQ.tup{b a:List AV}(h:DQ b a):UQ (.tup b) (.tup a):=by
 intro x c r;cases r with
 |tup g hr=>refine .tup (by rw[g,h.1]) λj i d f e=>?_;obtain⟨v,q1,q2⟩:=h.2 j i f;exact q2 _ _ (hr j v d q1 e)
def Tx{b:List AV}(h:DQ g b):UQ (jR g) (jR b):=by
 match g,b,h with
 |[],[],h=>exact UQ.refl _
 |[v],[w],h=>obtain⟨u,q1,q2⟩:=h.2 0 w rfl;simp at q1;subst q1;exact q2
 |v::u::r,w::x::s,h=>exact DQ.tup h
def OH: ∀(a:List Ty) (x:DL a),∀v∈fS a x,Pure v
 |[],_,v,h=>by cases h
 |[t],x,v,h=>by simp only[fS,A3]at h;subst h;exact t.enc_pure x
 |t::u::r,x,v,h=>by simp only[fS]at h;rcases An.1 h with rfl|h;exact t.enc_pure x.1;exact OH (u::r) x.2 v h
def U0(h: ∀v∈g,Pure v):Pure (jR g):=by
 match g,h with
 |[],_=>rfl
 |[v],h=>exact h v (by simp)
 |v::u::r,h=>exact(Db _ _).2 h
theorem mX{a H2:Am}(j:H2.length<=a.length)(hr:HR a H2 [])(v:eL H2.length H2=true){d:AV}(l:UQ i d)(k:Pure d):Nd H2.length i (A6 a) d (A6 H2):=by
 refine⟨by rw[CR];exact Ak _,λX h w c s r=>?_⟩;have q:=(HR.rel j hr (cx X h (A6 a) w)).onto;have n:=s.rel q;have m:=(l _ c r).later q.later;have e:(A6 H2++(A6 a).drop H2.length).take H2.length=A6 H2:=by grind[CR]
 have b:H2.length<=(A6 H2++(A6 a).drop H2.length).length:=by simp[A6]
 have g:=n.trunc b (by rw[e];exact dt v);have f:=m.trunc b (dZ k _);rw[e]at g f;exact⟨h,g,f,λ_ _=>⟨rfl,rfl,rfl⟩,λB o=>q.own B (bP (n0:=H2.length) (by grind))⟩
def jk{n:Nat}: ∀{a b:List Ba},XU n a=true->XU n b=true->XU n (a++b)=true
 |[],_,_,hb=>hb
 |x::r,b,ha,hb=>by obtain⟨c,e⟩:=nL ha;have d:=jk e hb;cases x<;>simp only[Do,XU,BO,OT]at c⊢ <;>first|exact d|exact⟨c,d⟩
mutual
theorem Ty.lvs_clo{n:Nat}: ∀(t:Ty) (x:t.D),XU n (t.lvs x)=true
 | .bool,_=>rfl
 | .int _,_=>rfl
 | .str,_=>rfl
 | .list _,_=>rfl
 | .arr _ _,_=>rfl
 | .prod ts,x=>ts.lvs_clo x
theorem QH.lvs_clo{n:Nat}: ∀(a:QH) (x:a.D),XU n (a.lvs x)=true
 | .one t,x=>t.lvs_clo x
 | .cons t a,x=>jk (t.lvs_clo x.1) (a.lvs_clo x.2)
end
def jS(h: ∀v∈g,Pure v)(a:Nat->Nat):AV.renL a g=g:=by
 rw[NV];conv=>rhs;rw[<-Zm g]
 exact Lu λv b=>(h v b).ren a
def lr{ρ:Nat->Nat}: ∀{n:Nat} {v:AV} {l:List AV},(∀v∈l,Pure v)->AV.renL ρ (S0 n v l)=S0 n (v.ren ρ) l
 |0,v,l,h=>by simp only[S0,AV.renL,jS h]
 |n+1,v,[],h=>rfl
 |n+1,v,x::l,h=>by have b:=lr (ρ:=ρ) (n:=n) (v:=v) (l:=l) λu a=>h u (CC _ a);simp only[S0,AV.renL,(h x JK).ren,b]
def nX: ∀{n:Nat} {v u:AV} {l:List AV},u∈S0 n v l->u=v\/u∈l
 |0,v,u,l,h=>by simpa[S0]using h
 |n+1,v,u,[],h=>by simpa[S0]using h
 |n+1,v,u,x::l,h=>by simp only[S0]at h;rcases An.1 h with rfl|h;exact .inr (by simp);rcases nX h with h|h;exact .inl h;exact .inr (by simp[h])
def qO: ∀{n:Nat} {v:TV} {l:List TV},(lu n v l).map TV.enc=S0 n v.enc (l.map TV.enc)
 |0,_,_=>rfl
 |n+1,_,[]=>rfl
 |n+1,v,x::l=>by simp only[lu,BZ,S0,qO]
def qP: ∀{n:Nat} {v u:TV} {l:List TV},u∈lu n v l->u=v\/u∈l
 |0,v,u,l,h=>by simpa[lu]using h
 |n+1,v,u,[],h=>by simpa[lu]using h
 |n+1,v,u,x::l,h=>by simp only[lu]at h;rcases An.1 h with rfl|h;exact .inr (by simp);rcases qP h with h|h;exact .inl h;exact .inr (by simp[h])
theorem jj{x:p.D}: ∀v∈(p.enc x).cells,Pure v:=by
 intro v a;have h:=p.enc_pure x;cases b:p.enc x with
 |agg c=>rw[b]at a h;exact((Db _ _).1 h) v a
 |_=>grind[AV.cells]
def bW(a:Ty): ∀(c:List Ty) (y:DL c) (b:a.D),LB a c (ly a c y b)=(y,b)
 |[],_,_=>rfl
 |[_],_,_=>rfl
 |_::u::r,y,b=>by simp only[ly,LB,bW a (u::r) y.2 b]
variable {P:Program} {cs:List SW} {hs:FuncId->List Hint} {n:Nat} {F:FuncId} {ds rs:List Ty}
def AAk{c:As}(k:qQ x=true)(ok:O0 f b)(hr:ft P f b J.results.toList=some t)(h:Nd N (jR (t.map TV.enc)) (A6 b) i c):
  AB8 P J N (DW i c) x (Br f) (A6 b):=by
 have d: ∃v e a,bk P J (Br f) (A6 b)=some v/\Nd N v (A6 b) e a/\DW i c e a:=⟨_,_,_,mV ok.env ok.heap hr,h,rfl,rfl⟩
 cases x<;>first|exact d|cases k
def tW{g:DL ds->Option (DL rs)}(d: ∀c∈cs,c.Ok P)(t: ∀x,g x=tQ P cs hs n F ds rs x):(SW.c0 F ds rs g).Ok P:=by
 intro x y a H;rw[t]at a;have key:Es P F (fS ds x) [] (DW (jR (fS rs y)) []):=by unfold tQ at a;split at a;rename_i q s;split at a;rename_i c r;split at a;rename_i hn;obtain⟨e,o,z,a1,k1,l,B⟩:=jX (N:=q.ntmps) d (cu d n) F (hs F) c (Yy 0 (pR ds x)) [] _ y ⟨dC (fx ds x),λe i=>by cases i⟩ a;unfold ABh at k1;split at k1;rename_i i;split at k1;rename_i m u;obtain⟨f,w,p⟩:=Pf (jV m) l;simp only at k1 f w p;split at k1;rename_i C k;apply JT s r (by rw[<-Wx,Dc];exact Nn hn);rw[<-Wx,<-Yz];refine Lr.after (a1.awp.mono ?_);rintro _ _ _ ⟨rfl,rfl,rfl⟩;exact⟨_,_,(p _).of_le (B7 _),AAk i f k (mX (H2:=[]) (B7 _) (λj A _ h=>by cases h) rfl (Tx (Vs k1)) (U0 (OH rs y)))⟩;cases k1;cases k1;cases k1;cases a;cases a;cases a
 exact Es.frame (H:=H) [] key O5 rfl rfl (λj b e h=>by cases h) (λe h=>by cases h) (λe h=>by cases h) (U0 (OH rs y)) (jS (OH ds x) _) ((Db _ _).2 λv k=>(OH ds x v k).all _)
theorem yZ{g:p.D->DL ds->Option (DL (rs++[p]))}(m: ∀c∈cs,c.Ok P)(T: ∀b x,g b x=vz P cs hs n F N p ds rs b x):(SW.c1 F N p ds rs g).Ok P:=by
 intro b x y f H id V;rw[T]at f;have key: ∃r i,y=ly p rs r i/\Es P F (S0 N (.ptr 0 0 0) (fS ds x)) [.live 0 (p.enc b).cells] (DW (jR (fS rs r)) [.live 0 (p.enc i).cells]):=by
  unfold vz at f;split at f;rename_i M S;split at f;rename_i c R;split at f;rename_i hn;have t:O0 (Yy 0 (lu N (.c (.raw (.ptr 0 0 0))) (pR ds x))) [.live false (p.lvs b)]:=by refine⟨dC λv d=>?_,λe s=>?_⟩;rcases qP d with rfl|d;exact JR trivial;grind[fx];rw[A3.1 s];exact p.lvs_ok b
  obtain⟨e,l,G,a1,k1,u,E⟩:=jX (N:=M.ntmps) m (cu m n) F (hs F) c _ _ _ y t f;unfold ABi at k1;split at k1;rename_i s;split at k1;rename_i z W;generalize C:(jV z++_)=ids at k1;obtain⟨k,w,A⟩:=Pf ids u;generalize Hz ids l G=fz at k1 k w A;obtain⟨ef,U⟩:=fz;simp only at k1 k w A;split at k1;rename_i vs Y I d O;split at k1;rename_i r i hr q;injection k1 with k1;refine⟨r,i,k1.symm,?_⟩;have J:A6 [.live false (p.lvs b)]=[.live 0 (p.enc b).cells]:=by simp only[A6,BZ,HV,Dl.enc,p.lvs_enc]
  have K:A6 [.live false (p.lvs i)]=[.live 0 (p.enc i).cells]:=by simp only[A6,BZ,HV,Dl.enc,p.lvs_enc]
  have L:S0 N (.ptr 0 0 0) (fS ds x)=(lu N (.c (.raw (.ptr 0 0 0))) (pR ds x)).map TV.enc:=by rw[qO,Wx];rfl
  rw[<-J,<-K,L];apply JT S R (by rw[Dc];exact Nn hn);rw[<-Yz];refine Lr.after (a1.awp.mono ?_);rintro _ _ _ ⟨rfl,rfl,rfl⟩;have o:1<=U.length:=Dp E.step.len w.step.len;refine⟨_,_,(A _).of_le (by rw[CR,CR];exact E.step.len),AAk s k d ?_⟩;rw[CR];refine mX (H2:=[.live false (p.lvs i)]) o (λj Z _ h=>?_) (by simp only[eL,p.lvs_clo,PY]) (Tx (Vs hr)) (U0 (OH rs r));match j,h with
  |0,h=>simp only[YL,Ai]at h;subst h;refine⟨_,O,.inr (.inl ⟨_,_,_,_,rfl,rfl,?_⟩)⟩;rw[p.lvs_enc];exact FZ q
  |j+1,h=>grind
  cases k1;cases k1;cases k1;cases k1;cases f;cases f;cases f
 obtain⟨r,i,rfl,key⟩:=key;rw[bW];have Q:AV.renL (λj=>[id].getD j 0) (S0 N (.ptr 0 0 0) (fS ds x))=S0 N (.ptr id 0 0) (fS ds x):=by rw[lr (OH ds x)];rfl
 exact Es.frame (H:=H) [id] key (Ff.2 ⟨by simp,O5⟩) rfl rfl (λj X e a B=>by
   match j,a,B with
   |0,a,B=>grind[List.getElem?_cons_zero,Option.some.injEq]
   |j+1,a,_=>simp at a) (λe h=>by
   rw[A3.1 h];exact(Db _ _).2 λv d=>jj v d) (λe h=>by
   rw[A3.1 h];exact(Db _ _).2 λv d=>jj v d) (U0 (OH rs r)) Q ((Db _ _).2 λv d=>by
   rcases nX d with rfl|d;rfl;exact(OH ds x v d).all _)
end Go.Ab
namespace Go.Ab
def X2:List (Nat×List Hint)->FuncId->List Hint
 |[],_=>[]
 |(k,h)::r,F=>match Nat.beq k F with|true=>h|false=>X2 r F
theorem CT{P:Program}: ∀c∈([]:List SW),c.Ok P:=by grind
variable {N n y:Nat}{R L:Type}{c:List SW}{F:FuncId}{P:Program}{g:List AV}{i:AV}{j:Bool}{p:Ty}{q:Int}{v:World}
theorem A9{P:Program}{a:SW}(h:a.Ok P)(b: ∀a∈c,a.Ok P): ∀d∈a::c,d.Ok P:=by grind
def wi(a:Int):Int:=IntKind.wrap .i64 a
abbrev len{α:Type}(l:List α):Int:=(l.length:Int)
def dE{A B:Type}(f:(A->Option B)->A->Option B):Nat->A->Option B
 |0,_=>none
 |n+1,x=>f (dE f n) x
noncomputable def og{A B:Type}(f:(A->Option B)->A->Option B)(x:A):Option B:=open Classical in if h: ∃r n,dE f n x=some r then some h.choose else none
theorem Y0{f:(R->Option L)->R->Option L}{x:R}{r:L}(h:og f x=some r): ∃n,dE f n x=some r:=by unfold og at h;split at h<;>grind
theorem aX{f:(R->Option L)->R->Option L}{x:R}{r:L}(h:dE f n x=some r): ∃s,og f x=some s:=by unfold og;rw[dif_pos ⟨r,n,h⟩];grind
def yb{P:Program}{hs:FuncId→List Hint}{n:Nat}{F:FuncId}{ds rs:List Ty}{f:(DL ds→Option (DL rs))→DL ds→Option (DL rs)}(b: ∀a∈c,a.Ok P)
  (e: ∀g x,f g x=tQ P (.c0 F ds rs g::c) hs n F ds rs x):(SW.c0 F ds rs (og f)).Ok P:=by
 have key: ∀m,(SW.c0 F ds rs (dE f m)).Ok P:=by
  intro m;induction m with
  |zero=>intro x y d;cases d
  |succ m i=>exact tW (cs:=.c0 F ds rs (dE f m)::c) (A9 i b) λx=>e (dE f m) x
 intro x y d;obtain⟨m,h⟩:=Y0 d;exact key m x y h
def ABj(P:Program)(fn:Func)(te:Ty)(rs:List Ty):Exit->BS->Am->Option (DL (rs++[.list te])):=λe env H=>
 match qQ e with
 |true=>
  match ft P env H fn.results.toList with
  |some vs0=>
   match Hz ((jV vs0).filter λi=>!Nat.beq i 0) env H with
   |(ef,hf)=>
    match ft P ef hf fn.results.toList,(hf[0]? :Option Dl)with
    |some vs,some (.buf _ t l _ _)=>if h:(Ty.list t).beq (Ty.list te)=true then(match uu rs vs with|some y=>some (ly (.list te) rs y (Ty.cast h l))|none=>none)else none
    |_,_=>none
  |none=>none
 |false=>none
def fnC:AV->Bool
 | .fn (.func _) [] []=>true
 |_=>false
def pi(te:Ty)(ds:List Ty)(post:List AV)(l:List te.D)(x:DL ds):List TV:=.c (.own 0 0 te l.length)::(pR ds x++post.map λv=>.c (.raw v))
noncomputable def wA(P:Program)(cs:List SW)(hs:FuncId->List Hint)(n:Nat)(F:FuncId)(te:Ty)(ds rs:List Ty)(post:List AV)(l:List te.D)(x:DL ds):Option (DL (rs++[.list te])):=
 match P.funcs[F]? with
 |some fn=>
  match fn.body with
  |some c=>
   match Nat.ble (pi te ds post l x).length fn.ntmps&&post.all fnC with
   |true=>gA P cs (jh P cs hs n) fn.ntmps F (hs F) c (Yy 0 (pi te ds post l x)) [.buf false te l l.length 0] (ABj P fn te rs)
   |false=>none
  |none=>none
 |none=>none
theorem AAm(h:fnC i=true): ∃F,i= .fn (.func F) [] []:=by unfold fnC at h;grind
def wW(h:fnC i=true):Pure i:=by obtain⟨F,rfl⟩:=AAm h;rfl
variable {P:Program} {cs:List SW} {hs:FuncId->List Hint} {n:Nat} {F:FuncId} {ds rs:List Ty} {te:Ty} {post:List AV}
def uW(l:List te.D)(x:DL ds):(pi te ds post l x).map TV.enc= .sl 0 l.length te.sz 0 l.length::(fS ds x++post):=by
 have e:(post.map λv=>TV.c (.raw v)).map TV.enc=post:=by
  rw[Ni];conv=>rhs;rw[<-Zm post]
  exact Lu λv _=>rfl
 simp only[pi,BZ,Nh,Wx,e];rfl
theorem Ma{g:List te.D->DL ds->Option (DL (rs++[.list te]))}(t: ∀c∈cs,c.Ok P)(hg: ∀l x,g l x=wA P cs hs n F te ds rs post l x):(SW.c2 F te ds rs post g).Ok P:=by
 intro l x y k d H id C;rw[hg]at k;have key: ∃r m,y=ly (.list te) rs r m/\(∀v∈post,Pure v)/\Es P F (.sl 0 l.length te.sz 0 l.length::(fS ds x++post)) [.live l.length (te.E.cl l)] (DW (jR (fS rs r)) [.live m.length (te.E.cl m)]):=by
  unfold wA at k;split at k;rename_i fn hf;split at k;rename_i c hb;split at k;rename_i hn;simp only[BO]at hn;have b: ∀v∈post,Pure v:=λv a=>wW (Fx.1 hn.2 v a);have w:([Dl.buf false te l l.length 0]:Am)[0]? =some (.buf false te l l.length 0):=rfl;have K:O0 (Yy 0 (pi te ds post l x)) [.buf false te l l.length 0]:=by refine⟨dC λv a=>?_,λe B=>?_⟩;rcases An.1 a with rfl|a;exact JR (U1 w);rcases Ar.1 a with a|a;grind[fx];obtain⟨u,_,rfl⟩:=Bl.1 a;exact JR trivial;rw[A3.1 B];exact rfl
  obtain⟨e,s,W,a1,k1,L,U⟩:=jX (N:=fn.ntmps) t (cu t n) F (hs F) c _ _ _ y K k;unfold ABj at k1;split at k1;rename_i B;split at k1;rename_i O ad;generalize T:((jV O).filter _)=ids at k1;obtain⟨o,M,Q⟩:=Pf ids L;generalize Hz ids s W=fz at k1 o M Q;obtain⟨ef,hh⟩:=fz;simp only at k1 o M Q;split at k1;rename_i vs X q l1 J V a R;split at k1;rename_i z;split at k1;rename_i r hr;injection k1 with k1;have i:=Ty.beq_eq _ _ z;injection i with i;subst i;have p:(Ty.cast z l1:List q.D)=l1:=rfl;rw[p]at k1;have I:J=l1.length:=o.heap _ (BJ R);refine⟨r,l1,k1.symm,b,?_⟩;have Y:A6 [.buf false q l l.length 0]=[.live l.length (q.E.cl l)]:=rfl;have Z:A6 [.buf false q l1 J V]=[.live l1.length (q.E.cl l1)]:=by rw[<-I];rfl
  rw[<-Y,<-Z,<-uW];apply JT hf hb (by rw[Dc];exact Nn hn.1);rw[<-Yz];refine Lr.after (a1.awp.mono ?_);rintro _ _ _ ⟨rfl,rfl,rfl⟩;have G:1<=hh.length:=Dp U.step.len M.step.len;refine⟨_,_,(Q _).of_le (by rw[CR,CR];exact U.step.len),AAk B o a ?_⟩;rw[CR];refine mX (H2:=[.buf false q l1 J V]) G (λj e' _ h=>?_) rfl (Tx (Vs hr)) (U0 (OH rs r));match j,h with
  |0,h=>simp only[YL,Ai]at h;subst h;exact⟨_,R,.inr (.inr (.inl ⟨_,_,_,_,_,_,_,rfl,rfl⟩))⟩
  |j+1,h=>simp at h
  cases k1;cases k1;cases k1;cases k1;cases k1;cases k;cases k;cases k
 obtain⟨r,m,rfl,b,key⟩:=key;rw[bW]at d⊢;simp only at d⊢;rw[<-d];rw[<-d]at C key;have f: ∀v∈fS ds x++post,Pure v:=λv a=>(Ar.1 a).elim (OH ds x v) (b v);have ha:AV.renL (λj=>[id].getD j 0) (.sl 0 m.length te.sz 0 m.length::(fS ds x++post))= .sl id m.length te.sz 0 m.length::(fS ds x++post):=by simp only[AV.renL,jS f];rfl
 exact Es.frame (H:=H) [id] key (Ff.2 ⟨by simp,O5⟩) rfl rfl (λj X e A S=>by
   match j,A,S with
   |0,A,S=>grind[List.getElem?_cons_zero,Option.some.injEq]
   |j+1,A,_=>simp at A) (λe h=>by
   rw[A3.1 h];exact(Db _ _).2 (oR te l)) (λe h=>by
   rw[A3.1 h];exact(Db _ _).2 (oR te m)) (U0 (OH rs r)) ha ((Db _ _).2 λv a=>by
   rcases An.1 a with rfl|a;rfl;exact(f v a).all _)
def pw{f:(List te.D×DL ds→Option (DL (rs++[.list te])))→List te.D×DL ds→Option (DL (rs++[.list te]))}(a: ∀c∈cs,c.Ok P)
  (d: ∀g l x,f g (l,x)=wA P (.c2 F te ds rs post (λl x=>g (l,x))::cs) hs n F te ds rs post l x):(SW.c2 F te ds rs post λl x=>og f (l,x)).Ok P:=by
 have key: ∀m,(SW.c2 F te ds rs post λl x=>dE f m (l,x)).Ok P:=by
  intro m;induction m with
  |zero=>intro l x y b;cases b
  |succ m h=>exact Ma (cs:=.c2 F te ds rs post (λl x=>dE f m (l,x))::cs) (A9 h a) λl x=>d (dE f m) l x
 intro l x y b;obtain⟨m,e⟩:=Y0 b;exact key m l x y e
end Go.Ab
namespace Go.Ab
def clW(fn:Func):Nat->String:=λi=>
 match fn.body with
 |some (.seq (.region _ a _) (.seq (.seq (.region _ b _) (.cond _ (.seq (.region _ c _) _) _)) (.seq (.region _ d _) _)))=>(((a++b++c++d)[i]?).map (·.pos)).getD default
 |_=>default
def uc(t b:TypeId)(w:Nat->String):Code:=
 .seq (.region 0 #[⟨some 2,.assign (.const (.slice none 0 0)),t,w 0, #[],none⟩] false)
  (.seq (.seq (.region 1 #[⟨some 3,.move (.tmp 0),t,w 1, #[],none⟩,⟨some 4,.binOp .eql t (.tmp 3) (.const (.slice none 0 0)) t,b,w 2, #[⟨0,.data⟩],none⟩] false)
    (.cond (.tmp 4) (.seq (.region 2 #[⟨some 2,.assign (.const (.slice none 0 0)),t,w 3, #[],none⟩] false) .ret) .skip))
   (.seq (.region 3 #[⟨some 5,.buildSlice t 0 #[],t,w 4, #[],none⟩,⟨some 6,.move (.tmp 0),t,w 5, #[],none⟩,
     ⟨some 7,.call {callee:=.builtin .append,args:= #[.tmp 5,.tmp 6],argTypes:= #[t,t]},t,w 6, #[⟨0,.data⟩,⟨1,.data⟩],none⟩,
     ⟨some 2,.assign (.tmp 7),t,w 7, #[⟨2,.data⟩,⟨2,.chain⟩,⟨0,.phase⟩,⟨1,.phase⟩,⟨2,.phase⟩],none⟩] false) .ret))
def Nd.none{n0:Nat}{H:As}{id g sz off:Nat}(hn:n0<=H.length)(b:id<H.length)(k:0<sz):Nd n0 (.sl id g sz off 0) H (.vs sz []) (H.set id .dead):=by
 refine⟨by simpa using hn,λX h w c s r=>?_⟩;obtain⟨p,t⟩:=s.kill b;refine⟨h,p,?_,λ_ _=>⟨rfl,rfl,rfl⟩,λB o=>?_⟩;cases r with
 |sl l m n q=>obtain⟨a,cap,rfl⟩:=n;exact Bf.vs (rows:=[]) (λ_ _=>undef) (B7 _) k (λj e h=>by simp at h) (λh=>(h rfl).elim) (λj e i v h=>by simp at h)
 obtain⟨i,e,l,d,m⟩:=o;rcases Io b l with⟨_,f⟩|⟨rfl,rfl⟩;exact⟨i,e,f,d,m⟩;exact(d rfl).elim
variable {N n y:Nat}{R L:Type}{c:List SW}{F:FuncId}{P:Program}{g:List AV}{j:Bool}{p:Ty}{q:Int}{v:World}
theorem wD{P:Program}{F:FuncId}{t b:TypeId}{a:Ty}(p:(P.funcs[F]?).map (λy=>(y.body,y.ntmps,y.results))=some (some (uc t b (((P.funcs[F]?).map clW).getD (λ_=>default))),8, #[.tmp 2]))(J:ym P t=some a)(k:bR 0 a #[] []=true):(SW.cl F a).Ok P:=by
 generalize ((P.funcs[F]?).map clW).getD (λ_=>default)=w at p;obtain⟨y,U,C⟩:=Zt.1 p;injection C with R C;injection C with hn hr;intro l H V;obtain⟨e,B,x⟩:=c7 J;have K:=(PC B).1;have A: ∀env,Qo P env t 0 #[]=some (a.sz,[]):=by intro env;unfold Qo;simp only[B];refine if_pos ⟨a.sz_pos,x,rfl,rfl,B7 _,?_⟩;unfold bR at k;simp only[BO]at k;exact Nn k.2
 have i: ∀Q:AV→As→Prop,(l=[]→Q (.vs a.sz []) (A6 (H++[.dead])))→(∀r,l≠ []→app [] l=some r→Q (.sl H.length r.length a.sz 0 r.length) (A6 (H++[.buf false a r r.length 0])))→
   (l=[]\/ ∃r,app [] l=some r)->Es P F [.vs a.sz (l.map a.enc)] (A6 H) Q:=by
  intro Q M N f;refine JT U R (by rw[hn];simp) ?_;rw[hn];refine Lr.seq (FX rfl (Tu.cons rfl (DY (v:=.nils) rfl (Tu.nil (Lr.seq (Lr.seq (FX rfl (Tu.cons rfl (DY (v:=.vs a.sz (l.map a.enc)) rfl (Tu.cons rfl (lW (sz:=a.sz) (rows:=l.map a.enc) rfl K rfl λL T=>Tu.nil ?_)))))))))));have o:L=true->l=[]:=λh=>by by_cases j:l=[]<;>simp_all
  have d:(A6 H++[EU.live 0 []]).set (A6 H).length EU.dead=A6 (H++[.dead]):=by simp_all[Qx,Ak,IU,A6,Dl.enc]
  refine Lr.cond (b:=L) rfl (λz=>?_) (λS=>?_);refine Lr.seq (FX rfl (Tu.cons rfl (DY (v:=.nils) rfl (Tu.nil (Lr.weak (F3.virt (t:=2) (sz:=a.sz) rfl) (Lr.ret (⟨.sl (A6 H).length 0 a.sz 0 0,.vs a.sz [],(A6 H++[EU.live 0 []]).set (A6 H).length EU.dead,by simp[bk,hr,Qs,fu,Env.putO,Env.put,Env.get],Nd.none (by simp) (by simp) a.sz_pos,?_⟩)))))));rw[d];exact M (o z);refine Lr.skip (Lr.seq (FX rfl (Tu.cons rfl (RT (sz:=a.sz) (vs:=[]) rfl (A _) (Tu.cons rfl (DY (v:=.vs a.sz (l.map a.enc)) rfl (Tu.cons rfl ?_)))))));have I:Mn (A6 H++[EU.live 0 []]) a.sz (.vs a.sz (l.map a.enc))=some (l.length,a.E.cl l):=by simp only[Mn,if_true,Dc];rfl
  have s:0+l.length<=16777216:=by rcases f with rfl|⟨r,hr⟩;simp;obtain⟨N,_⟩:=gF hr;simpa using N
  refine QF (sx:=.tmp 5) (xx:=.tmp 6) (H:=A6 H++[EU.live 0 []]) (id:=(A6 H).length) (g:=0) (g':=l.length) (n:=0) (cs:=[]) (m:=l.length) (news:=a.E.cl l) rfl B a.sz_pos x rfl (by simp) (by simp) I s (by rcases Qz l.length with q|q;exact .inr ⟨q,q⟩;exact .inl q) ?_;refine Tu.cons rfl (DY (v:=.sl (A6 H).length l.length a.sz 0 (0+l.length)) rfl (Tu.nil (Lr.ret ?_)));have O:(A6 H++[EU.live 0 []]).set (A6 H).length (.live l.length ([]++a.E.cl l))=A6 (H++[.buf false a l l.length 0]):=by simp_all[Qx,Ak,IU,A6,Dl.enc]
  by_cases j:l=[];subst j;refine⟨.sl (A6 H).length 0 a.sz 0 0,.vs a.sz [],(A6 H++[EU.live 0 []]).set (A6 H).length EU.dead,by simp[bk,hr,Qs,fu,Env.putO,Env.put,Env.get],?_,?_⟩;have:=Nd.none (n0:=(A6 H).length) (H:=A6 H++[EU.live 0 []]) (id:=(A6 H).length) (g:=0) (off:=0) (by simp) (by simp) a.sz_pos;have e:(A6 H++[EU.live 0 []]).set (A6 H).length (.live ([]:List a.D).length ([]++a.E.cl []))=A6 H++[EU.live 0 []]:=by rw[Qx _ _ (Ak _),IU];rfl
  rw[e];exact this;rw[d];exact M rfl;rcases f with h|⟨r,c⟩;exact(j h).elim;obtain⟨_,G⟩:=gF c;have u:l=r:=by simpa using G.symm
  subst u;refine⟨.sl (A6 H).length l.length a.sz 0 l.length,_,_,by simp[bk,hr,Qs,fu,Env.putO,Env.put,Env.get],Nd.refl _ _ (by simp),?_⟩;grind[CR]
 refine⟨λj=>?_,λr j hr=>?_⟩;subst j;exact i _ (λ_=>⟨rfl,rfl⟩) (λr h=>(h rfl).elim) (.inl rfl);exact i _ (λh=>(j h).elim) (λW _ c=>by rw[hr]at c;injection c with c;subst c;exact⟨rfl,rfl⟩) (.inr ⟨r,hr⟩)
abbrev i64:Ty:=.int .i64
abbrev hn(k i:Nat)(s:List S3)(e:List (Exit×List S3)):Hint:=⟨k,i,[],[],[],[],s,e⟩
def k0{a d:List Ty}{g:DL a→Option (DL d)}(l:List (Nat×List Hint))(b: ∀e∈c,e.Ok P)
  (f:g=λx=>tQ P c (X2 l) 13 F a d x:=by kernel_rfl):(SW.c0 F a d g).Ok P:=tW b λx=>congrFun f x
def k1{P:Program}{a:Ty}{d f:List Ty}{g:a.D→DL d→Option (DL (f++[a]))}(l:List (Nat×List Hint))(e: ∀h∈c,h.Ok P)
  (i:g=λb x=>vz P c (X2 l) 13 F N a d f b x:=by kernel_rfl):(SW.c1 F N a d f g).Ok P:=yZ e λb x=>congrFun (congrFun i b) x
theorem w64(h: -9223372036854775808<=q/\q<=9223372036854775807):IntKind.wrap .i64 q=q:=by grind[IntKind.wrap_i64]
def u5{body:L->Option (Step L R)}(I:L->Prop)(Q:R->Prop)(b:L->Nat)(i: ∀s,I s->(∃r,body s=some (.done r)/\Q r)\/ ∃a,body s=some (.next a)/\I a/\b a<b s){s:L}(h:I s): ∃r,Ad body s=some r/\Q r:=by
 have key: ∀(n:Nat) (s:L),b s<n->I s-> ∃r,Ad body s=some r/\Q r:=by
  intro n;induction n with
  |zero=>intro s j;omega
  |succ n k=>intro s j g;rcases i s g with⟨r,c,d⟩|⟨a,c,d,l⟩;exact⟨r,by rw[Ce,c],d⟩;obtain⟨r,e,f⟩:=k a (by omega) d;exact⟨r,by rw[Ce,c];exact e,f⟩
 exact key (b s+1) s (by omega) h
theorem y9{l:List R}{x:R}(h:l[N]? =some x):ix l (N:Int)=some x:=by unfold ix;grind[Int.toNat_natCast]
def ABp{l:List R}(a:0<=q)(c:q<l.length): ∃x,ix l q=some x/\l[q.toNat]? =some x:=by
 obtain⟨n,rfl⟩:=Eb a;have hn:n<l.length:=by omega
 exact⟨l[n],y9 (Az hn),by simp[hn]⟩
def AAa{l a:List R}(h:l.length+a.length<=16777216):app l a=some (l++a):=if_pos h
theorem yM(a:Qu n R)(h:N<n):Kt a (N:Int)=some (a ⟨N,h⟩):=by grind[Kt]
def Ay(o:Option R)(Q:R->Prop):Prop:= ∃r,o=some r/\Q r
section
variable {α β γ:Type}
theorem AA{r:α}{Q:α->Prop}(h:Q r):Ay (.some r) Q:=⟨r,rfl,h⟩
def Ay.mono{o:Option α}{P Q:α->Prop}(h:Ay o P)(c: ∀r,P r->Q r):Ay o Q:=by obtain⟨r,a,b⟩:=h;exact⟨r,a,c r b⟩
theorem AB{o:Option α}{k:α->Option β}{P:α->Prop}{Q:β->Prop}(h:Ay o P)(b: ∀r,P r->Ay (k r) Q):Ay (Option.bind o k) Q:=by obtain⟨r,rfl,a⟩:=h;exact b r a
theorem EM{o:Option α}{k:α->Option β}{P:α->Prop}{Q:β->Prop}(h:Ay o P)(b: ∀r,o= .some r->P r->Ay (k r) Q):Ay (Option.bind o k) Q:=by obtain⟨r,rfl,a⟩:=h;exact b r rfl a
def AJ{o:Option α}{k:α->Option β}{P:α->Prop}{Q:β->Prop}(a: ∀r,P r->Ay (k r) Q)(h:Ay o P):Ay (Option.bind o k) Q:=AB h a
def AF{a b:Option α}{Q:α->Prop}(d:j=true->Ay a Q)(e:j=false->Ay b Q):Ay (bif j then a else b) Q:=by
 cases j with
 |true=>exact d rfl
 |false=>exact e rfl
def AC{p:Prop}{_:Decidable p}{a b:Option α}{Q:α->Prop}(c:p->Ay a Q)(d: ¬p->Ay b Q):Ay (bif decide p then a else b) Q:=AF (λh=>c (of_decide_eq_true h)) (λh=>d (of_decide_eq_false h))
def AO{a b:Option α}{Q:α->Prop}(d:j=false->Ay a Q)(e:j=true->Ay b Q):Ay (bif !j then a else b) Q:=by
 cases j with
 |true=>exact e rfl
 |false=>exact d rfl
theorem AQ{_:BEq R} [LawfulBEq R] {x y:R}{a b:Option α}{Q:α->Prop}(c:x=y->Ay a Q)(d:x≠y->Ay b Q):Ay (bif x==y then a else b) Q:=AF (λh=>c (eq_of_beq h)) (λh=>d (ne_of_beq_false h))
theorem AL{_:BEq R} [LawfulBEq R] {x y:R}{a b:Option α}{Q:α->Prop}(c:x≠y->Ay a Q)(d:x=y->Ay b Q):Ay (bif x !=y then a else b) Q:=by refine AF (λh=>c λe=>?_) (λh=>d ?_);subst e;simp at h;simpa using h
def BP{a b:Option α}{k:α->Option β}{Q:β->Prop}(h:Ay (bif j then Option.bind a k else Option.bind b k) Q):Ay (Option.bind (bif j then a else b) k) Q:=by cases j<;>exact h
def BE{a:α}{k:α->Option β}{Q:β->Prop}(h:Ay (k a) Q):Ay (Option.bind (.some a) k) Q:=h
def BX{o:Option α}{f:α->Option β}{k:β->Option γ}{Q:γ->Prop}(h:Ay (Option.bind o λv=>Option.bind (f v) k) Q):Ay (Option.bind (Option.bind o f) k) Q:=by cases o<;>exact h
def L4{f:α->Option γ}{g:β->Option γ}{o:α ⊕ β}{k:γ->Option R}{Q:R->Prop}(h:Ay (Sum.elim (λu=>Option.bind (f u) k) (λu=>Option.bind (g u) k) o) Q):Ay (Option.bind (Sum.elim f g o) k) Q:=by cases o<;>exact h
theorem BF{u:α}{f:α->Option γ}{g:β->Option γ}{Q:γ->Prop}(h:Ay (f u) Q):Ay (Sum.elim f g (.inl u)) Q:=h
theorem BC{u:β}{f:α->Option γ}{g:β->Option γ}{Q:γ->Prop}(h:Ay (g u) Q):Ay (Sum.elim f g (.inr u)) Q:=h
theorem A2{f:α->Option γ}{g:β->Option γ}{o:α ⊕ β}{Q:γ->Prop}(a: ∀u,o= .inl u->Ay (f u) Q)(b: ∀u,o= .inr u->Ay (g u) Q):Ay (Sum.elim f g o) Q:=by
 cases o with
 |inl u=>exact a u rfl
 |inr u=>exact b u rfl
def Ay.get{o:Option α}{Q:α->Prop}{r:α}(h:Ay o Q)(e:o= .some r):Q r:=by obtain⟨s,a,b⟩:=h;rw[e]at a;injection a with a;rw[a];exact b
def Ay.and{o:Option α}{P Q:α->Prop}(h:Ay o P)(g:Ay o Q):Ay o λr=>P r/\Q r:=by obtain⟨r,a,b⟩:=h;exact⟨r,a,b,g.get a⟩
theorem AE{l:List α}{i:Int}(b:0<=i:=by omega)(c:i<l.length:=by omega):Ay (ix l i) λx=>l[i.toNat]? = .some x/\x∈l:=by obtain⟨x,d,a⟩:=ABp b c;exact⟨x,d,a,BJ a⟩
theorem Ac{l a:List α}(h:l.length+a.length<=16777216):Ay (app l a) λr=>r=l++a/\r.length=l.length+a.length/\r.length<=16777216:=⟨_,AAa h,rfl,by simp,by simp;omega⟩
def CY{a b:Bb}(h:a.length+b.length<=9223372036854775807):Ay (sapp a b) λr=>r=a++b/\r.length=a.length+b.length:=by refine⟨a++b,?_,rfl,by simp⟩;unfold Go.Ab.sapp;rw[if_pos h]
theorem Dr{s:Bb}{b:Int}(c:0<=q:=by omega)(d:q<=b:=by omega)(e:b<=s.length:=by omega):Ay (Rp s q b) λr=>r=(s.drop q.toNat).take (b.toNat-q.toNat)/\(r.length:Int)=b-q:=by refine⟨_,if_pos ⟨c,d,e⟩,rfl,?_⟩;rw[CH,G9];omega
def Bu{s:List α}{lo hi:Int}(a:0<=lo:=by omega)(b:lo<=hi:=by omega)(c:hi<=s.length:=by omega):Ay (Zb s lo hi) λr=>r=(s.drop lo.toNat).take (hi.toNat-lo.toNat)/\(r.length:Int)=hi-lo:=by refine⟨_,if_pos ⟨a,b,c⟩,rfl,?_⟩;rw[CH,G9];omega
def Pe{s:Bb}{i:Int}(a:0<=i)(c:i<s.length):Ay (six s i) λb=>0<=b/\b<256:=by
 obtain⟨n,rfl⟩:=Eb a;have hn:n<s.length:=by omega
 refine⟨(s[n].toNat:Int),?_,by omega,?_⟩;unfold Go.Ab.six;simp[hn];have:=s[n].toNat_lt;omega
def Dh{a:Qu n α}(b:0<=q)(c:q<n):Ay (Kt a q) λx=>x=a ⟨q.toNat,by omega⟩:=by obtain⟨k,rfl⟩:=Eb b;exact⟨_,yM a (by omega),rfl⟩
theorem jw{z:α}(a:0<=q)(b:q<=16777216):Ay (mk z q q) λr=>r=List.replicate q.toNat z/\(r.length:Int)=q:=by refine⟨List.replicate q.toNat z,?_,rfl,by simp;omega⟩;unfold Go.Ab.mk;rw[if_pos ⟨a,Ae _,b⟩]
def AM{body:L→Option (Step L R)}(I:L→Prop)(c:L→Nat){Q:R→Prop}{s:L}(d:I s)
  (g: ∀s,I s->Ay (body s) λb=>match b with| .next a=>I a/\c a<c s| .done r=>Q r):Ay (Ad body s) Q:=by
 obtain⟨r,e,f⟩:=u5 (body:=body) I Q c (λs h=>by
  obtain⟨b,q1,q2⟩:=g s h;cases b with
  |next a=>exact .inr ⟨a,q1,q2.1,q2.2⟩
  |done r=>exact .inl ⟨r,q1,q2⟩) d
 exact⟨r,e,f⟩
def S2(n:Int):IntKind.wrap .u64 n=n%18446744073709551616:=by simp[IntKind.wrap,IntKind.bits,IntKind.signed]
theorem rJ(n:Int):IntKind.wrap .u32 n=n%4294967296:=by simp[IntKind.wrap,IntKind.bits,IntKind.signed]
def zp(n:Int):IntKind.wrap .u8 n=n%256:=by simp[IntKind.wrap,IntKind.bits,IntKind.signed]
def XW{Q:α->Prop}(h:False):Ay .none Q:=h.elim
theorem AW{x:Int}(h: -9223372036854775808<=x/\x<=9223372036854775807:=by omega):wi x=x:=w64 h
def xt(x:Int):wi x=(x+9223372036854775808)%18446744073709551616-9223372036854775808:=by unfold wi;rw[IntKind.wrap_i64]
end
open Go.ChangeShapes Go.WideShapes Go.ChangeAt Go.RowKit
def gh0:Gh:=⟨λ_=>none,λ_=>0,λ_=>0⟩
def zz(w:World):Cx:=cx (λ_=>False) gh0 [] w
def ACg(w:World):Iq (λ_=>False) gh0 [] w where
 out B h:=h.elim
 live id g cs h:=by simp at h
 lp id L h:=by simp at h
 inj id id' e e' B h:=by simp at h
 bld id e h:=by simp at h
theorem sU: ¬(zz v).O N:=by rintro(h|⟨id,e,h,_⟩);exact h;grind
def gX{Q:AV→As→Prop}(h:Es P F g [] Q){w:World}{cargs:Array Value}(hn:cargs.size=g.length)
  (d: ∀(j:Nat) (v:AV) (c:Value),g[j]? =some v->cargs[j]? =some c->Bf (zz w) v c):
  Calls P F cargs w λe b=> ∃c v x a,e= .returned c/\Q v a/\Bf x v c/\Below w.heap.size w b:=by
 refine(h (λ_=>False) gh0 w cargs (ACg w) hn d).mono ?_;rintro e b ⟨c,v,i,a,rfl,q,_,r,x⟩;refine⟨c,v,_,a,rfl,q,r,x.os,x.tape,x.output,x.size,λk l=>x.keep k l ?_⟩;rintro⟨id,e,f,_⟩;simp at f
def vV{k:IntKind}{a:Addr}{b:List Int}(A:N≤n)(D:b.length=n)(t: ∀i,i<b.length→v.cell? (a.add i)=some (.int k (b.getD i 0)))(q:a.block<v.heap.size∨N=0):
  Bf (zz v) (.vs 1 ((b.take N).map λF=>.int k F)) (.slice (some a) N n):=by
 have d:((b.take N).map λF=>AV.int k F).length=N:=by simp;omega
 have g: ∀(j:Nat) (e:AV),((b.take N).map λF=>AV.int k F)[j]? =some e->j<N/\e= .int k (b.getD j 0):=by
  intro j e h;rw[CL]at h;cases c:(b.take N)[j]? with
  |none=>rw[c]at h;cases h
  |some F=>
   rw[c]at h;simp only[Be,Ai]at h;subst h;have p:j<(b.take N).length:=by rcases Ap j (b.take N).length with h|h;exact h;rw[Cs h]at c;cases c
   simp only[CH]at p;rw[dm (by omega)]at c;exact⟨by omega,by rw[I1,c];rfl⟩
 have key:=Bf.vs (x:=zz v) (sz:=1) (rows:=(b.take N).map λF=>.int k F) (a:=some a) (cap:=n) (λj _=>.int k (b.getD j 0)) (by rw[d];exact A) (by omega)
  (λj e h=>by rw[(g j e h).2];rfl)
  (λr=>by
   have C:0<N:=by rcases Qz N with h|h;subst h;simp at r;exact h
   have m:a.spot=none:=by have:=t 0 (by omega);unfold World.cell? at this;split at this;split at this;cases this;rename_i u;simp only[Addr.add,if_true]at u;simpa using u;cases this
   obtain⟨B,s,E⟩:=a;simp only at m;subst m;refine⟨B,s,rfl,sU,?_,λj e i w c l=>?_⟩;rcases q with h|h;exact h;omega;obtain⟨y,o⟩:=g j e c;subst o;have f:i=0:=by
    simp only[AV.cells]at l;cases i with
    |zero=>rfl
    |succ i=>simp at l
   subst f;refine⟨?_,rfl⟩;have:=t j (by omega);simp only[Nat.mul_one,Qy];show v.cell? _=_;rw[<-this];unfold Addr.add;split;rename_i z;subst z;rfl;rfl)
  (λj e i w c l=>by
   obtain⟨y,o⟩:=g j e c;subst o;have f:w= .int k (b.getD j 0):=by
    simp only[AV.cells]at l;cases i with
    |zero=>simpa using l.symm
    |succ i=>simp at l
   subst f;exact .int _ _)
 rw[d]at key;exact key
def xq:Bf (zz v) (.vs 1 []) (.slice none 0 0):=Bf.vs (x:=zz v) (sz:=1) (rows:=[]) (a:=none) (cap:=0) (λ_ _=>.nilFunc) (by simp) (by omega) (λj e h=>by simp at h) (λh=>absurd rfl h) (λj e i w h=>by simp at h)
end Go.Ab
