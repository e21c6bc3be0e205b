/- A layer over the model in which values are trees: its laws and a typed interpreter, part 4. Texts of the folder wip, laid in few files with shorter names by a program (wip/tools/pack.py); nothing is assumed. -/
import Derived.Test.YtimajmppopkomaaGreatK3
import Derived.KernelRfl
import Derived.ProofKit
noncomputable section
set_option linter.unusedVariables false
set_option linter.unusedSimpArgs false
set_option linter.unusedSectionVars false
set_option linter.defProp false
set_option linter.unnecessarySimpa false
set_option linter.deprecated false
namespace Go.Ab
def isLen:Op->Bool
 | .call {callee:=.builtin .len,.. }=>true
 | .move _=>true
 | .assign _=>true
 | .extract _ _=>true
 |_=>false
def rdT(env:BQ)(op:Op):List Nat:=match isLen op with|true=>[]|false=>op.operands.toList.flatMap λx=>idT (Ib env x)
def UW(o:Oper)(env:BQ):BQ:=(tmpsOf o).filterMap λt=>match env.get t with| .c (.raw .any)=>none|v=>some (t,v)
def eK(ids:List Nat):Nat->Am->List Nat
 |_,[]=>[]
 |j,.live false cs::r=>match (Kb cs).any λi=>Ni i ids with|true=>j::eK ids (j+1) r|false=>eK ids (j+1) r
 |j,_::r=>eK ids (j+1) r
variable {N n z:Nat}{a A:List Nat}{R y:Type}{b B:Am}{c:List QY}{d J:Code}{F:FuncId}{P:Program}{e:List Oper}{f L O:BQ}{g:List AV}{i:AV}{j:Bool}{k:Pz}{m M:TypeId}{p:Ty}{q:Int}{t:List TV}{u:Env}{v:World}{w:TV}{x:Exit}{D:Dp}{E:Bc}{G:Operand}{I:IntKind}{K:Value}{o:Oper}
section
variable {R:Type}
def quD(P:Program)(env:BQ)(H:Am)(op:Op)(k:TV->Option R):Option R:=
 match op with
 | .buildSlice t len parts=>lK P env t len parts k
 |op=>quT P env H op k
def yi(P:Program)(cs:List QY)(call:Pz)(env:BQ)(H:Am)(op:Op)(k:TV->Am->Option R):Option R:=
 match op with
 | .box _ x=>AAT H (Ib env x) k
 | .store t a v=>storeT P H t (Ib env a) (Ib env v) k
 | .makeSlice t x y=>bv P H t (Ib env x) (Ib env y) k
 | .buildSlice t len parts=>XK P env H t len parts k
 | .call c=>
  match fL env (.call c)with
  |some (F,vs)=>
   match Enters P F with
   |true=>
    match lV cs F with
    |some ct=>vc ct vs H k
    |none=>match isNil vs with|true=>call (.fn F) [] (H.map Dp.lock) λv H'=>k v (UG H H')|false=>call (.fn F) vs H k
   |false=>none
  |none=>
   match oX env c with
   |some (id,vs)=>call (.yd id) vs H k
   |none=>
    match c with
    |{callee:=.builtin .append,args:=⟨[s,x]⟩,argTypes:=⟨[t,t']⟩}=>match Nat.beq t t' with|true=>mJ P H t (Ib env s) (Ib env x) k|false=>none
    |_=>none
 |_=>none
def ADi(P:Program)(cs:List QY)(call:Pz)(env:BQ)(H:Am)(op:Op)(k:TV->Am->Option R):Option R:=
 match G4 (gS cs env H op) env H with
 |(ef,hf)=>yi P cs call ef hf op k
def sR(cs:List QY)(env:BQ)(H:Am)(op:Op):List Nat:=
 match gS cs env H op with
 |[]=>qj cs env H op
 |ids=>ids++eK ids 0 H++(match G4 ids env H with|(ef,hf)=>qj cs ef hf op)
def ADp:Op->Bool
 | .buildSlice .. =>true
 |_=>false
def vH(P:Program)(cs:List QY)(call:Pz)(ops:Array Oper)(m:List Nat)(gs:List Nat)(ow:Bool):List Nat->List (Nat×List Nat)->BQ->Am->(BQ->Am->Option R)->Option R
 |[],_,env,H,k=>k env H
 |i::r,pend,env,H,k=>
  match ops[i]? with
  |none=>none
  |some o=>
   match o.op with
   | .alloc t=>
    match oY P t with
    |some z=>
     match o.guard.isNone&&r.all (λj=>ON m i j||Hh ops j)with
     |true=>vH P cs call ops m gs ow r pend (env.putO o.dst (.c (.raw (.ptr H.length 0 0)))) (H++[.live false z]) k
     |false=>none
    |none=>none
   |op=>
    match bm ops o.guard env with
    |some false=>vH P cs call ops m gs ow r ((i,[])::pend) (env.putO o.dst (.tup [])) H k
    |some true=>
     match dq op&& !(ow&&ADp op)with
     |true=>
      match (rdT env op).all λid=>Nat.blt id H.length with
      |true=>quD P env H op λv=>force (Ni i gs) v λv'=>vH P cs call ops m gs ow r ((i,rdT env op)::pend) (env.putO o.dst v') H k
      |false=>none
     |false=>
      match r.all (λj=>ON m i j||Hh ops j)&&pend.all (λp=>ON m p.1 i||p.2.all λid=>!Ni id (sR cs (UW o env) H op))with
      |true=>ADi P cs call (UW o env) H op λv H'=>force (Ni i gs) v λv'=>vH P cs call ops m gs ow r pend (env.putO o.dst v') H' k
      |false=>none
    |none=>none
variable {P:Program} {N:Nat} {o:Oper} {env:BQ} {H:Am} {r:R}
theorem wK(env:BQ)(a:Op)(h:isLen a=false):xV (Bw env) a=rdT env a:=by grind[xV,rdT,JD,AA1]
theorem gJ.len{env:Env}{H:Ap}{v:AV}(b:isLen o.op=true)(e:CM P env H o.op=some v):gJ P N o env H [] v:=by
 intro c f d _;refine Db (v:=v) ?_ ⟨rfl,rfl⟩;rw[qA (bI d),<-e];generalize o.op=op at b;unfold isLen at b;split at b;rename_i args a;obtain⟨args⟩:=args;obtain⟨a⟩:=a;match args,a with
 |[x],[t]=>rfl
 |[],_=>rfl
 |_::_::_,_=>rfl
 |[_],[]=>rfl
 |[_],_::_::_=>rfl
 rfl;rfl;rfl;cases b
theorem xT{k:TV->Option R}(ok:Oc env H)(h:quD P env H o.op k=some r): ∃v,gJ P N o (Bw env) (A7 H) (rdT env o.op) v.enc/\k v=some r/\v.ok H:=by
 have n:quT P env H o.op k=some r-> ∃v,gJ P N o (Bw env) (A7 H) (rdT env o.op) v.enc/\k v=some r/\v.ok H:=λh=>by
  obtain⟨v,f,i,j⟩:=qB ok h;refine⟨v,?_,i,j⟩;cases z:isLen o.op with
  |true=>grind[rdT,gJ.len]
  |false=>rw[<-wK _ _ z];exact Uz f
 generalize b:o.op=op at h;unfold quD at h;split at h;rename_i t len a;unfold lK at h;split at h;rename_i q l;split at h;rename_i e;split at h;rename_i F d;have E:=oF l e;refine⟨_,?_,h,JU trivial⟩;rw[<-b,<-wK _ _ (by rw[b];rfl)];have y:qh P (Bw env) (A7 H) o.op=some (.vs q.sz ((a.toList.map λp=>Ib env p.2).map TV.enc)):=by grind[qh]
 have A:=dn (N:=N) y;intro x m f i;have j:=A x m f i;refine Iv.after (v:=.vs q.sz ((a.toList.map λp:Nat×Operand=>Ib env p.2).map TV.enc)) (H1:=m) j λX g w s=>⟨SO.refl _ _,λc D=>ABn (gx d) (dg d) (λv C=>?_) _ _ D⟩
 unfold cA at e;simp only[BN]at e;obtain⟨u,B,rfl⟩:=Br.1 C;have:=Ft.1 e.1.1.2 u B;split at this;simp_all[Wb,aC];cases this;cases h;cases h;cases h;grind
theorem wz{b:Op}{a:TV->Am->Option R}(h:yi P c k env H b a=some r):sU P c k env H b a=some r:=by unfold yi at h;unfold sU;split at h<;>grind
theorem pw{p:Nat×TV}(h:p∈UW o f):p.1∈tmpsOf o/\p.2=f.get p.1/\p.2≠ .c (.raw .any):=by obtain⟨t,b,a⟩:=PH.1 h;grind
theorem AAs(h:w.enc= .any):w= .c (.raw .any):=by
 cases w with
 |c x=>
  cases x with
  |ar n t a=>cases h
  |_=>grind[TV.enc,Bc.one]
 |_=>simp[TV.enc]at h
theorem gQ{t:Nat}: ∀{l:BQ},(∀p∈l,p.1≠t)->BQ.get l t=RE
 |[],_=>rfl
 |(k,u)::r,h=>by simp only[BQ.get,beq_false (h (k,u) (by simp))];exact gQ λp a=>h p (by simp[a])
theorem pj{j:Nat}: ∀{l:List Nat},j∈l->Ni j l=true
 |i::r,h=>by simp only[Ni];rcases A1.1 h with rfl|h;rw[JT];rw[pj h];split<;>rfl
def ABr(ids:List Nat)(H:Am)(j:Nat):Prop:= ∀cs,H[j]? =some (.live false cs)-> ∀i∈Kb cs,i∉ids
theorem lj{ids:List Nat}: ∀{H:Am} {i j:Nat},i+j∉eK ids i H->ABr ids H j
 |e::r,i,0,hn,c,h=>by grind[eK,pj]
 |e::r,i,j+1,hn,c,h=>by
  have d:(i+1)+j∉eK ids (i+1) r:=by
   have f:i+1+j=i+(j+1):=by omega
   rw[f];intro a;apply hn;cases e with
   |live b c=>cases b<;>grind[eK]
   |dead=>exact a
   |buf=>exact a
   |lp=>exact a
   |mp=>exact a
  exact lj (ids:=ids) d c h
def iE{id b:Nat}{t:Ty}{l:List t.D}: ∀{a:List Bc},id∉Kb a->a.map (Mp id b t l)=a
 |[],_=>rfl
 |x::r,h=>by
  cases x with
  |own d c e n=>simp only[Kb,A1,not_or]at h;simp only[Be,Mp,beq_false h.1,Bool.false_and,iE h.2]
  |_=>simp only[Kb]at h;simp only[Be,Mp,iE h]
def bJ: ∀(a:List Nat) {env:BQ} {H:Am} {j:Nat},j∉a->ABr a H j->(G4 a env H).2[j]? =H[j]?
 |[],_,_,_,_,_=>rfl
 |id::r,env,H,j,hj,hn=>by
  simp at hj;simp only[G4];split;rename_i e h d;have m:h[j]? =H[j]? :=by
   unfold frz at d;split at d;rename_i t l n q s;simp at d;rw[<-d.2,Dt (λe=>hj.1 e.symm),CC];cases p:H[j]? with
   |none=>rfl
   |some o=>
    simp;cases o with
    |live b c=>
     cases b with
     |false=>simp only[PP];rw[iE λf=>hn c p id f JS]
     |true=>rfl
    |_=>rfl
   cases d
  rw[bJ r hj.2 λc g i k f=>hn c (m▸g) i k (CN _ f),m];exact bJ r hj.2 λc g i k f=>hn c g i k (CN _ f)
theorem uT(l: ∀b∈c,b.Ok P)(g:T6 P k){f:TV→Am→Option R}(ok:Oc env H)(h:ADi P c k (UW o env) H o.op f=some r):
  ∃v d,Eff P N o (Bw env) (A7 H) (sR c (UW o env) H o.op) (Cr v.enc (A7 d))/\f v d=some r/\v.ok d/\(∀e∈d,e.ok d)/\Bx H d:=by
 have n:Oc (UW o env) H:=⟨λp m=>by rw[(pw m).2.1];exact ka ok.env _,ok.heap⟩
 obtain⟨s,u,A⟩:=Oh (gS c (UW o env) H o.op) n;have w:=λj=>bJ (gS c (UW o env) H o.op) (env:=UW o env) (H:=H) (j:=j);have x: ∀id,id∉sR c (UW o env) H o.op->id∉qj c (G4 (gS c (UW o env) H o.op) (UW o env) H).1 (G4 (gS c (UW o env) H o.op) (UW o env) H).2 o.op/\(G4 (gS c (UW o env) H o.op) (UW o env) H).2[id]? =H[id]? :=by intro id a;unfold sR at a;split at a;rename_i z;rw[z];exact⟨a,rfl⟩;simp only[At,not_or]at a;refine⟨a.2,w id a.1.1 (lj (i:=0) (by grind))⟩
 obtain⟨v,d,q1,q2,q3,q4,q5,q6⟩:=lT (N:=N) l g s (wz h);refine⟨v,d,⟨λt G=>Iv.before (Fs.subset λq y=>?_) (Iv.before (A N) q1),?_⟩,q2,q3,q4,u.step.trans q5⟩;obtain⟨p,m,rfl⟩:=Br.1 y;obtain⟨D,E,F⟩:=pw m;grind[Sg,NA,AAs];rintro _ _ ⟨rfl,rfl⟩ id a hn;rw[CO]at a;obtain⟨B,C⟩:=x id hn;rw[FF,FF,q6 id (C9 a u.step.len) B,C]
def SI{j:Nat}: ∀{l:List Nat},Ni j l=false->j∉l
 |i::r,h=>by simp only[Ni]at h;split at h;cases h;rename_i b;intro a;rcases A1.1 a with rfl|a;rw[JT]at b;cases b;exact SI h a
 |[],_=>λh=>by cases h
def oi(ops:Array Oper)(l:List Nat):List Nat:=l.filterMap λi=>(ops[i]?).bind (·.dst)
theorem WZ{L:List QY}(u: ∀c∈L,c.Ok P){w:Pz}(s:T6 P w){b:Array Oper}{X:List Nat}{ow:Bool}: ∀(l:List Nat) (n:List (Nat×List Nat)) (env:BQ) (H:Am) (k:BQ→Am→Option R) (r:R),Oc env H→
  vH P L w b (Hr b.toList []) X ow l n env H k=some r->
  ∃a q,RA P N b l n (Bw env) (A7 H) (λe h=>e=Bw a/\h=A7 q)/\k a q=some r/\Oc a q/\FB (oi b l) env H a q
 |[],n,env,H,k,r,ok,h=>⟨env,H,⟨rfl,rfl⟩,h,ok,FB.refl _ _ _⟩
 |i::l,n,env,H,k,r,ok,h=>by
  simp only[vH]at h;simp only[RA];cases J:b[i]? with
  |none=>rw[J]at h;cases h
  |some o=>
   rw[J]at h;simp only at h⊢;have m: ∀{e:BQ} {h:Am} {v:TV},FB (oi b [i]) e h (e.putO o.dst v) h:=by
    intro e h v;refine⟨Bx.refl h,λt T _=>?_⟩;cases hd:o.dst with
    |none=>rfl
    |some d=>refine jg λe=>T ?_;simp[oi,J,hd,e]
   have g: ∀t,t∈oi b [i]++oi b l->t∈oi b (i::l):=by grind[oi]
   split at h;rename_i t Q;split at h;rename_i z hz;split at h;rename_i F;simp only[BN]at F;obtain⟨z1,z2⟩:=We hz;have I:=Bx.push H (.live false z);have f:Oc (env.putO o.dst (.c (.raw (.ptr H.length 0 0)))) (H++[.live false z]):=⟨Yk (I.env ok.env) (JU trivial),Ob ok.heap (z2 _)⟩
   obtain⟨a,q,x,C,D,E⟩:=WZ u s l _ _ _ _ _ f h;have G:o.guard=none:=by simpa using F.1
   refine⟨a,q,?_,C,D,?_⟩;rw[G];refine .inr (.inr ⟨t,lvs z,Q,z1,λj V=>?_,?_⟩);grind[List.all_eq_true];have M:Bw (env.putO o.dst (.c (.raw (.ptr H.length 0 0))))=(Bw env).putO o.dst (.ptr (A7 H).length 0 0):=by rw[VZ,CO];rfl
   have W:A7 (H++[.live false z])=A7 H++[.live 0 (lvs z)]:=Ps _ _;rw[M,W]at x;exact x;have U:FB (oi b [i]) env H (env.putO o.dst (.c (.raw (.ptr H.length 0 0)))) (H++[.live false z]):=⟨I,(m (h:=H)).same⟩
   exact(FB.trans ok.env U E).mono g;cases h;cases h;rename_i O;have y:Hh b i=false:=by
    cases Z:Hh b i with
    |false=>rfl
    |true=>obtain⟨t,T⟩:=(UU J).1 Z;exact(O t T).elim
   split at h;rename_i G;have f:Oc (env.putO o.dst (.tup [])) H:=⟨Yk ok.env (Pw λv hv=>by cases hv),ok.heap⟩
   obtain⟨a,q,x,C,D,E⟩:=WZ u s l _ _ _ _ _ f h;have M:(Bw env).putO o.dst (.tup [])=Bw (env.putO o.dst (.tup [])):=by rw[VZ];rfl
   exact⟨a,q,jO G ⟨y,by rw[M];exact x⟩,C,D,(FB.trans ok.env m E).mono g⟩;rename_i G;split at h;split at h;rename_i S;obtain⟨v,q1,q2,q3⟩:=xT (N:=N) ok h;have B:=hY q2;have f:Oc (env.putO o.dst v) H:=⟨Yk ok.env q3,ok.heap⟩
   obtain⟨a,q,x,C,D,E⟩:=WZ u s l _ _ _ _ _ f B;refine⟨a,q,eE G (.inl ⟨y,v.enc,rdT env o.op,q1,λid A=>?_,by rw[<-VZ];exact x⟩),C,D,(FB.trans ok.env m E).mono g⟩;have:=Ft.1 S id A;rw[CO];exact KK this;cases h;split at h;rename_i F;simp only[BN]at F;obtain⟨v,K,q1,q2,q3,q4,q5⟩:=uT (N:=N) u s ok h;have B:=hY q2;have f:Oc (env.putO o.dst v) K:=⟨Yk (q5.env ok.env) q3,q4⟩
   obtain⟨a,q,x,C,D,E⟩:=WZ u s l _ _ _ _ _ f B;refine⟨a,q,eE G (.inr (.inl ⟨y,sR L (UW o env) H o.op,λj V=>by simpa using List.all_eq_true.1 F.1 j V,λp hp=>?_,Cr v.enc (A7 K),q1,?_,?_⟩)),C,D,?_⟩;have:=Ft.1 F.2 p hp;simp only[eY,Ft,VX]at this;exact this.imp id λY id A=>SI (Y id A);rintro _ _ ⟨rfl,rfl⟩;rw[CO,CO];exact q5.len;rintro _ _ ⟨rfl,rfl⟩;rw[<-VZ];exact x;have U:FB (oi b [i]) env H (env.putO o.dst v) K:=⟨q5,(m (h:=H)).same⟩
   exact(FB.trans ok.env U E).mono g;cases h;cases h
end
abbrev DV:=(t:Ty)×t.D
def yh:(ts:List Ty)->DL ts->List DV
 |[],_=>[]
 |[t],x=>[⟨t,x⟩]
 |t::u::r,x=>⟨t,x.1⟩::yh (u::r) x.2
def uk:(ts:List Ty)->List DV->Option (DL ts)
 |[],[]=>some ()
 |[t],[⟨t',x⟩]=>if h:t'.beq t=true then some (Ty.cast h x)else none
 |t::u::r,⟨t',x⟩::ds=>if h:t'.beq t=true then match uk (u::r) ds with|some y=>some (Ty.cast h x,y)|none=>none else none
 |_,_=>none
def vo{a:Ty}(h:a.beq p=true)(x:a.D):(⟨p,Ty.cast h x⟩:DV)=⟨a,x⟩:=by have e:=Ty.beq_eq a p h;subst e;rfl
theorem kp: ∀{b:List Ty} {a:List DV} {s:DL b},uk b a=some s->yh b s=a
 |[],[],s,_=>rfl
 |[],_::_,s,h=>by cases h
 |[t],[],s,h=>by cases h
 |[t],[⟨t',x⟩],s,h=>by simp only[uk]at h;split at h;rename_i c;injection h with h;subst h;simp only[yh,vo];cases h
 |[t],_::_::_,s,h=>by simp[uk]at h
 |t::u::r,[],s,h=>by cases h
 |t::u::r,⟨t',x⟩::a,s,h=>by simp only[uk]at h;split at h;rename_i c;split at h;rename_i y d;injection h with h;subst h;simp only[yh,vo,kp d];cases h;cases h
inductive Part where
 |d (t:Ty)
 |o (id:Nat)
inductive Th where
 |t (tmp:Nat) (ty:Ty)
 |g (tmp id:Nat)
 |p (id:Nat) (ps:List Part)
 |u (id:Nat) (ty:Ty)
 |x (id:Nat)
 |k (tmp:Nat) (v:AV)
 |y (id:Nat) (s:LS)
 |m (id:Nat) (k:IntKind) (t:Ty)
def ADD:AV->AV->Bool
 | .ptr a b c,.ptr a' b' c'=>Nat.beq a a'&&(Nat.beq b b'&&Nat.beq c c')
 | .nilp,.nilp=>true
 | .nilf,.nilf=>true
 |_,_=>false
def ABS{w:AV}(h:ADD i w=true):i=w:=by unfold ADD at h;split at h<;>simp_all
def K7:List Th->List Nat
 |[]=>[]
 | .p id _::r=>id::K7 r
 | .u id _::r=>id::K7 r
 | .x id::r=>id::K7 r
 | .y id _::r=>id::K7 r
 | .m id _ _::r=>id::K7 r
 |_::r=>K7 r
def oQ:List Th->List Nat
 |[]=>[]
 | .t tmp _::r=>tmp::oQ r
 | .g tmp _::r=>tmp::oQ r
 | .k tmp _::r=>tmp::oQ r
 |_::r=>oQ r
def AC5:List Part->List Ty
 |[]=>[]
 | .d t::r=>t::AC5 r
 |_::r=>AC5 r
def cE:List Th->List Ty
 |[]=>[]
 | .t _ t::r=>t::cE r
 | .p _ ps::r=>AC5 ps++cE r
 | .u _ t::r=>.list t::cE r
 | .m _ k t::r=>.list (.prod (.cons (.int k) (.one t)))::cE r
 |_::r=>cE r
def qb(H:Am)(id:Nat):Bc->Bool
 | .own id' ver _ _=>match Nat.beq id id' with
  |true=>match H[id]? with|some (.buf _ _ _ _ ver')=>Nat.beq ver ver'|_=>false
  |false=>false
 |_=>false
def lP(H:Am)(rest:List Nat):List Part->List Bc->Option (List DV)
 |[],[]=>some []
 | .d t::ps,cs=>
  match t.mk cs with
  |some (x,cs')=>match lP H rest ps cs' with|some ds=>some (⟨t,x⟩::ds)|none=>none
  |none=>none
 | .o id::ps,c::cs=>
  match qb H id c&& !Ni id rest with
  |true=>lP H rest ps cs
  |false=>none
 |_,_=>none
def YB(env:BQ)(H:Am):List Th->Option (List DV)
 |[]=>some []
 | .t tmp ty::r=>
  match ty.data (env.get tmp),YB env H r with
  |some x,some ds=>some (⟨ty,x⟩::ds)
  |_,_=>none
 | .g tmp id::r=>
  match env.get tmp with
  | .c x=>match qb H id x&& !Ni id (K7 r)with|true=>YB env H r|false=>none
  |_=>none
 | .p id ps::r=>
  match H[id]? with
  |some (.live _ cs)=>
   match lP H (id::K7 r) ps cs,YB env H r with
   |some a,some b=>some (a++b)
   |_,_=>none
  |_=>none
 | .u id ty::r=>
  match H[id]? with
  |some (.buf _ t l _ _)=>match t.beq ty,YB env H r with|true,some ds=>some (⟨.list t,l⟩::ds)|_,_=>none
  |_=>none
 | .x _::r=>YB env H r
 | .k tmp v::r=>
  match env.get tmp with
  | .c (.raw w)=>match ADD v w with|true=>YB env H r|false=>none
  |_=>none
 | .y id s::r=>
  match H[id]? with
  |some (.lp _ _ _ _ _ _ _ s')=>match s.beq s' with|true=>YB env H r|false=>none
  |_=>none
 | .m id k t::r=>
  match H[id]? with
  |some (.mp _ k' t' es)=>match decide (k'=k)&&t'.beq t,YB env H r with|true,some ds=>some (⟨.list (.prod (.cons (.int k') (.one t'))),es⟩::ds)|_,_=>none
  |_=>none
def ng(H:Am):List Part->List DV->Option (List Bc×List DV)
 |[],ds=>some ([],ds)
 | .d _::ps,⟨t,x⟩::ds=>match ng H ps ds with|some (cs,r)=>some (t.lvs x++cs,r)|none=>none
 | .o id::ps,ds=>
  match H[id]? with
  |some (.buf _ t _ n ver)=>match ng H ps ds with|some (cs,r)=>some (.own id ver t n::cs,r)|none=>none
  |_=>none
 |_,_=>none
def Us:List Th->List DV->BQ->Am->Option (BQ×Am)
 |[],[],env,H=>some (env,H)
 | .t tmp _::r,⟨t,x⟩::ds,env,H=>Us r ds ((tmp,t.tv x)::env) H
 | .g tmp id::r,ds,env,H=>
  match H[id]? with
  |some (.buf _ t _ n ver)=>Us r ds ((tmp,.c (.own id ver t n))::env) H
  |_=>none
 | .p id ps::r,ds,env,H=>
  match H[id]? with
  |some (.live false _)=>match ng H ps ds with|some (cs,ds')=>Us r ds' env (H.set id (.live false cs))|none=>none
  |_=>none
 | .u id _::r,⟨.list t,l⟩::ds,env,H=>
  match H[id]? with
  |some (.buf false t' _ _ ver)=>match t'.beq t with|true=>Us r ds env (H.set id (.buf false t l l.length (ver+1)))|false=>none
  |_=>none
 | .x id::r,ds,env,H=>
  match H[id]? with
  |some e=>match e.ro||e.isLp with|false=>Us r ds env (H.set id .dead)|true=>none
  |none=>none
 | .k tmp v::r,ds,env,H=>Us r ds ((tmp,.c (.raw v))::env) H
 | .y id s::r,ds,env,H=>
  match H[id]? with
  |some (.lp false F n e ps a b _)=>Us r ds env (H.set id (.lp false F n e ps a b s))
  |_=>none
 | .m id _ _::r,⟨.list (.prod (.cons (.int k) (.one t))),es⟩::ds,env,H=>
  match H[id]? with
  |some (.mp false k' t' _)=>match decide (k'=k)&&t'.beq t with|true=>Us r ds env (H.set id (.mp false k t es))|false=>none
  |_=>none
 |_,_,_,_=>none
def ACN(e e':Dp):Prop:=e'= .dead\/(∃b cs b' cs',e= .live b cs/\e'= .live b' cs'/\DT (lvs cs) (lvs cs'))\/(∃b t l n v b' v',e= .buf b t l n v/\e'= .buf b' t l n v')\/(∃ro ro' F n env ps a b s,e= .lp ro F n env ps a b s/\e'= .lp ro' F n env ps a b s)\/(∃b b' k t es,e= .mp b k t es/\e'= .mp b' k t es)
def HR(H1 H:Am)(rest:List Nat):Prop:= ∀(j:Nat) (e':Dp),Ni j rest=false->H[j]? =some e'-> ∃e,H1[j]? =some e/\ACN e e'
theorem Pv:Ni N (n::a)=false↔N≠n/\Ni N a=false:=by simp[Ni];by_cases h:N=n;simp_all;grind[beq_false]
theorem lQ(j:E.ok b)(h:qb b N E=true): ∃H t l n a,E= .own N a t n/\b[N]? =some (.buf H t l n a):=by unfold qb at h;split at h;rename_i k a t n;split at h;rename_i i;have e:=C8 i;subst e;split at h;rename_i H o l m d g;have f:=C8 h;subst f;have⟨rfl,rfl⟩:=(j.2 _ _ _ _ _ g).2 rfl;grind;cases h;cases h;cases h
theorem Vb{b:Bool}{l:List p.D}(h:B[N]? =some (.buf b p l n z)):Tg B N z p n:=by refine⟨?_,λro g e f c d=>?_⟩;grind;grind
theorem gw{q H:Am}{i:List Nat}(hr:HR q H i): ∀{p:List Part} {m:List Bc} {a b j:List DV} {f:List Bc},lok q m→lP q i p m=some a→ng H p (a++b)=some (f,j)→
  j=b/\DT (lvs m) (lvs f)/\lok H f
 |[],[],a,b,j,f,ok,h,k=>by grind[lP,Option.some.injEq,ng,Prod.mk.injEq,DT.refl,AA8]
 |[],_::_,a,b,j,f,ok,h,k=>by simp[lP]at h
 | .d t::p,m,a,b,j,f,ok,h,k=>by simp[lP]at h;split at h;rename_i x R z;split at h;rename_i S u;cases h;obtain⟨Q,rfl,M⟩:=t.mk_spec _ _ _ z;simp[fA,ng]at k;split at k;rename_i E r v;obtain⟨rfl,rfl⟩:=k;have⟨q1,q2,q3⟩:=gw hr (Ig.1 ok).2 u v;refine⟨q1,?_,Ig.2 ⟨t.lvs_ok x,q3⟩⟩;rw[Gb,Gb,t.lvs_enc];exact M.append q2;cases k;cases h;cases h
 | .o id::p,c::m,a,b,j,f,ok,h,k=>by
  simp[lP]at h;split at h
  ·rename_i s;simp[BN,VX]at s;obtain⟨O,t,l,n,N,rfl,L⟩:=lQ (ok c (by simp)) s.1;simp[ng]at k;split at k
   ·rename_i P t2 l2 Z D B;split at k
    ·rename_i E r v;obtain⟨rfl,rfl⟩:=k;have⟨q1,q2,q3⟩:=gw hr (λx z=>ok x (by simp[z])) h v;have⟨e,C,w⟩:=hr id _ s.2 B;rw[L]at C;cases C;rcases w with g|⟨_,_,_,_,g,_⟩|⟨_,_,_,_,_,_,_,g,K⟩|⟨_,_,_,_,_,_,_,_,_,g,_⟩|⟨_,_,_,_,_,g,_⟩;cases g;cases g;rotate_left;cases g;cases g;injection g with T F U G V;injection K with W I X J Y;subst F G I J;refine⟨q1,?_,λy A=>?_⟩;rw[HJ,HJ];exact(DT.refl _).append q2;rcases A1.1 A with rfl|A;exact Vb B;exact q3 y A
    cases k
   cases k
  cases h
structure IS(env1:BQ)(H1:Am)(slots:List Th)(env:BQ)(H:Am)(env2:BQ)(H2:Am):Prop where
 get: ∀t,Ni t (oQ slots)=false->env2.get t=env.get t
 ok:Oc env2 H2
 env: ∀p∈env2,∃v,(p.1,v)∈env1/\U2 v.enc p.2.enc
 hr:HR H1 H2 []
 step:Bx H H2
 len:H2.length=H.length
 same: ∀j,Ni j (K7 slots)=false->H2[j]? =H[j]?
def eR{t:Nat}{v:TV}: ∀{env:BQ},env.get t=v->v≠RE->(t,v)∈env
 |[],h,hv=>absurd h.symm hv
 |(k,u)::r,h,hv=>by simp only[BQ.get]at h;split at h;simp_all;exact CN _ (eR h hv)
def heap_set(H:Bx b (b.set N D))(ok: ∀x∈b,x.ok b)(a:D.ok (b.set N D)): ∀x∈b.set N D,x.ok (b.set N D):=by intro x c;rcases Tk c with h|rfl;exact H.ent (ok x h);exact a
theorem HR.set{a H:Am}{id:Nat}{d:Dp}(h:HR a H (id::A))(g:a[id]? =some D)(hr:ACN D d):HR a (H.set id d) A:=by intro j x f c;rw[Yv]at c;split at c;grind;rename_i b;exact h j x (Pv.2 ⟨λq=>b q.symm,f⟩) c
theorem xm.set{H c:Am}{id:Nat}{i:Dp}(h:xm H c)(l:id<H.length)(p: ∀ro F n env f a b s,c[id]? =some (.lp ro F n env f a b s)-> ∃g o,i= .lp g F n env f a b o):xm (H.set id i) c:=by intro j k ro F n env f a b s m;rw[fJ]at k;by_cases d:j=id;grind;rw[Dt λe=>d e.symm];exact h j k _ _ _ _ _ _ _ _ m
variable {l:List Th}
theorem ld(id:Nat){H:Am}(c:B[id]? =some D)(g:(D.ro||D.isLp)=false)(a:B.length≤b.length)(lp:xm B b)
  (hr:HR b B (id::K7 l)) (ok:Oc L B) (q0:Oc L (B.set id .dead)->xm (B.set id .dead) b->HR b (B.set id .dead) (K7 l)->IS f b l L (B.set id .dead) O H):IS f b (.x id::l) L B O H:=by
 have r:D.isLp=false:=by grind
 have st:Bx B (B.set id .dead):=Bx.set c (by grind) λ_ _ _ _ _ D=>by cases D
 have d:id<b.length:=by grind
 have q:=q0 ⟨st.env ok.env,heap_set st ok.heap trivial⟩ (lp.set (Gp c) λ_ _ _ _ _ _ _ _ i=>by have⟨k,m,q⟩:=lp id (Gp c) _ _ _ _ _ _ _ _ i;rw[c]at q;injection q with q;rw[q]at r;cases r) (HR.set hr (Aw d) (.inl rfl));refine⟨q.get,q.ok,q.env,q.hr,st.trans q.step,by simpa using q.len,λj h=>?_⟩;have:=Pv.1 h;rw[q.same j this.2,Dt λD=>this.1 D.symm]
def Nh{env1:BQ}{G:Am}(o:Oc env1 G): ∀{slots:List Th} {B:List DV} {env:BQ} {H:Am} {env2:BQ} {D:Am},YB env1 G slots=some B→Us slots B env H=some (env2,D)→Oc env H→
  H.length<=G.length->(∀p∈env,∃v,(p.1,v)∈env1/\U2 v.enc p.2.enc)->HR G H (K7 slots)->xm H G->IS env1 G slots env H env2 D
 |[],B,env,H,env2,D,h,k,ok,hl,he,hr,lp=>by simp only[YB,Ai]at h;subst h;simp only[Us,Ai,Dq]at k;obtain⟨rfl,rfl⟩:=k;exact⟨λ_ _=>rfl,ok,he,hr,Bx.refl _,rfl,λ_ _=>rfl⟩
 | .t tmp ty::r,B,env,H,env2,D,h,k,ok,hl,he,hr,lp=>by
  simp[YB]at h;split at h;rename_i x d L T;cases h;simp[Us]at k;have f:Oc ((tmp,ty.tv x)::env) H:=⟨λp z=>by rcases A1.1 z with rfl|z;exact ty.tv_ok x;exact ok.env p z,ok.heap⟩
  have q:=Nh o T k f hl (λp z=>by rcases A1.1 z with rfl|z;refine⟨env1.get tmp,eR rfl λe=>?_,?_⟩;rw[e]at L;cases ty<;>cases L;simp[ty.tv_enc];exact Lf L;exact he p z) hr lp;refine⟨λt J=>?_,q.ok,q.env,q.hr,q.step,q.len,q.same⟩;have:=Pv.1 J;rw[q.get t this.2];simp[BQ.get,beq_false λe=>this.1 e.symm];cases h
 | .g tmp id::r,B,env,H,env2,D,h,k,ok,hl,he,hr,lp=>by
  simp[YB]at h;split at h
  ·rename_i x L;split at h
   ·rename_i I;simp[BN,VX]at I;have Z:x.ok G:=ka o.env tmp x (by rw[L];simp[TV.refs]);obtain⟨b1,t,l,n,ad,rfl,C⟩:=lQ Z I.1;simp[Us]at k;split at k
    ·rename_i b2 R l2 n2 V h2;have⟨e,U,Y⟩:=hr id _ I.2 h2;rw[C]at U;cases U;rcases Y with i|⟨_,_,_,_,i,_⟩|⟨_,_,_,_,_,_,_,i,h1⟩|⟨_,_,_,_,_,_,_,_,_,i,_⟩|⟨_,_,_,_,_,i,_⟩;cases i;cases i;rotate_left;cases i;cases i;injection i with e1 e2 e3 e4 e5;injection h1 with f1 f2 f3 f4 f5;subst e2 e4 f2 f4;have f:Oc ((tmp,.c (.own id V R n2))::env) H:=⟨λp z=>by rcases A1.1 z with rfl|z;exact JU (Vb h2);exact ok.env p z,ok.heap⟩
     have q:=Nh o h k f hl (λp z=>by rcases A1.1 z with rfl|z;exact⟨_,eR L (λe=>by cases e),U2.refl _⟩;exact he p z) hr lp;refine⟨λt J=>?_,q.ok,q.env,q.hr,q.step,q.len,q.same⟩;have:=Pv.1 J;rw[q.get t this.2];simp[BQ.get,beq_false λe=>this.1 e.symm]
    cases k
   cases h
  cases h
 | .p id Q::r,B,env,H,env2,D,h,k,ok,hl,he,hr,lp=>by
  simp[YB]at h;split at h;rename_i b cs C;split at h;rename_i a b1 ha I;cases h;simp[Us]at k;split at k;rename_i al i;split at k;rename_i M S hi;have X:lok G cs:=by simpa only[Dp.ok]using o.heap _ (BL C)
  have⟨rfl,q2,q3⟩:=gw hr X ha hi;have st:Bx H (H.set id (.live false M)):=Bx.set i rfl λ_ _ _ _ _ e=>by cases e
  have A:HR G (H.set id (.live false M)) (K7 r):=HR.set hr C (.inr (.inl ⟨_,_,_,_,rfl,rfl,q2⟩));have f:Oc env (H.set id (.live false M)):=⟨st.env ok.env,heap_set st ok.heap (by simpa only[Dp.ok]using st.lok q3)⟩
  have q:=Nh o I k f (by simpa using hl) he A (lp.set (Gp i) λ_ _ _ _ _ _ _ _ E=>by rw[C]at E;cases E);refine⟨q.get,q.ok,q.env,q.hr,st.trans q.step,by simpa using q.len,λj N=>?_⟩;have:=Pv.1 N;rw[q.same j this.2,Dt λe=>this.1 e.symm];cases k;cases k;cases h;cases h
 | .u id ty::r,B,env,H,env2,D,h,k,ok,hl,he,hr,lp=>by
  simp[YB]at h;split at h;rename_i b t l n ad C;split at h;rename_i S I T;cases h;simp[Us]at k;split at k;rename_i t' l0 n0 K i;split at k;rename_i J;have e:=Ty.beq_eq _ _ J;subst e;have hn:n=l.length:=by simpa only[Dp.ok]using o.heap _ (BL C)
  have st:Bx H (H.set id (.buf false t' l l.length (K+1))):=Bx.set i rfl λro R l2 n2 v2 e=>by cases e;exact⟨_,_,_,_,rfl,.inl (by omega)⟩
  have A:HR G (H.set id (.buf false t' l l.length (K+1))) (K7 r):=HR.set hr C (.inr (.inr (.inl ⟨_,_,_,_,_,_,_,rfl,by rw[hn]⟩)));have f:Oc env (H.set id (.buf false t' l l.length (K+1))):=⟨st.env ok.env,heap_set st ok.heap rfl⟩
  have q:=Nh o T k f (by simpa using hl) he A (lp.set (Gp i) λ_ _ _ _ _ _ _ _ E=>by rw[C]at E;cases E);refine⟨q.get,q.ok,q.env,q.hr,st.trans q.step,by simpa using q.len,λj N=>?_⟩;have:=Pv.1 N;rw[q.same j this.2,Dt λe=>this.1 e.symm];cases k;cases k;cases h;cases h
 | .x id::r,B,env,H,env2,D,h,k,ok,hl,he,hr,lp=>by
  simp[YB]at h;cases B with
  |nil=>simp[Us]at k;split at k;rename_i e i;split at k;rename_i O;exact ld id i O hl lp hr ok λf P A=>Nh o h k f (by simpa using hl) he A P;cases k;cases k
  |cons d B=>simp[Us]at k;split at k;rename_i e i;split at k;rename_i O;exact ld id i O hl lp hr ok λf P A=>Nh o h k f (by simpa using hl) he A P;cases k;cases k
 | .k tmp w::r,B,env,H,env2,D,h,k,ok,hl,he,hr,lp=>by
  have k':Us r B ((tmp,.c (.raw w))::env) H=some (env2,D):=by cases B<;>simpa only[Us]using k
  simp[YB]at h;split at h;rename_i w' L;split at h;rename_i I;have e:=ABS I;subst e;have f:Oc ((tmp,.c (.raw w))::env) H:=⟨λp z=>by rcases A1.1 z with rfl|z;exact JU trivial;exact ok.env p z,ok.heap⟩
  have hw:w≠ .any:=by rintro rfl;cases I
  have q:=Nh o h k' f hl (λp z=>by rcases A1.1 z with rfl|z;refine⟨_,eR L (λe=>?_),U2.refl _⟩;injection e with e;injection e with e;exact hw e;exact he p z) hr lp;refine⟨λt J=>?_,q.ok,q.env,q.hr,q.step,q.len,q.same⟩;have:=Pv.1 J;rw[q.get t this.2];simp[BQ.get,beq_false λe=>this.1 e.symm];cases h;cases h
 | .y id s::r,B,env,H,env2,D,h,k,ok,hl,he,hr,lp=>by
  simp[YB]at h;split at h;rename_i ap F1 n1 e1 p1 a1 b1 s1 C;split at h;rename_i I;have e0:=LS.beq_eq I;subst e0;obtain⟨F,n,e,Q,a,b,s0,i,k'⟩: ∃F n e Q a b s0,H[id]? =some (.lp false F n e Q a b s0)/\Us r B env (H.set id (.lp false F n e Q a b s))=some (env2,D):=by cases B<;>simp[Us]at k<;>split at k<;>first|exact⟨_,_,_,_,_,_,_,‹_›,k⟩|cases k
  have⟨ar,s2,q⟩:=lp id (Gp i) _ _ _ _ _ _ _ _ C;rw[i]at q;injection q with q;injection q with _ q2 q3 q4 q5 q6 q7 _;subst q2 q3 q4 q5 q6 q7;have st:Bx H (H.set id (.lp false F n e Q a b s)):=Bx.set i rfl (λ_ _ _ _ _ e=>by cases e) λ_ _ _ _ _ _ _ _ e=>by cases e;exact⟨_,_,rfl⟩
  have A:HR G (H.set id (.lp false F n e Q a b s)) (K7 r):=HR.set hr C (.inr (.inr (.inr (.inl ⟨_,_,_,_,_,_,_,_,_,rfl,rfl⟩))));have f:Oc env (H.set id (.lp false F n e Q a b s)):=⟨st.env ok.env,heap_set st ok.heap (by have:=ok.heap _ (BL i);simpa only[Dp.ok]using this)⟩
  have q:=Nh o h k' f (by simpa using hl) he A (lp.set (Gp i) λ_ _ _ _ _ _ _ _ E=>by rw[C]at E;injection E with E;cases E;exact⟨_,_,rfl⟩);refine⟨q.get,q.ok,q.env,q.hr,st.trans q.step,by simpa using q.len,λj N=>?_⟩;have:=Pv.1 N;rw[q.same j this.2,Dt λe=>this.1 e.symm];cases h;cases h
 | .m id kk ty::r,B,env,H,env2,D,h,k,ok,hl,he,hr,lp=>by
  simp[YB]at h;split at h;rename_i b k1 t1 W C;split at h;rename_i S I T;cases h;simp[Us]at k;split at k;rename_i k2 R ao i;split at k;rename_i J;simp[BN,decide_eq_true_eq]at J;have⟨rfl,J⟩:=J;have e:=Ty.beq_eq _ _ J;subst e;have st:Bx H (H.set id (.mp false k2 R W)):=Bx.set i rfl λ_ _ _ _ _ e=>by cases e
  have A:HR G (H.set id (.mp false k2 R W)) (K7 r):=HR.set hr C (.inr (.inr (.inr (.inr ⟨_,_,_,_,_,rfl,rfl⟩))));have f:Oc env (H.set id (.mp false k2 R W)):=⟨st.env ok.env,heap_set st ok.heap trivial⟩
  have q:=Nh o T k f (by simpa using hl) he A (lp.set (Gp i) λ_ _ _ _ _ _ _ _ E=>by rw[C]at E;cases E);refine⟨q.get,q.ok,q.env,q.hr,st.trans q.step,by simpa using q.len,λj N=>?_⟩;have:=Pv.1 N;rw[q.same j this.2,Dt λe=>this.1 e.symm];cases k;cases k;cases h;cases h
def YA(n:Nat):List Bc->Bool
 |[]=>true
 | .own id _ _ _::r=>Nat.blt id n&&YA n r
 | .raw v::r=>v.idsAll (λid=>Nat.blt id n)&&YA n r
 |_::r=>YA n r
mutual
def pP(n:Nat):TV->Bool
 | .c x=>YA n [x]
 | .g cs=>YA n cs
 | .aptr id .. =>Nat.blt id n
 | .bptr id .. =>Nat.blt id n
 | .vptr cs post=>YA n cs&&AV.idsAllL (λid=>Nat.blt id n) post
 | .tup vs=>qX n vs
def qX(n:Nat):List TV->Bool
 |[]=>true
 |v::r=>pP n v&&qX n r
end
def oh(n:Nat):BQ->Bool
 |[]=>true
 |(_,v)::r=>pP n v&&oh n r
def fv(n:Nat):Am->Bool
 |[]=>true
 | .live _ cs::r=>YA n cs&&fv n r
 | .lp _ _ _ env _ _ _ _::r=>oh n env&&fv n r
 |_::r=>fv n r
def iT(h:Nat.blt N n=true):decide (N<n)=true:=by simp_all
def eL(h:Pure i)(n:Nat):(i.idsAll λid=>decide (id<n))=true:=Pj (λ_ h=>by cases h) i h
def tB: ∀{x:Bc},YA n [x]=true->(∀v∈x.enc,(v.idsAll λid=>decide (id<n))=true)/\(x.one.idsAll λid=>decide (id<n))=true
 | .bl _,_=>⟨λv b=>by simp only[Bc.enc,BE]at b;subst b;rfl,rfl⟩
 | .it _ _,_=>⟨λv b=>by simp only[Bc.enc,BE]at b;subst b;rfl,rfl⟩
 | .st _,_=>⟨λv b=>by simp only[Bc.enc,BE]at b;subst b;rfl,rfl⟩
 | .ls t l,_=>⟨λv b=>by simp only[Bc.enc,BE]at b;subst b;exact eL ((Ty.list t).enc_pure l) n,eL ((Ty.list t).enc_pure l) n⟩
 | .ar m t a,_=>by have h:=eL ((Ty.arr m t).enc_pure a) n;refine⟨λv b=>?_,h⟩;exact((DO _ _).1 h) v b
 | .own id ver t m,h=>by simp only[YA,Oe]at h;have:=iT h;exact⟨λv b=>by simp only[Bc.enc,BE]at b;subst b;exact this,this⟩
 | .nil,_=>⟨λv b=>by simp only[Bc.enc,BE]at b;subst b;rfl,rfl⟩
 | .raw v,h=>by simp only[YA,Oe]at h;have:=Pj (λ_ h=>iT h) v h;exact⟨λu c=>by simp only[Bc.enc,BE]at c;subst c;exact this,this⟩
def pO{r:List Bc}(h:YA n (E::r)=true):YA n [E]=true/\YA n r=true:=by cases E<;>simp only[YA,Oe,BN]at h⊢ <;>first|exact h|exact⟨trivial,h⟩
def fP{n:Nat}: ∀{b:List Bc},YA n b=true->AV.idsAllL (λid=>decide (id<n)) (lvs b)=true
 |[],_=>rfl
 |x::r,h=>by obtain⟨c,d⟩:=pO h;rw[HJ,DO];intro v a;rcases At.1 a with a|a;exact(tB c).1 v a;exact((DO _ _).1 (fP d)) v a
mutual
theorem bH{n:Nat}: ∀{v:TV},pP n v=true->(v.enc.idsAll λid=>decide (id<n))=true
 | .c x,h=>(tB h).2
 | .g cs,h=>fP h
 | .aptr ..,h=>iT h
 | .bptr ..,h=>iT h
 | .vptr cs post,h=>by simp only[pP,BN]at h;simp only[TV.enc,AV.idsAll];rw[DO];intro v a;rcases At.1 a with a|a;exact((DO _ _).1 (fP h.1)) v a;exact((DO _ _).1 (It (λ_ h=>iT h) post h.2)) v a
 | .tup vs,h=>by simp only[pP]at h;simp only[TV.enc,AV.idsAll];exact lO h
theorem lO{n:Nat}: ∀{a:List TV},qX n a=true->AV.idsAllL (λid=>decide (id<n)) (TV.encL a)=true
 |[],_=>rfl
 |v::r,h=>by simp only[qX,BN]at h;simp only[TV.encL,AV.idsAllL,BN];exact⟨bH h.1,lO h.2⟩
end
def fN{n:Nat}: ∀{env:BQ},oh n env=true-> ∀p∈env,pP n p.2=true
 |[],_,p,a=>by cases a
 |(t,v)::r,h,p,a=>by simp only[oh,BN]at h;rcases A1.1 a with rfl|a;exact h.1;exact fN h.2 p a
def fO{n:Nat}: ∀{H:Am},fv n H=true-> ∀e∈A7 H,(e.idsAll λid=>decide (id<n))=true
 |x::r,h,e,c=>by
  have g:fv n r=true:=by cases x<;>simp only[fv,BN]at h<;>first|exact h|exact h.2
  simp only[A7,Be,A1]at c;rcases c with rfl|c;cases x with
  |dead=>rfl
  |live b o=>simp only[fv,BN]at h;exact fP h.1
  |buf b t l m k=>simp only[Dp.enc,Ec.idsAll];rw[DO];intro v d;obtain⟨u,j,d⟩:=HS.1 d;obtain⟨y,_,rfl⟩:=Br.1 j;have h:=eL (t.E.pure y) n;cases q:t.E.f y<;>simp_all[AV.idsAll,DO,AV.cells]
  |mp=>rfl
  |lp ro F m env w a b s=>simp only[fv,BN]at h;simp only[Dp.enc,Ec.idsAll,Bw,List.all_map,Ft];exact λp i=>bH (fN h.1 p i)
  exact fO g e c
def Fs.cut{N n0:Nat}{env:Env}{H:Ap}(hn:n0≤H.length)(d: ∀t v,(t,v)∈env→(v.idsAll λid=>decide (id<n0))=true)
  (c: ∀e∈H.take n0,(e.idsAll λid=>decide (id<n0))=true):Fs N n0 env H env (H.take n0):=
 ⟨by simp;omega,λX g a w s=>⟨g,⟨s.sim.trunc hn c,λt v m=>⟨(s.env t v m).1,(s.env t v m).2.trunc hn (d t v m)⟩,s.size⟩,λ_ _=>⟨rfl,rfl,rfl⟩,λB b=>bx b⟩⟩
theorem pR{e:Ec}(h:(A7 b)[N]? =some e): ∃x,b[N]? =some x/\e=x.enc:=by grind[A7]
theorem HR.rel(A:B.length<=b.length)(hr:HR b B [])(x:Cx):SO x x (A7 b) (A7 B++(A7 b).drop B.length):=by
 refine⟨by simp[A7];omega,λj w z=>?_⟩;have same: ∀{y:Dp},b[j]? =some y->w=y.enc->w= .dead\/(∃g p c,(A7 b)[j]? =some (.live g p)/\w= .live g c/\c.length=p.length/\ ∀(i:Nat) (f:AV),c[i]? =some f-> ∃v,p[i]? =some v/\Conv x x v f)\/((A7 b)[j]? =some w/\ ∀g p,w≠ .live g p):=by
  intro y D q;have d:(A7 b)[j]? =some y.enc:=by grind[A7]
  subst q;cases y with
  |dead=>exact .inl rfl
  |live o p=>exact .inr (.inl ⟨_,_,_,d,rfl,rfl,λi f h=>⟨f,h,λ_ r=>r⟩⟩)
  |buf o t l m H=>exact .inr (.inl ⟨_,_,_,d,rfl,rfl,λi f h=>⟨f,h,λ_ r=>r⟩⟩)
  |lp=>exact .inr (.inr ⟨d,λ_ _ h=>by cases h⟩)
  |mp=>exact .inr (.inr ⟨d,λ_ _ h=>by cases h⟩)
 rcases Ao j B.length with h|h;rw[B6 (by rw[CO];exact h)]at z;obtain⟨y,D,rfl⟩:=pR z;obtain⟨e,q,u⟩:=hr j y rfl D;rcases u with rfl|⟨o,p,C,c,rfl,rfl,A⟩|⟨o,t,l,m,v,C,f,rfl,rfl⟩|⟨ro,G,F,n,env,J,a,o,s,rfl,rfl⟩|⟨o,C,k,t,I,rfl,rfl⟩;exact .inl rfl;refine .inr (.inl ⟨0,lvs p,lvs c,by simp only[A7,CC,q,Bf,Dp.enc],rfl,A.1,λi f E=>?_⟩);obtain⟨v,q1,q2⟩:=A.2 i f E;exact⟨v,q1,q2 x⟩;exact same q rfl;exact same q rfl;exact same q rfl;rw[Cb (by rw[CO];exact h),J6]at z;rw[CO]at z;grind[pR]
def IS.weak{N:Nat}{b:Am}{H:Am}(s:IS f b l L H O B)(k:H.length≤b.length)(n:oh H.length O=true)(o:fv H.length B=true):
  Fs N H.length (Bw f) (A7 b) (Bw O) (A7 B):=by
 have g:B.length<=b.length:=by rw[s.len];exact k
 have x:Fs N (A7 b).length (Bw f) (A7 b) (Bw O) (A7 B++(A7 b).drop B.length):=by refine UA (by simp[A7];omega) λX h w _=>?_;have q:=(HR.rel g s.hr (cx X h (A7 b) w)).onto;refine⟨q,λt z m=>?_⟩;obtain⟨p,j,e⟩:=Br.1 m;injection e with d A;subst d A;obtain⟨v,u,i⟩:=s.env p j;exact⟨v.enc,Br.2 ⟨_,u,rfl⟩,λc r=>(i _ c r).later q.later⟩
 have a:(A7 B++(A7 b).drop B.length).take H.length=A7 B:=by rw[<-s.len,<-CO B,MD];rfl
 have y:Fs N H.length (Bw O) (A7 B++(A7 b).drop B.length) (Bw O) (A7 B):=by have:=Fs.cut (N:=N) (n0:=H.length) (env:=Bw O) (H:=A7 B++(A7 b).drop B.length) (by simp[A7,s.len]) (λt v m=>by obtain⟨p,j,e⟩:=Br.1 m;injection e with d A;subst d A;exact bH (fN n p j)) (by rw[a];exact fO o);rwa [a]at this
 exact(x.of_le (by rw[CO];exact k)).trans y
def sV:Exit->Exit->Bool
 | .normal,.normal=>true
 | .exit a,.exit b=>Nat.beq a b
 | .ret,.ret=>true
 |_,_=>false
def nK{b:Exit}(h:sV x b=true):x=b:=by cases x<;>cases b<;>simp only[sV]at h<;>first|rfl|cases h|exact congrArg _ (C8 h)
structure Hint where
 kind:Nat
 key:Nat
 virt:List (Nat×Ty)
 virtC:List (Nat×Nat×Ty)
 kill:List Nat
 drop:List Nat
 slots:List Th
 exits:List (Exit×List Th)
def Hint.tmps(h:Hint):List Nat:=h.drop++h.virt.map (·.1)++oQ h.slots++h.exits.flatMap λp=>oQ p.2
def iz(kind key:Nat):List Hint->Option Hint
 |[]=>none
 |h::r=>match Nat.beq kind h.kind&&Nat.beq key h.key with|true=>some h|false=>iz kind key r
def se:Code->Option Nat
 | .region id _ _=>some id
 | .seq a b=>match se a with|some x=>some x|none=>se b
 | .cond _ a b=>match se a with|some x=>some x|none=>se b
 | .block _ b=>se b
 | .loop b=>se b
 |_=>none
def nW:Code->Bool
 | .seq a _=>nW a
 | .block _ b=>nW b
 | .loop _=>true
 |_=>false
def ADm(b:Code)(r:Nat)(hs:List Hint):Option Hint:=
 match nW b with
 |true=>(match iz 5 r hs with|some h=>some h|none=>iz 0 r hs)
 |false=>iz 0 r hs
def bo(hs:List Hint):Code->Option Hint
 | .loop b=>match se b with|some r=>ADm b r hs|none=>none
 | .block id _=>iz 1 id hs
 | .cond _ a b=>match se (.seq a b)with|some r=>iz 2 r hs|none=>none
 | .region id _ _=>iz 6 id hs
 |_=>none
def lY(hs:List Hint)(c:Code):List Nat:=
 match bo hs c with
 |some h=>h.tmps
 |none=>[]
def mU(hs:List Hint):Code->Code->Option Hint
 | .region id _ _,.cond _ _ _=>iz 4 id hs
 |_,_=>none
def oR(hs:List Hint)(a b:Code):List Nat:=
 match mU hs a b with
 |some h=>h.tmps
 |none=>[]
def Pp(hs:List Hint):Code->List Nat
 | .region id ops d=>iy ops.toList++lY hs (.region id ops d)
 | .seq a b=>(Pp hs a++Pp hs b)++oR hs a b
 | .cond c a b=>Pp hs a++Pp hs b++lY hs (.cond c a b)
 | .block id b=>Pp hs b++lY hs (.block id b)
 | .loop b=>Pp hs b++lY hs (.loop b)
 |_=>[]
def r9:TV->Bool
 | .c (.raw .any)=>true
 |_=>false
def yF(h:r9 w=false):w≠RE:=by rintro rfl;cases h
def qt(H:Am)(id:Nat):Bool:=match H[id]? with|some (.buf false _ _ _ _)=>true|_=>false
def cP(A S:List Nat)(H:Am)(t:Nat)(v:TV):Bool:=
 match Ni t A with
 |true=>false
 |false=>match r9 v with
  |true=>false
  |false=>(Kb v.refs).all λid=>!(Ni id S&&qt H id)
def PN(A S:List Nat)(H:Am):BQ->BQ
 |[]=>[]
 |(t,v)::r=>match cP A S H t v with|true=>(t,v)::PN A S H r|false=>PN A S H r
def L8(S:List Nat):Nat->Am->Am
 |_,[]=>[]
 |j,e::r=>(match Ni j S with|true=>e|false=>e.lock)::L8 S (j+1) r
def kq:BQ->Bool
 |[]=>true
 |(t,_)::r=>!Ni t (r.map (·.1))&&kq r
theorem T0(h:N∉a):Ni N a=false:=by
 cases j:Ni N a with
 |false=>rfl
 |true=>induction a<;>grind[Ni,Nat.eq_of_beq_eq_true]
def Xc: ∀{env:BQ},kq env=true->(env.map (·.1)).Nodup
 |[],_=>Ny
 |(t,v)::r,h=>by simp only[kq,BN,VX]at h;exact Fz.2 ⟨SI h.1,Xc h.2⟩
theorem fK{A S:List Nat}{H:Am}: ∀{env:BQ},(env.map (·.1)).Nodup-> ∀t,cP A S H t (env.get t)=true->(PN A S H env).get t=env.get t
 |[],_,t,_=>rfl
 |(u,v)::r,nd,t,h=>by have a:=Fz.1 nd;simp only[BQ.get]at h⊢;by_cases b:u=t;grind[Nat.beq_refl,PN,BQ.get];rw[beq_false b]at h⊢;have c:=fK a.2 t h;grind[PN,BQ.get,beq_false]
theorem Pq{A S:List Nat}{H:Am}: ∀{env:BQ},(env.map (·.1)).Nodup-> ∀p∈PN A S H env,env.get p.1=p.2/\cP A S H p.1 p.2=true/\p∈env
 |(u,v)::r,nd,p,h=>by
  have a:=Fz.1 nd;have tail:p∈PN A S H r->BQ.get ((u,v)::r) p.1=p.2/\cP A S H p.1 p.2=true/\p∈(u,v)::r:=λh=>by obtain⟨q1,q2,q3⟩:=Pq a.2 p h;grind[BQ.get,beq_false]
  grind[PN,BQ.get,Nat.beq_refl]
theorem KA{S:List Nat}: ∀(H:Am) (i j:Nat),(L8 S i H)[j]? =(H[j]?).map λe=>match Ni (i+j) S with|true=>e|false=>e.lock
 |[],i,j=>by simp[L8]
 |e::r,i,0=>by simp[L8]
 |e::r,i,j+1=>by simp only[L8,pI];rw[KA r (i+1) j];grind
def KB{S:List Nat}: ∀(H:Am) (i:Nat),(L8 S i H).length=H.length
 |[],_=>rfl
 |e::r,i=>by simp[L8,KB r]
theorem ph{S:List Nat}: ∀(H:Am) (i:Nat),A7 (L8 S i H)=A7 H
 |[],_=>rfl
 |e::r,i=>by have:=ph (S:=S) r (i+1);grind[A7,L8,nr]
theorem nt(h:Tg b N n p z):Tg (L8 a 0 b) N n p z:=by
 refine⟨by rw[KB];exact h.1,λro r l c f H=>?_⟩;rw[KA]at H;cases d:b[N]? with
 |none=>grind
 |some e=>
  rw[d]at H;simp at H;split at H;subst H;exact h.2 _ _ _ _ _ d;cases e with
  |dead=>cases H
  |live S k=>cases H
  |lp=>cases H
  |mp=>cases H
  |buf S s o q u=>injection H with _ g m i j;subst g i j;exact h.2 _ _ _ _ _ d
def pi(h:E.ok b):E.ok (L8 a 0 b):=by
 cases E with
 |own id S t n=>exact nt h
 |_=>trivial
theorem jS(ok:Oc f b):Oc f (L8 a 0 b):=by
 refine⟨λp o x g=>pi (ok.env p o x g),λe m=>?_⟩;obtain⟨j,S⟩:=Fi.1 m;rw[KA]at S;cases i:b[j]? with
 |none=>grind
 |some c=>
  rw[i]at S;simp at S;have d:=ok.heap c (BL i);have H:c.ok (L8 a 0 b):=by
   cases c with
   |dead=>trivial
   |live q k=>exact λx g=>pi (d x g)
   |buf q t l n h=>exact d
   |lp=>exact d
   |mp=>exact d
  split at S;grind;subst S;cases c with
  |dead=>trivial
  |live q k=>exact H
  |buf q t l n h=>exact H
  |lp=>exact H
  |mp=>exact H
theorem AA7(H:Am):xm (L8 a 0 H) H:=by intro id c ro F n env d S b s h;rw[KA,h];split;grind;exact⟨_,_,rfl⟩
theorem y7(H:Am):xm H (L8 a 0 H):=by
 intro id d ro F n env f S b s h;rw[KA]at h;cases c:H[id]? with
 |none=>grind
 |some e=>
  rw[c]at h;simp at h;split at h;grind;cases e with
  |lp=>injection h with _ q2 q3 q4 q5 q6 q7 _;grind
  |_=>cases h
def iF{id a n:Nat}{t:Ty}: ∀{b:List Bc},Bc.own id a t n∈b->id∈Kb b
 |x::r,h=>by rcases A1.1 h with rfl|h;exact JS;have:=iF h;cases x<;>simp only[Kb]<;>first|exact this|exact CN _ this
def s9(h:cP A a b N w=true)(m:w.ok b)(st:Bx (L8 a 0 b) B):jP B w:=by
 intro id o r n g;unfold cP at h;split at h;cases h;split at h;cases h;have S:=Ft.1 h id (iF g);have d:id<b.length:=(m _ g).1;refine st.nb id (by rw[KB];exact d) λq l p i H=>?_;rw[KA,ED]at H;cases c:b[id]? with
 |none=>rw[c]at H;cases H
 |some e=>rw[c]at H;simp only[Bf,Ai]at H;split at H;rename_i k;subst H;simp only[k,qt,c]at S;cases S;cases e<;>simp only[Dp.lock]at H<;>first|cases H|(injection H with j;cases j)
theorem y0(g:Ni N A=false)(i:r9 w=false)(j:jP b w):cP A a b N w=true:=by
 unfold cP;rw[g,i];refine Ft.2 λid e=>?_;have: ∃d f n,Bc.own id d f n∈w.refs:=by
  generalize w.refs=cs at e;induction cs with
  |nil=>cases e
  |cons x r m=>
   cases x with
   |own l d f n=>grind[Kb]
   |_=>obtain⟨H,S,c,h⟩:=m e;grind
 obtain⟨d,f,n,k⟩:=this;have:=j id d f n k;grind[qt]
def ACr:List Part->List Nat
 |[]=>[]
 | .o id::r=>id::ACr r
 |_::r=>ACr r
def gU(env:BQ)(H:Am):List Th->List Nat
 |[]=>[]
 | .t tmp _::r=>Kb (env.get tmp).refs++gU env H r
 | .p id ps::r=>(match H[id]? with|some (.live _ cs)=>(Kb cs).filter λi=>!Ni i (ACr ps)|_=>[])++gU env H r
 |_::r=>gU env H r
def sJ(sl:List Th)(env:BQ)(H:Am):Option (DL (cE sl)):=
 match G4 (gU env H sl) env H with
 |(e,h)=>match YB e h sl with|some ds=>uk (cE sl) ds|none=>none
def rE:List (Exit×List Th)->Type
 |[]=>Unit
 |[p]=>DL (cE p.2)
 |p::q::r=>DL (cE p.2)⊕ rE (q::r)
def ur:(xs:List (Exit×List Th))->Exit->BQ->Am->Option (rE xs)
 |[],_,_,_=>none
 |[p],x,env,H=>match sV p.1 x with|true=>sJ p.2 env H|false=>none
 |p::q::r,x,env,H=>
  match sV p.1 x with
  |true=>(match sJ p.2 env H with|some s=>some (.inl s)|none=>none)
  |false=>(match ur (q::r) x env H with|some s=>some (.inr s)|none=>none)
def ACy{R:Type}:(xs:List (Exit×List Th))->rE xs->(Exit->List Th->List DV->Option R)->Option R
 |[],_,_=>none
 |[p],s,k=>k p.1 p.2 (yh (cE p.2) s)
 |p::q::r,o,k=>Sum.elim (λs=>k p.1 p.2 (yh (cE p.2) s)) (λs=>ACy (q::r) s k) o
def rF:(xs:List (Exit×List Th))->rE xs->Exit×List Th×List DV
 |[],_=>(.normal,[],[])
 |[p],s=>(p.1,p.2,yh (cE p.2) s)
 |p::q::r,.inl s=>(p.1,p.2,yh (cE p.2) s)
 |p::q::r,.inr s=>rF (q::r) s
def px{R:Type}: ∀{xs:List (Exit×List Th)} {o:rE xs} {k:Exit->List Th->List DV->Option R} {r:R},ACy xs o k=some r->k (rF xs o).1 (rF xs o).2.1 (rF xs o).2.2=some r
 |[],_,_,_,h=>by cases h
 |[p],s,k,r,h=>h
 |p::q::t,.inl s,k,r,h=>h
 |p::q::t,.inr s,k,r,h=>px (xs:=q::t) h
def AAH(sl:List Th)(ds:List DV)(env:BQ)(H:Am):Prop:=YB (G4 (gU env H sl) env H).1 (G4 (gU env H sl) env H).2 sl=some ds
theorem gv{s:DL (cE l)}(h:sJ l f b=some s):AAH l (yh (cE l) s) f b:=by grind[sJ,AAH,kp]
def py: ∀{xs:List (Exit×List Th)} {x:Exit} {env:BQ} {H:Am} {o:rE xs},ur xs x env H=some o→
  (rF xs o).1=x/\AAH (rF xs o).2.1 (rF xs o).2.2 env H/\ ∃p∈xs,(rF xs o).2.1=p.2
 |[p],x,env,H,o,h=>by simp only[ur]at h;split at h;rename_i a;exact⟨nK a,gv h,p,by simp,rfl⟩;cases h
 |p::q::r,x,env,H,o,h=>by simp only[ur]at h;split at h;rename_i a;split at h;rename_i s b;injection h with h;subst h;exact⟨nK a,gv b,p,by simp,rfl⟩;cases h;split at h;rename_i s b;injection h with h;subst h;obtain⟨q1,q2,c,q3,q4⟩:=py (xs:=q::r) b;exact⟨q1,q2,c,CN _ q3,q4⟩;cases h
structure uB(A S:List Nat)(env0:BQ)(H0:Am)(e2:BQ)(h2:Am):Prop where
 ok:Oc e2 h2
 step:Bx (L8 S 0 H0) h2
 len:h2.length=H0.length
 same: ∀j,Ni j S=false->h2[j]? =(L8 S 0 H0)[j]?
 get: ∀p∈PN A S H0 env0,e2.get p.1=p.2
theorem vW{A B S:List Nat}{env0:BQ}{a:Am}{L:BQ}{s:Am}(m:Oc env0 a)(nd:(env0.map (·.1)).Nodup)(g:uB A S env0 a L s)
  {env1:BQ} {d:Am} (G:Oc env1 d) (st:FB B L s env1 d) (U: ∀t,t∈B->t∈A) {o:List Th} {K:List DV} (W:AAH o K env1 d)
  {Hx:Am} (J: ∀e∈Hx,e.ok Hx) (y:Hx.length=a.length) (F:xm Hx (L8 S 0 a)) (rx: ∀id c t n,Tg a id c t n->Tg Hx id c t n) (E: ∀(j:Nat) (i:Dp),Ni j (K7 o)=false->Hx[j]? =some i->i= .dead\/ ∃e,Ni j S=false/\(L8 S 0 a)[j]? =some e/\e.ro=true/\ACN e i)
  {r:BQ} {f:Am} (Y:Us o K (PN A S a env0) Hx=some (r,f)) (ce:oh a.length r=true) (ch:fv a.length f=true) (N:Nat):
  Fs N a.length (Bw env1) (A7 d) (Bw r) (A7 f)/\ ∃P V,IS P V o (PN A S a env0) Hx r f:=by
 obtain⟨I,z,wf⟩:=Oh (gU env1 d o) G;have u:a.length<=d.length:=by rw[<-g.len];exact st.step.len
 have b:=FB.trans g.ok.env st z;have H: ∀p∈PN A S a env0,p.2.ok Hx:=λp v x E=>by
  have:=m.env p (Pq nd p v).2.2 x E;cases x with
  |own id c t n=>exact rx _ _ _ _ this
  |_=>trivial
 have q:=Nh I W Y ⟨H,J⟩ (by rw[y];exact EC u z.step.len) (λp v=>by
  obtain⟨b1,M,O⟩:=Pq nd p v;have hk:=s9 M (m.env p O) g.step;have T:Ni p.1 A=false:=by grind[cP]
  have k:r9 p.2=false:=by grind[cP]
  have X:=g.get p v;have:=b.same p.1 (λh=>by rw[D8]at h;exact SI T (U _ h)) (by grind);rw[X]at this;exact⟨p.2,eR this (yF k),U2.refl _⟩) (λj i Z C=>by
   have D:j<a.length:=by grind
   rcases E j i Z C with rfl|⟨e,Q,s,f,R⟩;exact⟨_,Aw (C9 D (EC u z.step.len)),.inl rfl⟩;exact⟨e,b.step.ro j e (by rw[g.same j Q];exact s) f,R⟩) (λid l _ _ _ _ _ _ _ _ hq=>by
  obtain⟨ad,s1,q1⟩:=(g.step.trans b.step).lp id (by rw[KB,<-y];exact l) _ _ _ _ _ _ _ _ hq;exact F id l _ _ _ _ _ _ _ _ q1)
 have w:=q.weak (N:=N) (by rw[y];exact EC u z.step.len) (by grind) (by grind);rw[y]at w;exact⟨((wf N).of_le (by rw[CO];exact u)).trans w,_,_,q⟩
open Classical in
noncomputable def oG{α:Type}(g:List α->Unit->Option (List α))(l:List α):Option (List α):=if∀m,l.Perm m->g m ()=g l ()then g l ()else none
theorem uy{g:List R->Unit->Option (List R)}{l s:List R}(h:oG g l=some s): ∀m,l.Perm m->g m ()=some s:=by grind[oG]
def rH:List Oper->Option (Nat×Nat×Nat×TypeId×TypeId)
 |[⟨some a1,.load ty1 (.tmp c0),_,_,_,none⟩,⟨some a2,.range ty2 (.tmp b1),_,_,_,none⟩]=>match Nat.beq a1 b1 with|true=>some (c0,a1,a2,ty1,ty2)|false=>none
 |_=>none
def oB:List Oper->Option (Nat×Nat×Nat)
 |[⟨some a3,.next (.tmp a2) false,_,_,_,none⟩,⟨some a4,.extract (.tmp b3) 0,_,_,_,none⟩]=>match Nat.beq a3 b3 with|true=>some (a2,a3,a4)|false=>none
 |_=>none
def oC:List Oper->Option (Nat×Nat×Nat×Nat×TypeId×TypeId)
 |[⟨some a5,.entry (.tmp a2),_,_,_,none⟩,⟨some a6,.extract (.tmp b5) 1,_,_,_,none⟩,⟨some a7,.alloc te1,_,_,_,none⟩,⟨none,.store te2 (.tmp b7) (.tmp b6),_,_,_,none⟩]=>
  match Nat.beq a5 b5&&(Nat.beq a6 b6&&Nat.beq a7 b7)with|true=>some (a2,a5,a6,a7,te1,te2)|false=>none
 |_=>none
def oD:List Oper->Option (Nat×Nat×Nat×Nat×Nat×Nat×TypeId×TypeId×TypeId)
 |[⟨some a8,.move (.tmp out),_,_,_,none⟩,⟨some a9,.load te3 (.tmp a7),_,_,_,none⟩,⟨some a10,.buildSlice ts1 1 ⟨[(0,.tmp b9)]⟩,_,_,_,none⟩,
   ⟨some a11,.call {callee:=.builtin .append,args:=⟨[.tmp b8,.tmp b10]⟩,argTypes:=⟨[ts2,ts3]⟩},_,_,_,none⟩,⟨some out2,.assign (.tmp b11),_,_,_,none⟩]=>
  match Nat.beq a8 b8&&(Nat.beq a9 b9&&(Nat.beq a10 b10&&(Nat.beq a11 b11&&(Nat.beq out out2&&Nat.beq ts2 ts3))))with|true=>some (out,a7,a8,a9,a10,a11,te3,ts1,ts2)|false=>none
 |_=>none
def rI:List Oper->Option (Nat×Nat×Nat×FuncId×FuncId)
 |[⟨some a12,.move (.tmp out),_,_,_,none⟩,⟨some a13,.call {callee:=.value (.func F),args:=⟨[.tmp b12,.func G]⟩,.. },_,_,_,none⟩]=>match Nat.beq a12 b12 with|true=>some (out,a12,a13,F,G)|false=>none
 |_=>none
def lk(h:rH e=some (N,n,z,m,M)):
  ∃l c a f d b,e=[⟨some n,.load m (.tmp N),l,c,a,none⟩,⟨some z,.range M (.tmp n),f,d,b,none⟩]:=by
 unfold rH at h;split at h;split at h<;>simp_all;cases h
def ll(h:oB e=some (N,n,z)):
  ∃l c a f d b,e=[⟨some n,.next (.tmp N) false,l,c,a,none⟩,⟨some z,.extract (.tmp n) 0,f,d,b,none⟩]:=by
 unfold oB at h;split at h;split at h<;>simp_all;cases h
def lm{a7:Nat}(h:oC e=some (N,n,z,a7,m,M)):
  ∃j o a k f b l g c p i d,e=[⟨some n,.entry (.tmp N),j,o,a,none⟩,⟨some z,.extract (.tmp n) 1,k,f,b,none⟩,⟨some a7,.alloc m,l,g,c,none⟩,⟨none,.store M (.tmp a7) (.tmp z),p,i,d,none⟩]:=by
 unfold oC at h;split at h;split at h<;>simp_all;cases h
def ln{a9 a10 a11:Nat}{ts2:TypeId}(h:oD e=some (N,n,z,a9,a10,a11,m,M,ts2)):
  ∃l f a s g b o i c p j d q k r,e=[⟨some z,.move (.tmp N),l,f,a,none⟩,⟨some a9,.load m (.tmp n),s,g,b,none⟩,⟨some a10,.buildSlice M 1 #[(0,.tmp a9)],o,i,c,none⟩,⟨some a11,.call {callee:=.builtin .append,args:= #[.tmp z,.tmp a10],argTypes:= #[ts2,ts2]},p,j,d,none⟩,⟨some N,.assign (.tmp a11),q,k,r,none⟩]:=by
 unfold oD at h;split at h;split at h<;>simp_all;cases h
def lq{G:FuncId}(h:rI e=some (N,n,z,F,G)):
  ∃f d b a g l c,e=[⟨some n,.move (.tmp N),f,d,b,none⟩,⟨some z,.call {callee:=.value (.func F),args:= #[.tmp n,.func G],argTypes:=a},g,l,c,none⟩]:=by
 unfold rI at h;split at h;split at h<;>simp_all;cases h
structure Vf where
 c0:Nat
 a1:Nat
 a2:Nat
 a3:Nat
 a4:Nat
 a5:Nat
 a6:Nat
 a7:Nat
 a8:Nat
 a9:Nat
 a10:Nat
 a11:Nat
 a12:Nat
 a13:Nat
 out:Nat
 ty1:TypeId
 ty2:TypeId
 te1:TypeId
 te2:TypeId
 te3:TypeId
 ts1:TypeId
 ts2:TypeId
 F:FuncId
 G:FuncId
def rC:List Nat->Bool
 |[]=>true
 |t::r=>!Ni t r&&rC r
def lh: ∀{l:List Nat},rC l=true->l.Nodup
 |[],_=>Ny
 |t::r,h=>by simp only[rC,BN,VX]at h;exact Fz.2 ⟨SI h.1,lh h.2⟩
def iu:Code->Code->Option Vf
 | .seq (.region _ o1 false) (.block b1 (.loop (.seq (.region _ o2 false) (.seq (.cond (.tmp x4) .skip (.exit b2)) (.block _ (.seq (.region _ o3 false) (.region _ o4 false))))))),.region _ o5 false=>
  match rH o1.toList,oB o2.toList,oC o3.toList,oD o4.toList,rI o5.toList with
  |some (c0,a1,a2,ty1,ty2),some (x2,a3,a4),some (y2,a5,a6,a7,te1,te2),some (out,x7,a8,a9,a10,a11,te3,ts1,ts2),some (out2,a12,a13,F,G)=>
   match (Nat.beq b1 b2&&(Nat.beq a4 x4&&(Nat.beq a2 x2&&(Nat.beq a2 y2&&(Nat.beq a7 x7&&Nat.beq out out2)))))&&rC [out,a1,a2,a3,a4,a5,a6,a7,a8,a9,a10,a11,a12,a13]with
   |true=>some ⟨c0,a1,a2,a3,a4,a5,a6,a7,a8,a9,a10,a11,a12,a13,out,ty1,ty2,te1,te2,te3,ts1,ts2,F,G⟩
   |false=>none
  |_,_,_,_,_=>none
 |_,_=>none
def Vf.tmps(p:Vf):List Nat:=[p.out,p.a1,p.a2,p.a3,p.a4,p.a5,p.a6,p.a7,p.a8,p.a9,p.a10,p.a11,p.a12,p.a13]
def XS(A:List Nat):BQ->BQ
 |[]=>[]
 |(t,v)::r=>match Ni t A with|true=>XS A r|false=>(t,v)::XS A r
def Ts{A:List Nat}: ∀{env:BQ} {q:Nat×TV},q∈XS A env->q∈env/\q.1∉A
 |[],_,h=>by cases h
 |(t,v)::r,q,h=>by simp only[XS]at h;split at h;exact⟨CN _ (Ts h).1,(Ts h).2⟩;rename_i a;rcases A1.1 h with rfl|h;exact⟨JS,SI a⟩;exact⟨CN _ (Ts h).1,(Ts h).2⟩
theorem kL{A:List Nat}{u:Nat}(a:u∉A): ∀env:BQ,(XS A env).get u=env.get u
 |[]=>rfl
 |(t,v)::r=>by
  simp only[XS,BQ.get];split;rename_i b;have:t≠u:=λe=>by grind[T0]
  rw[beq_false this];exact kL a r;simp[BQ.get,kL a r]
noncomputable def yT(P:Program)(N:Nat)(cs:List QY)(p:Vf)(env:BQ)(H:Am){R:Type}(k:BQ->Am->Option R):Option R:=
 match env.get p.c0,env.get p.out with
 | .c (.raw (.ptr c 0 0)),.c .nil=>
  match H[c]? with
  |some (.live _ [.raw (.mp id)])=>
   match H[id]?,lV cs p.F,Enters P p.F with
   |some (.mp _ kk ty es),some (.c2 _ te [] [] [.fn (.func G) [] []] g),true=>
    if h:(Ty.list ty).beq (Ty.list te)=true then
     match tI P p.ty1,P.underlying p.ty2,tI P p.te2,tI P p.te3,Wc P p.te1,eI P p.ts1,eI P p.ts2 with
     |some (false,_),some (.map kt _),some (_,n2),some (tr3,n3),some z,some (none,e1,s1),some (none,e2,s2)=>
      match (Nat.beq G p.G&&(te.isAgg&&(Nat.beq n2 te.sz&&(tr3&&(Nat.beq n3 te.sz&&(Nat.beq z.length te.sz&&(Nat.beq s1 te.sz&&(Nat.beq s2 te.sz&&(QV P e1&&(QV P e2&&Nat.ble te.sz 4096))))))))))&&
        ((match P.underlying kt with|some (.int k2)=>decide (k2=kk)|_=>false)&&(oh H.length (XS p.tmps env)&&(fv H.length H&&p.tmps.all λt=>Nat.blt t N)))with
      |true=>cond (decide (((es.length:Nat):Int)≤16777216))
        ((oG g (Ty.cast h (es.map (·.2)))).bind λs=>cond (Nat.beq s.length es.length) (k ((p.out,.c (.own H.length 0 te s.length))::XS p.tmps env) (H++[.buf false te s s.length 0,.dead])) none) none
      |false=>none
     |_,_,_,_,_,_,_=>none
    else none
   |_,_,_=>none
  |_=>none
 |_,_=>none
theorem Ez{q:Nat×AV}{v:AV}(h:q∈u)(a:q.1≠N):q∈u.put N v:=CN _ (Bq.2 ⟨h,by grind⟩)
def rN:(N,i)∈u.put N i:=JS
def jN{v:AV}:Env.get ((N,v)::u) N=v:=if_pos rfl
def sh{v:AV}(h:N≠n):Env.get ((N,v)::u) n=u.get n:=if_neg h
def cR(vals:List R)(seen:List Nat):List R:=seen.filterMap (vals[·]?)
theorem vJ{b:List R}{x:R}(h:b[N]? =some x):cR b (a++[N])=cR b a++[x]:=by grind[cR]
theorem tU{b:Type}: ∀a:List b,(List.range a.length).filterMap (a[·]?)=a
 |[]=>rfl
 |x::r=>by
  rw[CD,List.range_succ_eq_map,List.filterMap_cons];simp;have:((λi=>(x::r)[i]?)∘Nat.succ)=(r[·]?):=by grind
  rw[this,tU r]
def vI{d:List R}(hn:a.Nodup)(c: ∀j∈a,j<d.length)(b: ∀j,j<d.length->j∈a):d.Perm (cR d a):=by have:=((gZ List.nodup_range hn).2 λj=>⟨λh=>b j (IX.1 h),λh=>IX.2 (c j h)⟩).filterMap (d[·]?);rwa [tU]at this
section
variable {P:Program} {N:Nat} {env:Env} {H:Ap} {Q:Env->Ap->Prop} {ops:Array Oper}
def Ub.nil(h:Q env H):Ub P N ops [] env H Q:=⟨_,_,Fs.refl _ _ _,h⟩
def Ub.cons(b:o.guard=none)(h:Iv P N o env H λv a=>Ub P N ops e (env.putO o.dst v) a Q):Ub P N ops (o::e) env H Q:=by refine⟨_,_,Fs.refl _ _ _,?_⟩;rw[b];exact h
end
variable {s:Hint}{C:Vf}
section
variable {P:Program} {N:Nat}
theorem qW(t:Ty)(l:List t.D): ∀v∈t.E.cl l,Pure v:=by intro v a;have⟨u,b,a⟩:=HS.1 a;obtain⟨y,_,rfl⟩:=Br.1 b;exact S4 (t.enc_pure y) v a
theorem zV(h:Pure i)(p:Nat->Bool):i.idsAll p=true:=Pj (λ_ h=>by cases h) i h
theorem ym{p q:Nat->Bool}(h: ∀id,p id=true->q id=true)(e:Ec)(k:e.idsAll p=true):e.idsAll q=true:=by cases e<;>grind[It,Ec.idsAll,List.all_eq_true,Pj]
theorem ACa(t:Ty)(g:Nat)(l:List t.D)(p:Nat->Bool):(Ec.live g (t.E.cl l)).idsAll p=true:=by grind[Ec.idsAll,DO,zV,qW]
theorem flt{a:Type}(p q:a->Bool)(b: ∀x,q x=true->p x=true)(e:a)(d:p e=true)(f:q e=false): ∀l:List a,e∈l->(l.filter q).length<(l.filter p).length
 |x::l,he=>by
  have c: ∀l:List a,(l.filter q).length<=(l.filter p).length:=by intro l;induction l<;>grind
  rcases A1.1 he with rfl|h;grind;have:=flt p q b e d f l h;grind
theorem AB3(h:A.Nodup){i j a b:Nat}(d:A[i]? =some a)(e:A[j]? =some b)(c:i≠j):a≠b:=by grind[List.getElem?_inj]
set_option maxHeartbeats 1000000 in
def wj{te:Ty}{kk:IntKind}{es:List (Int×te.D)}{Hb:Ap}{base:Env}{id a2 a3 a4 a5 a6 a7 a8 a9 a10 a11 out:Nat}{b1 b2:Nat}{i2 i3 i4:Nat}{o2 o3 o4:Array Oper}{te1 te2 te3 ts1 ts2:TypeId}{z:List AV}{e1 e2:TypeId}{bb:Bool}
  (h2:oB o2.toList=some (a2,a3,a4)) (h3:oC o3.toList=some (a2,a5,a6,a7,te1,te2)) (h4:oD o4.toList=some (out,a7,a8,a9,a10,a11,te3,ts1,ts2))
  (bN:[out,a2,a3,a4,a5,a6,a7,a8,a9,a10,a11].Nodup) (hN: ∀t∈[out,a2,a3,a4,a5,a6,a7,a8,a9,a10,a11],t<N) (hb: ∀q∈base,q.1∉ [out,a2,a3,a4,a5,a6,a7,a8,a9,a10,a11])
  (ax: ∀q∈base,(q.2.idsAll λj=>decide (j<Hb.length))=true) (ap: ∀e∈Hb,(e.idsAll λj=>decide (j<Hb.length))=true)
  (he:Hb[id]? =some (.mp kk (es.map λp=>(p.1,te.enc p.2)))) (ar:te.isAgg=true) (hz:Wc P te1=some z) (Z:z.length=te.sz) (b5:tI P te2=some (bb,te.sz)) (b6:tI P te3=some (true,te.sz))
  (b0:eI P ts1=some (none,e1,te.sz)) (b3:eI P ts2=some (none,e2,te.sz)) (bz:QV P e1=true) (bG:QV P e2=true) (b4:te.sz<=4096) (b7:es.length<=16777216):
  ∀(n:Nat) (seen:List Nat),seen.Nodup->(∀j∈seen,j<es.length)->((List.range es.length).filter λj=>!decide (j∈seen)).length<=n->(cR (es.map (·.2)) seen).length+((List.range es.length).filter λj=>!decide (j∈seen)).length<=es.length->
   MA P N (.seq (.region i2 o2 false) (.seq (.cond (.tmp a4) .skip (.exit b1)) (.block b2 (.seq (.region i3 o3 false) (.region i4 o4 false)))))
    ((out,.sl Hb.length (cR (es.map (·.2)) seen).length te.sz 0 (cR (es.map (·.2)) seen).length)::(a2,.itp (Hb.length+1) id)::base)
    (Hb++[.live (cR (es.map (·.2)) seen).length (te.E.cl (cR (es.map (·.2)) seen)),.it es.length seen])
    λe E h=>e= .exit b1/\ ∃s,(es.map (·.2)).Perm s/\(∀q∈(out,AV.sl Hb.length s.length te.sz 0 s.length)::base,q∈E)/\h.length=Hb.length+2/\(∀j,j<Hb.length->h[j]? =Hb[j]?)/\h[Hb.length]? =some (.live s.length (te.E.cl s)):=by
 obtain⟨t1,p1,x1,t2,p2,x2,l2⟩:=ll h2;obtain⟨t3,p3,x3,t4,p4,x4,t5,p5,x5,t6,p6,x6,l3⟩:=lm h3;obtain⟨t7,p7,x7,t8,p8,x8,t9,p9,x9,b',b8,cb,ca,b9,cc,l4⟩:=ln h4;have D:=λ(i j a b:Nat)=>AB3 (i:=i) (j:=j) (a:=a) (b:=b) bN;simp only[A1,List.not_mem_nil,or_false,forall_eq_or_imp,forall_eq]at hN;have d2:KO N o2.toList=true:=by rw[l2];simp[KO,hN]
 have d3:KO N o3.toList=true:=by rw[l3];simp[KO,hN]
 have d4:KO N o4.toList=true:=by rw[l4];simp[KO,hN]
 have a0:id<Hb.length:=by rcases Ao id Hb.length with h|h;exact h;rw[Ck h]at he;cases he
 have s0: ∀(A B C:Ec),(Hb++[A,B]).set (Hb.length+1) C=Hb++[A,C]:=λA B C=>by rw[RQ _ _ (by omega),show Hb.length+1-Hb.length=1 by omega];rfl
 have s1: ∀(A B C D:Ec),(Hb++[A,B,C]).set (Hb.length+2) D=Hb++[A,B,D]:=λA B C D=>by rw[RQ _ _ (by omega),show Hb.length+2-Hb.length=2 by omega];rfl
 have s2: ∀(A B C D:Ec),(Hb++[A,B,C]).set Hb.length D=Hb++[D,B,C]:=λA B C D=>by rw[RQ _ _ (Ag _),G3];rfl
 have g0: ∀(A:Ec) (r:List Ec),(Hb++A::r)[Hb.length]? =some A:=λA r=>by rw[Cb (Ag _),G3];rfl
 have g1: ∀(A B:Ec) (r:List Ec),(Hb++A::B::r)[Hb.length+1]? =some B:=λA B r=>by rw[Cb (by omega),show Hb.length+1-Hb.length=1 by omega];rfl
 have g2: ∀(A B C:Ec) (r:List Ec),(Hb++A::B::C::r)[Hb.length+2]? =some C:=λA B C r=>by rw[Cb (by omega),show Hb.length+2-Hb.length=2 by omega];rfl
 have gm: ∀(r:List Ec),(Hb++r)[id]? =some (.mp kk (es.map λp=>(p.1,te.enc p.2))):=λr=>by rw[B6 a0];exact he
 have Y:(es.map (·.2)).length=es.length:=Da _;have J:0<te.sz:=te.sz_pos;intro n;induction n using Nat.strongRecOn with
 |ind n ih=>
  intro seen hn hl hr hm;obtain⟨L,hL⟩: ∃L,L=cR (es.map (·.2)) seen:=⟨_,rfl⟩
  rw[<-hL]at hm⊢;refine RW (L9.seq (Fb d2 ?_));rw[l2];apply Ub.cons rfl;have d:(es.map λp=>(p.1,te.enc p.2)).length=es.length:=Da _;have ad:out≠a2:=D 0 1 _ _ rfl rfl (by decide);refine Iv.next (x:=.tmp a2) (id:=Hb.length+1) (m:=id) (k:=kk) (es:=es.map λp=>(p.1,te.enc p.2)) (seen:=seen) rfl ?_ ?_ (gm _) ?_ ?_
  show Env.get _ a2=_;rw[sh ad,jN];rw[d];exact g1 _ _ _;intro G;refine Ub.cons rfl (Db (v:=.bool false) ?_ (Ub.nil ?_));show CM _ _ _ (.extract (.tmp a3) 0)=_;simp only[CM,BC,Env.putO,Fx,if_true];rfl;refine L9.seq (L9.cond (b:=false) ?_ (λh=>by cases h) (λ_=>L9.exit ?_));simp only[BC,Env.putO,Fx,if_true];refine⟨rfl,L,?_,λq o=>?_,by simp,λj hj=>B6 hj,g0 _ _⟩;rw[hL];exact vI hn (by rw[Y];exact hl) (by rw[Y];rw[d]at G;exact G);have al:out≠a3:=D 0 2 _ _ rfl rfl (by decide);have ao:out≠a4:=D 0 3 _ _ rfl rfl (by decide);rcases A1.1 o with rfl|o;exact Ez (Ez JS al) ao;have:=hb q o;simp only[A1,not_or]at this;exact Ez (Ez (CN _ (CN _ o)) this.2.2.1) this.2.2.2.1;intro j p hj S;rw[CC]at hj;obtain⟨q,o,e⟩:=Vp.1 hj;subst e;rw[d,s0];refine Ub.cons rfl (Db (v:=.bool true) ?_ (Ub.nil ?_));show CM _ _ _ (.extract (.tmp a3) 0)=_;simp only[CM,BC,Env.putO,Fx,if_true];rfl;have k2: ∀(m:Nat) (v w:AV),Env.get (Env.put (Env.put ((out,AV.sl Hb.length m te.sz 0 m)::(a2,AV.itp (Hb.length+1) id)::base) a3 v) a4 w) a2= .itp (Hb.length+1) id:=λm v w=>by rw[Fx,if_neg (D 1 3 _ _ rfl rfl (by decide)),Fx,if_neg (D 1 2 _ _ rfl rfl (by decide)),sh ad,jN]
  have ko: ∀(m:Nat) (v w:AV),Env.get (Env.put (Env.put ((out,AV.sl Hb.length m te.sz 0 m)::(a2,AV.itp (Hb.length+1) id)::base) a3 v) a4 w) out= .sl Hb.length m te.sz 0 m:=λm v w=>by rw[Fx,if_neg (D 0 3 _ _ rfl rfl (by decide)),Fx,if_neg (D 0 2 _ _ rfl rfl (by decide)),jN]
  have kb: ∀(m:Nat) (v w:AV),∀q∈base,q∈Env.put (Env.put ((out,AV.sl Hb.length m te.sz 0 m)::(a2,AV.itp (Hb.length+1) id)::base) a3 v) a4 w:=λm v w q o=>by have:=hb q o;simp only[A1,not_or]at this;exact Ez (Ez (CN _ (CN _ o)) this.2.2.1) this.2.2.2.1
  have ki: ∀(m:Nat) (v w:AV),(a2,AV.itp (Hb.length+1) id)∈Env.put (Env.put ((out,AV.sl Hb.length m te.sz 0 m)::(a2,AV.itp (Hb.length+1) id)::base) a3 v) a4 w:=λm v w=>Ez (Ez (CN _ JS) (D 1 2 _ _ rfl rfl (by decide))) (D 1 3 _ _ rfl rfl (by decide));refine L9.seq (L9.cond (b:=true) ?_ (λ_=>L9.skip ?_) (λh=>by cases h));simp only[BC,Env.putO,Fx,if_true];dsimp only[qK];refine L9.block (L9.seq (Fb d3 ?_));rw[l3];generalize K:Env.putO (Env.putO ((out,AV.sl Hb.length L.length te.sz 0 L.length)::(a2,AV.itp (Hb.length+1) id)::base) (some a3) (.tup [.bool true,.int kk q.1,te.enc q.2])) (some a4) (.bool true)=E;have k2:Env.get E a2= .itp (Hb.length+1) id:=by rw[<-K];exact k2 _ _ _
  have ko:Env.get E out= .sl Hb.length L.length te.sz 0 L.length:=by rw[<-K];exact ko _ _ _
  have kb: ∀q∈base,q∈E:=by rw[<-K];exact kb _ _ _
  have ki:(a2,AV.itp (Hb.length+1) id)∈E:=by rw[<-K];exact ki _ _ _
  clear K;refine Ub.cons rfl (Iv.entry (x:=.tmp a2) (id:=Hb.length+1) (m:=id) (j:=j) (k:=kk) (es:=es.map λp=>(p.1,te.enc p.2)) (seen:=seen) (p:=(q.1,te.enc q.2)) rfl k2 ?_ (gm _) (by rw[CC,o];rfl) ?_);rw[d];exact g1 _ _ _;have f:te.enc q.2= .agg (te.enc q.2).cells:=Ty.agg_enc ar q.2;have l:(te.enc q.2).cells.length=te.sz:=te.enc_len q.2;have U:(te.enc q.2).solid=true:=by rw[f];rfl
  refine Ub.cons rfl (Db (v:=te.enc q.2) ?_ (Ub.cons rfl (Iv.alloc rfl hz ?_)));show CM _ _ _ (.extract (.tmp a5) 1)=_;simp only[CM,BC,Env.putO,Fx,if_true];rfl;have a1:(Hb++[Ec.live L.length (te.E.cl L),Ec.it es.length (seen++[j])]).length=Hb.length+2:=by simp
  rw[a1,A0];show Ub P N o3 _ _ (Hb++[Ec.live L.length (te.E.cl L),Ec.it es.length (seen++[j]),Ec.live 0 z]) _;refine Ub.cons rfl (Iv.store (id:=Hb.length+2) (g:=0) (off:=0) (v:=te.enc q.2) (cs:=z) (b:=bb) rfl ?_ ?_ U (g2 _ _ _ _) (by rw[l];exact b5) (by rw[l,Z];omega) (Ub.nil ?_));simp only[BC,Env.putO,Fx,if_true];simp only[BC,Env.putO,Fx];rw[if_neg (D 5 6 _ _ rfl rfl (by decide)),if_pos trivial];have T:UY z 0 (te.enc q.2).cells=(te.enc q.2).cells:=by unfold UY;rw[List.take_zero,Cy,l,<-Z,ED,List.drop_length,D8]
  rw[T,s1];simp only[Env.putO];generalize F:Env.put (Env.put (Env.put E a5 (.tup [.int kk q.1,te.enc q.2])) a6 (te.enc q.2)) a7 (.ptr (Hb.length+2) 0 0)=E1;have j7:Env.get E1 a7= .ptr (Hb.length+2) 0 0:=by rw[<-F,Fx,if_pos rfl]
  have jo:Env.get E1 out= .sl Hb.length L.length te.sz 0 L.length:=by rw[<-F,Fx,if_neg (D 0 6 _ _ rfl rfl (by decide)),Fx,if_neg (D 0 5 _ _ rfl rfl (by decide)),Fx,if_neg (D 0 4 _ _ rfl rfl (by decide)),ko]
  have jb: ∀q∈base,q∈E1:=λu I=>by have:=hb u I;simp only[A1,not_or]at this;rw[<-F];exact Ez (Ez (Ez (kb u I) this.2.2.2.2.1) this.2.2.2.2.2.1) this.2.2.2.2.2.2.1
  have ji:(a2,AV.itp (Hb.length+1) id)∈E1:=by rw[<-F];exact Ez (Ez (Ez ki (D 1 4 _ _ rfl rfl (by decide))) (D 1 5 _ _ rfl rfl (by decide))) (D 1 6 _ _ rfl rfl (by decide))
  clear F;apply Fb d4;rw[l4];refine Ub.cons rfl (Db (v:=.sl Hb.length L.length te.sz 0 L.length) (congrArg some jo) (Ub.cons rfl (Db (v:=te.enc q.2) ?_ (Ub.cons rfl (TR (sz:=te.sz) (vs:=[te.enc q.2]) rfl ?_ (Ub.cons rfl ?_))))));show cQ P te3 _ (BC _ (.tmp a7))=_;simp only[BC,Env.putO,Fx];rw[if_neg (D 6 7 _ _ rfl rfl (by decide)),j7];simp only[cQ,b6,Oy,g2];rw[if_pos ⟨trivial,by rw[l];omega⟩,fC,<-l,HT];exact congrArg some f.symm;simp only[RF,b0];rw[if_pos];simp only[BC,Env.putO,Fx,if_true,Be,IW];refine⟨J,bz,rfl,?_,by decide,b4⟩;simp only[BC,Env.putO,Fx,if_true,Be,IW,ju,jv,U,l,decide_true,Rj];have R:j<es.length:=by rcases Ao j es.length with h|h;exact h;rw[Ck h]at o;cases o
  have bt:((List.range es.length).filter λi=>!decide (i∈seen++[j])).length<((List.range es.length).filter λi=>!decide (i∈seen)).length:=flt (λi=>!decide (i∈seen)) (λi=>!decide (i∈seen++[j])) (λx f=>by simp at f⊢;exact f.1) j (by simpa using S) (by simp) _ (IX.2 R);have O:cR (es.map (·.2)) (seen++[j])=L++[q.2]:=by rw[hL];exact vJ (by rw[CC,o];rfl)
  refine QU (sx:=.tmp a8) (xx:=.tmp a10) (t:=ts2) (e:=e2) (id:=Hb.length) (g:=L.length) (g':=L.length+1) (n:=L.length) (sz:=te.sz) (m:=1) (cs:=te.E.cl L) (news:=(te.enc q.2).cells) rfl b3 J bG ?_ (g0 _ _) (te.E.clen L) ?_ (by omega) (.inl (by omega)) ?_;show Env.get _ a8=_;simp only[Env.putO,Fx];rw[if_neg (D 7 9 _ _ rfl rfl (by decide)),if_neg (D 7 8 _ _ rfl rfl (by decide)),if_pos trivial];simp only[BC,Env.putO,Fx,if_true,My,CD,CT,I4,jy,D8];rw[s2];refine Ub.cons rfl (Db (v:=.sl Hb.length (L.length+1) te.sz 0 (L.length+1)) ?_ (Ub.nil ?_));show some (Env.get _ a11)=_;simp only[Env.putO,Fx,if_true];have Q:te.E.cl L++(te.enc q.2).cells=te.E.cl (L++[q.2]):=by simp[S9.cl];rfl
  rw[Q];have bl:(L++[q.2]).length=L.length+1:=by simp
  show∃env2 H2,Fs N _ _ _ env2 H2/\_;refine⟨_,_,?_,ih _ (C9 bt hr) (seen++[j]) ?_ ?_ (Ag _) (by rw[O];omega)⟩;rw[O,bl];generalize M:Env.putO _ (some out) _=E3;have V: ∀u∈(out,AV.sl Hb.length (L.length+1) te.sz 0 (L.length+1))::(a2,AV.itp (Hb.length+1) id)::base,u∈E3:=by intro u I;rw[<-M];simp only[Env.putO];rcases A1.1 I with rfl|I;exact rN;rcases A1.1 I with rfl|I;exact Ez (Ez (Ez (Ez (Ez ji (D 1 7 _ _ rfl rfl (by decide))) (D 1 8 _ _ rfl rfl (by decide))) (D 1 9 _ _ rfl rfl (by decide))) (D 1 10 _ _ rfl rfl (by decide))) (D 1 0 _ _ rfl rfl (by decide));have:=hb u I;simp only[A1,not_or]at this;exact Ez (Ez (Ez (Ez (Ez (jb u I) this.2.2.2.2.2.2.2.1) this.2.2.2.2.2.2.2.2.1) this.2.2.2.2.2.2.2.2.2.1) this.2.2.2.2.2.2.2.2.2.2.1) this.1
  clear M;have w1:=Fs.subset (N:=N) (H:=Hb++[Ec.live (L.length+1) (te.E.cl (L++[q.2])),Ec.it es.length (seen++[j]),Ec.live 0 (te.enc q.2).cells]) V;have W:(Hb++[Ec.live (L.length+1) (te.E.cl (L++[q.2])),Ec.it es.length (seen++[j]),Ec.live 0 (te.enc q.2).cells]).take (Hb.length+2)=Hb++[Ec.live (L.length+1) (te.E.cl (L++[q.2])),Ec.it es.length (seen++[j])]:=by rw[gb,Bs (by omega),show Hb.length+2-Hb.length=2 by omega];rfl
  have w2:=Fs.cut (N:=N) (n0:=Hb.length+2) (env:=(out,AV.sl Hb.length (L.length+1) te.sz 0 (L.length+1))::(a2,AV.itp (Hb.length+1) id)::base) (H:=Hb++[Ec.live (L.length+1) (te.E.cl (L++[q.2])),Ec.it es.length (seen++[j]),Ec.live 0 (te.enc q.2).cells]) (by simp) (λt v X=>by
   rcases A1.1 X with e|X;injection e with _ e;subst e;exact decide_eq_true (by omega);rcases A1.1 X with e|X;injection e with _ e;subst e;simp only[AV.idsAll,BN,decide_eq_true_eq];omega;exact Pj (λi hi=>decide_eq_true (by have:=of_decide_eq_true hi;omega)) v (ax _ X)) (by
   rw[W];intro e c;rcases At.1 c with c|c;exact ym (λi hi=>decide_eq_true (by have:=of_decide_eq_true hi;omega)) e (ap e c);rcases A1.1 c with rfl|c;exact ACa te _ _ _;simp only[BE]at c;subst c;rfl)
  rw[W]at w2;have a':(Hb++[Ec.live L.length (te.E.cl L),Ec.it es.length seen]).length=Hb.length+2:=by simp
  rw[a'];exact(w1.of_le (by simp)).trans w2;refine PI.2 ⟨hn,by simp,λx f y hy=>?_⟩;simp only[BE]at hy;subst hy;rintro rfl;exact S f;intro x f;rcases At.1 f with f|f;exact hl x f;simp only[BE]at f;subst f;exact R
def iv(h:iu d J=some C): ∃x k i y l r z n A o B q,
  d= .seq (.region x k false) (.block i (.loop (.seq (.region y l false) (.seq (.cond (.tmp C.a4) .skip (.exit i)) (.block r (.seq (.region z n false) (.region A o false)))))))/\J= .region B q false/\
  rH k.toList=some (C.c0,C.a1,C.a2,C.ty1,C.ty2)/\oB l.toList=some (C.a2,C.a3,C.a4)/\oC n.toList=some (C.a2,C.a5,C.a6,C.a7,C.te1,C.te2)/\
  oD o.toList=some (C.out,C.a7,C.a8,C.a9,C.a10,C.a11,C.te3,C.ts1,C.ts2)/\rI q.toList=some (C.out,C.a12,C.a13,C.F,C.G)/\C.tmps.Nodup:=by
 unfold iu at h;split at h;split at h;rename_i s t u v w;split at h;rename_i j;simp only[BN]at j;have⟨⟨b,c,a,e,f,g⟩,hn⟩:=j;have b:=C8 b;have c:=C8 c;have a:=C8 a;have e:=C8 e;have f:=C8 f;have g:=C8 g;subst b c a e f g;cases h;exact⟨_,_,_,_,_,_,_,_,_,_,_,_,rfl,rfl,s,t,u,v,w,lh hn⟩;cases h;cases h;cases h
set_option maxHeartbeats 1000000 in
def yU{cs:List QY}(ct: ∀c∈cs,c.Ok P){a m:Code}{p:Vf}(hp:iu a m=some p){env:BQ}{H:Am}{R:Type}{k:BQ→Am→Option R}{r:R}(ok:Oc env H)(o:yT P N cs p env H k=some r):
  ∃A H',L9 P N a (Bw env) (A7 H) (qK (λE h=>L9 P N m E h (Vz .normal (Bw A) (A7 H'))) (λ_ _ _=>False))/\k A H'=some r/\Oc A H'/\FB p.tmps env H A H':=by
 obtain⟨i1,o1,T,i2,o2,J,i3,o3,i4,o4,i5,o5,rfl,rfl,p1,p2,p3,p4,p5,b4⟩:=iv hp;unfold yT at o;split at o;rename_i c ck b5;split at o;rename_i ro id hc;split at o;rename_i c4 kk n I F te G g a1 hF hE;split at o;rename_i cS;split at o;rename_i y1 kt et b' n2 c5 n3 z e1 s1 e2 s2 t1 t2 t3 t4 t5 t6 t7;split at o;rename_i hb;have cW:n=te:=by have:=Ty.beq_eq _ _ cS;injection this
 subst cW;simp only[BN]at hb;obtain⟨⟨bG,b9,V,ce,W,bz,Y,Z,cc,cd,ad⟩,U,ca,cb,bN⟩:=hb;have bG:=C8 bG;have V:=C8 V;have W:=C8 W;have bz:=C8 bz;have Y:=C8 Y;have Z:=C8 Z;have ad:=KK ad;subst V W Y Z ce;have c3:P.underlying kt=some (.int kk):=by split at U;rename_i k2 e;rw[e,of_decide_eq_true U];cases U
 cases ao:decide (((I.length:Nat):Int)<=16777216)with
 |false=>rw[ao]at o;cases o
 |true=>
  have bt:I.length<=16777216:=by have:=of_decide_eq_true ao;omega
  rw[ao]at o;obtain⟨s,hs,o⟩:=Dv.1 (show Option.bind _ _=some r from o);have hs:=uy hs;cases L:Nat.beq s.length I.length with
  |false=>rw[L]at o;cases o
  |true=>
   rw[L]at o;have o:k ((p.out,.c (.own H.length 0 n s.length))::XS p.tmps env) (H++[.buf false n s s.length 0,.dead])=some r:=o;have L:=C8 L;obtain⟨c6,q1,x1,c8,q2,x2,l1⟩:=lk p1;obtain⟨c9,q3,x3,c1,c',q4,x4,l5⟩:=lq p5;have D:=λ(i j a b:Nat)=>AB3 (i:=i) (j:=j) (a:=a) (b:=b) b4;have hN: ∀t∈p.tmps,t<N:=λt ht=>KK (Ft.1 bN t ht);have d1:KO N o1.toList=true:=by rw[l1];simp[KO,ju,jv,Oe,BN,decide_eq_true_eq];exact⟨hN _ (by simp[Vf.tmps]),hN _ (by simp[Vf.tmps])⟩
   have d5:KO N o5.toList=true:=by rw[l5];simp[KO,ju,jv,Oe,BN,decide_eq_true_eq];exact⟨hN _ (by simp[Vf.tmps]),hN _ (by simp[Vf.tmps])⟩
   have M:(Bw env).get p.out= .nils:=by rw[Sg,b5];rfl
   have al:(Bw env).get p.c0= .ptr c 0 0:=by rw[Sg,ck];rfl
   have co:p.c0≠p.out:=λe=>by rw[e,M]at al;cases al
   have cm:c<H.length:=Gp hc;have a':id<H.length:=Gp a1;have d:(A7 H).length=H.length:=CO H;have cf:(A7 H)[c]? =some (.live 0 [.mp id]):=by rw[FF,hc];rfl
   have O:(A7 H)[id]? =some (.mp kk (I.map λp=>(p.1,n.enc p.2))):=by rw[FF,a1];rfl
   have x: ∀q∈Bw (XS p.tmps env),q∈Bw env/\q.1∉p.tmps:=λq y=>by obtain⟨u,hu,rfl⟩:=Br.1 y;exact⟨Br.2 ⟨u,(Ts hu).1,rfl⟩,(Ts hu).2⟩
   have ci: ∀q∈Bw (XS p.tmps env),(q.2.idsAll λj=>decide (j<(A7 H).length))=true:=λq y=>by obtain⟨u,hu,rfl⟩:=Br.1 y;rw[d];exact bH (fN ca u hu)
   have ch: ∀e∈A7 H,(e.idsAll λj=>decide (j<(A7 H).length))=true:=by rw[d];exact fO cb
   have step:Bx H (H++[.buf false n s s.length 0,.dead]):=by have:=(Bx.push H (.buf false n s s.length 0)).trans (Bx.push _ .dead);rwa [A0]at this
   have b6:(Bc.own H.length 0 n s.length).ok (H++[.buf false n s s.length 0,.dead]):=by apply Vb (b:=false) (l:=s);rw[Cb (Ag _),G3];rfl
   refine⟨(p.out,.c (.own H.length 0 n s.length))::XS p.tmps env,H++[.buf false n s s.length 0,.dead],?_,o,⟨λq y=>?_,?_⟩,step,λu hu _=>?_⟩;refine L9.weak (Fs.virt (t:=p.out) (sz:=n.sz) M) (L9.seq (Fb d1 ?_));rw[l1];have cG:CM P ((Bw env).put p.out (.sl (A7 H).length 0 n.sz 0 0)) (A7 H++[.live 0 []]) (.load p.ty1 (.tmp p.c0))=some (.mp id):=by simp[CM,BC,Fx];rw[if_neg co,al];simp[cQ,t1,Oy];rw[B6 (by rw[d];exact cm),cf];rfl
   have bl:(A7 H++[Ec.live 0 []])[id]? =some (.mp kk (I.map λp=>(p.1,n.enc p.2))):=by rw[B6 (by rw[d];exact a'),O]
   refine Ub.cons rfl (Db cG (Ub.cons rfl (Iv.range (id:=id) (k:=kk) (es:=I.map λp=>(p.1,n.enc p.2)) rfl ?_ t2 bl (Ub.nil ?_))));simp[BC,Env.putO,Fx,if_true];rw[Da,Af,A0];dsimp[qK,Env.putO];refine L9.block (L9.of_loopW ?_);have ax:[p.out,p.a2,p.a3,p.a4,p.a5,p.a6,p.a7,p.a8,p.a9,p.a10,p.a11].Sublist p.tmps:=.cons₂ _ (.cons _ (.cons₂ _ (.cons₂ _ (.cons₂ _ (.cons₂ _ (.cons₂ _ (.cons₂ _ (.cons₂ _ (.cons₂ _ (.cons₂ _ (.cons₂ _ (.cons _ (.cons _ .slnil)))))))))))));have b8:=wj (P:=P) (N:=N) (te:=n) (kk:=kk) (es:=I) (Hb:=A7 H) (base:=Bw (XS p.tmps env)) (id:=id) (out:=p.out) (a2:=p.a2) (a3:=p.a3) (a4:=p.a4) (a5:=p.a5) (a6:=p.a6) (a7:=p.a7) (a8:=p.a8) (a9:=p.a9) (a10:=p.a10) (a11:=p.a11)
    (b1:=T) (b2:=J) (i2:=i2) (i3:=i3) (i4:=i4) (bb:=b') p2 p3 p4 ?_ ?_ ?_ ci ch O b9 t5 bz t3 t4 t6 t7 cc cd ad bt I.length [] Ny (λj B=>by cases B) (by simpa using List.length_filter_le _ (List.range I.length)) (by have:=LZ (λj=>!decide (j∈([]:List Nat))) (List.range I.length);simpa[cR]using this)
   refine MA.mono (MA.weak ?_ b8) ?_;refine Fs.subset (N:=N) (H:=A7 H++[Ec.live 0 [],Ec.it I.length []]) λq y=>?_;rcases A1.1 y with rfl|y;exact Ez (Ez rN (D 0 1 _ _ rfl rfl (by decide))) (D 0 2 _ _ rfl rfl (by decide));rcases A1.1 y with rfl|y;exact rN;obtain⟨T,J⟩:=x q y;simp[Vf.tmps,A1,not_or]at J;exact Ez (Ez (Ez T J.1) J.2.1) J.2.2.1;rintro e E h ⟨rfl,C,K,b7,Q,ar,ap⟩;show kA T _ (.exit T) E h;simp[kA,if_true,qK];refine L9.weak (Fs.subset b7) (L9.after (Fb d5 ?_));rw[l5];obtain⟨b3,hf⟩:=gz hF;have a0:s.length=C.length:=by rw[L,<-K.length_eq,Da]
   have hA:=ct _ b3 C () s (hs C K) a0 h (A7 H).length ap;simp[QY.f]at hf;rw[hf]at hA;refine Ub.cons rfl (Db (v:=.sl (A7 H).length C.length n.sz 0 C.length) (congrArg some jN) (Ub.cons rfl (Iv.mono (jU (F:=p.F) (vs:=[.sl (A7 H).length C.length n.sz 0 C.length,.fn (.func G) [] []]) ?_ hE hA) ?_)));show some (Sum.inl (p.F,[]++[Env.get _ p.a12,AV.fn (.func p.G) [] []]++[]))=_;simp only[Env.putO,Fx,if_true,bG];rfl;rintro _ _ ⟨rfl,rfl⟩;refine Ub.nil ⟨_,_,?_,rfl,rfl,rfl⟩;have cB:(h.set (A7 H).length (.live C.length (n.E.cl s))).length=h.length:=by simp
   rw[<-cB];refine UA (by simp[A7];rw[Q,d]) λX g' w _=>?_;have hr:SO (cx X g' (h.set (A7 H).length (.live C.length (n.E.cl s))) w) (cx X g' (h.set (A7 H).length (.live C.length (n.E.cl s))) w) (h.set (A7 H).length (.live C.length (n.E.cl s))) (A7 (H++[.buf false n s s.length 0,.dead])):=by
    refine⟨by simp[A7];rw[Q,d],λj e' B=>?_⟩;have same:(h.set (A7 H).length (.live C.length (n.E.cl s)))[j]? =some e'->e'= .dead\/_:=λhh=>(SO.refl (cx X g' (h.set (A7 H).length (.live C.length (n.E.cl s))) w) (h.set (A7 H).length (.live C.length (n.E.cl s)))).2 j e' hh;have cv:A7 (H++[.buf false n s s.length 0,.dead])=A7 H++[Ec.live s.length (n.E.cl s),Ec.dead]:=by simp[A7,Dp.enc]
    rw[cv]at B;rcases PJ j (A7 H).length with b0|rfl|c2;rw[B6 b0]at B;exact same (by rw[Dt (by omega),ar j b0];exact B);rw[Cb (Ag _),G3]at B;exact same (by rw[Hi (by omega),<-a0];exact B);rw[Cb (by omega)]at B;rcases PJ (j-(A7 H).length) 1 with q|q|q;omega;rw[q]at B;injection B with B;exact .inl B.symm;rw[Ck (by simp;omega)]at B;cases B
   refine⟨hr.onto,λt v' S=>⟨v',?_,λc r=>r.later hr.later⟩⟩;simp[Env.putO];have S:(t,v')∈(p.out,AV.sl (A7 H).length s.length n.sz 0 s.length)::Bw (XS p.tmps env):=by rw[d];exact S
   rcases A1.1 S with e|S;cases e;rw[a0];exact Ez (Ez JS (D 0 12 _ _ rfl rfl (by decide))) (D 0 13 _ _ rfl rfl (by decide));obtain⟨T,J⟩:=x _ S;simp only[Vf.tmps,A1,not_or]at J;exact Ez (Ez (CN _ S) J.2.2.2.2.2.2.2.2.2.2.2.2.1) J.2.2.2.2.2.2.2.2.2.2.2.2.2.1;exact b4.sublist ax;exact λt ht=>hN t (ax.subset ht);exact λq y S=>(x q y).2 (ax.subset S);rcases A1.1 y with rfl|y;exact JU b6;exact step.tv (ok.env q (Ts y).1);intro e he;rcases At.1 he with he|he;exact step.ent (ok.heap e he);simp[A1,List.not_mem_nil,or_false]at he;rcases he with rfl|rfl;rfl;trivial;show BQ.get _ u=_;have:p.out≠u:=λe=>hu (by rw[<-e];simp[Vf.tmps]);simp[BQ.get,beq_false this];exact kL hu env
 cases o;cases o;cases o;cases o;cases o;cases o
end
abbrev Sem:= ∀{R:Type},BQ->Am->(Exit->BQ->Am->Option R)->Option R
def jh:List (Nat×Ty)->BQ->Am->Option (BQ×Am)
 |[],env,H=>some (env,H)
 |(t,ty)::r,env,H=>
  match env.get t with
  | .c .nil=>jh r (env.put t (.c (.own H.length 0 ty 0))) (H++[.buf false ty [] 0 0])
  |_=>none
def nF:Nat->List Bc->Option (List Bc×List Bc)
 |0,.nil::r=>some ([],r)
 |n+1,x::r=>match nF n r with|some (a,b)=>some (x::a,b)|none=>none
 |_,_=>none
def eU:List (Nat×Nat×Ty)->Am->Option Am
 |[],H=>some H
 |(b,i,ty)::r,H=>
  match H[b]? with
  |some (.live false cs)=>
   match nF i cs with
   |some (x,y)=>eU r (H.set b (.live false (x++ .own H.length 0 ty 0::y))++[.buf false ty [] 0 0])
   |none=>none
  |_=>none
def ABO(h:Hint)(env:BQ)(H:Am):Option (BQ×Am):=
 match jh h.virt env H with
 |some (e,H1)=>match eU h.virtC H1 with|some H2=>some (e,H2)|none=>none
 |none=>none
def ABC(h:Hint)(n:Nat)(eb:BQ)(H0:Am)(S:List Nat)(k:Exit->BQ->Am->Option R)(o:rE h.exits):Option R:=
 ACy h.exits o λx sl ds=>
  match Us sl ds eb H0 with
  |some (e,hh)=>match oh n e&&(fv n hh&&S.all λj=>Ni j (K7 sl))with|true=>k x e hh|false=>none
  |none=>none
def yy(h:Hint)(A:List Nat)(run:Sem):Sem:=λenv H k=>
 match ABO h env H with
 |none=>none
 |some (env0,H0)=>
  match kq env0 with
  |false=>none
  |true=>(run env0 (L8 (K7 h.slots) 0 H0) λx e1 h1=>ur h.exits x e1 h1).bind λo=>ABC h H0.length (PN A (K7 h.slots) H0 env0) H0 (K7 h.slots) k o
def vv(h:Hint)(x:Exit)(env:BQ)(H:Am):Option (Step (DL (cE h.slots)) (rE h.exits)):=
 match sV .normal x with
 |true=>match sJ h.slots env H with|some s=>some (.next s)|none=>none
 |false=>match ur h.exits x env H with|some o=>some (.done o)|none=>none
noncomputable def y8(h:Hint)(A:List Nat)(run:Sem):Sem:=λenv H k=>
 match ABO h env H with
 |none=>none
 |some (env1,H1)=>
  match G4 (h.kill++gU env1 H1 h.slots) env1 H1 with
  |(env0,H0)=>
   match kq env0,YB env0 H0 h.slots with
   |true,some ds=>
    match uk (cE h.slots) ds with
    |some s0=>(Ad (λs=>
      match Us h.slots (yh (cE h.slots) s) (PN A (K7 h.slots) H0 env0) (L8 (K7 h.slots) 0 H0)with
      |some (e,hh)=>match oh H0.length e&&fv H0.length hh with|true=>run e hh λx e1 h1=>vv h x e1 h1|false=>none
      |none=>none) s0).bind λo=>ABC h H0.length (PN A (K7 h.slots) H0 env0) H0 (K7 h.slots) k o
    |none=>none
   |_,_=>none
def vg(c:Operand)(ra rb:Sem):Sem:=λenv H k=>
 match Ib env c with
 | .c (.bl v)=>cond v (ra env H k) (rb env H k)
 |_=>none
def uL(id:Nat)(r:Sem):Sem:=λenv H k=>r env H λe env' H'=>
 match e with
 | .exit id'=>match Nat.beq id' id with|true=>k .normal env' H'|false=>k (.exit id') env' H'
 |e=>k e env' H'
def pd(o:Option Hint)(A:List Nat)(run:Sem):Sem:=
 match o with
 |some h=>yy h A run
 |none=>run
noncomputable def AB0(o:Option Hint)(A:List Nat)(run:Sem):Sem:=
 match o with
 |some h=>y8 h A run
 |none=>λ_ _ _=>none
def bw:BQ->BQ
 |[]=>[]
 |(t,v)::r=>match Kb v.refs with|[]=>(t,v)::bw r|_=>bw r
def vA(P:Program)(call:Pz)(N:Nat)(me:FuncId)(f:Operand)(ps:Array Tmp)(a b:Code):Sem:=λenv H k=>
 match Ib env f with
 | .c (.raw (.fn (.func G) first caps))=>
  match Enters P G with
  |true=>call (.fn G) (first.map xo++[.c (.raw (.yf H.length))]++caps.map xo) (H++[.lp false me N (bw env) ps a b .ready]) λ_ H'=>
   match H'[H.length]? with
   |some (.lp false _ _ _ _ _ _ .ready)=>k .normal env (H'.set H.length .dead)
   |some (.lp false _ _ _ _ _ _ .ret)=>k .ret env (H'.set H.length .dead)
   |some (.lp false _ _ _ _ _ _ (.exit x))=>k (.exit x) env (H'.set H.length .dead)
   |_=>none
  |false=>none
 |_=>none
noncomputable def iJ(P:Program)(cs:List QY)(call:Pz)(N:Nat)(me:FuncId)(hs:List Hint):Code->Sem
 | .skip=>λenv H k=>k .normal env H
 | .ret=>λenv H k=>k .ret env H
 | .exit id=>λenv H k=>k (.exit id) env H
 | .seq a (.seq m r)=>λenv H k=>
  match iu a m with
  |some p=>yT P N cs p env H λenv' H'=>iJ P cs call N me hs r env' H' k
  |none=>iJ P cs call N me hs a env H λe env' H'=>match e with| .normal=>iJ P cs call N me hs (.seq m r) env' H' k|e=>k e env' H'
 | .seq a b=>pd (mU hs a b) (Pp hs (.seq a b)) λenv H k=>iJ P cs call N me hs a env H λe env' H'=>match e with| .normal=>iJ P cs call N me hs b env' H' k|e=>k e env' H'
 | .cond c a b=>pd (bo hs (.cond c a b)) (Pp hs (.cond c a b)) (vg c (iJ P cs call N me hs a) (iJ P cs call N me hs b))
 | .block id b=>pd (bo hs (.block id b)) (Pp hs (.block id b)) (uL id (iJ P cs call N me hs b))
 | .loop b=>AB0 (bo hs (.loop b)) (Pp hs (.loop b)) (iJ P cs call N me hs b)
 | .region id ops false=>pd (bo hs (.region id ops false)) (Pp hs (.region id ops false)) λenv H k=>
  match KO N ops.toList with
  |true=>oN P cs call ops (guards ops) false ops.toList 0 env H λenv' H'=>k .normal env' H'
  |false=>none
 | .region id ops true=>λenv H k=>
  match P.follows .mixedOrders&&wL ops N (uz ops)&&T7 P ops&&kq env with
  |true=>vH P cs call ops (Hr ops.toList []) (guards ops) (match iz 3 id hs with|some _=>true|none=>false) (uz ops) [] env H λenv' H'=>k .normal env' H'
  |false=>none
 | .rangeFunc f ps a b=>vA P call N me f ps a b
 |_=>λ_ _ _=>none
def ABb{f:List Hint}(j: ∀m r,J≠ .seq m r)(env:BQ)(H:Am)(h:Exit→BQ→Am→Option R):
  iJ P c k N F f (.seq d J) env H h=pd (mU f d J) (Pp f (.seq d J)) (λenv H h=>iJ P c k N F f d env H λe g i=>match e with| .normal=>iJ P c k N F f J g i h|e=>h e g i) env H h:=by
 cases J<;>first|rfl|exact absurd rfl (j _ _)
def Oz(P:Program)(N:Nat)(A:List Nat)(c:Code)(run:Sem):Prop:= ∀{R:Type} (env:BQ) (H:Am) (k:Exit->BQ->Am->Option R) (r:R),Oc env H->run env H k=some r->
 ∃e env' H',o6 P N c (Bw env) (A7 H) (Vz e (Bw env') (A7 H'))/\k e env' H'=some r/\Oc env' H'/\FB A env H env' H'
theorem wS: ∀{l:List (Nat×Ty)} {env:BQ} {H:Am} {a:BQ} {b:Am},Oc env H→jh l env H=some (a,b)→
  Oc a b/\FB (l.map (·.1)) env H a b/\ ∀N,Fs N H.length (Bw env) (A7 H) (Bw a) (A7 b)
 |[],env,H,a,b,ok,h=>by grind[jh,FB.refl,Fs.refl,CO]
 |(t,ty)::r,env,H,a,b,ok,h=>by
  simp only[jh]at h;split at h;rename_i m;have st:Bx H (H++[.buf false ty [] 0 0]):=Bx.push H _;have g:(H++[Dp.buf false ty [] 0 0])[H.length]? =some (.buf false ty [] 0 0):=by simp
  have i:Oc (env.put t (.c (.own H.length 0 ty 0))) (H++[.buf false ty [] 0 0]):=by refine⟨Yk (d:=some t) (st.env ok.env) (JU (Vb g)),λe f=>?_⟩;rcases At.1 f with f|f;exact st.ent (ok.heap e f);rw[BE.1 f];rfl
  obtain⟨q1,q2,q3⟩:=wS i h;refine⟨q1,?_,λN=>?_⟩;have o:FB [t] env H (env.put t (.c (.own H.length 0 ty 0))) (H++[.buf false ty [] 0 0]):=⟨st,λu n _=>jg λe=>n (by simp[e])⟩
  exact FB.trans ok.env o q2;have w:=Fs.virt (N:=N) (env:=Bw env) (H:=A7 H) (t:=t) (sz:=ty.sz) (by rw[Sg,m];rfl);have j:=(q3 N).of_le (n0:=H.length) (by simp);rw[di]at j;have k:A7 (H++[.buf false ty [] 0 0])=A7 H++[.live 0 []]:=by simp[A7,Dp.enc,S9.cl]
  rw[k]at j;rw[CO]at w;exact w.trans j;cases h
def lR: ∀{n:Nat} {e x y:List Bc},nF n e=some (x,y)->e=x++ .nil::y
 |0,[],_,_,h=>by cases h
 |0,z::r,x,y,h=>by
  cases z<;>simp only[nF]at h<;>try (cases h;done)
  injection h with h;injection h with c d;subst c d;rfl
 |n+1,[],_,_,h=>by cases h
 |n+1,z::r,x,y,h=>by simp only[nF]at h;split at h;rename_i a b hr;injection h with h;injection h with c d;subst c d;rw[lR hr];rfl;cases h
theorem tk{env:BQ}: ∀{l:List (Nat×Nat×Ty)} {H c:Am},Oc env H→eU l H=some c→
  Oc env c/\Bx H c/\ ∀N,Fs N H.length (Bw env) (A7 H) (Bw env) (A7 c)
 |[],H,c,ok,h=>by grind[eU,Option.some.injEq,Bx.refl,Fs.refl,Bw,A7,CO]
 |(b,i,ty)::r,H,c,ok,h=>by
  simp only[eU]at h;split at h;rename_i E v;split at h;rename_i x y B;have m:=lR B;subst m;have D:b<H.length:=by grind
  have f:Bx H (H++[Dp.buf false ty [] 0 0]):=Bx.push H _;have a:H.set b (Dp.live false (x++Bc.own H.length 0 ty 0::y))++[Dp.buf false ty [] 0 0]=(H++[Dp.buf false ty [] 0 0]).set b (Dp.live false (x++Bc.own H.length 0 ty 0::y)):=by grind
  have j:(H++[Dp.buf false ty [] 0 0])[b]? =some (Dp.live false (x++Bc.nil::y)):=by grind
  have g:Bx (H++[Dp.buf false ty [] 0 0]) ((H++[Dp.buf false ty [] 0 0]).set b (Dp.live false (x++Bc.own H.length 0 ty 0::y))):=Bx.set j rfl λ_ _ _ _ _ e=>by cases e
  have n:(H++[Dp.buf false ty [] 0 0])[H.length]? =some (.buf false ty [] 0 0):=by simp
  have t:lok H (x++Bc.nil::y):=ok.heap _ (BL v);have s: ∀e∈H++[Dp.buf false ty [] 0 0],e.ok (H++[Dp.buf false ty [] 0 0]):=λe d=>by rcases At.1 d with d|d;exact f.ent (ok.heap e d);rw[BE.1 d];rfl
  have u:lok (H++[Dp.buf false ty [] 0 0]) (x++Bc.own H.length 0 ty 0::y):=by have q:=Ig.1 (f.lok t);refine Ig.2 ⟨q.1,λz o=>?_⟩;rcases A1.1 o with rfl|o;exact Vb n;exact q.2 z (CN _ o)
  rw[a]at h;have p:Oc env ((H++[Dp.buf false ty [] 0 0]).set b (Dp.live false (x++Bc.own H.length 0 ty 0::y))):=⟨g.env (f.env ok.env),heap_set g s (g.lok u)⟩
  obtain⟨q1,q2,q3⟩:=tk p h;refine⟨q1,(f.trans g).trans q2,λN=>?_⟩;have k:(A7 H)[b]? =some (.live 0 (lvs (x++Bc.nil::y))):=by rw[FF,v];rfl
  have C:(lvs (x++Bc.nil::y))[(lvs x).length]? =some .nils:=by grind[Gb,HJ,Bc.enc]
  have w:=Fs.virtC (N:=N) (env:=Bw env) (sz:=ty.sz) k C;have A:A7 ((H++[Dp.buf false ty [] 0 0]).set b (Dp.live false (x++Bc.own H.length 0 ty 0::y)))=(A7 H).set b (.live 0 ((lvs (x++Bc.nil::y)).set (lvs x).length (.sl (A7 H).length 0 ty.sz 0 0)))++[.live 0 []]:=by
   rw[<-a];have:(lvs (x++Bc.nil::y)).set (lvs x).length (.sl (A7 H).length 0 ty.sz 0 0)=lvs (x++Bc.own H.length 0 ty 0::y):=by grind[Gb,HJ,CO,Bc.enc]
   grind[A7,Dp.enc,S9.cl,List.map_set]
  rw[<-A,CO]at w;exact w.trans ((q3 N).of_le (by simp));cases h;cases h
theorem wI(ok:Oc f b)(h:ABO s f b=some (L,B)):
  Oc L B/\FB (s.virt.map (·.1)) f b L B/\ ∀N,Fs N b.length (Bw f) (A7 b) (Bw L) (A7 B):=by
 unfold ABO at h;split at h;rename_i e d n;obtain⟨a1,a2,a3⟩:=wS ok n;split at h;rename_i H m;injection h with h;injection h with k l;subst k l;obtain⟨g,i,j⟩:=tk a1 m;have o:FB [] e d e H:=⟨i,λ_ _ _=>rfl⟩
 exact⟨g,(FB.trans ok.env a2 o).mono λt p=>by grind,λN=>(a3 N).trans ((j N).of_le a2.step.len)⟩;cases h;cases h
theorem pK{A S:List Nat}{H:Am}: ∀{env:BQ},(env.map (·.1)).Nodup-> ∀t,env.get t=RE->(PN A S H env).get t=RE
 |[],_,_,_=>rfl
 |(u,v)::r,nd,t,h=>by have a:=Fz.1 nd;simp only[BQ.get]at h;by_cases b:u=t;subst b;have hn: ∀p∈PN A S H r,p.1≠u:=λp c e=>a.1 (Br.2 ⟨p,(Pq a.2 p c).2.2,e⟩);grind[PN,BQ.get,gQ];rw[beq_false b]at h;have d:=pK (A:=A) (S:=S) (H:=H) a.2 t h;grind[PN,BQ.get,beq_false]
theorem vp{h:Hint}{A B:List Nat}{env0:BQ}{e:Am}{D:BQ}{E:Am}(m:Oc env0 e)(nd:(env0.map (·.1)).Nodup)(M:uB A (K7 h.slots) env0 e D E)
  {env1:BQ} {u:Am} (C:Oc env1 u) (st:FB B D E env1 u) (K: ∀t,t∈B->t∈A) (J: ∀t,t∈h.tmps->t∈A) {x:Exit} {o:rE h.exits} (Q:ur h.exits x env1 u=some o)
  {R:Type} {k:Exit->BQ->Am->Option R} {r:R} (f:ABC h e.length (PN A (K7 h.slots) e env0) e (K7 h.slots) k o=some r) (N:Nat):
  ∃g i,Fs N e.length (Bw env1) (A7 u) (Bw g) (A7 i)/\k x g i=some r/\Oc g i/\FB A env0 e g i:=by
 obtain⟨rfl,L,p,S,y⟩:=py Q;have f:=px f;split at f;rename_i g i O;split at f;rename_i v;simp at v;have sub: ∀j,Ni j (K7 (rF h.exits o).2.1)=false->Ni j (K7 h.slots)=false:=λj d=>T0 λG=>by grind
 obtain⟨w,W,Y,z⟩:=vW m nd M C st K L m.heap rfl (y7 e) (λ_ _ _ _ q=>q) (λj H d c=>by
  cases H with
  |dead=>grind
  |live b V=>exact .inr ⟨_,sub j d,by rw[KA,c,ED,sub j d];rfl,rfl,.inr (.inl ⟨_,_,_,_,rfl,rfl,DT.refl _⟩)⟩
  |buf b t l n U=>exact .inr ⟨_,sub j d,by rw[KA,c,ED,sub j d];rfl,rfl,.inr (.inr (.inl ⟨_,_,_,_,_,_,_,rfl,rfl⟩))⟩
  |mp b k t X=>exact .inr ⟨_,sub j d,by rw[KA,c,ED,sub j d];rfl,rfl,.inr (.inr (.inr (.inr ⟨_,_,_,_,_,rfl,rfl⟩)))⟩
  |lp ro F n env Z a b s=>exact .inr ⟨_,sub j d,by rw[KA,c,ED,sub j d];rfl,rfl,.inr (.inr (.inr (.inl ⟨_,_,_,_,_,_,_,_,_,rfl,rfl⟩)))⟩) O v.1 v.2.1 N
 refine⟨g,i,w,f,z.ok,z.step,λt T P=>?_⟩;have I:=T0 λG=>T (J t (by refine At.2 (.inr (HS.2 ⟨p,S,?_⟩));rw[<-y];exact G));rw[z.get t I];grind[r9,RE,pK,fK,y0,T0];cases f;cases f
variable {P:Program} {N:Nat}
variable {h:Sem}
theorem s8(hr:Oz P N a d h)(n: ∀t,t∈a->t∈A)(m: ∀t,t∈s.tmps->t∈A):Oz P N A d (yy s A h):=by
 intro R env H k r ok c;unfold yy at c;dsimp only at c;split at c;cases c;rename_i env0 f v;split at c;cases c;rename_i hn;obtain⟨o,B,c⟩:=bnd c;obtain⟨b,x,y⟩:=wI ok v;have nd:=Xc hn;obtain⟨e,env1,z,a1,k1,g,i⟩:=hr env0 (L8 (K7 s.slots) 0 f) _ o (jS b) B;have q:uB A (K7 s.slots) env0 f env0 (L8 (K7 s.slots) 0 f):=⟨jS b,Bx.refl _,KB _ _,λ_ _=>rfl,λp u=>(Pq nd p u).1⟩
 obtain⟨j,l,w,q1,q2,q3⟩:=vp b nd q g i n m k1 c N;refine⟨e,j,l,?_,q1,q2,?_⟩;rw[ph]at a1;refine o6.weak (by rw[CO];exact y N) (o6.after (a1.mono ?_));rintro _ _ _ ⟨rfl,rfl,rfl⟩;exact⟨_,_,by rw[CO];exact w,rfl,rfl,rfl⟩;exact(FB.trans ok.env x q3).mono λt C=>by grind[Hint.tmps]
theorem y9(hr:Oz P N a d h)(hB: ∀t,t∈a->t∈A)(X: ∀t,t∈s.tmps->t∈A):Oz P N A (.loop d) (y8 s A h):=by
 intro R env H k r ok g;unfold y8 at g;dsimp only at g;split at g;cases g
 ·rename_i E Hv hv;obtain⟨bb,sv,wv⟩:=wI ok hv;obtain⟨m,sf,wf⟩:=Oh (s.kill++gU E Hv s.slots) bb;generalize G4 (s.kill++gU E Hv s.slots) E Hv=fz at g m sf wf;obtain⟨env0,f⟩:=fz;simp only at g m sf wf;split at g
  ·rename_i ds hn hc;split at g
   ·rename_i s0 a7;obtain⟨o,ho,g⟩:=bnd g;have nd:=Xc hn;have v: ∀e∈L8 (K7 s.slots) 0 f,e.ok (L8 (K7 s.slots) 0 f):=(jS m).heap;have hC:=uf (C:=λB o=> ∀r,ABC s f.length (PN A (K7 s.slots) f env0) f (K7 s.slots) k o=some r->
     ∃u i,Us s.slots (yh (cE s.slots) B) (PN A (K7 s.slots) f env0) (L8 (K7 s.slots) 0 f)=some (u,i)/\oh f.length u=true/\fv f.length i=true/\(uB A (K7 s.slots) env0 f u i-> ∃x D G,MA P N d (Bw u) (A7 i) (Vz x (Bw D) (A7 G))/\k x D G=some r/\Oc D G/\FB A env0 f D G)) (λB q U=>by
     split at U
     ·rename_i u i hi;split at U
      ·rename_i I;simp only[BN]at I;have body: ∀y:uB A (K7 s.slots) env0 f u i,∃e env1 J,o6 P N d (Bw u) (A7 i) (Vz e (Bw env1) (A7 J))/\vv s e env1 J=some q/\Oc env1 J/\FB a u i env1 J:=λy=>hr u i _ q y.ok U;cases q with
       |next s'=>
        intro o ih r g;obtain⟨ad,ap,i1,i2,i3,i4⟩:=ih r g;refine⟨u,i,hi,I.1,I.2,λy=>?_⟩;obtain⟨e,env1,J,a1,k1,O,Q⟩:=body y;unfold vv at k1;split at k1;rename_i hx;have:=nK hx;subst this;split at k1;rename_i s1 a8;injection k1 with k1;injection k1 with k1;subst k1;have a2:=gv a8;obtain⟨w,ea,ha,z⟩:=vW (Hx:=L8 (K7 s.slots) 0 f) m nd y O Q hB a2 v (KB _ _) (.refl _) (λ_ _ _ _ q=>nt q) (λj e' L V=>by
         cases Y:f[j]? with
         |none=>grind[KA]
         |some W=>
          have Z:=V;rw[KA,Y,ED,L]at V;simp only[Bf,Ai]at V;subst V;cases W with
          |dead=>exact .inl rfl
          |live b cs=>exact .inr ⟨_,L,Z,rfl,.inr (.inl ⟨_,_,_,_,rfl,rfl,DT.refl _⟩)⟩
          |buf b t l n bl=>exact .inr ⟨_,L,Z,rfl,.inr (.inr (.inl ⟨_,_,_,_,_,_,_,rfl,rfl⟩))⟩
          |mp b k t es=>exact .inr ⟨_,L,Z,rfl,.inr (.inr (.inr (.inr ⟨_,_,_,_,_,rfl,rfl⟩)))⟩
          |lp ro F n env ps c b B=>exact .inr ⟨_,L,Z,rfl,.inr (.inr (.inr (.inl ⟨_,_,_,_,_,_,_,_,_,rfl,rfl⟩)))⟩) i1 i2 i3 N
        have a3:uB A (K7 s.slots) env0 f ad ap:=⟨z.ok,z.step,by rw[z.len,KB],z.same,λp M=>by
         obtain⟨T,b2,b3⟩:=Pq nd p M;have K:Ni p.1 A=false:=by grind[cP,Ni]
         rw[z.get p.1 (T0 λhm=>SI K (X _ (by unfold Hint.tmps;simp only[List.mem_append];exact .inl (.inr hm))))];rw[fK nd p.1 (by rw[T];exact b2)];exact T⟩
        obtain⟨x,D,G,l1,l2,l3,l4⟩:=i4 a3;refine⟨x,D,G,RW (a1.awp.mono ?_),l2,l3,l4⟩;rintro _ _ _ ⟨rfl,rfl,rfl⟩;exact⟨_,_,by rw[CO,y.len];exact w,l1⟩;cases k1;split at k1<;>grind
       |done o=>
        intro r g;refine⟨u,i,hi,I.1,I.2,λy=>?_⟩;obtain⟨e,env1,J,a1,k1,O,Q⟩:=body y;unfold vv at k1;split at k1;split at k1<;>grind;rename_i hx;split at k1;rename_i o1 a6;injection k1 with k1;injection k1 with k1;subst k1;obtain⟨D,G,w,q1,q2,q3⟩:=vp m nd y O Q hB X a6 g N;have a5:e≠ .normal:=by rintro rfl;cases hx
        refine⟨e,D,G,MA.after (RW (a1.awp.mono ?_)),q1,q2,q3⟩;intro e1 al bt a9;obtain⟨ar,ax,a0⟩:=a9;subst ar ax a0;have ao: ∃env2 H2,Fs N (A7 i).length (Bw env1) (A7 J) env2 H2/\Vz e1 (Bw D) (A7 G) e1 env2 H2:=⟨_,_,by rw[CO,y.len];exact w,rfl,rfl,rfl⟩
        cases e1 with
        |normal=>exact(a5 rfl).elim
        |_=>exact ao
        cases k1
      cases U
     cases U) ho
    obtain⟨u,i,i1,i2,i3,i4⟩:=hC r g;have a4:=kp a7;rw[a4]at i1;have a':Oc (PN A (K7 s.slots) f env0) (L8 (K7 s.slots) 0 f):=⟨λp M=>(jS m).env p (Pq nd p M).2.2,v⟩
    have z:=Nh m hc i1 a' (by rw[KB];exact Ag _) (λp M=>⟨p.2,(Pq nd p M).2.2,U2.refl _⟩) (λj e' L V=>by
     rw[KA]at V;cases Y:f[j]? with
     |none=>rw[Y]at V;cases V
     |some W=>
      rw[Y,ED,L]at V;simp only[Bf,Ai]at V;subst V;refine⟨W,rfl,?_⟩;cases W with
      |dead=>exact .inl rfl
      |live b cs=>exact .inr (.inl ⟨_,_,_,_,rfl,rfl,DT.refl _⟩)
      |buf b t l n bl=>exact .inr (.inr (.inl ⟨_,_,_,_,_,_,_,rfl,rfl⟩))
      |mp b k t es=>exact .inr (.inr (.inr (.inr ⟨_,_,_,_,_,rfl,rfl⟩)))
      |lp ro F n env ps c b B=>exact .inr (.inr (.inr (.inl ⟨_,_,_,_,_,_,_,_,_,rfl,rfl⟩)))) (AA7 f)
    have w:=z.weak (N:=N) (by rw[KB];exact Ag _) (by rw[KB];exact i2) (by rw[KB];exact i3);rw[KB]at w;have y:uB A (K7 s.slots) env0 f u i:=⟨z.ok,z.step,by rw[z.len,KB],z.same,λp M=>by
     obtain⟨T,b2,b3⟩:=Pq nd p M;have K:Ni p.1 A=false:=by grind[cP,Ni]
     rw[z.get p.1 (T0 λhm=>SI K (X _ (by unfold Hint.tmps;simp only[List.mem_append];exact .inl (.inr hm))))];rw[fK nd p.1 (by rw[T];exact b2)];exact T⟩
    obtain⟨x,D,G,l1,l2,l3,l4⟩:=i4 y;have w3:Fs N H.length (Bw env) (A7 H) (Bw u) (A7 i):=((wv N).trans ((wf N).of_le (by rw[CO];exact sv.step.len))).trans (w.of_le (EC sv.step.len sf.step.len));refine⟨x,D,G,o6.weak (by rw[CO];exact w3) l1,l2,l3,?_⟩;exact(FB.trans ok.env (FB.trans ok.env sv sf) l4).mono λt S=>by rcases At.1 S with S|S;rw[D8]at S;exact X t (by unfold Hint.tmps;simp only[List.mem_append];exact .inl (.inl (.inr S)));exact S
   cases g
  cases g
def yW{A B:List Nat}{j:Sem}(l:Oz P N A d h)(m:Oz P N B J j):Oz P N (A++B) (.cond G d J) (vg G h j):=by
 intro R env H k r ok f;unfold vg at f;dsimp only at f;split at f;rename_i v n;have i:BC (Bw env) G= .bool v:=by have:=JD env G;rw[n]at this;exact this
 cases v with
 |true=>obtain⟨e,c,g,a1,q1,q2,q3⟩:=l env H k r ok f;exact⟨e,c,g,EA (λ_ e=>by cases e) (L9.cond i (λ_=>a1.awp) (λe=>by cases e)),q1,q2,q3.mono λt a=>At.2 (.inl a)⟩
 |false=>obtain⟨e,c,g,a1,q1,q2,q3⟩:=m env H k r ok f;exact⟨e,c,g,EA (λ_ e=>by cases e) (L9.cond i (λe=>by cases e) (λ_=>a1.awp)),q1,q2,q3.mono λt a=>At.2 (.inr a)⟩
 cases f
def wX{A:List Nat}(hr:Oz P N A d h):Oz P N A (.block n d) (uL n h):=by
 intro R env H k r ok i;obtain⟨e,a,f,a1,q1,q2,q3⟩:=hr env H _ r ok i;cases e with
 |exit c=>
  simp only at q1;split at q1;rename_i b;have:=C8 b;refine⟨.normal,a,f,EA (λ_ e=>by cases e) (L9.block (a1.awp.mono ?_)),q1,q2,q3⟩;rintro _ _ _ ⟨rfl,rfl,rfl⟩;simp only[kA,if_pos this];exact⟨rfl,rfl,rfl⟩;rename_i b;have g:c≠n:=λe=>by simp_all
  refine⟨.exit c,a,f,EA (λ_ e=>by cases e) (L9.block (a1.awp.mono ?_)),q1,q2,q3⟩;rintro _ _ _ ⟨rfl,rfl,rfl⟩;simp only[kA,if_neg g];exact⟨rfl,rfl,rfl⟩
 |_=>refine⟨_,a,f,EA (λ_ e=>by cases e) (L9.block (a1.awp.mono ?_)),q1,q2,q3⟩;rintro _ _ _ ⟨rfl,rfl,rfl⟩;exact⟨rfl,rfl,rfl⟩
end Go.Ab
namespace Go.Ab
variable {P:Program} {N:Nat}
variable {N n z:Nat}{a A:List Nat}{R y:Type}{b B:Am}{c:List QY}{d J:Code}{F:FuncId}{P:Program}{f L O:BQ}{g:List AV}{h:Sem}{i:AV}{j:Bool}{k:Pz}{p:Ty}{q:Int}{t:List TV}{v:World}{x:Exit}{C:Vf}{G:Operand}{I:IntKind}{K:Value}
def Oz.mono(b:Oz P N A d h)(f: ∀t,t∈A->t∈a):Oz P N a d h:=λenv H k r ok g=>by obtain⟨e,c,B,q1,q2,q3,q4⟩:=b env H k r ok g;exact⟨e,c,B,q1,q2,q3,q4.mono f⟩
def ni{hs:List Hint}{A B:List Nat}(hr:Oz P N B d h)(c: ∀t,t∈B->t∈A)(b: ∀t,t∈lY hs d->t∈A):Oz P N A d (pd (bo hs d) A h):=by
 unfold lY at b;generalize bo hs d=o at b⊢;cases o with
 |none=>exact hr.mono c
 |some a=>exact s8 hr c b
def zA{hs:List Hint}{A B:List Nat}(hr:Oz P N B d h)(c: ∀t,t∈B->t∈A)(b: ∀t,t∈lY hs (.loop d)->t∈A):Oz P N A (.loop d) (AB0 (bo hs (.loop d)) A h):=by
 unfold lY at b;generalize bo hs (.loop d)=o at b⊢;cases o with
 |none=>exact λenv H k r ok e=>by cases e
 |some a=>exact y9 hr c b
def T2: ∀{env:BQ} {p:Nat×TV},p∈bw env->p∈env/\Kb p.2.refs=[]
 |(t,v)::r,p,h=>by simp only[bw]at h;split at h;rename_i a;rcases A1.1 h with rfl|h;exact⟨JS,a⟩;exact⟨CN _ (T2 h).1,(T2 h).2⟩;exact⟨CN _ (T2 h).1,(T2 h).2⟩
theorem xU(Q:T6 P k){B:Array Tmp}:Oz P N A (.rangeFunc G B d J) (vA P k N F G B d J):=by
 intro R env H a r ok q;unfold vA at q;dsimp only at q;split at q;rename_i w first m hf
 split at q;rename_i Z;have Y:BC (Bw env) G= .fn (.func w) first m:=by rw[JD,hf];rfl
 have E:(Dp.lp false F N (bw env) B d J .ready).ok (H++[.lp false F N (bw env) B d J .ready]):=λp S id al t n hm=>by have:=iF hm;rw[(T2 S).2]at this;cases this
 have U:Bx H (H++[.lp false F N (bw env) B d J .ready]):=Bx.push H _;obtain⟨v,i,q1,q2,q3,q4,q5⟩:=Q (.fn w) _ _ _ r (λv X=>by simp only[At,Br,BE]at X;rcases X with(⟨u,_,rfl⟩|rfl)|⟨u,_,rfl⟩;exact eS u;exact JU trivial;exact eS u) (Ob ok.heap E) q
 have y: ∀{ro:Bool} {O n e p c f} {s:LS} {x:Exit},i[H.length]? =some (.lp ro O n e p c f s)→ro=false→(∀L:gI,L.state=s.st→L.pending=s.pend→zc P N (Bw env) H.length (Vz x (Bw env) (A7 (i.set H.length .dead))) ((A7 i).set H.length (.lp L)))→a x env (i.set H.length .dead)=some r→
   ∃V g M,o6 P N (.rangeFunc G B d J) (Bw env) (A7 H) (Vz V (Bw g) (A7 M))/\a V g M=some r/\Oc g M/\FB A env H g M:=by
  intro ro O n e p c f s x o T hq q;subst T;have K:Bx i (i.set H.length .dead):=Bx.set o rfl λ_ _ _ _ _ h=>by cases h
  have st:=(U.trans q5).trans K;refine⟨x,env,_,EA (λ_ e=>by cases e) (fx (Bw (bw env)) (λp S=>?_) Y Z ?_),q,⟨st.env ok.env,S5 K q4 trivial⟩,st,λ_ _ _=>rfl⟩;obtain⟨u,hu,rfl⟩:=Br.1 S;exact Br.2 ⟨u,(T2 hu).1,rfl⟩;have b:EQ P w _ _ _:=q1;have z:(first.map xo++[TV.c (.raw (.yf H.length))]++m.map xo).map TV.enc=first++[.yf (A7 H).length]++m:=by
   have W: ∀l:List AV,(l.map xo).map TV.enc=l:=by
    intro l;rw[Nw];conv=>rhs;rw[<-aG l]
    grind[List.map_congr_left,cI]
   rw[MB,MB,W,W,CO];rfl
  rw[z,Ps]at b;apply b.mono;rintro _ _ ⟨rfl,rfl⟩;rw[CO];have I:A7 i=(A7 i).set H.length (.lp ⟨n,Bw e,p,c,f,s.st,s.pend⟩):=by
   have hg:(A7 i)[H.length]? =some (.lp ⟨n,Bw e,p,c,f,s.st,s.pend⟩):=by rw[FF,o];rfl
   apply IY;intro j;by_cases ad:j=H.length<;>grind
  rw[I];exact hq _ rfl rfl
 have look: ∀L:gI,H.length<i.length->((A7 i).set H.length (.lp L))[H.length]? =some (.lp L):=λL h=>by grind[List.getElem?_set_self,CO]
 have dead: ∀L:gI,((A7 i).set H.length (.lp L)).set H.length .dead=A7 (i.set H.length .dead):=λL=>by rw[Vl,M9];rfl
 split at q2;rename_i o;refine y o rfl (λL C D=>⟨L,look L (Gp o),by rw[C];simp[LS.st],?_⟩) q2;rw[D,dead];exact⟨rfl,rfl,rfl⟩;rename_i o;refine y o rfl (λL C D=>⟨L,look L (Gp o),by rw[C];simp[LS.st],?_⟩) q2;rw[D,dead];exact L9.ret ⟨rfl,rfl,rfl⟩;rename_i x o;refine y o rfl (λL C D=>⟨L,look L (Gp o),by rw[C];simp[LS.st],?_⟩) q2;rw[D,dead];exact L9.exit ⟨rfl,rfl,rfl⟩;cases q2;cases q;cases q
theorem yV{hs:List Hint}(h:iu d J=some C): ∀t∈C.tmps,t∈Pp hs d++Pp hs J:=by obtain⟨o,v,l,q,w,n,r,x,s,y,u,z,rfl,rfl,f,g,i,j,k,_⟩:=iv h;obtain⟨_,_,_,_,_,_,l1⟩:=lk f;obtain⟨_,_,_,_,_,_,l2⟩:=ll g;obtain⟨_,_,_,_,_,_,_,_,_,_,_,_,c⟩:=lm i;obtain⟨_,_,_,_,_,_,_,_,_,_,_,_,_,_,_,a⟩:=ln j;obtain⟨_,_,_,_,_,_,_,e⟩:=lq k;intro t b;simp only[Pp,l1,l2,c,a,e,iy,At];simp only[Vf.tmps]at b;grind
theorem ABa(B: ∀v∈c,v.Ok P)(z:T6 P k)(x:FuncId)(d:List Hint): ∀v:Code,Oz P N (Pp d v) v (iJ P c k N x d v)/\ ∀m r,v= .seq m r->Oz P N (Pp d r) r (iJ P c k N x d r):=by
 intro v;induction v with
 |skip=>exact⟨λenv H g r ok n=>⟨.normal,env,H,EA (λ_ e=>by cases e) (L9.skip ⟨rfl,rfl,rfl⟩),n,ok,FB.refl _ _ _⟩,λ_ _ e=>by cases e⟩
 |ret=>exact⟨λenv H g r ok n=>⟨.ret,env,H,EA (λ_ e=>by cases e) (L9.ret ⟨rfl,rfl,rfl⟩),n,ok,FB.refl _ _ _⟩,λ_ _ e=>by cases e⟩
 |exit id=>exact⟨λenv H g r ok n=>⟨.exit id,env,H,EA (λ_ e=>by cases e) (L9.exit ⟨rfl,rfl,rfl⟩),n,ok,FB.refl _ _ _⟩,λ_ _ e=>by cases e⟩
 |seq a b D s=>
  refine⟨?_,λm r e=>by injection e with K L;subst K L;exact s.1⟩;have G:Oz P N (Pp d a++Pp d b) (.seq a b) (λenv H g=>iJ P c k N x d a env H λe j u=>match e with| .normal=>iJ P c k N x d b j u g|e=>g e j u):=by
   intro R env H g r ok n;obtain⟨e,env1,O,a1,k1,w,S⟩:=D.1 env H _ r ok n;cases e with
   |normal=>obtain⟨L,env2,y,a2,W,F,s2⟩:=s.1 env1 O g r w k1;refine⟨L,env2,y,EA (λ_ e=>by cases e) (L9.seq (a1.awp.mono ?_)),W,F,FB.trans ok.env S s2⟩;rintro _ _ _ ⟨rfl,rfl,rfl⟩;exact a2.awp
   |_=>refine⟨_,env1,O,EA (λ_ e=>by cases e) (L9.seq (a1.awp.mono ?_)),k1,w,S.mono λt l=>At.2 (.inl l)⟩;rintro _ _ _ ⟨rfl,rfl,rfl⟩;exact⟨rfl,rfl,rfl⟩
  intro R env H g r ok n;by_cases hq: ∃m I,b= .seq m I;obtain⟨m,I,rfl⟩:=hq;simp only[iJ]at n;split at n;rename_i p hp;obtain⟨env1,O,a1,k1,w,S⟩:=yU B hp ok n;obtain⟨L,env2,y,a2,W,F,s2⟩:=s.2 m I rfl env1 O g r w k1;refine⟨L,env2,y,EA (λ_ e=>by cases e) (L9.seq (a1.mono ?_)),W,F,(FB.trans ok.env S s2).mono λt l=>?_⟩;intro e E h hx;cases e with
  |normal=>exact L9.seq (hx.mono (by rintro _ _ _ ⟨rfl,rfl,rfl⟩;exact a2.awp))
  |_=>exact hx.elim
  show t∈(Pp d a++((Pp d m++Pp d I)++oR d m I))++oR d a (.seq m I);rcases At.1 l with l|l;rcases At.1 (yV (hs:=d) hp t l)with h|h<;>simp[h];simp[l];exact G.mono (λt l=>At.2 (.inl l)) env H g r ok n;have n:iJ P c k N x d (.seq a b) env H g=some r:=n;rw[ABb λm r e=>hq ⟨m,r,e⟩]at n;have T: ∀t,t∈oR d a b->t∈Pp d (.seq a b):=λt l=>At.2 (.inr l);have hB: ∀t,t∈Pp d a++Pp d b->t∈Pp d (.seq a b):=λt l=>At.2 (.inl l);unfold oR at T;generalize mU d a b=o at n T;cases o with
  |none=>exact G.mono hB env H g r ok n
  |some h=>exact s8 G hB T env H g r ok n
 |cond v a b D s=>have M:Oz P N (Pp d a++Pp d b) (.cond v a b) (vg v (iJ P c k N x d a) (iJ P c k N x d b)):=yW D.1 s.1;refine⟨?_,λ_ _ e=>by cases e⟩;intro R;exact ni (hs:=d) (A:=Pp d (.cond v a b)) M (λt l=>At.2 (.inl l)) (λt l=>At.2 (.inr l))
 |block id b V=>have M:Oz P N (Pp d b) (.block id b) (uL id (iJ P c k N x d b)):=wX V.1;refine⟨?_,λ_ _ e=>by cases e⟩;intro R;exact ni (hs:=d) (A:=Pp d (.block id b)) M (λt l=>At.2 (.inl l)) (λt l=>At.2 (.inr l))
 |loop b V=>exact⟨zA (hs:=d) (A:=Pp d (.loop b)) V.1 (λt l=>At.2 (.inl l)) (λt l=>At.2 (.inr l)),λ_ _ e=>by cases e⟩
 |region id q J=>
  refine⟨?_,λ_ _ e=>by cases e⟩;cases J with
  |false=>
   have M:Oz P N (iy q.toList) (.region id q false) (λenv H g=>match KO N q.toList with
    |true=>oN P c k q (guards q) false q.toList 0 env H λj u=>g .normal j u
    |false=>none):=by
    intro R env H g r ok n;dsimp only at n;split at n;rename_i C;obtain⟨j,u,X,Y,Z,r4⟩:=Rf (N:=N) B z _ _ _ _ _ _ ok n;refine⟨.normal,j,u,EA (λ_ e=>by cases e) (Fb C ?_),Y,Z,r4⟩;show Ub P N q q.toList (Bw env) (A7 H) (λK y=>Exit.normal=Exit.normal/\K=Bw j/\y=A7 u);simpa using X;cases n
   intro R;exact ni (hs:=d) (A:=Pp d (.region id q false)) M (λt l=>At.2 (.inl l)) (λt l=>At.2 (.inr l))
  |true=>
   intro R env H g r ok n;simp only[iJ]at n;split at n;rename_i C;simp only[BN]at C;obtain⟨j,u,X,Y,Z,r4⟩:=WZ (N:=N) B z _ _ _ _ _ _ ok n;refine⟨.normal,j,u,EA (λ_ e=>by cases e) (dk C.1.1.1 _ C.1.1.2 C.1.2 ?_ ?_),Y,Z,r4.mono λt l=>At.2 (.inl ?_)⟩;have:=Xc C.2;rw[Bw,Nw];exact this;show RA P N q (uz q) [] (Bw env) (A7 H) (λK y=>Exit.normal=Exit.normal/\K=Bw j/\y=A7 u);simpa using X;unfold oi at l;obtain⟨i,_,Q⟩:=PH.1 l;cases U:q[i]? with
   |none=>rw[U]at Q;cases Q
   |some o=>
    rw[U]at Q;refine PH.2 ⟨o,?_,Q⟩;have:q.toList[i]? =some o:=by simpa using U
    exact BL this
   cases n
 |rangeFunc f ps a b _ _=>exact⟨xU z,λ_ _ e=>by cases e⟩
 |_=>exact⟨λenv H g r ok n=>(by simp only[iJ]at n;cases n),λ_ _ e=>by cases e⟩
theorem iK(f: ∀b∈c,b.Ok P)(e:T6 P k)(g:FuncId)(d:List Hint)(b:Code):Oz P N (Pp d b) b (iJ P c k N g d b):=by grind[ABa]
end Go.Ab
namespace Go.Ab
def UN:Nat->List TV->BQ
 |_,[]=>[]
 |i,v::r=>(i,v)::UN (i+1) r
def iH(P:Program)(env:BQ)(H:Am):List ResultVar->Option (List TV)
 |[]=>some []
 | .tmp t::r=>match iH P env H r with|some vs=>some (env.get t::vs)|none=>none
 | .cell a t::r=>match iH P env H r with|some vs=>loadT P H t (env.get a) λv=>some (v::vs)|none=>none
def sy:Exit->Bool
 | .normal=>true
 | .ret=>true
 |_=>false
variable {N n z:Nat}{R y:Type}{b B:Am}{c:List QY}{F:FuncId}{P:Program}{f L O:BQ}{g:List AV}{i:AV}{j:Bool}{p:Ty}{q:Int}{t:List TV}{v:World}{x:Exit}{I:IntKind}{K:Value}
def ADl(P:Program)(fn:Func)(k:TV->Am->Option R):Exit->BQ->Am->Option R:=λe env H=>
 match sy e with
 |true=>match iH P env H fn.results.toList with|some vs=>k (one vs) H|none=>none
 |false=>none
def tZ:BQ->List Tmp->List TV->BQ
 |env,t::ts,v::vs=>tZ (env.put t v) ts vs
 |env,_,_=>env
def zj(id:Nat)(k:TV->Am->Option R):Exit->BQ->Am->Option R:=λe _ H=>
 match H[id]? with
 |some (.lp false F n env ps a b _)=>
  match e with
  | .normal=>k (.c (.bl true)) (H.set id (.lp false F n env ps a b .ready))
  | .ret=>k (.c (.bl false)) (H.set id (.lp false F n env ps a b .ret))
  | .exit x=>k (.c (.bl false)) (H.set id (.lp false F n env ps a b (.exit x)))
  |_=>none
 |_=>none
noncomputable def vF(P:Program)(cs:List QY)(call:Pz)(hs:FuncId->List Hint)(id:Nat)(vs:List TV)(H:Am){R:Type}(k:TV->Am->Option R):Option R:=
 match H[id]? with
 |some (.lp false F n env ps a b .ready)=>
  match Nat.beq vs.length ps.size&&ps.toList.all λt=>Nat.blt t n with
  |true=>iJ P cs call n F (hs F) a (tZ env ps.toList vs) H λe env1 H1=>
   match e with
   | .normal=>
    match H1[id]? with
    |some (.lp false F1 n1 e1 ps1 a1 b1 .ready)=>iJ P cs call n F (hs F) b env1 (H1.set id (.lp false F1 n1 e1 ps1 a1 b1 .busy)) (zj id k)
    |_=>none
   |_=>none
  |false=>none
 |_=>none
noncomputable def dc(P:Program)(cs:List QY)(hs:FuncId->List Hint):Nat->Pz
 |0=>λ_ _ _ _=>none
 |n+1=>λtg vs H k=>
  match tg with
  | .fn F=>
   match P.funcs[F]? with
   |some fn=>
    match fn.body with
    |some c=>match Nat.ble vs.length fn.ntmps with|true=>iJ P cs (dc P cs hs n) fn.ntmps F (hs F) c (UN 0 vs) H (ADl P fn k)|false=>none
    |none=>none
   |none=>none
  | .yd id=>vF P cs (dc P cs hs n) hs id vs H k
def nh(bt:Ty):(rs:List Ty)->DL rs->bt.D->DL (rs++[bt])
 |[],_,b=>b
 |[_],y,b=>(y,b)
 |_::u::r,y,b=>(y.1,nh bt (u::r) y.2 b)
def Ym(vs:List TV):List Nat:=vs.flatMap λv=>Kb v.refs
def AAt(P:Program)(fn:Func)(rs:List Ty):Exit->BQ->Am->Option (DL rs):=λe env H=>
 match sy e with
 |true=>
  match iH P env H fn.results.toList with
  |some vs0=>match G4 (Ym vs0) env H with|(ef,hf)=>match iH P ef hf fn.results.toList with|some vs=>xD rs vs|none=>none
  |none=>none
 |false=>none
def ADj(P:Program)(fn:Func)(bt:Ty)(rs:List Ty):Exit->BQ->Am->Option (DL (rs++[bt])):=λe env H=>
 match sy e with
 |true=>
  match iH P env H fn.results.toList with
  |some vs0=>
   match G4 (Ym vs0++(match (H[0]? :Option Dp)with|some (.live _ cs)=>Kb cs|_=>[])) env H with
   |(ef,hf)=>
    match iH P ef hf fn.results.toList,(hf[0]? :Option Dp)with
    |some vs,some (.live _ cs)=>match xD rs vs,bt.all cs with|some y,some b=>some (nh bt rs y b)|_,_=>none
    |_,_=>none
  |none=>none
 |false=>none
def na:Nat->TV->List TV->List TV
 |0,v,l=>v::l
 |n+1,v,x::l=>x::na n v l
 |_+1,v,[]=>[v]
noncomputable def vX(P:Program)(cs:List QY)(hs:FuncId->List Hint)(n:Nat)(F:FuncId)(ds rs:List Ty)(x:DL ds):Option (DL rs):=
 match P.funcs[F]? with
 |some fn=>
  match fn.body with
  |some c=>match Nat.ble (oZ ds x).length fn.ntmps with|true=>iJ P cs (dc P cs hs n) fn.ntmps F (hs F) c (UN 0 (oZ ds x)) [] (AAt P fn rs)|false=>none
  |none=>none
 |none=>none
noncomputable def yL(P:Program)(cs:List QY)(hs:FuncId->List Hint)(n:Nat)(F:FuncId)(pos:Nat)(bt:Ty)(ds rs:List Ty)(b:bt.D)(x:DL ds):Option (DL (rs++[bt])):=
 match P.funcs[F]? with
 |some fn=>
  match fn.body with
  |some c=>
   match Nat.ble (na pos (.c (.raw (.ptr 0 0 0))) (oZ ds x)).length fn.ntmps with
   |true=>iJ P cs (dc P cs hs n) fn.ntmps F (hs F) c (UN 0 (na pos (.c (.raw (.ptr 0 0 0))) (oZ ds x))) [.live false (bt.lvs b)] (ADj P fn bt rs)
   |false=>none
  |none=>none
 |none=>none
theorem Tt: ∀(l:List TV) (i:Nat),Bw (UN i l)=env0 i (l.map TV.enc)
 |[],_=>rfl
 |v::r,i=>by have:=Tt r (i+1);grind[Bw,UN,env0]
def Vy{H:Am}: ∀{l:List TV} {i:Nat},(∀v∈l,v.ok H)-> ∀p∈UN i l,p.2.ok H
 |[],_,_,p,a=>by cases a
 |v::r,i,h,p,a=>by simp only[UN]at a;rcases A1.1 a with rfl|a;exact h v (by simp);exact Vy (λw b=>h w (by simp[b])) p a
theorem fh{P:Program}{env:BQ}{H:Am}(d: ∀p∈env,p.2.ok H)(c: ∀e∈H,e.ok H): ∀{l:List ResultVar} {b:List TV},iH P env H l=some b->RN P (Bw env) (A7 H) l=some (b.map TV.enc)/\ ∀v∈b,v.ok H
 |[],b,h=>by simp only[iH,Ai]at h;subst h;exact⟨rfl,λv g=>by cases g⟩
 | .tmp t::r,b,h=>by simp only[iH]at h;split at h;rename_i i f;obtain⟨q1,q2⟩:=fh d c f;grind[RN,iI,Sg,ka];cases h
 | .cell a t::r,b,h=>by simp only[iH]at h;split at h;rename_i i f;obtain⟨q1,q2⟩:=fh d c f;obtain⟨u,j,k,m⟩:=lg c (ka d a) h;grind[RN,iI,Sg];cases h
def oK{H:Func}(d: ∀p∈f,p.2.ok b)(c: ∀e∈b,e.ok b)(h:iH P f b H.results.toList=some t):Z8 P H (Bw f) (A7 b)=some (gH (t.map TV.enc)):=by
 unfold Z8;rw[(fh d c h).1];cases t with
 |nil=>rfl
 |cons v r=>
  cases r with
  |nil=>rfl
  |cons u r=>rfl
def qI: ∀(a:List Tmp) (b:List TV) (env:BQ),Py (Bw env) a (b.map TV.enc)=Bw (tZ env a b)
 |[],_,_=>rfl
 |_::_,[],_=>rfl
 |t::a,v::b,env=>by simp only[Be,Py,tZ];rw[<-di];exact qI a b (env.put t v)
def tc{H:Am}: ∀(b:List Tmp) (a:List TV) (env:BQ),(∀p∈env,p.2.ok H)->(∀v∈a,v.ok H)-> ∀p∈tZ env b a,p.2.ok H
 |[],_,_,h,_=>h
 |_::_,[],_,h,_=>h
 |t::b,v::a,env,h,hv=>tc b a (env.put t v) (Yk (d:=some t) h (hv v (by simp))) λu c=>hv u (by simp[c])
def AB1{c:Bool}{F n env ps a H}{s e:LS}(h:(Dp.lp j F n env ps a H s).ok b):(Dp.lp c F n env ps a H e).ok B:=h
theorem wE{F n env ps a H}{s s':LS}(h:b[N]? =some (.lp false F n env ps a H s)):Bx b (b.set N (.lp false F n env ps a H s')):=Bx.set h rfl (λ_ _ _ _ _ h=>by cases h) λ_ _ _ _ _ _ _ _ e=>by grind
def uh{F n env ps a H}{s:LS}(h:b[N]? =some (.lp j F n env ps a H s)):(A7 b)[N]? =some (.lp ⟨n,Bw env,ps,a,H,s.st,s.pend⟩):=by rw[FF,h];rfl
theorem xZ{P:Program}{cs:List QY}(K: ∀c∈cs,c.Ok P){hs:FuncId→List Hint}{g:Pz}(J:T6 P g){R:Type}{id:Nat}{S:List TV}{H:Am}{k:TV→Am→Option R}{r:R}(hv: ∀v∈S,v.ok H)(hH: ∀e∈H,e.ok H)
  (h:vF P cs g hs id S H k=some r): ∃v d,vV P (S.map TV.enc) (A7 H) v.enc (A7 d) (.yd id)/\k v d=some r/\v.ok d/\(∀e∈d,e.ok d)/\Bx H d:=by
 unfold vF at h;split at h;rename_i F n env ps a b he;split at h;rename_i hb;simp only[BN]at hb;have M: ∀p∈env,p.2.ok H:=λp hp x hx=>by
  have:=(hH _ (BL he)) p hp;cases x with
  |own i v t m=>grind
  |_=>trivial
 obtain⟨e,env1,T,a1,k1,w,s1⟩:=iK (N:=n) K J F (hs F) a _ H _ r ⟨tc ps.toList S env M hv,hH⟩ h;split at k1;split at k1;rename_i F1 n1 Y z U V s;have B:Bx T _:=wE (s':=.busy) s;obtain⟨x,env2,D,a2,j,O,s2⟩:=iK (N:=n) K J F (hs F) b _ _ _ r ⟨B.env w.env,S5 B w.heap (AB1 (w.heap _ (BL s)))⟩ k1;unfold zj at j;split at j;rename_i F2 n2 Z A W X s0 u
 have l: ∀(v:Bool) (C:LS),k (.c (.bl v)) (D.set id (.lp false F2 n2 Z A W X C))=some r→(∀L:gI,(A7 D)[id]? =some (.lp L)→L=⟨n2,Bw Z,A,W,X,s0.st,s0.pend⟩→zk id (Cr (.bool v) (A7 (D.set id (.lp false F2 n2 Z A W X C)))) x (Bw env2) (A7 D))→
   ∃v d,vV P (S.map TV.enc) (A7 H) v.enc (A7 d) (.yd id)/\k v d=some r/\v.ok d/\(∀e∈d,e.ok d)/\Bx H d:=by
  intro v C hk hq;have Q:Bx D _:=wE (s':=C) u;refine⟨.c (.bl v),_,?_,hk,JU trivial,S5 Q O.heap (AB1 (O.heap _ (BL u))),((s1.step.trans B).trans s2.step).trans Q⟩;intro N o c f env0 ho I hf q;apply Iv.yield ho I hf (uh he);grind[List.length,List.length_map,Array.length_toList,Nat.eq_of_beq_eq_true];simp_all;show L9 P n a (Py (Bw env) ps.toList (c.args.toList.map (BC env0))) (A7 H) _;rw[q,qI];apply a1.awp.mono;rintro _ _ _ ⟨rfl,rfl,rfl⟩;refine⟨rfl,_,uh s,rfl,?_⟩;have e3:(A7 T).set id (.lp ⟨n1,Bw Y,z,U,V,.busy,LS.pend .ready⟩)=A7 (T.set id (.lp false F1 n1 Y z U V .busy)):=by rw[M9];rfl
  show L9 P n b (Bw env1) ((A7 T).set id (.lp ⟨n1,Bw Y,z,U,V,.busy,LS.pend .ready⟩)) _;rw[e3];apply a2.awp.mono;rintro _ _ _ ⟨rfl,rfl,rfl⟩;exact hq _ (uh u) rfl
 split at j;refine l true .ready j λL G E=>⟨L,G,rfl,?_⟩
 subst E;rw[M9];rfl;refine l false .ret j λL G E=>⟨L,G,rfl,?_⟩
 subst E;rw[M9];rfl;rename_i y;refine l false (.exit y) j λL G E=>⟨L,G,rfl,?_⟩
 subst E;rw[M9];rfl;cases j;cases j;cases k1;cases k1;cases h;cases h
theorem UM{P:Program}{j:List QY}(b: ∀c∈j,c.Ok P){m:FuncId->List Hint}: ∀n,T6 P (dc P j m n)
 |0=>by grind[dc]
 |n+1=>by
  intro z A H k r p l h;cases z with
  |yd id=>exact xZ b (UM b n) p l h
  |fn F=>
  simp only[dc]at h;split at h;rename_i fn y;split at h;rename_i c w;split at h;rename_i hn;obtain⟨e,d,f,a1,k1,a,q⟩:=iK (N:=fn.ntmps) b (UM b n) F (m F) c (UN 0 A) H _ r ⟨Vy p,l⟩ h;unfold ADl at k1;split at k1;rename_i x;split at k1;rename_i s o;refine⟨one s,f,Jd y w (by simp_all) ?_,k1,rD (fh a.env a.heap o).2,a.heap,q.step⟩;rw[<-Tt];apply a1.awp.mono;rintro _ _ _ ⟨rfl,rfl,rfl⟩;have g: ∃v t i,Z8 P fn (Bw d) (A7 f)=some v/\Mn (A7 H).length v (A7 f) t i/\Cr (one s).enc (A7 f) t i:=⟨_,_,_,oK a.env a.heap o,Mn.refl _ _ (by rw[CO,CO];exact q.step.len),by rw[mQ],rfl⟩
  rename_i u;cases u<;>first|exact g|cases x
  cases k1;cases k1;cases h;cases h;cases h
def DT.tup{b a:List AV}(h:DT b a):U2 (.tup b) (.tup a):=by
 intro x c r;cases r with
 |tup g hr=>refine .tup (by rw[g,h.1]) λj i d f e=>?_;obtain⟨v,q1,q2⟩:=h.2 j i f;exact q2 _ _ (hr j v d q1 e)
def RI{b:List AV}(h:DT g b):U2 (gH g) (gH b):=by
 match g,b,h with
 |[],[],h=>exact U2.refl _
 |[v],[w],h=>obtain⟨u,q1,q2⟩:=h.2 0 w rfl;simp at q1;subst q1;exact q2
 |v::u::r,w::x::s,h=>exact DT.tup h
def Jb: ∀(a:List Ty) (x:DL a),∀v∈dL a x,Pure v
 |[],_,v,h=>by cases h
 |[t],x,v,h=>by simp only[dL,BE]at h;subst h;exact t.enc_pure x
 |t::u::r,x,v,h=>by simp only[dL]at h;rcases A1.1 h with rfl|h;exact t.enc_pure x.1;exact Jb (u::r) x.2 v h
def SJ(h: ∀v∈g,Pure v):Pure (gH g):=by
 match g,h with
 |[],_=>rfl
 |[v],h=>exact h v (by simp)
 |v::u::r,h=>exact(DO _ _).2 h
theorem jW{a H2:Am}(j:H2.length<=a.length)(hr:HR a H2 [])(v:fv H2.length H2=true){d:AV}(l:U2 i d)(k:Pure d):Mn H2.length i (A7 a) d (A7 H2):=by
 refine⟨by rw[CO];exact Ag _,λX h w c s r=>?_⟩;have q:=(HR.rel j hr (cx X h (A7 a) w)).onto;have n:=s.rel q;have m:=(l _ c r).later q.later;have e:(A7 H2++(A7 a).drop H2.length).take H2.length=A7 H2:=by grind[CO]
 have b:H2.length<=(A7 H2++(A7 a).drop H2.length).length:=by simp[A7]
 have g:=n.trunc b (by rw[e];exact fO v);have f:=m.trunc b (eL k _);rw[e]at g f;exact⟨h,g,f,λ_ _=>⟨rfl,rfl,rfl⟩,λB o=>q.own B (bx (n0:=H2.length) (by grind))⟩
def lM{n:Nat}: ∀{a b:List Bc},YA n a=true->YA n b=true->YA n (a++b)=true
 |[],_,_,hb=>hb
 |x::r,b,ha,hb=>by obtain⟨c,e⟩:=pO ha;have d:=lM e hb;cases x<;>simp only[fA,YA,BN,Oe]at c⊢ <;>first|exact d|exact⟨c,d⟩
mutual
theorem Ty.lvs_clo{n:Nat}: ∀(t:Ty) (x:t.D),YA n (t.lvs x)=true
 | .bool,_=>rfl
 | .int _,_=>rfl
 | .str,_=>rfl
 | .list _,_=>rfl
 | .arr _ _,_=>rfl
 | .prod ts,x=>ts.lvs_clo x
theorem QX.lvs_clo{n:Nat}: ∀(a:QX) (x:a.D),YA n (a.lvs x)=true
 | .one t,x=>t.lvs_clo x
 | .cons t a,x=>lM (t.lvs_clo x.1) (a.lvs_clo x.2)
end
def fg(h: ∀v∈g,Pure v)(a:Nat->Nat):AV.renL a g=g:=by
 rw[Nj];conv=>rhs;rw[<-aG g]
 exact MC λv b=>(h v b).ren a
def nZ{ρ:Nat->Nat}: ∀{n:Nat} {v:AV} {l:List AV},(∀v∈l,Pure v)->AV.renL ρ (Tf n v l)=Tf n (v.ren ρ) l
 |0,v,l,h=>by simp only[Tf,AV.renL,fg h]
 |n+1,v,[],h=>rfl
 |n+1,v,x::l,h=>by have b:=nZ (ρ:=ρ) (n:=n) (v:=v) (l:=l) λu a=>h u (CN _ a);simp only[Tf,AV.renL,(h x JS).ren,b]
def pb: ∀{n:Nat} {v u:AV} {l:List AV},u∈Tf n v l->u=v\/u∈l
 |0,v,u,l,h=>by simpa[Tf]using h
 |n+1,v,u,[],h=>by simpa[Tf]using h
 |n+1,v,u,x::l,h=>by simp only[Tf]at h;rcases A1.1 h with rfl|h;exact .inr (by simp);rcases pb h with h|h;exact .inl h;exact .inr (by simp[h])
def ss: ∀{n:Nat} {v:TV} {l:List TV},(na n v l).map TV.enc=Tf n v.enc (l.map TV.enc)
 |0,_,_=>rfl
 |n+1,_,[]=>rfl
 |n+1,v,x::l=>by simp only[na,Be,Tf,ss]
def su: ∀{n:Nat} {v u:TV} {l:List TV},u∈na n v l->u=v\/u∈l
 |0,v,u,l,h=>by simpa[na]using h
 |n+1,v,u,[],h=>by simpa[na]using h
 |n+1,v,u,x::l,h=>by simp only[na]at h;rcases A1.1 h with rfl|h;exact .inr (by simp);rcases su h with h|h;exact .inl h;exact .inr (by simp[h])
theorem lL{x:p.D}: ∀v∈(p.enc x).cells,Pure v:=by
 intro v a;have h:=p.enc_pure x;cases b:p.enc x with
 |agg c=>rw[b]at a h;exact((DO _ _).1 h) v a
 |_=>grind[AV.cells]
def cD(a:Ty): ∀(c:List Ty) (y:DL c) (b:a.D),LU a c (nh a c y b)=(y,b)
 |[],_,_=>rfl
 |[_],_,_=>rfl
 |_::u::r,y,b=>by simp only[nh,LU,cD a (u::r) y.2 b]
variable {P:Program} {cs:List QY} {hs:FuncId->List Hint} {n:Nat} {F:FuncId} {ds rs:List Ty}
def AAu{fn:Func}{c:Ap}(j:sy x=true)(ok:Oc f b)(hr:iH P f b fn.results.toList=some t)(h:Mn N (gH (t.map TV.enc)) (A7 b) i c):
  AD9 P fn N (Cr i c) x (Bw f) (A7 b):=by
 have d: ∃v e a,Z8 P fn (Bw f) (A7 b)=some v/\Mn N v (A7 b) e a/\Cr i c e a:=⟨_,_,_,oK ok.env ok.heap hr,h,rfl,rfl⟩
 cases x<;>first|exact d|cases j
def vi{g:DL ds->Option (DL rs)}(d: ∀c∈cs,c.Ok P)(t: ∀x,g x=vX P cs hs n F ds rs x):(QY.c0 F ds rs g).Ok P:=by
 intro x y a H;rw[t]at a;have key:EQ P F (dL ds x) [] (Cr (gH (dL rs y)) []):=by unfold vX at a;split at a;rename_i q s;split at a;rename_i c r;split at a;rename_i hn;obtain⟨e,o,z,a1,k1,l,B⟩:=iK (N:=q.ntmps) d (UM d n) F (hs F) c (UN 0 (oZ ds x)) [] _ y ⟨Vy (eT ds x),λe i=>by cases i⟩ a;unfold AAt at k1;split at k1;rename_i i;split at k1;rename_i m u;obtain⟨f,w,p⟩:=Oh (Ym m) l;simp only at k1 f w p;split at k1;rename_i C k;apply Jd s r (by rw[<-UE,Da];exact KK hn);rw[<-UE,<-Tt];refine L9.after (a1.awp.mono ?_);rintro _ _ _ ⟨rfl,rfl,rfl⟩;exact⟨_,_,(p _).of_le (Bt _),AAu i f k (jW (H2:=[]) (Bt _) (λj A _ h=>by cases h) rfl (RI (UT k1)) (SJ (Jb rs y)))⟩;cases k1;cases k1;cases k1;cases a;cases a;cases a
 exact EQ.frame (H:=H) [] key Ny rfl rfl (λj b e h=>by cases h) (λe h=>by cases h) (λe h=>by cases h) (SJ (Jb rs y)) (fg (Jb ds x) _) ((DO _ _).2 λv k=>(Jb ds x v k).all _)
theorem AAd{g:p.D->DL ds->Option (DL (rs++[p]))}(m: ∀c∈cs,c.Ok P)(T: ∀b x,g b x=yL P cs hs n F N p ds rs b x):(QY.c1 F N p ds rs g).Ok P:=by
 intro b x y f H id V;rw[T]at f;have key: ∃r i,y=nh p rs r i/\EQ P F (Tf N (.ptr 0 0 0) (dL ds x)) [.live 0 (p.enc b).cells] (Cr (gH (dL rs r)) [.live 0 (p.enc i).cells]):=by
  unfold yL at f;split at f;rename_i M S;split at f;rename_i c R;split at f;rename_i hn;have t:Oc (UN 0 (na N (.c (.raw (.ptr 0 0 0))) (oZ ds x))) [.live false (p.lvs b)]:=by refine⟨Vy λv d=>?_,λe s=>?_⟩;rcases su d with rfl|d;exact JU trivial;grind[eT];rw[BE.1 s];exact p.lvs_ok b
  obtain⟨e,l,G,a1,k1,u,E⟩:=iK (N:=M.ntmps) m (UM m n) F (hs F) c _ _ _ y t f;unfold ADj at k1;split at k1;rename_i s;split at k1;rename_i z W;generalize C:(Ym z++_)=ids at k1;obtain⟨k,w,A⟩:=Oh ids u;generalize G4 ids l G=fz at k1 k w A;obtain⟨ef,U⟩:=fz;simp only at k1 k w A;split at k1;rename_i vs Y I d O;split at k1;rename_i r i hr q;injection k1 with k1;refine⟨r,i,k1.symm,?_⟩;have J:A7 [.live false (p.lvs b)]=[.live 0 (p.enc b).cells]:=by simp only[A7,Be,IW,Dp.enc,p.lvs_enc]
  have K:A7 [.live false (p.lvs i)]=[.live 0 (p.enc i).cells]:=by simp only[A7,Be,IW,Dp.enc,p.lvs_enc]
  have L:Tf N (.ptr 0 0 0) (dL ds x)=(na N (.c (.raw (.ptr 0 0 0))) (oZ ds x)).map TV.enc:=by rw[ss,UE];rfl
  rw[<-J,<-K,L];apply Jd S R (by rw[Da];exact KK hn);rw[<-Tt];refine L9.after (a1.awp.mono ?_);rintro _ _ _ ⟨rfl,rfl,rfl⟩;have o:1<=U.length:=EC E.step.len w.step.len;refine⟨_,_,(A _).of_le (by rw[CO,CO];exact E.step.len),AAu s k d ?_⟩;rw[CO];refine jW (H2:=[.live false (p.lvs i)]) o (λj Z _ h=>?_) (by simp only[fv,p.lvs_clo,Rj]) (RI (UT hr)) (SJ (Jb rs r));match j,h with
  |0,h=>simp only[Yu,Ai]at h;subst h;refine⟨_,O,.inr (.inl ⟨_,_,_,_,rfl,rfl,?_⟩)⟩;rw[p.lvs_enc];exact Fe q
  |j+1,h=>grind
  cases k1;cases k1;cases k1;cases k1;cases f;cases f;cases f
 obtain⟨r,i,rfl,key⟩:=key;rw[cD];have Q:AV.renL (λj=>[id].getD j 0) (Tf N (.ptr 0 0 0) (dL ds x))=Tf N (.ptr id 0 0) (dL ds x):=by rw[nZ (Jb ds x)];rfl
 exact EQ.frame (H:=H) [id] key (Fz.2 ⟨by simp,Ny⟩) rfl rfl (λj X e D B=>by
   match j,D,B with
   |0,D,B=>grind[List.getElem?_cons_zero,Option.some.injEq]
   |j+1,D,_=>simp at D) (λe h=>by
   rw[BE.1 h];exact(DO _ _).2 λv d=>lL v d) (λe h=>by
   rw[BE.1 h];exact(DO _ _).2 λv d=>lL v d) (SJ (Jb rs r)) Q ((DO _ _).2 λv d=>by
   rcases pb d with rfl|d;rfl;exact(Jb ds x v d).all _)
end Go.Ab
namespace Go.Ab
def XH:List (Nat×List Hint)->FuncId->List Hint
 |[],_=>[]
 |(k,h)::r,F=>match Nat.beq k F with|true=>h|false=>XH r F
theorem B8{P:Program}: ∀c∈([]:List QY),c.Ok P:=by grind
variable {N n z:Nat}{R y:Type}{c:List QY}{F:FuncId}{P:Program}{g:List AV}{i:AV}{j:Bool}{p:Ty}{q:Int}{v:World}{I:IntKind}{K:Value}
theorem A8{P:Program}{a:QY}(h:a.Ok P)(b: ∀a∈c,a.Ok P): ∀d∈a::c,d.Ok P:=by grind
def wi(a:Int):Int:=IntKind.wrap .i64 a
abbrev len{α:Type}(l:List α):Int:=(l.length:Int)
def fw{A B:Type}(f:(A->Option B)->A->Option B):Nat->A->Option B
 |0,_=>none
 |n+1,x=>f (fw f n) x
noncomputable def qm{A B:Type}(f:(A->Option B)->A->Option B)(x:A):Option B:=open Classical in if h: ∃r n,fw f n x=some r then some h.choose else none
theorem fT{f:(R->Option y)->R->Option y}{x:R}{r:y}(h:qm f x=some r): ∃n,fw f n x=some r:=by unfold qm at h;split at h<;>grind
theorem g9{f:(R->Option y)->R->Option y}{x:R}{r:y}(h:fw f n x=some r): ∃s,qm f x=some s:=by unfold qm;rw[dif_pos ⟨r,n,h⟩];grind
def AAg{P:Program}{hs:FuncId→List Hint}{n:Nat}{F:FuncId}{ds rs:List Ty}{f:(DL ds→Option (DL rs))→DL ds→Option (DL rs)}(b: ∀a∈c,a.Ok P)
  (e: ∀g x,f g x=vX P (.c0 F ds rs g::c) hs n F ds rs x):(QY.c0 F ds rs (qm f)).Ok P:=by
 have key: ∀m,(QY.c0 F ds rs (fw f m)).Ok P:=by
  intro m;induction m with
  |zero=>intro x y d;cases d
  |succ m i=>exact vi (cs:=.c0 F ds rs (fw f m)::c) (A8 i b) λx=>e (fw f m) x
 intro x y d;obtain⟨m,h⟩:=fT d;exact key m x y h
def ADk(P:Program)(fn:Func)(te:Ty)(rs:List Ty):Exit->BQ->Am->Option (DL (rs++[.list te])):=λe env H=>
 match sy e with
 |true=>
  match iH P env H fn.results.toList with
  |some vs0=>
   match G4 ((Ym vs0).filter λi=>!Nat.beq i 0) env H with
   |(ef,hf)=>
    match iH P ef hf fn.results.toList,(hf[0]? :Option Dp)with
    |some vs,some (.buf _ t l _ _)=>if h:(Ty.list t).beq (Ty.list te)=true then(match xD rs vs with|some y=>some (nh (.list te) rs y (Ty.cast h l))|none=>none)else none
    |_,_=>none
  |none=>none
 |false=>none
def fnC:AV->Bool
 | .fn (.func _) [] []=>true
 |_=>false
def sC(te:Ty)(ds:List Ty)(post:List AV)(l:List te.D)(x:DL ds):List TV:=.c (.own 0 0 te l.length)::(oZ ds x++post.map λv=>.c (.raw v))
noncomputable def yM(P:Program)(cs:List QY)(hs:FuncId->List Hint)(n:Nat)(F:FuncId)(te:Ty)(ds rs:List Ty)(post:List AV)(l:List te.D)(x:DL ds):Option (DL (rs++[.list te])):=
 match P.funcs[F]? with
 |some fn=>
  match fn.body with
  |some c=>
   match Nat.ble (sC te ds post l x).length fn.ntmps&&post.all fnC with
   |true=>iJ P cs (dc P cs hs n) fn.ntmps F (hs F) c (UN 0 (sC te ds post l x)) [.buf false te l l.length 0] (ADk P fn te rs)
   |false=>none
  |none=>none
 |none=>none
theorem ACh(h:fnC i=true): ∃F,i= .fn (.func F) [] []:=by unfold fnC at h;grind
def yp(h:fnC i=true):Pure i:=by obtain⟨F,rfl⟩:=ACh h;rfl
variable {P:Program} {cs:List QY} {hs:FuncId->List Hint} {n:Nat} {F:FuncId} {ds rs:List Ty} {te:Ty} {post:List AV}
def wW(l:List te.D)(x:DL ds):(sC te ds post l x).map TV.enc= .sl 0 l.length te.sz 0 l.length::(dL ds x++post):=by
 have e:(post.map λv=>TV.c (.raw v)).map TV.enc=post:=by
  rw[Nw];conv=>rhs;rw[<-aG post]
  exact MC λv _=>rfl
 simp only[sC,Be,MB,UE,e];rfl
theorem Mo{g:List te.D->DL ds->Option (DL (rs++[.list te]))}(t: ∀c∈cs,c.Ok P)(hg: ∀l x,g l x=yM P cs hs n F te ds rs post l x):(QY.c2 F te ds rs post g).Ok P:=by
 intro l x y k d H id C;rw[hg]at k;have key: ∃r m,y=nh (.list te) rs r m/\(∀v∈post,Pure v)/\EQ P F (.sl 0 l.length te.sz 0 l.length::(dL ds x++post)) [.live l.length (te.E.cl l)] (Cr (gH (dL rs r)) [.live m.length (te.E.cl m)]):=by
  unfold yM at k;split at k;rename_i fn hf;split at k;rename_i c hb;split at k;rename_i hn;simp only[BN]at hn;have b: ∀v∈post,Pure v:=λv a=>yp (Ft.1 hn.2 v a);have w:([Dp.buf false te l l.length 0]:Am)[0]? =some (.buf false te l l.length 0):=rfl;have K:Oc (UN 0 (sC te ds post l x)) [.buf false te l l.length 0]:=by refine⟨Vy λv a=>?_,λe B=>?_⟩;rcases A1.1 a with rfl|a;exact JU (Vb w);rcases At.1 a with a|a;grind[eT];obtain⟨u,_,rfl⟩:=Br.1 a;exact JU trivial;rw[BE.1 B];exact rfl
  obtain⟨e,s,W,a1,k1,L,U⟩:=iK (N:=fn.ntmps) t (UM t n) F (hs F) c _ _ _ y K k;unfold ADk at k1;split at k1;rename_i B;split at k1;rename_i O ad;generalize T:((Ym O).filter _)=ids at k1;obtain⟨o,M,Q⟩:=Oh ids L;generalize G4 ids s W=fz at k1 o M Q;obtain⟨ef,hh⟩:=fz;simp only at k1 o M Q;split at k1;rename_i vs X q l1 J V a R;split at k1;rename_i z;split at k1;rename_i r hr;injection k1 with k1;have i:=Ty.beq_eq _ _ z;injection i with i;subst i;have p:(Ty.cast z l1:List q.D)=l1:=rfl;rw[p]at k1;have I:J=l1.length:=o.heap _ (BL R);refine⟨r,l1,k1.symm,b,?_⟩;have Y:A7 [.buf false q l l.length 0]=[.live l.length (q.E.cl l)]:=rfl;have Z:A7 [.buf false q l1 J V]=[.live l1.length (q.E.cl l1)]:=by rw[<-I];rfl
  rw[<-Y,<-Z,<-wW];apply Jd hf hb (by rw[Da];exact KK hn.1);rw[<-Tt];refine L9.after (a1.awp.mono ?_);rintro _ _ _ ⟨rfl,rfl,rfl⟩;have G:1<=hh.length:=EC U.step.len M.step.len;refine⟨_,_,(Q _).of_le (by rw[CO,CO];exact U.step.len),AAu B o a ?_⟩;rw[CO];refine jW (H2:=[.buf false q l1 J V]) G (λj e' _ h=>?_) rfl (RI (UT hr)) (SJ (Jb rs r));match j,h with
  |0,h=>simp only[Yu,Ai]at h;subst h;exact⟨_,R,.inr (.inr (.inl ⟨_,_,_,_,_,_,_,rfl,rfl⟩))⟩
  |j+1,h=>simp at h
  cases k1;cases k1;cases k1;cases k1;cases k1;cases k;cases k;cases k
 obtain⟨r,m,rfl,b,key⟩:=key;rw[cD]at d⊢;simp only at d⊢;rw[<-d];rw[<-d]at C key;have f: ∀v∈dL ds x++post,Pure v:=λv a=>(At.1 a).elim (Jb ds x v) (b v);have ha:AV.renL (λj=>[id].getD j 0) (.sl 0 m.length te.sz 0 m.length::(dL ds x++post))= .sl id m.length te.sz 0 m.length::(dL ds x++post):=by simp only[AV.renL,fg f];rfl
 exact EQ.frame (H:=H) [id] key (Fz.2 ⟨by simp,Ny⟩) rfl rfl (λj X e A S=>by
   match j,A,S with
   |0,A,S=>grind[List.getElem?_cons_zero,Option.some.injEq]
   |j+1,A,_=>simp at A) (λe h=>by
   rw[BE.1 h];exact(DO _ _).2 (qW te l)) (λe h=>by
   rw[BE.1 h];exact(DO _ _).2 (qW te m)) (SJ (Jb rs r)) ha ((DO _ _).2 λv a=>by
   rcases A1.1 a with rfl|a;rfl;exact(f v a).all _)
def sN{f:(List te.D×DL ds→Option (DL (rs++[.list te])))→List te.D×DL ds→Option (DL (rs++[.list te]))}(a: ∀c∈cs,c.Ok P)
  (d: ∀g l x,f g (l,x)=yM P (.c2 F te ds rs post (λl x=>g (l,x))::cs) hs n F te ds rs post l x):(QY.c2 F te ds rs post λl x=>qm f (l,x)).Ok P:=by
 have key: ∀m,(QY.c2 F te ds rs post λl x=>fw f m (l,x)).Ok P:=by
  intro m;induction m with
  |zero=>intro l x y b;cases b
  |succ m h=>exact Mo (cs:=.c2 F te ds rs post (λl x=>fw f m (l,x))::cs) (A8 h a) λl x=>d (fw f m) l x
 intro l x y b;obtain⟨m,e⟩:=fT b;exact key m l x y e
end Go.Ab
namespace Go.Ab
def clW(fn:Func):Nat->String:=λi=>
 match fn.body with
 |some (.seq (.region _ a _) (.seq (.seq (.region _ b _) (.cond _ (.seq (.region _ c _) _) _)) (.seq (.region _ d _) _)))=>(((a++b++c++d)[i]?).map (·.pos)).getD default
 |_=>default
def wh(t b:TypeId)(w:Nat->String):Code:=
 .seq (.region 0 #[⟨some 2,.assign (.const (.slice none 0 0)),t,w 0, #[],none⟩] false)
  (.seq (.seq (.region 1 #[⟨some 3,.move (.tmp 0),t,w 1, #[],none⟩,⟨some 4,.binOp .eql t (.tmp 3) (.const (.slice none 0 0)) t,b,w 2, #[⟨0,.data⟩],none⟩] false)
    (.cond (.tmp 4) (.seq (.region 2 #[⟨some 2,.assign (.const (.slice none 0 0)),t,w 3, #[],none⟩] false) .ret) .skip))
   (.seq (.region 3 #[⟨some 5,.buildSlice t 0 #[],t,w 4, #[],none⟩,⟨some 6,.move (.tmp 0),t,w 5, #[],none⟩,
     ⟨some 7,.call {callee:=.builtin .append,args:= #[.tmp 5,.tmp 6],argTypes:= #[t,t]},t,w 6, #[⟨0,.data⟩,⟨1,.data⟩],none⟩,
     ⟨some 2,.assign (.tmp 7),t,w 7, #[⟨2,.data⟩,⟨2,.chain⟩,⟨0,.phase⟩,⟨1,.phase⟩,⟨2,.phase⟩],none⟩] false) .ret))
def Mn.none{n0:Nat}{H:Ap}{id g sz off:Nat}(hn:n0<=H.length)(b:id<H.length)(k:0<sz):Mn n0 (.sl id g sz off 0) H (.vs sz []) (H.set id .dead):=by
 refine⟨by simpa using hn,λX h w c s r=>?_⟩;obtain⟨p,t⟩:=s.kill b;refine⟨h,p,?_,λ_ _=>⟨rfl,rfl,rfl⟩,λB o=>?_⟩;cases r with
 |sl l m n q=>obtain⟨a,cap,rfl⟩:=n;exact BZ.vs (rows:=[]) (λ_ _=>undef) (Bt _) k (λj e h=>by simp at h) (λh=>(h rfl).elim) (λj e i v h=>by simp at h)
 obtain⟨i,e,l,d,m⟩:=o;rcases Iu b l with⟨_,f⟩|⟨rfl,rfl⟩;exact⟨i,e,f,d,m⟩;exact(d rfl).elim
variable {N n z:Nat}{R y:Type}{c:List QY}{F:FuncId}{P:Program}{g:List AV}{j:Bool}{p:Ty}{q:Int}{v:World}{I:IntKind}{K:Value}
theorem yQ{P:Program}{F:FuncId}{t b:TypeId}{a:Ty}(p:(P.funcs[F]?).map (λy=>(y.body,y.ntmps,y.results))=some (some (wh t b (((P.funcs[F]?).map clW).getD (λ_=>default))),8, #[.tmp 2]))(J:elT P t=some a)(k:cA 0 a #[] []=true):(QY.cl F a).Ok P:=by
 generalize ((P.funcs[F]?).map clW).getD (λ_=>default)=w at p;obtain⟨y,U,C⟩:=Vp.1 p;injection C with R C;injection C with hn hr;intro l H V;obtain⟨e,B,x⟩:=dh J;have K:=(PO B).1;have A: ∀env,RF P env t 0 #[]=some (a.sz,[]):=by intro env;unfold RF;simp only[B];refine if_pos ⟨a.sz_pos,x,rfl,rfl,Bt _,?_⟩;unfold cA at k;simp only[BN]at k;exact KK k.2
 have i: ∀Q:AV→Ap→Prop,(l=[]→Q (.vs a.sz []) (A7 (H++[.dead])))→(∀r,l≠ []→app [] l=some r→Q (.sl H.length r.length a.sz 0 r.length) (A7 (H++[.buf false a r r.length 0])))→
   (l=[]\/ ∃r,app [] l=some r)->EQ P F [.vs a.sz (l.map a.enc)] (A7 H) Q:=by
  intro Q M N f;refine Jd U R (by rw[hn];simp) ?_;rw[hn];refine L9.seq (Fb rfl (Ub.cons rfl (Db (v:=.nils) rfl (Ub.nil (L9.seq (L9.seq (Fb rfl (Ub.cons rfl (Db (v:=.vs a.sz (l.map a.enc)) rfl (Ub.cons rfl (nO (sz:=a.sz) (rows:=l.map a.enc) rfl K rfl λL T=>Ub.nil ?_)))))))))));have o:L=true->l=[]:=λh=>by by_cases j:l=[]<;>simp_all
  have d:(A7 H++[Ec.live 0 []]).set (A7 H).length Ec.dead=A7 (H++[.dead]):=by simp_all[RQ,Ag,G3,A7,Dp.enc]
  refine L9.cond (b:=L) rfl (λz=>?_) (λS=>?_);refine L9.seq (Fb rfl (Ub.cons rfl (Db (v:=.nils) rfl (Ub.nil (L9.weak (Fs.virt (t:=2) (sz:=a.sz) rfl) (L9.ret (⟨.sl (A7 H).length 0 a.sz 0 0,.vs a.sz [],(A7 H++[Ec.live 0 []]).set (A7 H).length Ec.dead,by simp[Z8,hr,RN,iI,Env.putO,Env.put,Env.get],Mn.none (by simp) (by simp) a.sz_pos,?_⟩)))))));rw[d];exact M (o z);refine L9.skip (L9.seq (Fb rfl (Ub.cons rfl (Rx (sz:=a.sz) (vs:=[]) rfl (A _) (Ub.cons rfl (Db (v:=.vs a.sz (l.map a.enc)) rfl (Ub.cons rfl ?_)))))));have I:My (A7 H++[Ec.live 0 []]) a.sz (.vs a.sz (l.map a.enc))=some (l.length,a.E.cl l):=by simp only[My,if_true,Da];rfl
  have s:0+l.length<=16777216:=by rcases f with rfl|⟨r,hr⟩;simp;obtain⟨N,_⟩:=iS hr;simpa using N
  refine QU (sx:=.tmp 5) (xx:=.tmp 6) (H:=A7 H++[Ec.live 0 []]) (id:=(A7 H).length) (g:=0) (g':=l.length) (n:=0) (cs:=[]) (m:=l.length) (news:=a.E.cl l) rfl B a.sz_pos x rfl (by simp) (by simp) I s (by rcases RS l.length with q|q;exact .inr ⟨q,q⟩;exact .inl q) ?_;refine Ub.cons rfl (Db (v:=.sl (A7 H).length l.length a.sz 0 (0+l.length)) rfl (Ub.nil (L9.ret ?_)));have O:(A7 H++[Ec.live 0 []]).set (A7 H).length (.live l.length ([]++a.E.cl l))=A7 (H++[.buf false a l l.length 0]):=by simp_all[RQ,Ag,G3,A7,Dp.enc]
  by_cases j:l=[];subst j;refine⟨.sl (A7 H).length 0 a.sz 0 0,.vs a.sz [],(A7 H++[Ec.live 0 []]).set (A7 H).length Ec.dead,by simp[Z8,hr,RN,iI,Env.putO,Env.put,Env.get],?_,?_⟩;have:=Mn.none (n0:=(A7 H).length) (H:=A7 H++[Ec.live 0 []]) (id:=(A7 H).length) (g:=0) (off:=0) (by simp) (by simp) a.sz_pos;have e:(A7 H++[Ec.live 0 []]).set (A7 H).length (.live ([]:List a.D).length ([]++a.E.cl []))=A7 H++[Ec.live 0 []]:=by rw[RQ _ _ (Ag _),G3];rfl
  rw[e];exact this;rw[d];exact M rfl;rcases f with h|⟨r,c⟩;exact(j h).elim;obtain⟨_,G⟩:=iS c;have u:l=r:=by simpa using G.symm
  subst u;refine⟨.sl (A7 H).length l.length a.sz 0 l.length,_,_,by simp[Z8,hr,RN,iI,Env.putO,Env.put,Env.get],Mn.refl _ _ (by simp),?_⟩;grind[CO]
 refine⟨λj=>?_,λr j hr=>?_⟩;subst j;exact i _ (λ_=>⟨rfl,rfl⟩) (λr h=>(h rfl).elim) (.inl rfl);exact i _ (λh=>(j h).elim) (λW _ c=>by rw[hr]at c;injection c with c;subst c;exact⟨rfl,rfl⟩) (.inr ⟨r,hr⟩)
abbrev i64:Ty:=.int .i64
abbrev hn(k i:Nat)(s:List Th)(e:List (Exit×List Th)):Hint:=⟨k,i,[],[],[],[],s,e⟩
def k0{a d:List Ty}{g:DL a→Option (DL d)}(l:List (Nat×List Hint))(b: ∀e∈c,e.Ok P)
  (f:g=λx=>vX P c (XH l) 13 F a d x:=by kernel_rfl):(QY.c0 F a d g).Ok P:=vi b λx=>congrFun f x
def k1{P:Program}{a:Ty}{d f:List Ty}{g:a.D→DL d→Option (DL (f++[a]))}(l:List (Nat×List Hint))(e: ∀h∈c,h.Ok P)
  (i:g=λb x=>yL P c (XH l) 13 F N a d f b x:=by kernel_rfl):(QY.c1 F N a d f g).Ok P:=AAd e λb x=>congrFun (congrFun i b) x
theorem w64(h: -9223372036854775808<=q/\q<=9223372036854775807):IntKind.wrap .i64 q=q:=by grind[IntKind.wrap_i64]
def xI{body:y->Option (Step y R)}(I:y->Prop)(Q:R->Prop)(b:y->Nat)(i: ∀s,I s->(∃r,body s=some (.done r)/\Q r)\/ ∃a,body s=some (.next a)/\I a/\b a<b s){s:y}(h:I s): ∃r,Ad body s=some r/\Q r:=by
 have key: ∀(n:Nat) (s:y),b s<n->I s-> ∃r,Ad body s=some r/\Q r:=by
  intro n;induction n with
  |zero=>intro s j;omega
  |succ n k=>intro s j g;rcases i s g with⟨r,c,d⟩|⟨a,c,d,l⟩;exact⟨r,by rw[CZ,c],d⟩;obtain⟨r,e,f⟩:=k a (by omega) d;exact⟨r,by rw[CZ,c];exact e,f⟩
 exact key (b s+1) s (by omega) h
theorem AA4{l:List R}{x:R}(h:l[N]? =some x):ix l (N:Int)=some x:=by unfold ix;grind[Int.toNat_natCast]
def ADq{l:List R}(a:0<=q)(c:q<l.length): ∃x,ix l q=some x/\l[q.toNat]? =some x:=by
 obtain⟨n,rfl⟩:=Ei a;have hn:n<l.length:=by omega
 exact⟨l[n],AA4 (Aw hn),by simp[hn]⟩
def ACR{l a:List R}(h:l.length+a.length<=16777216):app l a=some (l++a):=if_pos h
theorem AAQ(a:JR n R)(h:N<n):GX a (N:Int)=some (a ⟨N,h⟩):=by grind[GX]
def A3(o:Option R)(Q:R->Prop):Prop:= ∃r,o=some r/\Q r
section
variable {α β γ:Type}
theorem AA{r:α}{Q:α->Prop}(h:Q r):A3 (.some r) Q:=⟨r,rfl,h⟩
def A3.mono{o:Option α}{P Q:α->Prop}(h:A3 o P)(c: ∀r,P r->Q r):A3 o Q:=by obtain⟨r,a,b⟩:=h;exact⟨r,a,c r b⟩
theorem AB{o:Option α}{k:α->Option β}{P:α->Prop}{Q:β->Prop}(h:A3 o P)(b: ∀r,P r->A3 (k r) Q):A3 (Option.bind o k) Q:=by obtain⟨r,rfl,a⟩:=h;exact b r a
theorem Dr{o:Option α}{k:α->Option β}{P:α->Prop}{Q:β->Prop}(h:A3 o P)(b: ∀r,o= .some r->P r->A3 (k r) Q):A3 (Option.bind o k) Q:=by obtain⟨r,rfl,a⟩:=h;exact b r rfl a
def AJ{o:Option α}{k:α->Option β}{P:α->Prop}{Q:β->Prop}(a: ∀r,P r->A3 (k r) Q)(h:A3 o P):A3 (Option.bind o k) Q:=AB h a
def AI{a b:Option α}{Q:α->Prop}(d:j=true->A3 a Q)(e:j=false->A3 b Q):A3 (bif j then a else b) Q:=by
 cases j with
 |true=>exact d rfl
 |false=>exact e rfl
def AC{p:Prop}{_:Decidable p}{a b:Option α}{Q:α->Prop}(c:p->A3 a Q)(d: ¬p->A3 b Q):A3 (bif decide p then a else b) Q:=AI (λh=>c (of_decide_eq_true h)) (λh=>d (of_decide_eq_false h))
theorem AO{a b:Option α}{Q:α->Prop}(d:j=false->A3 a Q)(e:j=true->A3 b Q):A3 (bif !j then a else b) Q:=by
 cases j with
 |true=>exact e rfl
 |false=>exact d rfl
theorem AU{_:BEq R} [LawfulBEq R] {x y:R}{a b:Option α}{Q:α->Prop}(c:x=y->A3 a Q)(d:x≠y->A3 b Q):A3 (bif x==y then a else b) Q:=AI (λh=>c (eq_of_beq h)) (λh=>d (ne_of_beq_false h))
theorem AL{_:BEq R} [LawfulBEq R] {x y:R}{a b:Option α}{Q:α->Prop}(c:x≠y->A3 a Q)(d:x=y->A3 b Q):A3 (bif x !=y then a else b) Q:=by refine AI (λh=>c λe=>?_) (λh=>d ?_);subst e;simp at h;simpa using h
def BS{a b:Option α}{k:α->Option β}{Q:β->Prop}(h:A3 (bif j then Option.bind a k else Option.bind b k) Q):A3 (Option.bind (bif j then a else b) k) Q:=by cases j<;>exact h
def Az{a:α}{k:α->Option β}{Q:β->Prop}(h:A3 (k a) Q):A3 (Option.bind (.some a) k) Q:=h
def Bd{o:Option α}{f:α->Option β}{k:β->Option γ}{Q:γ->Prop}(h:A3 (Option.bind o λv=>Option.bind (f v) k) Q):A3 (Option.bind (Option.bind o f) k) Q:=by cases o<;>exact h
def MJ{f:α->Option γ}{g:β->Option γ}{o:α ⊕ β}{k:γ->Option R}{Q:R->Prop}(h:A3 (Sum.elim (λu=>Option.bind (f u) k) (λu=>Option.bind (g u) k) o) Q):A3 (Option.bind (Sum.elim f g o) k) Q:=by cases o<;>exact h
theorem BH{u:α}{f:α->Option γ}{g:β->Option γ}{Q:γ->Prop}(h:A3 (f u) Q):A3 (Sum.elim f g (.inl u)) Q:=h
theorem A9{u:β}{f:α->Option γ}{g:β->Option γ}{Q:γ->Prop}(h:A3 (g u) Q):A3 (Sum.elim f g (.inr u)) Q:=h
theorem BA{f:α->Option γ}{g:β->Option γ}{o:α ⊕ β}{Q:γ->Prop}(a: ∀u,o= .inl u->A3 (f u) Q)(b: ∀u,o= .inr u->A3 (g u) Q):A3 (Sum.elim f g o) Q:=by
 cases o with
 |inl u=>exact a u rfl
 |inr u=>exact b u rfl
def A3.get{o:Option α}{Q:α->Prop}{r:α}(h:A3 o Q)(e:o= .some r):Q r:=by obtain⟨s,a,b⟩:=h;rw[e]at a;injection a with a;rw[a];exact b
def A3.and{o:Option α}{P Q:α->Prop}(h:A3 o P)(g:A3 o Q):A3 o λr=>P r/\Q r:=by obtain⟨r,a,b⟩:=h;exact⟨r,a,b,g.get a⟩
theorem AK{l:List α}{i:Int}(b:0<=i:=by omega)(c:i<l.length:=by omega):A3 (ix l i) λx=>l[i.toNat]? = .some x/\x∈l:=by obtain⟨x,d,a⟩:=ADq b c;exact⟨x,d,a,BL a⟩
theorem Ae{l a:List α}(h:l.length+a.length<=16777216):A3 (app l a) λr=>r=l++a/\r.length=l.length+a.length/\r.length<=16777216:=⟨_,ACR h,rfl,by simp,by simp;omega⟩
theorem Cu{a b:Bb}(h:a.length+b.length<=9223372036854775807):A3 (sapp a b) λr=>r=a++b/\r.length=a.length+b.length:=by refine⟨a++b,?_,rfl,by simp⟩;unfold Go.Ab.sapp;rw[if_pos h]
theorem Dh{s:Bb}{lo hi:Int}(a:0<=lo:=by omega)(b:lo<=hi:=by omega)(c:hi<=s.length:=by omega):A3 (TH s lo hi) λr=>r=(s.drop lo.toNat).take (hi.toNat-lo.toNat)/\(r.length:Int)=hi-lo:=by refine⟨_,if_pos ⟨a,b,c⟩,rfl,?_⟩;rw[Bh,G6];omega
theorem B9{s:List α}{lo hi:Int}(a:0<=lo:=by omega)(b:lo<=hi:=by omega)(c:hi<=s.length:=by omega):A3 (bu s lo hi) λr=>r=(s.drop lo.toNat).take (hi.toNat-lo.toNat)/\(r.length:Int)=hi-lo:=by refine⟨_,if_pos ⟨a,b,c⟩,rfl,?_⟩;rw[Bh,G6];omega
def Si{s:Bb}{i:Int}(a:0<=i)(c:i<s.length):A3 (six s i) λb=>0<=b/\b<256:=by
 obtain⟨n,rfl⟩:=Ei a;have hn:n<s.length:=by omega
 refine⟨(s[n].toNat:Int),?_,by omega,?_⟩;unfold Go.Ab.six;simp[hn];have:=s[n].toNat_lt;omega
def DY{a:JR n α}(b:0<=q)(c:q<n):A3 (GX a q) λx=>x=a ⟨q.toNat,by omega⟩:=by obtain⟨k,rfl⟩:=Ei b;exact⟨_,AAQ a (by omega),rfl⟩
theorem sY{z:α}(a:0<=q)(b:q<=16777216):A3 (mk z q q) λr=>r=List.replicate q.toNat z/\(r.length:Int)=q:=by refine⟨List.replicate q.toNat z,?_,rfl,by simp;omega⟩;unfold Go.Ab.mk;rw[if_pos ⟨a,Ak _,b⟩]
def AQ{body:y→Option (Step y R)}(I:y→Prop)(b:y→Nat){Q:R→Prop}{s:y}(c:I s)
  (f: ∀s,I s->A3 (body s) λst=>match st with| .next a=>I a/\b a<b s| .done r=>Q r):A3 (Ad body s) Q:=by
 obtain⟨r,d,e⟩:=xI (body:=body) I Q b (λs g=>by
  obtain⟨st,q1,q2⟩:=f s g;cases st with
  |next a=>exact .inr ⟨a,q1,q2.1,q2.2⟩
  |done r=>exact .inl ⟨r,q1,q2⟩) c
 exact⟨r,d,e⟩
theorem SN(n:Int):IntKind.wrap .u64 n=n%18446744073709551616:=by simp[IntKind.wrap,IntKind.bits,IntKind.signed]
theorem tu(n:Int):IntKind.wrap .u32 n=n%4294967296:=by simp[IntKind.wrap,IntKind.bits,IntKind.signed]
def AEI(n:Int):IntKind.wrap .u8 n=n%256:=by simp[IntKind.wrap,IntKind.bits,IntKind.signed]
def YE{Q:α->Prop}(h:False):A3 .none Q:=h.elim
theorem AY{x:Int}(h: -9223372036854775808<=x/\x<=9223372036854775807:=by omega):wi x=x:=w64 h
def z0(x:Int):wi x=(x+9223372036854775808)%18446744073709551616-9223372036854775808:=by unfold wi;rw[IntKind.wrap_i64]
end
def XJ(I:y->Prop)(μ:y->Nat)(m:Nat)(Q:R->Prop):Step y R->Prop
 | .next s'=>I s'/\μ s'<m
 | .done r=>Q r
def Gf{body:y->Option (Step y R)}(I:y->Prop)(a:y->Nat){Q:R->Prop}{s:y}(b:I s)(c: ∀s,I s->A3 (body s) (XJ I a (a s) Q)):A3 (Ad body s) Q:=AQ I a b λs d=>(c s d).mono λst h=>by cases st<;>exact h
theorem A3.next{I:y->Prop}{a:y->Nat}{m:Nat}{Q:R->Prop}{s:y}(h:I s)(b:a s<m):A3 (Option.some (Step.next s)) (XJ I a m Q):=⟨_,rfl,h,b⟩
theorem A3.done{I:y->Prop}{a:y->Nat}{Q:R->Prop}{r:R}(h:Q r):A3 (Option.some (Step.done r)) (XJ I a N Q):=⟨_,rfl,h⟩
open Go.ChangeShapes Go.WideShapes Go.ChangeAt Go.RowKit
def gh0:Gh:=⟨λ_=>none,λ_=>0,λ_=>0⟩
def cx0(w:World):Cx:=cx (λ_=>False) gh0 [] w
def AEg(w:World):Ih (λ_=>False) gh0 [] w where
 out B h:=h.elim
 live id g cs h:=by simp at h
 lp id L h:=by simp at h
 inj id id' e e' B h:=by simp at h
 bld id e h:=by simp at h
theorem un: ¬(cx0 v).O N:=by rintro(h|⟨id,e,h,_⟩);exact h;grind
def XT{Q:AV→Ap→Prop}(h:EQ P F g [] Q){w:World}{cargs:Array Value}(hn:cargs.size=g.length)
  (d: ∀(j:Nat) (v:AV) (c:Value),g[j]? =some v->cargs[j]? =some c->BZ (cx0 w) v c):
  Calls P F cargs w λe b=> ∃c v x a,e= .returned c/\Q v a/\BZ x v c/\Below w.heap.size w b:=by
 refine(h (λ_=>False) gh0 w cargs (AEg w) hn d).mono ?_;rintro e b ⟨c,v,i,a,rfl,q,_,r,x⟩;refine⟨c,v,_,a,rfl,q,r,x.os,x.tape,x.output,x.size,λk l=>x.keep k l ?_⟩;rintro⟨id,e,f,_⟩;simp at f
def xj{a:Addr}{b:List Int}(A:N≤n)(D:b.length=n)(t: ∀i,i<b.length→v.cell? (a.add i)=some (.int I (b.getD i 0)))(q:a.block<v.heap.size∨N=0):
  BZ (cx0 v) (.vs 1 ((b.take N).map λk=>.int I k)) (.slice (some a) N n):=by
 have d:((b.take N).map λk=>AV.int I k).length=N:=by simp;omega
 have g: ∀(j:Nat) (e:AV),((b.take N).map λk=>AV.int I k)[j]? =some e->j<N/\e= .int I (b.getD j 0):=by
  intro j e h;rw[CC]at h;cases c:(b.take N)[j]? with
  |none=>rw[c]at h;cases h
  |some k=>
   rw[c]at h;simp only[Bf,Ai]at h;subst h;have p:j<(b.take N).length:=by rcases Ao j (b.take N).length with h|h;exact h;rw[Ck h]at c;cases c
   simp only[Bh]at p;rw[LY (by omega)]at c;exact⟨by omega,by rw[I5,c];rfl⟩
 have key:=BZ.vs (x:=cx0 v) (sz:=1) (rows:=(b.take N).map λk=>.int I k) (a:=some a) (cap:=n) (λj _=>.int I (b.getD j 0)) (by rw[d];exact A) (by omega)
  (λj e h=>by rw[(g j e h).2];rfl)
  (λr=>by
   have C:0<N:=by rcases RS N with h|h;subst h;simp at r;exact h
   have m:a.spot=none:=by have:=t 0 (by omega);unfold World.cell? at this;split at this;split at this;cases this;rename_i u;simp only[Addr.add,if_true]at u;simpa using u;cases this
   obtain⟨B,s,E⟩:=a;simp only at m;subst m;refine⟨B,s,rfl,un,?_,λj e i w c l=>?_⟩;rcases q with h|h;exact h;omega;obtain⟨y,o⟩:=g j e c;subst o;have f:i=0:=by
    simp only[AV.cells]at l;cases i with
    |zero=>rfl
    |succ i=>simp at l
   subst f;refine⟨?_,rfl⟩;have:=t j (by omega);simp only[Nat.mul_one,RR];show v.cell? _=_;rw[<-this];unfold Addr.add;split;rename_i z;subst z;rfl;rfl)
  (λj e i w c l=>by
   obtain⟨y,o⟩:=g j e c;subst o;have f:w= .int I (b.getD j 0):=by
    simp only[AV.cells]at l;cases i with
    |zero=>simpa using l.symm
    |succ i=>simp at l
   subst f;exact .int _ _)
 rw[d]at key;exact key
def zy:BZ (cx0 v) (.vs 1 []) (.slice none 0 0):=BZ.vs (x:=cx0 v) (sz:=1) (rows:=[]) (a:=none) (cap:=0) (λ_ _=>.nilFunc) (by simp) (by omega) (λj e h=>by simp at h) (λh=>absurd rfl h) (λj e i w h=>by simp at h)
open Go.RowKit
def lG{args:List AV}{v:AV}(h: ∀(w:World) (a:Array Value),a.size=args.length→(∀(j:Nat) (u:AV) (c:Value),args[j]? =some u→a[j]? =some c→ ∃x,BZ x u c)→
  Calls P F a w λe i=> ∃c,e= .returned c/\(∀x,BZ x v c)/\Below w.heap.size w i) (H:Ap):EQ P F args H (Cr v H):=by
 intro X g w a s p hr;refine(h w a p λj u c m n=>⟨_,hr j u c m n⟩).mono ?_;rintro e i ⟨c,rfl,q,b⟩;have l:G2 g H w g H i:=⟨b.os,b.tape,b.output,b.size,λB d _=>b.block B d,Ag _,λ_ _=>Ag _,λ_ _ _=>⟨rfl,rfl⟩,λB o=>.inl o,λB r hr=>⟨r,(b.block B (by rcases Ao B w.heap.size with h|h;exact h;simp[mq h]at hr)).trans hr⟩⟩
 exact⟨c,v,g,H,rfl,⟨rfl,rfl⟩,s.of_ext l (λid e k f=>.inl ⟨k,rfl,rfl,rfl,λB d=>b.block B (s.io_at k f d)⟩) s.inj,q _,l⟩
def tn{x:Cx}{s:List UInt8}(h:BZ x (.str s) K):K= .string ⟨s.toArray⟩:=by cases h;rename_i t h;subst h;rfl
def eV{x:Cx}(h:BZ x (.int I q) K):K= .int I q:=by cases h;rfl
end Go.Ab
