/- Texts of wip, joined and shortened by wip/tools/pack.py; nothing is assumed. -/
import Derived.Test.YtdjfjcnheopcdaaGreatDoorK3
import Derived.KernelRfl
import Derived.ProofKit
noncomputable section
set_option linter.all false
namespace Go.Ab
def isLen:Op->Bool
 | .call {callee:=.builtin .len,.. }=>true
 | .move _=>true
 | .assign _=>true
 | .extract _ _=>true
 |_=>false
def rdT(env:Bc)(op:Op):List Nat:=match isLen op with|true=>[]|false=>op.operands.toList.flatMap λx=>idT (JO env x)
def W5(o:Oper)(env:Bc):Bc:=(tmpsOf o).filterMap λt=>match env.get t with| .c (.raw .any)=>none|v=>some (t,v)
def lB(ids:List Nat):Nat->Aq->List Nat
 |_,[]=>[]
 |j,.live false cs::r=>match (K6 cs).any λi=>Oj i ids with|true=>j::lB ids (j+1) r|false=>lB ids (j+1) r
 |j,_::r=>lB ids (j+1) r
variable {N n z:Nat}{R y:Type}{a A:List Nat}{b B:Aq}{c:List RW}{d J:Code}{F:FuncId}{e:List Oper}{f L S:Bc}{P:Program}{g:List AY}{i:AY}{j:Bool}{k:Tn}{m O:TypeId}{p:Ty}{q:Int}{t:List TV}{u:Env}{v:World}{w:TV}{x:Exit}{D:Dr}{E:Bs}{G:Operand}{I:IntKind}{K:Value}{o:Oper}{M:Func}
section
variable {R:Type}
def quD(P:Program)(env:Bc)(H:Aq)(op:Op)(k:TV->Option R):Option R:=
 match op with
 | .buildSlice t len parts=>qv P env t len parts k
 |op=>quT P env H op k
def ADh(P:Program)(cs:List RW)(call:Tn)(env:Bc)(H:Aq)(op:Op)(k:TV->Aq->Option R):Option R:=
 match op with
 | .box _ x=>AFD H (JO env x) k
 | .store t a v=>storeT P H t (JO env a) (JO env v) k
 | .makeSlice t x y=>iV P H t (JO env x) (JO env y) k
 | .buildSlice t len parts=>Z1 P env H t len parts k
 | .call c=>
  match lY env (.call c)with
  |some (F,vs)=>
   match Enters P F with
   |true=>
    match tc cs F vs with
    |some ct=>ABK ct vs H k
    |none=>match isNil vs with|true=>call (.fn F) [] (H.map Dr.lock) λv H'=>k v (Wk H H')|false=>call (.fn F) vs H k
   |false=>none
  |none=>
   match uw env c with
   |some (id,vs)=>call (.yd id) vs H k
   |none=>
    match c with
    |{callee:=.builtin .append,args:=⟨[s,x]⟩,argTypes:=⟨[t,t']⟩}=>match Nat.beq t t' with|true=>sG P H t (JO env s) (JO env x) k|false=>none
    |_=>none
 |_=>none
def AIG(P:Program)(cs:List RW)(call:Tn)(env:Bc)(H:Aq)(op:Op)(k:TV->Aq->Option R):Option R:=
 match II (mj cs env H op) env H with
 |(ef,hf)=>ADh P cs call ef hf op k
def yg(cs:List RW)(env:Bc)(H:Aq)(op:Op):List Nat:=
 match mj cs env H op with
 |[]=>xG cs env H op
 |ids=>ids++lB ids 0 H++(match II ids env H with|(ef,hf)=>xG cs ef hf op)
def AIQ:Op->Bool
 | .buildSlice .. =>true
 |_=>false
def AAy(P:Program)(cs:List RW)(call:Tn)(ops:Array Oper)(m:List Nat)(gs:List Nat)(ow:Bool):List Nat->List (Nat×List Nat)->Bc->Aq->(Bc->Aq->Option R)->Option R
 |[],_,env,H,k=>k env H
 |i::r,pend,env,H,k=>
  match ops[i]? with
  |none=>none
  |some o=>
   match o.op with
   | .alloc t=>
    match ux P t with
    |some z=>
     match o.guard.isNone&&r.all (λj=>Pf m i j||H9 ops j)with
     |true=>AAy P cs call ops m gs ow r pend (env.putO o.dst (.c (.raw (.ptr H.length 0 0)))) (H++[.live false z]) k
     |false=>none
    |none=>none
   |op=>
    match iR ops o.guard env with
    |some false=>AAy P cs call ops m gs ow r ((i,[])::pend) (env.putO o.dst (.tup [])) H k
    |some true=>
     match dq op&& !(ow&&AIQ op)with
     |true=>
      match (rdT env op).all λid=>Nat.blt id H.length with
      |true=>quD P env H op λv=>force (Oj i gs) v λv'=>AAy P cs call ops m gs ow r ((i,rdT env op)::pend) (env.putO o.dst v') H k
      |false=>none
     |false=>
      match r.all (λj=>Pf m i j||H9 ops j)&&pend.all (λp=>Pf m p.1 i||p.2.all λid=>!Oj id (yg cs (W5 o env) H op))with
      |true=>AIG P cs call (W5 o env) H op λv H'=>force (Oj i gs) v λv'=>AAy P cs call ops m gs ow r pend (env.putO o.dst v') H' k
      |false=>none
    |none=>none
variable {P:Program} {N:Nat} {o:Oper} {env:Bc} {H:Aq} {r:R}
theorem ABn(env:Bc)(a:Op)(h:isLen a=false):ACk (B9 env) a=rdT env a:=by grind[ACk,rdT,LC,AFd]
theorem mX.len{env:Env}{H:Az}{v:AY}(b:isLen o.op=true)(e:CO P env H o.op=some v):mX P N o env H [] v:=by
 intro c f d _;refine Dc (v:=v) ?_ ⟨rfl,rfl⟩;rw[wL (gg d),<-e];generalize o.op=op at b;unfold isLen at b;split at b;rename_i args a;obtain⟨args⟩:=args;obtain⟨a⟩:=a;match args,a with
 |[x],[t]=>rfl
 |[],_=>rfl
 |_::_::_,_=>rfl
 |[_],[]=>rfl
 |[_],_::_::_=>rfl
 rfl;rfl;rfl;cases b
theorem ACh{k:TV->Option R}(ok:Qs env H)(h:quD P env H o.op k=some r): ∃v,mX P N o (B9 env) (BH H) (rdT env o.op) v.enc/\k v=some r/\v.ok H:=by
 have n:quT P env H o.op k=some r-> ∃v,mX P N o (B9 env) (BH H) (rdT env o.op) v.enc/\k v=some r/\v.ok H:=λh=>by
  obtain⟨v,f,i,j⟩:=wM ok h;refine⟨v,?_,i,j⟩;cases z:isLen o.op with
  |true=>grind[rdT,mX.len]
  |false=>rw[<-ABn _ _ z];exact Xg f
 generalize b:o.op=op at h;unfold quD at h;split at h;rename_i t len a;unfold qv at h;split at h;rename_i q l;split at h;rename_i e;split at h;rename_i F d;have E:=ub l e;refine⟨_,?_,h,J2 trivial⟩;rw[<-b,<-ABn _ _ (by rw[b];rfl)];have y:xE P (B9 env) (BH H) o.op=some (.vs q.sz ((a.toList.map λp=>JO env p.2).map TV.enc)):=by grind[xE]
 have A:=kZ (N:=N) y;intro x m f i;have j:=A x m f i;refine JM.after (v:=.vs q.sz ((a.toList.map λp:Nat×Operand=>JO env p.2).map TV.enc)) (H1:=m) j λX g w s=>⟨Ul.refl _ _,λc D=>AGO (nL d) (kS d) (λv C=>?_) _ _ D⟩
 unfold iY at e;simp only[BO]at e;obtain⟨u,B,rfl⟩:=Bl.1 C;have:=Fq.1 e.1.1.2 u B;split at this;simp_all[ZM,eY];cases this;cases h;cases h;cases h;grind
theorem ACL{b:Op}{a:TV->Aq->Option R}(h:ADh P c k env H b a=some r):yj P c k env H b a=some r:=by unfold ADh at h;unfold yj;split at h<;>grind
theorem wH{p:Nat×TV}(h:p∈W5 o f):p.1∈tmpsOf o/\p.2=f.get p.1/\p.2≠ .c (.raw .any):=by obtain⟨t,b,a⟩:=TW.1 h;grind
theorem AFY(h:w.enc= .any):w= .c (.raw .any):=by
 cases w with
 |c x=>
  cases x with
  |ar n t a=>cases h
  |_=>grind[TV.enc,Bs.one]
 |_=>simp[TV.enc]at h
theorem mh{t:Nat}: ∀{l:Bc},(∀p∈l,p.1≠t)->Bc.get l t=Vp
 |[],_=>rfl
 |(k,u)::r,h=>by simp only[Bc.get,beq_false (h (k,u) k!)];exact mh λp a=>h p (by simp[a])
theorem wA{j:Nat}: ∀{l:List Nat},j∈l->Oj j l=true
 |i::r,h=>by simp only[Oj];rcases A8.1 h with rfl|h;rw[HB];rw[wA h];split<;>rfl
def AGR(ids:List Nat)(H:Aq)(j:Nat):Prop:= ∀cs,H[j]? =some (.live false cs)-> ∀i∈K6 cs,i∉ids
theorem rP{ids:List Nat}: ∀{H:Aq} {i j:Nat},i+j∉lB ids i H->AGR ids H j
 |e::r,i,0,hn,c,h=>by grind[lB,wA]
 |e::r,i,j+1,hn,c,h=>by
  have d:(i+1)+j∉lB ids (i+1) r:=by
   have f:i+1+j=i+(j+1):=o!
   rw[f];intro a;apply hn;cases e with
   |live b c=>cases b<;>grind[lB]
   |dead=>exact a
   |buf=>exact a
   |lp=>exact a
   |mp=>exact a
  exact rP (ids:=ids) d c h
def nS{id b:Nat}{t:Ty}{l:List t.D}: ∀{a:List Bs},id∉K6 a->a.map (Nr id b t l)=a
 |[],_=>rfl
 |x::r,h=>by
  cases x with
  |own d c e n=>simp only[K6,A8,not_or]at h;simp only[Bt,Nr,beq_false h.1,pQ,nS h.2]
  |_=>simp only[K6]at h;simp only[Bt,Nr,nS h]
def gj: ∀(a:List Nat) {env:Bc} {H:Aq} {j:Nat},j∉a->AGR a H j->(II a env H).2[j]? =H[j]?
 |[],_,_,_,_,_=>rfl
 |id::r,env,H,j,hj,hn=>by
  simp at hj;simp only[II];split;rename_i e h d;have m:h[j]? =H[j]? :=by
   unfold frz at d;split at d;rename_i t l n q s;simp at d;rw[<-d.2,Dw (λe=>hj.1 e.symm),CE];cases p:H[j]? with
   |none=>rfl
   |some o=>
    simp;cases o with
    |live b c=>
     cases b with
     |false=>simp only[Q6];rw[nS λf=>hn c p id f Iy]
     |true=>rfl
    |_=>rfl
   cases d
  rw[gj r hj.2 λc g i k f=>hn c (m▸g) i k (CQ _ f),m];exact gj r hj.2 λc g i k f=>hn c g i k (CQ _ f)
theorem AAI(l: ∀b∈c,b.Ok P)(g:Xl P k){f:TV→Aq→Option R}(ok:Qs env H)(h:AIG P c k (W5 o env) H o.op f=some r):
  ∃v d,Eff P N o (B9 env) (BH H) (yg c (W5 o env) H o.op) (C6 v.enc (BH d))/\f v d=some r/\v.ok d/\(∀e∈d,e.ok d)/\CD H d:=by
 have n:Qs (W5 o env) H:=⟨λp m=>by rw[(wH m).2.1];exact qO ok.env _,ok.heap⟩
 obtain⟨s,u,A⟩:=Rk (mj c (W5 o env) H o.op) n;have w:=λj=>gj (mj c (W5 o env) H o.op) (env:=W5 o env) (H:=H) (j:=j);have x: ∀id,id∉yg c (W5 o env) H o.op->id∉xG c (II (mj c (W5 o env) H o.op) (W5 o env) H).1 (II (mj c (W5 o env) H o.op) (W5 o env) H).2 o.op/\(II (mj c (W5 o env) H o.op) (W5 o env) H).2[id]? =H[id]? :=by intro id a;unfold yg at a;split at a;rename_i z;rw[z];exact⟨a,rfl⟩;simp only[A1,not_or]at a;refine⟨a.2,w id a.1.1 (rP (i:=0) q!)⟩
 obtain⟨v,d,q1,q2,q3,q4,q5,q6⟩:=rF (N:=N) l g s (ACL h);refine⟨v,d,⟨λt G=>JM.before (Fv.subset λq y=>?_) (JM.before (A N) q1),?_⟩,q2,q3,q4,u.step.trans q5⟩;obtain⟨p,m,rfl⟩:=Bl.1 y;obtain⟨D,E,F⟩:=wH m;grind[VC,N8,AFY];rintro _ _ ⟨rfl,rfl⟩ id a hn;rw[CR]at a;obtain⟨B,C⟩:=x id hn;rw[E6,E6,q6 id (C7 a u.step.len) B,C]
def Uh{j:Nat}: ∀{l:List Nat},Oj j l=false->j∉l
 |i::r,h=>by simp only[Oj]at h;split at h;cases h;rename_i b;intro a;rcases A8.1 a with rfl|a;rw[HB]at b;cases b;exact Uh h a
 |[],_=>λh=>by cases h
def vB(ops:Array Oper)(l:List Nat):List Nat:=l.filterMap λi=>(ops[i]?).bind (·.dst)
theorem ZK{L:List RW}(u: ∀c∈L,c.Ok P){w:Tn}(s:Xl P w){b:Array Oper}{X:List Nat}{ow:Bool}: ∀(l:List Nat) (n:List (Nat×List Nat)) (env:Bc) (H:Aq) (k:Bc→Aq→Option R) (r:R),Qs env H→
  AAy P L w b (IH b.toList []) X ow l n env H k=some r->
  ∃a q,RA P N b l n (B9 env) (BH H) (λe h=>e=B9 a/\h=BH q)/\k a q=some r/\Qs a q/\E5 (vB b l) env H a q
 |[],n,env,H,k,r,ok,h=>⟨env,H,⟨rfl,rfl⟩,h,ok,E5.refl _ _ _⟩
 |i::l,n,env,H,k,r,ok,h=>by
  simp only[AAy]at h;simp only[RA];cases J:b[i]? with
  |none=>rw[J]at h;cases h
  |some o=>
   rw[J]at h;simp only at h⊢;have m: ∀{e:Bc} {h:Aq} {v:TV},E5 (vB b [i]) e h (e.putO o.dst v) h:=by
    intro e h v;refine⟨CD.refl h,λt T _=>?_⟩;cases hd:o.dst with
    |none=>rfl
    |some d=>refine pD λe=>T ?_;simp[vB,J,hd,e]
   have g: ∀t,t∈vB b [i]++vB b l->t∈vB b (i::l):=by grind[vB]
   split at h;rename_i t Q;split at h;rename_i z hz;split at h;rename_i F;simp only[BO]at F;obtain⟨z1,z2⟩:=ZP hz;have I:=CD.push H (.live false z);have f:Qs (env.putO o.dst (.c (.raw (.ptr H.length 0 0)))) (H++[.live false z]):=⟨iZ (I.env ok.env) (J2 trivial),Pz ok.heap (z2 _)⟩
   obtain⟨a,q,x,C,D,E⟩:=ZK u s l _ _ _ _ _ f h;have G:o.guard=none:=by simpa using F.1
   refine⟨a,q,?_,C,D,?_⟩;rw[G];refine .inr (.inr ⟨t,lvs z,Q,z1,λj V=>?_,?_⟩);grind[List.all_eq_true];have M:B9 (env.putO o.dst (.c (.raw (.ptr H.length 0 0))))=(B9 env).putO o.dst (.ptr (BH H).length 0 0):=by rw[YO,CR];rfl
   have W:BH (H++[.live false z])=BH H++[.live 0 (lvs z)]:=Ri _ _;rw[M,W]at x;exact x;have U:E5 (vB b [i]) env H (env.putO o.dst (.c (.raw (.ptr H.length 0 0)))) (H++[.live false z]):=⟨I,(m (h:=H)).same⟩
   exact(E5.trans ok.env U E).mono g;cases h;cases h;rename_i O;have y:H9 b i=false:=by
    cases Z:H9 b i with
    |false=>rfl
    |true=>obtain⟨t,T⟩:=(Wy J).1 Z;exact(O t T).elim
   split at h;rename_i G;have f:Qs (env.putO o.dst (.tup [])) H:=⟨iZ ok.env (Rq λv hv=>by cases hv),ok.heap⟩
   obtain⟨a,q,x,C,D,E⟩:=ZK u s l _ _ _ _ _ f h;have M:(B9 env).putO o.dst (.tup [])=B9 (env.putO o.dst (.tup [])):=by rw[YO];rfl
   exact⟨a,q,ot G ⟨y,by rw[M];exact x⟩,C,D,(E5.trans ok.env m E).mono g⟩;rename_i G;split at h;split at h;rename_i S;obtain⟨v,q1,q2,q3⟩:=ACh (N:=N) ok h;have B:=nO q2;have f:Qs (env.putO o.dst v) H:=⟨iZ ok.env q3,ok.heap⟩
   obtain⟨a,q,x,C,D,E⟩:=ZK u s l _ _ _ _ _ f B;refine⟨a,q,kv G (.inl ⟨y,v.enc,rdT env o.op,q1,λid A=>?_,by rw[<-YO];exact x⟩),C,D,(E5.trans ok.env m E).mono g⟩;have:=Fq.1 S id A;rw[CR];exact O5 this;cases h;split at h;rename_i F;simp only[BO]at F;obtain⟨v,K,q1,q2,q3,q4,q5⟩:=AAI (N:=N) u s ok h;have B:=nO q2;have f:Qs (env.putO o.dst v) K:=⟨iZ (q5.env ok.env) q3,q4⟩
   obtain⟨a,q,x,C,D,E⟩:=ZK u s l _ _ _ _ _ f B;refine⟨a,q,kv G (.inr (.inl ⟨y,yg L (W5 o env) H o.op,λj V=>by simpa using List.all_eq_true.1 F.1 j V,λp hp=>?_,C6 v.enc (BH K),q1,?_,?_⟩)),C,D,?_⟩;have:=Fq.1 F.2 p hp;simp only[YJ,Fq,P3]at this;exact this.imp id λY id A=>Uh (Y id A);rintro _ _ ⟨rfl,rfl⟩;rw[CR,CR];exact q5.len;rintro _ _ ⟨rfl,rfl⟩;rw[<-YO];exact x;have U:E5 (vB b [i]) env H (env.putO o.dst v) K:=⟨q5,(m (h:=H)).same⟩
   exact(E5.trans ok.env U E).mono g;cases h;cases h
end
abbrev DV:=(t:Ty)×t.D
def dvs:(ts:List Ty)->DL ts->List DV
 |[],_=>[]
 |[t],x=>[⟨t,x⟩]
 |t::u::r,x=>⟨t,x.1⟩::dvs (u::r) x.2
def AAb:(ts:List Ty)->List DV->Option (DL ts)
 |[],[]=>some ()
 |[t],[⟨t',x⟩]=>if h:t'.beq t=true then some (Ty.cast h x)else none
 |t::u::r,⟨t',x⟩::ds=>if h:t'.beq t=true then match AAb (u::r) ds with|some y=>some (Ty.cast h x,y)|none=>none else none
 |_,_=>none
def ABQ{a:Ty}(h:a.beq p=true)(x:a.D):(⟨p,Ty.cast h x⟩:DV)=⟨a,x⟩:=by have e:=Ty.beq_eq a p h;subst e;rfl
theorem qZ: ∀{b:List Ty} {a:List DV} {s:DL b},AAb b a=some s->dvs b s=a
 |[],[],s,_=>rfl
 |[],_::_,s,h=>by cases h
 |[t],[],s,h=>by cases h
 |[t],[⟨t',x⟩],s,h=>by simp only[AAb]at h;split at h;rename_i c;injection h with h;subst h;simp only[dvs,ABQ];cases h
 |[t],_::_::_,s,h=>by simp[AAb]at h
 |t::u::r,[],s,h=>by cases h
 |t::u::r,⟨t',x⟩::a,s,h=>by simp only[AAb]at h;split at h;rename_i c;split at h;rename_i y d;injection h with h;subst h;simp only[dvs,ABQ,qZ d];cases h;cases h
inductive Part where
 |d (t:Ty)
 |o (id:Nat)
inductive WF where
 |t (tmp:Nat) (ty:Ty)
 |g (tmp id:Nat)
 |p (id:Nat) (ps:List Part)
 |u (id:Nat) (ty:Ty)
 |x (id:Nat)
 |k (tmp:Nat) (v:AY)
 |y (id:Nat) (s:LS)
 |m (id:Nat) (k:IntKind) (t:Ty)
def AHo:AY->AY->Bool
 | .ptr a b c,.ptr a' b' c'=>Nat.beq a a'&&(Nat.beq b b'&&Nat.beq c c')
 | .nilp,.nilp=>true
 | .nilf,.nilf=>true
 |_,_=>false
def AF4{w:AY}(h:AHo i w=true):i=w:=by unfold AHo at h;split at h<;>simp_all
def Lk:List WF->List Nat
 |[]=>[]
 | .p id _::r=>id::Lk r
 | .u id _::r=>id::Lk r
 | .x id::r=>id::Lk r
 | .y id _::r=>id::Lk r
 | .m id _ _::r=>id::Lk r
 |_::r=>Lk r
def un:List WF->List Nat
 |[]=>[]
 | .t tmp _::r=>tmp::un r
 | .g tmp _::r=>tmp::un r
 | .k tmp _::r=>tmp::un r
 |_::r=>un r
def AHi:List Part->List Ty
 |[]=>[]
 | .d t::r=>t::AHi r
 |_::r=>AHi r
def ik:List WF->List Ty
 |[]=>[]
 | .t _ t::r=>t::ik r
 | .p _ ps::r=>AHi ps++ik r
 | .u _ t::r=>.list t::ik r
 | .m _ k t::r=>.list (.prod (.cons (.int k) (.one t)))::ik r
 |_::r=>ik r
def xC(H:Aq)(id:Nat):Bs->Bool
 | .own id' ver _ _=>match Nat.beq id id' with
  |true=>match H[id]? with|some (.buf _ _ _ _ ver')=>Nat.beq ver ver'|_=>false
  |false=>false
 |_=>false
def rA(H:Aq)(rest:List Nat):List Part->List Bs->Option (List DV)
 |[],[]=>some []
 | .d t::ps,cs=>
  match t.mk cs with
  |some (x,cs')=>match rA H rest ps cs' with|some ds=>some (⟨t,x⟩::ds)|none=>none
  |none=>none
 | .o id::ps,c::cs=>
  match xC H id c&& !Oj id rest with
  |true=>rA H rest ps cs
  |false=>none
 |_,_=>none
def bE(env:Bc)(H:Aq):List WF->Option (List DV)
 |[]=>some []
 | .t tmp ty::r=>
  match ty.data (env.get tmp),bE env H r with
  |some x,some ds=>some (⟨ty,x⟩::ds)
  |_,_=>none
 | .g tmp id::r=>
  match env.get tmp with
  | .c x=>match xC H id x&& !Oj id (Lk r)with|true=>bE env H r|false=>none
  |_=>none
 | .p id ps::r=>
  match H[id]? with
  |some (.live _ cs)=>
   match rA H (id::Lk r) ps cs,bE env H r with
   |some a,some b=>some (a++b)
   |_,_=>none
  |_=>none
 | .u id ty::r=>
  match H[id]? with
  |some (.buf _ t l _ _)=>match t.beq ty,bE env H r with|true,some ds=>some (⟨.list t,l⟩::ds)|_,_=>none
  |_=>none
 | .x _::r=>bE env H r
 | .k tmp v::r=>
  match env.get tmp with
  | .c (.raw w)=>match AHo v w with|true=>bE env H r|false=>none
  |_=>none
 | .y id s::r=>
  match H[id]? with
  |some (.lp _ _ _ _ _ _ _ s')=>match s.beq s' with|true=>bE env H r|false=>none
  |_=>none
 | .m id k t::r=>
  match H[id]? with
  |some (.mp _ k' t' es)=>match decide (k'=k)&&t'.beq t,bE env H r with|true,some ds=>some (⟨.list (.prod (.cons (.int k') (.one t'))),es⟩::ds)|_,_=>none
  |_=>none
def uE(H:Aq):List Part->List DV->Option (List Bs×List DV)
 |[],ds=>some ([],ds)
 | .d _::ps,⟨t,x⟩::ds=>match uE H ps ds with|some (cs,r)=>some (t.lvs x++cs,r)|none=>none
 | .o id::ps,ds=>
  match H[id]? with
  |some (.buf _ t _ n ver)=>match uE H ps ds with|some (cs,r)=>some (.own id ver t n::cs,r)|none=>none
  |_=>none
 |_,_=>none
def XY:List WF->List DV->Bc->Aq->Option (Bc×Aq)
 |[],[],env,H=>some (env,H)
 | .t tmp _::r,⟨t,x⟩::ds,env,H=>XY r ds ((tmp,t.tv x)::env) H
 | .g tmp id::r,ds,env,H=>
  match H[id]? with
  |some (.buf _ t _ n ver)=>XY r ds ((tmp,.c (.own id ver t n))::env) H
  |_=>none
 | .p id ps::r,ds,env,H=>
  match H[id]? with
  |some (.live false _)=>match uE H ps ds with|some (cs,ds')=>XY r ds' env (H.set id (.live false cs))|none=>none
  |_=>none
 | .u id _::r,⟨.list t,l⟩::ds,env,H=>
  match H[id]? with
  |some (.buf false t' _ _ ver)=>match t'.beq t with|true=>XY r ds env (H.set id (.buf false t l l.length (ver+1)))|false=>none
  |_=>none
 | .x id::r,ds,env,H=>
  match H[id]? with
  |some e=>match e.ro||e.isLp with|false=>XY r ds env (H.set id .dead)|true=>none
  |none=>none
 | .k tmp v::r,ds,env,H=>XY r ds ((tmp,.c (.raw v))::env) H
 | .y id s::r,ds,env,H=>
  match H[id]? with
  |some (.lp false F n e ps a b _)=>XY r ds env (H.set id (.lp false F n e ps a b s))
  |_=>none
 | .m id _ _::r,⟨.list (.prod (.cons (.int k) (.one t))),es⟩::ds,env,H=>
  match H[id]? with
  |some (.mp false k' t' _)=>match decide (k'=k)&&t'.beq t with|true=>XY r ds env (H.set id (.mp false k t es))|false=>none
  |_=>none
 |_,_,_,_=>none
def AGy(e e':Dr):Prop:=e'= .dead\/(∃b cs b' cs',e= .live b cs/\e'= .live b' cs'/\DW (lvs cs) (lvs cs'))\/(∃b t l n v b' v',e= .buf b t l n v/\e'= .buf b' t l n v')\/(∃ro ro' F n env ps a b s,e= .lp ro F n env ps a b s/\e'= .lp ro' F n env ps a b s)\/(∃b b' k t es,e= .mp b k t es/\e'= .mp b' k t es)
def HR(H1 H:Aq)(rest:List Nat):Prop:= ∀(j:Nat) (e':Dr),Oj j rest=false->H[j]? =some e'-> ∃e,H1[j]? =some e/\AGy e e'
theorem Rp:Oj N (n::a)=false↔N≠n/\Oj N a=false:=by simp[Oj];by_cases h:N=n;simp_all;grind[beq_false]
theorem rC(j:E.ok b)(h:xC b N E=true): ∃H t l n a,E= .own N a t n/\b[N]? =some (.buf H t l n a):=by unfold xC at h;split at h;rename_i k a t n;split at h;rename_i i;have e:=DR i;subst e;split at h;rename_i H o l m d g;have f:=DR h;subst f;have⟨rfl,rfl⟩:=(j.2 _ _ _ _ _ g).2 rfl;grind;cases h;cases h;cases h
theorem YS{b:Bool}{l:List p.D}(h:B[N]? =some (.buf b p l n z)):WE B N z p n:=by refine⟨?_,λro g e f c d=>?_⟩;grind;grind
theorem nK{q H:Aq}{i:List Nat}(hr:HR q H i): ∀{p:List Part} {m:List Bs} {a b j:List DV} {f:List Bs},lok q m→rA q i p m=some a→uE H p (a++b)=some (f,j)→
  j=b/\DW (lvs m) (lvs f)/\lok H f
 |[],[],a,b,j,f,ok,h,k=>by grind[rA,Option.some.injEq,uE,Prod.mk.injEq,DW.refl,AFk]
 |[],_::_,a,b,j,f,ok,h,k=>by simp[rA]at h
 | .d t::p,m,a,b,j,f,ok,h,k=>by simp[rA]at h;split at h;rename_i x R z;split at h;rename_i S u;cases h;obtain⟨Q,rfl,M⟩:=t.mk_spec _ _ _ z;simp[cA,uE]at k;split at k;rename_i E r v;obtain⟨rfl,rfl⟩:=k;have⟨q1,q2,q3⟩:=nK hr (I7.1 ok).2 u v;refine⟨q1,?_,I7.2 ⟨t.lvs_ok x,q3⟩⟩;rw[Gg,Gg,t.lvs_enc];exact M.append q2;cases k;cases h;cases h
 | .o id::p,c::m,a,b,j,f,ok,h,k=>by
  simp[rA]at h;split at h
  ·rename_i s;simp[BO,P3]at s;obtain⟨O,t,l,n,N,rfl,L⟩:=rC (ok c k!) s.1;simp[uE]at k;split at k
   ·rename_i P t2 l2 Z D B;split at k
    ·rename_i E r v;obtain⟨rfl,rfl⟩:=k;have⟨q1,q2,q3⟩:=nK hr (λx z=>ok x (by simp[z])) h v;have⟨e,C,w⟩:=hr id _ s.2 B;rw[L]at C;cases C;rcases w with g|⟨_,_,_,_,g,_⟩|⟨_,_,_,_,_,_,_,g,K⟩|⟨_,_,_,_,_,_,_,_,_,g,_⟩|⟨_,_,_,_,_,g,_⟩;cases g;cases g;rotate_left;cases g;cases g;injection g with T F U G V;injection K with W I X J Y;subst F G I J;refine⟨q1,?_,λy A=>?_⟩;rw[HW,HW];exact(DW.refl _).append q2;rcases A8.1 A with rfl|A;exact YS B;exact q3 y A
    cases k
   cases k
  cases h
structure IS(env1:Bc)(H1:Aq)(slots:List WF)(env:Bc)(H:Aq)(env2:Bc)(H2:Aq):Prop where
 get: ∀t,Oj t (un slots)=false->env2.get t=env.get t
 ok:Qs env2 H2
 env: ∀p∈env2,∃v,(p.1,v)∈env1/\Xm v.enc p.2.enc
 hr:HR H1 H2 []
 step:CD H H2
 len:H2.length=H.length
 same: ∀j,Oj j (Lk slots)=false->H2[j]? =H[j]?
def lH{t:Nat}{v:TV}: ∀{env:Bc},env.get t=v->v≠Vp->(t,v)∈env
 |[],h,hv=>absurd h.symm hv
 |(k,u)::r,h,hv=>by simp only[Bc.get]at h;split at h;simp_all;exact CQ _ (lH h hv)
def heap_set(H:CD b (b.set N D))(ok: ∀x∈b,x.ok b)(a:D.ok (b.set N D)): ∀x∈b.set N D,x.ok (b.set N D):=by intro x c;rcases WJ c with h|rfl;exact H.ent (ok x h);exact a
theorem HR.set{a H:Aq}{id:Nat}{d:Dr}(h:HR a H (id::A))(g:a[id]? =some D)(hr:AGy D d):HR a (H.set id d) A:=by intro j x f c;rw[cD]at c;split at c;grind;rename_i b;exact h j x (Rp.2 ⟨λq=>b q.symm,f⟩) c
theorem LpS.set{H c:Aq}{id:Nat}{i:Dr}(h:LpS H c)(l:id<H.length)(p: ∀ro F n env f a b s,c[id]? =some (.lp ro F n env f a b s)-> ∃g o,i= .lp g F n env f a b o):LpS (H.set id i) c:=by intro j k ro F n env f a b s m;rw[fB]at k;by_cases d:j=id;grind;rw[Dw λe=>d e.symm];exact h j k _ _ _ _ _ _ _ _ m
variable {l:List WF}
theorem rL(id:Nat){H:Aq}(c:B[id]? =some D)(g:(D.ro||D.isLp)=false)(r:B.length≤b.length)(lp:LpS B b)
  (hr:HR b B (id::Lk l)) (ok:Qs L B) (q0:Qs L (B.set id .dead)->LpS (B.set id .dead) b->HR b (B.set id .dead) (Lk l)->IS f b l L (B.set id .dead) S H):IS f b (.x id::l) L B S H:=by
 have a:D.isLp=false:=q!
 have st:CD B (B.set id .dead):=CD.set c q! λ_ _ _ _ _ D=>by cases D
 have d:id<b.length:=q!
 have q:=q0 ⟨st.env ok.env,heap_set st ok.heap trivial⟩ (lp.set (Gx c) λ_ _ _ _ _ _ _ _ i=>by have⟨k,m,q⟩:=lp id (Gx c) _ _ _ _ _ _ _ _ i;rw[c]at q;injection q with q;rw[q]at a;cases a) (HR.set hr (A4 d) (.inl rfl));refine⟨q.get,q.ok,q.env,q.hr,st.trans q.step,by simpa using q.len,λj h=>?_⟩;have:=Rp.1 h;rw[q.same j this.2,Dw λD=>this.1 D.symm]
def Oi{env1:Bc}{G:Aq}(o:Qs env1 G): ∀{slots:List WF} {B:List DV} {env:Bc} {H:Aq} {env2:Bc} {D:Aq},bE env1 G slots=some B→XY slots B env H=some (env2,D)→Qs env H→
  H.length<=G.length->(∀p∈env,∃v,(p.1,v)∈env1/\Xm v.enc p.2.enc)->HR G H (Lk slots)->LpS H G->IS env1 G slots env H env2 D
 |[],B,env,H,env2,D,h,k,ok,hl,he,hr,lp=>by simp only[bE,Al]at h;subst h;simp only[XY,Al,EK]at k;obtain⟨rfl,rfl⟩:=k;exact⟨λ_ _=>rfl,ok,he,hr,CD.refl _,rfl,λ_ _=>rfl⟩
 | .t tmp ty::r,B,env,H,env2,D,h,k,ok,hl,he,hr,lp=>by
  simp[bE]at h;split at h;rename_i x d L T;cases h;simp[XY]at k;have f:Qs ((tmp,ty.tv x)::env) H:=⟨λp z=>by rcases A8.1 z with rfl|z;exact ty.tv_ok x;exact ok.env p z,ok.heap⟩
  have q:=Oi o T k f hl (λp z=>by rcases A8.1 z with rfl|z;refine⟨env1.get tmp,lH rfl λe=>?_,?_⟩;rw[e]at L;cases ty<;>cases L;simp[ty.tv_enc];exact MN L;exact he p z) hr lp;refine⟨λt J=>?_,q.ok,q.env,q.hr,q.step,q.len,q.same⟩;have:=Rp.1 J;rw[q.get t this.2];simp[Bc.get,beq_false λe=>this.1 e.symm];cases h
 | .g tmp id::r,B,env,H,env2,D,h,k,ok,hl,he,hr,lp=>by
  simp[bE]at h;split at h
  ·rename_i x L;split at h
   ·rename_i I;simp[BO,P3]at I;have Z:x.ok G:=qO o.env tmp x (by rw[L];simp[TV.refs]);obtain⟨b1,t,l,n,ad,rfl,C⟩:=rC Z I.1;simp[XY]at k;split at k
    ·rename_i b2 R l2 n2 V h2;have⟨e,U,Y⟩:=hr id _ I.2 h2;rw[C]at U;cases U;rcases Y with i|⟨_,_,_,_,i,_⟩|⟨_,_,_,_,_,_,_,i,h1⟩|⟨_,_,_,_,_,_,_,_,_,i,_⟩|⟨_,_,_,_,_,i,_⟩;cases i;cases i;rotate_left;cases i;cases i;injection i with e1 e2 e3 e4 e5;injection h1 with f1 f2 f3 f4 f5;subst e2 e4 f2 f4;have f:Qs ((tmp,.c (.own id V R n2))::env) H:=⟨λp z=>by rcases A8.1 z with rfl|z;exact J2 (YS h2);exact ok.env p z,ok.heap⟩
     have q:=Oi o h k f hl (λp z=>by rcases A8.1 z with rfl|z;exact⟨_,lH L (λe=>by cases e),Xm.refl _⟩;exact he p z) hr lp;refine⟨λt J=>?_,q.ok,q.env,q.hr,q.step,q.len,q.same⟩;have:=Rp.1 J;rw[q.get t this.2];simp[Bc.get,beq_false λe=>this.1 e.symm]
    cases k
   cases h
  cases h
 | .p id Q::r,B,env,H,env2,D,h,k,ok,hl,he,hr,lp=>by
  simp[bE]at h;split at h;rename_i b cs C;split at h;rename_i a b1 ha I;cases h;simp[XY]at k;split at k;rename_i ag i;split at k;rename_i M S hi;have X:lok G cs:=by simpa only[Dr.ok]using o.heap _ (BU C)
  have⟨rfl,q2,q3⟩:=nK hr X ha hi;have st:CD H (H.set id (.live false M)):=CD.set i rfl λ_ _ _ _ _ e=>by cases e
  have A:HR G (H.set id (.live false M)) (Lk r):=HR.set hr C (.inr (.inl ⟨_,_,_,_,rfl,rfl,q2⟩));have f:Qs env (H.set id (.live false M)):=⟨st.env ok.env,heap_set st ok.heap (by simpa only[Dr.ok]using st.lok q3)⟩
  have q:=Oi o I k f (by simpa using hl) he A (lp.set (Gx i) λ_ _ _ _ _ _ _ _ E=>by rw[C]at E;cases E);refine⟨q.get,q.ok,q.env,q.hr,st.trans q.step,by simpa using q.len,λj N=>?_⟩;have:=Rp.1 N;rw[q.same j this.2,Dw λe=>this.1 e.symm];cases k;cases k;cases h;cases h
 | .u id ty::r,B,env,H,env2,D,h,k,ok,hl,he,hr,lp=>by
  simp[bE]at h;split at h;rename_i b t l n ad C;split at h;rename_i S I T;cases h;simp[XY]at k;split at k;rename_i t' l0 n0 K i;split at k;rename_i J;have e:=Ty.beq_eq _ _ J;subst e;have hn:n=l.length:=by simpa only[Dr.ok]using o.heap _ (BU C)
  have st:CD H (H.set id (.buf false t' l l.length (K+1))):=CD.set i rfl λro R l2 n2 v2 e=>by cases e;exact⟨_,_,_,_,rfl,.inl o!⟩
  have A:HR G (H.set id (.buf false t' l l.length (K+1))) (Lk r):=HR.set hr C (.inr (.inr (.inl ⟨_,_,_,_,_,_,_,rfl,by rw[hn]⟩)));have f:Qs env (H.set id (.buf false t' l l.length (K+1))):=⟨st.env ok.env,heap_set st ok.heap rfl⟩
  have q:=Oi o T k f (by simpa using hl) he A (lp.set (Gx i) λ_ _ _ _ _ _ _ _ E=>by rw[C]at E;cases E);refine⟨q.get,q.ok,q.env,q.hr,st.trans q.step,by simpa using q.len,λj N=>?_⟩;have:=Rp.1 N;rw[q.same j this.2,Dw λe=>this.1 e.symm];cases k;cases k;cases h;cases h
 | .x id::r,B,env,H,env2,D,h,k,ok,hl,he,hr,lp=>by
  simp[bE]at h;cases B with
  |nil=>simp[XY]at k;split at k;rename_i e i;split at k;rename_i O;exact rL id i O hl lp hr ok λf P A=>Oi o h k f (by simpa using hl) he A P;cases k;cases k
  |cons d B=>simp[XY]at k;split at k;rename_i e i;split at k;rename_i O;exact rL id i O hl lp hr ok λf P A=>Oi o h k f (by simpa using hl) he A P;cases k;cases k
 | .k tmp w::r,B,env,H,env2,D,h,k,ok,hl,he,hr,lp=>by
  have k':XY r B ((tmp,.c (.raw w))::env) H=some (env2,D):=by cases B<;>simpa only[XY]using k
  simp[bE]at h;split at h;rename_i w' L;split at h;rename_i I;have e:=AF4 I;subst e;have f:Qs ((tmp,.c (.raw w))::env) H:=⟨λp z=>by rcases A8.1 z with rfl|z;exact J2 trivial;exact ok.env p z,ok.heap⟩
  have hw:w≠ .any:=by rintro rfl;cases I
  have q:=Oi o h k' f hl (λp z=>by rcases A8.1 z with rfl|z;refine⟨_,lH L (λe=>?_),Xm.refl _⟩;injection e with e;injection e with e;exact hw e;exact he p z) hr lp;refine⟨λt J=>?_,q.ok,q.env,q.hr,q.step,q.len,q.same⟩;have:=Rp.1 J;rw[q.get t this.2];simp[Bc.get,beq_false λe=>this.1 e.symm];cases h;cases h
 | .y id s::r,B,env,H,env2,D,h,k,ok,hl,he,hr,lp=>by
  simp[bE]at h;split at h;rename_i ao F1 n1 e1 p1 a1 b1 s1 C;split at h;rename_i I;have e0:=LS.beq_eq I;subst e0;obtain⟨F,n,e,Q,a,b,s0,i,k'⟩: ∃F n e Q a b s0,H[id]? =some (.lp false F n e Q a b s0)/\XY r B env (H.set id (.lp false F n e Q a b s))=some (env2,D):=by cases B<;>simp[XY]at k<;>split at k<;>first|exact⟨_,_,_,_,_,_,_,‹_›,k⟩|cases k
  have⟨ap,s2,q⟩:=lp id (Gx i) _ _ _ _ _ _ _ _ C;rw[i]at q;injection q with q;injection q with _ q2 q3 q4 q5 q6 q7 _;subst q2 q3 q4 q5 q6 q7;have st:CD H (H.set id (.lp false F n e Q a b s)):=CD.set i rfl (λ_ _ _ _ _ e=>by cases e) λ_ _ _ _ _ _ _ _ e=>by cases e;exact⟨_,_,rfl⟩
  have A:HR G (H.set id (.lp false F n e Q a b s)) (Lk r):=HR.set hr C (.inr (.inr (.inr (.inl ⟨_,_,_,_,_,_,_,_,_,rfl,rfl⟩))));have f:Qs env (H.set id (.lp false F n e Q a b s)):=⟨st.env ok.env,heap_set st ok.heap (by have:=ok.heap _ (BU i);simpa only[Dr.ok]using this)⟩
  have q:=Oi o h k' f (by simpa using hl) he A (lp.set (Gx i) λ_ _ _ _ _ _ _ _ E=>by rw[C]at E;injection E with E;cases E;exact⟨_,_,rfl⟩);refine⟨q.get,q.ok,q.env,q.hr,st.trans q.step,by simpa using q.len,λj N=>?_⟩;have:=Rp.1 N;rw[q.same j this.2,Dw λe=>this.1 e.symm];cases h;cases h
 | .m id kk ty::r,B,env,H,env2,D,h,k,ok,hl,he,hr,lp=>by
  simp[bE]at h;split at h;rename_i b k1 t1 W C;split at h;rename_i S I T;cases h;simp[XY]at k;split at k;rename_i k2 R al i;split at k;rename_i J;simp[BO,decide_eq_true_eq]at J;have⟨rfl,J⟩:=J;have e:=Ty.beq_eq _ _ J;subst e;have st:CD H (H.set id (.mp false k2 R W)):=CD.set i rfl λ_ _ _ _ _ e=>by cases e
  have A:HR G (H.set id (.mp false k2 R W)) (Lk r):=HR.set hr C (.inr (.inr (.inr (.inr ⟨_,_,_,_,_,rfl,rfl⟩))));have f:Qs env (H.set id (.mp false k2 R W)):=⟨st.env ok.env,heap_set st ok.heap trivial⟩
  have q:=Oi o T k f (by simpa using hl) he A (lp.set (Gx i) λ_ _ _ _ _ _ _ _ E=>by rw[C]at E;cases E);refine⟨q.get,q.ok,q.env,q.hr,st.trans q.step,by simpa using q.len,λj N=>?_⟩;have:=Rp.1 N;rw[q.same j this.2,Dw λe=>this.1 e.symm];cases k;cases k;cases h;cases h
def bD(n:Nat):List Bs->Bool
 |[]=>true
 | .own id _ _ _::r=>Nat.blt id n&&bD n r
 | .raw v::r=>v.idsAll (λid=>Nat.blt id n)&&bD n r
 |_::r=>bD n r
mutual
def vd(n:Nat):TV->Bool
 | .c x=>bD n [x]
 | .g cs=>bD n cs
 | .aptr id .. =>Nat.blt id n
 | .bptr id .. =>Nat.blt id n
 | .vptr cs post=>bD n cs&&AY.idsAllL (λid=>Nat.blt id n) post
 | .tup vs=>wy n vs
def wy(n:Nat):List TV->Bool
 |[]=>true
 |v::r=>vd n v&&wy n r
end
def vA(n:Nat):Bc->Bool
 |[]=>true
 |(_,v)::r=>vd n v&&vA n r
def mN(n:Nat):Aq->Bool
 |[]=>true
 | .live _ cs::r=>bD n cs&&mN n r
 | .lp _ _ _ env _ _ _ _::r=>vA n env&&mN n r
 |_::r=>mN n r
def nq(h:Nat.blt N n=true):decide (N<n)=true:=t!
def lC(h:Pure i)(n:Nat):(i.idsAll λid=>decide (id<n))=true:=RU (λ_ h=>by cases h) i h
def zA: ∀{x:Bs},bD n [x]=true->(∀v∈x.enc,(v.idsAll λid=>decide (id<n))=true)/\(x.one.idsAll λid=>decide (id<n))=true
 | .bl _,_=>⟨λv b=>by simp only[Bs.enc,BI]at b;subst b;rfl,rfl⟩
 | .it _ _,_=>⟨λv b=>by simp only[Bs.enc,BI]at b;subst b;rfl,rfl⟩
 | .st _,_=>⟨λv b=>by simp only[Bs.enc,BI]at b;subst b;rfl,rfl⟩
 | .ls t l,_=>⟨λv b=>by simp only[Bs.enc,BI]at b;subst b;exact lC ((Ty.list t).enc_pure l) n,lC ((Ty.list t).enc_pure l) n⟩
 | .ar m t a,_=>by have h:=lC ((Ty.arr m t).enc_pure a) n;refine⟨λv b=>?_,h⟩;exact((Dd _ _).1 h) v b
 | .own id ver t m,h=>by simp only[bD,P1]at h;have:=nq h;exact⟨λv b=>by simp only[Bs.enc,BI]at b;subst b;exact this,this⟩
 | .nil,_=>⟨λv b=>by simp only[Bs.enc,BI]at b;subst b;rfl,rfl⟩
 | .raw v,h=>by simp only[bD,P1]at h;have:=RU (λ_ h=>nq h) v h;exact⟨λu c=>by simp only[Bs.enc,BI]at c;subst c;exact this,this⟩
def vc{r:List Bs}(h:bD n (E::r)=true):bD n [E]=true/\bD n r=true:=by cases E<;>simp only[bD,P1,BO]at h⊢ <;>first|exact h|exact⟨trivial,h⟩
def lh{n:Nat}: ∀{b:List Bs},bD n b=true->AY.idsAllL (λid=>decide (id<n)) (lvs b)=true
 |[],_=>rfl
 |x::r,h=>by obtain⟨c,d⟩:=vc h;rw[HW,Dd];intro v a;rcases A1.1 a with a|a;exact(zA c).1 v a;exact((Dd _ _).1 (lh d)) v a
mutual
theorem gb{n:Nat}: ∀{v:TV},vd n v=true->(v.enc.idsAll λid=>decide (id<n))=true
 | .c x,h=>(zA h).2
 | .g cs,h=>lh h
 | .aptr ..,h=>nq h
 | .bptr ..,h=>nq h
 | .vptr cs post,h=>by simp only[vd,BO]at h;simp only[TV.enc,AY.idsAll];rw[Dd];intro v a;rcases A1.1 a with a|a;exact((Dd _ _).1 (lh h.1)) v a;exact((Dd _ _).1 (JK (λ_ h=>nq h) post h.2)) v a
 | .tup vs,h=>by simp only[vd]at h;simp only[TV.enc,AY.idsAll];exact qz h
theorem qz{n:Nat}: ∀{a:List TV},wy n a=true->AY.idsAllL (λid=>decide (id<n)) (TV.encL a)=true
 |[],_=>rfl
 |v::r,h=>by simp only[wy,BO]at h;simp only[TV.encL,AY.idsAllL,BO];exact⟨gb h.1,qz h.2⟩
end
def lf{n:Nat}: ∀{env:Bc},vA n env=true-> ∀p∈env,vd n p.2=true
 |[],_,p,a=>by cases a
 |(t,v)::r,h,p,a=>by simp only[vA,BO]at h;rcases A8.1 a with rfl|a;exact h.1;exact lf h.2 p a
def lg{n:Nat}: ∀{H:Aq},mN n H=true-> ∀e∈BH H,(e.idsAll λid=>decide (id<n))=true
 |x::r,h,e,c=>by
  have g:mN n r=true:=by cases x<;>simp only[mN,BO]at h<;>first|exact h|exact h.2
  simp only[BH,Bt,A8]at c;rcases c with rfl|c;cases x with
  |dead=>rfl
  |live b o=>simp only[mN,BO]at h;exact lh h.1
  |buf b t l m k=>simp only[Dr.enc,FU.idsAll];rw[Dd];intro v d;obtain⟨u,j,d⟩:=Hh.1 d;obtain⟨y,_,rfl⟩:=Bl.1 j;have h:=lC (t.E.pure y) n;cases q:t.E.f y<;>simp_all[AY.idsAll,Dd,AY.cells]
  |mp=>rfl
  |lp ro F m env w a b s=>simp only[mN,BO]at h;simp only[Dr.enc,FU.idsAll,B9,List.all_map,Fq];exact λp i=>gb (lf h.1 p i)
  exact lg g e c
def Fv.cut{N n0:Nat}{env:Env}{H:Az}(hn:n0≤H.length)(d: ∀t v,(t,v)∈env→(v.idsAll λid=>decide (id<n0))=true)
  (c: ∀e∈H.take n0,(e.idsAll λid=>decide (id<n0))=true):Fv N n0 env H env (H.take n0):=
 ⟨w!,λX g a w s=>⟨g,⟨s.sim.trunc hn c,λt v m=>⟨(s.env t v m).1,(s.env t v m).2.trunc hn (d t v m)⟩,s.size⟩,λ_ _=>⟨rfl,rfl,rfl⟩,λB b=>iX b⟩⟩
theorem vf{e:FU}(h:(BH b)[N]? =some e): ∃x,b[N]? =some x/\e=x.enc:=by grind[BH]
theorem HR.rel(A:B.length<=b.length)(hr:HR b B [])(x:Cx):Ul x x (BH b) (BH B++(BH b).drop B.length):=by
 refine⟨by simp[BH];omega,λj w z=>?_⟩;have same: ∀{y:Dr},b[j]? =some y->w=y.enc->w= .dead\/(∃g p c,(BH b)[j]? =some (.live g p)/\w= .live g c/\c.length=p.length/\ ∀(i:Nat) (f:AY),c[i]? =some f-> ∃v,p[i]? =some v/\Conv x x v f)\/((BH b)[j]? =some w/\ ∀g p,w≠ .live g p):=by
  intro y D q;have d:(BH b)[j]? =some y.enc:=by grind[BH]
  subst q;cases y with
  |dead=>exact .inl rfl
  |live o p=>exact .inr (.inl ⟨_,_,_,d,rfl,rfl,λi f h=>⟨f,h,λ_ r=>r⟩⟩)
  |buf o t l m H=>exact .inr (.inl ⟨_,_,_,d,rfl,rfl,λi f h=>⟨f,h,λ_ r=>r⟩⟩)
  |lp=>exact .inr (.inr ⟨d,λ_ _ h=>by cases h⟩)
  |mp=>exact .inr (.inr ⟨d,λ_ _ h=>by cases h⟩)
 rcases Au j B.length with h|h;rw[CL (by rw[CR];exact h)]at z;obtain⟨y,D,rfl⟩:=vf z;obtain⟨e,q,u⟩:=hr j y rfl D;rcases u with rfl|⟨o,p,C,c,rfl,rfl,A⟩|⟨o,t,l,m,v,C,f,rfl,rfl⟩|⟨ro,G,F,n,env,J,a,o,s,rfl,rfl⟩|⟨o,C,k,t,I,rfl,rfl⟩;exact .inl rfl;refine .inr (.inl ⟨0,lvs p,lvs c,by simp only[BH,CE,q,Bn,Dr.enc],rfl,A.1,λi f E=>?_⟩);obtain⟨v,q1,q2⟩:=A.2 i f E;exact⟨v,q1,q2 x⟩;exact same q rfl;exact same q rfl;exact same q rfl;rw[Cb (by rw[CR];exact h),Ja]at z;rw[CR]at z;grind[vf]
def IS.weak{N:Nat}{b:Aq}{H:Aq}(s:IS f b l L H S B)(k:H.length≤b.length)(n:vA H.length S=true)(o:mN H.length B=true):
  Fv N H.length (B9 f) (BH b) (B9 S) (BH B):=by
 have g:B.length<=b.length:=by rw[s.len];exact k
 have x:Fv N (BH b).length (B9 f) (BH b) (B9 S) (BH B++(BH b).drop B.length):=by refine Wf (by simp[BH];omega) λX h w _=>?_;have q:=(HR.rel g s.hr (cx X h (BH b) w)).onto;refine⟨q,λt z m=>?_⟩;obtain⟨p,j,e⟩:=Bl.1 m;injection e with d A;subst d A;obtain⟨v,u,i⟩:=s.env p j;exact⟨v.enc,Bl.2 ⟨_,u,rfl⟩,λc r=>(i _ c r).later q.later⟩
 have a:(BH B++(BH b).drop B.length).take H.length=BH B:=by rw[<-s.len,<-CR B,EW];rfl
 have y:Fv N H.length (B9 S) (BH B++(BH b).drop B.length) (B9 S) (BH B):=by have:=Fv.cut (N:=N) (n0:=H.length) (env:=B9 S) (H:=BH B++(BH b).drop B.length) (by simp[BH,s.len]) (λt v m=>by obtain⟨p,j,e⟩:=Bl.1 m;injection e with d A;subst d A;exact gb (lf n p j)) (by rw[a];exact lg o);rwa [a]at this
 exact(x.of_le (by rw[CR];exact k)).trans y
def yk:Exit->Exit->Bool
 | .normal,.normal=>true
 | .exit a,.exit b=>Nat.beq a b
 | .ret,.ret=>true
 |_,_=>false
def tV{b:Exit}(h:yk x b=true):x=b:=by cases x<;>cases b<;>simp only[yk]at h<;>first|rfl|cases h|exact congrArg _ (DR h)
structure Hint where
 kind:Nat
 key:Nat
 virt:List (Nat×Ty)
 virtC:List (Nat×Nat×Ty)
 kill:List Nat
 drop:List Nat
 slots:List WF
 exits:List (Exit×List WF)
def Hint.tmps(h:Hint):List Nat:=h.drop++h.virt.map (·.1)++un h.slots++h.exits.flatMap λp=>un p.2
def oS(kind key:Nat):List Hint->Option Hint
 |[]=>none
 |h::r=>match Nat.beq kind h.kind&&Nat.beq key h.key with|true=>some h|false=>oS kind key r
def yp:Code->Option Nat
 | .region id _ _=>some id
 | .seq a b=>match yp a with|some x=>some x|none=>yp b
 | .cond _ a b=>match yp a with|some x=>some x|none=>yp b
 | .block _ b=>yp b
 | .loop b=>yp b
 |_=>none
def tz:Code->Bool
 | .seq a _=>tz a
 | .block _ b=>tz b
 | .loop _=>true
 |_=>false
def AIL(b:Code)(r:Nat)(hs:List Hint):Option Hint:=
 match tz b with
 |true=>(match oS 5 r hs with|some h=>some h|none=>oS 0 r hs)
 |false=>oS 0 r hs
def hintOf(hs:List Hint):Code->Option Hint
 | .loop b=>match yp b with|some r=>AIL b r hs|none=>none
 | .block id _=>oS 1 id hs
 | .cond _ a b=>match yp (.seq a b)with|some r=>oS 2 r hs|none=>none
 | .region id _ _=>oS 6 id hs
 |_=>none
def rJ(hs:List Hint)(c:Code):List Nat:=
 match hintOf hs c with
 |some h=>h.tmps
 |none=>[]
def sR(hs:List Hint):Code->Code->Option Hint
 | .region id _ _,.cond _ _ _=>oS 4 id hs
 |_,_=>none
def uo(hs:List Hint)(a b:Code):List Nat:=
 match sR hs a b with
 |some h=>h.tmps
 |none=>[]
def Re(hs:List Hint):Code->List Nat
 | .region id ops d=>oO ops.toList++rJ hs (.region id ops d)
 | .seq a b=>(Re hs a++Re hs b)++uo hs a b
 | .cond c a b=>Re hs a++Re hs b++rJ hs (.cond c a b)
 | .block id b=>Re hs b++rJ hs (.block id b)
 | .loop b=>Re hs b++rJ hs (.loop b)
 |_=>[]
def yK:TV->Bool
 | .c (.raw .any)=>true
 |_=>false
def ADK(h:yK w=false):w≠Vp:=by rintro rfl;cases h
def xL(H:Aq)(id:Nat):Bool:=match H[id]? with|some (.buf false _ _ _ _)=>true|_=>false
def jC(A S:List Nat)(H:Aq)(t:Nat)(v:TV):Bool:=
 match Oj t A with
 |true=>false
 |false=>match yK v with
  |true=>false
  |false=>(K6 v.refs).all λid=>!(Oj id S&&xL H id)
def Q3(A S:List Nat)(H:Aq):Bc->Bc
 |[]=>[]
 |(t,v)::r=>match jC A S H t v with|true=>(t,v)::Q3 A S H r|false=>Q3 A S H r
def M1(S:List Nat):Nat->Aq->Aq
 |_,[]=>[]
 |j,e::r=>(match Oj j S with|true=>e|false=>e.lock)::M1 S (j+1) r
def qa:Bc->Bool
 |[]=>true
 |(t,_)::r=>!Oj t (r.map (·.1))&&qa r
theorem Wb(h:N∉a):Oj N a=false:=by
 cases j:Oj N a with
 |false=>rfl
 |true=>induction a<;>grind[Oj,Nat.eq_of_beq_eq_true]
def aF: ∀{env:Bc},qa env=true->(env.map (·.1)).Nodup
 |[],_=>Qx
 |(t,v)::r,h=>by simp only[qa,BO,P3]at h;exact Gc.2 ⟨Uh h.1,aF h.2⟩
theorem lW{A S:List Nat}{H:Aq}: ∀{env:Bc},(env.map (·.1)).Nodup-> ∀t,jC A S H t (env.get t)=true->(Q3 A S H env).get t=env.get t
 |[],_,t,_=>rfl
 |(u,v)::r,nd,t,h=>by have a:=Gc.1 nd;simp only[Bc.get]at h⊢;by_cases b:u=t;grind[Nat.beq_refl,Q3,Bc.get];rw[beq_false b]at h⊢;have c:=lW a.2 t h;grind[Q3,Bc.get,beq_false]
theorem Rf{A S:List Nat}{H:Aq}: ∀{env:Bc},(env.map (·.1)).Nodup-> ∀p∈Q3 A S H env,env.get p.1=p.2/\jC A S H p.1 p.2=true/\p∈env
 |(u,v)::r,nd,p,h=>by
  have a:=Gc.1 nd;have tail:p∈Q3 A S H r->Bc.get ((u,v)::r) p.1=p.2/\jC A S H p.1 p.2=true/\p∈(u,v)::r:=λh=>by obtain⟨q1,q2,q3⟩:=Rf a.2 p h;grind[Bc.get,beq_false]
  grind[Q3,Bc.get,Nat.beq_refl]
theorem Kk{S:List Nat}: ∀(H:Aq) (i j:Nat),(M1 S i H)[j]? =(H[j]?).map λe=>match Oj (i+j) S with|true=>e|false=>e.lock
 |[],i,j=>by simp[M1]
 |e::r,i,0=>by simp[M1]
 |e::r,i,j+1=>by simp only[M1,vW];rw[Kk r (i+1) j];grind
def Kl{S:List Nat}: ∀(H:Aq) (i:Nat),(M1 S i H).length=H.length
 |[],_=>rfl
 |e::r,i=>by simp[M1,Kl r]
theorem vy{S:List Nat}: ∀(H:Aq) (i:Nat),BH (M1 S i H)=BH H
 |[],_=>rfl
 |e::r,i=>by have:=vy (S:=S) r (i+1);grind[BH,M1,uN]
theorem uO(h:WE b N n p z):WE (M1 a 0 b) N n p z:=by
 refine⟨by rw[Kl];exact h.1,λro r l c f S=>?_⟩;rw[Kk]at S;cases d:b[N]? with
 |none=>grind
 |some e=>
  rw[d]at S;simp at S;split at S;subst S;exact h.2 _ _ _ _ _ d;cases e with
  |dead=>cases S
  |live H k=>cases S
  |lp=>cases S
  |mp=>cases S
  |buf H s o q u=>injection S with _ g m i j;subst g i j;exact h.2 _ _ _ _ _ d
def vz(h:E.ok b):E.ok (M1 a 0 b):=by
 cases E with
 |own id S t n=>exact uO h
 |_=>trivial
theorem oz(ok:Qs f b):Qs f (M1 a 0 b):=by
 refine⟨λp o x g=>vz (ok.env p o x g),λe m=>?_⟩;obtain⟨j,q⟩:=Iz.1 m;rw[Kk]at q;cases i:b[j]? with
 |none=>grind
 |some c=>
  rw[i]at q;simp at q;have d:=ok.heap c (BU i);have H:c.ok (M1 a 0 b):=by
   cases c with
   |dead=>trivial
   |live S k=>exact λx g=>vz (d x g)
   |buf S t l n h=>exact d
   |lp=>exact d
   |mp=>exact d
  split at q;grind;subst q;cases c with
  |dead=>trivial
  |live S k=>exact H
  |buf S t l n h=>exact H
  |lp=>exact H
  |mp=>exact H
theorem AFj(H:Aq):LpS (M1 a 0 H) H:=by intro id c ro F n env d S b s h;rw[Kk,h];split;grind;exact⟨_,_,rfl⟩
theorem ADz(H:Aq):LpS H (M1 a 0 H):=by
 intro id d ro F n env f S b s h;rw[Kk]at h;cases c:H[id]? with
 |none=>grind
 |some e=>
  rw[c]at h;simp at h;split at h;grind;cases e with
  |lp=>injection h with _ q2 q3 q4 q5 q6 q7 _;grind
  |_=>cases h
def nT{id a n:Nat}{t:Ty}: ∀{b:List Bs},Bs.own id a t n∈b->id∈K6 b
 |x::r,h=>by rcases A8.1 h with rfl|h;exact Iy;have:=nT h;cases x<;>simp only[K6]<;>first|exact this|exact CQ _ this
def y9(h:jC A a b N w=true)(m:w.ok b)(st:CD (M1 a 0 b) B):ov B w:=by
 intro id o r n g;unfold jC at h;split at h;cases h;split at h;cases h;have H:=Fq.1 h id (nT g);have d:id<b.length:=(m _ g).1;refine st.nb id (by rw[Kl];exact d) λq l p i S=>?_;rw[Kk,D7]at S;cases c:b[id]? with
 |none=>rw[c]at S;cases S
 |some e=>rw[c]at S;simp only[Bn,Al]at S;split at S;rename_i k;subst S;simp only[k,xL,c]at H;cases H;cases e<;>simp only[Dr.lock]at S<;>first|cases S|(injection S with j;cases j)
theorem ADx(g:Oj N A=false)(i:yK w=false)(j:ov b w):jC A a b N w=true:=by
 unfold jC;rw[g,i];refine Fq.2 λid e=>?_;have: ∃d f n,Bs.own id d f n∈w.refs:=by
  generalize w.refs=cs at e;induction cs with
  |nil=>cases e
  |cons x r m=>
   cases x with
   |own l d f n=>grind[K6]
   |_=>obtain⟨S,H,c,h⟩:=m e;grind
 obtain⟨d,f,n,k⟩:=this;have:=j id d f n k;grind[xL]
def AHU:List Part->List Nat
 |[]=>[]
 | .o id::r=>id::AHU r
 |_::r=>AHU r
def mm(env:Bc)(H:Aq):List WF->List Nat
 |[]=>[]
 | .t tmp _::r=>K6 (env.get tmp).refs++mm env H r
 | .p id ps::r=>(match H[id]? with|some (.live _ cs)=>(K6 cs).filter λi=>!Oj i (AHU ps)|_=>[])++mm env H r
 |_::r=>mm env H r
def yV(sl:List WF)(env:Bc)(H:Aq):Option (DL (ik sl)):=
 match II (mm env H sl) env H with
 |(e,h)=>match bE e h sl with|some ds=>AAb (ik sl) ds|none=>none
def xW:List (Exit×List WF)->Type
 |[]=>Unit
 |[p]=>DL (ik p.2)
 |p::q::r=>DL (ik p.2)⊕ xW (q::r)
def AAf:(xs:List (Exit×List WF))->Exit->Bc->Aq->Option (xW xs)
 |[],_,_,_=>none
 |[p],x,env,H=>match yk p.1 x with|true=>yV p.2 env H|false=>none
 |p::q::r,x,env,H=>
  match yk p.1 x with
  |true=>(match yV p.2 env H with|some s=>some (.inl s)|none=>none)
  |false=>(match AAf (q::r) x env H with|some s=>some (.inr s)|none=>none)
def AHb{R:Type}:(xs:List (Exit×List WF))->xW xs->(Exit->List WF->List DV->Option R)->Option R
 |[],_,_=>none
 |[p],s,k=>k p.1 p.2 (dvs (ik p.2) s)
 |p::q::r,o,k=>Sum.elim (λs=>k p.1 p.2 (dvs (ik p.2) s)) (λs=>AHb (q::r) s k) o
def xX:(xs:List (Exit×List WF))->xW xs->Exit×List WF×List DV
 |[],_=>(.normal,[],[])
 |[p],s=>(p.1,p.2,dvs (ik p.2) s)
 |p::q::r,.inl s=>(p.1,p.2,dvs (ik p.2) s)
 |p::q::r,.inr s=>xX (q::r) s
def wI{R:Type}: ∀{xs:List (Exit×List WF)} {o:xW xs} {k:Exit->List WF->List DV->Option R} {r:R},AHb xs o k=some r->k (xX xs o).1 (xX xs o).2.1 (xX xs o).2.2=some r
 |[],_,_,_,h=>by cases h
 |[p],s,k,r,h=>h
 |p::q::t,.inl s,k,r,h=>h
 |p::q::t,.inr s,k,r,h=>wI (xs:=q::t) h
def AEy(sl:List WF)(ds:List DV)(env:Bc)(H:Aq):Prop:=bE (II (mm env H sl) env H).1 (II (mm env H sl) env H).2 sl=some ds
theorem nJ{s:DL (ik l)}(h:yV l f b=some s):AEy l (dvs (ik l) s) f b:=by grind[yV,AEy,qZ]
def wJ: ∀{xs:List (Exit×List WF)} {x:Exit} {env:Bc} {H:Aq} {o:xW xs},AAf xs x env H=some o→
  (xX xs o).1=x/\AEy (xX xs o).2.1 (xX xs o).2.2 env H/\ ∃p∈xs,(xX xs o).2.1=p.2
 |[p],x,env,H,o,h=>by simp only[AAf]at h;split at h;rename_i a;exact⟨tV a,nJ h,p,k!,rfl⟩;cases h
 |p::q::r,x,env,H,o,h=>by simp only[AAf]at h;split at h;rename_i a;split at h;rename_i s b;injection h with h;subst h;exact⟨tV a,nJ b,p,k!,rfl⟩;cases h;split at h;rename_i s b;injection h with h;subst h;obtain⟨q1,q2,c,q3,q4⟩:=wJ (xs:=q::r) b;exact⟨q1,q2,c,CQ _ q3,q4⟩;cases h
structure zn(A S:List Nat)(env0:Bc)(H0:Aq)(e2:Bc)(h2:Aq):Prop where
 ok:Qs e2 h2
 step:CD (M1 S 0 H0) h2
 len:h2.length=H0.length
 same: ∀j,Oj j S=false->h2[j]? =(M1 S 0 H0)[j]?
 get: ∀p∈Q3 A S H0 env0,e2.get p.1=p.2
theorem ABH{A B S:List Nat}{env0:Bc}{a:Aq}{L:Bc}{s:Aq}(m:Qs env0 a)(nd:(env0.map (·.1)).Nodup)(g:zn A S env0 a L s)
  {env1:Bc} {d:Aq} (G:Qs env1 d) (st:E5 B L s env1 d) (U: ∀t,t∈B->t∈A) {o:List WF} {K:List DV} (W:AEy o K env1 d)
  {Hx:Aq} (J: ∀e∈Hx,e.ok Hx) (y:Hx.length=a.length) (F:LpS Hx (M1 S 0 a)) (rx: ∀id c t n,WE a id c t n->WE Hx id c t n) (E: ∀(j:Nat) (i:Dr),Oj j (Lk o)=false->Hx[j]? =some i->i= .dead\/ ∃e,Oj j S=false/\(M1 S 0 a)[j]? =some e/\e.ro=true/\AGy e i)
  {r:Bc} {f:Aq} (Y:XY o K (Q3 A S a env0) Hx=some (r,f)) (ce:vA a.length r=true) (ch:mN a.length f=true) (N:Nat):
  Fv N a.length (B9 env1) (BH d) (B9 r) (BH f)/\ ∃P V,IS P V o (Q3 A S a env0) Hx r f:=by
 obtain⟨I,z,wf⟩:=Rk (mm env1 d o) G;have u:a.length<=d.length:=by rw[<-g.len];exact st.step.len
 have b:=E5.trans g.ok.env st z;have H: ∀p∈Q3 A S a env0,p.2.ok Hx:=λp v x E=>by
  have:=m.env p (Rf nd p v).2.2 x E;cases x with
  |own id c t n=>exact rx _ _ _ _ this
  |_=>trivial
 have q:=Oi I W Y ⟨H,J⟩ (by rw[y];exact Cz u z.step.len) (λp v=>by
  obtain⟨b1,M,O⟩:=Rf nd p v;have hk:=y9 M (m.env p O) g.step;have T:Oj p.1 A=false:=by grind[jC]
  have k:yK p.2=false:=by grind[jC]
  have X:=g.get p v;have:=b.same p.1 (λh=>by rw[D4]at h;exact Uh T (U _ h)) q!;rw[X]at this;exact⟨p.2,lH this (ADK k),Xm.refl _⟩) (λj i Z C=>by
   have D:j<a.length:=q!
   rcases E j i Z C with rfl|⟨e,Q,s,f,R⟩;exact⟨_,A4 (C7 D (Cz u z.step.len)),.inl rfl⟩;exact⟨e,b.step.ro j e (by rw[g.same j Q];exact s) f,R⟩) (λid l _ _ _ _ _ _ _ _ hq=>by
  obtain⟨ad,s1,q1⟩:=(g.step.trans b.step).lp id (by rw[Kl,<-y];exact l) _ _ _ _ _ _ _ _ hq;exact F id l _ _ _ _ _ _ _ _ q1)
 have w:=q.weak (N:=N) (by rw[y];exact Cz u z.step.len) q! q!;rw[y]at w;exact⟨((wf N).of_le (by rw[CR];exact u)).trans w,_,_,q⟩
open Classical in
noncomputable def uc{α:Type}(g:List α->Unit->Option (List α))(l:List α):Option (List α):=if∀m,l.Perm m->g m ()=g l ()then g l ()else none
theorem AAk{g:List R->Unit->Option (List R)}{l s:List R}(h:uc g l=some s): ∀m,l.Perm m->g m ()=some s:=by grind[uc]
def xZ:List Oper->Option (Nat×Nat×Nat×TypeId×TypeId)
 |[⟨some a1,.load ty1 (.tmp c0),_,_,_,none⟩,⟨some a2,.range ty2 (.tmp b1),_,_,_,none⟩]=>match Nat.beq a1 b1 with|true=>some (c0,a1,a2,ty1,ty2)|false=>none
 |_=>none
def uX:List Oper->Option (Nat×Nat×Nat)
 |[⟨some a3,.next (.tmp a2) false,_,_,_,none⟩,⟨some a4,.extract (.tmp b3) 0,_,_,_,none⟩]=>match Nat.beq a3 b3 with|true=>some (a2,a3,a4)|false=>none
 |_=>none
def uY:List Oper->Option (Nat×Nat×Nat×Nat×TypeId×TypeId)
 |[⟨some a5,.entry (.tmp a2),_,_,_,none⟩,⟨some a6,.extract (.tmp b5) 1,_,_,_,none⟩,⟨some a7,.alloc te1,_,_,_,none⟩,⟨none,.store te2 (.tmp b7) (.tmp b6),_,_,_,none⟩]=>
  match Nat.beq a5 b5&&(Nat.beq a6 b6&&Nat.beq a7 b7)with|true=>some (a2,a5,a6,a7,te1,te2)|false=>none
 |_=>none
def uZ:List Oper->Option (Nat×Nat×Nat×Nat×Nat×Nat×TypeId×TypeId×TypeId)
 |[⟨some a8,.move (.tmp out),_,_,_,none⟩,⟨some a9,.load te3 (.tmp a7),_,_,_,none⟩,⟨some a10,.buildSlice ts1 1 ⟨[(0,.tmp b9)]⟩,_,_,_,none⟩,
   ⟨some a11,.call {callee:=.builtin .append,args:=⟨[.tmp b8,.tmp b10]⟩,argTypes:=⟨[ts2,ts3]⟩},_,_,_,none⟩,⟨some out2,.assign (.tmp b11),_,_,_,none⟩]=>
  match Nat.beq a8 b8&&(Nat.beq a9 b9&&(Nat.beq a10 b10&&(Nat.beq a11 b11&&(Nat.beq out out2&&Nat.beq ts2 ts3))))with|true=>some (out,a7,a8,a9,a10,a11,te3,ts1,ts2)|false=>none
 |_=>none
def xa:List Oper->Option (Nat×Nat×Nat×FuncId×FuncId)
 |[⟨some a12,.move (.tmp out),_,_,_,none⟩,⟨some a13,.call {callee:=.value (.func F),args:=⟨[.tmp b12,.func G]⟩,.. },_,_,_,none⟩]=>match Nat.beq a12 b12 with|true=>some (out,a12,a13,F,G)|false=>none
 |_=>none
def rQ(h:xZ e=some (N,n,z,m,O)):
  ∃l c a f d b,e=[⟨some n,.load m (.tmp N),l,c,a,none⟩,⟨some z,.range O (.tmp n),f,d,b,none⟩]:=by
 unfold xZ at h;split at h;split at h<;>simp_all;cases h
def rR(h:uX e=some (N,n,z)):
  ∃l c a f d b,e=[⟨some n,.next (.tmp N) false,l,c,a,none⟩,⟨some z,.extract (.tmp n) 0,f,d,b,none⟩]:=by
 unfold uX at h;split at h;split at h<;>simp_all;cases h
def rS{a7:Nat}(h:uY e=some (N,n,z,a7,m,O)):
  ∃j p a k f b o g c l i d,e=[⟨some n,.entry (.tmp N),j,p,a,none⟩,⟨some z,.extract (.tmp n) 1,k,f,b,none⟩,⟨some a7,.alloc m,o,g,c,none⟩,⟨none,.store O (.tmp a7) (.tmp z),l,i,d,none⟩]:=by
 unfold uY at h;split at h;split at h<;>simp_all;cases h
def rT{a9 a10 a11:Nat}{ts2:TypeId}(h:uZ e=some (N,n,z,a9,a10,a11,m,O,ts2)):
  ∃r f a l g b o i c p j d q k s,e=[⟨some z,.move (.tmp N),r,f,a,none⟩,⟨some a9,.load m (.tmp n),l,g,b,none⟩,⟨some a10,.buildSlice O 1 #[(0,.tmp a9)],o,i,c,none⟩,⟨some a11,.call {callee:=.builtin .append,args:= #[.tmp z,.tmp a10],argTypes:= #[ts2,ts2]},p,j,d,none⟩,⟨some N,.assign (.tmp a11),q,k,s,none⟩]:=by
 unfold uZ at h;split at h;split at h<;>simp_all;cases h
def rU{G:FuncId}(h:xa e=some (N,n,z,F,G)):
  ∃f d b a g l c,e=[⟨some n,.move (.tmp N),f,d,b,none⟩,⟨some z,.call {callee:=.value (.func F),args:= #[.tmp n,.func G],argTypes:=a},g,l,c,none⟩]:=by
 unfold xa at h;split at h;split at h<;>simp_all;cases h
structure YV where
 c0:Nat
 a1:Nat
 a2:Nat
 a3:Nat
 a4:Nat
 a5:Nat
 a6:Nat
 a7:Nat
 a8:Nat
 a9:Nat
 a10:Nat
 a11:Nat
 a12:Nat
 a13:Nat
 out:Nat
 ty1:TypeId
 ty2:TypeId
 te1:TypeId
 te2:TypeId
 te3:TypeId
 ts1:TypeId
 ts2:TypeId
 F:FuncId
 G:FuncId
def xS:List Nat->Bool
 |[]=>true
 |t::r=>!Oj t r&&xS r
def rO: ∀{l:List Nat},xS l=true->l.Nodup
 |[],_=>Qx
 |t::r,h=>by simp only[xS,BO,P3]at h;exact Gc.2 ⟨Uh h.1,rO h.2⟩
def oJ:Code->Code->Option YV
 | .seq (.region _ o1 false) (.block b1 (.loop (.seq (.region _ o2 false) (.seq (.cond (.tmp x4) .skip (.exit b2)) (.block _ (.seq (.region _ o3 false) (.region _ o4 false))))))),.region _ o5 false=>
  match xZ o1.toList,uX o2.toList,uY o3.toList,uZ o4.toList,xa o5.toList with
  |some (c0,a1,a2,ty1,ty2),some (x2,a3,a4),some (y2,a5,a6,a7,te1,te2),some (out,x7,a8,a9,a10,a11,te3,ts1,ts2),some (out2,a12,a13,F,G)=>
   match (Nat.beq b1 b2&&(Nat.beq a4 x4&&(Nat.beq a2 x2&&(Nat.beq a2 y2&&(Nat.beq a7 x7&&Nat.beq out out2)))))&&xS [out,a1,a2,a3,a4,a5,a6,a7,a8,a9,a10,a11,a12,a13]with
   |true=>some ⟨c0,a1,a2,a3,a4,a5,a6,a7,a8,a9,a10,a11,a12,a13,out,ty1,ty2,te1,te2,te3,ts1,ts2,F,G⟩
   |false=>none
  |_,_,_,_,_=>none
 |_,_=>none
def YV.tmps(p:YV):List Nat:=[p.out,p.a1,p.a2,p.a3,p.a4,p.a5,p.a6,p.a7,p.a8,p.a9,p.a10,p.a11,p.a12,p.a13]
def Z6(A:List Nat):Bc->Bc
 |[]=>[]
 |(t,v)::r=>match Oj t A with|true=>Z6 A r|false=>(t,v)::Z6 A r
def WT{A:List Nat}: ∀{env:Bc} {q:Nat×TV},q∈Z6 A env->q∈env/\q.1∉A
 |[],_,h=>by cases h
 |(t,v)::r,q,h=>by simp only[Z6]at h;split at h;exact⟨CQ _ (WT h).1,(WT h).2⟩;rename_i a;rcases A8.1 h with rfl|h;exact⟨Iy,Uh a⟩;exact⟨CQ _ (WT h).1,(WT h).2⟩
theorem qB{A:List Nat}{u:Nat}(a:u∉A): ∀env:Bc,(Z6 A env).get u=env.get u
 |[]=>rfl
 |(t,v)::r=>by
  simp only[Z6,Bc.get];split;rename_i b;have:t≠u:=λe=>by grind[Wb]
  rw[beq_false this];exact qB a r;simp[Bc.get,qB a r]
noncomputable def ADW(P:Program)(N:Nat)(cs:List RW)(p:YV)(env:Bc)(H:Aq){R:Type}(k:Bc->Aq->Option R):Option R:=
 match env.get p.c0,env.get p.out with
 | .c (.raw (.ptr c 0 0)),.c .nil=>
  match H[c]? with
  |some (.live _ [.raw (.mp id)])=>
   match H[id]?,ABU cs p.F,Enters P p.F with
   |some (.mp _ kk ty es),some (.c2 _ te [] [] [.fn (.func G) [] []] g),true=>
    if h:(Ty.list ty).beq (Ty.list te)=true then
     match tI P p.ty1,P.underlying p.ty2,tI P p.te2,tI P p.te3,ZN P p.te1,eI P p.ts1,eI P p.ts2 with
     |some (false,_),some (.map kt _),some (_,n2),some (tr3,n3),some z,some (none,e1,s1),some (none,e2,s2)=>
      match (Nat.beq G p.G&&(te.isAgg&&(Nat.beq n2 te.sz&&(tr3&&(Nat.beq n3 te.sz&&(Nat.beq z.length te.sz&&(Nat.beq s1 te.sz&&(Nat.beq s2 te.sz&&(SX P e1&&(SX P e2&&Nat.ble te.sz 4096))))))))))&&
        ((match P.underlying kt with|some (.int k2)=>decide (k2=kk)|_=>false)&&(vA H.length (Z6 p.tmps env)&&(mN H.length H&&p.tmps.all λt=>Nat.blt t N)))with
      |true=>cond (decide (((es.length:Nat):Int)≤16777216))
        ((uc g (Ty.cast h (es.map (·.2)))).bind λs=>cond (Nat.beq s.length es.length) (k ((p.out,.c (.own H.length 0 te s.length))::Z6 p.tmps env) (H++[.buf false te s s.length 0,.dead])) none) none
      |false=>none
     |_,_,_,_,_,_,_=>none
    else none
   |_,_,_=>none
  |_=>none
 |_,_=>none
theorem Ep{q:Nat×AY}{v:AY}(h:q∈u)(a:q.1≠N):q∈u.put N v:=CQ _ (Bk.2 ⟨h,q!⟩)
def xj:(N,i)∈u.put N i:=Iy
def oo{v:AY}:Env.get ((N,v)::u) N=v:=if_pos rfl
def yr{v:AY}(h:N≠n):Env.get ((N,v)::u) n=u.get n:=if_neg h
def jF(vals:List R)(seen:List Nat):List R:=seen.filterMap (vals[·]?)
theorem AA0{b:List R}{x:R}(h:b[N]? =some x):jF b (a++[N])=jF b a++[x]:=by grind[jF]
theorem zR{b:Type}: ∀a:List b,(List.range a.length).filterMap (a[·]?)=a
 |[]=>rfl
 |x::r=>by
  rw[Cu,List.range_succ_eq_map,pY];simp;have:((λi=>(x::r)[i]?)∘Nat.succ)=(r[·]?):=q!
  rw[this,zR r]
def AAz{d:List R}(hn:a.Nodup)(c: ∀j∈a,j<d.length)(b: ∀j,j<d.length->j∈a):d.Perm (jF d a):=by have:=((mr List.nodup_range hn).2 λj=>⟨λh=>b j (Hj.1 h),λh=>Hj.2 (c j h)⟩).filterMap (d[·]?);rwa [zR]at this
section
variable {P:Program} {N:Nat} {env:Env} {H:Az} {Q:Env->Az->Prop} {ops:Array Oper}
def XC.nil(h:Q env H):XC P N ops [] env H Q:=⟨_,_,Fv.refl _ _ _,h⟩
def XC.cons(b:o.guard=none)(h:JM P N o env H λv a=>XC P N ops e (env.putO o.dst v) a Q):XC P N ops (o::e) env H Q:=by refine⟨_,_,Fv.refl _ _ _,?_⟩;rw[b];exact h
end
variable {s:Hint}{C:YV}
section
variable {P:Program} {N:Nat}
theorem ww(t:Ty)(l:List t.D): ∀v∈t.E.cl l,Pure v:=by intro v a;have⟨u,b,a⟩:=Hh.1 a;obtain⟨y,_,rfl⟩:=Bl.1 b;exact Ve (t.enc_pure y) v a
theorem AEM(h:Pure i)(p:Nat->Bool):i.idsAll p=true:=RU (λ_ h=>by cases h) i h
theorem ADk{p q:Nat->Bool}(h: ∀id,p id=true->q id=true)(e:FU)(k:e.idsAll p=true):e.idsAll q=true:=by cases e<;>grind[JK,FU.idsAll,List.all_eq_true,RU]
theorem AHD(t:Ty)(g:Nat)(l:List t.D)(p:Nat->Bool):(FU.live g (t.E.cl l)).idsAll p=true:=by grind[FU.idsAll,Dd,AEM,ww]
theorem flt{a:Type}(p q:a->Bool)(b: ∀x,q x=true->p x=true)(e:a)(d:p e=true)(f:q e=false): ∀l:List a,e∈l->(l.filter q).length<(l.filter p).length
 |x::l,he=>by
  have c: ∀l:List a,(l.filter q).length<=(l.filter p).length:=by intro l;induction l<;>grind
  rcases A8.1 he with rfl|h;grind;have:=flt p q b e d f l h;grind
theorem AGc(h:A.Nodup){i j a b:Nat}(d:A[i]? =some a)(e:A[j]? =some b)(c:i≠j):a≠b:=by grind[List.getElem?_inj]
set_option maxHeartbeats 1000000 in
def ACF{te:Ty}{kk:IntKind}{es:List (Int×te.D)}{Hb:Az}{base:Env}{id a2 a3 a4 a5 a6 a7 a8 a9 a10 a11 out:Nat}{b1 b2:Nat}{i2 i3 i4:Nat}{o2 o3 o4:Array Oper}{te1 te2 te3 ts1 ts2:TypeId}{z:List AY}{e1 e2:TypeId}{bb:Bool}
  (h2:uX o2.toList=some (a2,a3,a4)) (h3:uY o3.toList=some (a2,a5,a6,a7,te1,te2)) (h4:uZ o4.toList=some (out,a7,a8,a9,a10,a11,te3,ts1,ts2))
  (bt:[out,a2,a3,a4,a5,a6,a7,a8,a9,a10,a11].Nodup) (hN: ∀t∈[out,a2,a3,a4,a5,a6,a7,a8,a9,a10,a11],t<N) (hb: ∀q∈base,q.1∉ [out,a2,a3,a4,a5,a6,a7,a8,a9,a10,a11])
  (ar: ∀q∈base,(q.2.idsAll λj=>decide (j<Hb.length))=true) (ao: ∀e∈Hb,(e.idsAll λj=>decide (j<Hb.length))=true)
  (he:Hb[id]? =some (.mp kk (es.map λp=>(p.1,te.enc p.2)))) (ap:te.isAgg=true) (hz:ZN P te1=some z) (Z:z.length=te.sz) (b0:tI P te2=some (bb,te.sz)) (b3:tI P te3=some (true,te.sz))
  (bz:eI P ts1=some (none,e1,te.sz)) (bG:eI P ts2=some (none,e2,te.sz)) (bl:SX P e1=true) (bm:SX P e2=true) (bN:te.sz<=4096) (b4:es.length<=16777216):
  ∀(n:Nat) (seen:List Nat),seen.Nodup->(∀j∈seen,j<es.length)->((List.range es.length).filter λj=>!decide (j∈seen)).length<=n->(jF (es.map (·.2)) seen).length+((List.range es.length).filter λj=>!decide (j∈seen)).length<=es.length->
   M3 P N (.seq (.region i2 o2 false) (.seq (.cond (.tmp a4) .skip (.exit b1)) (.block b2 (.seq (.region i3 o3 false) (.region i4 o4 false)))))
    ((out,.sl Hb.length (jF (es.map (·.2)) seen).length te.sz 0 (jF (es.map (·.2)) seen).length)::(a2,.itp (Hb.length+1) id)::base)
    (Hb++[.live (jF (es.map (·.2)) seen).length (te.E.cl (jF (es.map (·.2)) seen)),.it es.length seen])
    λe E h=>e= .exit b1/\ ∃s,(es.map (·.2)).Perm s/\(∀q∈(out,AY.sl Hb.length s.length te.sz 0 s.length)::base,q∈E)/\h.length=Hb.length+2/\(∀j,j<Hb.length->h[j]? =Hb[j]?)/\h[Hb.length]? =some (.live s.length (te.E.cl s)):=by
 obtain⟨t1,p1,x1,t2,p2,x2,l2⟩:=rR h2;obtain⟨t3,p3,x3,t4,p4,x4,t5,p5,x5,t6,p6,x6,l3⟩:=rS h3;obtain⟨t7,p7,x7,t8,p8,x8,t9,p9,x9,b7,b5,b9,b8,b6,b',l4⟩:=rT h4;have D:=λ(i j a b:Nat)=>AGc (i:=i) (j:=j) (a:=a) (b:=b) bt;simp only[A8,List.not_mem_nil,or_false,forall_eq_or_imp,forall_eq]at hN;have d2:PH N o2.toList=true:=by rw[l2];simp[PH,hN]
 have d3:PH N o3.toList=true:=by rw[l3];simp[PH,hN]
 have d4:PH N o4.toList=true:=by rw[l4];simp[PH,hN]
 have ax:id<Hb.length:=by rcases Au id Hb.length with h|h;exact h;rw[Cc h]at he;cases he
 have s0: ∀(A B C:FU),(Hb++[A,B]).set (Hb.length+1) C=Hb++[A,C]:=λA B C=>by rw[TY _ _ o!,show Hb.length+1-Hb.length=1 by omega];rfl
 have s1: ∀(A B C D:FU),(Hb++[A,B,C]).set (Hb.length+2) D=Hb++[A,B,D]:=λA B C D=>by rw[TY _ _ o!,show Hb.length+2-Hb.length=2 by omega];rfl
 have s2: ∀(A B C D:FU),(Hb++[A,B,C]).set Hb.length D=Hb++[D,B,C]:=λA B C D=>by rw[TY _ _ (Am _),Gd];rfl
 have g0: ∀(A:FU) (r:List FU),(Hb++A::r)[Hb.length]? =some A:=λA r=>by rw[Cb (Am _),Gd];rfl
 have g1: ∀(A B:FU) (r:List FU),(Hb++A::B::r)[Hb.length+1]? =some B:=λA B r=>by rw[Cb o!,show Hb.length+1-Hb.length=1 by omega];rfl
 have g2: ∀(A B C:FU) (r:List FU),(Hb++A::B::C::r)[Hb.length+2]? =some C:=λA B C r=>by rw[Cb o!,show Hb.length+2-Hb.length=2 by omega];rfl
 have gm: ∀(r:List FU),(Hb++r)[id]? =some (.mp kk (es.map λp=>(p.1,te.enc p.2))):=λr=>by rw[CL ax];exact he
 have Y:(es.map (·.2)).length=es.length:=B5 _;have J:0<te.sz:=te.sz_pos;intro n;induction n using Nat.strongRecOn with
 |ind n ih=>
  intro seen hn hl hr hm;obtain⟨L,hL⟩: ∃L,L=jF (es.map (·.2)) seen:=⟨_,rfl⟩
  rw[<-hL]at hm⊢;refine Tf (M2.seq (FZ d2 ?_));rw[l2];apply XC.cons rfl;have d:(es.map λp=>(p.1,te.enc p.2)).length=es.length:=B5 _;have ad:out≠a2:=D 0 1 _ _ rfl rfl g!;refine JM.next (x:=.tmp a2) (id:=Hb.length+1) (m:=id) (k:=kk) (es:=es.map λp=>(p.1,te.enc p.2)) (seen:=seen) rfl ?_ ?_ (gm _) ?_ ?_
  show Env.get _ a2=_;rw[yr ad,oo];rw[d];exact g1 _ _ _;intro G;refine XC.cons rfl (Dc (v:=.bool false) ?_ (XC.nil ?_));show CO _ _ _ (.extract (.tmp a3) 0)=_;simp only[CO,BJ,Env.putO,Fx,if_true];rfl;refine M2.seq (M2.cond (b:=false) ?_ (λh=>by cases h) (λ_=>M2.exit ?_));simp only[BJ,Env.putO,Fx,if_true];refine⟨rfl,L,?_,λq o=>?_,k!,λj hj=>CL hj,g0 _ _⟩;rw[hL];exact AAz hn (by rw[Y];exact hl) (by rw[Y];rw[d]at G;exact G);have ag:out≠a3:=D 0 2 _ _ rfl rfl g!;have al:out≠a4:=D 0 3 _ _ rfl rfl g!;rcases A8.1 o with rfl|o;exact Ep (Ep Iy ag) al;have:=hb q o;simp only[A8,not_or]at this;exact Ep (Ep (CQ _ (CQ _ o)) this.2.2.1) this.2.2.2.1;intro j p hj S;rw[CE]at hj;obtain⟨q,o,e⟩:=WN.1 hj;subst e;rw[d,s0];refine XC.cons rfl (Dc (v:=.bool true) ?_ (XC.nil ?_));show CO _ _ _ (.extract (.tmp a3) 0)=_;simp only[CO,BJ,Env.putO,Fx,if_true];rfl;have k2: ∀(m:Nat) (v w:AY),Env.get (Env.put (Env.put ((out,AY.sl Hb.length m te.sz 0 m)::(a2,AY.itp (Hb.length+1) id)::base) a3 v) a4 w) a2= .itp (Hb.length+1) id:=λm v w=>by rw[Fx,if_neg (D 1 3 _ _ rfl rfl g!),Fx,if_neg (D 1 2 _ _ rfl rfl g!),yr ad,oo]
  have ko: ∀(m:Nat) (v w:AY),Env.get (Env.put (Env.put ((out,AY.sl Hb.length m te.sz 0 m)::(a2,AY.itp (Hb.length+1) id)::base) a3 v) a4 w) out= .sl Hb.length m te.sz 0 m:=λm v w=>by rw[Fx,if_neg (D 0 3 _ _ rfl rfl g!),Fx,if_neg (D 0 2 _ _ rfl rfl g!),oo]
  have kb: ∀(m:Nat) (v w:AY),∀q∈base,q∈Env.put (Env.put ((out,AY.sl Hb.length m te.sz 0 m)::(a2,AY.itp (Hb.length+1) id)::base) a3 v) a4 w:=λm v w q o=>by have:=hb q o;simp only[A8,not_or]at this;exact Ep (Ep (CQ _ (CQ _ o)) this.2.2.1) this.2.2.2.1
  have ki: ∀(m:Nat) (v w:AY),(a2,AY.itp (Hb.length+1) id)∈Env.put (Env.put ((out,AY.sl Hb.length m te.sz 0 m)::(a2,AY.itp (Hb.length+1) id)::base) a3 v) a4 w:=λm v w=>Ep (Ep (CQ _ Iy) (D 1 2 _ _ rfl rfl g!)) (D 1 3 _ _ rfl rfl g!);refine M2.seq (M2.cond (b:=true) ?_ (λ_=>M2.skip ?_) (λh=>by cases h));simp only[BJ,Env.putO,Fx,if_true];dsimp only[wV];refine M2.block (M2.seq (FZ d3 ?_));rw[l3];generalize K:Env.putO (Env.putO ((out,AY.sl Hb.length L.length te.sz 0 L.length)::(a2,AY.itp (Hb.length+1) id)::base) (some a3) (.tup [.bool true,.int kk q.1,te.enc q.2])) (some a4) (.bool true)=E;have k2:Env.get E a2= .itp (Hb.length+1) id:=by rw[<-K];exact k2 _ _ _
  have ko:Env.get E out= .sl Hb.length L.length te.sz 0 L.length:=by rw[<-K];exact ko _ _ _
  have kb: ∀q∈base,q∈E:=by rw[<-K];exact kb _ _ _
  have ki:(a2,AY.itp (Hb.length+1) id)∈E:=by rw[<-K];exact ki _ _ _
  clear K;refine XC.cons rfl (JM.entry (x:=.tmp a2) (id:=Hb.length+1) (m:=id) (j:=j) (k:=kk) (es:=es.map λp=>(p.1,te.enc p.2)) (seen:=seen) (p:=(q.1,te.enc q.2)) rfl k2 ?_ (gm _) (by rw[CE,o];rfl) ?_);rw[d];exact g1 _ _ _;have f:te.enc q.2= .agg (te.enc q.2).cells:=Ty.agg_enc ap q.2;have l:(te.enc q.2).cells.length=te.sz:=te.enc_len q.2;have U:(te.enc q.2).solid=true:=by rw[f];rfl
  refine XC.cons rfl (Dc (v:=te.enc q.2) ?_ (XC.cons rfl (JM.alloc rfl hz ?_)));show CO _ _ _ (.extract (.tmp a5) 1)=_;simp only[CO,BJ,Env.putO,Fx,if_true];rfl;have a0:(Hb++[FU.live L.length (te.E.cl L),FU.it es.length (seen++[j])]).length=Hb.length+2:=k!
  rw[a0,A6];show XC P N o3 _ _ (Hb++[FU.live L.length (te.E.cl L),FU.it es.length (seen++[j]),FU.live 0 z]) _;refine XC.cons rfl (JM.store (id:=Hb.length+2) (g:=0) (off:=0) (v:=te.enc q.2) (cs:=z) (b:=bb) rfl ?_ ?_ U (g2 _ _ _ _) (by rw[l];exact b0) (by rw[l,Z];omega) (XC.nil ?_));simp only[BJ,Env.putO,Fx,if_true];simp only[BJ,Env.putO,Fx];rw[if_neg (D 5 6 _ _ rfl rfl g!),if_pos trivial];have T:W7 z 0 (te.enc q.2).cells=(te.enc q.2).cells:=by unfold W7;rw[List.take_zero,Cp,l,<-Z,D7,List.drop_length,D4]
  rw[T,s1];simp only[Env.putO];generalize F:Env.put (Env.put (Env.put E a5 (.tup [.int kk q.1,te.enc q.2])) a6 (te.enc q.2)) a7 (.ptr (Hb.length+2) 0 0)=E1;have j7:Env.get E1 a7= .ptr (Hb.length+2) 0 0:=by rw[<-F,Fx,if_pos rfl]
  have jo:Env.get E1 out= .sl Hb.length L.length te.sz 0 L.length:=by rw[<-F,Fx,if_neg (D 0 6 _ _ rfl rfl g!),Fx,if_neg (D 0 5 _ _ rfl rfl g!),Fx,if_neg (D 0 4 _ _ rfl rfl g!),ko]
  have jb: ∀q∈base,q∈E1:=λu I=>by have:=hb u I;simp only[A8,not_or]at this;rw[<-F];exact Ep (Ep (Ep (kb u I) this.2.2.2.2.1) this.2.2.2.2.2.1) this.2.2.2.2.2.2.1
  have ji:(a2,AY.itp (Hb.length+1) id)∈E1:=by rw[<-F];exact Ep (Ep (Ep ki (D 1 4 _ _ rfl rfl g!)) (D 1 5 _ _ rfl rfl g!)) (D 1 6 _ _ rfl rfl g!)
  clear F;apply FZ d4;rw[l4];refine XC.cons rfl (Dc (v:=.sl Hb.length L.length te.sz 0 L.length) (congrArg some jo) (XC.cons rfl (Dc (v:=te.enc q.2) ?_ (XC.cons rfl (V0 (sz:=te.sz) (vs:=[te.enc q.2]) rfl ?_ (XC.cons rfl ?_))))));show jD P te3 _ (BJ _ (.tmp a7))=_;simp only[BJ,Env.putO,Fx];rw[if_neg (D 6 7 _ _ rfl rfl g!),j7];simp only[jD,b3,QM,g2];rw[if_pos ⟨trivial,by rw[l];omega⟩,YL,<-l,Hk];exact congrArg some f.symm;simp only[TJ,bz];rw[if_pos];simp only[BJ,Env.putO,Fx,if_true,Bt,Hg];refine⟨J,bl,rfl,?_,g!,bN⟩;simp only[BJ,Env.putO,Fx,if_true,Bt,Hg,pU,pV,U,l,decide_true,YI];have R:j<es.length:=by rcases Au j es.length with h|h;exact h;rw[Cc h]at o;cases o
  have bd:((List.range es.length).filter λi=>!decide (i∈seen++[j])).length<((List.range es.length).filter λi=>!decide (i∈seen)).length:=flt (λi=>!decide (i∈seen)) (λi=>!decide (i∈seen++[j])) (λx f=>by simp at f⊢;exact f.1) j (by simpa using S) k! _ (Hj.2 R);have O:jF (es.map (·.2)) (seen++[j])=L++[q.2]:=by rw[hL];exact AA0 (by rw[CE,o];rfl)
  refine SO (sx:=.tmp a8) (xx:=.tmp a10) (t:=ts2) (e:=e2) (id:=Hb.length) (g:=L.length) (g':=L.length+1) (n:=L.length) (sz:=te.sz) (m:=1) (cs:=te.E.cl L) (news:=(te.enc q.2).cells) rfl bG J bm ?_ (g0 _ _) (te.E.clen L) ?_ o! (.inl o!) ?_;show Env.get _ a8=_;simp only[Env.putO,Fx];rw[if_neg (D 7 9 _ _ rfl rfl g!),if_neg (D 7 8 _ _ rfl rfl g!),if_pos trivial];simp only[BJ,Env.putO,Fx,if_true,Nz,Cu,Ck,IA,pZ,D4];rw[s2];refine XC.cons rfl (Dc (v:=.sl Hb.length (L.length+1) te.sz 0 (L.length+1)) ?_ (XC.nil ?_));show some (Env.get _ a11)=_;simp only[Env.putO,Fx,if_true];have Q:te.E.cl L++(te.enc q.2).cells=te.E.cl (L++[q.2]):=by simp[Ur.cl];rfl
  rw[Q];have a':(L++[q.2]).length=L.length+1:=k!
  show∃env2 H2,Fv N _ _ _ env2 H2/\_;refine⟨_,_,?_,ih _ (C7 bd hr) (seen++[j]) ?_ ?_ (Am _) (by rw[O];omega)⟩;rw[O,a'];generalize M:Env.putO _ (some out) _=E3;have V: ∀u∈(out,AY.sl Hb.length (L.length+1) te.sz 0 (L.length+1))::(a2,AY.itp (Hb.length+1) id)::base,u∈E3:=by intro u I;rw[<-M];simp only[Env.putO];rcases A8.1 I with rfl|I;exact xj;rcases A8.1 I with rfl|I;exact Ep (Ep (Ep (Ep (Ep ji (D 1 7 _ _ rfl rfl g!)) (D 1 8 _ _ rfl rfl g!)) (D 1 9 _ _ rfl rfl g!)) (D 1 10 _ _ rfl rfl g!)) (D 1 0 _ _ rfl rfl g!);have:=hb u I;simp only[A8,not_or]at this;exact Ep (Ep (Ep (Ep (Ep (jb u I) this.2.2.2.2.2.2.2.1) this.2.2.2.2.2.2.2.2.1) this.2.2.2.2.2.2.2.2.2.1) this.2.2.2.2.2.2.2.2.2.2.1) this.1
  clear M;have w1:=Fv.subset (N:=N) (H:=Hb++[FU.live (L.length+1) (te.E.cl (L++[q.2])),FU.it es.length (seen++[j]),FU.live 0 (te.enc q.2).cells]) V;have W:(Hb++[FU.live (L.length+1) (te.E.cl (L++[q.2])),FU.it es.length (seen++[j]),FU.live 0 (te.enc q.2).cells]).take (Hb.length+2)=Hb++[FU.live (L.length+1) (te.E.cl (L++[q.2])),FU.it es.length (seen++[j])]:=by rw[mu,BK o!,show Hb.length+2-Hb.length=2 by omega];rfl
  have w2:=Fv.cut (N:=N) (n0:=Hb.length+2) (env:=(out,AY.sl Hb.length (L.length+1) te.sz 0 (L.length+1))::(a2,AY.itp (Hb.length+1) id)::base) (H:=Hb++[FU.live (L.length+1) (te.E.cl (L++[q.2])),FU.it es.length (seen++[j]),FU.live 0 (te.enc q.2).cells]) k! (λt v X=>by
   rcases A8.1 X with e|X;injection e with _ e;subst e;exact decide_eq_true o!;rcases A8.1 X with e|X;injection e with _ e;subst e;simp only[AY.idsAll,BO,decide_eq_true_eq];omega;exact RU (λi hi=>decide_eq_true (by have:=of_decide_eq_true hi;omega)) v (ar _ X)) (by
   rw[W];intro e c;rcases A1.1 c with c|c;exact ADk (λi hi=>decide_eq_true (by have:=of_decide_eq_true hi;omega)) e (ao e c);rcases A8.1 c with rfl|c;exact AHD te _ _ _;simp only[BI]at c;subst c;rfl)
  rw[W]at w2;have a1:(Hb++[FU.live L.length (te.E.cl L),FU.it es.length seen]).length=Hb.length+2:=k!
  rw[a1];exact(w1.of_le k!).trans w2;refine Qw.2 ⟨hn,k!,λx f y hy=>?_⟩;simp only[BI]at hy;subst hy;rintro rfl;exact S f;intro x f;rcases A1.1 f with f|f;exact hl x f;simp only[BI]at f;subst f;exact R
def oK(h:oJ d J=some C): ∃x k i y l r z n A o B q,
  d= .seq (.region x k false) (.block i (.loop (.seq (.region y l false) (.seq (.cond (.tmp C.a4) .skip (.exit i)) (.block r (.seq (.region z n false) (.region A o false)))))))/\J= .region B q false/\
  xZ k.toList=some (C.c0,C.a1,C.a2,C.ty1,C.ty2)/\uX l.toList=some (C.a2,C.a3,C.a4)/\uY n.toList=some (C.a2,C.a5,C.a6,C.a7,C.te1,C.te2)/\
  uZ o.toList=some (C.out,C.a7,C.a8,C.a9,C.a10,C.a11,C.te3,C.ts1,C.ts2)/\xa q.toList=some (C.out,C.a12,C.a13,C.F,C.G)/\C.tmps.Nodup:=by
 unfold oJ at h;split at h;split at h;rename_i s t u v w;split at h;rename_i j;simp only[BO]at j;have⟨⟨b,c,a,e,f,g⟩,hn⟩:=j;have b:=DR b;have c:=DR c;have a:=DR a;have e:=DR e;have f:=DR f;have g:=DR g;subst b c a e f g;cases h;exact⟨_,_,_,_,_,_,_,_,_,_,_,_,rfl,rfl,s,t,u,v,w,rO hn⟩;cases h;cases h;cases h
set_option maxHeartbeats 1000000 in
def ADX{cs:List RW}(cm: ∀c∈cs,c.Ok P){a m:Code}{p:YV}(hp:oJ a m=some p){env:Bc}{H:Aq}{R:Type}{k:Bc→Aq→Option R}{r:R}(ok:Qs env H)(o:ADW P N cs p env H k=some r):
  ∃A H',M2 P N a (B9 env) (BH H) (wV (λE h=>M2 P N m E h (Yl .normal (B9 A) (BH H'))) (λ_ _ _=>False))/\k A H'=some r/\Qs A H'/\E5 p.tmps env H A H':=by
 obtain⟨i1,o1,T,i2,o2,J,i3,o3,i4,o4,i5,o5,rfl,rfl,p1,p2,p3,p4,p5,bt⟩:=oK hp;unfold ADW at o;split at o;rename_i c cf b0;split at o;rename_i ro id hc;split at o;rename_i c2 kk n I F te G g a0 hF hE;split at o;rename_i cB;split at o;rename_i y1 kt et b7 n2 c3 n3 z e1 s1 e2 s2 t1 t2 t3 t4 t5 t6 t7;split at o;rename_i hb;have cG:n=te:=by have:=Ty.beq_eq _ _ cB;injection this
 subst cG;simp only[BO]at hb;obtain⟨⟨bG,b6,V,cb,W,bz,Y,Z,b',ca,ad⟩,U,b8,b9,bN⟩:=hb;have bG:=DR bG;have V:=DR V;have W:=DR W;have bz:=DR bz;have Y:=DR Y;have Z:=DR Z;have ad:=O5 ad;subst V W Y Z cb;have c1:P.underlying kt=some (.int kk):=by split at U;rename_i k2 e;rw[e,of_decide_eq_true U];cases U
 cases al:decide (((I.length:Nat):Int)<=16777216)with
 |false=>rw[al]at o;cases o
 |true=>
  have bd:I.length<=16777216:=by have:=of_decide_eq_true al;omega
  rw[al]at o;obtain⟨s,hs,o⟩:=Db.1 (show Option.bind _ _=some r from o);have hs:=AAk hs;cases L:Nat.beq s.length I.length with
  |false=>rw[L]at o;cases o
  |true=>
   rw[L]at o;have o:k ((p.out,.c (.own H.length 0 n s.length))::Z6 p.tmps env) (H++[.buf false n s s.length 0,.dead])=some r:=o;have L:=DR L;obtain⟨c4,q1,x1,c5,q2,x2,l1⟩:=rQ p1;obtain⟨c6,q3,x3,cS,c8,q4,x4,l5⟩:=rU p5;have D:=λ(i j a b:Nat)=>AGc (i:=i) (j:=j) (a:=a) (b:=b) bt;have hN: ∀t∈p.tmps,t<N:=λt ht=>O5 (Fq.1 bN t ht);have d1:PH N o1.toList=true:=by rw[l1];simp[PH,pU,pV,P1,BO,decide_eq_true_eq];exact⟨hN _ (by simp[YV.tmps]),hN _ (by simp[YV.tmps])⟩
   have d5:PH N o5.toList=true:=by rw[l5];simp[PH,pU,pV,P1,BO,decide_eq_true_eq];exact⟨hN _ (by simp[YV.tmps]),hN _ (by simp[YV.tmps])⟩
   have M:(B9 env).get p.out= .nils:=by rw[VC,b0];rfl
   have ag:(B9 env).get p.c0= .ptr c 0 0:=by rw[VC,cf];rfl
   have ci:p.c0≠p.out:=λe=>by rw[e,M]at ag;cases ag
   have ch:c<H.length:=Gx hc;have a1:id<H.length:=Gx a0;have d:(BH H).length=H.length:=CR H;have cc:(BH H)[c]? =some (.live 0 [.mp id]):=by rw[E6,hc];rfl
   have O:(BH H)[id]? =some (.mp kk (I.map λp=>(p.1,n.enc p.2))):=by rw[E6,a0];rfl
   have x: ∀q∈B9 (Z6 p.tmps env),q∈B9 env/\q.1∉p.tmps:=λq y=>by obtain⟨u,hu,rfl⟩:=Bl.1 y;exact⟨Bl.2 ⟨u,(WT hu).1,rfl⟩,(WT hu).2⟩
   have ce: ∀q∈B9 (Z6 p.tmps env),(q.2.idsAll λj=>decide (j<(BH H).length))=true:=λq y=>by obtain⟨u,hu,rfl⟩:=Bl.1 y;rw[d];exact gb (lf b8 u hu)
   have cd: ∀e∈BH H,(e.idsAll λj=>decide (j<(BH H).length))=true:=by rw[d];exact lg b9
   have step:CD H (H++[.buf false n s s.length 0,.dead]):=by have:=(CD.push H (.buf false n s s.length 0)).trans (CD.push _ .dead);rwa [A6]at this
   have b3:(Bs.own H.length 0 n s.length).ok (H++[.buf false n s s.length 0,.dead]):=by apply YS (b:=false) (l:=s);rw[Cb (Am _),Gd];rfl
   refine⟨(p.out,.c (.own H.length 0 n s.length))::Z6 p.tmps env,H++[.buf false n s s.length 0,.dead],?_,o,⟨λq y=>?_,?_⟩,step,λu hu _=>?_⟩;refine M2.weak (Fv.virt (t:=p.out) (sz:=n.sz) M) (M2.seq (FZ d1 ?_));rw[l1];have cv:CO P ((B9 env).put p.out (.sl (BH H).length 0 n.sz 0 0)) (BH H++[.live 0 []]) (.load p.ty1 (.tmp p.c0))=some (.mp id):=by simp[CO,BJ,Fx];rw[if_neg ci,ag];simp[jD,t1,QM];rw[CL (by rw[d];exact ch),cc];rfl
   have a':(BH H++[FU.live 0 []])[id]? =some (.mp kk (I.map λp=>(p.1,n.enc p.2))):=by rw[CL (by rw[d];exact a1),O]
   refine XC.cons rfl (Dc cv (XC.cons rfl (JM.range (id:=id) (k:=kk) (es:=I.map λp=>(p.1,n.enc p.2)) rfl ?_ t2 a' (XC.nil ?_))));simp[BJ,Env.putO,Fx,if_true];rw[B5,Aa,A6];dsimp[wV,Env.putO];refine M2.block (M2.of_loopW ?_);have ar:[p.out,p.a2,p.a3,p.a4,p.a5,p.a6,p.a7,p.a8,p.a9,p.a10,p.a11].Sublist p.tmps:=.cons₂ _ (.cons _ (.cons₂ _ (.cons₂ _ (.cons₂ _ (.cons₂ _ (.cons₂ _ (.cons₂ _ (.cons₂ _ (.cons₂ _ (.cons₂ _ (.cons₂ _ (.cons _ (.cons _ .slnil)))))))))))));have b5:=ACF (P:=P) (N:=N) (te:=n) (kk:=kk) (es:=I) (Hb:=BH H) (base:=B9 (Z6 p.tmps env)) (id:=id) (out:=p.out) (a2:=p.a2) (a3:=p.a3) (a4:=p.a4) (a5:=p.a5) (a6:=p.a6) (a7:=p.a7) (a8:=p.a8) (a9:=p.a9) (a10:=p.a10) (a11:=p.a11)
    (b1:=T) (b2:=J) (i2:=i2) (i3:=i3) (i4:=i4) (bb:=b7) p2 p3 p4 ?_ ?_ ?_ ce cd O b6 t5 bz t3 t4 t6 t7 b' ca ad bd I.length [] Qx (λj B=>by cases B) (by simpa using List.length_filter_le _ (List.range I.length)) (by have:=Gm (λj=>!decide (j∈([]:List Nat))) (List.range I.length);simpa[jF]using this)
   refine M3.mono (M3.weak ?_ b5) ?_;refine Fv.subset (N:=N) (H:=BH H++[FU.live 0 [],FU.it I.length []]) λq y=>?_;rcases A8.1 y with rfl|y;exact Ep (Ep xj (D 0 1 _ _ rfl rfl g!)) (D 0 2 _ _ rfl rfl g!);rcases A8.1 y with rfl|y;exact xj;obtain⟨T,J⟩:=x q y;simp[YV.tmps,A8,not_or]at J;exact Ep (Ep (Ep T J.1) J.2.1) J.2.2.1;rintro e E h ⟨rfl,C,K,b4,Q,ap,ao⟩;show pk T _ (.exit T) E h;simp[pk,if_true,wV];refine M2.weak (Fv.subset b4) (M2.after (FZ d5 ?_));rw[l5];obtain⟨bm,hf⟩:=tZ hF;have ax:s.length=C.length:=by rw[L,<-K.length_eq,B5]
   have hA:=cm _ bm C () s (hs C K) ax h (BH H).length ao;simp[RW.f]at hf;rw[hf]at hA;refine XC.cons rfl (Dc (v:=.sl (BH H).length C.length n.sz 0 C.length) (congrArg some oo) (XC.cons rfl (JM.mono (o6 (F:=p.F) (vs:=[.sl (BH H).length C.length n.sz 0 C.length,.fn (.func G) [] []]) ?_ hE hA) ?_)));show some (Sum.inl (p.F,[]++[Env.get _ p.a12,AY.fn (.func p.G) [] []]++[]))=_;simp only[Env.putO,Fx,if_true,bG];rfl;rintro _ _ ⟨rfl,rfl⟩;refine XC.nil ⟨_,_,?_,rfl,rfl,rfl⟩;have ct:(h.set (BH H).length (.live C.length (n.E.cl s))).length=h.length:=k!
   rw[<-ct];refine Wf (by simp[BH];rw[Q,d]) λX g' w _=>?_;have hr:Ul (cx X g' (h.set (BH H).length (.live C.length (n.E.cl s))) w) (cx X g' (h.set (BH H).length (.live C.length (n.E.cl s))) w) (h.set (BH H).length (.live C.length (n.E.cl s))) (BH (H++[.buf false n s s.length 0,.dead])):=by
    refine⟨by simp[BH];rw[Q,d],λj e' B=>?_⟩;have same:(h.set (BH H).length (.live C.length (n.E.cl s)))[j]? =some e'->e'= .dead\/_:=λhh=>(Ul.refl (cx X g' (h.set (BH H).length (.live C.length (n.E.cl s))) w) (h.set (BH H).length (.live C.length (n.E.cl s)))).2 j e' hh;have co:BH (H++[.buf false n s s.length 0,.dead])=BH H++[FU.live s.length (n.E.cl s),FU.dead]:=by simp[BH,Dr.enc]
    rw[co]at B;rcases Qz j (BH H).length with bl|rfl|cW;rw[CL bl]at B;exact same (by rw[Dw o!,ap j bl];exact B);rw[Cb (Am _),Gd]at B;exact same (by rw[HG o!,<-ax];exact B);rw[Cb o!]at B;rcases Qz (j-(BH H).length) 1 with q|q|q;omega;rw[q]at B;injection B with B;exact .inl B.symm;rw[Cc w!]at B;cases B
   refine⟨hr.onto,λt v' S=>⟨v',?_,λc r=>r.later hr.later⟩⟩;simp[Env.putO];have S:(t,v')∈(p.out,AY.sl (BH H).length s.length n.sz 0 s.length)::B9 (Z6 p.tmps env):=by rw[d];exact S
   rcases A8.1 S with e|S;cases e;rw[ax];exact Ep (Ep Iy (D 0 12 _ _ rfl rfl g!)) (D 0 13 _ _ rfl rfl g!);obtain⟨T,J⟩:=x _ S;simp only[YV.tmps,A8,not_or]at J;exact Ep (Ep (CQ _ S) J.2.2.2.2.2.2.2.2.2.2.2.2.1) J.2.2.2.2.2.2.2.2.2.2.2.2.2.1;exact bt.sublist ar;exact λt ht=>hN t (ar.subset ht);exact λq y S=>(x q y).2 (ar.subset S);rcases A8.1 y with rfl|y;exact J2 b3;exact step.tv (ok.env q (WT y).1);intro e he;rcases A1.1 he with he|he;exact step.ent (ok.heap e he);simp[A8,List.not_mem_nil,or_false]at he;rcases he with rfl|rfl;rfl;trivial;show Bc.get _ u=_;have:p.out≠u:=λe=>hu (by rw[<-e];simp[YV.tmps]);simp[Bc.get,beq_false this];exact qB hu env
 cases o;cases o;cases o;cases o;cases o;cases o
end
abbrev Sem:= ∀{R:Type},Bc->Aq->(Exit->Bc->Aq->Option R)->Option R
def pF:List (Nat×Ty)->Bc->Aq->Option (Bc×Aq)
 |[],env,H=>some (env,H)
 |(t,ty)::r,env,H=>
  match env.get t with
  | .c .nil=>pF r (env.put t (.c (.own H.length 0 ty 0))) (H++[.buf false ty [] 0 0])
  |_=>none
def tR:Nat->List Bs->Option (List Bs×List Bs)
 |0,.nil::r=>some ([],r)
 |n+1,x::r=>match tR n r with|some (a,b)=>some (x::a,b)|none=>none
 |_,_=>none
def lJ:List (Nat×Nat×Ty)->Aq->Option Aq
 |[],H=>some H
 |(b,i,ty)::r,H=>
  match H[b]? with
  |some (.live false cs)=>
   match tR i cs with
   |some (x,y)=>lJ r (H.set b (.live false (x++ .own H.length 0 ty 0::y))++[.buf false ty [] 0 0])
   |none=>none
  |_=>none
def AFy(h:Hint)(env:Bc)(H:Aq):Option (Bc×Aq):=
 match pF h.virt env H with
 |some (e,H1)=>match lJ h.virtC H1 with|some H2=>some (e,H2)|none=>none
 |none=>none
def AFn(h:Hint)(n:Nat)(eb:Bc)(H0:Aq)(S:List Nat)(k:Exit->Bc->Aq->Option R)(o:xW h.exits):Option R:=
 AHb h.exits o λx sl ds=>
  match XY sl ds eb H0 with
  |some (e,hh)=>match vA n e&&(mN n hh&&S.all λj=>Oj j (Lk sl))with|true=>k x e hh|false=>none
  |none=>none
def ADv(h:Hint)(A:List Nat)(run:Sem):Sem:=λenv H k=>
 match AFy h env H with
 |none=>none
 |some (env0,H0)=>
  match qa env0 with
  |false=>none
  |true=>(run env0 (M1 (Lk h.slots) 0 H0) λx e1 h1=>AAf h.exits x e1 h1).bind λo=>AFn h H0.length (Q3 A (Lk h.slots) H0 env0) H0 (Lk h.slots) k o
def ABa(h:Hint)(x:Exit)(env:Bc)(H:Aq):Option (Step (DL (ik h.slots)) (xW h.exits)):=
 match yk .normal x with
 |true=>match yV h.slots env H with|some s=>some (.next s)|none=>none
 |false=>match AAf h.exits x env H with|some o=>some (.done o)|none=>none
noncomputable def AD1(h:Hint)(A:List Nat)(run:Sem):Sem:=λenv H k=>
 match AFy h env H with
 |none=>none
 |some (env1,H1)=>
  match II (h.kill++mm env1 H1 h.slots) env1 H1 with
  |(env0,H0)=>
   match qa env0,bE env0 H0 h.slots with
   |true,some ds=>
    match AAb (ik h.slots) ds with
    |some s0=>(AZ (λs=>
      match XY h.slots (dvs (ik h.slots) s) (Q3 A (Lk h.slots) H0 env0) (M1 (Lk h.slots) 0 H0)with
      |some (e,hh)=>match vA H0.length e&&mN H0.length hh with|true=>run e hh λx e1 h1=>ABa h x e1 h1|false=>none
      |none=>none) s0).bind λo=>AFn h H0.length (Q3 A (Lk h.slots) H0 env0) H0 (Lk h.slots) k o
    |none=>none
   |_,_=>none
def ABO(c:Operand)(ra rb:Sem):Sem:=λenv H k=>
 match JO env c with
 | .c (.bl v)=>cond v (ra env H k) (rb env H k)
 |_=>none
def AAA(id:Nat)(r:Sem):Sem:=λenv H k=>r env H λe env' H'=>
 match e with
 | .exit id'=>match Nat.beq id' id with|true=>k .normal env' H'|false=>k (.exit id') env' H'
 |e=>k e env' H'
def vu(o:Option Hint)(A:List Nat)(run:Sem):Sem:=
 match o with
 |some h=>ADv h A run
 |none=>run
noncomputable def AGZ(o:Option Hint)(A:List Nat)(run:Sem):Sem:=
 match o with
 |some h=>AD1 h A run
 |none=>λ_ _ _=>none
def iW:Bc->Bc
 |[]=>[]
 |(t,v)::r=>match K6 v.refs with|[]=>(t,v)::iW r|_=>iW r
def AAp(P:Program)(call:Tn)(N:Nat)(me:FuncId)(f:Operand)(ps:Array Tmp)(a b:Code):Sem:=λenv H k=>
 match JO env f with
 | .c (.raw (.fn (.func G) first caps))=>
  match Enters P G with
  |true=>call (.fn G) (first.map tvA++[.c (.raw (.yf H.length))]++caps.map tvA) (H++[.lp false me N (iW env) ps a b .ready]) λ_ H'=>
   match H'[H.length]? with
   |some (.lp false _ _ _ _ _ _ .ready)=>k .normal env (H'.set H.length .dead)
   |some (.lp false _ _ _ _ _ _ .ret)=>k .ret env (H'.set H.length .dead)
   |some (.lp false _ _ _ _ _ _ (.exit x))=>k (.exit x) env (H'.set H.length .dead)
   |_=>none
  |false=>none
 |_=>none
noncomputable def ng(P:Program)(cs:List RW)(call:Tn)(N:Nat)(me:FuncId)(hs:List Hint):Code->Sem
 | .skip=>λenv H k=>k .normal env H
 | .ret=>λenv H k=>k .ret env H
 | .exit id=>λenv H k=>k (.exit id) env H
 | .seq a (.seq m r)=>λenv H k=>
  match oJ a m with
  |some p=>ADW P N cs p env H λenv' H'=>ng P cs call N me hs r env' H' k
  |none=>ng P cs call N me hs a env H λe env' H'=>match e with| .normal=>ng P cs call N me hs (.seq m r) env' H' k|e=>k e env' H'
 | .seq a b=>vu (sR hs a b) (Re hs (.seq a b)) λenv H k=>ng P cs call N me hs a env H λe env' H'=>match e with| .normal=>ng P cs call N me hs b env' H' k|e=>k e env' H'
 | .cond c a b=>vu (hintOf hs (.cond c a b)) (Re hs (.cond c a b)) (ABO c (ng P cs call N me hs a) (ng P cs call N me hs b))
 | .block id b=>vu (hintOf hs (.block id b)) (Re hs (.block id b)) (AAA id (ng P cs call N me hs b))
 | .loop b=>AGZ (hintOf hs (.loop b)) (Re hs (.loop b)) (ng P cs call N me hs b)
 | .region id ops false=>vu (hintOf hs (.region id ops false)) (Re hs (.region id ops false)) λenv H k=>
  match PH N ops.toList with
  |true=>zV P cs call ops (guards ops) false ops.toList 0 env H λenv' H'=>k .normal env' H'
  |false=>none
 | .region id ops true=>λenv H k=>
  match P.follows .mixedOrders&&ABp ops N (AAl ops)&&We P ops&&qa env with
  |true=>AAy P cs call ops (IH ops.toList []) (guards ops) (match oS 3 id hs with|some _=>true|none=>false) (AAl ops) [] env H λenv' H'=>k .normal env' H'
  |false=>none
 | .rangeFunc f ps a b=>AAp P call N me f ps a b
 |_=>λ_ _ _=>none
def AGD{f:List Hint}(j: ∀m r,J≠ .seq m r)(env:Bc)(H:Aq)(h:Exit→Bc→Aq→Option R):
  ng P c k N F f (.seq d J) env H h=vu (sR f d J) (Re f (.seq d J)) (λenv H h=>ng P c k N F f d env H λe g i=>match e with| .normal=>ng P c k N F f J g i h|e=>h e g i) env H h:=by
 cases J<;>first|rfl|exact absurd rfl (j _ _)
def QN(P:Program)(N:Nat)(A:List Nat)(c:Code)(run:Sem):Prop:= ∀{R:Type} (env:Bc) (H:Aq) (k:Exit->Bc->Aq->Option R) (r:R),Qs env H->run env H k=some r->
 ∃e env' H',vL P N c (B9 env) (BH H) (Yl e (B9 env') (BH H'))/\k e env' H'=some r/\Qs env' H'/\E5 A env H env' H'
theorem ABu: ∀{l:List (Nat×Ty)} {env:Bc} {H:Aq} {a:Bc} {b:Aq},Qs env H→pF l env H=some (a,b)→
  Qs a b/\E5 (l.map (·.1)) env H a b/\ ∀N,Fv N H.length (B9 env) (BH H) (B9 a) (BH b)
 |[],env,H,a,b,ok,h=>by grind[pF,E5.refl,Fv.refl,CR]
 |(t,ty)::r,env,H,a,b,ok,h=>by
  simp only[pF]at h;split at h;rename_i m;have st:CD H (H++[.buf false ty [] 0 0]):=CD.push H _;have g:(H++[Dr.buf false ty [] 0 0])[H.length]? =some (.buf false ty [] 0 0):=k!
  have i:Qs (env.put t (.c (.own H.length 0 ty 0))) (H++[.buf false ty [] 0 0]):=by refine⟨iZ (d:=some t) (st.env ok.env) (J2 (YS g)),λe f=>?_⟩;rcases A1.1 f with f|f;exact st.ent (ok.heap e f);rw[BI.1 f];rfl
  obtain⟨q1,q2,q3⟩:=ABu i h;refine⟨q1,?_,λN=>?_⟩;have o:E5 [t] env H (env.put t (.c (.own H.length 0 ty 0))) (H++[.buf false ty [] 0 0]):=⟨st,λu n _=>pD λe=>n (by simp[e])⟩
  exact E5.trans ok.env o q2;have w:=Fv.virt (N:=N) (env:=B9 env) (H:=BH H) (t:=t) (sz:=ty.sz) (by rw[VC,m];rfl);have j:=(q3 N).of_le (n0:=H.length) k!;rw[oP]at j;have k:BH (H++[.buf false ty [] 0 0])=BH H++[.live 0 []]:=by simp[BH,Dr.enc,Ur.cl]
  rw[k]at j;rw[CR]at w;exact w.trans j;cases h
def rD: ∀{n:Nat} {e x y:List Bs},tR n e=some (x,y)->e=x++ .nil::y
 |0,[],_,_,h=>by cases h
 |0,z::r,x,y,h=>by
  cases z<;>simp only[tR]at h<;>try (cases h;done)
  injection h with h;injection h with c d;subst c d;rfl
 |n+1,[],_,_,h=>by cases h
 |n+1,z::r,x,y,h=>by simp only[tR]at h;split at h;rename_i a b hr;injection h with h;injection h with c d;subst c d;rw[rD hr];rfl;cases h
theorem zg{env:Bc}: ∀{l:List (Nat×Nat×Ty)} {H c:Aq},Qs env H→lJ l H=some c→
  Qs env c/\CD H c/\ ∀N,Fv N H.length (B9 env) (BH H) (B9 env) (BH c)
 |[],H,c,ok,h=>by grind[lJ,Option.some.injEq,CD.refl,Fv.refl,B9,BH,CR]
 |(b,i,ty)::r,H,c,ok,h=>by
  simp only[lJ]at h;split at h;rename_i E v;split at h;rename_i x y B;have m:=rD B;subst m;have D:b<H.length:=q!
  have f:CD H (H++[Dr.buf false ty [] 0 0]):=CD.push H _;have a:H.set b (Dr.live false (x++Bs.own H.length 0 ty 0::y))++[Dr.buf false ty [] 0 0]=(H++[Dr.buf false ty [] 0 0]).set b (Dr.live false (x++Bs.own H.length 0 ty 0::y)):=q!
  have j:(H++[Dr.buf false ty [] 0 0])[b]? =some (Dr.live false (x++Bs.nil::y)):=q!
  have g:CD (H++[Dr.buf false ty [] 0 0]) ((H++[Dr.buf false ty [] 0 0]).set b (Dr.live false (x++Bs.own H.length 0 ty 0::y))):=CD.set j rfl λ_ _ _ _ _ e=>by cases e
  have n:(H++[Dr.buf false ty [] 0 0])[H.length]? =some (.buf false ty [] 0 0):=k!
  have t:lok H (x++Bs.nil::y):=ok.heap _ (BU v);have s: ∀e∈H++[Dr.buf false ty [] 0 0],e.ok (H++[Dr.buf false ty [] 0 0]):=λe d=>by rcases A1.1 d with d|d;exact f.ent (ok.heap e d);rw[BI.1 d];rfl
  have u:lok (H++[Dr.buf false ty [] 0 0]) (x++Bs.own H.length 0 ty 0::y):=by have q:=I7.1 (f.lok t);refine I7.2 ⟨q.1,λz o=>?_⟩;rcases A8.1 o with rfl|o;exact YS n;exact q.2 z (CQ _ o)
  rw[a]at h;have p:Qs env ((H++[Dr.buf false ty [] 0 0]).set b (Dr.live false (x++Bs.own H.length 0 ty 0::y))):=⟨g.env (f.env ok.env),heap_set g s (g.lok u)⟩
  obtain⟨q1,q2,q3⟩:=zg p h;refine⟨q1,(f.trans g).trans q2,λN=>?_⟩;have k:(BH H)[b]? =some (.live 0 (lvs (x++Bs.nil::y))):=by rw[E6,v];rfl
  have C:(lvs (x++Bs.nil::y))[(lvs x).length]? =some .nils:=by grind[Gg,HW,Bs.enc]
  have w:=Fv.virtC (N:=N) (env:=B9 env) (sz:=ty.sz) k C;have A:BH ((H++[Dr.buf false ty [] 0 0]).set b (Dr.live false (x++Bs.own H.length 0 ty 0::y)))=(BH H).set b (.live 0 ((lvs (x++Bs.nil::y)).set (lvs x).length (.sl (BH H).length 0 ty.sz 0 0)))++[.live 0 []]:=by
   rw[<-a];have:(lvs (x++Bs.nil::y)).set (lvs x).length (.sl (BH H).length 0 ty.sz 0 0)=lvs (x++Bs.own H.length 0 ty 0::y):=by grind[Gg,HW,CR,Bs.enc]
   grind[BH,Dr.enc,Ur.cl,List.map_set]
  rw[<-A,CR]at w;exact w.trans ((q3 N).of_le k!);cases h;cases h
theorem ABl(ok:Qs f b)(h:AFy s f b=some (L,B)):
  Qs L B/\E5 (s.virt.map (·.1)) f b L B/\ ∀N,Fv N b.length (B9 f) (BH b) (B9 L) (BH B):=by
 unfold AFy at h;split at h;rename_i e d n;obtain⟨a1,a2,a3⟩:=ABu ok n;split at h;rename_i H m;injection h with h;injection h with k l;subst k l;obtain⟨g,i,j⟩:=zg a1 m;have o:E5 [] e d e H:=⟨i,λ_ _ _=>rfl⟩
 exact⟨g,(E5.trans ok.env a2 o).mono λt p=>q!,λN=>(a3 N).trans ((j N).of_le a2.step.len)⟩;cases h;cases h
theorem vX{A S:List Nat}{H:Aq}: ∀{env:Bc},(env.map (·.1)).Nodup-> ∀t,env.get t=Vp->(Q3 A S H env).get t=Vp
 |[],_,_,_=>rfl
 |(u,v)::r,nd,t,h=>by have a:=Gc.1 nd;simp only[Bc.get]at h;by_cases b:u=t;subst b;have hn: ∀p∈Q3 A S H r,p.1≠u:=λp c e=>a.1 (Bl.2 ⟨p,(Rf a.2 p c).2.2,e⟩);grind[Q3,Bc.get,mh];rw[beq_false b]at h;have d:=vX (A:=A) (S:=S) (H:=H) a.2 t h;grind[Q3,Bc.get,beq_false]
theorem ABS{h:Hint}{A B:List Nat}{env0:Bc}{e:Aq}{D:Bc}{E:Aq}(m:Qs env0 e)(nd:(env0.map (·.1)).Nodup)(M:zn A (Lk h.slots) env0 e D E)
  {env1:Bc} {u:Aq} (C:Qs env1 u) (st:E5 B D E env1 u) (K: ∀t,t∈B->t∈A) (J: ∀t,t∈h.tmps->t∈A) {x:Exit} {o:xW h.exits} (Q:AAf h.exits x env1 u=some o)
  {R:Type} {k:Exit->Bc->Aq->Option R} {r:R} (f:AFn h e.length (Q3 A (Lk h.slots) e env0) e (Lk h.slots) k o=some r) (N:Nat):
  ∃g i,Fv N e.length (B9 env1) (BH u) (B9 g) (BH i)/\k x g i=some r/\Qs g i/\E5 A env0 e g i:=by
 obtain⟨rfl,L,p,S,y⟩:=wJ Q;have f:=wI f;split at f;rename_i g i O;split at f;rename_i v;simp at v;have sub: ∀j,Oj j (Lk (xX h.exits o).2.1)=false->Oj j (Lk h.slots)=false:=λj d=>Wb λG=>q!
 obtain⟨w,W,Y,z⟩:=ABH m nd M C st K L m.heap rfl (ADz e) (λ_ _ _ _ q=>q) (λj H d c=>by
  cases H with
  |dead=>grind
  |live b V=>exact .inr ⟨_,sub j d,by rw[Kk,c,D7,sub j d];rfl,rfl,.inr (.inl ⟨_,_,_,_,rfl,rfl,DW.refl _⟩)⟩
  |buf b t l n U=>exact .inr ⟨_,sub j d,by rw[Kk,c,D7,sub j d];rfl,rfl,.inr (.inr (.inl ⟨_,_,_,_,_,_,_,rfl,rfl⟩))⟩
  |mp b k t X=>exact .inr ⟨_,sub j d,by rw[Kk,c,D7,sub j d];rfl,rfl,.inr (.inr (.inr (.inr ⟨_,_,_,_,_,rfl,rfl⟩)))⟩
  |lp ro F n env Z a b s=>exact .inr ⟨_,sub j d,by rw[Kk,c,D7,sub j d];rfl,rfl,.inr (.inr (.inr (.inl ⟨_,_,_,_,_,_,_,_,_,rfl,rfl⟩)))⟩) O v.1 v.2.1 N
 refine⟨g,i,w,f,z.ok,z.step,λt T P=>?_⟩;have I:=Wb λG=>T (J t (by refine A1.2 (.inr (Hh.2 ⟨p,S,?_⟩));rw[<-y];exact G));rw[z.get t I];grind[yK,Vp,vX,lW,ADx,Wb];cases f;cases f
variable {P:Program} {N:Nat}
variable {h:Sem}
theorem y8(hr:QN P N a d h)(n: ∀t,t∈a->t∈A)(m: ∀t,t∈s.tmps->t∈A):QN P N A d (ADv s A h):=by
 intro R env H k r ok c;unfold ADv at c;dsimp only at c;split at c;cases c;rename_i env0 f v;split at c;cases c;rename_i hn;obtain⟨o,B,c⟩:=bnd c;obtain⟨b,x,y⟩:=ABl ok v;have nd:=aF hn;obtain⟨e,env1,z,a1,k1,g,i⟩:=hr env0 (M1 (Lk s.slots) 0 f) _ o (oz b) B;have q:zn A (Lk s.slots) env0 f env0 (M1 (Lk s.slots) 0 f):=⟨oz b,CD.refl _,Kl _ _,λ_ _=>rfl,λp u=>(Rf nd p u).1⟩
 obtain⟨j,l,w,q1,q2,q3⟩:=ABS b nd q g i n m k1 c N;refine⟨e,j,l,?_,q1,q2,?_⟩;rw[vy]at a1;refine vL.weak (by rw[CR];exact y N) (vL.after (a1.mono ?_));rintro _ _ _ ⟨rfl,rfl,rfl⟩;exact⟨_,_,by rw[CR];exact w,rfl,rfl,rfl⟩;exact(E5.trans ok.env x q3).mono λt C=>by grind[Hint.tmps]
theorem AD2(hr:QN P N a d h)(hB: ∀t,t∈a->t∈A)(X: ∀t,t∈s.tmps->t∈A):QN P N A (.loop d) (AD1 s A h):=by
 intro R env H k r ok g;unfold AD1 at g;dsimp only at g;split at g;cases g
 ·rename_i E Hv hv;obtain⟨a',sv,wv⟩:=ABl ok hv;obtain⟨m,sf,wf⟩:=Rk (s.kill++mm E Hv s.slots) a';generalize II (s.kill++mm E Hv s.slots) E Hv=fz at g m sf wf;obtain⟨env0,f⟩:=fz;simp only at g m sf wf;split at g
  ·rename_i ds hn hc;split at g
   ·rename_i s0 a6;obtain⟨o,ho,g⟩:=bnd g;have nd:=aF hn;have v: ∀e∈M1 (Lk s.slots) 0 f,e.ok (M1 (Lk s.slots) 0 f):=(oz m).heap;have hC:=AAV (C:=λV o=> ∀r,AFn s f.length (Q3 A (Lk s.slots) f env0) f (Lk s.slots) k o=some r->
     ∃u i,XY s.slots (dvs (ik s.slots) V) (Q3 A (Lk s.slots) f env0) (M1 (Lk s.slots) 0 f)=some (u,i)/\vA f.length u=true/\mN f.length i=true/\(zn A (Lk s.slots) env0 f u i-> ∃x D G,M3 P N d (B9 u) (BH i) (Yl x (B9 D) (BH G))/\k x D G=some r/\Qs D G/\E5 A env0 f D G)) (λV q U=>by
     split at U
     ·rename_i u i hi;split at U
      ·rename_i I;simp only[BO]at I;have body: ∀y:zn A (Lk s.slots) env0 f u i,∃e env1 J,vL P N d (B9 u) (BH i) (Yl e (B9 env1) (BH J))/\ABa s e env1 J=some q/\Qs env1 J/\E5 a u i env1 J:=λy=>hr u i _ q y.ok U;cases q with
       |next s'=>
        intro o ih r g;obtain⟨ad,ao,i1,i2,i3,i4⟩:=ih r g;refine⟨u,i,hi,I.1,I.2,λy=>?_⟩;obtain⟨e,env1,J,a1,k1,O,Q⟩:=body y;unfold ABa at k1;split at k1;rename_i hx;have:=tV hx;subst this;split at k1;rename_i s1 a7;injection k1 with k1;injection k1 with k1;subst k1;have a0:=nJ a7;obtain⟨w,ea,ha,z⟩:=ABH (Hx:=M1 (Lk s.slots) 0 f) m nd y O Q hB a0 v (Kl _ _) (.refl _) (λ_ _ _ _ q=>uO q) (λj e' L c=>by
         cases Y:f[j]? with
         |none=>grind[Kk]
         |some W=>
          have Z:=c;rw[Kk,Y,D7,L]at c;simp only[Bn,Al]at c;subst c;cases W with
          |dead=>exact .inl rfl
          |live b cs=>exact .inr ⟨_,L,Z,rfl,.inr (.inl ⟨_,_,_,_,rfl,rfl,DW.refl _⟩)⟩
          |buf b t l n bb=>exact .inr ⟨_,L,Z,rfl,.inr (.inr (.inl ⟨_,_,_,_,_,_,_,rfl,rfl⟩))⟩
          |mp b k t es=>exact .inr ⟨_,L,Z,rfl,.inr (.inr (.inr (.inr ⟨_,_,_,_,_,rfl,rfl⟩)))⟩
          |lp ro F n env ps B b V=>exact .inr ⟨_,L,Z,rfl,.inr (.inr (.inr (.inl ⟨_,_,_,_,_,_,_,_,_,rfl,rfl⟩)))⟩) i1 i2 i3 N
        have a2:zn A (Lk s.slots) env0 f ad ao:=⟨z.ok,z.step,by rw[z.len,Kl],z.same,λp M=>by
         obtain⟨T,b2,b3⟩:=Rf nd p M;have K:Oj p.1 A=false:=by grind[jC,Oj]
         rw[z.get p.1 (Wb λhm=>Uh K (X _ (by unfold Hint.tmps;simp only[List.mem_append];exact .inl (.inr hm))))];rw[lW nd p.1 (by rw[T];exact b2)];exact T⟩
        obtain⟨x,D,G,l1,l2,l3,l4⟩:=i4 a2;refine⟨x,D,G,Tf (a1.awp.mono ?_),l2,l3,l4⟩;rintro _ _ _ ⟨rfl,rfl,rfl⟩;exact⟨_,_,by rw[CR,y.len];exact w,l1⟩;cases k1;split at k1<;>grind
       |done o=>
        intro r g;refine⟨u,i,hi,I.1,I.2,λy=>?_⟩;obtain⟨e,env1,J,a1,k1,O,Q⟩:=body y;unfold ABa at k1;split at k1;split at k1<;>grind;rename_i hx;split at k1;rename_i o1 a5;injection k1 with k1;injection k1 with k1;subst k1;obtain⟨D,G,w,q1,q2,q3⟩:=ABS m nd y O Q hB X a5 g N;have a4:e≠ .normal:=by rintro rfl;cases hx
        refine⟨e,D,G,M3.after (Tf (a1.awp.mono ?_)),q1,q2,q3⟩;intro e1 ag bd a8;obtain⟨ap,ar,ax⟩:=a8;subst ap ar ax;have al: ∃env2 H2,Fv N (BH i).length (B9 env1) (BH J) env2 H2/\Yl e1 (B9 D) (BH G) e1 env2 H2:=⟨_,_,by rw[CR,y.len];exact w,rfl,rfl,rfl⟩
        cases e1 with
        |normal=>exact(a4 rfl).elim
        |_=>exact al
        cases k1
      cases U
     cases U) ho
    obtain⟨u,i,i1,i2,i3,i4⟩:=hC r g;have a3:=qZ a6;rw[a3]at i1;have a9:Qs (Q3 A (Lk s.slots) f env0) (M1 (Lk s.slots) 0 f):=⟨λp M=>(oz m).env p (Rf nd p M).2.2,v⟩
    have z:=Oi m hc i1 a9 (by rw[Kl];exact Am _) (λp M=>⟨p.2,(Rf nd p M).2.2,Xm.refl _⟩) (λj e' L c=>by
     rw[Kk]at c;cases Y:f[j]? with
     |none=>rw[Y]at c;cases c
     |some W=>
      rw[Y,D7,L]at c;simp only[Bn,Al]at c;subst c;refine⟨W,rfl,?_⟩;cases W with
      |dead=>exact .inl rfl
      |live b cs=>exact .inr (.inl ⟨_,_,_,_,rfl,rfl,DW.refl _⟩)
      |buf b t l n bb=>exact .inr (.inr (.inl ⟨_,_,_,_,_,_,_,rfl,rfl⟩))
      |mp b k t es=>exact .inr (.inr (.inr (.inr ⟨_,_,_,_,_,rfl,rfl⟩)))
      |lp ro F n env ps B b V=>exact .inr (.inr (.inr (.inl ⟨_,_,_,_,_,_,_,_,_,rfl,rfl⟩)))) (AFj f)
    have w:=z.weak (N:=N) (by rw[Kl];exact Am _) (by rw[Kl];exact i2) (by rw[Kl];exact i3);rw[Kl]at w;have y:zn A (Lk s.slots) env0 f u i:=⟨z.ok,z.step,by rw[z.len,Kl],z.same,λp M=>by
     obtain⟨T,b2,b3⟩:=Rf nd p M;have K:Oj p.1 A=false:=by grind[jC,Oj]
     rw[z.get p.1 (Wb λhm=>Uh K (X _ (by unfold Hint.tmps;simp only[List.mem_append];exact .inl (.inr hm))))];rw[lW nd p.1 (by rw[T];exact b2)];exact T⟩
    obtain⟨x,D,G,l1,l2,l3,l4⟩:=i4 y;have w3:Fv N H.length (B9 env) (BH H) (B9 u) (BH i):=((wv N).trans ((wf N).of_le (by rw[CR];exact sv.step.len))).trans (w.of_le (Cz sv.step.len sf.step.len));refine⟨x,D,G,vL.weak (by rw[CR];exact w3) l1,l2,l3,?_⟩;exact(E5.trans ok.env (E5.trans ok.env sv sf) l4).mono λt S=>by rcases A1.1 S with S|S;rw[D4]at S;exact X t (by unfold Hint.tmps;simp only[List.mem_append];exact .inl (.inl (.inr S)));exact S
   cases g
  cases g
def ADa{A B:List Nat}{j:Sem}(l:QN P N A d h)(m:QN P N B J j):QN P N (A++B) (.cond G d J) (ABO G h j):=by
 intro R env H k r ok f;unfold ABO at f;dsimp only at f;split at f;rename_i v n;have i:BJ (B9 env) G= .bool v:=by have:=LC env G;rw[n]at this;exact this
 cases v with
 |true=>obtain⟨e,c,g,a1,q1,q2,q3⟩:=l env H k r ok f;exact⟨e,c,g,D5 (λ_ e=>by cases e) (M2.cond i (λ_=>a1.awp) (λe=>by cases e)),q1,q2,q3.mono λt a=>A1.2 (.inl a)⟩
 |false=>obtain⟨e,c,g,a1,q1,q2,q3⟩:=m env H k r ok f;exact⟨e,c,g,D5 (λ_ e=>by cases e) (M2.cond i (λe=>by cases e) (λ_=>a1.awp)),q1,q2,q3.mono λt a=>A1.2 (.inr a)⟩
 cases f
def AB7{A:List Nat}(hr:QN P N A d h):QN P N A (.block n d) (AAA n h):=by
 intro R env H k r ok i;obtain⟨e,a,f,a1,q1,q2,q3⟩:=hr env H _ r ok i;cases e with
 |exit c=>
  simp only at q1;split at q1;rename_i b;have:=DR b;refine⟨.normal,a,f,D5 (λ_ e=>by cases e) (M2.block (a1.awp.mono ?_)),q1,q2,q3⟩;rintro _ _ _ ⟨rfl,rfl,rfl⟩;simp only[pk,if_pos this];exact⟨rfl,rfl,rfl⟩;rename_i b;have g:c≠n:=λe=>t!
  refine⟨.exit c,a,f,D5 (λ_ e=>by cases e) (M2.block (a1.awp.mono ?_)),q1,q2,q3⟩;rintro _ _ _ ⟨rfl,rfl,rfl⟩;simp only[pk,if_neg g];exact⟨rfl,rfl,rfl⟩
 |_=>refine⟨_,a,f,D5 (λ_ e=>by cases e) (M2.block (a1.awp.mono ?_)),q1,q2,q3⟩;rintro _ _ _ ⟨rfl,rfl,rfl⟩;exact⟨rfl,rfl,rfl⟩
end Go.Ab
namespace Go.Ab
variable {P:Program} {N:Nat}
variable {N n z:Nat}{R y:Type}{a A:List Nat}{b B:Aq}{c:List RW}{d J:Code}{F:FuncId}{f L S:Bc}{P:Program}{g:List AY}{h:Sem}{i:AY}{j:Bool}{k:Tn}{p:Ty}{q:Int}{t:List TV}{v:World}{x:Exit}{C:YV}{G:Operand}{I:IntKind}{K:Value}{M:Func}
def QN.mono(B:QN P N A d h)(f: ∀t,t∈A->t∈a):QN P N a d h:=λenv H k r ok g=>by obtain⟨e,b,c,q1,q2,q3,q4⟩:=B env H k r ok g;exact⟨e,b,c,q1,q2,q3,q4.mono f⟩
def uG{hs:List Hint}{A B:List Nat}(hr:QN P N B d h)(a: ∀t,t∈B->t∈A)(b: ∀t,t∈rJ hs d->t∈A):QN P N A d (vu (hintOf hs d) A h):=by
 unfold rJ at b;generalize hintOf hs d=o at b⊢;cases o with
 |none=>exact hr.mono a
 |some c=>exact y8 hr a b
def AD3{hs:List Hint}{A B:List Nat}(hr:QN P N B d h)(a: ∀t,t∈B->t∈A)(b: ∀t,t∈rJ hs (.loop d)->t∈A):QN P N A (.loop d) (AGZ (hintOf hs (.loop d)) A h):=by
 unfold rJ at b;generalize hintOf hs (.loop d)=o at b⊢;cases o with
 |none=>exact λenv H k r ok e=>by cases e
 |some c=>exact AD2 hr a b
def Wc: ∀{env:Bc} {p:Nat×TV},p∈iW env->p∈env/\K6 p.2.refs=[]
 |(t,v)::r,p,h=>by simp only[iW]at h;split at h;rename_i a;rcases A8.1 h with rfl|h;exact⟨Iy,a⟩;exact⟨CQ _ (Wc h).1,(Wc h).2⟩;exact⟨CQ _ (Wc h).1,(Wc h).2⟩
theorem ACj(Q:Xl P k){B:Array Tmp}:QN P N A (.rangeFunc G B d J) (AAp P k N F G B d J):=by
 intro R env H O r ok q;unfold AAp at q;dsimp only at q;split at q;rename_i b first m hf
 split at q;rename_i Z;have Y:BJ (B9 env) G= .fn (.func b) first m:=by rw[LC,hf];rfl
 have E:(Dr.lp false F N (iW env) B d J .ready).ok (H++[.lp false F N (iW env) B d J .ready]):=λp S id ag t n hm=>by have:=nT hm;rw[(Wc S).2]at this;cases this
 have U:CD H (H++[.lp false F N (iW env) B d J .ready]):=CD.push H _;obtain⟨v,i,q1,q2,q3,q4,q5⟩:=Q (.fn b) _ _ _ r (λv X=>by simp only[A1,Bl,BI]at X;rcases X with(⟨u,_,rfl⟩|rfl)|⟨u,_,rfl⟩;exact lI u;exact J2 trivial;exact lI u) (Pz ok.heap E) q
 have y: ∀{ro:Bool} {a n e p c w} {s:LS} {x:Exit},i[H.length]? =some (.lp ro a n e p c w s)→ro=false→(∀L:mW,L.state=s.st→L.pending=s.pend→AEW P N (B9 env) H.length (Yl x (B9 env) (BH (i.set H.length .dead))) ((BH i).set H.length (.lp L)))→O x env (i.set H.length .dead)=some r→
   ∃V g M,vL P N (.rangeFunc G B d J) (B9 env) (BH H) (Yl V (B9 g) (BH M))/\O V g M=some r/\Qs g M/\E5 A env H g M:=by
  intro ro a n e p c w s x o T hq q;subst T;have K:CD i (i.set H.length .dead):=CD.set o rfl λ_ _ _ _ _ h=>by cases h
  have st:=(U.trans q5).trans K;refine⟨x,env,_,D5 (λ_ e=>by cases e) (mO (B9 (iW env)) (λp S=>?_) Y Z ?_),q,⟨st.env ok.env,Vg K q4 trivial⟩,st,λ_ _ _=>rfl⟩;obtain⟨u,hu,rfl⟩:=Bl.1 S;exact Bl.2 ⟨u,(Wc hu).1,rfl⟩;have f:EM P b _ _ _:=q1;have z:(first.map tvA++[TV.c (.raw (.yf H.length))]++m.map tvA).map TV.enc=first++[.yf (BH H).length]++m:=by
   have W: ∀l:List AY,(l.map tvA).map TV.enc=l:=by
    intro l;rw[Qu];conv=>rhs;rw[<-fD l]
    grind[List.map_congr_left,im]
   rw[M5,M5,W,W,CR];rfl
  rw[z,Ri]at f;apply f.mono;rintro _ _ ⟨rfl,rfl⟩;rw[CR];have I:BH i=(BH i).set H.length (.lp ⟨n,B9 e,p,c,w,s.st,s.pend⟩):=by
   have hg:(BH i)[H.length]? =some (.lp ⟨n,B9 e,p,c,w,s.st,s.pend⟩):=by rw[E6,o];rfl
   apply I2;intro j;by_cases ad:j=H.length<;>grind
  rw[I];exact hq _ rfl rfl
 have look: ∀L:mW,H.length<i.length->((BH i).set H.length (.lp L))[H.length]? =some (.lp L):=λL h=>by grind[List.getElem?_set_self,CR]
 have dead: ∀L:mW,((BH i).set H.length (.lp L)).set H.length .dead=BH (i.set H.length .dead):=λL=>by rw[Ya,N7];rfl
 split at q2;rename_i o;refine y o rfl (λL C D=>⟨L,look L (Gx o),by rw[C];simp[LS.st],?_⟩) q2;rw[D,dead];exact⟨rfl,rfl,rfl⟩;rename_i o;refine y o rfl (λL C D=>⟨L,look L (Gx o),by rw[C];simp[LS.st],?_⟩) q2;rw[D,dead];exact M2.ret ⟨rfl,rfl,rfl⟩;rename_i x o;refine y o rfl (λL C D=>⟨L,look L (Gx o),by rw[C];simp[LS.st],?_⟩) q2;rw[D,dead];exact M2.exit ⟨rfl,rfl,rfl⟩;cases q2;cases q;cases q
theorem ADY{hs:List Hint}(h:oJ d J=some C): ∀t∈C.tmps,t∈Re hs d++Re hs J:=by obtain⟨o,v,l,q,w,n,r,x,s,y,u,z,rfl,rfl,f,g,i,j,k,_⟩:=oK h;obtain⟨_,_,_,_,_,_,l1⟩:=rQ f;obtain⟨_,_,_,_,_,_,l2⟩:=rR g;obtain⟨_,_,_,_,_,_,_,_,_,_,_,_,c⟩:=rS i;obtain⟨_,_,_,_,_,_,_,_,_,_,_,_,_,_,_,a⟩:=rT j;obtain⟨_,_,_,_,_,_,_,e⟩:=rU k;intro t b;simp only[Re,l1,l2,c,a,e,oO,A1];simp only[YV.tmps]at b;grind
theorem AGC(B: ∀v∈c,v.Ok P)(z:Xl P k)(x:FuncId)(d:List Hint): ∀v:Code,QN P N (Re d v) v (ng P c k N x d v)/\ ∀m r,v= .seq m r->QN P N (Re d r) r (ng P c k N x d r):=by
 intro v;induction v with
 |skip=>exact⟨λenv H g r ok n=>⟨.normal,env,H,D5 (λ_ e=>by cases e) (M2.skip ⟨rfl,rfl,rfl⟩),n,ok,E5.refl _ _ _⟩,λ_ _ e=>by cases e⟩
 |ret=>exact⟨λenv H g r ok n=>⟨.ret,env,H,D5 (λ_ e=>by cases e) (M2.ret ⟨rfl,rfl,rfl⟩),n,ok,E5.refl _ _ _⟩,λ_ _ e=>by cases e⟩
 |exit id=>exact⟨λenv H g r ok n=>⟨.exit id,env,H,D5 (λ_ e=>by cases e) (M2.exit ⟨rfl,rfl,rfl⟩),n,ok,E5.refl _ _ _⟩,λ_ _ e=>by cases e⟩
 |seq a b D s=>
  refine⟨?_,λm r e=>by injection e with K L;subst K L;exact s.1⟩;have G:QN P N (Re d a++Re d b) (.seq a b) (λenv H g=>ng P c k N x d a env H λe j u=>match e with| .normal=>ng P c k N x d b j u g|e=>g e j u):=by
   intro R env H g r ok n;obtain⟨e,env1,O,a1,k1,w,S⟩:=D.1 env H _ r ok n;cases e with
   |normal=>obtain⟨L,env2,y,a2,W,F,s2⟩:=s.1 env1 O g r w k1;refine⟨L,env2,y,D5 (λ_ e=>by cases e) (M2.seq (a1.awp.mono ?_)),W,F,E5.trans ok.env S s2⟩;rintro _ _ _ ⟨rfl,rfl,rfl⟩;exact a2.awp
   |_=>refine⟨_,env1,O,D5 (λ_ e=>by cases e) (M2.seq (a1.awp.mono ?_)),k1,w,S.mono λt l=>A1.2 (.inl l)⟩;rintro _ _ _ ⟨rfl,rfl,rfl⟩;exact⟨rfl,rfl,rfl⟩
  intro R env H g r ok n;by_cases hq: ∃m I,b= .seq m I;obtain⟨m,I,rfl⟩:=hq;simp only[ng]at n;split at n;rename_i p hp;obtain⟨env1,O,a1,k1,w,S⟩:=ADX B hp ok n;obtain⟨L,env2,y,a2,W,F,s2⟩:=s.2 m I rfl env1 O g r w k1;refine⟨L,env2,y,D5 (λ_ e=>by cases e) (M2.seq (a1.mono ?_)),W,F,(E5.trans ok.env S s2).mono λt l=>?_⟩;intro e E h hx;cases e with
  |normal=>exact M2.seq (hx.mono (by rintro _ _ _ ⟨rfl,rfl,rfl⟩;exact a2.awp))
  |_=>exact hx.elim
  show t∈(Re d a++((Re d m++Re d I)++uo d m I))++uo d a (.seq m I);rcases A1.1 l with l|l;rcases A1.1 (ADY (hs:=d) hp t l)with h|h<;>simp[h];simp[l];exact G.mono (λt l=>A1.2 (.inl l)) env H g r ok n;have n:ng P c k N x d (.seq a b) env H g=some r:=n;rw[AGD λm r e=>hq ⟨m,r,e⟩]at n;have T: ∀t,t∈uo d a b->t∈Re d (.seq a b):=λt l=>A1.2 (.inr l);have hB: ∀t,t∈Re d a++Re d b->t∈Re d (.seq a b):=λt l=>A1.2 (.inl l);unfold uo at T;generalize sR d a b=o at n T;cases o with
  |none=>exact G.mono hB env H g r ok n
  |some h=>exact y8 G hB T env H g r ok n
 |cond v a b D s=>have M:QN P N (Re d a++Re d b) (.cond v a b) (ABO v (ng P c k N x d a) (ng P c k N x d b)):=ADa D.1 s.1;refine⟨?_,λ_ _ e=>by cases e⟩;intro R;exact uG (hs:=d) (A:=Re d (.cond v a b)) M (λt l=>A1.2 (.inl l)) (λt l=>A1.2 (.inr l))
 |block id b V=>have M:QN P N (Re d b) (.block id b) (AAA id (ng P c k N x d b)):=AB7 V.1;refine⟨?_,λ_ _ e=>by cases e⟩;intro R;exact uG (hs:=d) (A:=Re d (.block id b)) M (λt l=>A1.2 (.inl l)) (λt l=>A1.2 (.inr l))
 |loop b V=>exact⟨AD3 (hs:=d) (A:=Re d (.loop b)) V.1 (λt l=>A1.2 (.inl l)) (λt l=>A1.2 (.inr l)),λ_ _ e=>by cases e⟩
 |region id q J=>
  refine⟨?_,λ_ _ e=>by cases e⟩;cases J with
  |false=>
   have M:QN P N (oO q.toList) (.region id q false) (λenv H g=>match PH N q.toList with
    |true=>zV P c k q (guards q) false q.toList 0 env H λj u=>g .normal j u
    |false=>none):=by
    intro R env H g r ok n;dsimp only at n;split at n;rename_i C;obtain⟨j,u,X,Y,Z,r4⟩:=ia (N:=N) B z _ _ _ _ _ _ ok n;refine⟨.normal,j,u,D5 (λ_ e=>by cases e) (FZ C ?_),Y,Z,r4⟩;show XC P N q q.toList (B9 env) (BH H) (λK y=>Exit.normal=Exit.normal/\K=B9 j/\y=BH u);simpa using X;cases n
   intro R;exact uG (hs:=d) (A:=Re d (.region id q false)) M (λt l=>A1.2 (.inl l)) (λt l=>A1.2 (.inr l))
  |true=>
   intro R env H g r ok n;simp only[ng]at n;split at n;rename_i C;simp only[BO]at C;obtain⟨j,u,X,Y,Z,r4⟩:=ZK (N:=N) B z _ _ _ _ _ _ ok n;refine⟨.normal,j,u,D5 (λ_ e=>by cases e) (kX C.1.1.1 _ C.1.1.2 C.1.2 ?_ ?_),Y,Z,r4.mono λt l=>A1.2 (.inl ?_)⟩;have:=aF C.2;rw[B9,Qu];exact this;show RA P N q (AAl q) [] (B9 env) (BH H) (λK y=>Exit.normal=Exit.normal/\K=B9 j/\y=BH u);simpa using X;unfold vB at l;obtain⟨i,_,Q⟩:=TW.1 l;cases U:q[i]? with
   |none=>rw[U]at Q;cases Q
   |some o=>
    rw[U]at Q;refine TW.2 ⟨o,?_,Q⟩;have:q.toList[i]? =some o:=by simpa using U
    exact BU this
   cases n
 |rangeFunc f ps a b _ _=>exact⟨ACj z,λ_ _ e=>by cases e⟩
 |_=>exact⟨λenv H g r ok n=>(by simp only[ng]at n;cases n),λ_ _ e=>by cases e⟩
theorem qm(f: ∀b∈c,b.Ok P)(e:Xl P k)(g:FuncId)(d:List Hint)(b:Code):QN P N (Re d b) b (ng P c k N g d b):=by grind[AGC]
end Go.Ab
namespace Go.Ab
def dR:Nat->List TV->Bc
 |_,[]=>[]
 |i,v::r=>(i,v)::dR (i+1) r
def nV(P:Program)(env:Bc)(H:Aq):List ResultVar->Option (List TV)
 |[]=>some []
 | .tmp t::r=>match nV P env H r with|some vs=>some (env.get t::vs)|none=>none
 | .cell a t::r=>match nV P env H r with|some vs=>loadT P H t (env.get a) λv=>some (v::vs)|none=>none
def y0:Exit->Bool
 | .normal=>true
 | .ret=>true
 |_=>false
variable {N n z:Nat}{R y:Type}{b B:Aq}{c:List RW}{F:FuncId}{f L S:Bc}{P:Program}{g:List AY}{i:AY}{j:Bool}{p:Ty}{q:Int}{t:List TV}{v:World}{x:Exit}{I:IntKind}{K:Value}{M:Func}
def AIK(P:Program)(fn:Func)(k:TV->Aq->Option R):Exit->Bc->Aq->Option R:=λe env H=>
 match y0 e with
 |true=>match nV P env H fn.results.toList with|some vs=>k (one vs) H|none=>none
 |false=>none
def zY:Bc->List Tmp->List TV->Bc
 |env,t::ts,v::vs=>zY (env.put t v) ts vs
 |env,_,_=>env
def AEb(id:Nat)(k:TV->Aq->Option R):Exit->Bc->Aq->Option R:=λe _ H=>
 match H[id]? with
 |some (.lp false F n env ps a b _)=>
  match e with
  | .normal=>k (.c (.bl true)) (H.set id (.lp false F n env ps a b .ready))
  | .ret=>k (.c (.bl false)) (H.set id (.lp false F n env ps a b .ret))
  | .exit x=>k (.c (.bl false)) (H.set id (.lp false F n env ps a b (.exit x)))
  |_=>none
 |_=>none
noncomputable def AAw(P:Program)(cs:List RW)(call:Tn)(hs:FuncId->List Hint)(id:Nat)(vs:List TV)(H:Aq){R:Type}(k:TV->Aq->Option R):Option R:=
 match H[id]? with
 |some (.lp false F n env ps a b .ready)=>
  match Nat.beq vs.length ps.size&&ps.toList.all λt=>Nat.blt t n with
  |true=>ng P cs call n F (hs F) a (zY env ps.toList vs) H λe env1 H1=>
   match e with
   | .normal=>
    match H1[id]? with
    |some (.lp false F1 n1 e1 ps1 a1 b1 .ready)=>ng P cs call n F (hs F) b env1 (H1.set id (.lp false F1 n1 e1 ps1 a1 b1 .busy)) (AEb id k)
    |_=>none
   |_=>none
  |false=>none
 |_=>none
noncomputable def qw(P:Program)(cs:List RW)(hs:FuncId->List Hint):Nat->Tn
 |0=>λ_ _ _ _=>none
 |n+1=>λtg vs H k=>
  match tg with
  | .fn F=>
   match P.funcs[F]? with
   |some fn=>
    match fn.body with
    |some c=>match Nat.ble vs.length fn.ntmps with|true=>ng P cs (qw P cs hs n) fn.ntmps F (hs F) c (dR 0 vs) H (AIK P fn k)|false=>none
    |none=>none
   |none=>none
  | .yd id=>AAw P cs (qw P cs hs n) hs id vs H k
def uF(bt:Ty):(rs:List Ty)->DL rs->bt.D->DL (rs++[bt])
 |[],_,b=>b
 |[_],y,b=>(y,b)
 |_::u::r,y,b=>(y.1,uF bt (u::r) y.2 b)
def refsOf(vs:List TV):List Nat:=vs.flatMap λv=>K6 v.refs
def AIH(P:Program)(fn:Func)(rs:List Ty):Exit->Bc->Aq->Option (DL rs):=λe env H=>
 match y0 e with
 |true=>
  match nV P env H fn.results.toList with
  |some vs0=>match II (refsOf vs0) env H with|(ef,hf)=>match nV P ef hf fn.results.toList with|some vs=>inp rs vs|none=>none
  |none=>none
 |false=>none
def AII(P:Program)(fn:Func)(bt:Ty)(rs:List Ty):Exit->Bc->Aq->Option (DL (rs++[bt])):=λe env H=>
 match y0 e with
 |true=>
  match nV P env H fn.results.toList with
  |some vs0=>
   match II (refsOf vs0++(match (H[0]? :Option Dr)with|some (.live _ cs)=>K6 cs|_=>[])) env H with
   |(ef,hf)=>
    match nV P ef hf fn.results.toList,(hf[0]? :Option Dr)with
    |some vs,some (.live _ cs)=>match inp rs vs,bt.all cs with|some y,some b=>some (uF bt rs y b)|_,_=>none
    |_,_=>none
  |none=>none
 |false=>none
def uD:Nat->TV->List TV->List TV
 |0,v,l=>v::l
 |n+1,v,x::l=>x::uD n v l
 |_+1,v,[]=>[v]
noncomputable def yP(P:Program)(cs:List RW)(hs:FuncId->List Hint)(n:Nat)(F:FuncId)(ds rs:List Ty)(x:DL ds):Option (DL rs):=
 match P.funcs[F]? with
 |some fn=>
  match fn.body with
  |some c=>match Nat.ble (xv ds x).length fn.ntmps with|true=>ng P cs (qw P cs hs n) fn.ntmps F (hs F) c (dR 0 (xv ds x)) [] (AIH P fn rs)|false=>none
  |none=>none
 |none=>none
noncomputable def ADQ(P:Program)(cs:List RW)(hs:FuncId->List Hint)(n:Nat)(F:FuncId)(pos:Nat)(bt:Ty)(ds rs:List Ty)(b:bt.D)(x:DL ds):Option (DL (rs++[bt])):=
 match P.funcs[F]? with
 |some fn=>
  match fn.body with
  |some c=>
   match Nat.ble (uD pos (.c (.raw (.ptr 0 0 0))) (xv ds x)).length fn.ntmps with
   |true=>ng P cs (qw P cs hs n) fn.ntmps F (hs F) c (dR 0 (uD pos (.c (.raw (.ptr 0 0 0))) (xv ds x))) [.live false (bt.lvs b)] (AII P fn bt rs)
   |false=>none
  |none=>none
 |none=>none
theorem dS: ∀(l:List TV) (i:Nat),B9 (dR i l)=env0 i (l.map TV.enc)
 |[],_=>rfl
 |v::r,i=>by have:=dS r (i+1);grind[B9,dR,env0]
def kV{H:Aq}: ∀{l:List TV} {i:Nat},(∀v∈l,v.ok H)-> ∀p∈dR i l,p.2.ok H
 |[],_,_,p,a=>by cases a
 |v::r,i,h,p,a=>by simp only[dR]at a;rcases A8.1 a with rfl|a;exact h v k!;exact kV (λw b=>h w (by simp[b])) p a
theorem mA{P:Program}{env:Bc}{H:Aq}(d: ∀p∈env,p.2.ok H)(c: ∀e∈H,e.ok H): ∀{l:List ResultVar} {b:List TV},nV P env H l=some b->TR P (B9 env) (BH H) l=some (b.map TV.enc)/\ ∀v∈b,v.ok H
 |[],b,h=>by simp only[nV,Al]at h;subst h;exact⟨rfl,λv g=>by cases g⟩
 | .tmp t::r,b,h=>by simp only[nV]at h;split at h;rename_i i f;obtain⟨q1,q2⟩:=mA d c f;grind[TR,nW,VC,qO];cases h
 | .cell a t::r,b,h=>by simp only[nV]at h;split at h;rename_i i f;obtain⟨q1,q2⟩:=mA d c f;obtain⟨u,j,k,m⟩:=rN c (qO d a) h;grind[TR,nW,VC];cases h
def uf(d: ∀p∈f,p.2.ok b)(c: ∀e∈b,e.ok b)(h:nV P f b M.results.toList=some t):jE P M (B9 f) (BH b)=some (qd (t.map TV.enc)):=by
 unfold jE;rw[(mA d c h).1];cases t with
 |nil=>rfl
 |cons v r=>
  cases r with
  |nil=>rfl
  |cons u r=>rfl
def wT: ∀(a:List Tmp) (b:List TV) (env:Bc),Rs (B9 env) a (b.map TV.enc)=B9 (zY env a b)
 |[],_,_=>rfl
 |_::_,[],_=>rfl
 |t::a,v::b,env=>by simp only[Bt,Rs,zY];rw[<-oP];exact wT a b (env.put t v)
def zZ{H:Aq}: ∀(b:List Tmp) (a:List TV) (env:Bc),(∀p∈env,p.2.ok H)->(∀v∈a,v.ok H)-> ∀p∈zY env b a,p.2.ok H
 |[],_,_,h,_=>h
 |_::_,[],_,h,_=>h
 |t::b,v::a,env,h,hv=>zZ b a (env.put t v) (iZ (d:=some t) h (hv v k!)) λu c=>hv u (by simp[c])
def AGa{c:Bool}{F n env ps a H}{s e:LS}(h:(Dr.lp j F n env ps a H s).ok b):(Dr.lp c F n env ps a H e).ok B:=h
theorem ABi{F n env ps a H}{s s':LS}(h:b[N]? =some (.lp false F n env ps a H s)):CD b (b.set N (.lp false F n env ps a H s')):=CD.set h rfl (λ_ _ _ _ _ h=>by cases h) λ_ _ _ _ _ _ _ _ e=>q!
def AAX{F n env ps a H}{s:LS}(h:b[N]? =some (.lp j F n env ps a H s)):(BH b)[N]? =some (.lp ⟨n,B9 env,ps,a,H,s.st,s.pend⟩):=by rw[E6,h];rfl
theorem ACo{P:Program}{cs:List RW}(K: ∀c∈cs,c.Ok P){hs:FuncId→List Hint}{g:Tn}(J:Xl P g){R:Type}{id:Nat}{S:List TV}{H:Aq}{k:TV→Aq→Option R}{r:R}(hv: ∀v∈S,v.ok H)(hH: ∀e∈H,e.ok H)
  (h:AAw P cs g hs id S H k=some r): ∃v d,ABE P (S.map TV.enc) (BH H) v.enc (BH d) (.yd id)/\k v d=some r/\v.ok d/\(∀e∈d,e.ok d)/\CD H d:=by
 unfold AAw at h;split at h;rename_i F n env ps a b he;split at h;rename_i hb;simp only[BO]at hb;have M: ∀p∈env,p.2.ok H:=λp hp x hx=>by
  have:=(hH _ (BU he)) p hp;cases x with
  |own i v t m=>grind
  |_=>trivial
 obtain⟨e,env1,T,a1,k1,w,s1⟩:=qm (N:=n) K J F (hs F) a _ H _ r ⟨zZ ps.toList S env M hv,hH⟩ h;split at k1;split at k1;rename_i F1 n1 Y z U V s;have B:CD T _:=ABi (s':=.busy) s;obtain⟨x,env2,D,a2,j,O,s2⟩:=qm (N:=n) K J F (hs F) b _ _ _ r ⟨B.env w.env,Vg B w.heap (AGa (w.heap _ (BU s)))⟩ k1;unfold AEb at j;split at j;rename_i F2 n2 Z A W X s0 u
 have l: ∀(v:Bool) (C:LS),k (.c (.bl v)) (D.set id (.lp false F2 n2 Z A W X C))=some r→(∀L:mW,(BH D)[id]? =some (.lp L)→L=⟨n2,B9 Z,A,W,X,s0.st,s0.pend⟩→AEc id (C6 (.bool v) (BH (D.set id (.lp false F2 n2 Z A W X C)))) x (B9 env2) (BH D))→
   ∃v d,ABE P (S.map TV.enc) (BH H) v.enc (BH d) (.yd id)/\k v d=some r/\v.ok d/\(∀e∈d,e.ok d)/\CD H d:=by
  intro v C hk hq;have Q:CD D _:=ABi (s':=C) u;refine⟨.c (.bl v),_,?_,hk,J2 trivial,Vg Q O.heap (AGa (O.heap _ (BU u))),((s1.step.trans B).trans s2.step).trans Q⟩;intro N o c f env0 ho I hf q;apply JM.yield ho I hf (AAX he);grind[List.length,List.length_map,Array.length_toList,Nat.eq_of_beq_eq_true];simp_all;show M2 P n a (Rs (B9 env) ps.toList (c.args.toList.map (BJ env0))) (BH H) _;rw[q,wT];apply a1.awp.mono;rintro _ _ _ ⟨rfl,rfl,rfl⟩;refine⟨rfl,_,AAX s,rfl,?_⟩;have e3:(BH T).set id (.lp ⟨n1,B9 Y,z,U,V,.busy,LS.pend .ready⟩)=BH (T.set id (.lp false F1 n1 Y z U V .busy)):=by rw[N7];rfl
  show M2 P n b (B9 env1) ((BH T).set id (.lp ⟨n1,B9 Y,z,U,V,.busy,LS.pend .ready⟩)) _;rw[e3];apply a2.awp.mono;rintro _ _ _ ⟨rfl,rfl,rfl⟩;exact hq _ (AAX u) rfl
 split at j;refine l true .ready j λL G E=>⟨L,G,rfl,?_⟩
 subst E;rw[N7];rfl;refine l false .ret j λL G E=>⟨L,G,rfl,?_⟩
 subst E;rw[N7];rfl;rename_i y;refine l false (.exit y) j λL G E=>⟨L,G,rfl,?_⟩
 subst E;rw[N7];rfl;cases j;cases j;cases k1;cases k1;cases h;cases h
theorem kP{P:Program}{j:List RW}(b: ∀c∈j,c.Ok P){m:FuncId->List Hint}: ∀n,Xl P (qw P j m n)
 |0=>by grind[qw]
 |n+1=>by
  intro z A H k r p l h;cases z with
  |yd id=>exact ACo b (kP b n) p l h
  |fn F=>
  simp only[qw]at h;split at h;rename_i fn y;split at h;rename_i c w;split at h;rename_i hn;obtain⟨e,d,f,a1,k1,a,q⟩:=qm (N:=fn.ntmps) b (kP b n) F (m F) c (dR 0 A) H _ r ⟨kV p,l⟩ h;unfold AIK at k1;split at k1;rename_i x;split at k1;rename_i s o;refine⟨one s,f,J4 y w t! ?_,k1,xU (mA a.env a.heap o).2,a.heap,q.step⟩;rw[<-dS];apply a1.awp.mono;rintro _ _ _ ⟨rfl,rfl,rfl⟩;have g: ∃v t i,jE P fn (B9 d) (BH f)=some v/\O0 (BH H).length v (BH f) t i/\C6 (one s).enc (BH f) t i:=⟨_,_,_,uf a.env a.heap o,O0.refl _ _ (by rw[CR,CR];exact q.step.len),by rw[sN],rfl⟩
  rename_i u;cases u<;>first|exact g|cases x
  cases k1;cases k1;cases h;cases h;cases h
def DW.tup{b a:List AY}(h:DW b a):Xm (.tup b) (.tup a):=by
 intro x c r;cases r with
 |tup g hr=>refine .tup (by rw[g,h.1]) λj i d f e=>?_;obtain⟨v,q1,q2⟩:=h.2 j i f;exact q2 _ _ (hr j v d q1 e)
def XI{b:List AY}(h:DW g b):Xm (qd g) (qd b):=by
 match g,b,h with
 |[],[],h=>exact Xm.refl _
 |[v],[w],h=>obtain⟨u,q1,q2⟩:=h.2 0 w rfl;simp at q1;subst q1;exact q2
 |v::u::r,w::x::s,h=>exact DW.tup h
def Ph: ∀(a:List Ty) (x:DL a),∀v∈nC a x,Pure v
 |[],_,v,h=>by cases h
 |[t],x,v,h=>by simp only[nC,BI]at h;subst h;exact t.enc_pure x
 |t::u::r,x,v,h=>by simp only[nC]at h;rcases A8.1 h with rfl|h;exact t.enc_pure x.1;exact Ph (u::r) x.2 v h
def YR(h: ∀v∈g,Pure v):Pure (qd g):=by
 match g,h with
 |[],_=>rfl
 |[v],h=>exact h v k!
 |v::u::r,h=>exact(Dd _ _).2 h
theorem ui{a H2:Aq}(j:H2.length<=a.length)(hr:HR a H2 [])(v:mN H2.length H2=true){d:AY}(l:Xm i d)(k:Pure d):O0 H2.length i (BH a) d (BH H2):=by
 refine⟨by rw[CR];exact Am _,λX h w c s r=>?_⟩;have q:=(HR.rel j hr (cx X h (BH a) w)).onto;have n:=s.rel q;have m:=(l _ c r).later q.later;have e:(BH H2++(BH a).drop H2.length).take H2.length=BH H2:=by grind[CR]
 have b:H2.length<=(BH H2++(BH a).drop H2.length).length:=by simp[BH]
 have g:=n.trunc b (by rw[e];exact lg v);have f:=m.trunc b (lC k _);rw[e]at g f;exact⟨h,g,f,λ_ _=>⟨rfl,rfl,rfl⟩,λB o=>q.own B (iX (n0:=H2.length) q!)⟩
def qy{n:Nat}: ∀{a b:List Bs},bD n a=true->bD n b=true->bD n (a++b)=true
 |[],_,_,hb=>hb
 |x::r,b,ha,hb=>by obtain⟨c,e⟩:=vc ha;have d:=qy e hb;cases x<;>simp only[cA,bD,BO,P1]at c⊢ <;>first|exact d|exact⟨c,d⟩
mutual
theorem Ty.lvs_clo{n:Nat}: ∀(t:Ty) (x:t.D),bD n (t.lvs x)=true
 | .bool,_=>rfl
 | .int _,_=>rfl
 | .str,_=>rfl
 | .list _,_=>rfl
 | .arr _ _,_=>rfl
 | .prod ts,x=>ts.lvs_clo x
theorem SY.lvs_clo{n:Nat}: ∀(a:SY) (x:a.D),bD n (a.lvs x)=true
 | .one t,x=>t.lvs_clo x
 | .cons t a,x=>qy (t.lvs_clo x.1) (a.lvs_clo x.2)
end
def qf(h: ∀v∈g,Pure v)(a:Nat->Nat):AY.renL a g=g:=by
 rw[Ol];conv=>rhs;rw[<-fD g]
 exact M6 λv b=>(h v b).ren a
def uC{ρ:Nat->Nat}: ∀{n:Nat} {v:AY} {l:List AY},(∀v∈l,Pure v)->AY.renL ρ (WD n v l)=WD n (v.ren ρ) l
 |0,v,l,h=>by simp only[WD,AY.renL,qf h]
 |n+1,v,[],h=>rfl
 |n+1,v,x::l,h=>by have b:=uC (ρ:=ρ) (n:=n) (v:=v) (l:=l) λu a=>h u (CQ _ a);simp only[WD,AY.renL,(h x Iy).ren,b]
def vt: ∀{n:Nat} {v u:AY} {l:List AY},u∈WD n v l->u=v\/u∈l
 |0,v,u,l,h=>by simpa[WD]using h
 |n+1,v,u,[],h=>by simpa[WD]using h
 |n+1,v,u,x::l,h=>by simp only[WD]at h;rcases A8.1 h with rfl|h;exact .inr k!;rcases vt h with h|h;exact .inl h;exact .inr (by simp[h])
def yx: ∀{n:Nat} {v:TV} {l:List TV},(uD n v l).map TV.enc=WD n v.enc (l.map TV.enc)
 |0,_,_=>rfl
 |n+1,_,[]=>rfl
 |n+1,v,x::l=>by simp only[uD,Bt,WD,yx]
def yy: ∀{n:Nat} {v u:TV} {l:List TV},u∈uD n v l->u=v\/u∈l
 |0,v,u,l,h=>by simpa[uD]using h
 |n+1,v,u,[],h=>by simpa[uD]using h
 |n+1,v,u,x::l,h=>by simp only[uD]at h;rcases A8.1 h with rfl|h;exact .inr k!;rcases yy h with h|h;exact .inl h;exact .inr (by simp[h])
theorem qx{x:p.D}: ∀v∈(p.enc x).cells,Pure v:=by
 intro v a;have h:=p.enc_pure x;cases b:p.enc x with
 |agg c=>rw[b]at a h;exact((Dd _ _).1 h) v a
 |_=>grind[AY.cells]
def ii(a:Ty): ∀(c:List Ty) (y:DL c) (b:a.D),K8 a c (uF a c y b)=(y,b)
 |[],_,_=>rfl
 |[_],_,_=>rfl
 |_::u::r,y,b=>by simp only[uF,K8,ii a (u::r) y.2 b]
variable {P:Program} {cs:List RW} {hs:FuncId->List Hint} {n:Nat} {F:FuncId} {ds rs:List Ty}
def AHI{c:Az}(k:y0 x=true)(ok:Qs f b)(hr:nV P f b M.results.toList=some t)(h:O0 N (qd (t.map TV.enc)) (BH b) i c):
  AIl P M N (C6 i c) x (B9 f) (BH b):=by
 have d: ∃v e a,jE P M (B9 f) (BH b)=some v/\O0 N v (BH b) e a/\C6 i c e a:=⟨_,_,_,uf ok.env ok.heap hr,h,rfl,rfl⟩
 cases x<;>first|exact d|cases k
def xB{g:DL ds->Option (DL rs)}(d: ∀c∈cs,c.Ok P)(t: ∀x,g x=yP P cs hs n F ds rs x):(RW.c0 F ds rs g).Ok P:=by
 intro x y a H;rw[t]at a;have key:EM P F (nC ds x) [] (C6 (qd (nC rs y)) []):=by unfold yP at a;split at a;rename_i q s;split at a;rename_i c r;split at a;rename_i hn;obtain⟨e,o,z,a1,k1,l,B⟩:=qm (N:=q.ntmps) d (kP d n) F (hs F) c (dR 0 (xv ds x)) [] _ y ⟨kV (nZ ds x),λe i=>by cases i⟩ a;unfold AIH at k1;split at k1;rename_i i;split at k1;rename_i m u;obtain⟨f,w,p⟩:=Rk (refsOf m) l;simp only at k1 f w p;split at k1;rename_i C k;apply J4 s r (by rw[<-aI,B5];exact O5 hn);rw[<-aI,<-dS];refine M2.after (a1.awp.mono ?_);rintro _ _ _ ⟨rfl,rfl,rfl⟩;exact⟨_,_,(p _).of_le (Bi _),AHI i f k (ui (H2:=[]) (Bi _) (λj A _ h=>by cases h) rfl (XI (ZG k1)) (YR (Ph rs y)))⟩;cases k1;cases k1;cases k1;cases a;cases a;cases a
 exact EM.frame (H:=H) [] key Qx rfl rfl (λj b e h=>by cases h) (λe h=>by cases h) (λe h=>by cases h) (YR (Ph rs y)) (qf (Ph ds x) _) ((Dd _ _).2 λv k=>(Ph ds x v k).all _)
theorem AFM{g:p.D->DL ds->Option (DL (rs++[p]))}(m: ∀c∈cs,c.Ok P)(T: ∀b x,g b x=ADQ P cs hs n F N p ds rs b x):(RW.c1 F N p ds rs g).Ok P:=by
 intro b x y f H id V;rw[T]at f;have key: ∃r i,y=uF p rs r i/\EM P F (WD N (.ptr 0 0 0) (nC ds x)) [.live 0 (p.enc b).cells] (C6 (qd (nC rs r)) [.live 0 (p.enc i).cells]):=by
  unfold ADQ at f;split at f;rename_i M S;split at f;rename_i c R;split at f;rename_i hn;have t:Qs (dR 0 (uD N (.c (.raw (.ptr 0 0 0))) (xv ds x))) [.live false (p.lvs b)]:=by refine⟨kV λv d=>?_,λe s=>?_⟩;rcases yy d with rfl|d;exact J2 trivial;grind[nZ];rw[BI.1 s];exact p.lvs_ok b
  obtain⟨e,l,G,a1,k1,u,E⟩:=qm (N:=M.ntmps) m (kP m n) F (hs F) c _ _ _ y t f;unfold AII at k1;split at k1;rename_i s;split at k1;rename_i z W;generalize C:(refsOf z++_)=ids at k1;obtain⟨k,w,A⟩:=Rk ids u;generalize II ids l G=fz at k1 k w A;obtain⟨ef,U⟩:=fz;simp only at k1 k w A;split at k1;rename_i vs Y I d O;split at k1;rename_i r i hr q;injection k1 with k1;refine⟨r,i,k1.symm,?_⟩;have J:BH [.live false (p.lvs b)]=[.live 0 (p.enc b).cells]:=by simp only[BH,Bt,Hg,Dr.enc,p.lvs_enc]
  have K:BH [.live false (p.lvs i)]=[.live 0 (p.enc i).cells]:=by simp only[BH,Bt,Hg,Dr.enc,p.lvs_enc]
  have L:WD N (.ptr 0 0 0) (nC ds x)=(uD N (.c (.raw (.ptr 0 0 0))) (xv ds x)).map TV.enc:=by rw[yx,aI];rfl
  rw[<-J,<-K,L];apply J4 S R (by rw[B5];exact O5 hn);rw[<-dS];refine M2.after (a1.awp.mono ?_);rintro _ _ _ ⟨rfl,rfl,rfl⟩;have o:1<=U.length:=Cz E.step.len w.step.len;refine⟨_,_,(A _).of_le (by rw[CR,CR];exact E.step.len),AHI s k d ?_⟩;rw[CR];refine ui (H2:=[.live false (p.lvs i)]) o (λj Z _ h=>?_) (by simp only[mN,p.lvs_clo,YI]) (XI (ZG hr)) (YR (Ph rs r));match j,h with
  |0,h=>simp only[lU,Al]at h;subst h;refine⟨_,O,.inr (.inl ⟨_,_,_,_,rfl,rfl,?_⟩)⟩;rw[p.lvs_enc];exact Fa q
  |j+1,h=>grind
  cases k1;cases k1;cases k1;cases k1;cases f;cases f;cases f
 obtain⟨r,i,rfl,key⟩:=key;rw[ii];have Q:AY.renL (λj=>[id].getD j 0) (WD N (.ptr 0 0 0) (nC ds x))=WD N (.ptr id 0 0) (nC ds x):=by rw[uC (Ph ds x)];rfl
 exact EM.frame (H:=H) [id] key (Gc.2 ⟨k!,Qx⟩) rfl rfl (λj X e a B=>by
   match j,a,B with
   |0,a,B=>grind[List.getElem?_cons_zero,Option.some.injEq]
   |j+1,a,_=>simp at a) (λe h=>by
   rw[BI.1 h];exact(Dd _ _).2 λv d=>qx v d) (λe h=>by
   rw[BI.1 h];exact(Dd _ _).2 λv d=>qx v d) (YR (Ph rs r)) Q ((Dd _ _).2 λv d=>by
   rcases vt d with rfl|d;rfl;exact(Ph ds x v d).all _)
end Go.Ab
namespace Go.Ab
def Zy:List (Nat×List Hint)->FuncId->List Hint
 |[],_=>[]
 |(k,h)::r,F=>match Nat.beq k F with|true=>h|false=>Zy r F
theorem Bu{P:Program}: ∀c∈([]:List RW),c.Ok P:=q!
variable {N n z:Nat}{R y:Type}{c:List RW}{F:FuncId}{P:Program}{g:List AY}{i:AY}{j:Bool}{p:Ty}{q:Int}{v:World}{I:IntKind}{K:Value}
theorem Ay{P:Program}{a:RW}(h:a.Ok P)(b: ∀a∈c,a.Ok P): ∀d∈a::c,d.Ok P:=q!
def wi(a:Int):Int:=IntKind.wrap .i64 a
abbrev len{α:Type}(l:List α):Int:=(l.length:Int)
def oT{A B:Type}(f:(A->Option B)->A->Option B):Nat->A->Option B
 |0,_=>none
 |n+1,x=>f (oT f n) x
noncomputable def rq{A B:Type}(f:(A->Option B)->A->Option B)(x:A):Option B:=open Classical in if h: ∃r n,oT f n x=some r then some h.choose else none
theorem dT{f:(R->Option y)->R->Option y}{x:R}{r:y}(h:rq f x=some r): ∃n,oT f n x=some r:=by unfold rq at h;split at h<;>grind
theorem gh{f:(R->Option y)->R->Option y}{x:R}{r:y}{n:Nat}(h:oT f n x=some r): ∃s,rq f x=some s:=by unfold rq;rw[dif_pos ⟨r,n,h⟩];grind
def AFO{P:Program}{hs:FuncId→List Hint}{n:Nat}{F:FuncId}{ds rs:List Ty}{f:(DL ds→Option (DL rs))→DL ds→Option (DL rs)}(b: ∀a∈c,a.Ok P)
  (e: ∀g x,f g x=yP P (.c0 F ds rs g::c) hs n F ds rs x):(RW.c0 F ds rs (rq f)).Ok P:=by
 have key: ∀m,(RW.c0 F ds rs (oT f m)).Ok P:=by
  intro m;induction m with
  |zero=>intro x y d;cases d
  |succ m i=>exact xB (cs:=.c0 F ds rs (oT f m)::c) (Ay i b) λx=>e (oT f m) x
 intro x y d;obtain⟨m,h⟩:=dT d;exact key m x y h
def AIJ(P:Program)(fn:Func)(te:Ty)(rs:List Ty):Exit->Bc->Aq->Option (DL (rs++[.list te])):=λe env H=>
 match y0 e with
 |true=>
  match nV P env H fn.results.toList with
  |some vs0=>
   match II ((refsOf vs0).filter λi=>!Nat.beq i 0) env H with
   |(ef,hf)=>
    match nV P ef hf fn.results.toList,(hf[0]? :Option Dr)with
    |some vs,some (.buf _ t l _ _)=>if h:(Ty.list t).beq (Ty.list te)=true then(match inp rs vs with|some y=>some (uF (.list te) rs y (Ty.cast h l))|none=>none)else none
    |_,_=>none
  |none=>none
 |false=>none
def fnC:AY->Bool
 | .fn (.func _) [] []=>true
 |_=>false
def yM(te:Ty)(ds:List Ty)(post:List AY)(l:List te.D)(x:DL ds):List TV:=.c (.own 0 0 te l.length)::(xv ds x++post.map λv=>.c (.raw v))
noncomputable def ADR(P:Program)(cs:List RW)(hs:FuncId->List Hint)(n:Nat)(F:FuncId)(te:Ty)(ds rs:List Ty)(post:List AY)(l:List te.D)(x:DL ds):Option (DL (rs++[.list te])):=
 match P.funcs[F]? with
 |some fn=>
  match fn.body with
  |some c=>
   match Nat.ble (yM te ds post l x).length fn.ntmps&&post.all fnC with
   |true=>ng P cs (qw P cs hs n) fn.ntmps F (hs F) c (dR 0 (yM te ds post l x)) [.buf false te l l.length 0] (AIJ P fn te rs)
   |false=>none
  |none=>none
 |none=>none
theorem AHM(h:fnC i=true): ∃F,i= .fn (.func F) [] []:=by unfold fnC at h;grind
def ADn(h:fnC i=true):Pure i:=by obtain⟨F,rfl⟩:=AHM h;rfl
variable {P:Program} {cs:List RW} {hs:FuncId->List Hint} {n:Nat} {F:FuncId} {ds rs:List Ty} {te:Ty} {post:List AY}
def AB6(l:List te.D)(x:DL ds):(yM te ds post l x).map TV.enc= .sl 0 l.length te.sz 0 l.length::(nC ds x++post):=by
 have e:(post.map λv=>TV.c (.raw v)).map TV.enc=post:=by
  rw[Qu];conv=>rhs;rw[<-fD post]
  exact M6 λv _=>rfl
 simp only[yM,Bt,M5,aI,e];rfl
theorem PG{g:List te.D->DL ds->Option (DL (rs++[.list te]))}(t: ∀c∈cs,c.Ok P)(hg: ∀l x,g l x=ADR P cs hs n F te ds rs post l x):(RW.c2 F te ds rs post g).Ok P:=by
 intro l x y k d H id C;rw[hg]at k;have key: ∃r m,y=uF (.list te) rs r m/\(∀v∈post,Pure v)/\EM P F (.sl 0 l.length te.sz 0 l.length::(nC ds x++post)) [.live l.length (te.E.cl l)] (C6 (qd (nC rs r)) [.live m.length (te.E.cl m)]):=by
  unfold ADR at k;split at k;rename_i fn hf;split at k;rename_i c hb;split at k;rename_i hn;simp only[BO]at hn;have b: ∀v∈post,Pure v:=λv a=>ADn (Fq.1 hn.2 v a);have w:([Dr.buf false te l l.length 0]:Aq)[0]? =some (.buf false te l l.length 0):=rfl;have K:Qs (dR 0 (yM te ds post l x)) [.buf false te l l.length 0]:=by refine⟨kV λv a=>?_,λe B=>?_⟩;rcases A8.1 a with rfl|a;exact J2 (YS w);rcases A1.1 a with a|a;grind[nZ];obtain⟨u,_,rfl⟩:=Bl.1 a;exact J2 trivial;rw[BI.1 B];exact rfl
  obtain⟨e,s,W,a1,k1,L,U⟩:=qm (N:=fn.ntmps) t (kP t n) F (hs F) c _ _ _ y K k;unfold AIJ at k1;split at k1;rename_i B;split at k1;rename_i O ad;generalize T:((refsOf O).filter _)=ids at k1;obtain⟨o,M,Q⟩:=Rk ids L;generalize II ids s W=fz at k1 o M Q;obtain⟨ef,hh⟩:=fz;simp only at k1 o M Q;split at k1;rename_i vs X q l1 J V a R;split at k1;rename_i z;split at k1;rename_i r hr;injection k1 with k1;have i:=Ty.beq_eq _ _ z;injection i with i;subst i;have p:(Ty.cast z l1:List q.D)=l1:=rfl;rw[p]at k1;have I:J=l1.length:=o.heap _ (BU R);refine⟨r,l1,k1.symm,b,?_⟩;have Y:BH [.buf false q l l.length 0]=[.live l.length (q.E.cl l)]:=rfl;have Z:BH [.buf false q l1 J V]=[.live l1.length (q.E.cl l1)]:=by rw[<-I];rfl
  rw[<-Y,<-Z,<-AB6];apply J4 hf hb (by rw[B5];exact O5 hn.1);rw[<-dS];refine M2.after (a1.awp.mono ?_);rintro _ _ _ ⟨rfl,rfl,rfl⟩;have G:1<=hh.length:=Cz U.step.len M.step.len;refine⟨_,_,(Q _).of_le (by rw[CR,CR];exact U.step.len),AHI B o a ?_⟩;rw[CR];refine ui (H2:=[.buf false q l1 J V]) G (λj e' _ h=>?_) rfl (XI (ZG hr)) (YR (Ph rs r));match j,h with
  |0,h=>simp only[lU,Al]at h;subst h;exact⟨_,R,.inr (.inr (.inl ⟨_,_,_,_,_,_,_,rfl,rfl⟩))⟩
  |j+1,h=>simp at h
  cases k1;cases k1;cases k1;cases k1;cases k1;cases k;cases k;cases k
 obtain⟨r,m,rfl,b,key⟩:=key;rw[ii]at d⊢;simp only at d⊢;rw[<-d];rw[<-d]at C key;have f: ∀v∈nC ds x++post,Pure v:=λv a=>(A1.1 a).elim (Ph ds x v) (b v);have ha:AY.renL (λj=>[id].getD j 0) (.sl 0 m.length te.sz 0 m.length::(nC ds x++post))= .sl id m.length te.sz 0 m.length::(nC ds x++post):=by simp only[AY.renL,qf f];rfl
 exact EM.frame (H:=H) [id] key (Gc.2 ⟨k!,Qx⟩) rfl rfl (λj X e A S=>by
   match j,A,S with
   |0,A,S=>grind[List.getElem?_cons_zero,Option.some.injEq]
   |j+1,A,_=>simp at A) (λe h=>by
   rw[BI.1 h];exact(Dd _ _).2 (ww te l)) (λe h=>by
   rw[BI.1 h];exact(Dd _ _).2 (ww te m)) (YR (Ph rs r)) ha ((Dd _ _).2 λv a=>by
   rcases A8.1 a with rfl|a;rfl;exact(f v a).all _)
def oM{f:(List te.D×DL ds→Option (DL (rs++[.list te])))→List te.D×DL ds→Option (DL (rs++[.list te]))}(a: ∀c∈cs,c.Ok P)
  (d: ∀g l x,f g (l,x)=ADR P (.c2 F te ds rs post (λl x=>g (l,x))::cs) hs n F te ds rs post l x):(RW.c2 F te ds rs post λl x=>rq f (l,x)).Ok P:=by
 have key: ∀m,(RW.c2 F te ds rs post λl x=>oT f m (l,x)).Ok P:=by
  intro m;induction m with
  |zero=>intro l x y b;cases b
  |succ m h=>exact PG (cs:=.c2 F te ds rs post (λl x=>oT f m (l,x))::cs) (Ay h a) λl x=>d (oT f m) l x
 intro l x y b;obtain⟨m,e⟩:=dT b;exact key m l x y e
end Go.Ab
namespace Go.Ab
def clW(fn:Func):Nat->String:=λi=>
 match fn.body with
 |some (.seq (.region _ a _) (.seq (.seq (.region _ b _) (.cond _ (.seq (.region _ c _) _) _)) (.seq (.region _ d _) _)))=>(((a++b++c++d)[i]?).map (·.pos)).getD default
 |_=>default
def ACE(t b:TypeId)(w:Nat->String):Code:=
 .seq (.region 0 #[⟨some 2,.assign (.const (.slice none 0 0)),t,w 0, #[],none⟩] false)
  (.seq (.seq (.region 1 #[⟨some 3,.move (.tmp 0),t,w 1, #[],none⟩,⟨some 4,.binOp .eql t (.tmp 3) (.const (.slice none 0 0)) t,b,w 2, #[⟨0,.data⟩],none⟩] false)
    (.cond (.tmp 4) (.seq (.region 2 #[⟨some 2,.assign (.const (.slice none 0 0)),t,w 3, #[],none⟩] false) .ret) .skip))
   (.seq (.region 3 #[⟨some 5,.buildSlice t 0 #[],t,w 4, #[],none⟩,⟨some 6,.move (.tmp 0),t,w 5, #[],none⟩,
     ⟨some 7,.call {callee:=.builtin .append,args:= #[.tmp 5,.tmp 6],argTypes:= #[t,t]},t,w 6, #[⟨0,.data⟩,⟨1,.data⟩],none⟩,
     ⟨some 2,.assign (.tmp 7),t,w 7, #[⟨2,.data⟩,⟨2,.chain⟩,⟨0,.phase⟩,⟨1,.phase⟩,⟨2,.phase⟩],none⟩] false) .ret))
def O0.none{n0:Nat}{H:Az}{id g sz off:Nat}(hn:n0<=H.length)(b:id<H.length)(k:0<sz):O0 n0 (.sl id g sz off 0) H (.vs sz []) (H.set id .dead):=by
 refine⟨by simpa using hn,λX h w c s r=>?_⟩;obtain⟨p,t⟩:=s.kill b;refine⟨h,p,?_,λ_ _=>⟨rfl,rfl,rfl⟩,λB o=>?_⟩;cases r with
 |sl l m n q=>obtain⟨a,cap,rfl⟩:=n;exact Bp.vs (rows:=[]) (λ_ _=>undef) (Bi _) k (λj e h=>by simp at h) (λh=>(h rfl).elim) (λj e i v h=>by simp at h)
 obtain⟨i,e,l,d,m⟩:=o;rcases JL b l with⟨_,f⟩|⟨rfl,rfl⟩;exact⟨i,e,f,d,m⟩;exact(d rfl).elim
variable {N n z:Nat}{R y:Type}{c:List RW}{F:FuncId}{P:Program}{g:List AY}{j:Bool}{p:Ty}{q:Int}{v:World}{I:IntKind}{K:Value}
theorem tP{P:Program}{F:FuncId}{t b:TypeId}{a:Ty}(p:(P.funcs[F]?).map (λy=>(y.body,y.ntmps,y.results))=some (some (ACE t b (((P.funcs[F]?).map clW).getD (λ_=>default))),8, #[.tmp 2]))(J:elT P t=some a)(k:iY 0 a #[] []=true):(RW.cl F a).Ok P:=by
 generalize ((P.funcs[F]?).map clW).getD (λ_=>default)=w at p;obtain⟨y,U,C⟩:=WN.1 p;injection C with R C;injection C with hn hr;intro l H V;obtain⟨e,B,x⟩:=kT J;have K:=(Q5 B).1;have A: ∀env,TJ P env t 0 #[]=some (a.sz,[]):=by intro env;unfold TJ;simp only[B];refine if_pos ⟨a.sz_pos,x,rfl,rfl,Bi _,?_⟩;unfold iY at k;simp only[BO]at k;exact O5 k.2
 have i: ∀Q:AY→Az→Prop,(l=[]→Q (.vs a.sz []) (BH (H++[.dead])))→(∀r,l≠ []→app [] l=some r→Q (.sl H.length r.length a.sz 0 r.length) (BH (H++[.buf false a r r.length 0])))→
   (l=[]\/ ∃r,app [] l=some r)->EM P F [.vs a.sz (l.map a.enc)] (BH H) Q:=by
  intro Q M N f;refine J4 U R (by rw[hn];simp) ?_;rw[hn];refine M2.seq (FZ rfl (XC.cons rfl (Dc (v:=.nils) rfl (XC.nil (M2.seq (M2.seq (FZ rfl (XC.cons rfl (Dc (v:=.vs a.sz (l.map a.enc)) rfl (XC.cons rfl (tf (sz:=a.sz) (rows:=l.map a.enc) rfl K rfl λL T=>XC.nil ?_)))))))))));have o:L=true->l=[]:=λh=>by by_cases j:l=[]<;>simp_all
  have d:(BH H++[FU.live 0 []]).set (BH H).length FU.dead=BH (H++[.dead]):=by simp_all[TY,Am,Gd,BH,Dr.enc]
  refine M2.cond (b:=L) rfl (λz=>?_) (λS=>?_);refine M2.seq (FZ rfl (XC.cons rfl (Dc (v:=.nils) rfl (XC.nil (M2.weak (Fv.virt (t:=2) (sz:=a.sz) rfl) (M2.ret (⟨.sl (BH H).length 0 a.sz 0 0,.vs a.sz [],(BH H++[FU.live 0 []]).set (BH H).length FU.dead,by simp[jE,hr,TR,nW,Env.putO,Env.put,Env.get],O0.none (by simp) (by simp) a.sz_pos,?_⟩)))))));rw[d];exact M (o z);refine M2.skip (M2.seq (FZ rfl (XC.cons rfl (UB (sz:=a.sz) (vs:=[]) rfl (A _) (XC.cons rfl (Dc (v:=.vs a.sz (l.map a.enc)) rfl (XC.cons rfl ?_)))))));have I:Nz (BH H++[FU.live 0 []]) a.sz (.vs a.sz (l.map a.enc))=some (l.length,a.E.cl l):=by simp only[Nz,if_true,B5];rfl
  have s:0+l.length<=16777216:=by rcases f with rfl|⟨r,hr⟩;simp;obtain⟨N,_⟩:=np hr;simpa using N
  refine SO (sx:=.tmp 5) (xx:=.tmp 6) (H:=BH H++[FU.live 0 []]) (id:=(BH H).length) (g:=0) (g':=l.length) (n:=0) (cs:=[]) (m:=l.length) (news:=a.E.cl l) rfl B a.sz_pos x rfl (by simp) (by simp) I s (by rcases WL l.length with q|q;exact .inr ⟨q,q⟩;exact .inl q) ?_;refine XC.cons rfl (Dc (v:=.sl (BH H).length l.length a.sz 0 (0+l.length)) rfl (XC.nil (M2.ret ?_)));have O:(BH H++[FU.live 0 []]).set (BH H).length (.live l.length ([]++a.E.cl l))=BH (H++[.buf false a l l.length 0]):=by simp_all[TY,Am,Gd,BH,Dr.enc]
  by_cases j:l=[];subst j;refine⟨.sl (BH H).length 0 a.sz 0 0,.vs a.sz [],(BH H++[FU.live 0 []]).set (BH H).length FU.dead,by simp[jE,hr,TR,nW,Env.putO,Env.put,Env.get],?_,?_⟩;have:=O0.none (n0:=(BH H).length) (H:=BH H++[FU.live 0 []]) (id:=(BH H).length) (g:=0) (off:=0) (by simp) (by simp) a.sz_pos;have e:(BH H++[FU.live 0 []]).set (BH H).length (.live ([]:List a.D).length ([]++a.E.cl []))=BH H++[FU.live 0 []]:=by rw[TY _ _ (Am _),Gd];rfl
  rw[e];exact this;rw[d];exact M rfl;rcases f with h|⟨r,c⟩;exact(j h).elim;obtain⟨_,G⟩:=np c;have u:l=r:=by simpa using G.symm
  subst u;refine⟨.sl (BH H).length l.length a.sz 0 l.length,_,_,by simp[jE,hr,TR,nW,Env.putO,Env.put,Env.get],O0.refl _ _ (by simp),?_⟩;grind[CR]
 refine⟨λj=>?_,λr j hr=>?_⟩;subst j;exact i _ (λ_=>⟨rfl,rfl⟩) (λr h=>(h rfl).elim) (.inl rfl);exact i _ (λh=>(j h).elim) (λW _ c=>by rw[hr]at c;injection c with c;subst c;exact⟨rfl,rfl⟩) (.inr ⟨r,hr⟩)
abbrev i64:Ty:=.int .i64
abbrev hn(k i:Nat)(s:List WF)(e:List (Exit×List WF)):Hint:=⟨k,i,[],[],[],[],s,e⟩
def k0{P:Program}{a d:List Ty}{g:DL a→Option (DL d)}(l:List (Nat×List Hint))(b: ∀e∈c,e.Ok P)
  (f:g=λx=>yP P c (Zy l) 13 F a d x:=by kernel_rfl):(RW.c0 F a d g).Ok P:=xB b λx=>congrFun f x
def k1{P:Program}{a:Ty}{d f:List Ty}{g:a.D→DL d→Option (DL (f++[a]))}(l:List (Nat×List Hint))(e: ∀h∈c,h.Ok P)
  (i:g=λb x=>ADQ P c (Zy l) 13 F N a d f b x:=by kernel_rfl):(RW.c1 F N a d f g).Ok P:=AFM e λb x=>congrFun (congrFun i b) x
noncomputable def zb{α:Type}(key:α->Int)(l:List α):Option (List α):=if(l.map key).Nodup/\l.length<=16777216 then some (l.mergeSort λa b=>decide (key a<=key b))else none
def um{key:R->Int}{l m:List R}(hn:(l.map key).Nodup)(p:m.Perm l)(t:m.Pairwise λa b=>key a<=key b):m=l.mergeSort λa b=>decide (key a<=key b):=by
 have d:(l.mergeSort λa b=>decide (key a<=key b)).Perm l:=List.mergeSort_perm _ _;have o:(l.mergeSort λa b=>decide (key a<=key b)).Pairwise λa b=>key a<=key b:=by refine(List.pairwise_mergeSort (le:=λa b=>decide (key a<=key b)) ?_ ?_ l).imp λh=>of_decide_eq_true h;intro a b c d o;simp only[decide_eq_true_eq]at*;omega;intro a b;simp only[YJ,decide_eq_true_eq];omega
 refine vR (le:=λa b=>key a<=key b) ?_ t o (p.trans d.symm);intro a b r s q1 q2;have e:key a=key b:=o!
 have f:=p.subset r;have g:=d.subset s;obtain⟨i,k⟩:=Di f;obtain⟨j,n⟩:=Di g;have:=(List.getElem?_inj (l:=l.map key) (i:=i) (j:=j) (by rw[B5];exact(Kf.1 k).1) hn).1 (by simp[k,n,e]);subst this;rw[k]at n;exact Ba n
theorem w64(h: -9223372036854775808<=q/\q<=9223372036854775807):IntKind.wrap .i64 q=q:=by grind[IntKind.wrap_i64]
def ACX{body:y->Option (Step y R)}(I:y->Prop)(Q:R->Prop)(b:y->Nat)(i: ∀s,I s->(∃r,body s=some (.done r)/\Q r)\/ ∃a,body s=some (.next a)/\I a/\b a<b s){s:y}(h:I s): ∃r,AZ body s=some r/\Q r:=by
 have key: ∀(n:Nat) (s:y),b s<n->I s-> ∃r,AZ body s=some r/\Q r:=by
  intro n;induction n with
  |zero=>intro s j;omega
  |succ n k=>intro s j g;rcases i s g with⟨r,c,d⟩|⟨a,c,d,l⟩;exact⟨r,by rw[Dv,c],d⟩;obtain⟨r,e,f⟩:=k a o! d;exact⟨r,by rw[Dv,c];exact e,f⟩
 exact key (b s+1) s o! h
theorem AFg{l:List R}{x:R}(h:l[N]? =some x):ix l (N:Int)=some x:=by unfold ix;grind[Int.toNat_natCast]
def AIR{l:List R}(a:0<=q)(c:q<l.length): ∃x,ix l q=some x/\l[q.toNat]? =some x:=by
 obtain⟨n,rfl⟩:=FF a;have hn:n<l.length:=o!
 exact⟨l[n],AFg (A4 hn),by simp[hn]⟩
def AG3{l a:List R}(h:l.length+a.length<=16777216):app l a=some (l++a):=if_pos h
theorem AFB(a:GF n R)(h:N<n):Fp a (N:Int)=some (a ⟨N,h⟩):=by grind[Fp]
def Ar(o:Option R)(Q:R->Prop):Prop:= ∃r,o=some r/\Q r
section
variable {α β γ:Type}
theorem AB{r:α}{Q:α->Prop}(h:Q r):Ar (.some r) Q:=⟨r,rfl,h⟩
def Ar.mono{o:Option α}{P Q:α->Prop}(h:Ar o P)(c: ∀r,P r->Q r):Ar o Q:=by obtain⟨r,a,b⟩:=h;exact⟨r,a,c r b⟩
theorem AA{o:Option α}{k:α->Option β}{P:α->Prop}{Q:β->Prop}(h:Ar o P)(b: ∀r,P r->Ar (k r) Q):Ar (Option.bind o k) Q:=by obtain⟨r,rfl,a⟩:=h;exact b r a
theorem D8{o:Option α}{k:α->Option β}{P:α->Prop}{Q:β->Prop}(h:Ar o P)(b: ∀r,o= .some r->P r->Ar (k r) Q):Ar (Option.bind o k) Q:=by obtain⟨r,rfl,a⟩:=h;exact b r rfl a
def AL{o:Option α}{k:α->Option β}{P:α->Prop}{Q:β->Prop}(a: ∀r,P r->Ar (k r) Q)(h:Ar o P):Ar (Option.bind o k) Q:=AA h a
def AJ{a b:Option α}{Q:α->Prop}(d:j=true->Ar a Q)(e:j=false->Ar b Q):Ar (bif j then a else b) Q:=by
 cases j with
 |true=>exact d rfl
 |false=>exact e rfl
def AC{p:Prop}{_:Decidable p}{a b:Option α}{Q:α->Prop}(c:p->Ar a Q)(d: ¬p->Ar b Q):Ar (bif decide p then a else b) Q:=AJ (λh=>c (of_decide_eq_true h)) (λh=>d (of_decide_eq_false h))
theorem AM{a b:Option α}{Q:α->Prop}(d:j=false->Ar a Q)(e:j=true->Ar b Q):Ar (bif !j then a else b) Q:=by
 cases j with
 |true=>exact e rfl
 |false=>exact d rfl
theorem AQ{_:BEq R} [LawfulBEq R] {x y:R}{a b:Option α}{Q:α->Prop}(c:x=y->Ar a Q)(d:x≠y->Ar b Q):Ar (bif x==y then a else b) Q:=AJ (λh=>c (eq_of_beq h)) (λh=>d (ne_of_beq_false h))
theorem AK{_:BEq R} [LawfulBEq R] {x y:R}{a b:Option α}{Q:α->Prop}(c:x≠y->Ar a Q)(d:x=y->Ar b Q):Ar (bif x !=y then a else b) Q:=by refine AJ (λh=>c λe=>?_) (λh=>d ?_);subst e;simp at h;simpa using h
def Bd{a b:Option α}{k:α->Option β}{Q:β->Prop}(h:Ar (bif j then Option.bind a k else Option.bind b k) Q):Ar (Option.bind (bif j then a else b) k) Q:=by cases j<;>exact h
theorem A7{a:α}{k:α->Option β}{Q:β->Prop}(h:Ar (k a) Q):Ar (Option.bind (.some a) k) Q:=h
def By{o:Option α}{f:α->Option β}{k:β->Option γ}{Q:γ->Prop}(h:Ar (Option.bind o λv=>Option.bind (f v) k) Q):Ar (Option.bind (Option.bind o f) k) Q:=by cases o<;>exact h
def NC{f:α->Option γ}{g:β->Option γ}{o:α ⊕ β}{k:γ->Option R}{Q:R->Prop}(h:Ar (Sum.elim (λu=>Option.bind (f u) k) (λu=>Option.bind (g u) k) o) Q):Ar (Option.bind (Sum.elim f g o) k) Q:=by cases o<;>exact h
theorem BG{u:α}{f:α->Option γ}{g:β->Option γ}{Q:γ->Prop}(h:Ar (f u) Q):Ar (Sum.elim f g (.inl u)) Q:=h
theorem A3{u:β}{f:α->Option γ}{g:β->Option γ}{Q:γ->Prop}(h:Ar (g u) Q):Ar (Sum.elim f g (.inr u)) Q:=h
theorem BA{f:α->Option γ}{g:β->Option γ}{o:α ⊕ β}{Q:γ->Prop}(a: ∀u,o= .inl u->Ar (f u) Q)(b: ∀u,o= .inr u->Ar (g u) Q):Ar (Sum.elim f g o) Q:=by
 cases o with
 |inl u=>exact a u rfl
 |inr u=>exact b u rfl
def Ar.get{o:Option α}{Q:α->Prop}{r:α}(h:Ar o Q)(e:o= .some r):Q r:=by obtain⟨s,a,b⟩:=h;rw[e]at a;injection a with a;rw[a];exact b
def Ar.and{o:Option α}{P Q:α->Prop}(h:Ar o P)(g:Ar o Q):Ar o λr=>P r/\Q r:=by obtain⟨r,a,b⟩:=h;exact⟨r,a,b,g.get a⟩
theorem AI{l:List α}{i:Int}(b:0<=i:=by omega)(c:i<l.length:=by omega):Ar (ix l i) λx=>l[i.toNat]? = .some x/\x∈l:=by obtain⟨x,d,a⟩:=AIR b c;exact⟨x,d,a,BU a⟩
theorem Ac{l a:List α}(h:l.length+a.length<=16777216):Ar (app l a) λr=>r=l++a/\r.length=l.length+a.length/\r.length<=16777216:=⟨_,AG3 h,rfl,k!,w!⟩
theorem Cm{a b:BW}(h:a.length+b.length<=9223372036854775807):Ar (sapp a b) λr=>r=a++b/\r.length=a.length+b.length:=by refine⟨a++b,?_,rfl,k!⟩;unfold Go.Ab.sapp;rw[if_pos h]
theorem Co{s:BW}{lo hi:Int}(a:0<=lo:=by omega)(b:lo<=hi:=by omega)(c:hi<=s.length:=by omega):Ar (Up s lo hi) λr=>r=(s.drop lo.toNat).take (hi.toNat-lo.toNat)/\(r.length:Int)=hi-lo:=by refine⟨_,if_pos ⟨a,b,c⟩,rfl,?_⟩;rw[BM,FY];omega
theorem CU{s:List α}{lo hi:Int}(a:0<=lo:=by omega)(b:lo<=hi:=by omega)(c:hi<=s.length:=by omega):Ar (br s lo hi) λr=>r=(s.drop lo.toNat).take (hi.toNat-lo.toNat)/\(r.length:Int)=hi-lo:=by refine⟨_,if_pos ⟨a,b,c⟩,rfl,?_⟩;rw[BM,FY];omega
def VG{s:BW}{i:Int}(a:0<=i)(c:i<s.length):Ar (six s i) λb=>0<=b/\b<256:=by
 obtain⟨n,rfl⟩:=FF a;have hn:n<s.length:=o!
 refine⟨(s[n].toNat:Int),?_,o!,?_⟩;unfold Go.Ab.six;simp[hn];have:=s[n].toNat_lt;omega
def CM{a:GF n α}(b:0<=q)(c:q<n):Ar (Fp a q) λx=>x=a ⟨q.toNat,o!⟩:=by obtain⟨k,rfl⟩:=FF b;exact⟨_,AFB a o!,rfl⟩
theorem ym{z:α}(a:0<=q)(b:q<=16777216):Ar (mk z q q) λr=>r=List.replicate q.toNat z/\(r.length:Int)=q:=by refine⟨List.replicate q.toNat z,?_,rfl,w!⟩;unfold Go.Ab.mk;rw[if_pos ⟨a,Ad _,b⟩]
def AV{body:y→Option (Step y R)}(I:y→Prop)(b:y→Nat){Q:R→Prop}{s:y}(c:I s)
  (f: ∀s,I s->Ar (body s) λst=>match st with| .next a=>I a/\b a<b s| .done r=>Q r):Ar (AZ body s) Q:=by
 obtain⟨r,d,e⟩:=ACX (body:=body) I Q b (λs g=>by
  obtain⟨st,q1,q2⟩:=f s g;cases st with
  |next a=>exact .inr ⟨a,q1,q2.1,q2.2⟩
  |done r=>exact .inl ⟨r,q1,q2⟩) c
 exact⟨r,d,e⟩
theorem XB(n:Int):IntKind.wrap .u64 n=n%18446744073709551616:=by simp[IntKind.wrap,IntKind.bits,IntKind.signed]
theorem wX(n:Int):IntKind.wrap .u32 n=n%4294967296:=by simp[IntKind.wrap,IntKind.bits,IntKind.signed]
def AIw(n:Int):IntKind.wrap .u8 n=n%256:=by simp[IntKind.wrap,IntKind.bits,IntKind.signed]
def bH{Q:α->Prop}(h:False):Ar .none Q:=h.elim
theorem AX{x:Int}(h: -9223372036854775808<=x/\x<=9223372036854775807:=by omega):wi x=x:=w64 h
theorem l!{P:Prop}(h:P:=by (try dsimp[len]at*);(try first|omega|assumption|grind[AX])):P:=h
theorem i!{P:Prop}(h:P:=by simp only[len];omega):P:=h
theorem x!{P:Prop}(h:P:=by (repeat' with_reducible first|intro a|apply AC|apply AM|(apply BG;try dsimp only)|apply AQ|apply AK|(apply A7;try dsimp only)|apply AJ|(apply A3;try dsimp only)|(apply BA<;>(intro u a;try subst a))|(refine AL ?_ (OU ?_);intro r hr)|apply Bd|(apply AA (Be);intro r hr)|(apply AA (Lw);intro r hr)|(refine AL ?_ (bK ?_);intro r hr)|(refine AL ?_ (XU ?_);intro r hr)|(apply AA (Sy);intro r hr)|(refine AL ?_ (Zk ?_);intro r hr)|(refine AL ?_ (Zh ?_);intro r hr)|(refine AL ?_ (XQ ?_);intro r hr)|(apply AA (iE);intro r hr)|apply NC|(apply AA (EE);intro r hr)|apply AB|apply By|(refine AL ?_ (NO ?_);intro r hr)|apply bH|(refine AL ?_ (Fw ?_ ?_);intro r hr)|(refine AL ?_ (eF ?_);intro r hr)|(refine AL ?_ (Yx ?_);intro r hr)|(refine AL ?_ (Hu ?_);intro r hr)|(refine AL ?_ (RF ?_);intro r hr)|(rw[w _ _ rfl rfl];apply A7;dsimp only)|(refine AL ?_ (H4 ?_);intro r hr)|(apply AA (Dl);intro r hr)|(apply AA (ON);intro r hr)|(apply AA (oh);intro r hr)|(refine AL ?_ (DE ?_);intro r hr)|(refine AL ?_ (Ex ?_);intro r hr)|(apply AA (F4);intro r hr)|(refine AL ?_ (Jp ?_);intro r hr)|(refine AL ?_ (Y6 ?_);intro r hr)|(apply AA (FN);intro r hr)|(refine AL ?_ (bL ?_);intro r hr)|(refine AL ?_ (DD ?_);intro r hr)|(refine AL ?_ (VU ?_);intro r hr)|(refine AL ?_ (S5 ?_);intro r hr)|(refine AL ?_ (Rz ?_);intro r hr)|(apply AA (MA);intro r hr)|(apply AA (VS);intro r hr)|(refine AL ?_ (PQ ?_);intro r hr)|(refine AL ?_ (YC ?_);intro r hr)|(refine AL ?_ (Yt ?_);intro r hr)|(apply AA (dz);intro r hr)|(refine AL ?_ (Zj ?_);intro r hr)|(apply AA (dp);intro r hr)|(refine AL ?_ (jc ?_);intro r hr)|(apply AA (Gt);intro r hr)|(apply AA (oi);intro r hr)|(apply AA (CT);intro r hr)|(refine AL ?_ (Y3 ?_);intro r hr)|(apply AA (Fu);intro r hr)|(apply AA (OF);intro r hr)|(refine AL ?_ (RG ?_);intro r hr)|(refine AL ?_ (Y4 ?_);intro r hr)|(refine AL ?_ (Y2 ?_);intro r hr)|(refine AL ?_ (Y7 ?_);intro r hr)|(refine AL ?_ (Ww ?_ ?_);intro r hr)|(refine AL ?_ (X8 ?_);intro r hr)|(refine AL ?_ (Zi ?_);intro r hr)|(apply AA (qK);intro r hr)|(refine AL ?_ (Px ?_);intro r hr)|(apply AA (jg);intro r hr)|(refine AL ?_ (X6 ?_);intro r hr)|(refine AL ?_ (Zn ?_);intro r hr)|(apply AA (ol);intro r hr)|(refine AL ?_ (Ys ?_);intro r hr)|(refine AL ?_ (Zl ?_);intro r hr)|(refine AL ?_ (Yy ?_);intro r hr)|(refine AL ?_ (Vo ?_);intro r hr)|(refine AL ?_ (Zp ?_);intro r hr)|(refine AL ?_ (bJ ?_);intro r hr)|(apply AA (Sw);intro r hr)|(refine AL ?_ (Y0 ?_);intro r hr)|(refine AL ?_ (Yu ?_);intro r hr)|(refine AL ?_ (bO ?_);intro r hr)|(apply AA (ER);intro r hr)|(refine AL ?_ (RE ?_);intro r hr)|(apply AA (B8);intro r hr)|(refine AL ?_ (AI ?_ ?_);rintro r ⟨hr,b⟩)|(apply AA (KH);intro r hr)|(refine AL ?_ (Ac ?_);rintro r ⟨hr,b,c⟩)|(refine AL ?_ (Yz ?_);intro r hr)|(refine AL ?_ (Y8 ?_);intro r hr)|(refine AL ?_ (GP ?_);intro r hr)|(refine AL ?_ (VG ?_ ?_);rintro r ⟨hr,b⟩)|(refine AL ?_ (YA ?_);intro r hr)|(refine AL ?_ (dm ?_);intro r hr)|(refine AL ?_ (X9 ?_);intro r hr)|(refine AL ?_ (X7 ?_);intro r hr)|(refine AL ?_ (XT ?_);intro r hr)|(apply AA (tq);intro r hr)|(refine AL ?_ (Cm ?_);rintro r ⟨hr,b⟩)|(apply AA (UJ);intro r hr)|(apply AA (bQ);intro r hr)|(refine AL ?_ (CM ?_ ?_);intro r hr)|(refine AL ?_ (Yw ?_);intro r hr)|(refine AL ?_ (RI ?_);intro r hr)|(refine AL ?_ (XS ?_);intro r hr)|(refine AL ?_ (Yv ?_);intro r hr)|(refine AL ?_ (CU ?_ ?_ ?_);rintro r ⟨hr,b⟩)|(refine AL ?_ (Y9 ?_);intro r hr)|(apply AA (dZ);intro r hr)|(refine AL ?_ (Co ?_ ?_ ?_);rintro r ⟨hr,b⟩));all_goals first|exact l!|grind|((try dsimp[len]at*);grind[DI,Dg,Dg.last,Fy,KD,Pg,SB,VK,ZQ,aL,len,mo,na,pK,AX])):P:=h
def AEr(x:Int):wi x=(x+9223372036854775808)%18446744073709551616-9223372036854775808:=by unfold wi;rw[IntKind.wrap_i64]
end
def MK(I:y->Prop)(μ:y->Nat)(m:Nat)(Q:R->Prop):Step y R->Prop
 | .next s'=>I s'/\μ s'<m
 | .done r=>Q r
def Cf{body:y->Option (Step y R)}(I:y->Prop)(a:y->Nat){Q:R->Prop}{s:y}(b:I s)(c: ∀s,I s->Ar (body s) (MK I a (a s) Q)):Ar (AZ body s) Q:=AV I a b λs d=>(c s d).mono λst h=>by cases st<;>exact h
theorem Ar.next{I:y->Prop}{a:y->Nat}{m:Nat}{Q:R->Prop}{s:y}(h:I s)(b:a s<m):Ar (Option.some (Step.next s)) (MK I a m Q):=⟨_,rfl,h,b⟩
theorem Ar.done{I:y->Prop}{a:y->Nat}{Q:R->Prop}{r:R}(h:Q r):Ar (Option.some (Step.done r)) (MK I a N Q):=⟨_,rfl,h⟩
open Go.ChangeShapes Go.WideShapes Go.ChangeAt Go.RowKit
def gh0:Gh:=⟨λ_=>none,λ_=>0,λ_=>0⟩
def cx0(w:World):Cx:=cx (λ_=>False) gh0 [] w
def AJs(w:World):JN (λ_=>False) gh0 [] w where
 out B h:=h.elim
 live id g cs h:=by simp at h
 lp id L h:=by simp at h
 inj id id' e e' B h:=by simp at h
 bld id e h:=by simp at h
theorem AAe: ¬(cx0 v).O N:=by rintro(h|⟨id,e,h,_⟩);exact h;grind
def VE{Q:AY→Az→Prop}(h:EM P F g [] Q){w:World}{cargs:Array Value}(hn:cargs.size=g.length)
  (d: ∀(j:Nat) (v:AY) (c:Value),g[j]? =some v->cargs[j]? =some c->Bp (cx0 w) v c):
  Calls P F cargs w λe b=> ∃c v x a,e= .returned c/\Q v a/\Bp x v c/\Below w.heap.size w b:=by
 refine(h (λ_=>False) gh0 w cargs (AJs w) hn d).mono ?_;rintro e b ⟨c,v,i,a,rfl,q,_,r,x⟩;refine⟨c,v,_,a,rfl,q,r,x.os,x.tape,x.output,x.size,λk l=>x.keep k l ?_⟩;rintro⟨id,e,f,_⟩;simp at f
def wW{a:Addr}{b:List Int}(A:N≤n)(D:b.length=n)(t: ∀i,i<b.length→v.cell? (a.add i)=some (.int I (b.getD i 0)))(q:a.block<v.heap.size∨N=0):
  Bp (cx0 v) (.vs 1 ((b.take N).map λk=>.int I k)) (.slice (some a) N n):=by
 have d:((b.take N).map λk=>AY.int I k).length=N:=w!
 have g: ∀(j:Nat) (e:AY),((b.take N).map λk=>AY.int I k)[j]? =some e->j<N/\e= .int I (b.getD j 0):=by
  intro j e h;rw[CE]at h;cases c:(b.take N)[j]? with
  |none=>rw[c]at h;cases h
  |some k=>
   rw[c]at h;simp only[Bn,Al]at h;subst h;have p:j<(b.take N).length:=by rcases Au j (b.take N).length with h|h;exact h;rw[Cc h]at c;cases c
   simp only[BM]at p;rw[Jb o!]at c;exact⟨o!,by rw[Ra,c];rfl⟩
 have key:=Bp.vs (x:=cx0 v) (sz:=1) (rows:=(b.take N).map λk=>.int I k) (a:=some a) (cap:=n) (λj _=>.int I (b.getD j 0)) (by rw[d];exact A) o!
  (λj e h=>by rw[(g j e h).2];rfl)
  (λr=>by
   have C:0<N:=by rcases WL N with h|h;subst h;simp at r;exact h
   have m:a.spot=none:=by have:=t 0 o!;unfold World.cell? at this;split at this;split at this;cases this;rename_i u;simp only[Addr.add,if_true]at u;simpa using u;cases this
   obtain⟨B,s,E⟩:=a;simp only at m;subst m;refine⟨B,s,rfl,AAe,?_,λj e i w c l=>?_⟩;rcases q with h|h;exact h;omega;obtain⟨y,o⟩:=g j e c;subst o;have f:i=0:=by
    simp only[AY.cells]at l;cases i with
    |zero=>rfl
    |succ i=>simp at l
   subst f;refine⟨?_,rfl⟩;have:=t j o!;simp only[Nat.mul_one,Qy];show v.cell? _=_;rw[<-this];unfold Addr.add;split;rename_i z;subst z;rfl;rfl)
  (λj e i w c l=>by
   obtain⟨y,o⟩:=g j e c;subst o;have f:w= .int I (b.getD j 0):=by
    simp only[AY.cells]at l;cases i with
    |zero=>simpa using l.symm
    |succ i=>simp at l
   subst f;exact .int _ _)
 rw[d]at key;exact key
def zh:Bp (cx0 v) (.vs 1 []) (.slice none 0 0):=Bp.vs (x:=cx0 v) (sz:=1) (rows:=[]) (a:=none) (cap:=0) (λ_ _=>.nilFunc) k! o! (λj e h=>by simp at h) (λh=>absurd rfl h) (λj e i w h=>by simp at h)
open Go.RowKit
def jz{args:List AY}{v:AY}(h: ∀(w:World) (a:Array Value),a.size=args.length→(∀(j:Nat) (u:AY) (c:Value),args[j]? =some u→a[j]? =some c→ ∃x,Bp x u c)→
  Calls P F a w λe i=> ∃c,e= .returned c/\(∀x,Bp x v c)/\Below w.heap.size w i) (H:Az):EM P F args H (C6 v H):=by
 intro X g w a s p hr;refine(h w a p λj u c m n=>⟨_,hr j u c m n⟩).mono ?_;rintro e i ⟨c,rfl,q,b⟩;have l:Ha g H w g H i:=⟨b.os,b.tape,b.output,b.size,λB d _=>b.block B d,Am _,λ_ _=>Am _,λ_ _ _=>⟨rfl,rfl⟩,λB o=>.inl o,λB r hr=>⟨r,(b.block B (by rcases Au B w.heap.size with h|h;exact h;simp[sw h]at hr)).trans hr⟩⟩
 exact⟨c,v,g,H,rfl,⟨rfl,rfl⟩,s.of_ext l (λid e k f=>.inl ⟨k,rfl,rfl,rfl,λB d=>b.block B (s.io_at k f d)⟩) s.inj,q _,l⟩
def zi{x:Cx}{s:List UInt8}(h:Bp x (.str s) K):K= .string ⟨s.toArray⟩:=by cases h;rename_i t h;subst h;rfl
def lK{x:Cx}(h:Bp x (.int I q) K):K= .int I q:=by cases h;rfl
end Go.Ab
