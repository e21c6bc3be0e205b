/- Texts of wip, joined and shortened by wip/tools/pack.py; nothing is assumed. -/
import Derived.Test.YtdbincbpjobdpaaGreatK3
import Derived.KernelRfl
noncomputable section
set_option linter.all false
namespace Go.Ab
def isLen:Op->Bool
 | .call {callee:=.builtin .len,.. }=>true
 | .move _=>true
 | .assign _=>true
 | .extract _ _=>true
 |_=>false
def rdT(env:Bd)(op:Op):List Nat:=match isLen op with|true=>[]|false=>op.operands.toList.flatMap λx=>idT (JK env x)
def WC(o:Oper)(env:Bd):Bd:=(tmpsOf o).filterMap λt=>match env.get t with| .c (.raw .any)=>none|v=>some (t,v)
def jT(ids:List Nat):Nat->Ar->List Nat
 |_,[]=>[]
 |j,.live false cs::r=>match (K2 cs).any λi=>OF i ids with|true=>j::jT ids (j+1) r|false=>jT ids (j+1) r
 |j,_::r=>jT ids (j+1) r
variable {N n v:Nat}{a z:List Nat}{R:Type}{b A:Ar}{c E:Code}{d:List RE}{e G L:Bd}{f:List Oper}{F:FuncId}{j:Aa}{k:TC}{P:Program}{l:List Aa}{m J:TypeId}{p:Ty}{q:Env}{t:List TV}{u:TV}{x:Exit}{y:Bool}{C:Bz}{D:Operand}{o:Oper}{I:Func}{K:Int}
section
variable {R:Type}
def quD(P:Program)(env:Bd)(H:Ar)(op:Op)(k:TV->Option R):Option R:=
 match op with
 | .buildSlice t len parts=>pR P env t len parts k
 |op=>quT P env H op k
def ACo(P:Program)(cs:List RE)(call:TC)(env:Bd)(H:Ar)(op:Op)(k:TV->Ar->Option R):Option R:=
 match op with
 | .box _ x=>AEU H (JK env x) k
 | .store t a v=>storeT P H t (JK env a) (JK env v) k
 | .makeSlice t x y=>fy P H t (JK env x) (JK env y) k
 | .buildSlice t len parts=>ZC P env H t len parts k
 | .call c=>
  match jt env (.call c)with
  |some (F,vs)=>
   match Enters P F with
   |true=>
    match re cs F vs with
    |some ct=>AAB ct vs H k
    |none=>match isNil vs with|true=>call (.fn F) [] (H.map Dt.lock) λv H'=>k v (Vu H H')|false=>call (.fn F) vs H k
   |false=>none
  |none=>
   match tN env c with
   |some (id,vs)=>call (.yd id) vs H k
   |none=>
    match c with
    |{callee:=.builtin .append,args:=⟨[s,x]⟩,argTypes:=⟨[t,t']⟩}=>match Nat.beq t t' with|true=>qW P H t (JK env s) (JK env x) k|false=>none
    |_=>none
 |_=>none
def AHi(P:Program)(cs:List RE)(call:TC)(env:Bd)(H:Ar)(op:Op)(k:TV->Ar->Option R):Option R:=
 match IK (lC cs env H op) env H with
 |(ef,hf)=>ACo P cs call ef hf op k
def w9(cs:List RE)(env:Bd)(H:Ar)(op:Op):List Nat:=
 match lC cs env H op with
 |[]=>vV cs env H op
 |ids=>ids++jT ids 0 H++(match IK ids env H with|(ef,hf)=>vV cs ef hf op)
def AHs:Op->Bool
 | .buildSlice .. =>true
 |_=>false
def ze(P:Program)(cs:List RE)(call:TC)(ops:Array Oper)(m:List Nat)(gs:List Nat)(ow:Bool):List Nat->List (Nat×List Nat)->Bd->Ar->(Bd->Ar->Option R)->Option R
 |[],_,env,H,k=>k env H
 |i::r,pend,env,H,k=>
  match ops[i]? with
  |none=>none
  |some o=>
   match o.op with
   | .alloc t=>
    match tO P t with
    |some z=>
     match o.guard.isNone&&r.all (λj=>O9 m i j||IA ops j)with
     |true=>ze P cs call ops m gs ow r pend (env.putO o.dst (.c (.raw (.ptr H.length 0 0)))) (H++[.live false z]) k
     |false=>none
    |none=>none
   |op=>
    match fq ops o.guard env with
    |some false=>ze P cs call ops m gs ow r ((i,[])::pend) (env.putO o.dst (.tup [])) H k
    |some true=>
     match dq op&& !(ow&&AHs op)with
     |true=>
      match (rdT env op).all λid=>Nat.blt id H.length with
      |true=>quD P env H op λv=>force (OF i gs) v λv'=>ze P cs call ops m gs ow r ((i,rdT env op)::pend) (env.putO o.dst v') H k
      |false=>none
     |false=>
      match r.all (λj=>O9 m i j||IA ops j)&&pend.all (λp=>O9 m p.1 i||p.2.all λid=>!OF id (w9 cs (WC o env) H op))with
      |true=>AHi P cs call (WC o env) H op λv H'=>force (OF i gs) v λv'=>ze P cs call ops m gs ow r pend (env.putO o.dst v') H' k
      |false=>none
    |none=>none
variable {P:Program} {N:Nat} {o:Oper} {env:Bd} {H:Ar} {r:R}
theorem AAg(env:Bd)(a:Op)(h:isLen a=false):ABk (B4 env) a=rdT env a:=by grind[ABk,rdT,K9,AEy]
theorem kg.len{env:Env}{H:A1}{v:Aa}(b:isLen o.op=true)(e:Ce P env H o.op=some v):kg P N o env H [] v:=by
 intro c f d _;refine Dq (v:=v) ?_ ⟨rfl,rfl⟩;rw[ut (fH d),<-e];generalize o.op=op at b;unfold isLen at b;split at b;rename_i args a;obtain⟨args⟩:=args;obtain⟨a⟩:=a;match args,a with
 |[x],[t]=>rfl
 |[],_=>rfl
 |_::_::_,_=>rfl
 |[_],[]=>rfl
 |[_],_::_::_=>rfl
 rfl;rfl;rfl;cases b
theorem ABh{k:TV->Option R}(ok:PA env H)(h:quD P env H o.op k=some r): ∃v,kg P N o (B4 env) (BK H) (rdT env o.op) v.enc/\k v=some r/\v.ok H:=by
 have n:quT P env H o.op k=some r-> ∃v,kg P N o (B4 env) (BK H) (rdT env o.op) v.enc/\k v=some r/\v.ok H:=λh=>by
  obtain⟨v,f,i,j⟩:=uu ok h;refine⟨v,?_,i,j⟩;cases z:isLen o.op with
  |true=>grind[rdT,kg.len]
  |false=>rw[<-AAg _ _ z];exact Wp f
 generalize b:o.op=op at h;unfold quD at h;split at h;rename_i t len a;unfold pR at h;split at h;rename_i q l;split at h;rename_i e;split at h;rename_i F d;have E:=sq l e;refine⟨_,?_,h,Jt trivial⟩;rw[<-b,<-AAg _ _ (by rw[b];rfl)];have y:vT P (B4 env) (BK H) o.op=some (.vs q.sz ((a.toList.map λp=>JK env p.2).map TV.enc)):=by grind[vT]
 have A:=jD (N:=N) y;intro x m f i;have j:=A x m f i;refine JJ.after (v:=.vs q.sz ((a.toList.map λp:Nat×Operand=>JK env p.2).map TV.enc)) (H1:=m) j λX g w s=>⟨Tz.refl _ _,λc D=>AFj (lk d) (iq d) (λv C=>?_) _ _ D⟩
 unfold gD at e;simp only[BY]at e;obtain⟨u,B,rfl⟩:=Br.1 C;have:=GA.1 e.1.1.2 u B;split at this;simp_all[Yc,dQ];cases this;cases h;cases h;cases h;grind
theorem ABF{c:Op}{b:TV->Ar->Option R}(h:ACo P d k env H c b=some r):xC P d k env H c b=some r:=by unfold ACo at h;unfold xC;split at h<;>grind
theorem um{p:Nat×TV}(h:p∈WC o e):p.1∈tmpsOf o/\p.2=e.get p.1/\p.2≠ .c (.raw .any):=by obtain⟨t,b,a⟩:=OX.1 h;grind
theorem AEs(h:u.enc= .any):u= .c (.raw .any):=by
 cases u with
 |c x=>
  cases x with
  |ar n t a=>cases h
  |_=>grind[TV.enc,Bz.one]
 |vw id b t n d m=>simp only[TV.enc,vwE]at h;split at h;split at h<;>cases h;cases h
 |_=>simp[TV.enc]at h
theorem kz{t:Nat}: ∀{l:Bd},(∀p∈l,p.1≠t)->Bd.get l t=Ux
 |[],_=>rfl
 |(k,u)::r,h=>by simp only[Bd.get,beq_false (h (k,u) k!)];exact kz λp a=>h p (by simp[a])
theorem ue{j:Nat}: ∀{l:List Nat},j∈l->OF j l=true
 |i::r,h=>by simp only[OF];rcases Aw.1 h with rfl|h;rw[Hn];rw[ue h];split<;>rfl
def AFn(ids:List Nat)(H:Ar)(j:Nat):Prop:= ∀cs,H[j]? =some (.live false cs)-> ∀i∈K2 cs,i∉ids
theorem py{ids:List Nat}: ∀{H:Ar} {i j:Nat},i+j∉jT ids i H->AFn ids H j
 |e::r,i,0,hn,c,h=>by grind[jT,ue]
 |e::r,i,j+1,hn,c,h=>by
  have d:(i+1)+j∉jT ids (i+1) r:=by
   have f:i+1+j=i+(j+1):=o!
   rw[f];intro a;apply hn;cases e with
   |live b c=>cases b<;>grind[jT]
   |dead=>exact a
   |buf=>exact a
   |lp=>exact a
   |mp=>exact a
  exact py (ids:=ids) d c h
def mE{id b:Nat}{t:Ty}{l:List t.D}: ∀{a:List Bz},id∉K2 a->a.map (NQ id b t l)=a
 |[],_=>rfl
 |x::r,h=>by
  cases x with
  |own d c e n=>simp only[K2,Aw,not_or]at h;simp only[Bl,NQ,beq_false h.1,Bool.false_and,mE h.2]
  |_=>simp only[K2]at h;simp only[Bl,NQ,mE h]
def fJ: ∀(a:List Nat) {env:Bd} {H:Ar} {j:Nat},j∉a->AFn a H j->(IK a env H).2[j]? =H[j]?
 |[],_,_,_,_,_=>rfl
 |id::r,env,H,j,hj,hn=>by
  simp at hj;simp only[IK];split;rename_i e h d;have m:h[j]? =H[j]? :=by
   unfold frz at d;split at d;rename_i t l n q s;simp at d;rw[<-d.2,DU (λe=>hj.1 e.symm),CN];cases p:H[j]? with
   |none=>rfl
   |some o=>
    simp;cases o with
    |live b c=>
     cases b with
     |false=>simp only[QO];rw[mE λf=>hn c p id f Iv]
     |true=>rfl
    |_=>rfl
   cases d
  rw[fJ r hj.2 λc g i k f=>hn c (m▸g) i k (CW _ f),m];exact fJ r hj.2 λc g i k f=>hn c g i k (CW _ f)
theorem yo(l: ∀c∈d,c.Ok P)(g:Wv P k){b:TV→Ar→Option R}(ok:PA env H)(h:AHi P d k (WC o env) H o.op b=some r):
  ∃v f,Eff P N o (B4 env) (BK H) (w9 d (WC o env) H o.op) (DX v.enc (BK f))/\b v f=some r/\v.ok f/\(∀e∈f,e.ok f)/\CL H f:=by
 have n:PA (WC o env) H:=⟨λp m=>by rw[(um m).2.1];exact lz ok.env _,ok.heap⟩
 obtain⟨s,u,A⟩:=Q3 (lC d (WC o env) H o.op) n;have w:=λj=>fJ (lC d (WC o env) H o.op) (env:=WC o env) (H:=H) (j:=j);have x: ∀id,id∉w9 d (WC o env) H o.op->id∉vV d (IK (lC d (WC o env) H o.op) (WC o env) H).1 (IK (lC d (WC o env) H o.op) (WC o env) H).2 o.op/\(IK (lC d (WC o env) H o.op) (WC o env) H).2[id]? =H[id]? :=by intro id a;unfold w9 at a;split at a;rename_i z;rw[z];exact⟨a,rfl⟩;simp only[An,not_or]at a;refine⟨a.2,w id a.1.1 (py (i:=0) q!)⟩
 obtain⟨v,f,q1,q2,q3,q4,q5,q6⟩:=ph (N:=N) l g s (ABF h);refine⟨v,f,⟨λt G=>JJ.before (GD.subset λq y=>?_) (JJ.before (A N) q1),?_⟩,q2,q3,q4,u.step.trans q5⟩;obtain⟨p,m,rfl⟩:=Br.1 y;obtain⟨D,E,F⟩:=um m;grind[UN,Nj,AEs];rintro _ _ ⟨rfl,rfl⟩ id a hn;rw[Cf]at a;obtain⟨B,C⟩:=x id hn;rw[Ex,Ex,q6 id (DQ a u.step.len) B,C]
def Tu{j:Nat}: ∀{l:List Nat},OF j l=false->j∉l
 |i::r,h=>by simp only[OF]at h;split at h;cases h;rename_i b;intro a;rcases Aw.1 a with rfl|a;rw[Hn]at b;cases b;exact Tu h a
 |[],_=>λh=>by cases h
def tV(ops:Array Oper)(l:List Nat):List Nat:=l.filterMap λi=>(ops[i]?).bind (·.dst)
theorem YZ{L:List RE}(u: ∀c∈L,c.Ok P){w:TC}(s:Wv P w){b:Array Oper}{X:List Nat}{ow:Bool}: ∀(l:List Nat) (n:List (Nat×List Nat)) (env:Bd) (H:Ar) (k:Bd→Ar→Option R) (r:R),PA env H→
  ze P L w b (IJ b.toList []) X ow l n env H k=some r->
  ∃a q,RA P N b l n (B4 env) (BK H) (λe h=>e=B4 a/\h=BK q)/\k a q=some r/\PA a q/\Ej (tV b l) env H a q
 |[],n,env,H,k,r,ok,h=>⟨env,H,⟨rfl,rfl⟩,h,ok,Ej.refl _ _ _⟩
 |i::l,n,env,H,k,r,ok,h=>by
  simp only[ze]at h;simp only[RA];cases J:b[i]? with
  |none=>rw[J]at h;cases h
  |some o=>
   rw[J]at h;simp only at h⊢;have m: ∀{e:Bd} {h:Ar} {v:TV},Ej (tV b [i]) e h (e.putO o.dst v) h:=by
    intro e h v;refine⟨CL.refl h,λt T _=>?_⟩;cases hd:o.dst with
    |none=>rfl
    |some d=>refine nj λe=>T ?_;simp[tV,J,hd,e]
   have g: ∀t,t∈tV b [i]++tV b l->t∈tV b (i::l):=by grind[tV]
   split at h;rename_i t Q;split at h;rename_i z hz;split at h;rename_i F;simp only[BY]at F;obtain⟨z1,z2⟩:=Yf hz;have I:=CL.push H (.live false z);have f:PA (env.putO o.dst (.c (.raw (.ptr H.length 0 0)))) (H++[.live false z]):=⟨aj (I.env ok.env) (Jt trivial),PU ok.heap (z2 _)⟩
   obtain⟨a,q,x,C,D,E⟩:=YZ u s l _ _ _ _ _ f h;have G:o.guard=none:=by simpa using F.1
   refine⟨a,q,?_,C,D,?_⟩;rw[G];refine .inr (.inr ⟨t,lvs z,Q,z1,λj V=>?_,?_⟩);grind[List.all_eq_true];have M:B4 (env.putO o.dst (.c (.raw (.ptr H.length 0 0))))=(B4 env).putO o.dst (.ptr (BK H).length 0 0):=by rw[Xa,Cf];rfl
   have W:BK (H++[.live false z])=BK H++[.live 0 (lvs z)]:=Q1 _ _;rw[M,W]at x;exact x;have U:Ej (tV b [i]) env H (env.putO o.dst (.c (.raw (.ptr H.length 0 0)))) (H++[.live false z]):=⟨I,(m (h:=H)).same⟩
   exact(Ej.trans ok.env U E).mono g;cases h;cases h;rename_i O;have y:IA b i=false:=by
    cases Z:IA b i with
    |false=>rfl
    |true=>obtain⟨t,T⟩:=(V9 J).1 Z;exact(O t T).elim
   split at h;rename_i G;have f:PA (env.putO o.dst (.tup [])) H:=⟨aj ok.env (Q6 λv hv=>by cases hv),ok.heap⟩
   obtain⟨a,q,x,C,D,E⟩:=YZ u s l _ _ _ _ _ f h;have M:(B4 env).putO o.dst (.tup [])=B4 (env.putO o.dst (.tup [])):=by rw[Xa];rfl
   exact⟨a,q,nQ G ⟨y,by rw[M];exact x⟩,C,D,(Ej.trans ok.env m E).mono g⟩;rename_i G;split at h;split at h;rename_i S;obtain⟨v,q1,q2,q3⟩:=ABh (N:=N) ok h;have B:=lu q2;have f:PA (env.putO o.dst v) H:=⟨aj ok.env q3,ok.heap⟩
   obtain⟨a,q,x,C,D,E⟩:=YZ u s l _ _ _ _ _ f B;refine⟨a,q,jO G (.inl ⟨y,v.enc,rdT env o.op,q1,λid A=>?_,by rw[<-Xa];exact x⟩),C,D,(Ej.trans ok.env m E).mono g⟩;have:=GA.1 S id A;rw[Cf];exact OZ this;cases h;split at h;rename_i F;simp only[BY]at F;obtain⟨v,K,q1,q2,q3,q4,q5⟩:=yo (N:=N) u s ok h;have B:=lu q2;have f:PA (env.putO o.dst v) K:=⟨aj (q5.env ok.env) q3,q4⟩
   obtain⟨a,q,x,C,D,E⟩:=YZ u s l _ _ _ _ _ f B;refine⟨a,q,jO G (.inr (.inl ⟨y,w9 L (WC o env) H o.op,λj V=>by simpa using List.all_eq_true.1 F.1 j V,λp hp=>?_,DX v.enc (BK K),q1,?_,?_⟩)),C,D,?_⟩;have:=GA.1 F.2 p hp;simp only[XV,GA,XU]at this;exact this.imp id λY id A=>Tu (Y id A);rintro _ _ ⟨rfl,rfl⟩;rw[Cf,Cf];exact q5.len;rintro _ _ ⟨rfl,rfl⟩;rw[<-Xa];exact x;have U:Ej (tV b [i]) env H (env.putO o.dst v) K:=⟨q5,(m (h:=H)).same⟩
   exact(Ej.trans ok.env U E).mono g;cases h;cases h
end
abbrev DV:=(t:Ty)×t.D
def dvs:(ts:List Ty)->DL ts->List DV
 |[],_=>[]
 |[t],x=>[⟨t,x⟩]
 |t::u::r,x=>⟨t,x.1⟩::dvs (u::r) x.2
def zE:(ts:List Ty)->List DV->Option (DL ts)
 |[],[]=>some ()
 |[t],[⟨t',x⟩]=>if h:t'.beq t=true then some (Ty.cast h x)else none
 |t::u::r,⟨t',x⟩::ds=>if h:t'.beq t=true then match zE (u::r) ds with|some y=>some (Ty.cast h x,y)|none=>none else none
 |_,_=>none
def AAL{a:Ty}(h:a.beq p=true)(x:a.D):(⟨p,Ty.cast h x⟩:DV)=⟨a,x⟩:=by have e:=Ty.beq_eq a p h;subst e;rfl
theorem o7: ∀{b:List Ty} {a:List DV} {s:DL b},zE b a=some s->dvs b s=a
 |[],[],s,_=>rfl
 |[],_::_,s,h=>by cases h
 |[t],[],s,h=>by cases h
 |[t],[⟨t',x⟩],s,h=>by simp only[zE]at h;split at h;rename_i c;injection h with h;subst h;simp only[dvs,AAL];cases h
 |[t],_::_::_,s,h=>by simp[zE]at h
 |t::u::r,[],s,h=>by cases h
 |t::u::r,⟨t',x⟩::a,s,h=>by simp only[zE]at h;split at h;rename_i c;split at h;rename_i y d;injection h with h;subst h;simp only[dvs,AAL,o7 d];cases h;cases h
inductive Part where
 |d (t:Ty)
 |o (id:Nat)
inductive Sm where
 |t (tmp:Nat) (ty:Ty)
 |g (tmp id:Nat)
 |p (id:Nat) (ps:List Part)
 |u (id:Nat) (ty:Ty)
 |x (id:Nat)
 |k (tmp:Nat) (v:Aa)
 |y (id:Nat) (s:LS)
 |m (id:Nat) (k:IntKind) (t:Ty)
def AHH:Aa->Aa->Bool
 | .ptr a b c,.ptr a' b' c'=>Nat.beq a a'&&(Nat.beq b b'&&Nat.beq c c')
 | .nilp,.nilp=>true
 | .nilf,.nilf=>true
 |_,_=>false
def AFO{w:Aa}(h:AHH j w=true):j=w:=by unfold AHH at h;split at h<;>simp_all
def Lg:List Sm->List Nat
 |[]=>[]
 | .p id _::r=>id::Lg r
 | .u id _::r=>id::Lg r
 | .x id::r=>id::Lg r
 | .y id _::r=>id::Lg r
 | .m id _ _::r=>id::Lg r
 |_::r=>Lg r
def ZX:List Sm->List Nat
 |[]=>[]
 | .t tmp _::r=>tmp::ZX r
 | .g tmp _::r=>tmp::ZX r
 | .k tmp _::r=>tmp::ZX r
 |_::r=>ZX r
def AHA:List Part->List Ty
 |[]=>[]
 | .d t::r=>t::AHA r
 |_::r=>AHA r
def gJ:List Sm->List Ty
 |[]=>[]
 | .t _ t::r=>t::gJ r
 | .p _ ps::r=>AHA ps++gJ r
 | .u _ t::r=>.list t::gJ r
 | .m _ k t::r=>.list (.prod (.cons (.int k) (.one t)))::gJ r
 |_::r=>gJ r
def vS(H:Ar)(id:Nat):Bz->Bool
 | .own id' ver _ _=>match Nat.beq id id' with
  |true=>match H[id]? with|some (.buf _ _ _ _ ver')=>Nat.beq ver ver'|_=>false
  |false=>false
 |_=>false
def pW(H:Ar)(rest:List Nat):List Part->List Bz->Option (List DV)
 |[],[]=>some []
 | .d t::ps,cs=>
  match t.mk cs with
  |some (x,cs')=>match pW H rest ps cs' with|some ds=>some (⟨t,x⟩::ds)|none=>none
  |none=>none
 | .o id::ps,c::cs=>
  match vS H id c&& !OF id rest with
  |true=>pW H rest ps cs
  |false=>none
 |_,_=>none
def Z9(env:Bd)(H:Ar):List Sm->Option (List DV)
 |[]=>some []
 | .t tmp ty::r=>
  match ty.data (env.get tmp),Z9 env H r with
  |some x,some ds=>some (⟨ty,x⟩::ds)
  |_,_=>none
 | .g tmp id::r=>
  match env.get tmp with
  | .c x=>match vS H id x&& !OF id (Lg r)with|true=>Z9 env H r|false=>none
  |_=>none
 | .p id ps::r=>
  match H[id]? with
  |some (.live _ cs)=>
   match pW H (id::Lg r) ps cs,Z9 env H r with
   |some a,some b=>some (a++b)
   |_,_=>none
  |_=>none
 | .u id ty::r=>
  match H[id]? with
  |some (.buf _ t l _ _)=>match t.beq ty,Z9 env H r with|true,some ds=>some (⟨.list t,l⟩::ds)|_,_=>none
  |_=>none
 | .x _::r=>Z9 env H r
 | .k tmp v::r=>
  match env.get tmp with
  | .c (.raw w)=>match AHH v w with|true=>Z9 env H r|false=>none
  |_=>none
 | .y id s::r=>
  match H[id]? with
  |some (.lp _ _ _ _ _ _ _ s')=>match s.beq s' with|true=>Z9 env H r|false=>none
  |_=>none
 | .m id k t::r=>
  match H[id]? with
  |some (.mp _ k' t' es)=>match decide (k'=k)&&t'.beq t,Z9 env H r with|true,some ds=>some (⟨.list (.prod (.cons (.int k') (.one t'))),es⟩::ds)|_,_=>none
  |_=>none
def sK(H:Ar):List Part->List DV->Option (List Bz×List DV)
 |[],ds=>some ([],ds)
 | .d _::ps,⟨t,x⟩::ds=>match sK H ps ds with|some (cs,r)=>some (t.lvs x++cs,r)|none=>none
 | .o id::ps,ds=>
  match H[id]? with
  |some (.buf _ t _ n ver)=>match sK H ps ds with|some (cs,r)=>some (.own id ver t n::cs,r)|none=>none
  |_=>none
 |_,_=>none
def Wg:List Sm->List DV->Bd->Ar->Option (Bd×Ar)
 |[],[],env,H=>some (env,H)
 | .t tmp _::r,⟨t,x⟩::ds,env,H=>Wg r ds ((tmp,t.tv x)::env) H
 | .g tmp id::r,ds,env,H=>
  match H[id]? with
  |some (.buf _ t _ n ver)=>Wg r ds ((tmp,.c (.own id ver t n))::env) H
  |_=>none
 | .p id ps::r,ds,env,H=>
  match H[id]? with
  |some (.live false _)=>match sK H ps ds with|some (cs,ds')=>Wg r ds' env (H.set id (.live false cs))|none=>none
  |_=>none
 | .u id _::r,⟨.list t,l⟩::ds,env,H=>
  match H[id]? with
  |some (.buf false t' _ _ ver)=>match t'.beq t with|true=>Wg r ds env (H.set id (.buf false t l l.length (ver+1)))|false=>none
  |_=>none
 | .x id::r,ds,env,H=>
  match H[id]? with
  |some e=>match e.ro||e.isLp with|false=>Wg r ds env (H.set id .dead)|true=>none
  |none=>none
 | .k tmp v::r,ds,env,H=>Wg r ds ((tmp,.c (.raw v))::env) H
 | .y id s::r,ds,env,H=>
  match H[id]? with
  |some (.lp false F n e ps a b _)=>Wg r ds env (H.set id (.lp false F n e ps a b s))
  |_=>none
 | .m id _ _::r,⟨.list (.prod (.cons (.int k) (.one t))),es⟩::ds,env,H=>
  match H[id]? with
  |some (.mp false k' t' _)=>match decide (k'=k)&&t'.beq t with|true=>Wg r ds env (H.set id (.mp false k t es))|false=>none
  |_=>none
 |_,_,_,_=>none
def AGP(e e':Dt):Prop:=e'= .dead\/(∃b cs b' cs',e= .live b cs/\e'= .live b' cs'/\Dk (lvs cs) (lvs cs'))\/(∃b t l n v b' v',e= .buf b t l n v/\e'= .buf b' t l n v')\/(∃ro ro' F n env ps a b s,e= .lp ro F n env ps a b s/\e'= .lp ro' F n env ps a b s)\/(∃b b' k t es,e= .mp b k t es/\e'= .mp b' k t es)
def HR(H1 H:Ar)(rest:List Nat):Prop:= ∀(j:Nat) (e':Dt),OF j rest=false->H[j]? =some e'-> ∃e,H1[j]? =some e/\AGP e e'
theorem Q5:OF N (n::a)=false↔N≠n/\OF N a=false:=by simp[OF];by_cases h:N=n;simp_all;grind[beq_false]
theorem pX(j:C.ok b)(h:vS b N C=true): ∃H t l n a,C= .own N a t n/\b[N]? =some (.buf H t l n a):=by unfold vS at h;split at h;rename_i k a t n;split at h;rename_i i;have e:=DO i;subst e;split at h;rename_i H o l m d g;have f:=DO h;subst f;have⟨rfl,rfl⟩:=(j.2 _ _ _ _ _ g).2 rfl;grind;cases h;cases h;cases h
theorem Xe{b:Bool}{l:List p.D}(h:A[N]? =some (.buf b p l n v)):Um A N v p n:=by refine⟨?_,λro g e f c d=>?_⟩;grind;grind
theorem lj{q H:Ar}{i:List Nat}(hr:HR q H i): ∀{p:List Part} {m:List Bz} {a b j:List DV} {f:List Bz},lok q m→pW q i p m=some a→sK H p (a++b)=some (f,j)→
  j=b/\Dk (lvs m) (lvs f)/\lok H f
 |[],[],a,b,j,f,ok,h,k=>by grind[pW,Option.some.injEq,sK,Prod.mk.injEq,Dk.refl,AE4]
 |[],_::_,a,b,j,f,ok,h,k=>by simp[pW]at h
 | .d t::p,m,a,b,j,f,ok,h,k=>by simp[pW]at h;split at h;rename_i x R z;split at h;rename_i S u;cases h;obtain⟨Q,rfl,M⟩:=t.mk_spec _ _ _ z;simp[Di,sK]at k;split at k;rename_i E r v;obtain⟨rfl,rfl⟩:=k;have⟨q1,q2,q3⟩:=lj hr (I3.1 ok).2 u v;refine⟨q1,?_,I3.2 ⟨t.lvs_ok x,q3⟩⟩;rw[Gn,Gn,t.lvs_enc];exact M.append q2;cases k;cases h;cases h
 | .o id::p,c::m,a,b,j,f,ok,h,k=>by
  simp[pW]at h;split at h
  ·rename_i s;simp[BY,XU]at s;obtain⟨O,t,l,n,N,rfl,L⟩:=pX (ok c k!) s.1;simp[sK]at k;split at k
   ·rename_i P t2 l2 Z D B;split at k
    ·rename_i E r v;obtain⟨rfl,rfl⟩:=k;have⟨q1,q2,q3⟩:=lj hr (λx z=>ok x (by simp[z])) h v;have⟨e,C,w⟩:=hr id _ s.2 B;rw[L]at C;cases C;rcases w with g|⟨_,_,_,_,g,_⟩|⟨_,_,_,_,_,_,_,g,K⟩|⟨_,_,_,_,_,_,_,_,_,g,_⟩|⟨_,_,_,_,_,g,_⟩;cases g;cases g;rotate_left;cases g;cases g;injection g with T F U G V;injection K with W I X J Y;subst F G I J;refine⟨q1,?_,λy A=>?_⟩;rw[Ha,Ha];exact(Dk.refl _).append q2;rcases Aw.1 A with rfl|A;exact Xe B;exact q3 y A
    cases k
   cases k
  cases h
structure IS(env1:Bd)(H1:Ar)(slots:List Sm)(env:Bd)(H:Ar)(env2:Bd)(H2:Ar):Prop where
 get: ∀t,OF t (ZX slots)=false->env2.get t=env.get t
 ok:PA env2 H2
 env: ∀p∈env2,∃v,(p.1,v)∈env1/\Ww v.enc p.2.enc
 hr:HR H1 H2 []
 step:CL H H2
 len:H2.length=H.length
 same: ∀j,OF j (Lg slots)=false->H2[j]? =H[j]?
def dP{t:Nat}{v:TV}: ∀{env:Bd},env.get t=v->v≠Ux->(t,v)∈env
 |[],h,hv=>absurd h.symm hv
 |(k,u)::r,h,hv=>by simp only[Bd.get]at h;split at h;simp_all;exact CW _ (dP h hv)
def heap_set{e:Dt}(H:CL b (b.set N e))(ok: ∀x∈b,x.ok b)(a:e.ok (b.set N e)): ∀x∈b.set N e,x.ok (b.set N e):=by intro x c;rcases OY c with h|rfl;exact H.ent (ok x h);exact a
theorem HR.set{a H:Ar}{id:Nat}{e d:Dt}(h:HR a H (id::z))(g:a[id]? =some e)(hr:AGP e d):HR a (H.set id d) z:=by intro j x f c;rw[VX]at c;split at c;grind;rename_i b;exact h j x (Q5.2 ⟨λq=>b q.symm,f⟩) c
theorem LpS.set{H c:Ar}{id:Nat}{i:Dt}(h:LpS H c)(l:id<H.length)(p: ∀ro F n env f a b s,c[id]? =some (.lp ro F n env f a b s)-> ∃g o,i= .lp g F n env f a b o):LpS (H.set id i) c:=by intro j k ro F n env f a b s m;rw[dV]at k;by_cases d:j=id;grind;rw[DU λe=>d e.symm];exact h j k _ _ _ _ _ _ _ _ m
variable {i:List Sm}
theorem pr(id:Nat){f:Ar}{H:Dt}(c:A[id]? =some H)(g:(H.ro||H.isLp)=false)(l:A.length≤b.length)(lp:LpS A b)
  (hr:HR b A (id::Lg i)) (ok:PA G A) (q0:PA G (A.set id .dead)->LpS (A.set id .dead) b->HR b (A.set id .dead) (Lg i)->IS e b i G (A.set id .dead) L f):IS e b (.x id::i) G A L f:=by
 have a:H.isLp=false:=q!
 have st:CL A (A.set id .dead):=CL.set c q! λ_ _ _ _ _ H=>by cases H
 have d:id<b.length:=q!
 have q:=q0 ⟨st.env ok.env,heap_set st ok.heap trivial⟩ (lp.set (G3 c) λ_ _ _ _ _ _ _ _ r=>by have⟨k,m,q⟩:=lp id (G3 c) _ _ _ _ _ _ _ _ r;rw[c]at q;injection q with q;rw[q]at a;cases a) (HR.set hr (Av d) (.inl rfl));refine⟨q.get,q.ok,q.env,q.hr,st.trans q.step,by simpa using q.len,λj h=>?_⟩;have:=Q5.1 h;rw[q.same j this.2,DU λH=>this.1 H.symm]
def OE{env1:Bd}{G:Ar}(o:PA env1 G): ∀{slots:List Sm} {B:List DV} {env:Bd} {H:Ar} {env2:Bd} {D:Ar},Z9 env1 G slots=some B→Wg slots B env H=some (env2,D)→PA env H→
  H.length<=G.length->(∀p∈env,∃v,(p.1,v)∈env1/\Ww v.enc p.2.enc)->HR G H (Lg slots)->LpS H G->IS env1 G slots env H env2 D
 |[],B,env,H,env2,D,h,k,ok,hl,he,hr,lp=>by simp only[Z9,Ao]at h;subst h;simp only[Wg,Ao,EX]at k;obtain⟨rfl,rfl⟩:=k;exact⟨λ_ _=>rfl,ok,he,hr,CL.refl _,rfl,λ_ _=>rfl⟩
 | .t tmp ty::r,B,env,H,env2,D,h,k,ok,hl,he,hr,lp=>by
  simp[Z9]at h;split at h;rename_i x d L T;cases h;simp[Wg]at k;have f:PA ((tmp,ty.tv x)::env) H:=⟨λp z=>by rcases Aw.1 z with rfl|z;exact ty.tv_ok x;exact ok.env p z,ok.heap⟩
  have q:=OE o T k f hl (λp z=>by rcases Aw.1 z with rfl|z;refine⟨env1.get tmp,dP rfl λe=>?_,?_⟩;rw[e]at L;cases ty<;>cases L;simp[ty.tv_enc];exact MI L;exact he p z) hr lp;refine⟨λt J=>?_,q.ok,q.env,q.hr,q.step,q.len,q.same⟩;have:=Q5.1 J;rw[q.get t this.2];simp[Bd.get,beq_false λe=>this.1 e.symm];cases h
 | .g tmp id::r,B,env,H,env2,D,h,k,ok,hl,he,hr,lp=>by
  simp[Z9]at h;split at h
  ·rename_i x L;split at h
   ·rename_i I;simp[BY,XU]at I;have Z:x.ok G:=lz o.env tmp x (by rw[L];simp[TV.refs]);obtain⟨b1,t,l,n,ad,rfl,C⟩:=pX Z I.1;simp[Wg]at k;split at k
    ·rename_i b2 R l2 n2 V h2;have⟨e,U,Y⟩:=hr id _ I.2 h2;rw[C]at U;cases U;rcases Y with i|⟨_,_,_,_,i,_⟩|⟨_,_,_,_,_,_,_,i,h1⟩|⟨_,_,_,_,_,_,_,_,_,i,_⟩|⟨_,_,_,_,_,i,_⟩;cases i;cases i;rotate_left;cases i;cases i;injection i with e1 e2 e3 e4 e5;injection h1 with f1 f2 f3 f4 f5;subst e2 e4 f2 f4;have f:PA ((tmp,.c (.own id V R n2))::env) H:=⟨λp z=>by rcases Aw.1 z with rfl|z;exact Jt (Xe h2);exact ok.env p z,ok.heap⟩
     have q:=OE o h k f hl (λp z=>by rcases Aw.1 z with rfl|z;exact⟨_,dP L (λe=>by cases e),Ww.refl _⟩;exact he p z) hr lp;refine⟨λt J=>?_,q.ok,q.env,q.hr,q.step,q.len,q.same⟩;have:=Q5.1 J;rw[q.get t this.2];simp[Bd.get,beq_false λe=>this.1 e.symm]
    cases k
   cases h
  cases h
 | .p id Q::r,B,env,H,env2,D,h,k,ok,hl,he,hr,lp=>by
  simp[Z9]at h;split at h;rename_i b cs C;split at h;rename_i a b1 ha I;cases h;simp[Wg]at k;split at k;rename_i al i;split at k;rename_i M S hi;have X:lok G cs:=by simpa only[Dt.ok]using o.heap _ (BN C)
  have⟨rfl,q2,q3⟩:=lj hr X ha hi;have st:CL H (H.set id (.live false M)):=CL.set i rfl λ_ _ _ _ _ e=>by cases e
  have A:HR G (H.set id (.live false M)) (Lg r):=HR.set hr C (.inr (.inl ⟨_,_,_,_,rfl,rfl,q2⟩));have f:PA env (H.set id (.live false M)):=⟨st.env ok.env,heap_set st ok.heap (by simpa only[Dt.ok]using st.lok q3)⟩
  have q:=OE o I k f (by simpa using hl) he A (lp.set (G3 i) λ_ _ _ _ _ _ _ _ E=>by rw[C]at E;cases E);refine⟨q.get,q.ok,q.env,q.hr,st.trans q.step,by simpa using q.len,λj N=>?_⟩;have:=Q5.1 N;rw[q.same j this.2,DU λe=>this.1 e.symm];cases k;cases k;cases h;cases h
 | .u id ty::r,B,env,H,env2,D,h,k,ok,hl,he,hr,lp=>by
  simp[Z9]at h;split at h;rename_i b t l n ad C;split at h;rename_i S I T;cases h;simp[Wg]at k;split at k;rename_i t' l0 n0 K i;split at k;rename_i J;have e:=Ty.beq_eq _ _ J;subst e;have hn:n=l.length:=by simpa only[Dt.ok]using o.heap _ (BN C)
  have st:CL H (H.set id (.buf false t' l l.length (K+1))):=CL.set i rfl λro R l2 n2 v2 e=>by cases e;exact⟨_,_,_,_,rfl,.inl o!⟩
  have A:HR G (H.set id (.buf false t' l l.length (K+1))) (Lg r):=HR.set hr C (.inr (.inr (.inl ⟨_,_,_,_,_,_,_,rfl,by rw[hn]⟩)));have f:PA env (H.set id (.buf false t' l l.length (K+1))):=⟨st.env ok.env,heap_set st ok.heap rfl⟩
  have q:=OE o T k f (by simpa using hl) he A (lp.set (G3 i) λ_ _ _ _ _ _ _ _ E=>by rw[C]at E;cases E);refine⟨q.get,q.ok,q.env,q.hr,st.trans q.step,by simpa using q.len,λj N=>?_⟩;have:=Q5.1 N;rw[q.same j this.2,DU λe=>this.1 e.symm];cases k;cases k;cases h;cases h
 | .x id::r,B,env,H,env2,D,h,k,ok,hl,he,hr,lp=>by
  simp[Z9]at h;cases B with
  |nil=>simp[Wg]at k;split at k;rename_i e i;split at k;rename_i O;exact pr id i O hl lp hr ok λf P A=>OE o h k f (by simpa using hl) he A P;cases k;cases k
  |cons d B=>simp[Wg]at k;split at k;rename_i e i;split at k;rename_i O;exact pr id i O hl lp hr ok λf P A=>OE o h k f (by simpa using hl) he A P;cases k;cases k
 | .k tmp w::r,B,env,H,env2,D,h,k,ok,hl,he,hr,lp=>by
  have k':Wg r B ((tmp,.c (.raw w))::env) H=some (env2,D):=by cases B<;>simpa only[Wg]using k
  simp[Z9]at h;split at h;rename_i w' L;split at h;rename_i I;have e:=AFO I;subst e;have f:PA ((tmp,.c (.raw w))::env) H:=⟨λp z=>by rcases Aw.1 z with rfl|z;exact Jt trivial;exact ok.env p z,ok.heap⟩
  have hw:w≠ .any:=by rintro rfl;cases I
  have q:=OE o h k' f hl (λp z=>by rcases Aw.1 z with rfl|z;refine⟨_,dP L (λe=>?_),Ww.refl _⟩;injection e with e;injection e with e;exact hw e;exact he p z) hr lp;refine⟨λt J=>?_,q.ok,q.env,q.hr,q.step,q.len,q.same⟩;have:=Q5.1 J;rw[q.get t this.2];simp[Bd.get,beq_false λe=>this.1 e.symm];cases h;cases h
 | .y id s::r,B,env,H,env2,D,h,k,ok,hl,he,hr,lp=>by
  simp[Z9]at h;split at h;rename_i ap F1 n1 e1 p1 a1 b1 s1 C;split at h;rename_i I;have e0:=LS.beq_eq I;subst e0;obtain⟨F,n,e,Q,a,b,s0,i,k'⟩: ∃F n e Q a b s0,H[id]? =some (.lp false F n e Q a b s0)/\Wg r B env (H.set id (.lp false F n e Q a b s))=some (env2,D):=by cases B<;>simp[Wg]at k<;>split at k<;>first|exact⟨_,_,_,_,_,_,_,‹_›,k⟩|cases k
  have⟨ar,s2,q⟩:=lp id (G3 i) _ _ _ _ _ _ _ _ C;rw[i]at q;injection q with q;injection q with _ q2 q3 q4 q5 q6 q7 _;subst q2 q3 q4 q5 q6 q7;have st:CL H (H.set id (.lp false F n e Q a b s)):=CL.set i rfl (λ_ _ _ _ _ e=>by cases e) λ_ _ _ _ _ _ _ _ e=>by cases e;exact⟨_,_,rfl⟩
  have A:HR G (H.set id (.lp false F n e Q a b s)) (Lg r):=HR.set hr C (.inr (.inr (.inr (.inl ⟨_,_,_,_,_,_,_,_,_,rfl,rfl⟩))));have f:PA env (H.set id (.lp false F n e Q a b s)):=⟨st.env ok.env,heap_set st ok.heap (by have:=ok.heap _ (BN i);simpa only[Dt.ok]using this)⟩
  have q:=OE o h k' f (by simpa using hl) he A (lp.set (G3 i) λ_ _ _ _ _ _ _ _ E=>by rw[C]at E;injection E with E;cases E;exact⟨_,_,rfl⟩);refine⟨q.get,q.ok,q.env,q.hr,st.trans q.step,by simpa using q.len,λj N=>?_⟩;have:=Q5.1 N;rw[q.same j this.2,DU λe=>this.1 e.symm];cases h;cases h
 | .m id kk ty::r,B,env,H,env2,D,h,k,ok,hl,he,hr,lp=>by
  simp[Z9]at h;split at h;rename_i b k1 t1 W C;split at h;rename_i S I T;cases h;simp[Wg]at k;split at k;rename_i k2 R ao i;split at k;rename_i J;simp[BY,decide_eq_true_eq]at J;have⟨rfl,J⟩:=J;have e:=Ty.beq_eq _ _ J;subst e;have st:CL H (H.set id (.mp false k2 R W)):=CL.set i rfl λ_ _ _ _ _ e=>by cases e
  have A:HR G (H.set id (.mp false k2 R W)) (Lg r):=HR.set hr C (.inr (.inr (.inr (.inr ⟨_,_,_,_,_,rfl,rfl⟩))));have f:PA env (H.set id (.mp false k2 R W)):=⟨st.env ok.env,heap_set st ok.heap trivial⟩
  have q:=OE o T k f (by simpa using hl) he A (lp.set (G3 i) λ_ _ _ _ _ _ _ _ E=>by rw[C]at E;cases E);refine⟨q.get,q.ok,q.env,q.hr,st.trans q.step,by simpa using q.len,λj N=>?_⟩;have:=Q5.1 N;rw[q.same j this.2,DU λe=>this.1 e.symm];cases k;cases k;cases h;cases h
def Z8(n:Nat):List Bz->Bool
 |[]=>true
 | .own id _ _ _::r=>Nat.blt id n&&Z8 n r
 | .raw v::r=>v.idsAll (λid=>Nat.blt id n)&&Z8 n r
 |_::r=>Z8 n r
mutual
def uJ(n:Nat):TV->Bool
 | .c x=>Z8 n [x]
 | .g cs=>Z8 n cs
 | .aptr id .. =>Nat.blt id n
 | .bptr id .. =>Nat.blt id n
 | .vw id .. =>Nat.blt id n
 | .vptr cs post=>Z8 n cs&&Aa.idsAllL (λid=>Nat.blt id n) post
 | .tup vs=>vP n vs
def vP(n:Nat):List TV->Bool
 |[]=>true
 |v::r=>uJ n v&&vP n r
end
def tT(n:Nat):Bd->Bool
 |[]=>true
 |(_,v)::r=>uJ n v&&tT n r
def kS(n:Nat):Ar->Bool
 |[]=>true
 | .live _ cs::r=>Z8 n cs&&kS n r
 | .lp _ _ _ env _ _ _ _::r=>tT n env&&kS n r
 |_::r=>kS n r
def js(h:Nat.blt N n=true):decide (N<n)=true:=t!
def jU(h:Pure j)(n:Nat):(j.idsAll λid=>decide (id<n))=true:=Qo (λ_ h=>by cases h) j h
def xU: ∀{x:Bz},Z8 n [x]=true->(∀v∈x.enc,(v.idsAll λid=>decide (id<n))=true)/\(x.one.idsAll λid=>decide (id<n))=true
 | .bl _,_=>⟨λv b=>by simp only[Bz.enc,A6]at b;subst b;rfl,rfl⟩
 | .it _ _,_=>⟨λv b=>by simp only[Bz.enc,A6]at b;subst b;rfl,rfl⟩
 | .st _,_=>⟨λv b=>by simp only[Bz.enc,A6]at b;subst b;rfl,rfl⟩
 | .ls t l,_=>⟨λv b=>by simp only[Bz.enc,A6]at b;subst b;exact jU ((Ty.list t).enc_pure l) n,jU ((Ty.list t).enc_pure l) n⟩
 | .ar m t a,_=>by have h:=jU ((Ty.arr m t).enc_pure a) n;refine⟨λv b=>?_,h⟩;exact((Dr _ _).1 h) v b
 | .own id ver t m,h=>by simp only[Z8,Qr]at h;have:=js h;exact⟨λv b=>by simp only[Bz.enc,A6]at b;subst b;exact this,this⟩
 | .nil,_=>⟨λv b=>by simp only[Bz.enc,A6]at b;subst b;rfl,rfl⟩
 | .raw v,h=>by simp only[Z8,Qr]at h;have:=Qo (λ_ h=>js h) v h;exact⟨λu c=>by simp only[Bz.enc,A6]at c;subst c;exact this,this⟩
def uI{r:List Bz}(h:Z8 n (C::r)=true):Z8 n [C]=true/\Z8 n r=true:=by cases C<;>simp only[Z8,Qr,BY]at h⊢ <;>first|exact h|exact⟨trivial,h⟩
def jx{n:Nat}: ∀{b:List Bz},Z8 n b=true->Aa.idsAllL (λid=>decide (id<n)) (lvs b)=true
 |[],_=>rfl
 |x::r,h=>by obtain⟨c,d⟩:=uI h;rw[Ha,Dr];intro v a;rcases An.1 a with a|a;exact(xU c).1 v a;exact((Dr _ _).1 (jx d)) v a
mutual
theorem fF{n:Nat}: ∀{v:TV},uJ n v=true->(v.enc.idsAll λid=>decide (id<n))=true
 | .c x,h=>(xU h).2
 | .g cs,h=>jx h
 | .aptr ..,h=>js h
 | .bptr ..,h=>js h
 | .vw id ver t k lo m,h=>by have b:=js h;show((vwE id k t.sz lo m).idsAll λid=>decide (id<n))=true;unfold vwE;split;split;exact b;rfl;exact b
 | .vptr cs post,h=>by simp only[uJ,BY]at h;simp only[TV.enc,Aa.idsAll];rw[Dr];intro v a;rcases An.1 a with a|a;exact((Dr _ _).1 (jx h.1)) v a;exact((Dr _ _).1 (JH (λ_ h=>js h) post h.2)) v a
 | .tup vs,h=>by simp only[uJ]at h;simp only[TV.enc,Aa.idsAll];exact pV h
theorem pV{n:Nat}: ∀{a:List TV},vP n a=true->Aa.idsAllL (λid=>decide (id<n)) (TV.encL a)=true
 |[],_=>rfl
 |v::r,h=>by simp only[vP,BY]at h;simp only[TV.encL,Aa.idsAllL,BY];exact⟨fF h.1,pV h.2⟩
end
def jv{n:Nat}: ∀{env:Bd},tT n env=true-> ∀p∈env,uJ n p.2=true
 |[],_,p,a=>by cases a
 |(t,v)::r,h,p,a=>by simp only[tT,BY]at h;rcases Aw.1 a with rfl|a;exact h.1;exact jv h.2 p a
def jw{n:Nat}: ∀{H:Ar},kS n H=true-> ∀e∈BK H,(e.idsAll λid=>decide (id<n))=true
 |x::r,h,e,c=>by
  have g:kS n r=true:=by cases x<;>simp only[kS,BY]at h<;>first|exact h|exact h.2
  simp only[BK,Bl,Aw]at c;rcases c with rfl|c;cases x with
  |dead=>rfl
  |live b o=>simp only[kS,BY]at h;exact jx h.1
  |buf b t l m k=>simp only[Dt.enc,Fl.idsAll];rw[Dr];intro v d;obtain⟨u,j,d⟩:=Hj.1 d;obtain⟨y,_,rfl⟩:=Br.1 j;have h:=jU (t.E.pure y) n;cases q:t.E.f y<;>simp_all[Aa.idsAll,Dr,Aa.cells]
  |mp=>rfl
  |lp ro F m env w a b s=>simp only[kS,BY]at h;simp only[Dt.enc,Fl.idsAll,B4,List.all_map,GA];exact λp i=>fF (jv h.1 p i)
  exact jw g e c
def GD.cut{N n0:Nat}{env:Env}{H:A1}(hn:n0≤H.length)(d: ∀t v,(t,v)∈env→(v.idsAll λid=>decide (id<n0))=true)
  (c: ∀e∈H.take n0,(e.idsAll λid=>decide (id<n0))=true):GD N n0 env H env (H.take n0):=
 ⟨w!,λX g a w s=>⟨g,⟨s.sim.trunc hn c,λt v m=>⟨(s.env t v m).1,(s.env t v m).2.trunc hn (d t v m)⟩,s.size⟩,λ_ _=>⟨rfl,rfl,rfl⟩,λB b=>gC b⟩⟩
theorem uN{e:Fl}(h:(BK b)[N]? =some e): ∃x,b[N]? =some x/\e=x.enc:=by grind[BK]
theorem HR.rel(o:A.length<=b.length)(hr:HR b A [])(x:Cx):Tz x x (BK b) (BK A++(BK b).drop A.length):=by
 refine⟨by simp[BK];omega,λj w z=>?_⟩;have same: ∀{y:Dt},b[j]? =some y->w=y.enc->w= .dead\/(∃g p c,(BK b)[j]? =some (.live g p)/\w= .live g c/\c.length=p.length/\ ∀(i:Nat) (f:Aa),c[i]? =some f-> ∃v,p[i]? =some v/\Conv x x v f)\/((BK b)[j]? =some w/\ ∀g p,w≠ .live g p):=by
  intro y D q;have d:(BK b)[j]? =some y.enc:=by grind[BK]
  subst q;cases y with
  |dead=>exact .inl rfl
  |live u p=>exact .inr (.inl ⟨_,_,_,d,rfl,rfl,λi f h=>⟨f,h,λ_ r=>r⟩⟩)
  |buf u t l m H=>exact .inr (.inl ⟨_,_,_,d,rfl,rfl,λi f h=>⟨f,h,λ_ r=>r⟩⟩)
  |lp=>exact .inr (.inr ⟨d,λ_ _ h=>by cases h⟩)
  |mp=>exact .inr (.inr ⟨d,λ_ _ h=>by cases h⟩)
 rcases Ay j A.length with h|h;rw[CT (by rw[Cf];exact h)]at z;obtain⟨y,D,rfl⟩:=uN z;obtain⟨e,q,B⟩:=hr j y rfl D;rcases B with rfl|⟨u,p,C,c,rfl,rfl,o⟩|⟨u,t,l,m,v,C,f,rfl,rfl⟩|⟨ro,G,F,n,env,J,a,u,s,rfl,rfl⟩|⟨u,C,k,t,I,rfl,rfl⟩;exact .inl rfl;refine .inr (.inl ⟨0,lvs p,lvs c,by simp only[BK,CN,q,Bs,Dt.enc],rfl,o.1,λi f E=>?_⟩);obtain⟨v,q1,q2⟩:=o.2 i f E;exact⟨v,q1,q2 x⟩;exact same q rfl;exact same q rfl;exact same q rfl;rw[Cj (by rw[Cf];exact h),KX]at z;rw[Cf]at z;grind[uN]
def IS.weak{N:Nat}{b:Ar}{H:Ar}(s:IS e b i G H L A)(k:H.length≤b.length)(n:tT H.length L=true)(o:kS H.length A=true):
  GD N H.length (B4 e) (BK b) (B4 L) (BK A):=by
 have g:A.length<=b.length:=by rw[s.len];exact k
 have x:GD N (BK b).length (B4 e) (BK b) (B4 L) (BK A++(BK b).drop A.length):=by refine Vp (by simp[BK];omega) λX h w _=>?_;have q:=(HR.rel g s.hr (cx X h (BK b) w)).onto;refine⟨q,λt z m=>?_⟩;obtain⟨p,j,B⟩:=Br.1 m;injection B with d f;subst d f;obtain⟨v,u,a⟩:=s.env p j;exact⟨v.enc,Br.2 ⟨_,u,rfl⟩,λc r=>(a _ c r).later q.later⟩
 have l:(BK A++(BK b).drop A.length).take H.length=BK A:=by rw[<-s.len,<-Cf A,Fb];rfl
 have y:GD N H.length (B4 L) (BK A++(BK b).drop A.length) (B4 L) (BK A):=by have:=GD.cut (N:=N) (n0:=H.length) (env:=B4 L) (H:=BK A++(BK b).drop A.length) (by simp[BK,s.len]) (λt v m=>by obtain⟨p,j,B⟩:=Br.1 m;injection B with d f;subst d f;exact fF (jv n p j)) (by rw[l];exact jw o);rwa [l]at this
 exact(x.of_le (by rw[Cf];exact k)).trans y
def uP:Exit->Exit->Bool
 | .normal,.normal=>true
 | .exit a,.exit b=>Nat.beq a b
 | .ret,.ret=>true
 |_,_=>false
def rV{b:Exit}(h:uP x b=true):x=b:=by cases x<;>cases b<;>simp only[uP]at h<;>first|rfl|cases h|exact congrArg _ (DO h)
structure Hint where
 kind:Nat
 key:Nat
 virt:List (Nat×Ty)
 virtC:List (Nat×Nat×Ty)
 kill:List Nat
 drop:List Nat
 slots:List Sm
 exits:List (Exit×List Sm)
def Hint.tmps(h:Hint):List Nat:=h.drop++h.virt.map (·.1)++ZX h.slots++h.exits.flatMap λp=>ZX p.2
def nA(kind key:Nat):List Hint->Option Hint
 |[]=>none
 |h::r=>match Nat.beq kind h.kind&&Nat.beq key h.key with|true=>some h|false=>nA kind key r
def xH:Code->Option Nat
 | .region id _ _=>some id
 | .seq a b=>match xH a with|some x=>some x|none=>xH b
 | .cond _ a b=>match xH a with|some x=>some x|none=>xH b
 | .block _ b=>xH b
 | .loop b=>xH b
 |_=>none
def sF:Code->Bool
 | .seq a _=>sF a
 | .block _ b=>sF b
 | .loop _=>true
 |_=>false
def AHn(b:Code)(r:Nat)(hs:List Hint):Option Hint:=
 match sF b with
 |true=>(match nA 5 r hs with|some h=>some h|none=>nA 0 r hs)
 |false=>nA 0 r hs
def hintOf(hs:List Hint):Code->Option Hint
 | .loop b=>match xH b with|some r=>AHn b r hs|none=>none
 | .block id _=>nA 1 id hs
 | .cond _ a b=>match xH (.seq a b)with|some r=>nA 2 r hs|none=>none
 | .region id _ _=>nA 6 id hs
 |_=>none
def pp(hs:List Hint)(c:Code):List Nat:=
 match hintOf hs c with
 |some h=>h.tmps
 |none=>[]
def qj(hs:List Hint):Code->Code->Option Hint
 | .region id _ _,.cond _ _ _=>nA 4 id hs
 |_,_=>none
def tH(hs:List Hint)(a b:Code):List Nat:=
 match qj hs a b with
 |some h=>h.tmps
 |none=>[]
def Qw(hs:List Hint):Code->List Nat
 | .region id ops d=>mw ops.toList++pp hs (.region id ops d)
 | .seq a b=>(Qw hs a++Qw hs b)++tH hs a b
 | .cond c a b=>Qw hs a++Qw hs b++pp hs (.cond c a b)
 | .block id b=>Qw hs b++pp hs (.block id b)
 | .loop b=>Qw hs b++pp hs (.loop b)
 |_=>[]
def wb:TV->Bool
 | .c (.raw .any)=>true
 |_=>false
def ACP(h:wb u=false):u≠Ux:=by rintro rfl;cases h
def vZ(H:Ar)(id:Nat):Bool:=match H[id]? with|some (.buf false _ _ _ _)=>true|_=>false
def gS(A S:List Nat)(H:Ar)(t:Nat)(v:TV):Bool:=
 match OF t A with
 |true=>false
 |false=>match wb v with
  |true=>false
  |false=>(K2 v.refs).all λid=>!(OF id S&&vZ H id)
def QK(A S:List Nat)(H:Ar):Bd->Bd
 |[]=>[]
 |(t,v)::r=>match gS A S H t v with|true=>(t,v)::QK A S H r|false=>QK A S H r
def Mj(S:List Nat):Nat->Ar->Ar
 |_,[]=>[]
 |j,e::r=>(match OF j S with|true=>e|false=>e.lock)::Mj S (j+1) r
def o8:Bd->Bool
 |[]=>true
 |(t,_)::r=>!OF t (r.map (·.1))&&o8 r
theorem Vl(h:N∉a):OF N a=false:=by
 cases j:OF N a with
 |false=>rfl
 |true=>induction a<;>grind[OF,Nat.eq_of_beq_eq_true]
def ZU: ∀{env:Bd},o8 env=true->(env.map (·.1)).Nodup
 |[],_=>QG
 |(t,v)::r,h=>by simp only[o8,BY,XU]at h;exact Gk.2 ⟨Tu h.1,ZU h.2⟩
theorem jq{A S:List Nat}{H:Ar}: ∀{env:Bd},(env.map (·.1)).Nodup-> ∀t,gS A S H t (env.get t)=true->(QK A S H env).get t=env.get t
 |[],_,t,_=>rfl
 |(u,v)::r,nd,t,h=>by have a:=Gk.1 nd;simp only[Bd.get]at h⊢;by_cases b:u=t;grind[Nat.beq_refl,QK,Bd.get];rw[beq_false b]at h⊢;have c:=jq a.2 t h;grind[QK,Bd.get,beq_false]
theorem Qx{A S:List Nat}{H:Ar}: ∀{env:Bd},(env.map (·.1)).Nodup-> ∀p∈QK A S H env,env.get p.1=p.2/\gS A S H p.1 p.2=true/\p∈env
 |(u,v)::r,nd,p,h=>by
  have a:=Gk.1 nd;have tail:p∈QK A S H r->Bd.get ((u,v)::r) p.1=p.2/\gS A S H p.1 p.2=true/\p∈(u,v)::r:=λh=>by obtain⟨q1,q2,q3⟩:=Qx a.2 p h;grind[Bd.get,beq_false]
  grind[QK,Bd.get,Nat.beq_refl]
theorem Kc{S:List Nat}: ∀(H:Ar) (i j:Nat),(Mj S i H)[j]? =(H[j]?).map λe=>match OF (i+j) S with|true=>e|false=>e.lock
 |[],i,j=>by simp[Mj]
 |e::r,i,0=>by simp[Mj]
 |e::r,i,j+1=>by simp only[Mj,oH];rw[Kc r (i+1) j];grind
def Ke{S:List Nat}: ∀(H:Ar) (i:Nat),(Mj S i H).length=H.length
 |[],_=>rfl
 |e::r,i=>by simp[Mj,Ke r]
theorem uc{S:List Nat}: ∀(H:Ar) (i:Nat),BK (Mj S i H)=BK H
 |[],_=>rfl
 |e::r,i=>by have:=uc (S:=S) r (i+1);grind[BK,Mj,sT]
theorem sU(h:Um b N n p v):Um (Mj a 0 b) N n p v:=by
 refine⟨by rw[Ke];exact h.1,λro r l c f S=>?_⟩;rw[Kc]at S;cases d:b[N]? with
 |none=>grind
 |some e=>
  rw[d]at S;simp at S;split at S;subst S;exact h.2 _ _ _ _ _ d;cases e with
  |dead=>cases S
  |live H k=>cases S
  |lp=>cases S
  |mp=>cases S
  |buf H s o q u=>injection S with _ g m i j;subst g i j;exact h.2 _ _ _ _ _ d
def ud(h:C.ok b):C.ok (Mj a 0 b):=by
 cases C with
 |own id S t n=>exact sU h
 |_=>trivial
theorem nW(ok:PA e b):PA e (Mj a 0 b):=by
 refine⟨λp o x g=>ud (ok.env p o x g),λS m=>?_⟩;obtain⟨j,H⟩:=FZ.1 m;rw[Kc]at H;cases i:b[j]? with
 |none=>grind
 |some c=>
  rw[i]at H;simp at H;have d:=ok.heap c (BN i);have f:c.ok (Mj a 0 b):=by
   cases c with
   |dead=>trivial
   |live q k=>exact λx g=>ud (d x g)
   |buf q t l n h=>exact d
   |lp=>exact d
   |mp=>exact d
  split at H;grind;subst H;cases c with
  |dead=>trivial
  |live q k=>exact f
  |buf q t l n h=>exact f
  |lp=>exact f
  |mp=>exact f
theorem AE3(H:Ar):LpS (Mj a 0 H) H:=by intro id c ro F n env d S b s h;rw[Kc,h];split;grind;exact⟨_,_,rfl⟩
theorem AC8(H:Ar):LpS H (Mj a 0 H):=by
 intro id d ro F n env f S b s h;rw[Kc]at h;cases c:H[id]? with
 |none=>grind
 |some e=>
  rw[c]at h;simp at h;split at h;grind;cases e with
  |lp=>injection h with _ q2 q3 q4 q5 q6 q7 _;grind
  |_=>cases h
def mF{id a n:Nat}{t:Ty}: ∀{b:List Bz},Bz.own id a t n∈b->id∈K2 b
 |x::r,h=>by rcases Aw.1 h with rfl|h;exact Iv;have:=mF h;cases x<;>simp only[K2]<;>first|exact this|exact CW _ this
def xS(h:gS a z b N u=true)(m:u.ok b)(st:CL (Mj z 0 b) A):nT A u:=by
 intro id o r n g;unfold gS at h;split at h;cases h;split at h;cases h;have H:=GA.1 h id (mF g);have d:id<b.length:=(m _ g).1;refine st.nb id (by rw[Ke];exact d) λq l p i S=>?_;rw[Kc,D9]at S;cases c:b[id]? with
 |none=>rw[c]at S;cases S
 |some e=>rw[c]at S;simp only[Bs,Ao]at S;split at S;rename_i k;subst S;simp only[k,vZ,c]at H;cases H;cases e<;>simp only[Dt.lock]at S<;>first|cases S|(injection S with j;cases j)
theorem AC6(g:OF N a=false)(i:wb u=false)(j:nT b u):gS a z b N u=true:=by
 unfold gS;rw[g,i];refine GA.2 λid e=>?_;have: ∃d f n,Bz.own id d f n∈u.refs:=by
  generalize u.refs=cs at e;induction cs with
  |nil=>cases e
  |cons x r m=>
   cases x with
   |own l d f n=>grind[K2]
   |_=>obtain⟨A,S,c,h⟩:=m e;grind
 obtain⟨d,f,n,k⟩:=this;have:=j id d f n k;grind[vZ]
def AGv:List Part->List Nat
 |[]=>[]
 | .o id::r=>id::AGv r
 |_::r=>AGv r
def lF(env:Bd)(H:Ar):List Sm->List Nat
 |[]=>[]
 | .t tmp _::r=>K2 (env.get tmp).refs++lF env H r
 | .p id ps::r=>(match H[id]? with|some (.live _ cs)=>(K2 cs).filter λi=>!OF i (AGv ps)|_=>[])++lF env H r
 |_::r=>lF env H r
def wq(sl:List Sm)(env:Bd)(H:Ar):Option (DL (gJ sl)):=
 match IK (lF env H sl) env H with
 |(e,h)=>match Z9 e h sl with|some ds=>zE (gJ sl) ds|none=>none
def vr:List (Exit×List Sm)->Type
 |[]=>Unit
 |[p]=>DL (gJ p.2)
 |p::q::r=>DL (gJ p.2)⊕ vr (q::r)
def zK:(xs:List (Exit×List Sm))->Exit->Bd->Ar->Option (vr xs)
 |[],_,_,_=>none
 |[p],x,env,H=>match uP p.1 x with|true=>wq p.2 env H|false=>none
 |p::q::r,x,env,H=>
  match uP p.1 x with
  |true=>(match wq p.2 env H with|some s=>some (.inl s)|none=>none)
  |false=>(match zK (q::r) x env H with|some s=>some (.inr s)|none=>none)
def AG2{R:Type}:(xs:List (Exit×List Sm))->vr xs->(Exit->List Sm->List DV->Option R)->Option R
 |[],_,_=>none
 |[p],s,k=>k p.1 p.2 (dvs (gJ p.2) s)
 |p::q::r,o,k=>Sum.elim (λs=>k p.1 p.2 (dvs (gJ p.2) s)) (λs=>AG2 (q::r) s k) o
def vt:(xs:List (Exit×List Sm))->vr xs->Exit×List Sm×List DV
 |[],_=>(.normal,[],[])
 |[p],s=>(p.1,p.2,dvs (gJ p.2) s)
 |p::q::r,.inl s=>(p.1,p.2,dvs (gJ p.2) s)
 |p::q::r,.inr s=>vt (q::r) s
def un{R:Type}: ∀{xs:List (Exit×List Sm)} {o:vr xs} {k:Exit->List Sm->List DV->Option R} {r:R},AG2 xs o k=some r->k (vt xs o).1 (vt xs o).2.1 (vt xs o).2.2=some r
 |[],_,_,_,h=>by cases h
 |[p],s,k,r,h=>h
 |p::q::t,.inl s,k,r,h=>h
 |p::q::t,.inr s,k,r,h=>un (xs:=q::t) h
def AEC(sl:List Sm)(ds:List DV)(env:Bd)(H:Ar):Prop:=Z9 (IK (lF env H sl) env H).1 (IK (lF env H sl) env H).2 sl=some ds
theorem lh{s:DL (gJ i)}(h:wq i e b=some s):AEC i (dvs (gJ i) s) e b:=by grind[wq,AEC,o7]
def uo: ∀{xs:List (Exit×List Sm)} {x:Exit} {env:Bd} {H:Ar} {o:vr xs},zK xs x env H=some o→
  (vt xs o).1=x/\AEC (vt xs o).2.1 (vt xs o).2.2 env H/\ ∃p∈xs,(vt xs o).2.1=p.2
 |[p],x,env,H,o,h=>by simp only[zK]at h;split at h;rename_i a;exact⟨rV a,lh h,p,k!,rfl⟩;cases h
 |p::q::r,x,env,H,o,h=>by simp only[zK]at h;split at h;rename_i a;split at h;rename_i s b;injection h with h;subst h;exact⟨rV a,lh b,p,k!,rfl⟩;cases h;split at h;rename_i s b;injection h with h;subst h;obtain⟨q1,q2,c,q3,q4⟩:=uo (xs:=q::r) b;exact⟨q1,q2,c,CW _ q3,q4⟩;cases h
structure yR(A S:List Nat)(env0:Bd)(H0:Ar)(e2:Bd)(h2:Ar):Prop where
 ok:PA e2 h2
 step:CL (Mj S 0 H0) h2
 len:h2.length=H0.length
 same: ∀j,OF j S=false->h2[j]? =(Mj S 0 H0)[j]?
 get: ∀p∈QK A S H0 env0,e2.get p.1=p.2
theorem zx{A B S:List Nat}{env0:Bd}{a:Ar}{L:Bd}{s:Ar}(m:PA env0 a)(nd:(env0.map (·.1)).Nodup)(g:yR A S env0 a L s)
  {env1:Bd} {d:Ar} (G:PA env1 d) (st:Ej B L s env1 d) (U: ∀t,t∈B->t∈A) {o:List Sm} {K:List DV} (W:AEC o K env1 d)
  {Hx:Ar} (J: ∀e∈Hx,e.ok Hx) (y:Hx.length=a.length) (F:LpS Hx (Mj S 0 a)) (rx: ∀id c t n,Um a id c t n->Um Hx id c t n) (E: ∀(j:Nat) (i:Dt),OF j (Lg o)=false->Hx[j]? =some i->i= .dead\/ ∃e,OF j S=false/\(Mj S 0 a)[j]? =some e/\e.ro=true/\AGP e i)
  {r:Bd} {f:Ar} (Y:Wg o K (QK A S a env0) Hx=some (r,f)) (ce:tT a.length r=true) (ch:kS a.length f=true) (N:Nat):
  GD N a.length (B4 env1) (BK d) (B4 r) (BK f)/\ ∃P V,IS P V o (QK A S a env0) Hx r f:=by
 obtain⟨I,z,wf⟩:=Q3 (lF env1 d o) G;have u:a.length<=d.length:=by rw[<-g.len];exact st.step.len
 have b:=Ej.trans g.ok.env st z;have H: ∀p∈QK A S a env0,p.2.ok Hx:=λp v x E=>by
  have:=m.env p (Qx nd p v).2.2 x E;cases x with
  |own id c t n=>exact rx _ _ _ _ this
  |_=>trivial
 have q:=OE I W Y ⟨H,J⟩ (by rw[y];exact Dh u z.step.len) (λp v=>by
  obtain⟨b1,M,O⟩:=Qx nd p v;have hk:=xS M (m.env p O) g.step;have T:OF p.1 A=false:=by grind[gS]
  have k:wb p.2=false:=by grind[gS]
  have X:=g.get p v;have:=b.same p.1 (λh=>by rw[C5]at h;exact Tu T (U _ h)) q!;rw[X]at this;exact⟨p.2,dP this (ACP k),Ww.refl _⟩) (λj i Z C=>by
   have D:j<a.length:=q!
   rcases E j i Z C with rfl|⟨e,Q,s,f,R⟩;exact⟨_,Av (DQ D (Dh u z.step.len)),.inl rfl⟩;exact⟨e,b.step.ro j e (by rw[g.same j Q];exact s) f,R⟩) (λid l _ _ _ _ _ _ _ _ hq=>by
  obtain⟨ad,s1,q1⟩:=(g.step.trans b.step).lp id (by rw[Ke,<-y];exact l) _ _ _ _ _ _ _ _ hq;exact F id l _ _ _ _ _ _ _ _ q1)
 have w:=q.weak (N:=N) (by rw[y];exact Dh u z.step.len) q! q!;rw[y]at w;exact⟨((wf N).of_le (by rw[Cf];exact u)).trans w,_,_,q⟩
open Classical in
noncomputable def su{α:Type}(g:List α->Unit->Option (List α))(l:List α):Option (List α):=if∀m,l.Perm m->g m ()=g l ()then g l ()else none
theorem zO{g:List R->Unit->Option (List R)}{l s:List R}(h:su g l=some s): ∀m,l.Perm m->g m ()=some s:=by grind[su]
def vy:List Oper->Option (Nat×Nat×Nat×TypeId×TypeId)
 |[⟨some a1,.load ty1 (.tmp c0),_,_,_,none⟩,⟨some a2,.range ty2 (.tmp b1),_,_,_,none⟩]=>match Nat.beq a1 b1 with|true=>some (c0,a1,a2,ty1,ty2)|false=>none
 |_=>none
def si:List Oper->Option (Nat×Nat×Nat)
 |[⟨some a3,.next (.tmp a2) false,_,_,_,none⟩,⟨some a4,.extract (.tmp b3) 0,_,_,_,none⟩]=>match Nat.beq a3 b3 with|true=>some (a2,a3,a4)|false=>none
 |_=>none
def sj:List Oper->Option (Nat×Nat×Nat×Nat×TypeId×TypeId)
 |[⟨some a5,.entry (.tmp a2),_,_,_,none⟩,⟨some a6,.extract (.tmp b5) 1,_,_,_,none⟩,⟨some a7,.alloc te1,_,_,_,none⟩,⟨none,.store te2 (.tmp b7) (.tmp b6),_,_,_,none⟩]=>
  match Nat.beq a5 b5&&(Nat.beq a6 b6&&Nat.beq a7 b7)with|true=>some (a2,a5,a6,a7,te1,te2)|false=>none
 |_=>none
def sm:List Oper->Option (Nat×Nat×Nat×Nat×Nat×Nat×TypeId×TypeId×TypeId)
 |[⟨some a8,.move (.tmp out),_,_,_,none⟩,⟨some a9,.load te3 (.tmp a7),_,_,_,none⟩,⟨some a10,.buildSlice ts1 1 ⟨[(0,.tmp b9)]⟩,_,_,_,none⟩,
   ⟨some a11,.call {callee:=.builtin .append,args:=⟨[.tmp b8,.tmp b10]⟩,argTypes:=⟨[ts2,ts3]⟩},_,_,_,none⟩,⟨some out2,.assign (.tmp b11),_,_,_,none⟩]=>
  match Nat.beq a8 b8&&(Nat.beq a9 b9&&(Nat.beq a10 b10&&(Nat.beq a11 b11&&(Nat.beq out out2&&Nat.beq ts2 ts3))))with|true=>some (out,a7,a8,a9,a10,a11,te3,ts1,ts2)|false=>none
 |_=>none
def vz:List Oper->Option (Nat×Nat×Nat×FuncId×FuncId)
 |[⟨some a12,.move (.tmp out),_,_,_,none⟩,⟨some a13,.call {callee:=.value (.func F),args:=⟨[.tmp b12,.func G]⟩,.. },_,_,_,none⟩]=>match Nat.beq a12 b12 with|true=>some (out,a12,a13,F,G)|false=>none
 |_=>none
def pz(h:vy f=some (N,n,v,m,J)):
  ∃e c a l d b,f=[⟨some n,.load m (.tmp N),e,c,a,none⟩,⟨some v,.range J (.tmp n),l,d,b,none⟩]:=by
 unfold vy at h;split at h;split at h<;>simp_all;cases h
def qA(h:si f=some (N,n,v)):
  ∃e c a l d b,f=[⟨some n,.next (.tmp N) false,e,c,a,none⟩,⟨some v,.extract (.tmp n) 0,l,d,b,none⟩]:=by
 unfold si at h;split at h;split at h<;>simp_all;cases h
def qB{a7:Nat}(h:sj f=some (N,n,v,a7,m,J)):
  ∃j e a k l b p g c o i d,f=[⟨some n,.entry (.tmp N),j,e,a,none⟩,⟨some v,.extract (.tmp n) 1,k,l,b,none⟩,⟨some a7,.alloc m,p,g,c,none⟩,⟨none,.store J (.tmp a7) (.tmp v),o,i,d,none⟩]:=by
 unfold sj at h;split at h;split at h<;>simp_all;cases h
def qC{a9 a10 a11:Nat}{ts2:TypeId}(h:sm f=some (N,n,v,a9,a10,a11,m,J,ts2)):
  ∃s l a r g b o i c p j d q k e,f=[⟨some v,.move (.tmp N),s,l,a,none⟩,⟨some a9,.load m (.tmp n),r,g,b,none⟩,⟨some a10,.buildSlice J 1 #[(0,.tmp a9)],o,i,c,none⟩,⟨some a11,.call {callee:=.builtin .append,args:= #[.tmp v,.tmp a10],argTypes:= #[ts2,ts2]},p,j,d,none⟩,⟨some N,.assign (.tmp a11),q,k,e,none⟩]:=by
 unfold sm at h;split at h;split at h<;>simp_all;cases h
def qD{G:FuncId}(h:vz f=some (N,n,v,F,G)):
  ∃l d b a g e c,f=[⟨some n,.move (.tmp N),l,d,b,none⟩,⟨some v,.call {callee:=.value (.func F),args:= #[.tmp n,.func G],argTypes:=a},g,e,c,none⟩]:=by
 unfold vz at h;split at h;split at h<;>simp_all;cases h
structure Xh where
 c0:Nat
 a1:Nat
 a2:Nat
 a3:Nat
 a4:Nat
 a5:Nat
 a6:Nat
 a7:Nat
 a8:Nat
 a9:Nat
 a10:Nat
 a11:Nat
 a12:Nat
 a13:Nat
 out:Nat
 ty1:TypeId
 ty2:TypeId
 te1:TypeId
 te2:TypeId
 te3:TypeId
 ts1:TypeId
 ts2:TypeId
 F:FuncId
 G:FuncId
def vo:List Nat->Bool
 |[]=>true
 |t::r=>!OF t r&&vo r
def px: ∀{l:List Nat},vo l=true->l.Nodup
 |[],_=>QG
 |t::r,h=>by simp only[vo,BY,XU]at h;exact Gk.2 ⟨Tu h.1,px h.2⟩
def mo:Code->Code->Option Xh
 | .seq (.region _ o1 false) (.block b1 (.loop (.seq (.region _ o2 false) (.seq (.cond (.tmp x4) .skip (.exit b2)) (.block _ (.seq (.region _ o3 false) (.region _ o4 false))))))),.region _ o5 false=>
  match vy o1.toList,si o2.toList,sj o3.toList,sm o4.toList,vz o5.toList with
  |some (c0,a1,a2,ty1,ty2),some (x2,a3,a4),some (y2,a5,a6,a7,te1,te2),some (out,x7,a8,a9,a10,a11,te3,ts1,ts2),some (out2,a12,a13,F,G)=>
   match (Nat.beq b1 b2&&(Nat.beq a4 x4&&(Nat.beq a2 x2&&(Nat.beq a2 y2&&(Nat.beq a7 x7&&Nat.beq out out2)))))&&vo [out,a1,a2,a3,a4,a5,a6,a7,a8,a9,a10,a11,a12,a13]with
   |true=>some ⟨c0,a1,a2,a3,a4,a5,a6,a7,a8,a9,a10,a11,a12,a13,out,ty1,ty2,te1,te2,te3,ts1,ts2,F,G⟩
   |false=>none
  |_,_,_,_,_=>none
 |_,_=>none
def Xh.tmps(p:Xh):List Nat:=[p.out,p.a1,p.a2,p.a3,p.a4,p.a5,p.a6,p.a7,p.a8,p.a9,p.a10,p.a11,p.a12,p.a13]
def ZJ(A:List Nat):Bd->Bd
 |[]=>[]
 |(t,v)::r=>match OF t A with|true=>ZJ A r|false=>(t,v)::ZJ A r
def Vd{A:List Nat}: ∀{env:Bd} {q:Nat×TV},q∈ZJ A env->q∈env/\q.1∉A
 |[],_,h=>by cases h
 |(t,v)::r,q,h=>by simp only[ZJ]at h;split at h;exact⟨CW _ (Vd h).1,(Vd h).2⟩;rename_i a;rcases Aw.1 h with rfl|h;exact⟨Iv,Tu a⟩;exact⟨CW _ (Vd h).1,(Vd h).2⟩
theorem oW{A:List Nat}{u:Nat}(a:u∉A): ∀env:Bd,(ZJ A env).get u=env.get u
 |[]=>rfl
 |(t,v)::r=>by
  simp only[ZJ,Bd.get];split;rename_i b;have:t≠u:=λe=>by grind[Vl]
  rw[beq_false this];exact oW a r;simp[Bd.get,oW a r]
noncomputable def ACd(P:Program)(N:Nat)(cs:List RE)(p:Xh)(env:Bd)(H:Ar){R:Type}(k:Bd->Ar->Option R):Option R:=
 match env.get p.c0,env.get p.out with
 | .c (.raw (.ptr c 0 0)),.c .nil=>
  match H[c]? with
  |some (.live _ [.raw (.mp id)])=>
   match H[id]?,xE cs p.F,Enters P p.F with
   |some (.mp _ kk ty es),some (.c2 _ te [] [] [.fn (.func G) [] []] g),true=>
    if h:(Ty.list ty).beq (Ty.list te)=true then
     match tI P p.ty1,P.underlying p.ty2,tI P p.te2,tI P p.te3,Yd P p.te1,eI P p.ts1,eI P p.ts2 with
     |some (false,_),some (.map kt _),some (_,n2),some (tr3,n3),some z,some (none,e1,s1),some (none,e2,s2)=>
      match (Nat.beq G p.G&&(te.isAgg&&(Nat.beq n2 te.sz&&(tr3&&(Nat.beq n3 te.sz&&(Nat.beq z.length te.sz&&(Nat.beq s1 te.sz&&(Nat.beq s2 te.sz&&(Ro P e1&&(Ro P e2&&Nat.ble te.sz 4096))))))))))&&
        ((match P.underlying kt with|some (.int k2)=>decide (k2=kk)|_=>false)&&(tT H.length (ZJ p.tmps env)&&(kS H.length H&&p.tmps.all λt=>Nat.blt t N)))with
      |true=>cond (decide (((es.length:Nat):Int)≤16777216))
        ((su g (Ty.cast h (es.map (·.2)))).bind λs=>cond (Nat.beq s.length es.length) (k ((p.out,.c (.own H.length 0 te s.length))::ZJ p.tmps env) (H++[.buf false te s s.length 0,.dead])) none) none
      |false=>none
     |_,_,_,_,_,_,_=>none
    else none
   |_,_,_=>none
  |_=>none
 |_,_=>none
theorem E9{d:Nat×Aa}{v:Aa}(h:d∈q)(a:d.1≠N):d∈q.put N v:=CW _ (BW.2 ⟨h,q!⟩)
def wG:(N,j)∈q.put N j:=Iv
def nP{v:Aa}:Env.get ((N,v)::q) N=v:=if_pos rfl
def xJ{v:Aa}(h:N≠n):Env.get ((N,v)::q) n=q.get n:=if_neg h
def gV(vals:List R)(seen:List Nat):List R:=seen.filterMap (vals[·]?)
theorem zg{b:List R}{x:R}(h:b[N]? =some x):gV b (a++[N])=gV b a++[x]:=by grind[gV]
theorem xr{b:Type}: ∀a:List b,(List.range a.length).filterMap (a[·]?)=a
 |[]=>rfl
 |x::r=>by
  rw[Bn,List.range_succ_eq_map,List.filterMap_cons];simp;have:((λi=>(x::r)[i]?)∘Nat.succ)=(r[·]?):=q!
  rw[this,xr r]
def zf{d:List R}(hn:a.Nodup)(c: ∀j∈a,j<d.length)(b: ∀j,j<d.length->j∈a):d.Perm (gV d a):=by have:=((lJ List.nodup_range hn).2 λj=>⟨λh=>b j (Hk.1 h),λh=>Hk.2 (c j h)⟩).filterMap (d[·]?);rwa [xr]at this
section
variable {P:Program} {N:Nat} {env:Env} {H:A1} {Q:Env->A1->Prop} {ops:Array Oper}
def WJ.nil(h:Q env H):WJ P N ops [] env H Q:=⟨_,_,GD.refl _ _ _,h⟩
def WJ.cons(b:o.guard=none)(h:JJ P N o env H λv a=>WJ P N ops f (env.putO o.dst v) a Q):WJ P N ops (o::f) env H Q:=by refine⟨_,_,GD.refl _ _ _,?_⟩;rw[b];exact h
end
variable {s:Hint}{B:Xh}
section
variable {P:Program} {N:Nat}
theorem vO(t:Ty)(l:List t.D): ∀v∈t.E.cl l,Pure v:=by intro v a;have⟨u,b,a⟩:=Hj.1 a;obtain⟨y,_,rfl⟩:=Br.1 b;exact Uk (t.enc_pure y) v a
theorem ADZ(h:Pure j)(p:Nat->Bool):j.idsAll p=true:=Qo (λ_ h=>by cases h) j h
theorem ACr{p q:Nat->Bool}(h: ∀id,p id=true->q id=true)(e:Fl)(k:e.idsAll p=true):e.idsAll q=true:=by cases e<;>grind[JH,Fl.idsAll,List.all_eq_true,Qo]
theorem AGd(t:Ty)(g:Nat)(l:List t.D)(p:Nat->Bool):(Fl.live g (t.E.cl l)).idsAll p=true:=by grind[Fl.idsAll,Dr,ADZ,vO]
theorem flt{a:Type}(p q:a->Bool)(b: ∀x,q x=true->p x=true)(e:a)(d:p e=true)(f:q e=false): ∀l:List a,e∈l->(l.filter q).length<(l.filter p).length
 |x::l,he=>by
  have c: ∀l:List a,(l.filter q).length<=(l.filter p).length:=by intro l;induction l<;>grind
  rcases Aw.1 he with rfl|h;grind;have:=flt p q b e d f l h;grind
theorem AF0(h:z.Nodup){i j a b:Nat}(d:z[i]? =some a)(e:z[j]? =some b)(c:i≠j):a≠b:=by grind[List.getElem?_inj]
set_option maxHeartbeats 1000000 in
def ABA{te:Ty}{kk:IntKind}{es:List (Int×te.D)}{Hb:A1}{base:Env}{id a2 a3 a4 a5 a6 a7 a8 a9 a10 a11 out:Nat}{b1 b2:Nat}{i2 i3 i4:Nat}{o2 o3 o4:Array Oper}{te1 te2 te3 ts1 ts2:TypeId}{z:List Aa}{e1 e2:TypeId}{bb:Bool}
  (h2:si o2.toList=some (a2,a3,a4)) (h3:sj o3.toList=some (a2,a5,a6,a7,te1,te2)) (h4:sm o4.toList=some (out,a7,a8,a9,a10,a11,te3,ts1,ts2))
  (bG:[out,a2,a3,a4,a5,a6,a7,a8,a9,a10,a11].Nodup) (hN: ∀t∈[out,a2,a3,a4,a5,a6,a7,a8,a9,a10,a11],t<N) (hb: ∀q∈base,q.1∉ [out,a2,a3,a4,a5,a6,a7,a8,a9,a10,a11])
  (ax: ∀q∈base,(q.2.idsAll λj=>decide (j<Hb.length))=true) (ap: ∀e∈Hb,(e.idsAll λj=>decide (j<Hb.length))=true)
  (he:Hb[id]? =some (.mp kk (es.map λp=>(p.1,te.enc p.2)))) (ar:te.isAgg=true) (hz:Yd P te1=some z) (Z:z.length=te.sz) (b4:tI P te2=some (bb,te.sz)) (b5:tI P te3=some (true,te.sz))
  (bN:eI P ts1=some (none,e1,te.sz)) (b0:eI P ts2=some (none,e2,te.sz)) (bt:Ro P e1=true) (bz:Ro P e2=true) (b3:te.sz<=4096) (b6:es.length<=16777216):
  ∀(n:Nat) (seen:List Nat),seen.Nodup->(∀j∈seen,j<es.length)->((List.range es.length).filter λj=>!decide (j∈seen)).length<=n->(gV (es.map (·.2)) seen).length+((List.range es.length).filter λj=>!decide (j∈seen)).length<=es.length->
   Js P N (.seq (.region i2 o2 false) (.seq (.cond (.tmp a4) .skip (.exit b1)) (.block b2 (.seq (.region i3 o3 false) (.region i4 o4 false)))))
    ((out,.sl Hb.length (gV (es.map (·.2)) seen).length te.sz 0 (gV (es.map (·.2)) seen).length)::(a2,.itp (Hb.length+1) id)::base)
    (Hb++[.live (gV (es.map (·.2)) seen).length (te.E.cl (gV (es.map (·.2)) seen)),.it es.length seen])
    λe E h=>e= .exit b1/\ ∃s,(es.map (·.2)).Perm s/\(∀q∈(out,Aa.sl Hb.length s.length te.sz 0 s.length)::base,q∈E)/\h.length=Hb.length+2/\(∀j,j<Hb.length->h[j]? =Hb[j]?)/\h[Hb.length]? =some (.live s.length (te.E.cl s)):=by
 obtain⟨t1,p1,x1,t2,p2,x2,l2⟩:=qA h2;obtain⟨t3,p3,x3,t4,p4,x4,t5,p5,x5,t6,p6,x6,l3⟩:=qB h3;obtain⟨t7,p7,x7,t8,p8,x8,t9,p9,x9,b9,b7,ca,b',b8,cb,l4⟩:=qC h4;have D:=λ(i j a b:Nat)=>AF0 (i:=i) (j:=j) (a:=a) (b:=b) bG;simp only[Aw,List.not_mem_nil,or_false,forall_eq_or_imp,forall_eq]at hN;have d2:Oi N o2.toList=true:=by rw[l2];simp[Oi,hN]
 have d3:Oi N o3.toList=true:=by rw[l3];simp[Oi,hN]
 have d4:Oi N o4.toList=true:=by rw[l4];simp[Oi,hN]
 have a0:id<Hb.length:=by rcases Ay id Hb.length with h|h;exact h;rw[Cm h]at he;cases he
 have s0: ∀(A B C:Fl),(Hb++[A,B]).set (Hb.length+1) C=Hb++[A,C]:=λA B C=>by rw[Sr _ _ o!,show Hb.length+1-Hb.length=1 by omega];rfl
 have s1: ∀(A B C D:Fl),(Hb++[A,B,C]).set (Hb.length+2) D=Hb++[A,B,D]:=λA B C D=>by rw[Sr _ _ o!,show Hb.length+2-Hb.length=2 by omega];rfl
 have s2: ∀(A B C D:Fl),(Hb++[A,B,C]).set Hb.length D=Hb++[D,B,C]:=λA B C D=>by rw[Sr _ _ (Ap _),Gl];rfl
 have g0: ∀(A:Fl) (r:List Fl),(Hb++A::r)[Hb.length]? =some A:=λA r=>by rw[Cj (Ap _),Gl];rfl
 have g1: ∀(A B:Fl) (r:List Fl),(Hb++A::B::r)[Hb.length+1]? =some B:=λA B r=>by rw[Cj o!,show Hb.length+1-Hb.length=1 by omega];rfl
 have g2: ∀(A B C:Fl) (r:List Fl),(Hb++A::B::C::r)[Hb.length+2]? =some C:=λA B C r=>by rw[Cj o!,show Hb.length+2-Hb.length=2 by omega];rfl
 have gm: ∀(r:List Fl),(Hb++r)[id]? =some (.mp kk (es.map λp=>(p.1,te.enc p.2))):=λr=>by rw[CT a0];exact he
 have Y:(es.map (·.2)).length=es.length:=CA _;have J:0<te.sz:=te.sz_pos;intro n;induction n using Nat.strongRecOn with
 |ind n ih=>
  intro seen hn hl hr hm;obtain⟨L,hL⟩: ∃L,L=gV (es.map (·.2)) seen:=⟨_,rfl⟩
  rw[<-hL]at hm⊢;refine S4 (Lh.seq (Fs d2 ?_));rw[l2];apply WJ.cons rfl;have d:(es.map λp=>(p.1,te.enc p.2)).length=es.length:=CA _;have ad:out≠a2:=D 0 1 _ _ rfl rfl g!;refine JJ.next (x:=.tmp a2) (id:=Hb.length+1) (m:=id) (k:=kk) (es:=es.map λp=>(p.1,te.enc p.2)) (seen:=seen) rfl ?_ ?_ (gm _) ?_ ?_
  show Env.get _ a2=_;rw[xJ ad,nP];rw[d];exact g1 _ _ _;intro G;refine WJ.cons rfl (Dq (v:=.bool false) ?_ (WJ.nil ?_));show Ce _ _ _ (.extract (.tmp a3) 0)=_;simp only[Ce,BM,Env.putO,GG,if_true];rfl;refine Lh.seq (Lh.cond (b:=false) ?_ (λh=>by cases h) (λ_=>Lh.exit ?_));simp only[BM,Env.putO,GG,if_true];refine⟨rfl,L,?_,λq o=>?_,k!,λj hj=>CT hj,g0 _ _⟩;rw[hL];exact zf hn (by rw[Y];exact hl) (by rw[Y];rw[d]at G;exact G);have al:out≠a3:=D 0 2 _ _ rfl rfl g!;have ao:out≠a4:=D 0 3 _ _ rfl rfl g!;rcases Aw.1 o with rfl|o;exact E9 (E9 Iv al) ao;have:=hb q o;simp only[Aw,not_or]at this;exact E9 (E9 (CW _ (CW _ o)) this.2.2.1) this.2.2.2.1;intro j p hj S;rw[CN]at hj;obtain⟨q,o,e⟩:=Sw.1 hj;subst e;rw[d,s0];refine WJ.cons rfl (Dq (v:=.bool true) ?_ (WJ.nil ?_));show Ce _ _ _ (.extract (.tmp a3) 0)=_;simp only[Ce,BM,Env.putO,GG,if_true];rfl;have k2: ∀(m:Nat) (v w:Aa),Env.get (Env.put (Env.put ((out,Aa.sl Hb.length m te.sz 0 m)::(a2,Aa.itp (Hb.length+1) id)::base) a3 v) a4 w) a2= .itp (Hb.length+1) id:=λm v w=>by rw[GG,if_neg (D 1 3 _ _ rfl rfl g!),GG,if_neg (D 1 2 _ _ rfl rfl g!),xJ ad,nP]
  have ko: ∀(m:Nat) (v w:Aa),Env.get (Env.put (Env.put ((out,Aa.sl Hb.length m te.sz 0 m)::(a2,Aa.itp (Hb.length+1) id)::base) a3 v) a4 w) out= .sl Hb.length m te.sz 0 m:=λm v w=>by rw[GG,if_neg (D 0 3 _ _ rfl rfl g!),GG,if_neg (D 0 2 _ _ rfl rfl g!),nP]
  have kb: ∀(m:Nat) (v w:Aa),∀q∈base,q∈Env.put (Env.put ((out,Aa.sl Hb.length m te.sz 0 m)::(a2,Aa.itp (Hb.length+1) id)::base) a3 v) a4 w:=λm v w q o=>by have:=hb q o;simp only[Aw,not_or]at this;exact E9 (E9 (CW _ (CW _ o)) this.2.2.1) this.2.2.2.1
  have ki: ∀(m:Nat) (v w:Aa),(a2,Aa.itp (Hb.length+1) id)∈Env.put (Env.put ((out,Aa.sl Hb.length m te.sz 0 m)::(a2,Aa.itp (Hb.length+1) id)::base) a3 v) a4 w:=λm v w=>E9 (E9 (CW _ Iv) (D 1 2 _ _ rfl rfl g!)) (D 1 3 _ _ rfl rfl g!);refine Lh.seq (Lh.cond (b:=true) ?_ (λ_=>Lh.skip ?_) (λh=>by cases h));simp only[BM,Env.putO,GG,if_true];dsimp only[vA];refine Lh.block (Lh.seq (Fs d3 ?_));rw[l3];generalize K:Env.putO (Env.putO ((out,Aa.sl Hb.length L.length te.sz 0 L.length)::(a2,Aa.itp (Hb.length+1) id)::base) (some a3) (.tup [.bool true,.int kk q.1,te.enc q.2])) (some a4) (.bool true)=E;have k2:Env.get E a2= .itp (Hb.length+1) id:=by rw[<-K];exact k2 _ _ _
  have ko:Env.get E out= .sl Hb.length L.length te.sz 0 L.length:=by rw[<-K];exact ko _ _ _
  have kb: ∀q∈base,q∈E:=by rw[<-K];exact kb _ _ _
  have ki:(a2,Aa.itp (Hb.length+1) id)∈E:=by rw[<-K];exact ki _ _ _
  clear K;refine WJ.cons rfl (JJ.entry (x:=.tmp a2) (id:=Hb.length+1) (m:=id) (j:=j) (k:=kk) (es:=es.map λp=>(p.1,te.enc p.2)) (seen:=seen) (p:=(q.1,te.enc q.2)) rfl k2 ?_ (gm _) (by rw[CN,o];rfl) ?_);rw[d];exact g1 _ _ _;have f:te.enc q.2= .agg (te.enc q.2).cells:=Ty.agg_enc ar q.2;have l:(te.enc q.2).cells.length=te.sz:=te.enc_len q.2;have U:(te.enc q.2).solid=true:=by rw[f];rfl
  refine WJ.cons rfl (Dq (v:=te.enc q.2) ?_ (WJ.cons rfl (JJ.alloc rfl hz ?_)));show Ce _ _ _ (.extract (.tmp a5) 1)=_;simp only[Ce,BM,Env.putO,GG,if_true];rfl;have a1:(Hb++[Fl.live L.length (te.E.cl L),Fl.it es.length (seen++[j])]).length=Hb.length+2:=k!
  rw[a1,A0];show WJ P N o3 _ _ (Hb++[Fl.live L.length (te.E.cl L),Fl.it es.length (seen++[j]),Fl.live 0 z]) _;refine WJ.cons rfl (JJ.store (id:=Hb.length+2) (g:=0) (off:=0) (v:=te.enc q.2) (cs:=z) (b:=bb) rfl ?_ ?_ U (g2 _ _ _ _) (by rw[l];exact b4) (by rw[l,Z];omega) (WJ.nil ?_));simp only[BM,Env.putO,GG,if_true];simp only[BM,Env.putO,GG];rw[if_neg (D 5 6 _ _ rfl rfl g!),if_pos trivial];have T:WD z 0 (te.enc q.2).cells=(te.enc q.2).cells:=by unfold WD;rw[List.take_zero,Bw,l,<-Z,D9,List.drop_length,C5]
  rw[T,s1];simp only[Env.putO];generalize F:Env.put (Env.put (Env.put E a5 (.tup [.int kk q.1,te.enc q.2])) a6 (te.enc q.2)) a7 (.ptr (Hb.length+2) 0 0)=E1;have j7:Env.get E1 a7= .ptr (Hb.length+2) 0 0:=by rw[<-F,GG,if_pos rfl]
  have jo:Env.get E1 out= .sl Hb.length L.length te.sz 0 L.length:=by rw[<-F,GG,if_neg (D 0 6 _ _ rfl rfl g!),GG,if_neg (D 0 5 _ _ rfl rfl g!),GG,if_neg (D 0 4 _ _ rfl rfl g!),ko]
  have jb: ∀q∈base,q∈E1:=λu I=>by have:=hb u I;simp only[Aw,not_or]at this;rw[<-F];exact E9 (E9 (E9 (kb u I) this.2.2.2.2.1) this.2.2.2.2.2.1) this.2.2.2.2.2.2.1
  have ji:(a2,Aa.itp (Hb.length+1) id)∈E1:=by rw[<-F];exact E9 (E9 (E9 ki (D 1 4 _ _ rfl rfl g!)) (D 1 5 _ _ rfl rfl g!)) (D 1 6 _ _ rfl rfl g!)
  clear F;apply Fs d4;rw[l4];refine WJ.cons rfl (Dq (v:=.sl Hb.length L.length te.sz 0 L.length) (congrArg some jo) (WJ.cons rfl (Dq (v:=te.enc q.2) ?_ (WJ.cons rfl (U8 (sz:=te.sz) (vs:=[te.enc q.2]) rfl ?_ (WJ.cons rfl ?_))))));show gT P te3 _ (BM _ (.tmp a7))=_;simp only[BM,Env.putO,GG];rw[if_neg (D 6 7 _ _ rfl rfl g!),j7];simp only[gT,b5,Pp,g2];rw[if_pos ⟨trivial,by rw[l];omega⟩,jl,<-l,Hm];exact congrArg some f.symm;simp only[Sd,bN];rw[if_pos];simp only[BM,Env.putO,GG,if_true,Bl,HH];refine⟨J,bt,rfl,?_,g!,b3⟩;simp only[BM,Env.putO,GG,if_true,Bl,HH,oB,oC,U,l,decide_true,XT];have R:j<es.length:=by rcases Ay j es.length with h|h;exact h;rw[Cm h]at o;cases o
  have bm:((List.range es.length).filter λi=>!decide (i∈seen++[j])).length<((List.range es.length).filter λi=>!decide (i∈seen)).length:=flt (λi=>!decide (i∈seen)) (λi=>!decide (i∈seen++[j])) (λx f=>by simp at f⊢;exact f.1) j (by simpa using S) k! _ (Hk.2 R);have O:gV (es.map (·.2)) (seen++[j])=L++[q.2]:=by rw[hL];exact zg (by rw[CN,o];rfl)
  refine Rl (sx:=.tmp a8) (xx:=.tmp a10) (t:=ts2) (e:=e2) (id:=Hb.length) (g:=L.length) (g':=L.length+1) (n:=L.length) (sz:=te.sz) (m:=1) (cs:=te.E.cl L) (news:=(te.enc q.2).cells) rfl b0 J bz ?_ (g0 _ _) (te.E.clen L) ?_ o! (.inl o!) ?_;show Env.get _ a8=_;simp only[Env.putO,GG];rw[if_neg (D 7 9 _ _ rfl rfl g!),if_neg (D 7 8 _ _ rfl rfl g!),if_pos trivial];simp only[BM,Env.putO,GG,if_true,Jr,Bn,BV,ID,oF,C5];rw[s2];refine WJ.cons rfl (Dq (v:=.sl Hb.length (L.length+1) te.sz 0 (L.length+1)) ?_ (WJ.nil ?_));show some (Env.get _ a11)=_;simp only[Env.putO,GG,if_true];have Q:te.E.cl L++(te.enc q.2).cells=te.E.cl (L++[q.2]):=by simp[Rq.cl];rfl
  rw[Q];have bl:(L++[q.2]).length=L.length+1:=k!
  show∃env2 H2,GD N _ _ _ env2 H2/\_;refine⟨_,_,?_,ih _ (DQ bm hr) (seen++[j]) ?_ ?_ (Ap _) (by rw[O];omega)⟩;rw[O,bl];generalize M:Env.putO _ (some out) _=E3;have V: ∀u∈(out,Aa.sl Hb.length (L.length+1) te.sz 0 (L.length+1))::(a2,Aa.itp (Hb.length+1) id)::base,u∈E3:=by intro u I;rw[<-M];simp only[Env.putO];rcases Aw.1 I with rfl|I;exact wG;rcases Aw.1 I with rfl|I;exact E9 (E9 (E9 (E9 (E9 ji (D 1 7 _ _ rfl rfl g!)) (D 1 8 _ _ rfl rfl g!)) (D 1 9 _ _ rfl rfl g!)) (D 1 10 _ _ rfl rfl g!)) (D 1 0 _ _ rfl rfl g!);have:=hb u I;simp only[Aw,not_or]at this;exact E9 (E9 (E9 (E9 (E9 (jb u I) this.2.2.2.2.2.2.2.1) this.2.2.2.2.2.2.2.2.1) this.2.2.2.2.2.2.2.2.2.1) this.2.2.2.2.2.2.2.2.2.2.1) this.1
  clear M;have w1:=GD.subset (N:=N) (H:=Hb++[Fl.live (L.length+1) (te.E.cl (L++[q.2])),Fl.it es.length (seen++[j]),Fl.live 0 (te.enc q.2).cells]) V;have W:(Hb++[Fl.live (L.length+1) (te.E.cl (L++[q.2])),Fl.it es.length (seen++[j]),Fl.live 0 (te.enc q.2).cells]).take (Hb.length+2)=Hb++[Fl.live (L.length+1) (te.E.cl (L++[q.2])),Fl.it es.length (seen++[j])]:=by rw[dZ,BO o!,show Hb.length+2-Hb.length=2 by omega];rfl
  have w2:=GD.cut (N:=N) (n0:=Hb.length+2) (env:=(out,Aa.sl Hb.length (L.length+1) te.sz 0 (L.length+1))::(a2,Aa.itp (Hb.length+1) id)::base) (H:=Hb++[Fl.live (L.length+1) (te.E.cl (L++[q.2])),Fl.it es.length (seen++[j]),Fl.live 0 (te.enc q.2).cells]) k! (λt v X=>by
   rcases Aw.1 X with e|X;injection e with _ e;subst e;exact decide_eq_true o!;rcases Aw.1 X with e|X;injection e with _ e;subst e;simp only[Aa.idsAll,BY,decide_eq_true_eq];omega;exact Qo (λi hi=>decide_eq_true (by have:=of_decide_eq_true hi;omega)) v (ax _ X)) (by
   rw[W];intro e c;rcases An.1 c with c|c;exact ACr (λi hi=>decide_eq_true (by have:=of_decide_eq_true hi;omega)) e (ap e c);rcases Aw.1 c with rfl|c;exact AGd te _ _ _;simp only[A6]at c;subst c;rfl)
  rw[W]at w2;have a':(Hb++[Fl.live L.length (te.E.cl L),Fl.it es.length seen]).length=Hb.length+2:=k!
  rw[a'];exact(w1.of_le k!).trans w2;refine QF.2 ⟨hn,k!,λx f y hy=>?_⟩;simp only[A6]at hy;subst hy;rintro rfl;exact S f;intro x f;rcases An.1 f with f|f;exact hl x f;simp only[A6]at f;subst f;exact R
def mq(h:mo c E=some B): ∃x k i y l r z n A o a q,
  c= .seq (.region x k false) (.block i (.loop (.seq (.region y l false) (.seq (.cond (.tmp B.a4) .skip (.exit i)) (.block r (.seq (.region z n false) (.region A o false)))))))/\E= .region a q false/\
  vy k.toList=some (B.c0,B.a1,B.a2,B.ty1,B.ty2)/\si l.toList=some (B.a2,B.a3,B.a4)/\sj n.toList=some (B.a2,B.a5,B.a6,B.a7,B.te1,B.te2)/\
  sm o.toList=some (B.out,B.a7,B.a8,B.a9,B.a10,B.a11,B.te3,B.ts1,B.ts2)/\vz q.toList=some (B.out,B.a12,B.a13,B.F,B.G)/\B.tmps.Nodup:=by
 unfold mo at h;split at h;split at h;rename_i s t u v w;split at h;rename_i j;simp only[BY]at j;have⟨⟨b,m,d,e,f,g⟩,hn⟩:=j;have b:=DO b;have m:=DO m;have d:=DO d;have e:=DO e;have f:=DO f;have g:=DO g;subst b m d e f g;cases h;exact⟨_,_,_,_,_,_,_,_,_,_,_,_,rfl,rfl,s,t,u,v,w,px hn⟩;cases h;cases h;cases h
set_option maxHeartbeats 1000000 in
def ACe{cs:List RE}(co: ∀c∈cs,c.Ok P){a m:Code}{p:Xh}(hp:mo a m=some p){env:Bd}{H:Ar}{R:Type}{k:Bd→Ar→Option R}{r:R}(ok:PA env H)(o:ACd P N cs p env H k=some r):
  ∃A H',Lh P N a (B4 env) (BK H) (vA (λE h=>Lh P N m E h (Xy .normal (B4 A) (BK H'))) (λ_ _ _=>False))/\k A H'=some r/\PA A H'/\Ej p.tmps env H A H':=by
 obtain⟨i1,o1,T,i2,o2,J,i3,o3,i4,o4,i5,o5,rfl,rfl,p1,p2,p3,p4,p5,b3⟩:=mq hp;unfold ACd at o;split at o;rename_i c ci b4;split at o;rename_i ro id hc;split at o;rename_i c3 kk n I F te G g a1 hF hE;split at o;rename_i cG;split at o;rename_i y1 kt et b9 n2 c4 n3 z e1 s1 e2 s2 t1 t2 t3 t4 t5 t6 t7;split at o;rename_i hb;have cS:n=te:=by have:=Ty.beq_eq _ _ cG;injection this
 subst cS;simp only[BY]at hb;obtain⟨⟨bG,b8,V,cd,W,bz,Y,Z,cb,cc,ad⟩,U,b',ca,bN⟩:=hb;have bG:=DO bG;have V:=DO V;have W:=DO W;have bz:=DO bz;have Y:=DO Y;have Z:=DO Z;have ad:=OZ ad;subst V W Y Z cd;have c2:P.underlying kt=some (.int kk):=by split at U;rename_i k2 e;rw[e,of_decide_eq_true U];cases U
 cases ao:decide (((I.length:Nat):Int)<=16777216)with
 |false=>rw[ao]at o;cases o
 |true=>
  have bm:I.length<=16777216:=by have:=of_decide_eq_true ao;omega
  rw[ao]at o;obtain⟨s,hs,o⟩:=Dp.1 (show Option.bind _ _=some r from o);have hs:=zO hs;cases L:Nat.beq s.length I.length with
  |false=>rw[L]at o;cases o
  |true=>
   rw[L]at o;have o:k ((p.out,.c (.own H.length 0 n s.length))::ZJ p.tmps env) (H++[.buf false n s s.length 0,.dead])=some r:=o;have L:=DO L;obtain⟨c5,q1,x1,c6,q2,x2,l1⟩:=pz p1;obtain⟨c8,q3,x3,cW,c9,q4,x4,l5⟩:=qD p5;have D:=λ(i j a b:Nat)=>AF0 (i:=i) (j:=j) (a:=a) (b:=b) b3;have hN: ∀t∈p.tmps,t<N:=λt ht=>OZ (GA.1 bN t ht);have d1:Oi N o1.toList=true:=by rw[l1];simp[Oi,oB,oC,Qr,BY,decide_eq_true_eq];exact⟨hN _ (by simp[Xh.tmps]),hN _ (by simp[Xh.tmps])⟩
   have d5:Oi N o5.toList=true:=by rw[l5];simp[Oi,oB,oC,Qr,BY,decide_eq_true_eq];exact⟨hN _ (by simp[Xh.tmps]),hN _ (by simp[Xh.tmps])⟩
   have M:(B4 env).get p.out= .nils:=by rw[UN,b4];rfl
   have al:(B4 env).get p.c0= .ptr c 0 0:=by rw[UN,ci];rfl
   have cn:p.c0≠p.out:=λe=>by rw[e,M]at al;cases al
   have cm:c<H.length:=G3 hc;have a':id<H.length:=G3 a1;have d:(BK H).length=H.length:=Cf H;have ce:(BK H)[c]? =some (.live 0 [.mp id]):=by rw[Ex,hc];rfl
   have O:(BK H)[id]? =some (.mp kk (I.map λp=>(p.1,n.enc p.2))):=by rw[Ex,a1];rfl
   have x: ∀q∈B4 (ZJ p.tmps env),q∈B4 env/\q.1∉p.tmps:=λq y=>by obtain⟨u,hu,rfl⟩:=Br.1 y;exact⟨Br.2 ⟨u,(Vd hu).1,rfl⟩,(Vd hu).2⟩
   have ch: ∀q∈B4 (ZJ p.tmps env),(q.2.idsAll λj=>decide (j<(BK H).length))=true:=λq y=>by obtain⟨u,hu,rfl⟩:=Br.1 y;rw[d];exact fF (jv b' u hu)
   have cf: ∀e∈BK H,(e.idsAll λj=>decide (j<(BK H).length))=true:=by rw[d];exact jw ca
   have step:CL H (H++[.buf false n s s.length 0,.dead]):=by have:=(CL.push H (.buf false n s s.length 0)).trans (CL.push _ .dead);rwa [A0]at this
   have b5:(Bz.own H.length 0 n s.length).ok (H++[.buf false n s s.length 0,.dead]):=by apply Xe (b:=false) (l:=s);rw[Cj (Ap _),Gl];rfl
   refine⟨(p.out,.c (.own H.length 0 n s.length))::ZJ p.tmps env,H++[.buf false n s s.length 0,.dead],?_,o,⟨λq y=>?_,?_⟩,step,λu hu _=>?_⟩;refine Lh.weak (GD.virt (t:=p.out) (sz:=n.sz) M) (Lh.seq (Fs d1 ?_));rw[l1];have cB:Ce P ((B4 env).put p.out (.sl (BK H).length 0 n.sz 0 0)) (BK H++[.live 0 []]) (.load p.ty1 (.tmp p.c0))=some (.mp id):=by simp[Ce,BM,GG];rw[if_neg cn,al];simp[gT,t1,Pp];rw[CT (by rw[d];exact cm),ce];rfl
   have bl:(BK H++[Fl.live 0 []])[id]? =some (.mp kk (I.map λp=>(p.1,n.enc p.2))):=by rw[CT (by rw[d];exact a'),O]
   refine WJ.cons rfl (Dq cB (WJ.cons rfl (JJ.range (id:=id) (k:=kk) (es:=I.map λp=>(p.1,n.enc p.2)) rfl ?_ t2 bl (WJ.nil ?_))));simp[BM,Env.putO,GG,if_true];rw[CA,Ac,A0];dsimp[vA,Env.putO];refine Lh.block (Lh.of_loopW ?_);have ax:[p.out,p.a2,p.a3,p.a4,p.a5,p.a6,p.a7,p.a8,p.a9,p.a10,p.a11].Sublist p.tmps:=.cons₂ _ (.cons _ (.cons₂ _ (.cons₂ _ (.cons₂ _ (.cons₂ _ (.cons₂ _ (.cons₂ _ (.cons₂ _ (.cons₂ _ (.cons₂ _ (.cons₂ _ (.cons _ (.cons _ .slnil)))))))))))));have b7:=ABA (P:=P) (N:=N) (te:=n) (kk:=kk) (es:=I) (Hb:=BK H) (base:=B4 (ZJ p.tmps env)) (id:=id) (out:=p.out) (a2:=p.a2) (a3:=p.a3) (a4:=p.a4) (a5:=p.a5) (a6:=p.a6) (a7:=p.a7) (a8:=p.a8) (a9:=p.a9) (a10:=p.a10) (a11:=p.a11)
    (b1:=T) (b2:=J) (i2:=i2) (i3:=i3) (i4:=i4) (bb:=b9) p2 p3 p4 ?_ ?_ ?_ ch cf O b8 t5 bz t3 t4 t6 t7 cb cc ad bm I.length [] QG (λj B=>by cases B) (by simpa using List.length_filter_le _ (List.range I.length)) (by have:=Fy (λj=>!decide (j∈([]:List Nat))) (List.range I.length);simpa[gV]using this)
   refine Js.mono (Js.weak ?_ b7) ?_;refine GD.subset (N:=N) (H:=BK H++[Fl.live 0 [],Fl.it I.length []]) λq y=>?_;rcases Aw.1 y with rfl|y;exact E9 (E9 wG (D 0 1 _ _ rfl rfl g!)) (D 0 2 _ _ rfl rfl g!);rcases Aw.1 y with rfl|y;exact wG;obtain⟨T,J⟩:=x q y;simp[Xh.tmps,Aw,not_or]at J;exact E9 (E9 (E9 T J.1) J.2.1) J.2.2.1;rintro e E h ⟨rfl,C,K,b6,Q,ar,ap⟩;show oK T _ (.exit T) E h;simp[oK,if_true,vA];refine Lh.weak (GD.subset b6) (Lh.after (Fs d5 ?_));rw[l5];obtain⟨b0,hf⟩:=rZ hF;have a0:s.length=C.length:=by rw[L,<-K.length_eq,CA]
   have hA:=co _ b0 C () s (hs C K) a0 h (BK H).length ap;simp[RE.f]at hf;rw[hf]at hA;refine WJ.cons rfl (Dq (v:=.sl (BK H).length C.length n.sz 0 C.length) (congrArg some nP) (WJ.cons rfl (JJ.mono (nY (F:=p.F) (vs:=[.sl (BK H).length C.length n.sz 0 C.length,.fn (.func G) [] []]) ?_ hE hA) ?_)));show some (Sum.inl (p.F,[]++[Env.get _ p.a12,Aa.fn (.func p.G) [] []]++[]))=_;simp only[Env.putO,GG,if_true,bG];rfl;rintro _ _ ⟨rfl,rfl⟩;refine WJ.nil ⟨_,_,?_,rfl,rfl,rfl⟩;have cv:(h.set (BK H).length (.live C.length (n.E.cl s))).length=h.length:=k!
   rw[<-cv];refine Vp (by simp[BK];rw[Q,d]) λX g' w _=>?_;have hr:Tz (cx X g' (h.set (BK H).length (.live C.length (n.E.cl s))) w) (cx X g' (h.set (BK H).length (.live C.length (n.E.cl s))) w) (h.set (BK H).length (.live C.length (n.E.cl s))) (BK (H++[.buf false n s s.length 0,.dead])):=by
    refine⟨by simp[BK];rw[Q,d],λj e' B=>?_⟩;have same:(h.set (BK H).length (.live C.length (n.E.cl s)))[j]? =some e'->e'= .dead\/_:=λhh=>(Tz.refl (cx X g' (h.set (BK H).length (.live C.length (n.E.cl s))) w) (h.set (BK H).length (.live C.length (n.E.cl s)))).2 j e' hh;have ct:BK (H++[.buf false n s s.length 0,.dead])=BK H++[Fl.live s.length (n.E.cl s),Fl.dead]:=by simp[BK,Dt.enc]
    rw[ct]at B;rcases QH j (BK H).length with bt|rfl|c1;rw[CT bt]at B;exact same (by rw[DU o!,ar j bt];exact B);rw[Cj (Ap _),Gl]at B;exact same (by rw[Gt o!,<-a0];exact B);rw[Cj o!]at B;rcases QH (j-(BK H).length) 1 with q|q|q;omega;rw[q]at B;injection B with B;exact .inl B.symm;rw[Cm w!]at B;cases B
   refine⟨hr.onto,λt v' S=>⟨v',?_,λc r=>r.later hr.later⟩⟩;simp[Env.putO];have S:(t,v')∈(p.out,Aa.sl (BK H).length s.length n.sz 0 s.length)::B4 (ZJ p.tmps env):=by rw[d];exact S
   rcases Aw.1 S with e|S;cases e;rw[a0];exact E9 (E9 Iv (D 0 12 _ _ rfl rfl g!)) (D 0 13 _ _ rfl rfl g!);obtain⟨T,J⟩:=x _ S;simp only[Xh.tmps,Aw,not_or]at J;exact E9 (E9 (CW _ S) J.2.2.2.2.2.2.2.2.2.2.2.2.1) J.2.2.2.2.2.2.2.2.2.2.2.2.2.1;exact b3.sublist ax;exact λt ht=>hN t (ax.subset ht);exact λq y S=>(x q y).2 (ax.subset S);rcases Aw.1 y with rfl|y;exact Jt b5;exact step.tv (ok.env q (Vd y).1);intro e he;rcases An.1 he with he|he;exact step.ent (ok.heap e he);simp[Aw,List.not_mem_nil,or_false]at he;rcases he with rfl|rfl;rfl;trivial;show Bd.get _ u=_;have:p.out≠u:=λe=>hu (by rw[<-e];simp[Xh.tmps]);simp[Bd.get,beq_false this];exact oW hu env
 cases o;cases o;cases o;cases o;cases o;cases o
end
abbrev Sem:= ∀{R:Type},Bd->Ar->(Exit->Bd->Ar->Option R)->Option R
def nl:List (Nat×Ty)->Bd->Ar->Option (Bd×Ar)
 |[],env,H=>some (env,H)
 |(t,ty)::r,env,H=>
  match env.get t with
  | .c .nil=>nl r (env.put t (.c (.own H.length 0 ty 0))) (H++[.buf false ty [] 0 0])
  |_=>none
def rS:Nat->List Bz->Option (List Bz×List Bz)
 |0,.nil::r=>some ([],r)
 |n+1,x::r=>match rS n r with|some (a,b)=>some (x::a,b)|none=>none
 |_,_=>none
def jZ:List (Nat×Nat×Ty)->Ar->Option Ar
 |[],H=>some H
 |(b,i,ty)::r,H=>
  match H[b]? with
  |some (.live false cs)=>
   match rS i cs with
   |some (x,y)=>jZ r (H.set b (.live false (x++ .own H.length 0 ty 0::y))++[.buf false ty [] 0 0])
   |none=>none
  |_=>none
def AFJ(h:Hint)(env:Bd)(H:Ar):Option (Bd×Ar):=
 match nl h.virt env H with
 |some (e,H1)=>match jZ h.virtC H1 with|some H2=>some (e,H2)|none=>none
 |none=>none
def AE7(h:Hint)(n:Nat)(eb:Bd)(H0:Ar)(S:List Nat)(k:Exit->Bd->Ar->Option R)(o:vr h.exits):Option R:=
 AG2 h.exits o λx sl ds=>
  match Wg sl ds eb H0 with
  |some (e,hh)=>match tT n e&&(kS n hh&&S.all λj=>OF j (Lg sl))with|true=>k x e hh|false=>none
  |none=>none
def AC4(h:Hint)(A:List Nat)(run:Sem):Sem:=λenv H k=>
 match AFJ h env H with
 |none=>none
 |some (env0,H0)=>
  match o8 env0 with
  |false=>none
  |true=>(run env0 (Mj (Lg h.slots) 0 H0) λx e1 h1=>zK h.exits x e1 h1).bind λo=>AE7 h H0.length (QK A (Lg h.slots) H0 env0) H0 (Lg h.slots) k o
def AAT(h:Hint)(x:Exit)(env:Bd)(H:Ar):Option (Step (DL (gJ h.slots)) (vr h.exits)):=
 match uP .normal x with
 |true=>match wq h.slots env H with|some s=>some (.next s)|none=>none
 |false=>match zK h.exits x env H with|some o=>some (.done o)|none=>none
noncomputable def ADA(h:Hint)(A:List Nat)(run:Sem):Sem:=λenv H k=>
 match AFJ h env H with
 |none=>none
 |some (env1,H1)=>
  match IK (h.kill++lF env1 H1 h.slots) env1 H1 with
  |(env0,H0)=>
   match o8 env0,Z9 env0 H0 h.slots with
   |true,some ds=>
    match zE (gJ h.slots) ds with
    |some s0=>(Ah (λs=>
      match Wg h.slots (dvs (gJ h.slots) s) (QK A (Lg h.slots) H0 env0) (Mj (Lg h.slots) 0 H0)with
      |some (e,hh)=>match tT H0.length e&&kS H0.length hh with|true=>run e hh λx e1 h1=>AAT h x e1 h1|false=>none
      |none=>none) s0).bind λo=>AE7 h H0.length (QK A (Lg h.slots) H0 env0) H0 (Lg h.slots) k o
    |none=>none
   |_,_=>none
def AAH(c:Operand)(ra rb:Sem):Sem:=λenv H k=>
 match JK env c with
 | .c (.bl v)=>cond v (ra env H k) (rb env H k)
 |_=>none
def yg(id:Nat)(r:Sem):Sem:=λenv H k=>r env H λe env' H'=>
 match e with
 | .exit id'=>match Nat.beq id' id with|true=>k .normal env' H'|false=>k (.exit id') env' H'
 |e=>k e env' H'
def uZ(o:Option Hint)(A:List Nat)(run:Sem):Sem:=
 match o with
 |some h=>AC4 h A run
 |none=>run
section
variable {R:Type}
def mv1(t n:Nat)(env:Bd)(H:Ar)(k:Bd->Ar->Option R):Option R:=
 match env.get t with
 | .c (.own m ver te _)=>
  match Nat.beq m n with
  |true=>k env H
  |false=>
   match H[n]?,H[m]? with
   |some (.buf false t1 _ n1 v1),some (.buf false t2 l2 n2 v2)=>
    match Nat.beq ver v2,(Ty.list t1).beq (Ty.list t2)&&(Ty.list te).beq (Ty.list t2)with
    |true,true=>bif decide (n1<n2)then k (env.put t (.c (.own n (v1+1) t2 n2))) ((H.set n (.buf false t2 l2 n2 (v1+1))).set m .dead)else none
    |_,_=>none
   |_,_=>k env H
 |_=>k env H
def mvs:List Sm->Bd->Ar->(Bd->Ar->Option R)->Option R
 |[],e,h,k=>k e h
 | .g t n::r,e,h,k=>mv1 t n e h λe h=>mvs r e h k
 |_::r,e,h,k=>mvs r e h k
end
def AFz(ss:List Sm)(run:Sem):Sem:=λenv H k=>run env H λx e1 h1=>
 match uP .normal x with
 |true=>mvs ss e1 h1 λe2 h2=>k x e2 h2
 |false=>k x e1 h1
noncomputable def AFv(o:Option Hint)(A:List Nat)(run:Sem):Sem:=
 match o with
 |some h=>ADA h A (AFz h.slots run)
 |none=>λ_ _ _=>none
def gB:Bd->Bd
 |[]=>[]
 |(t,v)::r=>match K2 v.refs with|[]=>(t,v)::gB r|_=>gB r
def zS(P:Program)(call:TC)(N:Nat)(me:FuncId)(f:Operand)(ps:Array Tmp)(a b:Code):Sem:=λenv H k=>
 match JK env f with
 | .c (.raw (.fn (.func G) first caps))=>
  match Enters P G with
  |true=>call (.fn G) (first.map tvA++[.c (.raw (.yf H.length))]++caps.map tvA) (H++[.lp false me N (gB env) ps a b .ready]) λ_ H'=>
   match H'[H.length]? with
   |some (.lp false _ _ _ _ _ _ .ready)=>k .normal env (H'.set H.length .dead)
   |some (.lp false _ _ _ _ _ _ .ret)=>k .ret env (H'.set H.length .dead)
   |some (.lp false _ _ _ _ _ _ (.exit x))=>k (.exit x) env (H'.set H.length .dead)
   |_=>none
  |false=>none
 |_=>none
noncomputable def mN(P:Program)(cs:List RE)(call:TC)(N:Nat)(me:FuncId)(hs:List Hint):Code->Sem
 | .skip=>λenv H k=>k .normal env H
 | .ret=>λenv H k=>k .ret env H
 | .exit id=>λenv H k=>k (.exit id) env H
 | .seq a (.seq m r)=>λenv H k=>
  match mo a m with
  |some p=>ACd P N cs p env H λenv' H'=>mN P cs call N me hs r env' H' k
  |none=>mN P cs call N me hs a env H λe env' H'=>match e with| .normal=>mN P cs call N me hs (.seq m r) env' H' k|e=>k e env' H'
 | .seq a b=>uZ (qj hs a b) (Qw hs (.seq a b)) λenv H k=>mN P cs call N me hs a env H λe env' H'=>match e with| .normal=>mN P cs call N me hs b env' H' k|e=>k e env' H'
 | .cond c a b=>uZ (hintOf hs (.cond c a b)) (Qw hs (.cond c a b)) (AAH c (mN P cs call N me hs a) (mN P cs call N me hs b))
 | .block id b=>uZ (hintOf hs (.block id b)) (Qw hs (.block id b)) (yg id (mN P cs call N me hs b))
 | .loop b=>AFv (hintOf hs (.loop b)) (Qw hs (.loop b)) (mN P cs call N me hs b)
 | .region id ops false=>uZ (hintOf hs (.region id ops false)) (Qw hs (.region id ops false)) λenv H k=>
  match Oi N ops.toList with
  |true=>xw P cs call ops (guards ops) false ops.toList 0 env H λenv' H'=>k .normal env' H'
  |false=>none
 | .region id ops true=>λenv H k=>
  match P.follows .mixedOrders&&AAi ops N (zP ops)&&Vo P ops&&o8 env with
  |true=>ze P cs call ops (IJ ops.toList []) (guards ops) (match nA 3 id hs with|some _=>true|none=>false) (zP ops) [] env H λenv' H'=>k .normal env' H'
  |false=>none
 | .rangeFunc f ps a b=>zS P call N me f ps a b
 |_=>λ_ _ _=>none
def AFY{f:List Hint}(j: ∀m r,E≠ .seq m r)(env:Bd)(H:Ar)(g:Exit→Bd→Ar→Option R):
  mN P d k N F f (.seq c E) env H g=uZ (qj f c E) (Qw f (.seq c E)) (λenv H g=>mN P d k N F f c env H λe h i=>match e with| .normal=>mN P d k N F f E h i g|e=>g e h i) env H g:=by
 cases E<;>first|rfl|exact absurd rfl (j _ _)
def OH(P:Program)(N:Nat)(A:List Nat)(c:Code)(run:Sem):Prop:= ∀{R:Type} (env:Bd) (H:Ar) (k:Exit->Bd->Ar->Option R) (r:R),PA env H->run env H k=some r->
 ∃e env' H',qU P N c (B4 env) (BK H) (Xy e (B4 env') (BK H'))/\k e env' H'=some r/\PA env' H'/\Ej A env H env' H'
theorem AAo: ∀{l:List (Nat×Ty)} {env:Bd} {H:Ar} {a:Bd} {b:Ar},PA env H→nl l env H=some (a,b)→
  PA a b/\Ej (l.map (·.1)) env H a b/\ ∀N,GD N H.length (B4 env) (BK H) (B4 a) (BK b)
 |[],env,H,a,b,ok,h=>by grind[nl,Ej.refl,GD.refl,Cf]
 |(t,ty)::r,env,H,a,b,ok,h=>by
  simp only[nl]at h;split at h;rename_i m;have st:CL H (H++[.buf false ty [] 0 0]):=CL.push H _;have g:(H++[Dt.buf false ty [] 0 0])[H.length]? =some (.buf false ty [] 0 0):=k!
  have i:PA (env.put t (.c (.own H.length 0 ty 0))) (H++[.buf false ty [] 0 0]):=by refine⟨aj (d:=some t) (st.env ok.env) (Jt (Xe g)),λe f=>?_⟩;rcases An.1 f with f|f;exact st.ent (ok.heap e f);rw[A6.1 f];rfl
  obtain⟨q1,q2,q3⟩:=AAo i h;refine⟨q1,?_,λN=>?_⟩;have o:Ej [t] env H (env.put t (.c (.own H.length 0 ty 0))) (H++[.buf false ty [] 0 0]):=⟨st,λu n _=>nj λe=>n (by simp[e])⟩
  exact Ej.trans ok.env o q2;have w:=GD.virt (N:=N) (env:=B4 env) (H:=BK H) (t:=t) (sz:=ty.sz) (by rw[UN,m];rfl);have j:=(q3 N).of_le (n0:=H.length) k!;rw[iw]at j;have k:BK (H++[.buf false ty [] 0 0])=BK H++[.live 0 []]:=by simp[BK,Dt.enc,Rq.cl]
  rw[k]at j;rw[Cf]at w;exact w.trans j;cases h
def pY: ∀{n:Nat} {e x y:List Bz},rS n e=some (x,y)->e=x++ .nil::y
 |0,[],_,_,h=>by cases h
 |0,z::r,x,y,h=>by
  cases z<;>simp only[rS]at h<;>try (cases h;done)
  injection h with h;injection h with c d;subst c d;rfl
 |n+1,[],_,_,h=>by cases h
 |n+1,z::r,x,y,h=>by simp only[rS]at h;split at h;rename_i a b hr;injection h with h;injection h with c d;subst c d;rw[pY hr];rfl;cases h
theorem yH{env:Bd}: ∀{l:List (Nat×Nat×Ty)} {H c:Ar},PA env H→jZ l H=some c→
  PA env c/\CL H c/\ ∀N,GD N H.length (B4 env) (BK H) (B4 env) (BK c)
 |[],H,c,ok,h=>by grind[jZ,Option.some.injEq,CL.refl,GD.refl,B4,BK,Cf]
 |(b,i,ty)::r,H,c,ok,h=>by
  simp only[jZ]at h;split at h;rename_i E v;split at h;rename_i x y B;have m:=pY B;subst m;have D:b<H.length:=q!
  have f:CL H (H++[Dt.buf false ty [] 0 0]):=CL.push H _;have a:H.set b (Dt.live false (x++Bz.own H.length 0 ty 0::y))++[Dt.buf false ty [] 0 0]=(H++[Dt.buf false ty [] 0 0]).set b (Dt.live false (x++Bz.own H.length 0 ty 0::y)):=q!
  have j:(H++[Dt.buf false ty [] 0 0])[b]? =some (Dt.live false (x++Bz.nil::y)):=q!
  have g:CL (H++[Dt.buf false ty [] 0 0]) ((H++[Dt.buf false ty [] 0 0]).set b (Dt.live false (x++Bz.own H.length 0 ty 0::y))):=CL.set j rfl λ_ _ _ _ _ e=>by cases e
  have n:(H++[Dt.buf false ty [] 0 0])[H.length]? =some (.buf false ty [] 0 0):=k!
  have t:lok H (x++Bz.nil::y):=ok.heap _ (BN v);have s: ∀e∈H++[Dt.buf false ty [] 0 0],e.ok (H++[Dt.buf false ty [] 0 0]):=λe d=>by rcases An.1 d with d|d;exact f.ent (ok.heap e d);rw[A6.1 d];rfl
  have u:lok (H++[Dt.buf false ty [] 0 0]) (x++Bz.own H.length 0 ty 0::y):=by have q:=I3.1 (f.lok t);refine I3.2 ⟨q.1,λz o=>?_⟩;rcases Aw.1 o with rfl|o;exact Xe n;exact q.2 z (CW _ o)
  rw[a]at h;have p:PA env ((H++[Dt.buf false ty [] 0 0]).set b (Dt.live false (x++Bz.own H.length 0 ty 0::y))):=⟨g.env (f.env ok.env),heap_set g s (g.lok u)⟩
  obtain⟨q1,q2,q3⟩:=yH p h;refine⟨q1,(f.trans g).trans q2,λN=>?_⟩;have k:(BK H)[b]? =some (.live 0 (lvs (x++Bz.nil::y))):=by rw[Ex,v];rfl
  have C:(lvs (x++Bz.nil::y))[(lvs x).length]? =some .nils:=by grind[Gn,Ha,Bz.enc]
  have w:=GD.virtC (N:=N) (env:=B4 env) (sz:=ty.sz) k C;have A:BK ((H++[Dt.buf false ty [] 0 0]).set b (Dt.live false (x++Bz.own H.length 0 ty 0::y)))=(BK H).set b (.live 0 ((lvs (x++Bz.nil::y)).set (lvs x).length (.sl (BK H).length 0 ty.sz 0 0)))++[.live 0 []]:=by
   rw[<-a];have:(lvs (x++Bz.nil::y)).set (lvs x).length (.sl (BK H).length 0 ty.sz 0 0)=lvs (x++Bz.own H.length 0 ty 0::y):=by grind[Gn,Ha,Cf,Bz.enc]
   grind[BK,Dt.enc,Rq.cl,List.map_set]
  rw[<-A,Cf]at w;exact w.trans ((q3 N).of_le k!);cases h;cases h
theorem AAe(ok:PA e b)(h:AFJ s e b=some (G,A)):
  PA G A/\Ej (s.virt.map (·.1)) e b G A/\ ∀N,GD N b.length (B4 e) (BK b) (B4 G) (BK A):=by
 unfold AFJ at h;split at h;rename_i H d n;obtain⟨a1,a2,a3⟩:=AAo ok n;split at h;rename_i f m;injection h with h;injection h with k l;subst k l;obtain⟨g,i,j⟩:=yH a1 m;have o:Ej [] H d H f:=⟨i,λ_ _ _=>rfl⟩
 exact⟨g,(Ej.trans ok.env a2 o).mono λt p=>q!,λN=>(a3 N).trans ((j N).of_le a2.step.len)⟩;cases h;cases h
theorem uF{A S:List Nat}{H:Ar}: ∀{env:Bd},(env.map (·.1)).Nodup-> ∀t,env.get t=Ux->(QK A S H env).get t=Ux
 |[],_,_,_=>rfl
 |(u,v)::r,nd,t,h=>by have a:=Gk.1 nd;simp only[Bd.get]at h;by_cases b:u=t;subst b;have hn: ∀p∈QK A S H r,p.1≠u:=λp c e=>a.1 (Br.2 ⟨p,(Qx a.2 p c).2.2,e⟩);grind[QK,Bd.get,kz];rw[beq_false b]at h;have d:=uF (A:=A) (S:=S) (H:=H) a.2 t h;grind[QK,Bd.get,beq_false]
theorem AAN{h:Hint}{A B:List Nat}{env0:Bd}{e:Ar}{D:Bd}{E:Ar}(m:PA env0 e)(nd:(env0.map (·.1)).Nodup)(M:yR A (Lg h.slots) env0 e D E)
  {env1:Bd} {u:Ar} (C:PA env1 u) (st:Ej B D E env1 u) (K: ∀t,t∈B->t∈A) (J: ∀t,t∈h.tmps->t∈A) {x:Exit} {o:vr h.exits} (Q:zK h.exits x env1 u=some o)
  {R:Type} {k:Exit->Bd->Ar->Option R} {r:R} (f:AE7 h e.length (QK A (Lg h.slots) e env0) e (Lg h.slots) k o=some r) (N:Nat):
  ∃g i,GD N e.length (B4 env1) (BK u) (B4 g) (BK i)/\k x g i=some r/\PA g i/\Ej A env0 e g i:=by
 obtain⟨rfl,L,p,S,y⟩:=uo Q;have f:=un f;split at f;rename_i g i O;split at f;rename_i v;simp at v;have sub: ∀j,OF j (Lg (vt h.exits o).2.1)=false->OF j (Lg h.slots)=false:=λj d=>Vl λG=>q!
 obtain⟨w,W,Y,z⟩:=zx m nd M C st K L m.heap rfl (AC8 e) (λ_ _ _ _ q=>q) (λj H d c=>by
  cases H with
  |dead=>grind
  |live b V=>exact .inr ⟨_,sub j d,by rw[Kc,c,D9,sub j d];rfl,rfl,.inr (.inl ⟨_,_,_,_,rfl,rfl,Dk.refl _⟩)⟩
  |buf b t l n U=>exact .inr ⟨_,sub j d,by rw[Kc,c,D9,sub j d];rfl,rfl,.inr (.inr (.inl ⟨_,_,_,_,_,_,_,rfl,rfl⟩))⟩
  |mp b k t X=>exact .inr ⟨_,sub j d,by rw[Kc,c,D9,sub j d];rfl,rfl,.inr (.inr (.inr (.inr ⟨_,_,_,_,_,rfl,rfl⟩)))⟩
  |lp ro F n env Z a b s=>exact .inr ⟨_,sub j d,by rw[Kc,c,D9,sub j d];rfl,rfl,.inr (.inr (.inr (.inl ⟨_,_,_,_,_,_,_,_,_,rfl,rfl⟩)))⟩) O v.1 v.2.1 N
 refine⟨g,i,w,f,z.ok,z.step,λt T P=>?_⟩;have I:=Vl λG=>T (J t (by refine An.2 (.inr (Hj.2 ⟨p,S,?_⟩));rw[<-y];exact G));rw[z.get t I];grind[wb,Ux,uF,jq,AC6,Vl];cases f;cases f
variable {P:Program} {N:Nat}
variable {g:Sem}
theorem xR(hr:OH P N z c g)(n: ∀t,t∈z->t∈a)(m: ∀t,t∈s.tmps->t∈a):OH P N a c (AC4 s a g):=by
 intro R env H k r ok A;unfold AC4 at A;dsimp only at A;split at A;cases A;rename_i env0 f v;split at A;cases A;rename_i hn;obtain⟨o,B,A⟩:=bnd A;obtain⟨b,x,y⟩:=AAe ok v;have nd:=ZU hn;obtain⟨e,env1,d,a1,k1,h,i⟩:=hr env0 (Mj (Lg s.slots) 0 f) _ o (nW b) B;have q:yR a (Lg s.slots) env0 f env0 (Mj (Lg s.slots) 0 f):=⟨nW b,CL.refl _,Ke _ _,λ_ _=>rfl,λp u=>(Qx nd p u).1⟩
 obtain⟨j,l,w,q1,q2,q3⟩:=AAN b nd q h i n m k1 A N;refine⟨e,j,l,?_,q1,q2,?_⟩;rw[uc]at a1;refine qU.weak (by rw[Cf];exact y N) (qU.after (a1.mono ?_));rintro _ _ _ ⟨rfl,rfl,rfl⟩;exact⟨_,_,by rw[Cf];exact w,rfl,rfl,rfl⟩;exact(Ej.trans ok.env x q3).mono λt C=>by grind[Hint.tmps]
theorem ADB(hr:OH P N z c g)(hB: ∀t,t∈z->t∈a)(X: ∀t,t∈s.tmps->t∈a):OH P N a (.loop c) (ADA s a g):=by
 intro R env H k r ok h;unfold ADA at h;dsimp only at h;split at h;cases h
 ·rename_i E Hv hv;obtain⟨bb,sv,wv⟩:=AAe ok hv;obtain⟨m,sf,wf⟩:=Q3 (s.kill++lF E Hv s.slots) bb;generalize IK (s.kill++lF E Hv s.slots) E Hv=fz at h m sf wf;obtain⟨env0,f⟩:=fz;simp only at h m sf wf;split at h
  ·rename_i ds hn hc;split at h
   ·rename_i s0 a7;obtain⟨o,ho,h⟩:=bnd h;have nd:=ZU hn;have v: ∀e∈Mj (Lg s.slots) 0 f,e.ok (Mj (Lg s.slots) 0 f):=(nW m).heap;have hC:=y9 (C:=λB o=> ∀r,AE7 s f.length (QK a (Lg s.slots) f env0) f (Lg s.slots) k o=some r->
     ∃u i,Wg s.slots (dvs (gJ s.slots) B) (QK a (Lg s.slots) f env0) (Mj (Lg s.slots) 0 f)=some (u,i)/\tT f.length u=true/\kS f.length i=true/\(yR a (Lg s.slots) env0 f u i-> ∃x D G,Js P N c (B4 u) (BK i) (Xy x (B4 D) (BK G))/\k x D G=some r/\PA D G/\Ej a env0 f D G)) (λB q U=>by
     split at U
     ·rename_i u i hi;split at U
      ·rename_i I;simp only[BY]at I;have body: ∀y:yR a (Lg s.slots) env0 f u i,∃e env1 J,qU P N c (B4 u) (BK i) (Xy e (B4 env1) (BK J))/\AAT s e env1 J=some q/\PA env1 J/\Ej z u i env1 J:=λy=>hr u i _ q y.ok U;cases q with
       |next s'=>
        intro o ih r h;obtain⟨ad,ap,i1,i2,i3,i4⟩:=ih r h;refine⟨u,i,hi,I.1,I.2,λy=>?_⟩;obtain⟨e,env1,J,a1,k1,O,Q⟩:=body y;unfold AAT at k1;split at k1;rename_i hx;have:=rV hx;subst this;split at k1;rename_i s1 a8;injection k1 with k1;injection k1 with k1;subst k1;have a2:=lh a8;obtain⟨w,ea,ha,V⟩:=zx (Hx:=Mj (Lg s.slots) 0 f) m nd y O Q hB a2 v (Ke _ _) (.refl _) (λ_ _ _ _ q=>sU q) (λj e' L d=>by
         cases Y:f[j]? with
         |none=>grind[Kc]
         |some W=>
          have Z:=d;rw[Kc,Y,D9,L]at d;simp only[Bs,Ao]at d;subst d;cases W with
          |dead=>exact .inl rfl
          |live b cs=>exact .inr ⟨_,L,Z,rfl,.inr (.inl ⟨_,_,_,_,rfl,rfl,Dk.refl _⟩)⟩
          |buf b t l n bl=>exact .inr ⟨_,L,Z,rfl,.inr (.inr (.inl ⟨_,_,_,_,_,_,_,rfl,rfl⟩))⟩
          |mp b k t es=>exact .inr ⟨_,L,Z,rfl,.inr (.inr (.inr (.inr ⟨_,_,_,_,_,rfl,rfl⟩)))⟩
          |lp ro F n env ps A b B=>exact .inr ⟨_,L,Z,rfl,.inr (.inr (.inr (.inl ⟨_,_,_,_,_,_,_,_,_,rfl,rfl⟩)))⟩) i1 i2 i3 N
        have a3:yR a (Lg s.slots) env0 f ad ap:=⟨V.ok,V.step,by rw[V.len,Ke],V.same,λp M=>by
         obtain⟨T,b2,b3⟩:=Qx nd p M;have K:OF p.1 a=false:=by grind[gS,OF]
         rw[V.get p.1 (Vl λhm=>Tu K (X _ (by unfold Hint.tmps;simp only[List.mem_append];exact .inl (.inr hm))))];rw[jq nd p.1 (by rw[T];exact b2)];exact T⟩
        obtain⟨x,D,G,l1,l2,l3,l4⟩:=i4 a3;refine⟨x,D,G,S4 (a1.awp.mono ?_),l2,l3,l4⟩;rintro _ _ _ ⟨rfl,rfl,rfl⟩;exact⟨_,_,by rw[Cf,y.len];exact w,l1⟩;cases k1;split at k1<;>grind
       |done o=>
        intro r h;refine⟨u,i,hi,I.1,I.2,λy=>?_⟩;obtain⟨e,env1,J,a1,k1,O,Q⟩:=body y;unfold AAT at k1;split at k1;split at k1<;>grind;rename_i hx;split at k1;rename_i o1 a6;injection k1 with k1;injection k1 with k1;subst k1;obtain⟨D,G,w,q1,q2,q3⟩:=AAN m nd y O Q hB X a6 h N;have a5:e≠ .normal:=by rintro rfl;cases hx
        refine⟨e,D,G,Js.after (S4 (a1.awp.mono ?_)),q1,q2,q3⟩;intro e1 al bm a9;obtain⟨ar,ax,a0⟩:=a9;subst ar ax a0;have ao: ∃env2 H2,GD N (BK i).length (B4 env1) (BK J) env2 H2/\Xy e1 (B4 D) (BK G) e1 env2 H2:=⟨_,_,by rw[Cf,y.len];exact w,rfl,rfl,rfl⟩
        cases e1 with
        |normal=>exact(a5 rfl).elim
        |_=>exact ao
        cases k1
      cases U
     cases U) ho
    obtain⟨u,i,i1,i2,i3,i4⟩:=hC r h;have a4:=o7 a7;rw[a4]at i1;have a':PA (QK a (Lg s.slots) f env0) (Mj (Lg s.slots) 0 f):=⟨λp M=>(nW m).env p (Qx nd p M).2.2,v⟩
    have V:=OE m hc i1 a' (by rw[Ke];exact Ap _) (λp M=>⟨p.2,(Qx nd p M).2.2,Ww.refl _⟩) (λj e' L d=>by
     rw[Kc]at d;cases Y:f[j]? with
     |none=>rw[Y]at d;cases d
     |some W=>
      rw[Y,D9,L]at d;simp only[Bs,Ao]at d;subst d;refine⟨W,rfl,?_⟩;cases W with
      |dead=>exact .inl rfl
      |live b cs=>exact .inr (.inl ⟨_,_,_,_,rfl,rfl,Dk.refl _⟩)
      |buf b t l n bl=>exact .inr (.inr (.inl ⟨_,_,_,_,_,_,_,rfl,rfl⟩))
      |mp b k t es=>exact .inr (.inr (.inr (.inr ⟨_,_,_,_,_,rfl,rfl⟩)))
      |lp ro F n env ps A b B=>exact .inr (.inr (.inr (.inl ⟨_,_,_,_,_,_,_,_,_,rfl,rfl⟩)))) (AE3 f)
    have w:=V.weak (N:=N) (by rw[Ke];exact Ap _) (by rw[Ke];exact i2) (by rw[Ke];exact i3);rw[Ke]at w;have y:yR a (Lg s.slots) env0 f u i:=⟨V.ok,V.step,by rw[V.len,Ke],V.same,λp M=>by
     obtain⟨T,b2,b3⟩:=Qx nd p M;have K:OF p.1 a=false:=by grind[gS,OF]
     rw[V.get p.1 (Vl λhm=>Tu K (X _ (by unfold Hint.tmps;simp only[List.mem_append];exact .inl (.inr hm))))];rw[jq nd p.1 (by rw[T];exact b2)];exact T⟩
    obtain⟨x,D,G,l1,l2,l3,l4⟩:=i4 y;have w3:GD N H.length (B4 env) (BK H) (B4 u) (BK i):=((wv N).trans ((wf N).of_le (by rw[Cf];exact sv.step.len))).trans (w.of_le (Dh sv.step.len sf.step.len));refine⟨x,D,G,qU.weak (by rw[Cf];exact w3) l1,l2,l3,?_⟩;exact(Ej.trans ok.env (Ej.trans ok.env sv sf) l4).mono λt S=>by rcases An.1 S with S|S;rw[C5]at S;exact X t (by unfold Hint.tmps;simp only[List.mem_append];exact .inl (.inl (.inr S)));exact S
   cases h
  cases h
def ACg{A B:List Nat}{j:Sem}(l:OH P N A c g)(m:OH P N B E j):OH P N (A++B) (.cond D c E) (AAH D g j):=by
 intro R env H k r ok f;unfold AAH at f;dsimp only at f;split at f;rename_i v n;have i:BM (B4 env) D= .bool v:=by have:=K9 env D;rw[n]at this;exact this
 cases v with
 |true=>obtain⟨e,d,a,a1,q1,q2,q3⟩:=l env H k r ok f;exact⟨e,d,a,EI (λ_ e=>by cases e) (Lh.cond i (λ_=>a1.awp) (λe=>by cases e)),q1,q2,q3.mono λt h=>An.2 (.inl h)⟩
 |false=>obtain⟨e,d,a,a1,q1,q2,q3⟩:=m env H k r ok f;exact⟨e,d,a,EI (λ_ e=>by cases e) (Lh.cond i (λe=>by cases e) (λ_=>a1.awp)),q1,q2,q3.mono λt h=>An.2 (.inr h)⟩
 cases f
def AA3{A:List Nat}(hr:OH P N A c g):OH P N A (.block n c) (yg n g):=by
 intro R env H k r ok i;obtain⟨e,a,f,a1,q1,q2,q3⟩:=hr env H _ r ok i;cases e with
 |exit d=>
  simp only at q1;split at q1;rename_i h;have:=DO h;refine⟨.normal,a,f,EI (λ_ e=>by cases e) (Lh.block (a1.awp.mono ?_)),q1,q2,q3⟩;rintro _ _ _ ⟨rfl,rfl,rfl⟩;simp only[oK,if_pos this];exact⟨rfl,rfl,rfl⟩;rename_i h;have b:d≠n:=λe=>t!
  refine⟨.exit d,a,f,EI (λ_ e=>by cases e) (Lh.block (a1.awp.mono ?_)),q1,q2,q3⟩;rintro _ _ _ ⟨rfl,rfl,rfl⟩;simp only[oK,if_neg b];exact⟨rfl,rfl,rfl⟩
 |_=>refine⟨_,a,f,EI (λ_ e=>by cases e) (Lh.block (a1.awp.mono ?_)),q1,q2,q3⟩;rintro _ _ _ ⟨rfl,rfl,rfl⟩;exact⟨rfl,rfl,rfl⟩
end Go.Ab
namespace Go.Ab
variable {N n v:Nat}{a z:List Nat}{R:Type}{b A:Ar}{c E:Code}{d:List RE}{e G L:Bd}{F:FuncId}{g:Sem}{i:List Sm}{j:Aa}{k:TC}{P:Program}{l:List Aa}{p:Ty}{q:Env}{t:List TV}{x:Exit}{y:Bool}{B:Xh}{D:Operand}{I:Func}{K:Int}
section
variable {P:Program} {N:Nat} {env:Env} {H:A1} {Q:Exit->Env->A1->Prop} {X:Nat->Prop} {h:Gh} {w:World}
def yK(N:Nat)(env:Env)(H:A1)(env2:Env)(H2:A1):Prop:=
 ∀(X:Nat->Prop) (h:Gh) (a:Act) (w:World),St X h N env H a w-> ∃h2,St X h2 N env2 H2 a w/\HE h H w h2 H2 w
def Lh.afterG(h:Lh P N c env H (λe b f=> ∃env2 d,yK N b f env2 d/\Q e env2 d)):Lh P N c env H Q:=by intro r X g a w s k;apply wpIn_mono (h r X g a w s k);rintro e i t ⟨l,b,f,⟨env2,d,n,q⟩,o,u,j⟩;obtain⟨m,p,v⟩:=n X l i t o;exact⟨m,env2,d,q,p,u.trans v,j⟩
def Js.afterG(h:Js P N c env H (λe b f=> ∃env2 d,yK N b f env2 d/\Q e env2 d)):Js P N c env H Q:=by intro r X g a w s k;apply WA (h r X g a w s k);rintro e i t ⟨l,b,f,⟨env2,d,n,q⟩,o,u,j⟩;obtain⟨m,p,v⟩:=n X l i t o;exact⟨m,env2,d,q,p,u.trans v,j⟩
def qU.afterG(h:qU P N c env H (λe a d=> ∃env2 b,yK N a d env2 b/\Q e env2 b)):qU P N c env H Q:=by
 cases c with
 |loop x=>exact Js.afterG h
 |_=>exact Lh.afterG h
def mvH(H:A1)(n m:Nat)(e:Fl):A1:=(H.set n e).set m .dead
def gA{e f:Fl}(g:n≠N)(hn:n<H.length)(a:(mvH H n N f)[v]? =some e)(d:e≠ .dead):(v=n/\e=f)\/(v≠n/\v≠N/\H[v]? =some e):=by unfold mvH at a;by_cases b:v=N;subst b;rw[VX]at a;rw[if_pos rfl]at a;split at a;injection a with a;exact absurd a.symm d;cases a;rw[DU (λq=>b q.symm)]at a;by_cases c:v=n;subst c;rw[Gt hn]at a;injection a with a;exact .inl ⟨rfl,a.symm⟩;rw[DU (λq=>c q.symm)]at a;exact .inr ⟨c,b,a⟩
def HE.mv{n m gn b:Nat}{cn d:List Aa}(s:It X h H w)(hn:H[n]? =some (.live gn cn))(j:H[m]? =some (.live b d))(f:n≠m)(v:gn<b):HE h H w (h.at_ n (h.io m) (h.gen m) (h.cap m)) (mvH H n m (.live b d)) w:=by have i:h.gen n=gn:=(s.live n gn cn hn).1;have g:h.gen m=b:=(s.live m b d j).1;have p:n<H.length:=(HJ.1 hn).1;refine⟨rfl,rfl,rfl,Ap _,λ_ _ _=>rfl,by simp[mvH],λid _=>?_,λid _ e=>?_,λB t=>?_,λ_ r hr=>⟨r,hr⟩⟩;simp only[Gh.at_];split;rename_i q;rw[q,i,g];omega;exact Ap _;simp only[Gh.at_]at e⊢;split at e;rename_i q;rw[q,i,g]at e;omega;rename_i q;simp[q];obtain⟨id,e,o,c,a⟩:=t;rcases gA f p o c with⟨rfl,rfl⟩|⟨k,u,l⟩;simp only[Gh.at_,if_true]at a;exact .inl ⟨m,_,j,k!,a⟩;simp only[Gh.at_,if_neg k]at a;exact .inl ⟨id,e,l,c,a⟩
def It.mv{n m gn Q:Nat}{cn Y:List Aa}(s:It X h H w)(hn:H[n]? =some (.live gn cn))(O:H[m]? =some (.live Q Y))(d:n≠m)(hg:gn<Q):It X (h.at_ n (h.io m) (h.gen m) (h.cap m)) (mvH H n m (.live Q Y)) w:=by
 have hx:=HE.mv s hn O d hg;have E:=hx.later X;have F:n<H.length:=(HJ.1 hn).1;refine⟨λB U=>⟨(s.out B U).1,λho=>?_⟩,λid g Z A=>?_,λid L A=>?_,λid M e e' B A K D i o c=>?_,λid e A V=>?_⟩;rcases hx.fresh B ho with q|q;exact(s.out B U).2 q;have:=(s.out B U).1;omega;rcases gA d F A k! with⟨rfl,q⟩|⟨l,N,y⟩;injection q with q1 q2;subst q1 q2;obtain⟨a,b⟩:=s.live m g Z O;refine⟨by simp[cx,Gh.at_];exact a,?_⟩;rcases b with⟨p,u⟩|⟨B,z,T,P,f,p,u,G,I,J,x⟩;exact .inl ⟨by simp only[cx,Gh.at_,if_true];exact p,u⟩;exact .inr ⟨B,z,T,P,f,by simp only[cx,Gh.at_,if_true];exact p,u,by simp only[cx,Gh.at_,if_true];exact G,I,J,λj v C=>⟨(x j v C).1,(x j v C).2.1,(x j v C).2.2.later E⟩⟩;obtain⟨a,b⟩:=s.live id g Z y;refine⟨by simp only[cx,Gh.at_,if_neg l];exact a,?_⟩;rcases b with⟨p,u⟩|⟨B,z,T,P,f,p,u,G,I,J,x⟩;exact .inl ⟨by simp only[cx,Gh.at_,if_neg l];exact p,u⟩;exact .inr ⟨B,z,T,P,f,by simp only[cx,Gh.at_,if_neg l];exact p,u,by simp only[cx,Gh.at_,if_neg l];exact G,I,J,λj v C=>⟨(x j v C).1,(x j v C).2.1,(x j v C).2.2.later E⟩⟩;rcases gA d F A k! with⟨rfl,q⟩|⟨l,N,y⟩;cases q;obtain⟨a,B,r,p,u,G,I,J,x,b7,b8,W⟩:=s.lp id L y;exact⟨by simp only[cx,Gh.at_,if_neg l];exact a,B,r,by simp only[cx,Gh.at_,if_neg l];exact p,u,G,I,J,x,b7,b8,λt v hv=>⟨(W t v hv).1,(W t v hv).2.later E⟩⟩;rcases gA d F A D with⟨q1,q2⟩|⟨l,N,y⟩;rcases gA d F K i with⟨q3,q4⟩|⟨R,h5,S⟩;rw[q1,q3];subst q1;simp only[Gh.at_,if_true]at o;simp only[Gh.at_,if_neg R]at c;exact absurd (s.inj m M _ _ B O S k! i o c).symm h5;rcases gA d F K i with⟨q3,q4⟩|⟨R,h5,S⟩;subst q3;simp only[Gh.at_,if_true]at c;simp only[Gh.at_,if_neg l]at o;exact absurd (s.inj id m _ _ B y O D k! o c) N;simp only[Gh.at_,if_neg l]at o;simp only[Gh.at_,if_neg R]at c;exact s.inj id M e e' B y S D i o c;rcases gA d F A (by rintro rfl;cases V)with⟨rfl,q⟩|⟨l,N,y⟩;subst q;cases V;have b:=s.bld id e y V;cases e with
 |mp k es=>simpa only[BAt,Gh.at_,if_neg l]using b
 |it k sn=>simpa only[BAt,Gh.at_,if_neg l]using b
 |_=>trivial
def yK.mv{n m gn b:Nat}{cn f:List Aa}(hn:H[n]? =some (.live gn cn))(i:H[m]? =some (.live b f))(e:n≠m)(l:gn<b)
  (A: ∀t v,(t,v)∈q->(t,v)∈env\/ ∃sz d len,v= .sl n b sz d len/\(t,Aa.sl m b sz d len)∈env):yK N env H q (mvH H n m (.live b f)):=by
 intro X h a w s;have o:=HE.mv s.sim hn i e l;have j:h.gen m=b:=(s.sim.live m b f i).1;have y:n<H.length:=(HJ.1 hn).1;refine⟨_,⟨s.sim.mv hn i e l,λt v z=>?_,s.size⟩,o⟩;rcases A t v z with C|⟨sz,d,len,rfl,C⟩;exact⟨(s.env t v C).1,(s.env t v C).2.later (o.later X)⟩;obtain⟨p,k⟩:=s.env t _ C;refine⟨p,?_⟩;generalize a.tmps.getD t undef=c at k;cases k with
 |sl x u g r=>refine .sl (by simp[cx,mvH];exact y) (by simp only[cx,Gh.at_,if_true];rw[j];exact Ap _) g λ_=>?_;rcases r j with C|⟨B,cap,q1,q2,q3,q4⟩;exact .inl ⟨by simp only[cx,Gh.at_,if_true];exact C.1,C.2⟩;exact .inr ⟨B,cap,by simp only[cx,Gh.at_,if_true];exact q1,q2,by simp only[cx,Gh.at_,if_true];exact q3,q4⟩
end
section
variable {R:Type} {P:Program} {N:Nat}
def yK.refl(N:Nat)(env:Env)(H:A1):yK N env H env H:=λ_ h _ w s=>⟨h,s,HE.refl h H w⟩
def yK.trans{N:Nat}{f g i:Env}{c d e:A1}(a:yK N f c g d)(b:yK N g d i e):yK N f c i e:=λX h x w s=>by obtain⟨j,l,n⟩:=a X h x w s;obtain⟨k,m,o⟩:=b X j x w l;exact⟨k,m,n.trans o⟩
def AGs{k:Bd->Ar->Option R}{r:R}(ok:PA e b)(h:mv1 v n e b k=some r): ∃a g,yK N (B4 e) (BK b) (B4 a) (BK g)/\k a g=some r/\PA a g/\Ej [v] e b a g:=by
 have same:k e b=some r-> ∃a g,yK N (B4 e) (BK b) (B4 a) (BK g)/\k a g=some r/\PA a g/\Ej [v] e b a g:=λq=>⟨e,b,.refl _ _ _,q,ok,⟨.refl b,λ_ _ _=>rfl⟩⟩
 unfold mv1 at h;split at h;rename_i m j H J I;split at h;exact same h;rename_i t;have t:m≠n:=λq=>by rw[q,Hn]at t;cases t
 split at h;rename_i U l1 F l V l2 c W hn w;split at h;rename_i D z;have D:=DO D;subst D;simp only[BY]at z;have x:=Ty.beq_eq _ _ z.1;have y:=Ty.beq_eq _ _ z.2;injection x with x;injection y with y;subst x y;cases f:decide (F<c)with
 |false=>rw[f]at h;cases h
 |true=>
  rw[f,cond_true]at h;have f:F<c:=of_decide_eq_true f;have hr:Um b m j H J:=by have:=lz ok.env v;rw[I]at this;exact this (.own m j H J) (by simp[TV.refs])
  obtain⟨_,A⟩:=hr.2 _ _ _ _ _ w;obtain⟨_,A⟩:=A rfl;subst A;have K:CL b (b.set n (.buf false H l2 c (l+1))):=CL.set hn rfl λ_ _ _ _ _ q=>by cases q;exact⟨_,_,_,_,rfl,.inl (Nat.lt_succ_self _)⟩
  have B:(b.set n (.buf false H l2 c (l+1)))[m]? =some (.buf false H l2 c j):=by rw[DU (λq=>t q.symm)];exact w
  have L:CL (b.set n (.buf false H l2 c (l+1))) ((b.set n (.buf false H l2 c (l+1))).set m .dead):=CL.set B rfl λ_ _ _ _ _ q=>by cases q
  have st:=K.trans L;have C:c=l2.length:=ok.heap _ (BN w);have i:n<b.length:=(HJ.1 hn).1;have o:=Q7 K ok.heap (show Dt.ok _ (.buf false H l2 c (l+1))from C);refine⟨_,_,?_,h,⟨aj (d:=some v) (st.env ok.env) ?_,Q7 L o trivial⟩,⟨st,λu p _=>?_⟩⟩;have O:BK ((b.set n (.buf false H l2 c (l+1))).set m .dead)=mvH (BK b) n m (.live c (H.E.cl l2)):=by rw[Kp,Kp];rfl
  rw[O];refine yK.mv (gn:=F) (cn:=H.E.cl l1) (by rw[Ex,hn];rfl) (by rw[Ex,w];rfl) (λq=>t q.symm) f (λu E p=>?_);rw[iw]at p;unfold Env.put at p;rcases Aw.1 p with q|q;injection q with q1 q2;subst q1 q2;refine .inr ⟨H.sz,0,c,rfl,?_⟩;exact Br.2 ⟨_,dP I (λq=>by cases q),rfl⟩;exact .inl (BW.1 q).1;refine Jt ⟨by simpa using i,λP T Q S M G=>?_⟩;rw[DU t,Gt i]at G;cases G;exact⟨Ap _,λ_=>⟨rfl,rfl⟩⟩;have s:u≠v:=λq=>p (by simp[q]);unfold Bd.put;simp only[Bd.get];rw[beq_false (λq=>s q.symm)];exact qZ s e
 cases h;exact same h;exact same h
def zG: ∀{j:List Sm} {env:Bd} {H:Ar} {k:Bd->Ar->Option R} {r:R},PA env H->mvs j env H k=some r-> ∃f i,yK N (B4 env) (BK H) (B4 f) (BK i)/\k f i=some r/\PA f i/\Ej (ZX j) env H f i
 |[],env,H,k,r,ok,h=>⟨env,H,.refl _ _ _,h,ok,⟨.refl H,λ_ _ _=>rfl⟩⟩
 |s::j,env,H,k,r,ok,h=>by
  have l:mvs j env H k=some r->(∀t,t∈ZX j->t∈ZX (s::j))-> ∃f i,yK N (B4 env) (BK H) (B4 f) (BK i)/\k f i=some r/\PA f i/\Ej (ZX (s::j)) env H f i:=λq A=>by obtain⟨e,i,a,b,c,d⟩:=zG ok q;exact⟨e,i,a,b,c,d.mono A⟩
  cases s with
  |g t n=>simp only[mvs]at h;obtain⟨E,D,a1,o,v,x⟩:=AGs (N:=N) ok h;obtain⟨z,m,a2,p,w,y⟩:=zG v o;exact⟨z,m,a1.trans a2,p,w,(x.trans ok.env y).mono λu C=>by simpa[ZX]using C⟩
  |_=>exact l h λt B=>by simp[ZX,B]
def ADJ(hr:OH P N z c g)(B: ∀t,t∈z->t∈a)(o: ∀t,t∈ZX i->t∈a):OH P N a c (AFz i g):=by intro R env H k r ok p;obtain⟨e,env1,l,a1,k1,j,d⟩:=hr env H _ r ok p;split at k1;obtain⟨n,m,A,s,f,h⟩:=zG (N:=N) j k1;refine⟨e,n,m,qU.afterG (a1.mono ?_),s,f,(d.trans ok.env h).mono λt q=>(An.1 q).elim (B t) (o t)⟩;rintro x u v ⟨rfl,rfl,rfl⟩;exact⟨_,_,A,rfl,rfl,rfl⟩;exact⟨e,env1,l,a1,k1,j,d.mono B⟩
end
variable {P:Program} {N:Nat}
def OH.mono(h:OH P N a c g)(f: ∀t,t∈a->t∈z):OH P N z c g:=λenv H k r ok A=>by obtain⟨e,B,d,q1,q2,q3,q4⟩:=h env H k r ok A;exact⟨e,B,d,q1,q2,q3,q4.mono f⟩
def sM{hs:List Hint}{A B:List Nat}(hr:OH P N B c g)(d: ∀t,t∈B->t∈A)(b: ∀t,t∈pp hs c->t∈A):OH P N A c (uZ (hintOf hs c) A g):=by
 unfold pp at b;generalize hintOf hs c=o at b⊢;cases o with
 |none=>exact hr.mono d
 |some h=>exact xR hr d b
def ADC{hs:List Hint}{A B:List Nat}(hr:OH P N B c g)(d: ∀t,t∈B->t∈A)(b: ∀t,t∈pp hs (.loop c)->t∈A):OH P N A (.loop c) (AFv (hintOf hs (.loop c)) A g):=by
 unfold pp at b;generalize hintOf hs (.loop c)=o at b⊢;cases o with
 |none=>exact λenv H k r ok e=>by cases e
 |some h=>exact ADB (ADJ hr d λt f=>b t (by simp[Hint.tmps,f])) (λ_ q=>q) b
def Vm: ∀{env:Bd} {p:Nat×TV},p∈gB env->p∈env/\K2 p.2.refs=[]
 |(t,v)::r,p,h=>by simp only[gB]at h;split at h;rename_i a;rcases Aw.1 h with rfl|h;exact⟨Iv,a⟩;exact⟨CW _ (Vm h).1,(Vm h).2⟩;exact⟨CW _ (Vm h).1,(Vm h).2⟩
theorem ABj(Q:Wv P k){B:Array Tmp}:OH P N a (.rangeFunc D B c E) (zS P k N F D B c E):=by
 intro R env H w r ok q;unfold zS at q;dsimp only at q;split at q;rename_i G first m hf
 split at q;rename_i Z;have Y:BM (B4 env) D= .fn (.func G) first m:=by rw[K9,hf];rfl
 have A:(Dt.lp false F N (gB env) B c E .ready).ok (H++[.lp false F N (gB env) B c E .ready]):=λp S id al t n hm=>by have:=mF hm;rw[(Vm S).2]at this;cases this
 have U:CL H (H++[.lp false F N (gB env) B c E .ready]):=CL.push H _;obtain⟨v,i,q1,q2,q3,q4,q5⟩:=Q (.fn G) _ _ _ r (λv X=>by simp only[An,Br,A6]at X;rcases X with(⟨u,_,rfl⟩|rfl)|⟨u,_,rfl⟩;exact jY u;exact Jt trivial;exact jY u) (PU ok.heap A) q
 have y: ∀{ro:Bool} {O n e p b d} {s:LS} {x:Exit},i[H.length]? =some (.lp ro O n e p b d s)→ro=false→(∀L:kf,L.state=s.st→L.pending=s.pend→ADi P N (B4 env) H.length (Xy x (B4 env) (BK (i.set H.length .dead))) ((BK i).set H.length (.lp L)))→w x env (i.set H.length .dead)=some r→
   ∃V g M,qU P N (.rangeFunc D B c E) (B4 env) (BK H) (Xy V (B4 g) (BK M))/\w V g M=some r/\PA g M/\Ej a env H g M:=by
  intro ro O n e p b d s x o T hq q;subst T;have K:CL i (i.set H.length .dead):=CL.set o rfl λ_ _ _ _ _ h=>by cases h
  have st:=(U.trans q5).trans K;refine⟨x,env,_,EI (λ_ e=>by cases e) (kT (B4 (gB env)) (λp S=>?_) Y Z ?_),q,⟨st.env ok.env,Q7 K q4 trivial⟩,st,λ_ _ _=>rfl⟩;obtain⟨u,hu,rfl⟩:=Br.1 S;exact Br.2 ⟨u,(Vm hu).1,rfl⟩;have J:Ek P G _ _ _:=q1;have z:(first.map tvA++[TV.c (.raw (.yf H.length))]++m.map tvA).map TV.enc=first++[.yf (BK H).length]++m:=by
   have W: ∀l:List Aa,(l.map tvA).map TV.enc=l:=by
    intro l;rw[Ml];conv=>rhs;rw[<-dX l]
    grind[List.map_congr_left,gM]
   rw[Ki,Ki,W,W,Cf];rfl
  rw[z,Q1]at J;apply J.mono;rintro _ _ ⟨rfl,rfl⟩;rw[Cf];have I:BK i=(BK i).set H.length (.lp ⟨n,B4 e,p,b,d,s.st,s.pend⟩):=by
   have hg:(BK i)[H.length]? =some (.lp ⟨n,B4 e,p,b,d,s.st,s.pend⟩):=by rw[Ex,o];rfl
   apply Iw;intro j;by_cases ad:j=H.length<;>grind
  rw[I];exact hq _ rfl rfl
 have look: ∀L:kf,H.length<i.length->((BK i).set H.length (.lp L))[H.length]? =some (.lp L):=λL h=>by grind[List.getElem?_set_self,Cf]
 have dead: ∀L:kf,((BK i).set H.length (.lp L)).set H.length .dead=BK (i.set H.length .dead):=λL=>by rw[Xl,Kp];rfl
 split at q2;rename_i o;refine y o rfl (λL C f=>⟨L,look L (G3 o),by rw[C];simp[LS.st],?_⟩) q2;rw[f,dead];exact⟨rfl,rfl,rfl⟩;rename_i o;refine y o rfl (λL C f=>⟨L,look L (G3 o),by rw[C];simp[LS.st],?_⟩) q2;rw[f,dead];exact Lh.ret ⟨rfl,rfl,rfl⟩;rename_i x o;refine y o rfl (λL C f=>⟨L,look L (G3 o),by rw[C];simp[LS.st],?_⟩) q2;rw[f,dead];exact Lh.exit ⟨rfl,rfl,rfl⟩;cases q2;cases q;cases q
theorem ACf{hs:List Hint}(h:mo c E=some B): ∀t∈B.tmps,t∈Qw hs c++Qw hs E:=by obtain⟨o,v,l,q,w,n,r,x,s,y,u,z,rfl,rfl,f,g,i,j,k,_⟩:=mq h;obtain⟨_,_,_,_,_,_,l1⟩:=pz f;obtain⟨_,_,_,_,_,_,l2⟩:=qA g;obtain⟨_,_,_,_,_,_,_,_,_,_,_,_,a⟩:=qB i;obtain⟨_,_,_,_,_,_,_,_,_,_,_,_,_,_,_,d⟩:=qC j;obtain⟨_,_,_,_,_,_,_,e⟩:=qD k;intro t b;simp only[Qw,l1,l2,a,d,e,mw,An];simp only[Xh.tmps]at b;grind
theorem AFX(B: ∀c∈d,c.Ok P)(z:Wv P k)(x:FuncId)(g:List Hint): ∀c:Code,OH P N (Qw g c) c (mN P d k N x g c)/\ ∀m r,c= .seq m r->OH P N (Qw g r) r (mN P d k N x g r):=by
 intro c;induction c with
 |skip=>exact⟨λenv H v r ok n=>⟨.normal,env,H,EI (λ_ e=>by cases e) (Lh.skip ⟨rfl,rfl,rfl⟩),n,ok,Ej.refl _ _ _⟩,λ_ _ e=>by cases e⟩
 |ret=>exact⟨λenv H v r ok n=>⟨.ret,env,H,EI (λ_ e=>by cases e) (Lh.ret ⟨rfl,rfl,rfl⟩),n,ok,Ej.refl _ _ _⟩,λ_ _ e=>by cases e⟩
 |exit id=>exact⟨λenv H v r ok n=>⟨.exit id,env,H,EI (λ_ e=>by cases e) (Lh.exit ⟨rfl,rfl,rfl⟩),n,ok,Ej.refl _ _ _⟩,λ_ _ e=>by cases e⟩
 |seq a b D s=>
  refine⟨?_,λm r e=>by injection e with K L;subst K L;exact s.1⟩;have G:OH P N (Qw g a++Qw g b) (.seq a b) (λenv H v=>mN P d k N x g a env H λe j u=>match e with| .normal=>mN P d k N x g b j u v|e=>v e j u):=by
   intro R env H v r ok n;obtain⟨e,env1,O,a1,k1,w,S⟩:=D.1 env H _ r ok n;cases e with
   |normal=>obtain⟨L,env2,y,a2,W,F,s2⟩:=s.1 env1 O v r w k1;refine⟨L,env2,y,EI (λ_ e=>by cases e) (Lh.seq (a1.awp.mono ?_)),W,F,Ej.trans ok.env S s2⟩;rintro _ _ _ ⟨rfl,rfl,rfl⟩;exact a2.awp
   |_=>refine⟨_,env1,O,EI (λ_ e=>by cases e) (Lh.seq (a1.awp.mono ?_)),k1,w,S.mono λt l=>An.2 (.inl l)⟩;rintro _ _ _ ⟨rfl,rfl,rfl⟩;exact⟨rfl,rfl,rfl⟩
  intro R env H v r ok n;by_cases hq: ∃m I,b= .seq m I;obtain⟨m,I,rfl⟩:=hq;simp only[mN]at n;split at n;rename_i p hp;obtain⟨env1,O,a1,k1,w,S⟩:=ACe B hp ok n;obtain⟨L,env2,y,a2,W,F,s2⟩:=s.2 m I rfl env1 O v r w k1;refine⟨L,env2,y,EI (λ_ e=>by cases e) (Lh.seq (a1.mono ?_)),W,F,(Ej.trans ok.env S s2).mono λt l=>?_⟩;intro e E h hx;cases e with
  |normal=>exact Lh.seq (hx.mono (by rintro _ _ _ ⟨rfl,rfl,rfl⟩;exact a2.awp))
  |_=>exact hx.elim
  show t∈(Qw g a++((Qw g m++Qw g I)++tH g m I))++tH g a (.seq m I);rcases An.1 l with l|l;rcases An.1 (ACf (hs:=g) hp t l)with h|h<;>simp[h];simp[l];exact G.mono (λt l=>An.2 (.inl l)) env H v r ok n;have n:mN P d k N x g (.seq a b) env H v=some r:=n;rw[AFY λm r e=>hq ⟨m,r,e⟩]at n;have T: ∀t,t∈tH g a b->t∈Qw g (.seq a b):=λt l=>An.2 (.inr l);have hB: ∀t,t∈Qw g a++Qw g b->t∈Qw g (.seq a b):=λt l=>An.2 (.inl l);unfold tH at T;generalize qj g a b=o at n T;cases o with
  |none=>exact G.mono hB env H v r ok n
  |some h=>exact xR G hB T env H v r ok n
 |cond c a b D s=>have M:OH P N (Qw g a++Qw g b) (.cond c a b) (AAH c (mN P d k N x g a) (mN P d k N x g b)):=ACg D.1 s.1;refine⟨?_,λ_ _ e=>by cases e⟩;intro R;exact sM (hs:=g) (A:=Qw g (.cond c a b)) M (λt l=>An.2 (.inl l)) (λt l=>An.2 (.inr l))
 |block id b V=>have M:OH P N (Qw g b) (.block id b) (yg id (mN P d k N x g b)):=AA3 V.1;refine⟨?_,λ_ _ e=>by cases e⟩;intro R;exact sM (hs:=g) (A:=Qw g (.block id b)) M (λt l=>An.2 (.inl l)) (λt l=>An.2 (.inr l))
 |loop b V=>exact⟨ADC (hs:=g) (A:=Qw g (.loop b)) V.1 (λt l=>An.2 (.inl l)) (λt l=>An.2 (.inr l)),λ_ _ e=>by cases e⟩
 |region id q J=>
  refine⟨?_,λ_ _ e=>by cases e⟩;cases J with
  |false=>
   have M:OH P N (mw q.toList) (.region id q false) (λenv H v=>match Oi N q.toList with
    |true=>xw P d k q (guards q) false q.toList 0 env H λj u=>v .normal j u
    |false=>none):=by
    intro R env H v r ok n;dsimp only at n;split at n;rename_i C;obtain⟨j,u,X,Y,Z,r4⟩:=gE (N:=N) B z _ _ _ _ _ _ ok n;refine⟨.normal,j,u,EI (λ_ e=>by cases e) (Fs C ?_),Y,Z,r4⟩;show WJ P N q q.toList (B4 env) (BK H) (λK y=>Exit.normal=Exit.normal/\K=B4 j/\y=BK u);simpa using X;cases n
   intro R;exact sM (hs:=g) (A:=Qw g (.region id q false)) M (λt l=>An.2 (.inl l)) (λt l=>An.2 (.inr l))
  |true=>
   intro R env H v r ok n;simp only[mN]at n;split at n;rename_i C;simp only[BY]at C;obtain⟨j,u,X,Y,Z,r4⟩:=YZ (N:=N) B z _ _ _ _ _ _ ok n;refine⟨.normal,j,u,EI (λ_ e=>by cases e) (jB C.1.1.1 _ C.1.1.2 C.1.2 ?_ ?_),Y,Z,r4.mono λt l=>An.2 (.inl ?_)⟩;have:=ZU C.2;rw[B4,Ml];exact this;show RA P N q (zP q) [] (B4 env) (BK H) (λK y=>Exit.normal=Exit.normal/\K=B4 j/\y=BK u);simpa using X;unfold tV at l;obtain⟨i,_,Q⟩:=OX.1 l;cases U:q[i]? with
   |none=>rw[U]at Q;cases Q
   |some o=>
    rw[U]at Q;refine OX.2 ⟨o,?_,Q⟩;have:q.toList[i]? =some o:=by simpa using U
    exact BN this
   cases n
 |rangeFunc f ps a b _ _=>exact⟨ABj z,λ_ _ e=>by cases e⟩
 |_=>exact⟨λenv H v r ok n=>(by simp only[mN]at n;cases n),λ_ _ e=>by cases e⟩
theorem pJ(f: ∀c∈d,c.Ok P)(e:Wv P k)(g:FuncId)(b:List Hint)(c:Code):OH P N (Qw b c) c (mN P d k N g b c):=by grind[AFX]
end Go.Ab
namespace Go.Ab
def cH:Nat->List TV->Bd
 |_,[]=>[]
 |i,v::r=>(i,v)::cH (i+1) r
def mH(P:Program)(env:Bd)(H:Ar):List ResultVar->Option (List TV)
 |[]=>some []
 | .tmp t::r=>match mH P env H r with|some vs=>some (env.get t::vs)|none=>none
 | .cell a t::r=>match mH P env H r with|some vs=>loadT P H t (env.get a) λv=>some (v::vs)|none=>none
def xP:Exit->Bool
 | .normal=>true
 | .ret=>true
 |_=>false
variable {N n v:Nat}{R:Type}{b A:Ar}{d:List RE}{e G L:Bd}{F:FuncId}{j:Aa}{P:Program}{l:List Aa}{p:Ty}{t:List TV}{x:Exit}{y:Bool}{I:Func}{K:Int}
def AHm(P:Program)(fn:Func)(k:TV->Ar->Option R):Exit->Bd->Ar->Option R:=λe env H=>
 match xP e with
 |true=>match mH P env H fn.results.toList with|some vs=>k (one vs) H|none=>none
 |false=>none
def xz:Bd->List Tmp->List TV->Bd
 |env,t::ts,v::vs=>xz (env.put t v) ts vs
 |env,_,_=>env
def ADn(id:Nat)(k:TV->Ar->Option R):Exit->Bd->Ar->Option R:=λe _ H=>
 match H[id]? with
 |some (.lp false F n env ps a b _)=>
  match e with
  | .normal=>k (.c (.bl true)) (H.set id (.lp false F n env ps a b .ready))
  | .ret=>k (.c (.bl false)) (H.set id (.lp false F n env ps a b .ret))
  | .exit x=>k (.c (.bl false)) (H.set id (.lp false F n env ps a b (.exit x)))
  |_=>none
 |_=>none
noncomputable def za(P:Program)(cs:List RE)(call:TC)(hs:FuncId->List Hint)(id:Nat)(vs:List TV)(H:Ar){R:Type}(k:TV->Ar->Option R):Option R:=
 match H[id]? with
 |some (.lp false F n env ps a b .ready)=>
  match Nat.beq vs.length ps.size&&ps.toList.all λt=>Nat.blt t n with
  |true=>mN P cs call n F (hs F) a (xz env ps.toList vs) H λe env1 H1=>
   match e with
   | .normal=>
    match H1[id]? with
    |some (.lp false F1 n1 e1 ps1 a1 b1 .ready)=>mN P cs call n F (hs F) b env1 (H1.set id (.lp false F1 n1 e1 ps1 a1 b1 .busy)) (ADn id k)
    |_=>none
   |_=>none
  |false=>none
 |_=>none
noncomputable def pS(P:Program)(cs:List RE)(hs:FuncId->List Hint):Nat->TC
 |0=>λ_ _ _ _=>none
 |n+1=>λtg vs H k=>
  match tg with
  | .fn F=>
   match P.funcs[F]? with
   |some fn=>
    match fn.body with
    |some c=>match Nat.ble vs.length fn.ntmps with|true=>mN P cs (pS P cs hs n) fn.ntmps F (hs F) c (cH 0 vs) H (AHm P fn k)|false=>none
    |none=>none
   |none=>none
  | .yd id=>za P cs (pS P cs hs n) hs id vs H k
def sL(bt:Ty):(rs:List Ty)->DL rs->bt.D->DL (rs++[bt])
 |[],_,b=>b
 |[_],y,b=>(y,b)
 |_::u::r,y,b=>(y.1,sL bt (u::r) y.2 b)
def pF(vs:List TV):List Nat:=vs.flatMap λv=>K2 v.refs
def AHj(P:Program)(fn:Func)(rs:List Ty):Exit->Bd->Ar->Option (DL rs):=λe env H=>
 match xP e with
 |true=>
  match mH P env H fn.results.toList with
  |some vs0=>match IK (pF vs0) env H with|(ef,hf)=>match mH P ef hf fn.results.toList with|some vs=>inp rs vs|none=>none
  |none=>none
 |false=>none
def AHk(P:Program)(fn:Func)(bt:Ty)(rs:List Ty):Exit->Bd->Ar->Option (DL (rs++[bt])):=λe env H=>
 match xP e with
 |true=>
  match mH P env H fn.results.toList with
  |some vs0=>
   match IK (pF vs0++(match (H[0]? :Option Dt)with|some (.live _ cs)=>K2 cs|_=>[])) env H with
   |(ef,hf)=>
    match mH P ef hf fn.results.toList,(hf[0]? :Option Dt)with
    |some vs,some (.live _ cs)=>match inp rs vs,bt.all cs with|some y,some b=>some (sL bt rs y b)|_,_=>none
    |_,_=>none
  |none=>none
 |false=>none
def sJ:Nat->TV->List TV->List TV
 |0,v,l=>v::l
 |n+1,v,x::l=>x::sJ n v l
 |_+1,v,[]=>[v]
noncomputable def zy(P:Program)(cs:List RE)(hs:FuncId->List Hint)(n:Nat)(F:FuncId)(ds rs:List Ty)(x:DL ds):Option (DL rs):=
 match P.funcs[F]? with
 |some fn=>
  match fn.body with
  |some c=>match Nat.ble (wQ ds x).length fn.ntmps with|true=>mN P cs (pS P cs hs n) fn.ntmps F (hs F) c (cH 0 (wQ ds x)) [] (AHj P fn rs)|false=>none
  |none=>none
 |none=>none
noncomputable def ACV(P:Program)(cs:List RE)(hs:FuncId->List Hint)(n:Nat)(F:FuncId)(pos:Nat)(bt:Ty)(ds rs:List Ty)(b:bt.D)(x:DL ds):Option (DL (rs++[bt])):=
 match P.funcs[F]? with
 |some fn=>
  match fn.body with
  |some c=>
   match Nat.ble (sJ pos (.c (.raw (.ptr 0 0 0))) (wQ ds x)).length fn.ntmps with
   |true=>mN P cs (pS P cs hs n) fn.ntmps F (hs F) c (cH 0 (sJ pos (.c (.raw (.ptr 0 0 0))) (wQ ds x))) [.live false (bt.lvs b)] (AHk P fn bt rs)
   |false=>none
  |none=>none
 |none=>none
theorem cI: ∀(l:List TV) (i:Nat),B4 (cH i l)=env0 i (l.map TV.enc)
 |[],_=>rfl
 |v::r,i=>by have:=cI r (i+1);grind[B4,cH,env0]
def iz{H:Ar}: ∀{l:List TV} {i:Nat},(∀v∈l,v.ok H)-> ∀p∈cH i l,p.2.ok H
 |[],_,_,p,a=>by cases a
 |v::r,i,h,p,a=>by simp only[cH]at a;rcases Aw.1 a with rfl|a;exact h v k!;exact iz (λw b=>h w (by simp[b])) p a
theorem kF{P:Program}{env:Bd}{H:Ar}(d: ∀p∈env,p.2.ok H)(c: ∀e∈H,e.ok H): ∀{l:List ResultVar} {b:List TV},mH P env H l=some b->Sk P (B4 env) (BK H) l=some (b.map TV.enc)/\ ∀v∈b,v.ok H
 |[],b,h=>by simp only[mH,Ao]at h;subst h;exact⟨rfl,λv g=>by cases g⟩
 | .tmp t::r,b,h=>by simp only[mH]at h;split at h;rename_i i f;obtain⟨q1,q2⟩:=kF d c f;grind[Sk,mI,UN,lz];cases h
 | .cell a t::r,b,h=>by simp only[mH]at h;split at h;rename_i i f;obtain⟨q1,q2⟩:=kF d c f;obtain⟨u,j,k,m⟩:=pw c (lz d a) h;grind[Sk,mI,UN];cases h
def tB(d: ∀p∈e,p.2.ok b)(c: ∀H∈b,H.ok b)(h:mH P e b I.results.toList=some t):gU P I (B4 e) (BK b)=some (pB (t.map TV.enc)):=by
 unfold gU;rw[(kF d c h).1];cases t with
 |nil=>rfl
 |cons v r=>
  cases r with
  |nil=>rfl
  |cons u r=>rfl
def u6: ∀(a:List Tmp) (b:List TV) (env:Bd),Q9 (B4 env) a (b.map TV.enc)=B4 (xz env a b)
 |[],_,_=>rfl
 |_::_,[],_=>rfl
 |t::a,v::b,env=>by simp only[Bl,Q9,xz];rw[<-iw];exact u6 a b (env.put t v)
def yA{H:Ar}: ∀(b:List Tmp) (a:List TV) (env:Bd),(∀p∈env,p.2.ok H)->(∀v∈a,v.ok H)-> ∀p∈xz env b a,p.2.ok H
 |[],_,_,h,_=>h
 |_::_,[],_,h,_=>h
 |t::b,v::a,env,h,hv=>yA b a (env.put t v) (aj (d:=some t) h (hv v k!)) λu c=>hv u (by simp[c])
def AFw{c:Bool}{F n env ps a H}{s e:LS}(h:(Dt.lp y F n env ps a H s).ok b):(Dt.lp c F n env ps a H e).ok A:=h
theorem AAb{F n env ps a H}{s s':LS}(h:b[N]? =some (.lp false F n env ps a H s)):CL b (b.set N (.lp false F n env ps a H s')):=CL.set h rfl (λ_ _ _ _ _ h=>by cases h) λ_ _ _ _ _ _ _ _ e=>q!
def zA{F n env ps a H}{s:LS}(h:b[N]? =some (.lp y F n env ps a H s)):(BK b)[N]? =some (.lp ⟨n,B4 env,ps,a,H,s.st,s.pend⟩):=by rw[Ex,h];rfl
theorem ABo{P:Program}{cs:List RE}(K: ∀c∈cs,c.Ok P){hs:FuncId→List Hint}{g:TC}(J:Wv P g){R:Type}{id:Nat}{S:List TV}{H:Ar}{k:TV→Ar→Option R}{r:R}(hv: ∀v∈S,v.ok H)(hH: ∀e∈H,e.ok H)
  (h:za P cs g hs id S H k=some r): ∃v d,zu P (S.map TV.enc) (BK H) v.enc (BK d) (.yd id)/\k v d=some r/\v.ok d/\(∀e∈d,e.ok d)/\CL H d:=by
 unfold za at h;split at h;rename_i F n env ps a b he;split at h;rename_i hb;simp only[BY]at hb;have M: ∀p∈env,p.2.ok H:=λp hp x hx=>by
  have:=(hH _ (BN he)) p hp;cases x with
  |own i v t m=>grind
  |_=>trivial
 obtain⟨e,env1,T,a1,k1,w,s1⟩:=pJ (N:=n) K J F (hs F) a _ H _ r ⟨yA ps.toList S env M hv,hH⟩ h;split at k1;split at k1;rename_i F1 n1 Y z U V s;have B:CL T _:=AAb (s':=.busy) s;obtain⟨x,env2,D,a2,j,O,s2⟩:=pJ (N:=n) K J F (hs F) b _ _ _ r ⟨B.env w.env,Q7 B w.heap (AFw (w.heap _ (BN s)))⟩ k1;unfold ADn at j;split at j;rename_i F2 n2 Z A W X s0 u
 have l: ∀(v:Bool) (C:LS),k (.c (.bl v)) (D.set id (.lp false F2 n2 Z A W X C))=some r→(∀L:kf,(BK D)[id]? =some (.lp L)→L=⟨n2,B4 Z,A,W,X,s0.st,s0.pend⟩→ADo id (DX (.bool v) (BK (D.set id (.lp false F2 n2 Z A W X C)))) x (B4 env2) (BK D))→
   ∃v d,zu P (S.map TV.enc) (BK H) v.enc (BK d) (.yd id)/\k v d=some r/\v.ok d/\(∀e∈d,e.ok d)/\CL H d:=by
  intro v C hk hq;have Q:CL D _:=AAb (s':=C) u;refine⟨.c (.bl v),_,?_,hk,Jt trivial,Q7 Q O.heap (AFw (O.heap _ (BN u))),((s1.step.trans B).trans s2.step).trans Q⟩;intro N o c f env0 ho I hf q;apply JJ.yield ho I hf (zA he);grind[List.length,List.length_map,Array.length_toList,Nat.eq_of_beq_eq_true];simp_all;show Lh P n a (Q9 (B4 env) ps.toList (c.args.toList.map (BM env0))) (BK H) _;rw[q,u6];apply a1.awp.mono;rintro _ _ _ ⟨rfl,rfl,rfl⟩;refine⟨rfl,_,zA s,rfl,?_⟩;have e3:(BK T).set id (.lp ⟨n1,B4 Y,z,U,V,.busy,LS.pend .ready⟩)=BK (T.set id (.lp false F1 n1 Y z U V .busy)):=by rw[Kp];rfl
  show Lh P n b (B4 env1) ((BK T).set id (.lp ⟨n1,B4 Y,z,U,V,.busy,LS.pend .ready⟩)) _;rw[e3];apply a2.awp.mono;rintro _ _ _ ⟨rfl,rfl,rfl⟩;exact hq _ (zA u) rfl
 split at j;refine l true .ready j λL G E=>⟨L,G,rfl,?_⟩
 subst E;rw[Kp];rfl;refine l false .ret j λL G E=>⟨L,G,rfl,?_⟩
 subst E;rw[Kp];rfl;rename_i y;refine l false (.exit y) j λL G E=>⟨L,G,rfl,?_⟩
 subst E;rw[Kp];rfl;cases j;cases j;cases k1;cases k1;cases h;cases h
theorem il{P:Program}{j:List RE}(b: ∀c∈j,c.Ok P){m:FuncId->List Hint}: ∀n,Wv P (pS P j m n)
 |0=>by grind[pS]
 |n+1=>by
  intro z A H k r p l h;cases z with
  |yd id=>exact ABo b (il b n) p l h
  |fn F=>
  simp only[pS]at h;split at h;rename_i fn y;split at h;rename_i c w;split at h;rename_i hn;obtain⟨e,d,f,a1,k1,a,q⟩:=pJ (N:=fn.ntmps) b (il b n) F (m F) c (cH 0 A) H _ r ⟨iz p,l⟩ h;unfold AHm at k1;split at k1;rename_i x;split at k1;rename_i s o;refine⟨one s,f,J1 y w t! ?_,k1,vq (kF a.env a.heap o).2,a.heap,q.step⟩;rw[<-cI];apply a1.awp.mono;rintro _ _ _ ⟨rfl,rfl,rfl⟩;have g: ∃v t i,gU P fn (B4 d) (BK f)=some v/\OR (BK H).length v (BK f) t i/\DX (one s).enc (BK f) t i:=⟨_,_,_,tB a.env a.heap o,OR.refl _ _ (by rw[Cf,Cf];exact q.step.len),by rw[qf],rfl⟩
  rename_i u;cases u<;>first|exact g|cases x
  cases k1;cases k1;cases h;cases h;cases h
def Dk.tup{b a:List Aa}(h:Dk b a):Ww (.tup b) (.tup a):=by
 intro x c r;cases r with
 |tup g hr=>refine .tup (by rw[g,h.1]) λj i d f e=>?_;obtain⟨v,q1,q2⟩:=h.2 j i f;exact q2 _ _ (hr j v d q1 e)
def WO{b:List Aa}(h:Dk l b):Ww (pB l) (pB b):=by
 match l,b,h with
 |[],[],h=>exact Ww.refl _
 |[v],[w],h=>obtain⟨u,q1,q2⟩:=h.2 0 w rfl;simp at q1;subst q1;exact q2
 |v::u::r,w::x::s,h=>exact Dk.tup h
def PC: ∀(a:List Ty) (x:DL a),∀v∈lU a x,Pure v
 |[],_,v,h=>by cases h
 |[t],x,v,h=>by simp only[lU,A6]at h;subst h;exact t.enc_pure x
 |t::u::r,x,v,h=>by simp only[lU]at h;rcases Aw.1 h with rfl|h;exact t.enc_pure x.1;exact PC (u::r) x.2 v h
def Xd(h: ∀v∈l,Pure v):Pure (pB l):=by
 match l,h with
 |[],_=>rfl
 |[v],h=>exact h v k!
 |v::u::r,h=>exact(Dr _ _).2 h
theorem tD{a H2:Ar}(v:H2.length<=a.length)(hr:HR a H2 [])(i:kS H2.length H2=true){d:Aa}(l:Ww j d)(k:Pure d):OR H2.length j (BK a) d (BK H2):=by
 refine⟨by rw[Cf];exact Ap _,λX h w c s r=>?_⟩;have q:=(HR.rel v hr (cx X h (BK a) w)).onto;have n:=s.rel q;have m:=(l _ c r).later q.later;have e:(BK H2++(BK a).drop H2.length).take H2.length=BK H2:=by grind[Cf]
 have b:H2.length<=(BK H2++(BK a).drop H2.length).length:=by simp[BK]
 have g:=n.trunc b (by rw[e];exact jw i);have f:=m.trunc b (jU k _);rw[e]at g f;exact⟨h,g,f,λ_ _=>⟨rfl,rfl,rfl⟩,λB o=>q.own B (gC (n0:=H2.length) q!)⟩
def pU{n:Nat}: ∀{a b:List Bz},Z8 n a=true->Z8 n b=true->Z8 n (a++b)=true
 |[],_,_,hb=>hb
 |x::r,b,ha,hb=>by obtain⟨c,e⟩:=uI ha;have d:=pU e hb;cases x<;>simp only[Di,Z8,BY,Qr]at c⊢ <;>first|exact d|exact⟨c,d⟩
mutual
theorem Ty.lvs_clo{n:Nat}: ∀(t:Ty) (x:t.D),Z8 n (t.lvs x)=true
 | .bool,_=>rfl
 | .int _,_=>rfl
 | .str,_=>rfl
 | .list _,_=>rfl
 | .arr _ _,_=>rfl
 | .prod ts,x=>ts.lvs_clo x
theorem Rp.lvs_clo{n:Nat}: ∀(a:Rp) (x:a.D),Z8 n (a.lvs x)=true
 | .one t,x=>t.lvs_clo x
 | .cons t a,x=>pU (t.lvs_clo x.1) (a.lvs_clo x.2)
end
def pC(h: ∀v∈l,Pure v)(a:Nat->Nat):Aa.renL a l=l:=by
 rw[OG];conv=>rhs;rw[<-dX l]
 exact Mk λv b=>(h v b).ren a
def sI{ρ:Nat->Nat}: ∀{n:Nat} {v:Aa} {l:List Aa},(∀v∈l,Pure v)->Aa.renL ρ (VQ n v l)=VQ n (v.ren ρ) l
 |0,v,l,h=>by simp only[VQ,Aa.renL,pC h]
 |n+1,v,[],h=>rfl
 |n+1,v,x::l,h=>by have b:=sI (ρ:=ρ) (n:=n) (v:=v) (l:=l) λu a=>h u (CW _ a);simp only[VQ,Aa.renL,(h x Iv).ren,b]
def uY: ∀{n:Nat} {v u:Aa} {l:List Aa},u∈VQ n v l->u=v\/u∈l
 |0,v,u,l,h=>by simpa[VQ]using h
 |n+1,v,u,[],h=>by simpa[VQ]using h
 |n+1,v,u,x::l,h=>by simp only[VQ]at h;rcases Aw.1 h with rfl|h;exact .inr k!;rcases uY h with h|h;exact .inl h;exact .inr (by simp[h])
def xN: ∀{n:Nat} {v:TV} {l:List TV},(sJ n v l).map TV.enc=VQ n v.enc (l.map TV.enc)
 |0,_,_=>rfl
 |n+1,_,[]=>rfl
 |n+1,v,x::l=>by simp only[sJ,Bl,VQ,xN]
def xO: ∀{n:Nat} {v u:TV} {l:List TV},u∈sJ n v l->u=v\/u∈l
 |0,v,u,l,h=>by simpa[sJ]using h
 |n+1,v,u,[],h=>by simpa[sJ]using h
 |n+1,v,u,x::l,h=>by simp only[sJ]at h;rcases Aw.1 h with rfl|h;exact .inr k!;rcases xO h with h|h;exact .inl h;exact .inr (by simp[h])
theorem pT{x:p.D}: ∀v∈(p.enc x).cells,Pure v:=by
 intro v a;have h:=p.enc_pure x;cases b:p.enc x with
 |agg c=>rw[b]at a h;exact((Dr _ _).1 h) v a
 |_=>grind[Aa.cells]
def gI(a:Ty): ∀(c:List Ty) (y:DL c) (b:a.D),K4 a c (sL a c y b)=(y,b)
 |[],_,_=>rfl
 |[_],_,_=>rfl
 |_::u::r,y,b=>by simp only[sL,K4,gI a (u::r) y.2 b]
variable {P:Program} {cs:List RE} {hs:FuncId->List Hint} {n:Nat} {F:FuncId} {ds rs:List Ty}
def AGi{c:A1}(k:xP x=true)(ok:PA e b)(hr:mH P e b I.results.toList=some t)(h:OR N (pB (t.map TV.enc)) (BK b) j c):
  AIC P I N (DX j c) x (B4 e) (BK b):=by
 have d: ∃v f a,gU P I (B4 e) (BK b)=some v/\OR N v (BK b) f a/\DX j c f a:=⟨_,_,_,tB ok.env ok.heap hr,h,rfl,rfl⟩
 cases x<;>first|exact d|cases k
def AAJ{g:DL ds->Option (DL rs)}(d: ∀c∈cs,c.Ok P)(t: ∀x,g x=zy P cs hs n F ds rs x):(RE.c0 F ds rs g).Ok P:=by
 intro x y a H;rw[t]at a;have key:Ek P F (lU ds x) [] (DX (pB (lU rs y)) []):=by unfold zy at a;split at a;rename_i q s;split at a;rename_i c r;split at a;rename_i hn;obtain⟨e,o,z,a1,k1,l,B⟩:=pJ (N:=q.ntmps) d (il d n) F (hs F) c (cH 0 (wQ ds x)) [] _ y ⟨iz (mL ds x),λe i=>by cases i⟩ a;unfold AHj at k1;split at k1;rename_i i;split at k1;rename_i m u;obtain⟨f,w,p⟩:=Q3 (pF m) l;simp only at k1 f w p;split at k1;rename_i C k;apply J1 s r (by rw[<-ZY,CA];exact OZ hn);rw[<-ZY,<-cI];refine Lh.after (a1.awp.mono ?_);rintro _ _ _ ⟨rfl,rfl,rfl⟩;exact⟨_,_,(p _).of_le (Be _),AGi i f k (tD (H2:=[]) (Be _) (λj A _ h=>by cases h) rfl (WO (YU k1)) (Xd (PC rs y)))⟩;cases k1;cases k1;cases k1;cases a;cases a;cases a
 exact Ek.frame (H:=H) [] key QG rfl rfl (λj b e h=>by cases h) (λe h=>by cases h) (λe h=>by cases h) (Xd (PC rs y)) (pC (PC ds x) _) ((Dr _ _).2 λv k=>(PC ds x v k).all _)
theorem AEh{g:p.D->DL ds->Option (DL (rs++[p]))}(m: ∀c∈cs,c.Ok P)(T: ∀b x,g b x=ACV P cs hs n F N p ds rs b x):(RE.c1 F N p ds rs g).Ok P:=by
 intro b x y f H id V;rw[T]at f;have key: ∃r i,y=sL p rs r i/\Ek P F (VQ N (.ptr 0 0 0) (lU ds x)) [.live 0 (p.enc b).cells] (DX (pB (lU rs r)) [.live 0 (p.enc i).cells]):=by
  unfold ACV at f;split at f;rename_i M S;split at f;rename_i c R;split at f;rename_i hn;have t:PA (cH 0 (sJ N (.c (.raw (.ptr 0 0 0))) (wQ ds x))) [.live false (p.lvs b)]:=by refine⟨iz λv d=>?_,λe s=>?_⟩;rcases xO d with rfl|d;exact Jt trivial;grind[mL];rw[A6.1 s];exact p.lvs_ok b
  obtain⟨e,l,G,a1,k1,u,E⟩:=pJ (N:=M.ntmps) m (il m n) F (hs F) c _ _ _ y t f;unfold AHk at k1;split at k1;rename_i s;split at k1;rename_i z W;generalize C:(pF z++_)=ids at k1;obtain⟨k,w,A⟩:=Q3 ids u;generalize IK ids l G=fz at k1 k w A;obtain⟨ef,U⟩:=fz;simp only at k1 k w A;split at k1;rename_i vs Y I d O;split at k1;rename_i r i hr q;injection k1 with k1;refine⟨r,i,k1.symm,?_⟩;have J:BK [.live false (p.lvs b)]=[.live 0 (p.enc b).cells]:=by simp only[BK,Bl,HH,Dt.enc,p.lvs_enc]
  have K:BK [.live false (p.lvs i)]=[.live 0 (p.enc i).cells]:=by simp only[BK,Bl,HH,Dt.enc,p.lvs_enc]
  have L:VQ N (.ptr 0 0 0) (lU ds x)=(sJ N (.c (.raw (.ptr 0 0 0))) (wQ ds x)).map TV.enc:=by rw[xN,ZY];rfl
  rw[<-J,<-K,L];apply J1 S R (by rw[CA];exact OZ hn);rw[<-cI];refine Lh.after (a1.awp.mono ?_);rintro _ _ _ ⟨rfl,rfl,rfl⟩;have o:1<=U.length:=Dh E.step.len w.step.len;refine⟨_,_,(A _).of_le (by rw[Cf,Cf];exact E.step.len),AGi s k d ?_⟩;rw[Cf];refine tD (H2:=[.live false (p.lvs i)]) o (λj Z _ h=>?_) (by simp only[kS,p.lvs_clo,XT]) (WO (YU hr)) (Xd (PC rs r));match j,h with
  |0,h=>simp only[jn,Ao]at h;subst h;refine⟨_,O,.inr (.inl ⟨_,_,_,_,rfl,rfl,?_⟩)⟩;rw[p.lvs_enc];exact Ft q
  |j+1,h=>grind
  cases k1;cases k1;cases k1;cases k1;cases f;cases f;cases f
 obtain⟨r,i,rfl,key⟩:=key;rw[gI];have Q:Aa.renL (λj=>[id].getD j 0) (VQ N (.ptr 0 0 0) (lU ds x))=VQ N (.ptr id 0 0) (lU ds x):=by rw[sI (PC ds x)];rfl
 exact Ek.frame (H:=H) [id] key (Gk.2 ⟨k!,QG⟩) rfl rfl (λj X e a B=>by
   match j,a,B with
   |0,a,B=>grind[List.getElem?_cons_zero,Option.some.injEq]
   |j+1,a,_=>simp at a) (λe h=>by
   rw[A6.1 h];exact(Dr _ _).2 λv d=>pT v d) (λe h=>by
   rw[A6.1 h];exact(Dr _ _).2 λv d=>pT v d) (Xd (PC rs r)) Q ((Dr _ _).2 λv d=>by
   rcases uY d with rfl|d;rfl;exact(PC ds x v d).all _)
end Go.Ab
namespace Go.Ab
def fu:List (Nat×List Hint)->FuncId->List Hint
 |[],_=>[]
 |(k,h)::r,F=>match Nat.beq k F with|true=>h|false=>fu r F
theorem CK{P:Program}: ∀c∈([]:List RE),c.Ok P:=q!
variable {N n v:Nat}{R:Type}{d:List RE}{F:FuncId}{j:Aa}{P:Program}{p:Ty}{K:Int}
theorem A7{P:Program}{c:RE}(h:c.Ok P)(b: ∀c∈d,c.Ok P): ∀a∈c::d,a.Ok P:=q!
def wi(a:Int):Int:=IntKind.wrap .i64 a
abbrev len{α:Type}(l:List α):Int:=(l.length:Int)
def nB{A B:Type}(f:(A->Option B)->A->Option B):Nat->A->Option B
 |0,_=>none
 |n+1,x=>f (nB f n) x
noncomputable def rj{A B:Type}(f:(A->Option B)->A->Option B)(x:A):Option B:=open Classical in if h: ∃r n,nB f n x=some r then some h.choose else none
theorem j9{B:Type}{f:(R->Option B)->R->Option B}{x:R}{r:B}(h:rj f x=some r): ∃n,nB f n x=some r:=by unfold rj at h;split at h<;>grind
theorem lq{B:Type}{f:(R->Option B)->R->Option B}{x:R}{r:B}{n:Nat}(h:nB f n x=some r): ∃s,rj f x=some s:=by unfold rj;rw[dif_pos ⟨r,n,h⟩];grind
def AEj{P:Program}{hs:FuncId→List Hint}{n:Nat}{F:FuncId}{ds rs:List Ty}{f:(DL ds→Option (DL rs))→DL ds→Option (DL rs)}(b: ∀c∈d,c.Ok P)
  (e: ∀g x,f g x=zy P (.c0 F ds rs g::d) hs n F ds rs x):(RE.c0 F ds rs (rj f)).Ok P:=by
 have key: ∀m,(RE.c0 F ds rs (nB f m)).Ok P:=by
  intro m;induction m with
  |zero=>intro x y a;cases a
  |succ m i=>exact AAJ (cs:=.c0 F ds rs (nB f m)::d) (A7 i b) λx=>e (nB f m) x
 intro x y a;obtain⟨m,h⟩:=j9 a;exact key m x y h
def AHl(P:Program)(fn:Func)(te:Ty)(rs:List Ty):Exit->Bd->Ar->Option (DL (rs++[.list te])):=λe env H=>
 match xP e with
 |true=>
  match mH P env H fn.results.toList with
  |some vs0=>
   match IK ((pF vs0).filter λi=>!Nat.beq i 0) env H with
   |(ef,hf)=>
    match mH P ef hf fn.results.toList,(hf[0]? :Option Dt)with
    |some vs,some (.buf _ t l _ _)=>if h:(Ty.list t).beq (Ty.list te)=true then(match inp rs vs with|some y=>some (sL (.list te) rs y (Ty.cast h l))|none=>none)else none
    |_,_=>none
  |none=>none
 |false=>none
def fnC:Aa->Bool
 | .fn (.func _) [] []=>true
 |_=>false
def we(te:Ty)(ds:List Ty)(post:List Aa)(l:List te.D)(x:DL ds):List TV:=.c (.own 0 0 te l.length)::(wQ ds x++post.map λv=>.c (.raw v))
noncomputable def ACW(P:Program)(cs:List RE)(hs:FuncId->List Hint)(n:Nat)(F:FuncId)(te:Ty)(ds rs:List Ty)(post:List Aa)(l:List te.D)(x:DL ds):Option (DL (rs++[.list te])):=
 match P.funcs[F]? with
 |some fn=>
  match fn.body with
  |some c=>
   match Nat.ble (we te ds post l x).length fn.ntmps&&post.all fnC with
   |true=>mN P cs (pS P cs hs n) fn.ntmps F (hs F) c (cH 0 (we te ds post l x)) [.buf false te l l.length 0] (AHl P fn te rs)
   |false=>none
  |none=>none
 |none=>none
theorem AGl(h:fnC j=true): ∃F,j= .fn (.func F) [] []:=by unfold fnC at h;grind
def ACv(h:fnC j=true):Pure j:=by obtain⟨F,rfl⟩:=AGl h;rfl
variable {P:Program} {cs:List RE} {hs:FuncId->List Hint} {n:Nat} {F:FuncId} {ds rs:List Ty} {te:Ty} {post:List Aa}
def AA2(l:List te.D)(x:DL ds):(we te ds post l x).map TV.enc= .sl 0 l.length te.sz 0 l.length::(lU ds x++post):=by
 have e:(post.map λv=>TV.c (.raw v)).map TV.enc=post:=by
  rw[Ml];conv=>rhs;rw[<-dX post]
  exact Mk λv _=>rfl
 simp only[we,Bl,Ki,ZY,e];rfl
theorem Qz{g:List te.D->DL ds->Option (DL (rs++[.list te]))}(t: ∀c∈cs,c.Ok P)(hg: ∀l x,g l x=ACW P cs hs n F te ds rs post l x):(RE.c2 F te ds rs post g).Ok P:=by
 intro l x y k d H id C;rw[hg]at k;have key: ∃r m,y=sL (.list te) rs r m/\(∀v∈post,Pure v)/\Ek P F (.sl 0 l.length te.sz 0 l.length::(lU ds x++post)) [.live l.length (te.E.cl l)] (DX (pB (lU rs r)) [.live m.length (te.E.cl m)]):=by
  unfold ACW at k;split at k;rename_i fn hf;split at k;rename_i c hb;split at k;rename_i hn;simp only[BY]at hn;have b: ∀v∈post,Pure v:=λv a=>ACv (GA.1 hn.2 v a);have w:([Dt.buf false te l l.length 0]:Ar)[0]? =some (.buf false te l l.length 0):=rfl;have K:PA (cH 0 (we te ds post l x)) [.buf false te l l.length 0]:=by refine⟨iz λv a=>?_,λe B=>?_⟩;rcases Aw.1 a with rfl|a;exact Jt (Xe w);rcases An.1 a with a|a;grind[mL];obtain⟨u,_,rfl⟩:=Br.1 a;exact Jt trivial;rw[A6.1 B];exact rfl
  obtain⟨e,s,W,a1,k1,L,U⟩:=pJ (N:=fn.ntmps) t (il t n) F (hs F) c _ _ _ y K k;unfold AHl at k1;split at k1;rename_i B;split at k1;rename_i O ad;generalize T:((pF O).filter _)=ids at k1;obtain⟨o,M,Q⟩:=Q3 ids L;generalize IK ids s W=fz at k1 o M Q;obtain⟨ef,hh⟩:=fz;simp only at k1 o M Q;split at k1;rename_i vs X q l1 J V a R;split at k1;rename_i z;split at k1;rename_i r hr;injection k1 with k1;have i:=Ty.beq_eq _ _ z;injection i with i;subst i;have p:(Ty.cast z l1:List q.D)=l1:=rfl;rw[p]at k1;have I:J=l1.length:=o.heap _ (BN R);refine⟨r,l1,k1.symm,b,?_⟩;have Y:BK [.buf false q l l.length 0]=[.live l.length (q.E.cl l)]:=rfl;have Z:BK [.buf false q l1 J V]=[.live l1.length (q.E.cl l1)]:=by rw[<-I];rfl
  rw[<-Y,<-Z,<-AA2];apply J1 hf hb (by rw[CA];exact OZ hn.1);rw[<-cI];refine Lh.after (a1.awp.mono ?_);rintro _ _ _ ⟨rfl,rfl,rfl⟩;have G:1<=hh.length:=Dh U.step.len M.step.len;refine⟨_,_,(Q _).of_le (by rw[Cf,Cf];exact U.step.len),AGi B o a ?_⟩;rw[Cf];refine tD (H2:=[.buf false q l1 J V]) G (λj e' _ h=>?_) rfl (WO (YU hr)) (Xd (PC rs r));match j,h with
  |0,h=>simp only[jn,Ao]at h;subst h;exact⟨_,R,.inr (.inr (.inl ⟨_,_,_,_,_,_,_,rfl,rfl⟩))⟩
  |j+1,h=>simp at h
  cases k1;cases k1;cases k1;cases k1;cases k1;cases k;cases k;cases k
 obtain⟨r,m,rfl,b,key⟩:=key;rw[gI]at d⊢;simp only at d⊢;rw[<-d];rw[<-d]at C key;have f: ∀v∈lU ds x++post,Pure v:=λv a=>(An.1 a).elim (PC ds x v) (b v);have ha:Aa.renL (λj=>[id].getD j 0) (.sl 0 m.length te.sz 0 m.length::(lU ds x++post))= .sl id m.length te.sz 0 m.length::(lU ds x++post):=by simp only[Aa.renL,pC f];rfl
 exact Ek.frame (H:=H) [id] key (Gk.2 ⟨k!,QG⟩) rfl rfl (λj X e A S=>by
   match j,A,S with
   |0,A,S=>grind[List.getElem?_cons_zero,Option.some.injEq]
   |j+1,A,_=>simp at A) (λe h=>by
   rw[A6.1 h];exact(Dr _ _).2 (vO te l)) (λe h=>by
   rw[A6.1 h];exact(Dr _ _).2 (vO te m)) (Xd (PC rs r)) ha ((Dr _ _).2 λv a=>by
   rcases Aw.1 a with rfl|a;rfl;exact(f v a).all _)
def rR{f:(List te.D×DL ds→Option (DL (rs++[.list te])))→List te.D×DL ds→Option (DL (rs++[.list te]))}(a: ∀c∈cs,c.Ok P)
  (d: ∀g l x,f g (l,x)=ACW P (.c2 F te ds rs post (λl x=>g (l,x))::cs) hs n F te ds rs post l x):(RE.c2 F te ds rs post λl x=>rj f (l,x)).Ok P:=by
 have key: ∀m,(RE.c2 F te ds rs post λl x=>nB f m (l,x)).Ok P:=by
  intro m;induction m with
  |zero=>intro l x y b;cases b
  |succ m h=>exact Qz (cs:=.c2 F te ds rs post (λl x=>nB f m (l,x))::cs) (A7 h a) λl x=>d (nB f m) l x
 intro l x y b;obtain⟨m,e⟩:=j9 b;exact key m l x y e
end Go.Ab
namespace Go.Ab
def clW(fn:Func):Nat->String:=λi=>
 match fn.body with
 |some (.seq (.region _ a _) (.seq (.seq (.region _ b _) (.cond _ (.seq (.region _ c _) _) _)) (.seq (.region _ d _) _)))=>(((a++b++c++d)[i]?).map (·.pos)).getD default
 |_=>default
def AA9(t b:TypeId)(w:Nat->String):Code:=
 .seq (.region 0 #[⟨some 2,.assign (.const (.slice none 0 0)),t,w 0, #[],none⟩] false)
  (.seq (.seq (.region 1 #[⟨some 3,.move (.tmp 0),t,w 1, #[],none⟩,⟨some 4,.binOp .eql t (.tmp 3) (.const (.slice none 0 0)) t,b,w 2, #[⟨0,.data⟩],none⟩] false)
    (.cond (.tmp 4) (.seq (.region 2 #[⟨some 2,.assign (.const (.slice none 0 0)),t,w 3, #[],none⟩] false) .ret) .skip))
   (.seq (.region 3 #[⟨some 5,.buildSlice t 0 #[],t,w 4, #[],none⟩,⟨some 6,.move (.tmp 0),t,w 5, #[],none⟩,
     ⟨some 7,.call {callee:=.builtin .append,args:= #[.tmp 5,.tmp 6],argTypes:= #[t,t]},t,w 6, #[⟨0,.data⟩,⟨1,.data⟩],none⟩,
     ⟨some 2,.assign (.tmp 7),t,w 7, #[⟨2,.data⟩,⟨2,.chain⟩,⟨0,.phase⟩,⟨1,.phase⟩,⟨2,.phase⟩],none⟩] false) .ret))
def OR.none{n0:Nat}{H:A1}{id g sz off:Nat}(hn:n0<=H.length)(b:id<H.length)(k:0<sz):OR n0 (.sl id g sz off 0) H (.vs sz []) (H.set id .dead):=by
 refine⟨by simpa using hn,λX h w c s r=>?_⟩;obtain⟨p,t⟩:=s.kill b;refine⟨h,p,?_,λ_ _=>⟨rfl,rfl,rfl⟩,λB o=>?_⟩;cases r with
 |sl l m n q=>obtain⟨a,cap,rfl⟩:=n;exact Bx.vs (rows:=[]) (λ_ _=>undef) (Be _) k (λj e h=>by simp at h) (λh=>(h rfl).elim) (λj e i v h=>by simp at h)
 obtain⟨i,e,l,d,m⟩:=o;rcases JI b l with⟨_,f⟩|⟨rfl,rfl⟩;exact⟨i,e,f,d,m⟩;exact(d rfl).elim
variable {N n v:Nat}{R:Type}{d:List RE}{F:FuncId}{P:Program}{p:Ty}{K:Int}
theorem ACa{P:Program}{F:FuncId}{t b:TypeId}{a:Ty}(p:(P.funcs[F]?).map (λy=>(y.body,y.ntmps,y.results))=some (some (AA9 t b (((P.funcs[F]?).map clW).getD (λ_=>default))),8, #[.tmp 2]))(J:elT P t=some a)(k:gD 0 a #[] []=true):(RE.cl F a).Ok P:=by
 generalize ((P.funcs[F]?).map clW).getD (λ_=>default)=w at p;obtain⟨y,U,C⟩:=Sw.1 p;injection C with R C;injection C with hn hr;intro l H V;obtain⟨e,B,x⟩:=iu J;have K:=(QN B).1;have A: ∀env,Sd P env t 0 #[]=some (a.sz,[]):=by intro env;unfold Sd;simp only[B];refine if_pos ⟨a.sz_pos,x,rfl,rfl,Be _,?_⟩;unfold gD at k;simp only[BY]at k;exact OZ k.2
 have i: ∀Q:Aa→A1→Prop,(l=[]→Q (.vs a.sz []) (BK (H++[.dead])))→(∀r,l≠ []→app [] l=some r→Q (.sl H.length r.length a.sz 0 r.length) (BK (H++[.buf false a r r.length 0])))→
   (l=[]\/ ∃r,app [] l=some r)->Ek P F [.vs a.sz (l.map a.enc)] (BK H) Q:=by
  intro Q M N f;refine J1 U R (by rw[hn];simp) ?_;rw[hn];refine Lh.seq (Fs rfl (WJ.cons rfl (Dq (v:=.nils) rfl (WJ.nil (Lh.seq (Lh.seq (Fs rfl (WJ.cons rfl (Dq (v:=.vs a.sz (l.map a.enc)) rfl (WJ.cons rfl (rk (sz:=a.sz) (rows:=l.map a.enc) rfl K rfl λL T=>WJ.nil ?_)))))))))));have o:L=true->l=[]:=λh=>by by_cases j:l=[]<;>simp_all
  have d:(BK H++[Fl.live 0 []]).set (BK H).length Fl.dead=BK (H++[.dead]):=by simp_all[Sr,Ap,Gl,BK,Dt.enc]
  refine Lh.cond (b:=L) rfl (λz=>?_) (λS=>?_);refine Lh.seq (Fs rfl (WJ.cons rfl (Dq (v:=.nils) rfl (WJ.nil (Lh.weak (GD.virt (t:=2) (sz:=a.sz) rfl) (Lh.ret (⟨.sl (BK H).length 0 a.sz 0 0,.vs a.sz [],(BK H++[Fl.live 0 []]).set (BK H).length Fl.dead,by simp[gU,hr,Sk,mI,Env.putO,Env.put,Env.get],OR.none (by simp) (by simp) a.sz_pos,?_⟩)))))));rw[d];exact M (o z);refine Lh.skip (Lh.seq (Fs rfl (WJ.cons rfl (TY (sz:=a.sz) (vs:=[]) rfl (A _) (WJ.cons rfl (Dq (v:=.vs a.sz (l.map a.enc)) rfl (WJ.cons rfl ?_)))))));have I:Jr (BK H++[Fl.live 0 []]) a.sz (.vs a.sz (l.map a.enc))=some (l.length,a.E.cl l):=by simp only[Jr,if_true,CA];rfl
  have s:0+l.length<=16777216:=by rcases f with rfl|⟨r,hr⟩;simp;obtain⟨N,_⟩:=mV hr;simpa using N
  refine Rl (sx:=.tmp 5) (xx:=.tmp 6) (H:=BK H++[Fl.live 0 []]) (id:=(BK H).length) (g:=0) (g':=l.length) (n:=0) (cs:=[]) (m:=l.length) (news:=a.E.cl l) rfl B a.sz_pos x rfl (by simp) (by simp) I s (by rcases VU l.length with q|q;exact .inr ⟨q,q⟩;exact .inl q) ?_;refine WJ.cons rfl (Dq (v:=.sl (BK H).length l.length a.sz 0 (0+l.length)) rfl (WJ.nil (Lh.ret ?_)));have O:(BK H++[Fl.live 0 []]).set (BK H).length (.live l.length ([]++a.E.cl l))=BK (H++[.buf false a l l.length 0]):=by simp_all[Sr,Ap,Gl,BK,Dt.enc]
  by_cases j:l=[];subst j;refine⟨.sl (BK H).length 0 a.sz 0 0,.vs a.sz [],(BK H++[Fl.live 0 []]).set (BK H).length Fl.dead,by simp[gU,hr,Sk,mI,Env.putO,Env.put,Env.get],?_,?_⟩;have:=OR.none (n0:=(BK H).length) (H:=BK H++[Fl.live 0 []]) (id:=(BK H).length) (g:=0) (off:=0) (by simp) (by simp) a.sz_pos;have e:(BK H++[Fl.live 0 []]).set (BK H).length (.live ([]:List a.D).length ([]++a.E.cl []))=BK H++[Fl.live 0 []]:=by rw[Sr _ _ (Ap _),Gl];rfl
  rw[e];exact this;rw[d];exact M rfl;rcases f with h|⟨r,c⟩;exact(j h).elim;obtain⟨_,G⟩:=mV c;have u:l=r:=by simpa using G.symm
  subst u;refine⟨.sl (BK H).length l.length a.sz 0 l.length,_,_,by simp[gU,hr,Sk,mI,Env.putO,Env.put,Env.get],OR.refl _ _ (by simp),?_⟩;grind[Cf]
 refine⟨λj=>?_,λr j hr=>?_⟩;subst j;exact i _ (λ_=>⟨rfl,rfl⟩) (λr h=>(h rfl).elim) (.inl rfl);exact i _ (λh=>(j h).elim) (λW _ c=>by rw[hr]at c;injection c with c;subst c;exact⟨rfl,rfl⟩) (.inr ⟨r,hr⟩)
abbrev i64:Ty:=.int .i64
abbrev hn(k i:Nat)(s:List Sm)(e:List (Exit×List Sm)):Hint:=⟨k,i,[],[],[],[],s,e⟩
def k0{P:Program}{a e:List Ty}{g:DL a→Option (DL e)}(l:List (Nat×List Hint))(b: ∀c∈d,c.Ok P)
  (f:g=λx=>zy P d (fu l) 13 F a e x:=by kernel_rfl):(RE.c0 F a e g).Ok P:=AAJ b λx=>congrFun f x
def k1{P:Program}{h:List RE}{a:Ty}{d f:List Ty}{g:a.D→DL d→Option (DL (f++[a]))}(l:List (Nat×List Hint))(e: ∀c∈h,c.Ok P)
  (i:g=λb x=>ACV P h (fu l) 13 F N a d f b x:=by kernel_rfl):(RE.c1 F N a d f g).Ok P:=AEh e λb x=>congrFun (congrFun i b) x
noncomputable def yC{α:Type}(key:α->Int)(l:List α):Option (List α):=if(l.map key).Nodup/\l.length<=16777216 then some (l.mergeSort λa b=>decide (key a<=key b))else none
def tG{key:R->Int}{l m:List R}(hn:(l.map key).Nodup)(p:m.Perm l)(t:m.Pairwise λa b=>key a<=key b):m=l.mergeSort λa b=>decide (key a<=key b):=by
 have d:(l.mergeSort λa b=>decide (key a<=key b)).Perm l:=List.mergeSort_perm _ _;have o:(l.mergeSort λa b=>decide (key a<=key b)).Pairwise λa b=>key a<=key b:=by refine(List.pairwise_mergeSort (le:=λa b=>decide (key a<=key b)) ?_ ?_ l).imp λh=>of_decide_eq_true h;intro a b c d o;simp only[decide_eq_true_eq]at*;omega;intro a b;simp only[XV,decide_eq_true_eq];omega
 refine tz (le:=λa b=>key a<=key b) ?_ t o (p.trans d.symm);intro a b r s q1 q2;have e:key a=key b:=o!
 have f:=p.subset r;have g:=d.subset s;obtain⟨i,k⟩:=Dn f;obtain⟨j,n⟩:=Dn g;have:=(List.getElem?_inj (l:=l.map key) (i:=i) (j:=j) (by rw[CA];exact(HJ.1 k).1) hn).1 (by simp[k,n,e]);subst this;rw[k]at n;exact Bf n
theorem w64(h: -9223372036854775808<=K/\K<=9223372036854775807):IntKind.wrap .i64 K=K:=by grind[IntKind.wrap_i64]
def ABS{S:Type}{body:S->Option (Step S R)}(I:S->Prop)(Q:R->Prop)(b:S->Nat)(i: ∀s,I s->(∃r,body s=some (.done r)/\Q r)\/ ∃a,body s=some (.next a)/\I a/\b a<b s){s:S}(h:I s): ∃r,Ah body s=some r/\Q r:=by
 have key: ∀(n:Nat) (s:S),b s<n->I s-> ∃r,Ah body s=some r/\Q r:=by
  intro n;induction n with
  |zero=>intro s j;omega
  |succ n k=>intro s j g;rcases i s g with⟨r,c,d⟩|⟨a,c,d,l⟩;exact⟨r,by rw[IB,c],d⟩;obtain⟨r,e,f⟩:=k a o! d;exact⟨r,by rw[IB,c];exact e,f⟩
 exact key (b s+1) s o! h
theorem AE0{l:List R}{x:R}(h:l[N]? =some x):ix l (N:Int)=some x:=by unfold ix;grind[Int.toNat_natCast]
def AHt{l:List R}(a:0<=K)(c:K<l.length): ∃x,ix l K=some x/\l[K.toNat]? =some x:=by
 obtain⟨n,rfl⟩:=EY a;have hn:n<l.length:=o!
 exact⟨l[n],AE0 (Av hn),by simp[hn]⟩
def AGU{l a:List R}(h:l.length+a.length<=16777216):app l a=some (l++a):=if_pos h
theorem AER(a:HA n R)(h:N<n):Gj a (N:Int)=some (a ⟨N,h⟩):=by grind[Gj]
end Go.Ab
