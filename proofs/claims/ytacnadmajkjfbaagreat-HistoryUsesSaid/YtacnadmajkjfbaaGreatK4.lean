/- A layer over the model in which values are trees: its laws and a typed interpreter, part 4. Texts of the folder wip, laid in few files with shorter names by a program (wip/tools/pack.py); nothing is assumed. -/
import Derived.Test.YtacnadmajkjfbaaGreatK3
import Derived.KernelRfl
import Derived.ProofKit
noncomputable section
set_option linter.unusedVariables false
set_option linter.unusedSimpArgs false
set_option linter.unusedSectionVars false
set_option linter.defProp false
set_option linter.unnecessarySimpa false
set_option linter.deprecated false
namespace Go.Ab
def isLen:Op->Bool
 | .call {callee:=.builtin .len,.. }=>true
 | .move _=>true
 | .assign _=>true
 | .extract _ _=>true
 |_=>false
def rdT(env:BS)(op:Op):List Nat:=match isLen op with|true=>[]|false=>op.operands.toList.flatMap λx=>zX (Iu env x)
def UI(o:Oper)(env:BS):BS:=(Tq o).filterMap λt=>match env.get t with| .c (.raw .any)=>none|v=>some (t,v)
def eC(ids:List Nat):Nat->An->List Nat
 |_,[]=>[]
 |j,.live false cs::r=>match (KM cs).any λi=>Ni i ids with|true=>j::eC ids (j+1) r|false=>eC ids (j+1) r
 |j,_::r=>eC ids (j+1) r
variable {N n y:Nat}{a z:List Nat}{R L:Type}{b A:An}{c:List Su}{d G:Code}{e:List Oper}{F:FuncId}{f I M:BS}{P:Program}{g:List AV}{i:AV}{j:Bool}{k:RW}{m K:TypeId}{p:Ty}{q:Int}{t:List TV}{u:Env}{v:World}{w:TV}{x:Exit}{C:Dn}{D:Bc}{E:Operand}{o:Oper}{J:Func}
section
variable {R:Type}
def quD(P:Program)(env:BS)(H:An)(op:Op)(k:TV->Option R):Option R:=
 match op with
 | .buildSlice t len parts=>kC P env t len parts k
 |op=>zx P env H op k
def w9(P:Program)(cs:List Su)(call:RW)(env:BS)(H:An)(op:Op)(k:TV->An->Option R):Option R:=
 match op with
 | .box _ x=>yv H (Iu env x) k
 | .store t a v=>storeT P H t (Iu env a) (Iu env v) k
 | .makeSlice t x y=>bp P H t (Iu env x) (Iu env y) k
 | .buildSlice t len parts=>W5 P env H t len parts k
 | .call c=>
  match eQ env (.call c)with
  |some (F,vs)=>
   match Z8 P F with
   |true=>
    match kP cs F with
    |some ct=>uD ct vs H k
    |none=>match isNil vs with|true=>call (.fn F) [] (H.map Dn.lock) λv H'=>k v (Tv H H')|false=>call (.fn F) vs H k
   |false=>none
  |none=>
   match nE env c with
   |some (id,vs)=>call (.yd id) vs H k
   |none=>
    match c with
    |{callee:=.builtin .append,args:=⟨[s,x]⟩,argTypes:=⟨[t,t']⟩}=>match Nat.beq t t' with|true=>lG P H t (Iu env s) (Iu env x) k|false=>none
    |_=>none
 |_=>none
def AB7(P:Program)(cs:List Su)(call:RW)(env:BS)(H:An)(op:Op)(k:TV->An->Option R):Option R:=
 match H6 (fX cs env H op) env H with
 |(ef,hf)=>w9 P cs call ef hf op k
def qa(cs:List Su)(env:BS)(H:An)(op:Op):List Nat:=
 match fX cs env H op with
 |[]=>pI cs env H op
 |ids=>ids++eC ids 0 H++(match H6 ids env H with|(ef,hf)=>pI cs ef hf op)
def ACF:Op->Bool
 | .buildSlice .. =>true
 |_=>false
def tX(P:Program)(cs:List Su)(call:RW)(ops:Array Oper)(m:List Nat)(gs:List Nat)(ow:Bool):List Nat->List (Nat×List Nat)->BS->An->(BS->An->Option R)->Option R
 |[],_,env,H,k=>k env H
 |i::r,pend,env,H,k=>
  match ops[i]? with
  |none=>none
  |some o=>
   match o.op with
   | .alloc t=>
    match nF P t with
    |some z=>
     match o.guard.isNone&&r.all (λj=>OP m i j||Hs ops j)with
     |true=>tX P cs call ops m gs ow r pend (env.putO o.dst (.c (.raw (.ptr H.length 0 0)))) (H++[.live false z]) k
     |false=>none
    |none=>none
   |op=>
    match bk ops o.guard env with
    |some false=>tX P cs call ops m gs ow r ((i,[])::pend) (env.putO o.dst (.tup [])) H k
    |some true=>
     match dq op&& !(ow&&ACF op)with
     |true=>
      match (rdT env op).all λid=>Nat.blt id H.length with
      |true=>quD P env H op λv=>force (Ni i gs) v λv'=>tX P cs call ops m gs ow r ((i,rdT env op)::pend) (env.putO o.dst v') H k
      |false=>none
     |false=>
      match r.all (λj=>OP m i j||Hs ops j)&&pend.all (λp=>OP m p.1 i||p.2.all λid=>!Ni id (qa cs (UI o env) H op))with
      |true=>AB7 P cs call (UI o env) H op λv H'=>force (Ni i gs) v λv'=>tX P cs call ops m gs ow r pend (env.putO o.dst v') H' k
      |false=>none
    |none=>none
variable {P:Program} {N:Nat} {o:Oper} {env:BS} {H:An} {r:R}
theorem uj(env:BS)(a:Op)(h:isLen a=false):vg (Bt env) a=rdT env a:=by grind[vg,rdT,KU,zY]
theorem fP.len{env:Env}{H:As}{v:AV}(b:isLen o.op=true)(e:CQ P env H o.op=some v):fP P N o env H [] v:=by
 intro c f d _;refine Da (v:=v) ?_ ⟨rfl,rfl⟩;rw[oZ (bB d),<-e];generalize o.op=op at b;unfold isLen at b;split at b;rename_i args a;obtain⟨args⟩:=args;obtain⟨a⟩:=a;match args,a with
 |[x],[t]=>rfl
 |[],_=>rfl
 |_::_::_,_=>rfl
 |[_],[]=>rfl
 |[_],_::_::_=>rfl
 rfl;rfl;rfl;cases b
theorem ve{k:TV->Option R}(ok:PB env H)(h:quD P env H o.op k=some r): ∃v,fP P N o (Bt env) (A6 H) (rdT env o.op) v.enc/\k v=some r/\v.ok H:=by
 have n:zx P env H o.op k=some r-> ∃v,fP P N o (Bt env) (A6 H) (rdT env o.op) v.enc/\k v=some r/\v.ok H:=λh=>by
  obtain⟨v,f,i,j⟩:=od ok h;refine⟨v,?_,i,j⟩;cases z:isLen o.op with
  |true=>grind[rdT,fP.len]
  |false=>rw[<-uj _ _ z];exact Uj f
 generalize b:o.op=op at h;unfold quD at h;split at h;rename_i t len a;unfold kC at h;split at h;rename_i q l;split at h;rename_i e;split at h;rename_i F d;have E:=mq l e;refine⟨_,?_,h,JW trivial⟩;rw[<-b,<-uj _ _ (by rw[b];rfl)];have y:pG P (Bt env) (A6 H) o.op=some (.vs q.sz ((a.toList.map λp=>Iu env p.2).map TV.enc)):=by grind[pG]
 have A:=dh (N:=N) y;intro x m f i;have j:=A x m f i;refine Is.after (v:=.vs q.sz ((a.toList.map λp:Nat×Operand=>Iu env p.2).map TV.enc)) (H1:=m) j λX g w s=>⟨R6.refl _ _,λc D=>AAP (gF d) (dZ d) (λv C=>?_) _ _ D⟩
 unfold bv at e;simp only[BT]at e;obtain⟨u,B,rfl⟩:=Bi.1 C;have:=Fy.1 e.1.1.2 u B;split at this;simp_all[WO,Z5];cases this;cases h;cases h;cases h;grind
theorem vH{b:Op}{a:TV->An->Option R}(h:w9 P c k env H b a=some r):qe P c k env H b a=some r:=by unfold w9 at h;unfold qe;split at h<;>grind
theorem oV{p:Nat×TV}(h:p∈UI o f):p.1∈Tq o/\p.2=f.get p.1/\p.2≠ .c (.raw .any):=by obtain⟨t,b,a⟩:=L7.1 h;grind
theorem zQ(h:w.enc= .any):w= .c (.raw .any):=by
 cases w with
 |c x=>
  cases x with
  |ar n t a=>cases h
  |_=>grind[TV.enc,Bc.one]
 |_=>simp[TV.enc]at h
theorem fV{t:Nat}: ∀{l:BS},(∀p∈l,p.1≠t)->BS.get l t=S4
 |[],_=>rfl
 |(k,u)::r,h=>by simp only[BS.get,beq_false (h (k,u) (by simp))];exact fV λp a=>h p (by simp[a])
theorem oP{j:Nat}: ∀{l:List Nat},j∈l->Ni j l=true
 |i::r,h=>by simp only[Ni];rcases Am.1 h with rfl|h;rw[GC];rw[oP h];split<;>rfl
def AAT(ids:List Nat)(H:An)(j:Nat):Prop:= ∀cs,H[j]? =some (.live false cs)-> ∀i∈KM cs,i∉ids
theorem kZ{ids:List Nat}: ∀{H:An} {i j:Nat},i+j∉eC ids i H->AAT ids H j
 |e::r,i,0,hn,c,h=>by grind[eC,oP]
 |e::r,i,j+1,hn,c,h=>by
  have d:(i+1)+j∉eC ids (i+1) r:=by
   have f:i+1+j=i+(j+1):=by omega
   rw[f];intro a;apply hn;cases e with
   |live b c=>cases b<;>grind[eC]
   |dead=>exact a
   |buf=>exact a
   |lp=>exact a
   |mp=>exact a
  exact kZ (ids:=ids) d c h
def gQ{id b:Nat}{t:Ty}{l:List t.D}: ∀{a:List Bc},id∉KM a->a.map (Mi id b t l)=a
 |[],_=>rfl
 |x::r,h=>by
  cases x with
  |own d c e n=>simp only[KM,Am,not_or]at h;simp only[Bb,Mi,beq_false h.1,eM,gQ h.2]
  |_=>simp only[KM]at h;simp only[Bb,Mi,gQ h]
def bD: ∀(a:List Nat) {env:BS} {H:An} {j:Nat},j∉a->AAT a H j->(H6 a env H).2[j]? =H[j]?
 |[],_,_,_,_,_=>rfl
 |id::r,env,H,j,hj,hn=>by
  simp at hj;simp only[H6];split;rename_i e h d;have m:h[j]? =H[j]? :=by
   unfold frz at d;split at d;rename_i t l n q s;simp at d;rw[<-d.2,D3 (λe=>hj.1 e.symm),CL];cases p:H[j]? with
   |none=>rfl
   |some o=>
    simp;cases o with
    |live b c=>
     cases b with
     |false=>simp only[PO];rw[gQ λf=>hn c p id f JP]
     |true=>rfl
    |_=>rfl
   cases d
  rw[bD r hj.2 λc g i k f=>hn c (m▸g) i k (CA _ f),m];exact bD r hj.2 λc g i k f=>hn c g i k (CA _ f)
theorem sZ(l: ∀b∈c,b.Ok P)(g:Um P k){f:TV→An→Option R}(ok:PB env H)(h:AB7 P c k (UI o env) H o.op f=some r):
  ∃v d,Eff P N o (Bt env) (A6 H) (qa c (UI o env) H o.op) (DY v.enc (A6 d))/\f v d=some r/\v.ok d/\(∀e∈d,e.ok d)/\B4 H d:=by
 have n:PB (UI o env) H:=⟨λp m=>by rw[(oV m).2.1];exact jd ok.env _,ok.heap⟩
 obtain⟨s,u,A⟩:=Pv (fX c (UI o env) H o.op) n;have w:=λj=>bD (fX c (UI o env) H o.op) (env:=UI o env) (H:=H) (j:=j);have x: ∀id,id∉qa c (UI o env) H o.op->id∉pI c (H6 (fX c (UI o env) H o.op) (UI o env) H).1 (H6 (fX c (UI o env) H o.op) (UI o env) H).2 o.op/\(H6 (fX c (UI o env) H o.op) (UI o env) H).2[id]? =H[id]? :=by intro id a;unfold qa at a;split at a;rename_i z;rw[z];exact⟨a,rfl⟩;simp only[Ap,not_or]at a;refine⟨a.2,w id a.1.1 (kZ (i:=0) (by grind))⟩
 obtain⟨v,d,q1,q2,q3,q4,q5,q6⟩:=kN (N:=N) l g s (vH h);refine⟨v,d,⟨λt G=>Is.before (F4.subset λq y=>?_) (Is.before (A N) q1),?_⟩,q2,q3,q4,u.step.trans q5⟩;obtain⟨p,m,rfl⟩:=Bi.1 y;obtain⟨D,E,F⟩:=oV m;grind[SV,M6,zQ];rintro _ _ ⟨rfl,rfl⟩ id a hn;rw[CV]at a;obtain⟨B,C⟩:=x id hn;rw[E8,E8,q6 id (DD a u.step.len) B,C]
def R2{j:Nat}: ∀{l:List Nat},Ni j l=false->j∉l
 |i::r,h=>by simp only[Ni]at h;split at h;cases h;rename_i b;intro a;rcases Am.1 a with rfl|a;rw[GC]at b;cases b;exact R2 h a
 |[],_=>λh=>by cases h
def nL(ops:Array Oper)(l:List Nat):List Nat:=l.filterMap λi=>(ops[i]?).bind (·.dst)
theorem WL{L:List Su}(u: ∀c∈L,c.Ok P){w:RW}(s:Um P w){b:Array Oper}{X:List Nat}{ow:Bool}: ∀(l:List Nat) (n:List (Nat×List Nat)) (env:BS) (H:An) (k:BS→An→Option R) (r:R),PB env H→
  tX P L w b (H4 b.toList []) X ow l n env H k=some r->
  ∃a q,RA P N b l n (Bt env) (A6 H) (λe h=>e=Bt a/\h=A6 q)/\k a q=some r/\PB a q/\E4 (nL b l) env H a q
 |[],n,env,H,k,r,ok,h=>⟨env,H,⟨rfl,rfl⟩,h,ok,E4.refl _ _ _⟩
 |i::l,n,env,H,k,r,ok,h=>by
  simp only[tX]at h;simp only[RA];cases J:b[i]? with
  |none=>rw[J]at h;cases h
  |some o=>
   rw[J]at h;simp only at h⊢;have m: ∀{e:BS} {h:An} {v:TV},E4 (nL b [i]) e h (e.putO o.dst v) h:=by
    intro e h v;refine⟨B4.refl h,λt T _=>?_⟩;cases hd:o.dst with
    |none=>rfl
    |some d=>refine iZ λe=>T ?_;simp[nL,J,hd,e]
   have g: ∀t,t∈nL b [i]++nL b l->t∈nL b (i::l):=by grind[nL]
   split at h;rename_i t Q;split at h;rename_i z hz;split at h;rename_i F;simp only[BT]at F;obtain⟨z1,z2⟩:=WS hz;have I:=B4.push H (.live false z);have f:PB (env.putO o.dst (.c (.raw (.ptr H.length 0 0)))) (H++[.live false z]):=⟨bw (I.env ok.env) (JW trivial),Od ok.heap (z2 _)⟩
   obtain⟨a,q,x,C,D,E⟩:=WL u s l _ _ _ _ _ f h;have G:o.guard=none:=by simpa using F.1
   refine⟨a,q,?_,C,D,?_⟩;rw[G];refine .inr (.inr ⟨t,lvs z,Q,z1,λj V=>?_,?_⟩);grind[List.all_eq_true];have M:Bt (env.putO o.dst (.c (.raw (.ptr H.length 0 0))))=(Bt env).putO o.dst (.ptr (A6 H).length 0 0):=by rw[VQ,CV];rfl
   have W:A6 (H++[.live false z])=A6 H++[.live 0 (lvs z)]:=Pt _ _;rw[M,W]at x;exact x;have U:E4 (nL b [i]) env H (env.putO o.dst (.c (.raw (.ptr H.length 0 0)))) (H++[.live false z]):=⟨I,(m (h:=H)).same⟩
   exact(E4.trans ok.env U E).mono g;cases h;cases h;rename_i O;have y:Hs b i=false:=by
    cases Z:Hs b i with
    |false=>rfl
    |true=>obtain⟨t,T⟩:=(UG J).1 Z;exact(O t T).elim
   split at h;rename_i G;have f:PB (env.putO o.dst (.tup [])) H:=⟨bw ok.env (Px λv hv=>by cases hv),ok.heap⟩
   obtain⟨a,q,x,C,D,E⟩:=WL u s l _ _ _ _ _ f h;have M:(Bt env).putO o.dst (.tup [])=Bt (env.putO o.dst (.tup [])):=by rw[VQ];rfl
   exact⟨a,q,iN G ⟨y,by rw[M];exact x⟩,C,D,(E4.trans ok.env m E).mono g⟩;rename_i G;split at h;split at h;rename_i S;obtain⟨v,q1,q2,q3⟩:=ve (N:=N) ok h;have B:=gJ q2;have f:PB (env.putO o.dst v) H:=⟨bw ok.env q3,ok.heap⟩
   obtain⟨a,q,x,C,D,E⟩:=WL u s l _ _ _ _ _ f B;refine⟨a,q,dw G (.inl ⟨y,v.enc,rdT env o.op,q1,λid A=>?_,by rw[<-VQ];exact x⟩),C,D,(E4.trans ok.env m E).mono g⟩;have:=Fy.1 S id A;rw[CV];exact Nx this;cases h;split at h;rename_i F;simp only[BT]at F;obtain⟨v,K,q1,q2,q3,q4,q5⟩:=sZ (N:=N) u s ok h;have B:=gJ q2;have f:PB (env.putO o.dst v) K:=⟨bw (q5.env ok.env) q3,q4⟩
   obtain⟨a,q,x,C,D,E⟩:=WL u s l _ _ _ _ _ f B;refine⟨a,q,dw G (.inr (.inl ⟨y,qa L (UI o env) H o.op,λj V=>by simpa using List.all_eq_true.1 F.1 j V,λp hp=>?_,DY v.enc (A6 K),q1,?_,?_⟩)),C,D,?_⟩;have:=Fy.1 F.2 p hp;simp only[Yc,Fy,VI]at this;exact this.imp id λY id A=>R2 (Y id A);rintro _ _ ⟨rfl,rfl⟩;rw[CV,CV];exact q5.len;rintro _ _ ⟨rfl,rfl⟩;rw[<-VQ];exact x;have U:E4 (nL b [i]) env H (env.putO o.dst v) K:=⟨q5,(m (h:=H)).same⟩
   exact(E4.trans ok.env U E).mono g;cases h;cases h
end
abbrev DV:=(t:Ty)×t.D
def w8:(ts:List Ty)->DL ts->List DV
 |[],_=>[]
 |[t],x=>[⟨t,x⟩]
 |t::u::r,x=>⟨t,x.1⟩::w8 (u::r) x.2
def tA:(ts:List Ty)->List DV->Option (DL ts)
 |[],[]=>some ()
 |[t],[⟨t',x⟩]=>if h:t'.beq t=true then some (Ty.cast h x)else none
 |t::u::r,⟨t',x⟩::ds=>if h:t'.beq t=true then match tA (u::r) ds with|some y=>some (Ty.cast h x,y)|none=>none else none
 |_,_=>none
def uN{a:Ty}(h:a.beq p=true)(x:a.D):(⟨p,Ty.cast h x⟩:DV)=⟨a,x⟩:=by have e:=Ty.beq_eq a p h;subst e;rfl
theorem jl: ∀{b:List Ty} {a:List DV} {s:DL b},tA b a=some s->w8 b s=a
 |[],[],s,_=>rfl
 |[],_::_,s,h=>by cases h
 |[t],[],s,h=>by cases h
 |[t],[⟨t',x⟩],s,h=>by simp only[tA]at h;split at h;rename_i c;injection h with h;subst h;simp only[w8,uN];cases h
 |[t],_::_::_,s,h=>by simp[tA]at h
 |t::u::r,[],s,h=>by cases h
 |t::u::r,⟨t',x⟩::a,s,h=>by simp only[tA]at h;split at h;rename_i c;split at h;rename_i y d;injection h with h;subst h;simp only[w8,uN,jl d];cases h;cases h
inductive Part where
 |d (t:Ty)
 |o (id:Nat)
inductive TQ where
 |t (tmp:Nat) (ty:Ty)
 |g (tmp id:Nat)
 |p (id:Nat) (ps:List Part)
 |u (id:Nat) (ty:Ty)
 |x (id:Nat)
 |k (tmp:Nat) (v:AV)
 |y (id:Nat) (s:LS)
 |m (id:Nat) (k:IntKind) (t:Ty)
def ABg:AV->AV->Bool
 | .ptr a b c,.ptr a' b' c'=>Nat.beq a a'&&(Nat.beq b b'&&Nat.beq c c')
 | .nilp,.nilp=>true
 | .nilf,.nilf=>true
 |_,_=>false
def zy{w:AV}(h:ABg i w=true):i=w:=by unfold ABg at h;split at h<;>simp_all
def K1:List TQ->List Nat
 |[]=>[]
 | .p id _::r=>id::K1 r
 | .u id _::r=>id::K1 r
 | .x id::r=>id::K1 r
 | .y id _::r=>id::K1 r
 | .m id _ _::r=>id::K1 r
 |_::r=>K1 r
def m8:List TQ->List Nat
 |[]=>[]
 | .t tmp _::r=>tmp::m8 r
 | .g tmp _::r=>tmp::m8 r
 | .k tmp _::r=>tmp::m8 r
 |_::r=>m8 r
def ABY:List Part->List Ty
 |[]=>[]
 | .d t::r=>t::ABY r
 |_::r=>ABY r
def cD:List TQ->List Ty
 |[]=>[]
 | .t _ t::r=>t::cD r
 | .p _ ps::r=>ABY ps++cD r
 | .u _ t::r=>.list t::cD r
 | .m _ k t::r=>.list (.prod (.cons (.int k) (.one t)))::cD r
 |_::r=>cD r
def pE(H:An)(id:Nat):Bc->Bool
 | .own id' ver _ _=>match Nat.beq id id' with
  |true=>match H[id]? with|some (.buf _ _ _ _ ver')=>Nat.beq ver ver'|_=>false
  |false=>false
 |_=>false
def kH(H:An)(rest:List Nat):List Part->List Bc->Option (List DV)
 |[],[]=>some []
 | .d t::ps,cs=>
  match t.mk cs with
  |some (x,cs')=>match kH H rest ps cs' with|some ds=>some (⟨t,x⟩::ds)|none=>none
  |none=>none
 | .o id::ps,c::cs=>
  match pE H id c&& !Ni id rest with
  |true=>kH H rest ps cs
  |false=>none
 |_,_=>none
def Xv(env:BS)(H:An):List TQ->Option (List DV)
 |[]=>some []
 | .t tmp ty::r=>
  match ty.data (env.get tmp),Xv env H r with
  |some x,some ds=>some (⟨ty,x⟩::ds)
  |_,_=>none
 | .g tmp id::r=>
  match env.get tmp with
  | .c x=>match pE H id x&& !Ni id (K1 r)with|true=>Xv env H r|false=>none
  |_=>none
 | .p id ps::r=>
  match H[id]? with
  |some (.live _ cs)=>
   match kH H (id::K1 r) ps cs,Xv env H r with
   |some a,some b=>some (a++b)
   |_,_=>none
  |_=>none
 | .u id ty::r=>
  match H[id]? with
  |some (.buf _ t l _ _)=>match t.beq ty,Xv env H r with|true,some ds=>some (⟨.list t,l⟩::ds)|_,_=>none
  |_=>none
 | .x _::r=>Xv env H r
 | .k tmp v::r=>
  match env.get tmp with
  | .c (.raw w)=>match ABg v w with|true=>Xv env H r|false=>none
  |_=>none
 | .y id s::r=>
  match H[id]? with
  |some (.lp _ _ _ _ _ _ _ s')=>match s.beq s' with|true=>Xv env H r|false=>none
  |_=>none
 | .m id k t::r=>
  match H[id]? with
  |some (.mp _ k' t' es)=>match decide (k'=k)&&t'.beq t,Xv env H r with|true,some ds=>some (⟨.list (.prod (.cons (.int k') (.one t'))),es⟩::ds)|_,_=>none
  |_=>none
def mT(H:An):List Part->List DV->Option (List Bc×List DV)
 |[],ds=>some ([],ds)
 | .d _::ps,⟨t,x⟩::ds=>match mT H ps ds with|some (cs,r)=>some (t.lvs x++cs,r)|none=>none
 | .o id::ps,ds=>
  match H[id]? with
  |some (.buf _ t _ n ver)=>match mT H ps ds with|some (cs,r)=>some (.own id ver t n::cs,r)|none=>none
  |_=>none
 |_,_=>none
def Ud:List TQ->List DV->BS->An->Option (BS×An)
 |[],[],env,H=>some (env,H)
 | .t tmp _::r,⟨t,x⟩::ds,env,H=>Ud r ds ((tmp,t.tv x)::env) H
 | .g tmp id::r,ds,env,H=>
  match H[id]? with
  |some (.buf _ t _ n ver)=>Ud r ds ((tmp,.c (.own id ver t n))::env) H
  |_=>none
 | .p id ps::r,ds,env,H=>
  match H[id]? with
  |some (.live false _)=>match mT H ps ds with|some (cs,ds')=>Ud r ds' env (H.set id (.live false cs))|none=>none
  |_=>none
 | .u id _::r,⟨.list t,l⟩::ds,env,H=>
  match H[id]? with
  |some (.buf false t' _ _ ver)=>match t'.beq t with|true=>Ud r ds env (H.set id (.buf false t l l.length (ver+1)))|false=>none
  |_=>none
 | .x id::r,ds,env,H=>
  match H[id]? with
  |some e=>match e.ro||e.isLp with|false=>Ud r ds env (H.set id .dead)|true=>none
  |none=>none
 | .k tmp v::r,ds,env,H=>Ud r ds ((tmp,.c (.raw v))::env) H
 | .y id s::r,ds,env,H=>
  match H[id]? with
  |some (.lp false F n e ps a b _)=>Ud r ds env (H.set id (.lp false F n e ps a b s))
  |_=>none
 | .m id _ _::r,⟨.list (.prod (.cons (.int k) (.one t))),es⟩::ds,env,H=>
  match H[id]? with
  |some (.mp false k' t' _)=>match decide (k'=k)&&t'.beq t with|true=>Ud r ds env (H.set id (.mp false k t es))|false=>none
  |_=>none
 |_,_,_,_=>none
def AAu(e e':Dn):Prop:=e'= .dead\/(∃b cs b' cs',e= .live b cs/\e'= .live b' cs'/\DT (lvs cs) (lvs cs'))\/(∃b t l n v b' v',e= .buf b t l n v/\e'= .buf b' t l n v')\/(∃ro ro' F n env ps a b s,e= .lp ro F n env ps a b s/\e'= .lp ro' F n env ps a b s)\/(∃b b' k t es,e= .mp b k t es/\e'= .mp b' k t es)
def HR(H1 H:An)(rest:List Nat):Prop:= ∀(j:Nat) (e':Dn),Ni j rest=false->H[j]? =some e'-> ∃e,H1[j]? =some e/\AAu e e'
theorem Pw:Ni N (n::a)=false↔N≠n/\Ni N a=false:=by simp[Ni];by_cases h:N=n;simp_all;grind[beq_false]
theorem kJ(j:D.ok b)(h:pE b N D=true): ∃H t l n a,D= .own N a t n/\b[N]? =some (.buf H t l n a):=by unfold pE at h;split at h;rename_i k a t n;split at h;rename_i i;have e:=DP i;subst e;split at h;rename_i H o l m d g;have f:=DP h;subst f;have⟨rfl,rfl⟩:=(j.2 _ _ _ _ _ g).2 rfl;grind;cases h;cases h;cases h
theorem VV{b:Bool}{l:List p.D}(h:A[N]? =some (.buf b p l n y)):TO A N y p n:=by refine⟨?_,λro g e f c d=>?_⟩;grind;grind
theorem gE{q H:An}{i:List Nat}(hr:HR q H i): ∀{p:List Part} {m:List Bc} {a b j:List DV} {f:List Bc},lok q m→kH q i p m=some a→mT H p (a++b)=some (f,j)→
  j=b/\DT (lvs m) (lvs f)/\lok H f
 |[],[],a,b,j,f,ok,h,k=>by grind[kH,Option.some.injEq,mT,Prod.mk.injEq,DT.refl,zg]
 |[],_::_,a,b,j,f,ok,h,k=>by simp[kH]at h
 | .d t::p,m,a,b,j,f,ok,h,k=>by simp[kH]at h;split at h;rename_i x R z;split at h;rename_i S u;cases h;obtain⟨Q,rfl,M⟩:=t.mk_spec _ _ _ z;simp[Dp,mT]at k;split at k;rename_i E r v;obtain⟨rfl,rfl⟩:=k;have⟨q1,q2,q3⟩:=gE hr (Ie.1 ok).2 u v;refine⟨q1,?_,Ie.2 ⟨t.lvs_ok x,q3⟩⟩;rw[Gm,Gm,t.lvs_enc];exact M.append q2;cases k;cases h;cases h
 | .o id::p,c::m,a,b,j,f,ok,h,k=>by
  simp[kH]at h;split at h
  ·rename_i s;simp[BT,VI]at s;obtain⟨O,t,l,n,N,rfl,L⟩:=kJ (ok c (by simp)) s.1;simp[mT]at k;split at k
   ·rename_i P t2 l2 Z D B;split at k
    ·rename_i E r v;obtain⟨rfl,rfl⟩:=k;have⟨q1,q2,q3⟩:=gE hr (λx z=>ok x (by simp[z])) h v;have⟨e,C,w⟩:=hr id _ s.2 B;rw[L]at C;cases C;rcases w with g|⟨_,_,_,_,g,_⟩|⟨_,_,_,_,_,_,_,g,K⟩|⟨_,_,_,_,_,_,_,_,_,g,_⟩|⟨_,_,_,_,_,g,_⟩;cases g;cases g;rotate_left;cases g;cases g;injection g with T F U G V;injection K with W I X J Y;subst F G I J;refine⟨q1,?_,λy A=>?_⟩;rw[HT,HT];exact(DT.refl _).append q2;rcases Am.1 A with rfl|A;exact VV B;exact q3 y A
    cases k
   cases k
  cases h
structure IS(env1:BS)(H1:An)(slots:List TQ)(env:BS)(H:An)(env2:BS)(H2:An):Prop where
 get: ∀t,Ni t (m8 slots)=false->env2.get t=env.get t
 ok:PB env2 H2
 env: ∀p∈env2,∃v,(p.1,v)∈env1/\Un v.enc p.2.enc
 hr:HR H1 H2 []
 step:B4 H H2
 len:H2.length=H.length
 same: ∀j,Ni j (K1 slots)=false->H2[j]? =H[j]?
def eJ{t:Nat}{v:TV}: ∀{env:BS},env.get t=v->v≠S4->(t,v)∈env
 |[],h,hv=>absurd h.symm hv
 |(k,u)::r,h,hv=>by simp only[BS.get]at h;split at h;simp_all;exact CA _ (eJ h hv)
def heap_set(H:B4 b (b.set N C))(ok: ∀x∈b,x.ok b)(a:C.ok (b.set N C)): ∀x∈b.set N C,x.ok (b.set N C):=by intro x c;rcases Nv c with h|rfl;exact H.ent (ok x h);exact a
theorem HR.set{a H:An}{id:Nat}{d:Dn}(h:HR a H (id::z))(g:a[id]? =some C)(hr:AAu C d):HR a (H.set id d) z:=by intro j x f c;rw[VO]at c;split at c;grind;rename_i b;exact h j x (Pw.2 ⟨λq=>b q.symm,f⟩) c
theorem wC.set{H c:An}{id:Nat}{i:Dn}(h:wC H c)(l:id<H.length)(p: ∀ro F n env f a b s,c[id]? =some (.lp ro F n env f a b s)-> ∃g o,i= .lp g F n env f a b o):wC (H.set id i) c:=by intro j k ro F n env f a b s m;rw[Z9]at k;by_cases d:j=id;grind;rw[D3 λe=>d e.symm];exact h j k _ _ _ _ _ _ _ _ m
variable {l:List TQ}
theorem kV(id:Nat){g:An}(c:A[id]? =some C)(h:(C.ro||C.isLp)=false)(m:A.length≤b.length)(lp:wC A b)
  (hr:HR b A (id::K1 l)) (ok:PB I A) (q0:PB I (A.set id .dead)->wC (A.set id .dead) b->HR b (A.set id .dead) (K1 l)->IS f b l I (A.set id .dead) M g):IS f b (.x id::l) I A M g:=by
 have r:C.isLp=false:=by grind
 have a:B4 A (A.set id .dead):=B4.set c (by grind) λ_ _ _ _ _ C=>by cases C
 have d:id<b.length:=by grind
 have q:=q0 ⟨a.env ok.env,heap_set a ok.heap trivial⟩ (lp.set (G1 c) λ_ _ _ _ _ _ _ _ k=>by have⟨H,n,q⟩:=lp id (G1 c) _ _ _ _ _ _ _ _ k;rw[c]at q;injection q with q;rw[q]at r;cases r) (HR.set hr (Az d) (.inl rfl));refine⟨q.get,q.ok,q.env,q.hr,a.trans q.step,by simpa using q.len,λj i=>?_⟩;have:=Pw.1 i;rw[q.same j this.2,D3 λC=>this.1 C.symm]
def Nh{env1:BS}{I:An}(o:PB env1 I): ∀{slots:List TQ} {B:List DV} {env:BS} {H:An} {env2:BS} {E:An},Xv env1 I slots=some B→Ud slots B env H=some (env2,E)→PB env H→
  H.length<=I.length->(∀p∈env,∃v,(p.1,v)∈env1/\Un v.enc p.2.enc)->HR I H (K1 slots)->wC H I->IS env1 I slots env H env2 E
 |[],B,env,H,env2,E,h,k,ok,hl,he,hr,lp=>by simp only[Xv,Aj]at h;subst h;simp only[Ud,Aj,EV]at k;obtain⟨rfl,rfl⟩:=k;exact⟨λ_ _=>rfl,ok,he,hr,B4.refl _,rfl,λ_ _=>rfl⟩
 | .t tmp ty::r,B,env,H,env2,E,h,k,ok,hl,he,hr,lp=>by
  simp[Xv]at h;split at h;rename_i x d M U;cases h;simp[Ud]at k;have f:PB ((tmp,ty.tv x)::env) H:=⟨λp z=>by rcases Am.1 z with rfl|z;exact ty.tv_ok x;exact ok.env p z,ok.heap⟩
  have q:=Nh o U k f hl (λp z=>by rcases Am.1 z with rfl|z;refine⟨env1.get tmp,eJ rfl λe=>?_,?_⟩;rw[e]at M;cases ty<;>cases M;simp[ty.tv_enc];exact LW M;exact he p z) hr lp;refine⟨λt K=>?_,q.ok,q.env,q.hr,q.step,q.len,q.same⟩;have:=Pw.1 K;rw[q.get t this.2];simp[BS.get,beq_false λe=>this.1 e.symm];cases h
 | .g tmp id::r,B,env,H,env2,E,h,k,ok,hl,he,hr,lp=>by
  simp[Xv]at h;split at h
  ·rename_i x M;split at h
   ·rename_i J;simp[BT,VI]at J;have ad:x.ok I:=jd o.env tmp x (by rw[M];simp[TV.refs]);obtain⟨b1,t,l,n,al,rfl,C⟩:=kJ ad J.1;simp[Ud]at k;split at k
    ·rename_i b2 S l2 n2 W h2;have⟨e,V,Z⟩:=hr id _ J.2 h2;rw[C]at V;cases V;rcases Z with i|⟨_,_,_,_,i,_⟩|⟨_,_,_,_,_,_,_,i,h1⟩|⟨_,_,_,_,_,_,_,_,_,i,_⟩|⟨_,_,_,_,_,i,_⟩;cases i;cases i;rotate_left;cases i;cases i;injection i with e1 e2 e3 e4 e5;injection h1 with f1 f2 f3 f4 f5;subst e2 e4 f2 f4;have f:PB ((tmp,.c (.own id W S n2))::env) H:=⟨λp z=>by rcases Am.1 z with rfl|z;exact JW (VV h2);exact ok.env p z,ok.heap⟩
     have q:=Nh o h k f hl (λp z=>by rcases Am.1 z with rfl|z;exact⟨_,eJ M (λe=>by cases e),Un.refl _⟩;exact he p z) hr lp;refine⟨λt K=>?_,q.ok,q.env,q.hr,q.step,q.len,q.same⟩;have:=Pw.1 K;rw[q.get t this.2];simp[BS.get,beq_false λe=>this.1 e.symm]
    cases k
   cases h
  cases h
 | .p id R::r,B,env,H,env2,E,h,k,ok,hl,he,hr,lp=>by
  simp[Xv]at h;split at h;rename_i b cs C;split at h;rename_i a b1 ha J;cases h;simp[Ud]at k;split at k;rename_i ap i;split at k;rename_i N T hi;have Y:lok I cs:=by simpa only[Dn.ok]using o.heap _ (BK C)
  have⟨rfl,q2,q3⟩:=gE hr Y ha hi;have D:B4 H (H.set id (.live false N)):=B4.set i rfl λ_ _ _ _ _ e=>by cases e
  have A:HR I (H.set id (.live false N)) (K1 r):=HR.set hr C (.inr (.inl ⟨_,_,_,_,rfl,rfl,q2⟩));have f:PB env (H.set id (.live false N)):=⟨D.env ok.env,heap_set D ok.heap (by simpa only[Dn.ok]using D.lok q3)⟩
  have q:=Nh o J k f (by simpa using hl) he A (lp.set (G1 i) λ_ _ _ _ _ _ _ _ G=>by rw[C]at G;cases G);refine⟨q.get,q.ok,q.env,q.hr,D.trans q.step,by simpa using q.len,λj O=>?_⟩;have:=Pw.1 O;rw[q.same j this.2,D3 λe=>this.1 e.symm];cases k;cases k;cases h;cases h
 | .u id ty::r,B,env,H,env2,E,h,k,ok,hl,he,hr,lp=>by
  simp[Xv]at h;split at h;rename_i b t l n al C;split at h;rename_i T J U;cases h;simp[Ud]at k;split at k;rename_i t' l0 n0 L i;split at k;rename_i K;have e:=Ty.beq_eq _ _ K;subst e;have hn:n=l.length:=by simpa only[Dn.ok]using o.heap _ (BK C)
  have D:B4 H (H.set id (.buf false t' l l.length (L+1))):=B4.set i rfl λro S l2 n2 v2 e=>by cases e;exact⟨_,_,_,_,rfl,.inl (by omega)⟩
  have A:HR I (H.set id (.buf false t' l l.length (L+1))) (K1 r):=HR.set hr C (.inr (.inr (.inl ⟨_,_,_,_,_,_,_,rfl,by rw[hn]⟩)));have f:PB env (H.set id (.buf false t' l l.length (L+1))):=⟨D.env ok.env,heap_set D ok.heap rfl⟩
  have q:=Nh o U k f (by simpa using hl) he A (lp.set (G1 i) λ_ _ _ _ _ _ _ _ G=>by rw[C]at G;cases G);refine⟨q.get,q.ok,q.env,q.hr,D.trans q.step,by simpa using q.len,λj O=>?_⟩;have:=Pw.1 O;rw[q.same j this.2,D3 λe=>this.1 e.symm];cases k;cases k;cases h;cases h
 | .x id::r,B,env,H,env2,E,h,k,ok,hl,he,hr,lp=>by
  simp[Xv]at h;cases B with
  |nil=>simp[Ud]at k;split at k;rename_i e i;split at k;rename_i P;exact kV id i P hl lp hr ok λf Q A=>Nh o h k f (by simpa using hl) he A Q;cases k;cases k
  |cons d B=>simp[Ud]at k;split at k;rename_i e i;split at k;rename_i P;exact kV id i P hl lp hr ok λf Q A=>Nh o h k f (by simpa using hl) he A Q;cases k;cases k
 | .k tmp w::r,B,env,H,env2,E,h,k,ok,hl,he,hr,lp=>by
  have k':Ud r B ((tmp,.c (.raw w))::env) H=some (env2,E):=by cases B<;>simpa only[Ud]using k
  simp[Xv]at h;split at h;rename_i w' M;split at h;rename_i J;have e:=zy J;subst e;have f:PB ((tmp,.c (.raw w))::env) H:=⟨λp z=>by rcases Am.1 z with rfl|z;exact JW trivial;exact ok.env p z,ok.heap⟩
  have hw:w≠ .any:=by rintro rfl;cases J
  have q:=Nh o h k' f hl (λp z=>by rcases Am.1 z with rfl|z;refine⟨_,eJ M (λe=>?_),Un.refl _⟩;injection e with e;injection e with e;exact hw e;exact he p z) hr lp;refine⟨λt K=>?_,q.ok,q.env,q.hr,q.step,q.len,q.same⟩;have:=Pw.1 K;rw[q.get t this.2];simp[BS.get,beq_false λe=>this.1 e.symm];cases h;cases h
 | .y id s::r,B,env,H,env2,E,h,k,ok,hl,he,hr,lp=>by
  simp[Xv]at h;split at h;rename_i ax F1 n1 e1 p1 a1 b1 s1 C;split at h;rename_i J;have e0:=LS.beq_eq J;subst e0;obtain⟨F,n,e,R,a,b,s0,i,k'⟩: ∃F n e R a b s0,H[id]? =some (.lp false F n e R a b s0)/\Ud r B env (H.set id (.lp false F n e R a b s))=some (env2,E):=by cases B<;>simp[Ud]at k<;>split at k<;>first|exact⟨_,_,_,_,_,_,_,‹_›,k⟩|cases k
  have⟨a0,s2,q⟩:=lp id (G1 i) _ _ _ _ _ _ _ _ C;rw[i]at q;injection q with q;injection q with _ q2 q3 q4 q5 q6 q7 _;subst q2 q3 q4 q5 q6 q7;have D:B4 H (H.set id (.lp false F n e R a b s)):=B4.set i rfl (λ_ _ _ _ _ e=>by cases e) λ_ _ _ _ _ _ _ _ e=>by cases e;exact⟨_,_,rfl⟩
  have A:HR I (H.set id (.lp false F n e R a b s)) (K1 r):=HR.set hr C (.inr (.inr (.inr (.inl ⟨_,_,_,_,_,_,_,_,_,rfl,rfl⟩))));have f:PB env (H.set id (.lp false F n e R a b s)):=⟨D.env ok.env,heap_set D ok.heap (by have:=ok.heap _ (BK i);simpa only[Dn.ok]using this)⟩
  have q:=Nh o h k' f (by simpa using hl) he A (lp.set (G1 i) λ_ _ _ _ _ _ _ _ G=>by rw[C]at G;injection G with G;cases G;exact⟨_,_,rfl⟩);refine⟨q.get,q.ok,q.env,q.hr,D.trans q.step,by simpa using q.len,λj O=>?_⟩;have:=Pw.1 O;rw[q.same j this.2,D3 λe=>this.1 e.symm];cases h;cases h
 | .m id kk ty::r,B,env,H,env2,E,h,k,ok,hl,he,hr,lp=>by
  simp[Xv]at h;split at h;rename_i b k1 t1 X C;split at h;rename_i T J U;cases h;simp[Ud]at k;split at k;rename_i k2 S ar i;split at k;rename_i K;simp[BT,decide_eq_true_eq]at K;have⟨rfl,K⟩:=K;have e:=Ty.beq_eq _ _ K;subst e;have D:B4 H (H.set id (.mp false k2 S X)):=B4.set i rfl λ_ _ _ _ _ e=>by cases e
  have A:HR I (H.set id (.mp false k2 S X)) (K1 r):=HR.set hr C (.inr (.inr (.inr (.inr ⟨_,_,_,_,_,rfl,rfl⟩))));have f:PB env (H.set id (.mp false k2 S X)):=⟨D.env ok.env,heap_set D ok.heap trivial⟩
  have q:=Nh o U k f (by simpa using hl) he A (lp.set (G1 i) λ_ _ _ _ _ _ _ _ G=>by rw[C]at G;cases G);refine⟨q.get,q.ok,q.env,q.hr,D.trans q.step,by simpa using q.len,λj O=>?_⟩;have:=Pw.1 O;rw[q.same j this.2,D3 λe=>this.1 e.symm];cases k;cases k;cases h;cases h
def Xu(n:Nat):List Bc->Bool
 |[]=>true
 | .own id _ _ _::r=>Nat.blt id n&&Xu n r
 | .raw v::r=>v.idsAll (λid=>Nat.blt id n)&&Xu n r
 |_::r=>Xu n r
mutual
def nu(n:Nat):TV->Bool
 | .c x=>Xu n [x]
 | .g cs=>Xu n cs
 | .aptr id .. =>Nat.blt id n
 | .bptr id .. =>Nat.blt id n
 | .vptr cs post=>Xu n cs&&AV.idsAllL (λid=>Nat.blt id n) post
 | .tup vs=>pA n vs
def pA(n:Nat):List TV->Bool
 |[]=>true
 |v::r=>nu n v&&pA n r
end
def nK(n:Nat):BS->Bool
 |[]=>true
 |(_,v)::r=>nu n v&&nK n r
def fE(n:Nat):An->Bool
 |[]=>true
 | .live _ cs::r=>Xu n cs&&fE n r
 | .lp _ _ _ env _ _ _ _::r=>nK n env&&fE n r
 |_::r=>fE n r
def gh(h:Nat.blt N n=true):decide (N<n)=true:=by simp_all
def eD(h:Pure i)(n:Nat):(i.idsAll λid=>decide (id<n))=true:=Pg (λ_ h=>by cases h) i h
def rD: ∀{x:Bc},Xu n [x]=true->(∀v∈x.enc,(v.idsAll λid=>decide (id<n))=true)/\(x.one.idsAll λid=>decide (id<n))=true
 | .bl _,_=>⟨λv b=>by simp only[Bc.enc,A2]at b;subst b;rfl,rfl⟩
 | .it _ _,_=>⟨λv b=>by simp only[Bc.enc,A2]at b;subst b;rfl,rfl⟩
 | .st _,_=>⟨λv b=>by simp only[Bc.enc,A2]at b;subst b;rfl,rfl⟩
 | .ls t l,_=>⟨λv b=>by simp only[Bc.enc,A2]at b;subst b;exact eD ((Ty.list t).enc_pure l) n,eD ((Ty.list t).enc_pure l) n⟩
 | .ar m t a,_=>by have h:=eD ((Ty.arr m t).enc_pure a) n;refine⟨λv b=>?_,h⟩;exact((De _ _).1 h) v b
 | .own id ver t m,h=>by simp only[Xu,Oe]at h;have:=gh h;exact⟨λv b=>by simp only[Bc.enc,A2]at b;subst b;exact this,this⟩
 | .nil,_=>⟨λv b=>by simp only[Bc.enc,A2]at b;subst b;rfl,rfl⟩
 | .raw v,h=>by simp only[Xu,Oe]at h;have:=Pg (λ_ h=>gh h) v h;exact⟨λu c=>by simp only[Bc.enc,A2]at c;subst c;exact this,this⟩
def nt{r:List Bc}(h:Xu n (D::r)=true):Xu n [D]=true/\Xu n r=true:=by cases D<;>simp only[Xu,Oe,BT]at h⊢ <;>first|exact h|exact⟨trivial,h⟩
def eT{n:Nat}: ∀{b:List Bc},Xu n b=true->AV.idsAllL (λid=>decide (id<n)) (lvs b)=true
 |[],_=>rfl
 |x::r,h=>by obtain⟨c,d⟩:=nt h;rw[HT,De];intro v a;rcases Ap.1 a with a|a;exact(rD c).1 v a;exact((De _ _).1 (eT d)) v a
mutual
theorem az{n:Nat}: ∀{v:TV},nu n v=true->(v.enc.idsAll λid=>decide (id<n))=true
 | .c x,h=>(rD h).2
 | .g cs,h=>eT h
 | .aptr ..,h=>gh h
 | .bptr ..,h=>gh h
 | .vptr cs post,h=>by simp only[nu,BT]at h;simp only[TV.enc,AV.idsAll];rw[De];intro v a;rcases Ap.1 a with a|a;exact((De _ _).1 (eT h.1)) v a;exact((De _ _).1 (Iq (λ_ h=>gh h) post h.2)) v a
 | .tup vs,h=>by simp only[nu]at h;simp only[TV.enc,AV.idsAll];exact kG h
theorem kG{n:Nat}: ∀{a:List TV},pA n a=true->AV.idsAllL (λid=>decide (id<n)) (TV.encL a)=true
 |[],_=>rfl
 |v::r,h=>by simp only[pA,BT]at h;simp only[TV.encL,AV.idsAllL,BT];exact⟨az h.1,kG h.2⟩
end
def eR{n:Nat}: ∀{env:BS},nK n env=true-> ∀p∈env,nu n p.2=true
 |[],_,p,a=>by cases a
 |(t,v)::r,h,p,a=>by simp only[nK,BT]at h;rcases Am.1 a with rfl|a;exact h.1;exact eR h.2 p a
def eS{n:Nat}: ∀{H:An},fE n H=true-> ∀e∈A6 H,(e.idsAll λid=>decide (id<n))=true
 |x::r,h,e,c=>by
  have g:fE n r=true:=by cases x<;>simp only[fE,BT]at h<;>first|exact h|exact h.2
  simp only[A6,Bb,Am]at c;rcases c with rfl|c;cases x with
  |dead=>rfl
  |live b o=>simp only[fE,BT]at h;exact eT h.1
  |buf b t l m k=>simp only[Dn.enc,EU.idsAll];rw[De];intro v d;obtain⟨u,j,d⟩:=Hg.1 d;obtain⟨y,_,rfl⟩:=Bi.1 j;have h:=eD (t.E.pure y) n;cases q:t.E.f y<;>simp_all[AV.idsAll,De,AV.cells]
  |mp=>rfl
  |lp ro F m env w a b s=>simp only[fE,BT]at h;simp only[Dn.enc,EU.idsAll,Bt,List.all_map,Fy];exact λp i=>az (eR h.1 p i)
  exact eS g e c
def F4.cut{N n0:Nat}{env:Env}{H:As}(hn:n0≤H.length)(d: ∀t v,(t,v)∈env→(v.idsAll λid=>decide (id<n0))=true)
  (c: ∀e∈H.take n0,(e.idsAll λid=>decide (id<n0))=true):F4 N n0 env H env (H.take n0):=
 ⟨by simp;omega,λX g a w s=>⟨g,⟨s.sim.trunc hn c,λt v m=>⟨(s.env t v m).1,(s.env t v m).2.trunc hn (d t v m)⟩,s.size⟩,λ_ _=>⟨rfl,rfl,rfl⟩,λB b=>br b⟩⟩
theorem nz{e:EU}(h:(A6 b)[N]? =some e): ∃x,b[N]? =some x/\e=x.enc:=by grind[A6]
theorem HR.rel(u:A.length<=b.length)(hr:HR b A [])(x:Cx):R6 x x (A6 b) (A6 A++(A6 b).drop A.length):=by
 refine⟨by simp[A6];omega,λj w z=>?_⟩;have same: ∀{y:Dn},b[j]? =some y->w=y.enc->w= .dead\/(∃g p c,(A6 b)[j]? =some (.live g p)/\w= .live g c/\c.length=p.length/\ ∀(i:Nat) (f:AV),c[i]? =some f-> ∃v,p[i]? =some v/\Conv x x v f)\/((A6 b)[j]? =some w/\ ∀g p,w≠ .live g p):=by
  intro y D q;have d:(A6 b)[j]? =some y.enc:=by grind[A6]
  subst q;cases y with
  |dead=>exact .inl rfl
  |live o p=>exact .inr (.inl ⟨_,_,_,d,rfl,rfl,λi f h=>⟨f,h,λ_ r=>r⟩⟩)
  |buf o t l m H=>exact .inr (.inl ⟨_,_,_,d,rfl,rfl,λi f h=>⟨f,h,λ_ r=>r⟩⟩)
  |lp=>exact .inr (.inr ⟨d,λ_ _ h=>by cases h⟩)
  |mp=>exact .inr (.inr ⟨d,λ_ _ h=>by cases h⟩)
 rcases Aq j A.length with h|h;rw[CE (by rw[CV];exact h)]at z;obtain⟨y,D,rfl⟩:=nz z;obtain⟨e,q,B⟩:=hr j y rfl D;rcases B with rfl|⟨o,p,C,c,rfl,rfl,u⟩|⟨o,t,l,m,v,C,f,rfl,rfl⟩|⟨ro,G,F,n,env,J,a,o,s,rfl,rfl⟩|⟨o,C,k,t,I,rfl,rfl⟩;exact .inl rfl;refine .inr (.inl ⟨0,lvs p,lvs c,by simp only[A6,CL,q,Bf,Dn.enc],rfl,u.1,λi f E=>?_⟩);obtain⟨v,q1,q2⟩:=u.2 i f E;exact⟨v,q1,q2 x⟩;exact same q rfl;exact same q rfl;exact same q rfl;rw[Cr (by rw[CV];exact h),Mx]at z;rw[CV]at z;grind[nz]
def IS.weak{N:Nat}{b:An}{H:An}(s:IS f b l I H M A)(k:H.length≤b.length)(n:nK H.length M=true)(o:fE H.length A=true):
  F4 N H.length (Bt f) (A6 b) (Bt M) (A6 A):=by
 have g:A.length<=b.length:=by rw[s.len];exact k
 have x:F4 N (A6 b).length (Bt f) (A6 b) (Bt M) (A6 A++(A6 b).drop A.length):=by refine Tt (by simp[A6];omega) λX h w _=>?_;have q:=(HR.rel g s.hr (cx X h (A6 b) w)).onto;refine⟨q,λt z m=>?_⟩;obtain⟨p,j,e⟩:=Bi.1 m;injection e with d a;subst d a;obtain⟨v,u,i⟩:=s.env p j;exact⟨v.enc,Bi.2 ⟨_,u,rfl⟩,λc r=>(i _ c r).later q.later⟩
 have B:(A6 A++(A6 b).drop A.length).take H.length=A6 A:=by rw[<-s.len,<-CV A,PH];rfl
 have y:F4 N H.length (Bt M) (A6 A++(A6 b).drop A.length) (Bt M) (A6 A):=by have:=F4.cut (N:=N) (n0:=H.length) (env:=Bt M) (H:=A6 A++(A6 b).drop A.length) (by simp[A6,s.len]) (λt v m=>by obtain⟨p,j,e⟩:=Bi.1 m;injection e with d a;subst d a;exact az (eR n p j)) (by rw[B];exact eS o);rwa [B]at this
 exact(x.of_le (by rw[CV];exact k)).trans y
def qf:Exit->Exit->Bool
 | .normal,.normal=>true
 | .exit a,.exit b=>Nat.beq a b
 | .ret,.ret=>true
 |_,_=>false
def mA{b:Exit}(h:qf x b=true):x=b:=by cases x<;>cases b<;>simp only[qf]at h<;>first|rfl|cases h|exact congrArg _ (DP h)
structure Hint where
 kind:Nat
 key:Nat
 virt:List (Nat×Ty)
 virtC:List (Nat×Nat×Ty)
 kill:List Nat
 drop:List Nat
 slots:List TQ
 exits:List (Exit×List TQ)
def Hint.tmps(h:Hint):List Nat:=h.drop++h.virt.map (·.1)++m8 h.slots++h.exits.flatMap λp=>m8 p.2
def hY(kind key:Nat):List Hint->Option Hint
 |[]=>none
 |h::r=>match Nat.beq kind h.kind&&Nat.beq key h.key with|true=>some h|false=>hY kind key r
def ql:Code->Option Nat
 | .region id _ _=>some id
 | .seq a b=>match ql a with|some x=>some x|none=>ql b
 | .cond _ a b=>match ql a with|some x=>some x|none=>ql b
 | .block _ b=>ql b
 | .loop b=>ql b
 |_=>none
def mO:Code->Bool
 | .seq a _=>mO a
 | .block _ b=>mO b
 | .loop _=>true
 |_=>false
def ACC(b:Code)(r:Nat)(hs:List Hint):Option Hint:=
 match mO b with
 |true=>(match hY 5 r hs with|some h=>some h|none=>hY 0 r hs)
 |false=>hY 0 r hs
def bm(hs:List Hint):Code->Option Hint
 | .loop b=>match ql b with|some r=>ACC b r hs|none=>none
 | .block id _=>hY 1 id hs
 | .cond _ a b=>match ql (.seq a b)with|some r=>hY 2 r hs|none=>none
 | .region id _ _=>hY 6 id hs
 |_=>none
def kT(hs:List Hint)(c:Code):List Nat:=
 match bm hs c with
 |some h=>h.tmps
 |none=>[]
def lP(hs:List Hint):Code->Code->Option Hint
 | .region id _ _,.cond _ _ _=>hY 4 id hs
 |_,_=>none
def m9(hs:List Hint)(a b:Code):List Nat:=
 match lP hs a b with
 |some h=>h.tmps
 |none=>[]
def Pq(hs:List Hint):Code->List Nat
 | .region id ops d=>g8 ops.toList++kT hs (.region id ops d)
 | .seq a b=>(Pq hs a++Pq hs b)++m9 hs a b
 | .cond c a b=>Pq hs a++Pq hs b++kT hs (.cond c a b)
 | .block id b=>Pq hs b++kT hs (.block id b)
 | .loop b=>Pq hs b++kT hs (.loop b)
 |_=>[]
def qM:TV->Bool
 | .c (.raw .any)=>true
 |_=>false
def wV(h:qM w=false):w≠S4:=by rintro rfl;cases h
def pO(H:An)(id:Nat):Bool:=match H[id]? with|some (.buf false _ _ _ _)=>true|_=>false
def cN(A S:List Nat)(H:An)(t:Nat)(v:TV):Bool:=
 match Ni t A with
 |true=>false
 |false=>match qM v with
  |true=>false
  |false=>(KM v.refs).all λid=>!(Ni id S&&pO H id)
def PM(A S:List Nat)(H:An):BS->BS
 |[]=>[]
 |(t,v)::r=>match cN A S H t v with|true=>(t,v)::PM A S H r|false=>PM A S H r
def Lx(S:List Nat):Nat->An->An
 |_,[]=>[]
 |j,e::r=>(match Ni j S with|true=>e|false=>e.lock)::Lx S (j+1) r
def jm:BS->Bool
 |[]=>true
 |(t,_)::r=>!Ni t (r.map (·.1))&&jm r
theorem Tm(h:N∉a):Ni N a=false:=by
 cases j:Ni N a with
 |false=>rfl
 |true=>induction a<;>grind[Ni,Nat.eq_of_beq_eq_true]
def XK: ∀{env:BS},jm env=true->(env.map (·.1)).Nodup
 |[],_=>PF
 |(t,v)::r,h=>by simp only[jm,BT,VI]at h;exact Fg.2 ⟨R2 h.1,XK h.2⟩
theorem eP{A S:List Nat}{H:An}: ∀{env:BS},(env.map (·.1)).Nodup-> ∀t,cN A S H t (env.get t)=true->(PM A S H env).get t=env.get t
 |[],_,t,_=>rfl
 |(u,v)::r,nd,t,h=>by have a:=Fg.1 nd;simp only[BS.get]at h⊢;by_cases b:u=t;grind[Nat.beq_refl,PM,BS.get];rw[beq_false b]at h⊢;have c:=eP a.2 t h;grind[PM,BS.get,beq_false]
theorem Pr{A S:List Nat}{H:An}: ∀{env:BS},(env.map (·.1)).Nodup-> ∀p∈PM A S H env,env.get p.1=p.2/\cN A S H p.1 p.2=true/\p∈env
 |(u,v)::r,nd,p,h=>by
  have a:=Fg.1 nd;have tail:p∈PM A S H r->BS.get ((u,v)::r) p.1=p.2/\cN A S H p.1 p.2=true/\p∈(u,v)::r:=λh=>by obtain⟨q1,q2,q3⟩:=Pr a.2 p h;grind[BS.get,beq_false]
  grind[PM,BS.get,Nat.beq_refl]
theorem J3{S:List Nat}: ∀(H:An) (i j:Nat),(Lx S i H)[j]? =(H[j]?).map λe=>match Ni (i+j) S with|true=>e|false=>e.lock
 |[],i,j=>by simp[Lx]
 |e::r,i,0=>by simp[Lx]
 |e::r,i,j+1=>by simp only[Lx,nq];rw[J3 r (i+1) j];grind
def J4{S:List Nat}: ∀(H:An) (i:Nat),(Lx S i H).length=H.length
 |[],_=>rfl
 |e::r,i=>by simp[Lx,J4 r]
theorem oM{S:List Nat}: ∀(H:An) (i:Nat),A6 (Lx S i H)=A6 H
 |[],_=>rfl
 |e::r,i=>by have:=oM (S:=S) r (i+1);grind[A6,Lx,mb]
theorem mc(h:TO b N n p y):TO (Lx a 0 b) N n p y:=by
 refine⟨by rw[J4];exact h.1,λro r l H f c=>?_⟩;rw[J3]at c;cases d:b[N]? with
 |none=>grind
 |some e=>
  rw[d]at c;simp at c;split at c;subst c;exact h.2 _ _ _ _ _ d;cases e with
  |dead=>cases c
  |live S k=>cases c
  |lp=>cases c
  |mp=>cases c
  |buf S s o q u=>injection c with _ g m i j;subst g i j;exact h.2 _ _ _ _ _ d
def oN(h:D.ok b):D.ok (Lx a 0 b):=by
 cases D with
 |own id S t n=>exact mc h
 |_=>trivial
theorem iR(ok:PB f b):PB f (Lx a 0 b):=by
 refine⟨λp o x g=>oN (ok.env p o x g),λe m=>?_⟩;obtain⟨j,H⟩:=GB.1 m;rw[J3]at H;cases i:b[j]? with
 |none=>grind
 |some c=>
  rw[i]at H;simp at H;have d:=ok.heap c (BK i);have q:c.ok (Lx a 0 b):=by
   cases c with
   |dead=>trivial
   |live S k=>exact λx g=>oN (d x g)
   |buf S t l n h=>exact d
   |lp=>exact d
   |mp=>exact d
  split at H;grind;subst H;cases c with
  |dead=>trivial
  |live S k=>exact q
  |buf S t l n h=>exact q
  |lp=>exact q
  |mp=>exact q
theorem zf(H:An):wC (Lx a 0 H) H:=by intro id c ro F n env d S b s h;rw[J3,h];split;grind;exact⟨_,_,rfl⟩
theorem xR(H:An):wC H (Lx a 0 H):=by
 intro id d ro F n env f S b s h;rw[J3]at h;cases c:H[id]? with
 |none=>grind
 |some e=>
  rw[c]at h;simp at h;split at h;grind;cases e with
  |lp=>injection h with _ q2 q3 q4 q5 q6 q7 _;grind
  |_=>cases h
def gR{id a n:Nat}{t:Ty}: ∀{b:List Bc},Bc.own id a t n∈b->id∈KM b
 |x::r,h=>by rcases Am.1 h with rfl|h;exact JP;have:=gR h;cases x<;>simp only[KM]<;>first|exact this|exact CA _ this
def qz(h:cN a z b N w=true)(m:w.ok b)(o:B4 (Lx z 0 b) A):iO A w:=by
 intro id p s n g;unfold cN at h;split at h;cases h;split at h;cases h;have S:=Fy.1 h id (gR g);have d:id<b.length:=(m _ g).1;refine o.nb id (by rw[J4];exact d) λr l q i H=>?_;rw[J3,D5]at H;cases c:b[id]? with
 |none=>rw[c]at H;cases H
 |some e=>rw[c]at H;simp only[Bf,Aj]at H;split at H;rename_i k;subst H;simp only[k,pO,c]at S;cases S;cases e<;>simp only[Dn.lock]at H<;>first|cases H|(injection H with j;cases j)
theorem xP(g:Ni N a=false)(i:qM w=false)(j:iO b w):cN a z b N w=true:=by
 unfold cN;rw[g,i];refine Fy.2 λid e=>?_;have: ∃d f n,Bc.own id d f n∈w.refs:=by
  generalize w.refs=cs at e;induction cs with
  |nil=>cases e
  |cons x r m=>
   cases x with
   |own l d f n=>grind[KM]
   |_=>obtain⟨S,A,c,h⟩:=m e;grind
 obtain⟨d,f,n,k⟩:=this;have:=j id d f n k;grind[pO]
def ABL:List Part->List Nat
 |[]=>[]
 | .o id::r=>id::ABL r
 |_::r=>ABL r
def fZ(env:BS)(H:An):List TQ->List Nat
 |[]=>[]
 | .t tmp _::r=>KM (env.get tmp).refs++fZ env H r
 | .p id ps::r=>(match H[id]? with|some (.live _ cs)=>(KM cs).filter λi=>!Ni i (ABL ps)|_=>[])++fZ env H r
 |_::r=>fZ env H r
def qT(sl:List TQ)(env:BS)(H:An):Option (DL (cD sl)):=
 match H6 (fZ env H sl) env H with
 |(e,h)=>match Xv e h sl with|some ds=>tA (cD sl) ds|none=>none
def pg:List (Exit×List TQ)->Type
 |[]=>Unit
 |[p]=>DL (cD p.2)
 |p::q::r=>DL (cD p.2)⊕ pg (q::r)
def tF:(xs:List (Exit×List TQ))->Exit->BS->An->Option (pg xs)
 |[],_,_,_=>none
 |[p],x,env,H=>match qf p.1 x with|true=>qT p.2 env H|false=>none
 |p::q::r,x,env,H=>
  match qf p.1 x with
  |true=>(match qT p.2 env H with|some s=>some (.inl s)|none=>none)
  |false=>(match tF (q::r) x env H with|some s=>some (.inr s)|none=>none)
def ABS{R:Type}:(xs:List (Exit×List TQ))->pg xs->(Exit->List TQ->List DV->Option R)->Option R
 |[],_,_=>none
 |[p],s,k=>k p.1 p.2 (w8 (cD p.2) s)
 |p::q::r,o,k=>Sum.elim (λs=>k p.1 p.2 (w8 (cD p.2) s)) (λs=>ABS (q::r) s k) o
def ph:(xs:List (Exit×List TQ))->pg xs->Exit×List TQ×List DV
 |[],_=>(.normal,[],[])
 |[p],s=>(p.1,p.2,w8 (cD p.2) s)
 |p::q::r,.inl s=>(p.1,p.2,w8 (cD p.2) s)
 |p::q::r,.inr s=>ph (q::r) s
def oW{R:Type}: ∀{xs:List (Exit×List TQ)} {o:pg xs} {k:Exit->List TQ->List DV->Option R} {r:R},ABS xs o k=some r->k (ph xs o).1 (ph xs o).2.1 (ph xs o).2.2=some r
 |[],_,_,_,h=>by cases h
 |[p],s,k,r,h=>h
 |p::q::t,.inl s,k,r,h=>h
 |p::q::t,.inr s,k,r,h=>oW (xs:=q::t) h
def ye(sl:List TQ)(ds:List DV)(env:BS)(H:An):Prop:=Xv (H6 (fZ env H sl) env H).1 (H6 (fZ env H sl) env H).2 sl=some ds
theorem gD{s:DL (cD l)}(h:qT l f b=some s):ye l (w8 (cD l) s) f b:=by grind[qT,ye,jl]
def oX: ∀{xs:List (Exit×List TQ)} {x:Exit} {env:BS} {H:An} {o:pg xs},tF xs x env H=some o→
  (ph xs o).1=x/\ye (ph xs o).2.1 (ph xs o).2.2 env H/\ ∃p∈xs,(ph xs o).2.1=p.2
 |[p],x,env,H,o,h=>by simp only[tF]at h;split at h;rename_i a;exact⟨mA a,gD h,p,by simp,rfl⟩;cases h
 |p::q::r,x,env,H,o,h=>by simp only[tF]at h;split at h;rename_i a;split at h;rename_i s b;injection h with h;subst h;exact⟨mA a,gD b,p,by simp,rfl⟩;cases h;split at h;rename_i s b;injection h with h;subst h;obtain⟨q1,q2,c,q3,q4⟩:=oX (xs:=q::r) b;exact⟨q1,q2,c,CA _ q3,q4⟩;cases h
structure sH(A S:List Nat)(env0:BS)(H0:An)(e2:BS)(h2:An):Prop where
 ok:PB e2 h2
 step:B4 (Lx S 0 H0) h2
 len:h2.length=H0.length
 same: ∀j,Ni j S=false->h2[j]? =(Lx S 0 H0)[j]?
 get: ∀p∈PM A S H0 env0,e2.get p.1=p.2
theorem uB{A B S:List Nat}{env0:BS}{a:An}{L:BS}{s:An}(m:PB env0 a)(nd:(env0.map (·.1)).Nodup)(g:sH A S env0 a L s)
  {env1:BS} {d:An} (G:PB env1 d) (M:E4 B L s env1 d) (V: ∀t,t∈B->t∈A) {o:List TQ} {K:List DV} (X:ye o K env1 d)
  {Hx:An} (J: ∀e∈Hx,e.ok Hx) (y:Hx.length=a.length) (F:wC Hx (Lx S 0 a)) (rx: ∀id c t n,TO a id c t n->TO Hx id c t n) (E: ∀(j:Nat) (i:Dn),Ni j (K1 o)=false->Hx[j]? =some i->i= .dead\/ ∃e,Ni j S=false/\(Lx S 0 a)[j]? =some e/\e.ro=true/\AAu e i)
  {r:BS} {f:An} (Z:Ud o K (PM A S a env0) Hx=some (r,f)) (ce:nK a.length r=true) (ch:fE a.length f=true) (N:Nat):
  F4 N a.length (Bt env1) (A6 d) (Bt r) (A6 f)/\ ∃Q W,IS Q W o (PM A S a env0) Hx r f:=by
 obtain⟨I,z,wf⟩:=Pv (fZ env1 d o) G;have u:a.length<=d.length:=by rw[<-g.len];exact M.step.len
 have b:=E4.trans g.ok.env M z;have H: ∀p∈PM A S a env0,p.2.ok Hx:=λp v x E=>by
  have:=m.env p (Pr nd p v).2.2 x E;cases x with
  |own id c t n=>exact rx _ _ _ _ this
  |_=>trivial
 have q:=Nh I X Z ⟨H,J⟩ (by rw[y];exact Cv u z.step.len) (λp v=>by
  obtain⟨b1,O,P⟩:=Pr nd p v;have hk:=qz O (m.env p P) g.step;have U:Ni p.1 A=false:=by grind[cN]
  have k:qM p.2=false:=by grind[cN]
  have Y:=g.get p v;have:=b.same p.1 (λh=>by rw[Do]at h;exact R2 U (V _ h)) (by grind);rw[Y]at this;exact⟨p.2,eJ this (wV k),Un.refl _⟩) (λj i hj C=>by
   have D:j<a.length:=by grind
   rcases E j i hj C with rfl|⟨e,R,s,f,T⟩;exact⟨_,Az (DD D (Cv u z.step.len)),.inl rfl⟩;exact⟨e,b.step.ro j e (by rw[g.same j R];exact s) f,T⟩) (λid l _ _ _ _ _ _ _ _ hq=>by
  obtain⟨ad,s1,q1⟩:=(g.step.trans b.step).lp id (by rw[J4,<-y];exact l) _ _ _ _ _ _ _ _ hq;exact F id l _ _ _ _ _ _ _ _ q1)
 have w:=q.weak (N:=N) (by rw[y];exact Cv u z.step.len) (by grind) (by grind);rw[y]at w;exact⟨((wf N).of_le (by rw[CV];exact u)).trans w,_,_,q⟩
open Classical in
noncomputable def mr{α:Type}(g:List α->Unit->Option (List α))(l:List α):Option (List α):=if∀m,l.Perm m->g m ()=g l ()then g l ()else none
theorem tL{g:List R->Unit->Option (List R)}{l s:List R}(h:mr g l=some s): ∀m,l.Perm m->g m ()=some s:=by grind[mr]
def pi:List Oper->Option (Nat×Nat×Nat×TypeId×TypeId)
 |[⟨some a1,.load ty1 (.tmp c0),_,_,_,none⟩,⟨some a2,.range ty2 (.tmp b1),_,_,_,none⟩]=>match Nat.beq a1 b1 with|true=>some (c0,a1,a2,ty1,ty2)|false=>none
 |_=>none
def mj:List Oper->Option (Nat×Nat×Nat)
 |[⟨some a3,.next (.tmp a2) false,_,_,_,none⟩,⟨some a4,.extract (.tmp b3) 0,_,_,_,none⟩]=>match Nat.beq a3 b3 with|true=>some (a2,a3,a4)|false=>none
 |_=>none
def ml:List Oper->Option (Nat×Nat×Nat×Nat×TypeId×TypeId)
 |[⟨some a5,.entry (.tmp a2),_,_,_,none⟩,⟨some a6,.extract (.tmp b5) 1,_,_,_,none⟩,⟨some a7,.alloc te1,_,_,_,none⟩,⟨none,.store te2 (.tmp b7) (.tmp b6),_,_,_,none⟩]=>
  match Nat.beq a5 b5&&(Nat.beq a6 b6&&Nat.beq a7 b7)with|true=>some (a2,a5,a6,a7,te1,te2)|false=>none
 |_=>none
def mm:List Oper->Option (Nat×Nat×Nat×Nat×Nat×Nat×TypeId×TypeId×TypeId)
 |[⟨some a8,.move (.tmp out),_,_,_,none⟩,⟨some a9,.load te3 (.tmp a7),_,_,_,none⟩,⟨some a10,.buildSlice ts1 1 ⟨[(0,.tmp b9)]⟩,_,_,_,none⟩,
   ⟨some a11,.call {callee:=.builtin .append,args:=⟨[.tmp b8,.tmp b10]⟩,argTypes:=⟨[ts2,ts3]⟩},_,_,_,none⟩,⟨some out2,.assign (.tmp b11),_,_,_,none⟩]=>
  match Nat.beq a8 b8&&(Nat.beq a9 b9&&(Nat.beq a10 b10&&(Nat.beq a11 b11&&(Nat.beq out out2&&Nat.beq ts2 ts3))))with|true=>some (out,a7,a8,a9,a10,a11,te3,ts1,ts2)|false=>none
 |_=>none
def pj:List Oper->Option (Nat×Nat×Nat×FuncId×FuncId)
 |[⟨some a12,.move (.tmp out),_,_,_,none⟩,⟨some a13,.call {callee:=.value (.func F),args:=⟨[.tmp b12,.func G]⟩,.. },_,_,_,none⟩]=>match Nat.beq a12 b12 with|true=>some (out,a12,a13,F,G)|false=>none
 |_=>none
def ka(h:pi e=some (N,n,y,m,K)):
  ∃l c a f d b,e=[⟨some n,.load m (.tmp N),l,c,a,none⟩,⟨some y,.range K (.tmp n),f,d,b,none⟩]:=by
 unfold pi at h;split at h;split at h<;>simp_all;cases h
def ke(h:mj e=some (N,n,y)):
  ∃l c a f d b,e=[⟨some n,.next (.tmp N) false,l,c,a,none⟩,⟨some y,.extract (.tmp n) 0,f,d,b,none⟩]:=by
 unfold mj at h;split at h;split at h<;>simp_all;cases h
def kf{a7:Nat}(h:ml e=some (N,n,y,a7,m,K)):
  ∃j l a k f b p g c o i d,e=[⟨some n,.entry (.tmp N),j,l,a,none⟩,⟨some y,.extract (.tmp n) 1,k,f,b,none⟩,⟨some a7,.alloc m,p,g,c,none⟩,⟨none,.store K (.tmp a7) (.tmp y),o,i,d,none⟩]:=by
 unfold ml at h;split at h;split at h<;>simp_all;cases h
def kg{a9 a10 a11:Nat}{ts2:TypeId}(h:mm e=some (N,n,y,a9,a10,a11,m,K,ts2)):
  ∃s f a r g b o i c p j d q k l,e=[⟨some y,.move (.tmp N),s,f,a,none⟩,⟨some a9,.load m (.tmp n),r,g,b,none⟩,⟨some a10,.buildSlice K 1 #[(0,.tmp a9)],o,i,c,none⟩,⟨some a11,.call {callee:=.builtin .append,args:= #[.tmp y,.tmp a10],argTypes:= #[ts2,ts2]},p,j,d,none⟩,⟨some N,.assign (.tmp a11),q,k,l,none⟩]:=by
 unfold mm at h;split at h;split at h<;>simp_all;cases h
def kh{G:FuncId}(h:pj e=some (N,n,y,F,G)):
  ∃f d b a g l c,e=[⟨some n,.move (.tmp N),f,d,b,none⟩,⟨some y,.call {callee:=.value (.func F),args:= #[.tmp n,.func G],argTypes:=a},g,l,c,none⟩]:=by
 unfold pj at h;split at h;split at h<;>simp_all;cases h
structure VY where
 c0:Nat
 a1:Nat
 a2:Nat
 a3:Nat
 a4:Nat
 a5:Nat
 a6:Nat
 a7:Nat
 a8:Nat
 a9:Nat
 a10:Nat
 a11:Nat
 a12:Nat
 a13:Nat
 out:Nat
 ty1:TypeId
 ty2:TypeId
 te1:TypeId
 te2:TypeId
 te3:TypeId
 ts1:TypeId
 ts2:TypeId
 F:FuncId
 G:FuncId
def pb:List Nat->Bool
 |[]=>true
 |t::r=>!Ni t r&&pb r
def kY: ∀{l:List Nat},pb l=true->l.Nodup
 |[],_=>PF
 |t::r,h=>by simp only[pb,BT,VI]at h;exact Fg.2 ⟨R2 h.1,kY h.2⟩
def gx:Code->Code->Option VY
 | .seq (.region _ o1 false) (.block b1 (.loop (.seq (.region _ o2 false) (.seq (.cond (.tmp x4) .skip (.exit b2)) (.block _ (.seq (.region _ o3 false) (.region _ o4 false))))))),.region _ o5 false=>
  match pi o1.toList,mj o2.toList,ml o3.toList,mm o4.toList,pj o5.toList with
  |some (c0,a1,a2,ty1,ty2),some (x2,a3,a4),some (y2,a5,a6,a7,te1,te2),some (out,x7,a8,a9,a10,a11,te3,ts1,ts2),some (out2,a12,a13,F,G)=>
   match (Nat.beq b1 b2&&(Nat.beq a4 x4&&(Nat.beq a2 x2&&(Nat.beq a2 y2&&(Nat.beq a7 x7&&Nat.beq out out2)))))&&pb [out,a1,a2,a3,a4,a5,a6,a7,a8,a9,a10,a11,a12,a13]with
   |true=>some ⟨c0,a1,a2,a3,a4,a5,a6,a7,a8,a9,a10,a11,a12,a13,out,ty1,ty2,te1,te2,te3,ts1,ts2,F,G⟩
   |false=>none
  |_,_,_,_,_=>none
 |_,_=>none
def VY.tmps(p:VY):List Nat:=[p.out,p.a1,p.a2,p.a3,p.a4,p.a5,p.a6,p.a7,p.a8,p.a9,p.a10,p.a11,p.a12,p.a13]
def XD(A:List Nat):BS->BS
 |[]=>[]
 |(t,v)::r=>match Ni t A with|true=>XD A r|false=>(t,v)::XD A r
def Te{A:List Nat}: ∀{env:BS} {q:Nat×TV},q∈XD A env->q∈env/\q.1∉A
 |[],_,h=>by cases h
 |(t,v)::r,q,h=>by simp only[XD]at h;split at h;exact⟨CA _ (Te h).1,(Te h).2⟩;rename_i a;rcases Am.1 h with rfl|h;exact⟨JP,R2 a⟩;exact⟨CA _ (Te h).1,(Te h).2⟩
theorem jO{A:List Nat}{u:Nat}(a:u∉A): ∀env:BS,(XD A env).get u=env.get u
 |[]=>rfl
 |(t,v)::r=>by
  simp only[XD,BS.get];split;rename_i b;have:t≠u:=λe=>by grind[Tm]
  rw[beq_false this];exact jO a r;simp[BS.get,jO a r]
noncomputable def wk(P:Program)(N:Nat)(cs:List Su)(p:VY)(env:BS)(H:An){R:Type}(k:BS->An->Option R):Option R:=
 match env.get p.c0,env.get p.out with
 | .c (.raw (.ptr c 0 0)),.c .nil=>
  match H[c]? with
  |some (.live _ [.raw (.mp id)])=>
   match H[id]?,kP cs p.F,Z8 P p.F with
   |some (.mp _ kk ty es),some (.c2 _ te [] [] [.fn (.func G) [] []] g),true=>
    if h:(Ty.list ty).beq (Ty.list te)=true then
     match tI P p.ty1,P.underlying p.ty2,tI P p.te2,tI P p.te3,WP P p.te1,eI P p.ts1,eI P p.ts2 with
     |some (false,_),some (.map kt _),some (_,n2),some (tr3,n3),some z,some (none,e1,s1),some (none,e2,s2)=>
      match (Nat.beq G p.G&&(te.isAgg&&(Nat.beq n2 te.sz&&(tr3&&(Nat.beq n3 te.sz&&(Nat.beq z.length te.sz&&(Nat.beq s1 te.sz&&(Nat.beq s2 te.sz&&(QW P e1&&(QW P e2&&Nat.ble te.sz 4096))))))))))&&
        ((match P.underlying kt with|some (.int k2)=>decide (k2=kk)|_=>false)&&(nK H.length (XD p.tmps env)&&(fE H.length H&&p.tmps.all λt=>Nat.blt t N)))with
      |true=>cond (decide (((es.length:Nat):Int)≤16777216))
        ((mr g (Ty.cast h (es.map (·.2)))).bind λs=>cond (Nat.beq s.length es.length) (k ((p.out,.c (.own H.length 0 te s.length))::XD p.tmps env) (H++[.buf false te s s.length 0,.dead])) none) none
      |false=>none
     |_,_,_,_,_,_,_=>none
    else none
   |_,_,_=>none
  |_=>none
 |_,_=>none
theorem Er{q:Nat×AV}{v:AV}(h:q∈u)(a:q.1≠N):q∈u.put N v:=CA _ (BX.2 ⟨h,by grind⟩)
def po:(N,i)∈u.put N i:=JP
def iM{v:AV}:Env.get ((N,v)::u) N=v:=if_pos rfl
def qo{v:AV}(h:N≠n):Env.get ((N,v)::u) n=u.get n:=if_neg h
def cQ(vals:List R)(seen:List Nat):List R:=seen.filterMap (vals[·]?)
theorem tZ{b:List R}{x:R}(h:b[N]? =some x):cQ b (a++[N])=cQ b a++[x]:=by grind[cQ]
theorem rT{b:Type}: ∀a:List b,(List.range a.length).filterMap (a[·]?)=a
 |[]=>rfl
 |x::r=>by
  rw[BU,List.range_succ_eq_map,List.filterMap_cons];simp;have:((λi=>(x::r)[i]?)∘Nat.succ)=(r[·]?):=by grind
  rw[this,rT r]
def tY{d:List R}(hn:a.Nodup)(c: ∀j∈a,j<d.length)(b: ∀j,j<d.length->j∈a):d.Perm (cQ d a):=by have:=((fg List.nodup_range hn).2 λj=>⟨λh=>b j (IY.1 h),λh=>IY.2 (c j h)⟩).filterMap (d[·]?);rwa [rT]at this
section
variable {P:Program} {N:Nat} {env:Env} {H:As} {Q:Env->As->Prop} {ops:Array Oper}
def UN.nil(h:Q env H):UN P N ops [] env H Q:=⟨_,_,F4.refl _ _ _,h⟩
def UN.cons(b:o.guard=none)(h:Is P N o env H λv a=>UN P N ops e (env.putO o.dst v) a Q):UN P N ops (o::e) env H Q:=by refine⟨_,_,F4.refl _ _ _,?_⟩;rw[b];exact h
end
variable {s:Hint}{B:VY}
section
variable {P:Program} {N:Nat}
theorem o9(t:Ty)(l:List t.D): ∀v∈t.E.cl l,Pure v:=by intro v a;have⟨u,b,a⟩:=Hg.1 a;obtain⟨y,_,rfl⟩:=Bi.1 b;exact Sn (t.enc_pure y) v a
theorem xq(h:Pure i)(p:Nat->Bool):i.idsAll p=true:=Pg (λ_ h=>by cases h) i h
theorem xC{p q:Nat->Bool}(h: ∀id,p id=true->q id=true)(e:EU)(k:e.idsAll p=true):e.idsAll q=true:=by cases e<;>grind[Iq,EU.idsAll,List.all_eq_true,Pg]
theorem AA3(t:Ty)(g:Nat)(l:List t.D)(p:Nat->Bool):(EU.live g (t.E.cl l)).idsAll p=true:=by grind[EU.idsAll,De,xq,o9]
theorem flt{a:Type}(p q:a->Bool)(b: ∀x,q x=true->p x=true)(e:a)(d:p e=true)(f:q e=false): ∀l:List a,e∈l->(l.filter q).length<(l.filter p).length
 |x::l,he=>by
  have c: ∀l:List a,(l.filter q).length<=(l.filter p).length:=by intro l;induction l<;>grind
  rcases Am.1 he with rfl|h;grind;have:=flt p q b e d f l h;grind
theorem AAe(h:z.Nodup){i j a b:Nat}(d:z[i]? =some a)(e:z[j]? =some b)(c:i≠j):a≠b:=by grind[List.getElem?_inj]
set_option maxHeartbeats 1000000 in
def vB{te:Ty}{kk:IntKind}{es:List (Int×te.D)}{Hb:As}{base:Env}{id a2 a3 a4 a5 a6 a7 a8 a9 a10 a11 out:Nat}{b1 b2:Nat}{i2 i3 i4:Nat}{o2 o3 o4:Array Oper}{te1 te2 te3 ts1 ts2:TypeId}{z:List AV}{e1 e2:TypeId}{bb:Bool}
  (h2:mj o2.toList=some (a2,a3,a4)) (h3:ml o3.toList=some (a2,a5,a6,a7,te1,te2)) (h4:mm o4.toList=some (out,a7,a8,a9,a10,a11,te3,ts1,ts2))
  (bN:[out,a2,a3,a4,a5,a6,a7,a8,a9,a10,a11].Nodup) (hN: ∀t∈[out,a2,a3,a4,a5,a6,a7,a8,a9,a10,a11],t<N) (hb: ∀q∈base,q.1∉ [out,a2,a3,a4,a5,a6,a7,a8,a9,a10,a11])
  (a0: ∀q∈base,(q.2.idsAll λj=>decide (j<Hb.length))=true) (ar: ∀e∈Hb,(e.idsAll λj=>decide (j<Hb.length))=true)
  (he:Hb[id]? =some (.mp kk (es.map λp=>(p.1,te.enc p.2)))) (ax:te.isAgg=true) (hz:WP P te1=some z) (Z:z.length=te.sz) (b5:tI P te2=some (bb,te.sz)) (b6:tI P te3=some (true,te.sz))
  (b0:eI P ts1=some (none,e1,te.sz)) (b3:eI P ts2=some (none,e2,te.sz)) (bz:QW P e1=true) (bG:QW P e2=true) (b4:te.sz<=4096) (b7:es.length<=16777216):
  ∀(n:Nat) (seen:List Nat),seen.Nodup->(∀j∈seen,j<es.length)->((List.range es.length).filter λj=>!decide (j∈seen)).length<=n->(cQ (es.map (·.2)) seen).length+((List.range es.length).filter λj=>!decide (j∈seen)).length<=es.length->
   L3 P N (.seq (.region i2 o2 false) (.seq (.cond (.tmp a4) .skip (.exit b1)) (.block b2 (.seq (.region i3 o3 false) (.region i4 o4 false)))))
    ((out,.sl Hb.length (cQ (es.map (·.2)) seen).length te.sz 0 (cQ (es.map (·.2)) seen).length)::(a2,.itp (Hb.length+1) id)::base)
    (Hb++[.live (cQ (es.map (·.2)) seen).length (te.E.cl (cQ (es.map (·.2)) seen)),.it es.length seen])
    λe E h=>e= .exit b1/\ ∃s,(es.map (·.2)).Perm s/\(∀q∈(out,AV.sl Hb.length s.length te.sz 0 s.length)::base,q∈E)/\h.length=Hb.length+2/\(∀j,j<Hb.length->h[j]? =Hb[j]?)/\h[Hb.length]? =some (.live s.length (te.E.cl s)):=by
 obtain⟨t1,p1,x1,t2,p2,x2,l2⟩:=ke h2;obtain⟨t3,p3,x3,t4,p4,x4,t5,p5,x5,t6,p6,x6,l3⟩:=kf h3;obtain⟨t7,p7,x7,t8,p8,x8,t9,p9,x9,b',b8,cb,ca,b9,cc,l4⟩:=kg h4;have D:=λ(i j a b:Nat)=>AAe (i:=i) (j:=j) (a:=a) (b:=b) bN;simp only[Am,List.not_mem_nil,or_false,forall_eq_or_imp,forall_eq]at hN;have d2:N4 N o2.toList=true:=by rw[l2];simp[N4,hN]
 have d3:N4 N o3.toList=true:=by rw[l3];simp[N4,hN]
 have d4:N4 N o4.toList=true:=by rw[l4];simp[N4,hN]
 have a1:id<Hb.length:=by rcases Aq id Hb.length with h|h;exact h;rw[Cs h]at he;cases he
 have s0: ∀(A B C:EU),(Hb++[A,B]).set (Hb.length+1) C=Hb++[A,C]:=λA B C=>by rw[RJ _ _ (by omega),show Hb.length+1-Hb.length=1 by omega];rfl
 have s1: ∀(A B C D:EU),(Hb++[A,B,C]).set (Hb.length+2) D=Hb++[A,B,D]:=λA B C D=>by rw[RJ _ _ (by omega),show Hb.length+2-Hb.length=2 by omega];rfl
 have s2: ∀(A B C D:EU),(Hb++[A,B,C]).set Hb.length D=Hb++[D,B,C]:=λA B C D=>by rw[RJ _ _ (Ak _),IZ];rfl
 have g0: ∀(A:EU) (r:List EU),(Hb++A::r)[Hb.length]? =some A:=λA r=>by rw[Cr (Ak _),IZ];rfl
 have g1: ∀(A B:EU) (r:List EU),(Hb++A::B::r)[Hb.length+1]? =some B:=λA B r=>by rw[Cr (by omega),show Hb.length+1-Hb.length=1 by omega];rfl
 have g2: ∀(A B C:EU) (r:List EU),(Hb++A::B::C::r)[Hb.length+2]? =some C:=λA B C r=>by rw[Cr (by omega),show Hb.length+2-Hb.length=2 by omega];rfl
 have gm: ∀(r:List EU),(Hb++r)[id]? =some (.mp kk (es.map λp=>(p.1,te.enc p.2))):=λr=>by rw[CE a1];exact he
 have Y:(es.map (·.2)).length=es.length:=DF _;have J:0<te.sz:=te.sz_pos;intro n;induction n using Nat.strongRecOn with
 |ind n ih=>
  intro seen hn hl hr hm;obtain⟨L,hL⟩: ∃L,L=cQ (es.map (·.2)) seen:=⟨_,rfl⟩
  rw[<-hL]at hm⊢;refine RR (Ly.seq (FX d2 ?_));rw[l2];apply UN.cons rfl;have d:(es.map λp=>(p.1,te.enc p.2)).length=es.length:=DF _;have ad:out≠a2:=D 0 1 _ _ rfl rfl (by decide);refine Is.next (x:=.tmp a2) (id:=Hb.length+1) (m:=id) (k:=kk) (es:=es.map λp=>(p.1,te.enc p.2)) (seen:=seen) rfl ?_ ?_ (gm _) ?_ ?_
  show Env.get _ a2=_;rw[qo ad,iM];rw[d];exact g1 _ _ _;intro G;refine UN.cons rfl (Da (v:=.bool false) ?_ (UN.nil ?_));show CQ _ _ _ (.extract (.tmp a3) 0)=_;simp only[CQ,BA,Env.putO,F7,if_true];rfl;refine Ly.seq (Ly.cond (b:=false) ?_ (λh=>by cases h) (λ_=>Ly.exit ?_));simp only[BA,Env.putO,F7,if_true];refine⟨rfl,L,?_,λq o=>?_,by simp,λj hj=>CE hj,g0 _ _⟩;rw[hL];exact tY hn (by rw[Y];exact hl) (by rw[Y];rw[d]at G;exact G);have al:out≠a3:=D 0 2 _ _ rfl rfl (by decide);have ap:out≠a4:=D 0 3 _ _ rfl rfl (by decide);rcases Am.1 o with rfl|o;exact Er (Er JP al) ap;have:=hb q o;simp only[Am,not_or]at this;exact Er (Er (CA _ (CA _ o)) this.2.2.1) this.2.2.2.1;intro j p hj S;rw[CL]at hj;obtain⟨q,o,e⟩:=aH.1 hj;subst e;rw[d,s0];refine UN.cons rfl (Da (v:=.bool true) ?_ (UN.nil ?_));show CQ _ _ _ (.extract (.tmp a3) 0)=_;simp only[CQ,BA,Env.putO,F7,if_true];rfl;have k2: ∀(m:Nat) (v w:AV),Env.get (Env.put (Env.put ((out,AV.sl Hb.length m te.sz 0 m)::(a2,AV.itp (Hb.length+1) id)::base) a3 v) a4 w) a2= .itp (Hb.length+1) id:=λm v w=>by rw[F7,if_neg (D 1 3 _ _ rfl rfl (by decide)),F7,if_neg (D 1 2 _ _ rfl rfl (by decide)),qo ad,iM]
  have ko: ∀(m:Nat) (v w:AV),Env.get (Env.put (Env.put ((out,AV.sl Hb.length m te.sz 0 m)::(a2,AV.itp (Hb.length+1) id)::base) a3 v) a4 w) out= .sl Hb.length m te.sz 0 m:=λm v w=>by rw[F7,if_neg (D 0 3 _ _ rfl rfl (by decide)),F7,if_neg (D 0 2 _ _ rfl rfl (by decide)),iM]
  have kb: ∀(m:Nat) (v w:AV),∀q∈base,q∈Env.put (Env.put ((out,AV.sl Hb.length m te.sz 0 m)::(a2,AV.itp (Hb.length+1) id)::base) a3 v) a4 w:=λm v w q o=>by have:=hb q o;simp only[Am,not_or]at this;exact Er (Er (CA _ (CA _ o)) this.2.2.1) this.2.2.2.1
  have ki: ∀(m:Nat) (v w:AV),(a2,AV.itp (Hb.length+1) id)∈Env.put (Env.put ((out,AV.sl Hb.length m te.sz 0 m)::(a2,AV.itp (Hb.length+1) id)::base) a3 v) a4 w:=λm v w=>Er (Er (CA _ JP) (D 1 2 _ _ rfl rfl (by decide))) (D 1 3 _ _ rfl rfl (by decide));refine Ly.seq (Ly.cond (b:=true) ?_ (λ_=>Ly.skip ?_) (λh=>by cases h));simp only[BA,Env.putO,F7,if_true];dsimp only[ot];refine Ly.block (Ly.seq (FX d3 ?_));rw[l3];generalize K:Env.putO (Env.putO ((out,AV.sl Hb.length L.length te.sz 0 L.length)::(a2,AV.itp (Hb.length+1) id)::base) (some a3) (.tup [.bool true,.int kk q.1,te.enc q.2])) (some a4) (.bool true)=E;have k2:Env.get E a2= .itp (Hb.length+1) id:=by rw[<-K];exact k2 _ _ _
  have ko:Env.get E out= .sl Hb.length L.length te.sz 0 L.length:=by rw[<-K];exact ko _ _ _
  have kb: ∀q∈base,q∈E:=by rw[<-K];exact kb _ _ _
  have ki:(a2,AV.itp (Hb.length+1) id)∈E:=by rw[<-K];exact ki _ _ _
  clear K;refine UN.cons rfl (Is.entry (x:=.tmp a2) (id:=Hb.length+1) (m:=id) (j:=j) (k:=kk) (es:=es.map λp=>(p.1,te.enc p.2)) (seen:=seen) (p:=(q.1,te.enc q.2)) rfl k2 ?_ (gm _) (by rw[CL,o];rfl) ?_);rw[d];exact g1 _ _ _;have f:te.enc q.2= .agg (te.enc q.2).cells:=Ty.agg_enc ax q.2;have l:(te.enc q.2).cells.length=te.sz:=te.enc_len q.2;have U:(te.enc q.2).solid=true:=by rw[f];rfl
  refine UN.cons rfl (Da (v:=te.enc q.2) ?_ (UN.cons rfl (Is.alloc rfl hz ?_)));show CQ _ _ _ (.extract (.tmp a5) 1)=_;simp only[CQ,BA,Env.putO,F7,if_true];rfl;have a':(Hb++[EU.live L.length (te.E.cl L),EU.it es.length (seen++[j])]).length=Hb.length+2:=by simp
  rw[a',Ax];show UN P N o3 _ _ (Hb++[EU.live L.length (te.E.cl L),EU.it es.length (seen++[j]),EU.live 0 z]) _;refine UN.cons rfl (Is.store (id:=Hb.length+2) (g:=0) (off:=0) (v:=te.enc q.2) (cs:=z) (b:=bb) rfl ?_ ?_ U (g2 _ _ _ _) (by rw[l];exact b5) (by rw[l,Z];omega) (UN.nil ?_));simp only[BA,Env.putO,F7,if_true];simp only[BA,Env.putO,F7];rw[if_neg (D 5 6 _ _ rfl rfl (by decide)),if_pos trivial];have T:UK z 0 (te.enc q.2).cells=(te.enc q.2).cells:=by unfold UK;rw[List.take_zero,CC,l,<-Z,D5,List.drop_length,Do]
  rw[T,s1];simp only[Env.putO];generalize F:Env.put (Env.put (Env.put E a5 (.tup [.int kk q.1,te.enc q.2])) a6 (te.enc q.2)) a7 (.ptr (Hb.length+2) 0 0)=E1;have j7:Env.get E1 a7= .ptr (Hb.length+2) 0 0:=by rw[<-F,F7,if_pos rfl]
  have jo:Env.get E1 out= .sl Hb.length L.length te.sz 0 L.length:=by rw[<-F,F7,if_neg (D 0 6 _ _ rfl rfl (by decide)),F7,if_neg (D 0 5 _ _ rfl rfl (by decide)),F7,if_neg (D 0 4 _ _ rfl rfl (by decide)),ko]
  have jb: ∀q∈base,q∈E1:=λu I=>by have:=hb u I;simp only[Am,not_or]at this;rw[<-F];exact Er (Er (Er (kb u I) this.2.2.2.2.1) this.2.2.2.2.2.1) this.2.2.2.2.2.2.1
  have ji:(a2,AV.itp (Hb.length+1) id)∈E1:=by rw[<-F];exact Er (Er (Er ki (D 1 4 _ _ rfl rfl (by decide))) (D 1 5 _ _ rfl rfl (by decide))) (D 1 6 _ _ rfl rfl (by decide))
  clear F;apply FX d4;rw[l4];refine UN.cons rfl (Da (v:=.sl Hb.length L.length te.sz 0 L.length) (congrArg some jo) (UN.cons rfl (Da (v:=te.enc q.2) ?_ (UN.cons rfl (TB (sz:=te.sz) (vs:=[te.enc q.2]) rfl ?_ (UN.cons rfl ?_))))));show cO P te3 _ (BA _ (.tmp a7))=_;simp only[BA,Env.putO,F7];rw[if_neg (D 6 7 _ _ rfl rfl (by decide)),j7];simp only[cO,b6,Ov,g2];rw[if_pos ⟨trivial,by rw[l];omega⟩,iz,<-l,List.take_length];exact congrArg some f.symm;simp only[Q7,b0];rw[if_pos];simp only[BA,Env.putO,F7,if_true,Bb,Hf];refine⟨J,bz,rfl,?_,by decide,b4⟩;simp only[BA,Env.putO,F7,if_true,Bb,Hf,iq,iu,U,l,decide_true,Pn];have R:j<es.length:=by rcases Aq j es.length with h|h;exact h;rw[Cs h]at o;cases o
  have bt:((List.range es.length).filter λi=>!decide (i∈seen++[j])).length<((List.range es.length).filter λi=>!decide (i∈seen)).length:=flt (λi=>!decide (i∈seen)) (λi=>!decide (i∈seen++[j])) (λx f=>by simp at f⊢;exact f.1) j (by simpa using S) (by simp) _ (IY.2 R);have O:cQ (es.map (·.2)) (seen++[j])=L++[q.2]:=by rw[hL];exact tZ (by rw[CL,o];rfl)
  refine QV (sx:=.tmp a8) (xx:=.tmp a10) (t:=ts2) (e:=e2) (id:=Hb.length) (g:=L.length) (g':=L.length+1) (n:=L.length) (sz:=te.sz) (m:=1) (cs:=te.E.cl L) (news:=(te.enc q.2).cells) rfl b3 J bG ?_ (g0 _ _) (te.E.clen L) ?_ (by omega) (.inl (by omega)) ?_;show Env.get _ a8=_;simp only[Env.putO,F7];rw[if_neg (D 7 9 _ _ rfl rfl (by decide)),if_neg (D 7 8 _ _ rfl rfl (by decide)),if_pos trivial];simp only[BA,Env.putO,F7,if_true,Mu,BU,BQ,I4,jA,Do];rw[s2];refine UN.cons rfl (Da (v:=.sl Hb.length (L.length+1) te.sz 0 (L.length+1)) ?_ (UN.nil ?_));show some (Env.get _ a11)=_;simp only[Env.putO,F7,if_true];have Q:te.E.cl L++(te.enc q.2).cells=te.E.cl (L++[q.2]):=by simp[Sv.cl];rfl
  rw[Q];have bl:(L++[q.2]).length=L.length+1:=by simp
  show∃env2 H2,F4 N _ _ _ env2 H2/\_;refine⟨_,_,?_,ih _ (DD bt hr) (seen++[j]) ?_ ?_ (Ak _) (by rw[O];omega)⟩;rw[O,bl];generalize M:Env.putO _ (some out) _=E3;have V: ∀u∈(out,AV.sl Hb.length (L.length+1) te.sz 0 (L.length+1))::(a2,AV.itp (Hb.length+1) id)::base,u∈E3:=by intro u I;rw[<-M];simp only[Env.putO];rcases Am.1 I with rfl|I;exact po;rcases Am.1 I with rfl|I;exact Er (Er (Er (Er (Er ji (D 1 7 _ _ rfl rfl (by decide))) (D 1 8 _ _ rfl rfl (by decide))) (D 1 9 _ _ rfl rfl (by decide))) (D 1 10 _ _ rfl rfl (by decide))) (D 1 0 _ _ rfl rfl (by decide));have:=hb u I;simp only[Am,not_or]at this;exact Er (Er (Er (Er (Er (jb u I) this.2.2.2.2.2.2.2.1) this.2.2.2.2.2.2.2.2.1) this.2.2.2.2.2.2.2.2.2.1) this.2.2.2.2.2.2.2.2.2.2.1) this.1
  clear M;have w1:=F4.subset (N:=N) (H:=Hb++[EU.live (L.length+1) (te.E.cl (L++[q.2])),EU.it es.length (seen++[j]),EU.live 0 (te.enc q.2).cells]) V;have W:(Hb++[EU.live (L.length+1) (te.E.cl (L++[q.2])),EU.it es.length (seen++[j]),EU.live 0 (te.enc q.2).cells]).take (Hb.length+2)=Hb++[EU.live (L.length+1) (te.E.cl (L++[q.2])),EU.it es.length (seen++[j])]:=by rw[fi,CR (by omega),show Hb.length+2-Hb.length=2 by omega];rfl
  have w2:=F4.cut (N:=N) (n0:=Hb.length+2) (env:=(out,AV.sl Hb.length (L.length+1) te.sz 0 (L.length+1))::(a2,AV.itp (Hb.length+1) id)::base) (H:=Hb++[EU.live (L.length+1) (te.E.cl (L++[q.2])),EU.it es.length (seen++[j]),EU.live 0 (te.enc q.2).cells]) (by simp) (λt v X=>by
   rcases Am.1 X with e|X;injection e with _ e;subst e;exact decide_eq_true (by omega);rcases Am.1 X with e|X;injection e with _ e;subst e;simp only[AV.idsAll,BT,decide_eq_true_eq];omega;exact Pg (λi hi=>decide_eq_true (by have:=of_decide_eq_true hi;omega)) v (a0 _ X)) (by
   rw[W];intro e c;rcases Ap.1 c with c|c;exact xC (λi hi=>decide_eq_true (by have:=of_decide_eq_true hi;omega)) e (ar e c);rcases Am.1 c with rfl|c;exact AA3 te _ _ _;simp only[A2]at c;subst c;rfl)
  rw[W]at w2;have bd:(Hb++[EU.live L.length (te.E.cl L),EU.it es.length seen]).length=Hb.length+2:=by simp
  rw[bd];exact(w1.of_le (by simp)).trans w2;refine Nw.2 ⟨hn,by simp,λx f y hy=>?_⟩;simp only[A2]at hy;subst hy;rintro rfl;exact S f;intro x f;rcases Ap.1 f with f|f;exact hl x f;simp only[A2]at f;subst f;exact R
def gy(h:gx d G=some B): ∃x k i y l r z n A o m q,
  d= .seq (.region x k false) (.block i (.loop (.seq (.region y l false) (.seq (.cond (.tmp B.a4) .skip (.exit i)) (.block r (.seq (.region z n false) (.region A o false)))))))/\G= .region m q false/\
  pi k.toList=some (B.c0,B.a1,B.a2,B.ty1,B.ty2)/\mj l.toList=some (B.a2,B.a3,B.a4)/\ml n.toList=some (B.a2,B.a5,B.a6,B.a7,B.te1,B.te2)/\
  mm o.toList=some (B.out,B.a7,B.a8,B.a9,B.a10,B.a11,B.te3,B.ts1,B.ts2)/\pj q.toList=some (B.out,B.a12,B.a13,B.F,B.G)/\B.tmps.Nodup:=by
 unfold gx at h;split at h;split at h;rename_i s t u v w;split at h;rename_i j;simp only[BT]at j;have⟨⟨b,c,a,e,f,g⟩,hn⟩:=j;have b:=DP b;have c:=DP c;have a:=DP a;have e:=DP e;have f:=DP f;have g:=DP g;subst b c a e f g;cases h;exact⟨_,_,_,_,_,_,_,_,_,_,_,_,rfl,rfl,s,t,u,v,w,kY hn⟩;cases h;cases h;cases h
set_option maxHeartbeats 1000000 in
def wl{cs:List Su}(cv: ∀c∈cs,c.Ok P){a m:Code}{p:VY}(hp:gx a m=some p){env:BS}{H:An}{R:Type}{k:BS→An→Option R}{r:R}(ok:PB env H)(o:wk P N cs p env H k=some r):
  ∃A H',Ly P N a (Bt env) (A6 H) (ot (λE h=>Ly P N m E h (Vn .normal (Bt A) (A6 H'))) (λ_ _ _=>False))/\k A H'=some r/\PB A H'/\E4 p.tmps env H A H':=by
 obtain⟨i1,o1,T,i2,o2,J,i3,o3,i4,o4,i5,o5,rfl,rfl,p1,p2,p3,p4,p5,b4⟩:=gy hp;unfold wk at o;split at o;rename_i c cm b5;split at o;rename_i ro id hc;split at o;rename_i c' kk n I F te G g a' hF hE;split at o;rename_i c4;split at o;rename_i y1 kt et b' n2 df n3 z e1 s1 e2 s2 t1 t2 t3 t4 t5 t6 t7;split at o;rename_i hb;have c5:n=te:=by have:=Ty.beq_eq _ _ c4;injection this
 subst c5;simp only[BT]at hb;obtain⟨⟨bG,b9,V,ce,W,bz,Y,Z,cc,cd,ad⟩,U,ca,cb,bN⟩:=hb;have bG:=DP bG;have V:=DP V;have W:=DP W;have bz:=DP bz;have Y:=DP Y;have Z:=DP Z;have ad:=Nx ad;subst V W Y Z ce;have c9:P.underlying kt=some (.int kk):=by split at U;rename_i k2 e;rw[e,of_decide_eq_true U];cases U
 cases ap:decide (((I.length:Nat):Int)<=16777216)with
 |false=>rw[ap]at o;cases o
 |true=>
  have bt:I.length<=16777216:=by have:=of_decide_eq_true ap;omega
  rw[ap]at o;obtain⟨s,hs,o⟩:=Dr.1 (show Option.bind _ _=some r from o);have hs:=tL hs;cases L:Nat.beq s.length I.length with
  |false=>rw[L]at o;cases o
  |true=>
   rw[L]at o;have o:k ((p.out,.c (.own H.length 0 n s.length))::XD p.tmps env) (H++[.buf false n s s.length 0,.dead])=some r:=o;have L:=DP L;obtain⟨ds,q1,x1,d0,q2,x2,l1⟩:=ka p1;obtain⟨d2,q3,x3,c6,d3,q4,x4,l5⟩:=kh p5;have D:=λ(i j a b:Nat)=>AAe (i:=i) (j:=j) (a:=a) (b:=b) b4;have hN: ∀t∈p.tmps,t<N:=λt ht=>Nx (Fy.1 bN t ht);have d1:N4 N o1.toList=true:=by rw[l1];simp[N4,iq,iu,Oe,BT,decide_eq_true_eq];exact⟨hN _ (by simp[VY.tmps]),hN _ (by simp[VY.tmps])⟩
   have d5:N4 N o5.toList=true:=by rw[l5];simp[N4,iq,iu,Oe,BT,decide_eq_true_eq];exact⟨hN _ (by simp[VY.tmps]),hN _ (by simp[VY.tmps])⟩
   have M:(Bt env).get p.out= .nils:=by rw[SV,b5];rfl
   have al:(Bt env).get p.c0= .ptr c 0 0:=by rw[SV,cm];rfl
   have ct:p.c0≠p.out:=λe=>by rw[e,M]at al;cases al
   have co:c<H.length:=G1 hc;have bd:id<H.length:=G1 a';have d:(A6 H).length=H.length:=CV H;have cf:(A6 H)[c]? =some (.live 0 [.mp id]):=by rw[E8,hc];rfl
   have O:(A6 H)[id]? =some (.mp kk (I.map λp=>(p.1,n.enc p.2))):=by rw[E8,a'];rfl
   have x: ∀q∈Bt (XD p.tmps env),q∈Bt env/\q.1∉p.tmps:=λq y=>by obtain⟨u,hu,rfl⟩:=Bi.1 y;exact⟨Bi.2 ⟨u,(Te hu).1,rfl⟩,(Te hu).2⟩
   have ci: ∀q∈Bt (XD p.tmps env),(q.2.idsAll λj=>decide (j<(A6 H).length))=true:=λq y=>by obtain⟨u,hu,rfl⟩:=Bi.1 y;rw[d];exact az (eR ca u hu)
   have ch: ∀e∈A6 H,(e.idsAll λj=>decide (j<(A6 H).length))=true:=by rw[d];exact eS cb
   have step:B4 H (H++[.buf false n s s.length 0,.dead]):=by have:=(B4.push H (.buf false n s s.length 0)).trans (B4.push _ .dead);rwa [Ax]at this
   have b6:(Bc.own H.length 0 n s.length).ok (H++[.buf false n s s.length 0,.dead]):=by apply VV (b:=false) (l:=s);rw[Cr (Ak _),IZ];rfl
   refine⟨(p.out,.c (.own H.length 0 n s.length))::XD p.tmps env,H++[.buf false n s s.length 0,.dead],?_,o,⟨λq y=>?_,?_⟩,step,λu hu _=>?_⟩;refine Ly.weak (F4.virt (t:=p.out) (sz:=n.sz) M) (Ly.seq (FX d1 ?_));rw[l1];have c3:CQ P ((Bt env).put p.out (.sl (A6 H).length 0 n.sz 0 0)) (A6 H++[.live 0 []]) (.load p.ty1 (.tmp p.c0))=some (.mp id):=by simp[CQ,BA,F7];rw[if_neg ct,al];simp[cO,t1,Ov];rw[CE (by rw[d];exact co),cf];rfl
   have bl:(A6 H++[EU.live 0 []])[id]? =some (.mp kk (I.map λp=>(p.1,n.enc p.2))):=by rw[CE (by rw[d];exact bd),O]
   refine UN.cons rfl (Da c3 (UN.cons rfl (Is.range (id:=id) (k:=kk) (es:=I.map λp=>(p.1,n.enc p.2)) rfl ?_ t2 bl (UN.nil ?_))));simp[BA,Env.putO,F7,if_true];rw[DF,Ai,Ax];dsimp[ot,Env.putO];refine Ly.block (Ly.of_loopW ?_);have a0:[p.out,p.a2,p.a3,p.a4,p.a5,p.a6,p.a7,p.a8,p.a9,p.a10,p.a11].Sublist p.tmps:=.cons₂ _ (.cons _ (.cons₂ _ (.cons₂ _ (.cons₂ _ (.cons₂ _ (.cons₂ _ (.cons₂ _ (.cons₂ _ (.cons₂ _ (.cons₂ _ (.cons₂ _ (.cons _ (.cons _ .slnil)))))))))))));have b8:=vB (P:=P) (N:=N) (te:=n) (kk:=kk) (es:=I) (Hb:=A6 H) (base:=Bt (XD p.tmps env)) (id:=id) (out:=p.out) (a2:=p.a2) (a3:=p.a3) (a4:=p.a4) (a5:=p.a5) (a6:=p.a6) (a7:=p.a7) (a8:=p.a8) (a9:=p.a9) (a10:=p.a10) (a11:=p.a11)
    (b1:=T) (b2:=J) (i2:=i2) (i3:=i3) (i4:=i4) (bb:=b') p2 p3 p4 ?_ ?_ ?_ ci ch O b9 t5 bz t3 t4 t6 t7 cc cd ad bt I.length [] PF (λj B=>by cases B) (by simpa using List.length_filter_le _ (List.range I.length)) (by have:=I6 (λj=>!decide (j∈([]:List Nat))) (List.range I.length);simpa[cQ]using this)
   refine L3.mono (L3.weak ?_ b8) ?_;refine F4.subset (N:=N) (H:=A6 H++[EU.live 0 [],EU.it I.length []]) λq y=>?_;rcases Am.1 y with rfl|y;exact Er (Er po (D 0 1 _ _ rfl rfl (by decide))) (D 0 2 _ _ rfl rfl (by decide));rcases Am.1 y with rfl|y;exact po;obtain⟨T,J⟩:=x q y;simp[VY.tmps,Am,not_or]at J;exact Er (Er (Er T J.1) J.2.1) J.2.2.1;rintro e E h ⟨rfl,C,K,b7,Q,ax,ar⟩;show jG T _ (.exit T) E h;simp[jG,if_true,ot];refine Ly.weak (F4.subset b7) (Ly.after (FX d5 ?_));rw[l5];obtain⟨b3,hf⟩:=gH hF;have a1:s.length=C.length:=by rw[L,<-K.length_eq,DF]
   have hA:=cv _ b3 C () s (hs C K) a1 h (A6 H).length ar;simp[Su.f]at hf;rw[hf]at hA;refine UN.cons rfl (Da (v:=.sl (A6 H).length C.length n.sz 0 C.length) (congrArg some iM) (UN.cons rfl (Is.mono (iT (F:=p.F) (vs:=[.sl (A6 H).length C.length n.sz 0 C.length,.fn (.func G) [] []]) ?_ hE hA) ?_)));show some (Sum.inl (p.F,[]++[Env.get _ p.a12,AV.fn (.func p.G) [] []]++[]))=_;simp only[Env.putO,F7,if_true,bG];rfl;rintro _ _ ⟨rfl,rfl⟩;refine UN.nil ⟨_,_,?_,rfl,rfl,rfl⟩;have c2:(h.set (A6 H).length (.live C.length (n.E.cl s))).length=h.length:=by simp
   rw[<-c2];refine Tt (by simp[A6];rw[Q,d]) λX g' w _=>?_;have hr:R6 (cx X g' (h.set (A6 H).length (.live C.length (n.E.cl s))) w) (cx X g' (h.set (A6 H).length (.live C.length (n.E.cl s))) w) (h.set (A6 H).length (.live C.length (n.E.cl s))) (A6 (H++[.buf false n s s.length 0,.dead])):=by
    refine⟨by simp[A6];rw[Q,d],λj e' B=>?_⟩;have same:(h.set (A6 H).length (.live C.length (n.E.cl s)))[j]? =some e'->e'= .dead\/_:=λhh=>(R6.refl (cx X g' (h.set (A6 H).length (.live C.length (n.E.cl s))) w) (h.set (A6 H).length (.live C.length (n.E.cl s)))).2 j e' hh;have c1:A6 (H++[.buf false n s s.length 0,.dead])=A6 H++[EU.live s.length (n.E.cl s),EU.dead]:=by simp[A6,Dn.enc]
    rw[c1]at B;rcases PI j (A6 H).length with b0|rfl|c8;rw[CE b0]at B;exact same (by rw[D3 (by omega),ax j b0];exact B);rw[Cr (Ak _),IZ]at B;exact same (by rw[HF (by omega),<-a1];exact B);rw[Cr (by omega)]at B;rcases PI (j-(A6 H).length) 1 with q|q|q;omega;rw[q]at B;injection B with B;exact .inl B.symm;rw[Cs (by simp;omega)]at B;cases B
   refine⟨hr.onto,λt v' S=>⟨v',?_,λc r=>r.later hr.later⟩⟩;simp[Env.putO];have S:(t,v')∈(p.out,AV.sl (A6 H).length s.length n.sz 0 s.length)::Bt (XD p.tmps env):=by rw[d];exact S
   rcases Am.1 S with e|S;cases e;rw[a1];exact Er (Er JP (D 0 12 _ _ rfl rfl (by decide))) (D 0 13 _ _ rfl rfl (by decide));obtain⟨T,J⟩:=x _ S;simp only[VY.tmps,Am,not_or]at J;exact Er (Er (CA _ S) J.2.2.2.2.2.2.2.2.2.2.2.2.1) J.2.2.2.2.2.2.2.2.2.2.2.2.2.1;exact b4.sublist a0;exact λt ht=>hN t (a0.subset ht);exact λq y S=>(x q y).2 (a0.subset S);rcases Am.1 y with rfl|y;exact JW b6;exact step.tv (ok.env q (Te y).1);intro e he;rcases Ap.1 he with he|he;exact step.ent (ok.heap e he);simp[Am,List.not_mem_nil,or_false]at he;rcases he with rfl|rfl;rfl;trivial;show BS.get _ u=_;have:p.out≠u:=λe=>hu (by rw[<-e];simp[VY.tmps]);simp[BS.get,beq_false this];exact jO hu env
 cases o;cases o;cases o;cases o;cases o;cases o
end
abbrev Sem:= ∀{R:Type},BS->An->(Exit->BS->An->Option R)->Option R
def ia:List (Nat×Ty)->BS->An->Option (BS×An)
 |[],env,H=>some (env,H)
 |(t,ty)::r,env,H=>
  match env.get t with
  | .c .nil=>ia r (env.put t (.c (.own H.length 0 ty 0))) (H++[.buf false ty [] 0 0])
  |_=>none
def ly:Nat->List Bc->Option (List Bc×List Bc)
 |0,.nil::r=>some ([],r)
 |n+1,x::r=>match ly n r with|some (a,b)=>some (x::a,b)|none=>none
 |_,_=>none
def eL:List (Nat×Nat×Ty)->An->Option An
 |[],H=>some H
 |(b,i,ty)::r,H=>
  match H[b]? with
  |some (.live false cs)=>
   match ly i cs with
   |some (x,y)=>eL r (H.set b (.live false (x++ .own H.length 0 ty 0::y))++[.buf false ty [] 0 0])
   |none=>none
  |_=>none
def zu(h:Hint)(env:BS)(H:An):Option (BS×An):=
 match ia h.virt env H with
 |some (e,H1)=>match eL h.virtC H1 with|some H2=>some (e,H2)|none=>none
 |none=>none
def zk(h:Hint)(n:Nat)(eb:BS)(H0:An)(S:List Nat)(k:Exit->BS->An->Option R)(o:pg h.exits):Option R:=
 ABS h.exits o λx sl ds=>
  match Ud sl ds eb H0 with
  |some (e,hh)=>match nK n e&&(fE n hh&&S.all λj=>Ni j (K1 sl))with|true=>k x e hh|false=>none
  |none=>none
def xN(h:Hint)(A:List Nat)(run:Sem):Sem:=λenv H k=>
 match zu h env H with
 |none=>none
 |some (env0,H0)=>
  match jm env0 with
  |false=>none
  |true=>(run env0 (Lx (K1 h.slots) 0 H0) λx e1 h1=>tF h.exits x e1 h1).bind λo=>zk h H0.length (PM A (K1 h.slots) H0 env0) H0 (K1 h.slots) k o
def uU(h:Hint)(x:Exit)(env:BS)(H:An):Option (Step (DL (cD h.slots)) (pg h.exits)):=
 match qf .normal x with
 |true=>match qT h.slots env H with|some s=>some (.next s)|none=>none
 |false=>match tF h.exits x env H with|some o=>some (.done o)|none=>none
noncomputable def xS(h:Hint)(A:List Nat)(run:Sem):Sem:=λenv H k=>
 match zu h env H with
 |none=>none
 |some (env1,H1)=>
  match H6 (h.kill++fZ env1 H1 h.slots) env1 H1 with
  |(env0,H0)=>
   match jm env0,Xv env0 H0 h.slots with
   |true,some ds=>
    match tA (cD h.slots) ds with
    |some s0=>(Ad (λs=>
      match Ud h.slots (w8 (cD h.slots) s) (PM A (K1 h.slots) H0 env0) (Lx (K1 h.slots) 0 H0)with
      |some (e,hh)=>match nK H0.length e&&fE H0.length hh with|true=>run e hh λx e1 h1=>uU h x e1 h1|false=>none
      |none=>none) s0).bind λo=>zk h H0.length (PM A (K1 h.slots) H0 env0) H0 (K1 h.slots) k o
    |none=>none
   |_,_=>none
def uH(c:Operand)(ra rb:Sem):Sem:=λenv H k=>
 match Iu env c with
 | .c (.bl v)=>cond v (ra env H k) (rb env H k)
 |_=>none
def sR(id:Nat)(r:Sem):Sem:=λenv H k=>r env H λe env' H'=>
 match e with
 | .exit id'=>match Nat.beq id' id with|true=>k .normal env' H'|false=>k (.exit id') env' H'
 |e=>k e env' H'
def oJ(o:Option Hint)(A:List Nat)(run:Sem):Sem:=
 match o with
 |some h=>xN h A run
 |none=>run
noncomputable def AAb(o:Option Hint)(A:List Nat)(run:Sem):Sem:=
 match o with
 |some h=>xS h A run
 |none=>λ_ _ _=>none
def bq:BS->BS
 |[]=>[]
 |(t,v)::r=>match KM v.refs with|[]=>(t,v)::bq r|_=>bq r
def tP(P:Program)(call:RW)(N:Nat)(me:FuncId)(f:Operand)(ps:Array Tmp)(a b:Code):Sem:=λenv H k=>
 match Iu env f with
 | .c (.raw (.fn (.func G) first caps))=>
  match Z8 P G with
  |true=>call (.fn G) (first.map wF++[.c (.raw (.yf H.length))]++caps.map wF) (H++[.lp false me N (bq env) ps a b .ready]) λ_ H'=>
   match H'[H.length]? with
   |some (.lp false _ _ _ _ _ _ .ready)=>k .normal env (H'.set H.length .dead)
   |some (.lp false _ _ _ _ _ _ .ret)=>k .ret env (H'.set H.length .dead)
   |some (.lp false _ _ _ _ _ _ (.exit x))=>k (.exit x) env (H'.set H.length .dead)
   |_=>none
  |false=>none
 |_=>none
noncomputable def gZ(P:Program)(cs:List Su)(call:RW)(N:Nat)(me:FuncId)(hs:List Hint):Code->Sem
 | .skip=>λenv H k=>k .normal env H
 | .ret=>λenv H k=>k .ret env H
 | .exit id=>λenv H k=>k (.exit id) env H
 | .seq a (.seq m r)=>λenv H k=>
  match gx a m with
  |some p=>wk P N cs p env H λenv' H'=>gZ P cs call N me hs r env' H' k
  |none=>gZ P cs call N me hs a env H λe env' H'=>match e with| .normal=>gZ P cs call N me hs (.seq m r) env' H' k|e=>k e env' H'
 | .seq a b=>oJ (lP hs a b) (Pq hs (.seq a b)) λenv H k=>gZ P cs call N me hs a env H λe env' H'=>match e with| .normal=>gZ P cs call N me hs b env' H' k|e=>k e env' H'
 | .cond c a b=>oJ (bm hs (.cond c a b)) (Pq hs (.cond c a b)) (uH c (gZ P cs call N me hs a) (gZ P cs call N me hs b))
 | .block id b=>oJ (bm hs (.block id b)) (Pq hs (.block id b)) (sR id (gZ P cs call N me hs b))
 | .loop b=>AAb (bm hs (.loop b)) (Pq hs (.loop b)) (gZ P cs call N me hs b)
 | .region id ops false=>oJ (bm hs (.region id ops false)) (Pq hs (.region id ops false)) λenv H k=>
  match N4 N ops.toList with
  |true=>rX P cs call ops (guards ops) false ops.toList 0 env H λenv' H'=>k .normal env' H'
  |false=>none
 | .region id ops true=>λenv H k=>
  match P.follows .mixedOrders&&uk ops N (tM ops)&&Ts P ops&&jm env with
  |true=>tX P cs call ops (H4 ops.toList []) (guards ops) (match hY 3 id hs with|some _=>true|none=>false) (tM ops) [] env H λenv' H'=>k .normal env' H'
  |false=>none
 | .rangeFunc f ps a b=>tP P call N me f ps a b
 |_=>λ_ _ _=>none
def AAE{f:List Hint}(j: ∀m r,G≠ .seq m r)(env:BS)(H:An)(g:Exit→BS→An→Option R):
  gZ P c k N F f (.seq d G) env H g=oJ (lP f d G) (Pq f (.seq d G)) (λenv H g=>gZ P c k N F f d env H λe h i=>match e with| .normal=>gZ P c k N F f G h i g|e=>g e h i) env H g:=by
 cases G<;>first|rfl|exact absurd rfl (j _ _)
def Ow(P:Program)(N:Nat)(A:List Nat)(c:Code)(run:Sem):Prop:= ∀{R:Type} (env:BS) (H:An) (k:Exit->BS->An->Option R) (r:R),PB env H->run env H k=some r->
 ∃e env' H',nX P N c (Bt env) (A6 H) (Vn e (Bt env') (A6 H'))/\k e env' H'=some r/\PB env' H'/\E4 A env H env' H'
theorem ur: ∀{l:List (Nat×Ty)} {env:BS} {H:An} {a:BS} {b:An},PB env H→ia l env H=some (a,b)→
  PB a b/\E4 (l.map (·.1)) env H a b/\ ∀N,F4 N H.length (Bt env) (A6 H) (Bt a) (A6 b)
 |[],env,H,a,b,ok,h=>by grind[ia,E4.refl,F4.refl,CV]
 |(t,ty)::r,env,H,a,b,ok,h=>by
  simp only[ia]at h;split at h;rename_i n;have j:B4 H (H++[.buf false ty [] 0 0]):=B4.push H _;have g:(H++[Dn.buf false ty [] 0 0])[H.length]? =some (.buf false ty [] 0 0):=by simp
  have i:PB (env.put t (.c (.own H.length 0 ty 0))) (H++[.buf false ty [] 0 0]):=by refine⟨bw (d:=some t) (j.env ok.env) (JW (VV g)),λe f=>?_⟩;rcases Ap.1 f with f|f;exact j.ent (ok.heap e f);rw[A2.1 f];rfl
  obtain⟨q1,q2,q3⟩:=ur i h;refine⟨q1,?_,λN=>?_⟩;have p:E4 [t] env H (env.put t (.c (.own H.length 0 ty 0))) (H++[.buf false ty [] 0 0]):=⟨j,λu o _=>iZ λe=>o (by simp[e])⟩
  exact E4.trans ok.env p q2;have w:=F4.virt (N:=N) (env:=Bt env) (H:=A6 H) (t:=t) (sz:=ty.sz) (by rw[SV,n];rfl);have k:=(q3 N).of_le (n0:=H.length) (by simp);rw[g9]at k;have m:A6 (H++[.buf false ty [] 0 0])=A6 H++[.live 0 []]:=by simp[A6,Dn.enc,Sv.cl]
  rw[m]at k;rw[CV]at w;exact w.trans k;cases h
def kK: ∀{n:Nat} {e x y:List Bc},ly n e=some (x,y)->e=x++ .nil::y
 |0,[],_,_,h=>by cases h
 |0,z::r,x,y,h=>by
  cases z<;>simp only[ly]at h<;>try (cases h;done)
  injection h with h;injection h with c d;subst c d;rfl
 |n+1,[],_,_,h=>by cases h
 |n+1,z::r,x,y,h=>by simp only[ly]at h;split at h;rename_i a b hr;injection h with h;injection h with c d;subst c d;rw[kK hr];rfl;cases h
theorem sA{env:BS}: ∀{l:List (Nat×Nat×Ty)} {H c:An},PB env H→eL l H=some c→
  PB env c/\B4 H c/\ ∀N,F4 N H.length (Bt env) (A6 H) (Bt env) (A6 c)
 |[],H,c,ok,h=>by grind[eL,Option.some.injEq,B4.refl,F4.refl,Bt,A6,CV]
 |(b,i,ty)::r,H,c,ok,h=>by
  simp only[eL]at h;split at h;rename_i E v;split at h;rename_i x y B;have m:=kK B;subst m;have D:b<H.length:=by grind
  have f:B4 H (H++[Dn.buf false ty [] 0 0]):=B4.push H _;have a:H.set b (Dn.live false (x++Bc.own H.length 0 ty 0::y))++[Dn.buf false ty [] 0 0]=(H++[Dn.buf false ty [] 0 0]).set b (Dn.live false (x++Bc.own H.length 0 ty 0::y)):=by grind
  have j:(H++[Dn.buf false ty [] 0 0])[b]? =some (Dn.live false (x++Bc.nil::y)):=by grind
  have g:B4 (H++[Dn.buf false ty [] 0 0]) ((H++[Dn.buf false ty [] 0 0]).set b (Dn.live false (x++Bc.own H.length 0 ty 0::y))):=B4.set j rfl λ_ _ _ _ _ e=>by cases e
  have n:(H++[Dn.buf false ty [] 0 0])[H.length]? =some (.buf false ty [] 0 0):=by simp
  have t:lok H (x++Bc.nil::y):=ok.heap _ (BK v);have s: ∀e∈H++[Dn.buf false ty [] 0 0],e.ok (H++[Dn.buf false ty [] 0 0]):=λe d=>by rcases Ap.1 d with d|d;exact f.ent (ok.heap e d);rw[A2.1 d];rfl
  have u:lok (H++[Dn.buf false ty [] 0 0]) (x++Bc.own H.length 0 ty 0::y):=by have q:=Ie.1 (f.lok t);refine Ie.2 ⟨q.1,λz o=>?_⟩;rcases Am.1 o with rfl|o;exact VV n;exact q.2 z (CA _ o)
  rw[a]at h;have p:PB env ((H++[Dn.buf false ty [] 0 0]).set b (Dn.live false (x++Bc.own H.length 0 ty 0::y))):=⟨g.env (f.env ok.env),heap_set g s (g.lok u)⟩
  obtain⟨q1,q2,q3⟩:=sA p h;refine⟨q1,(f.trans g).trans q2,λN=>?_⟩;have k:(A6 H)[b]? =some (.live 0 (lvs (x++Bc.nil::y))):=by rw[E8,v];rfl
  have C:(lvs (x++Bc.nil::y))[(lvs x).length]? =some .nils:=by grind[Gm,HT,Bc.enc]
  have w:=F4.virtC (N:=N) (env:=Bt env) (sz:=ty.sz) k C;have A:A6 ((H++[Dn.buf false ty [] 0 0]).set b (Dn.live false (x++Bc.own H.length 0 ty 0::y)))=(A6 H).set b (.live 0 ((lvs (x++Bc.nil::y)).set (lvs x).length (.sl (A6 H).length 0 ty.sz 0 0)))++[.live 0 []]:=by
   rw[<-a];have:(lvs (x++Bc.nil::y)).set (lvs x).length (.sl (A6 H).length 0 ty.sz 0 0)=lvs (x++Bc.own H.length 0 ty 0::y):=by grind[Gm,HT,CV,Bc.enc]
   grind[A6,Dn.enc,Sv.cl,List.map_set]
  rw[<-A,CV]at w;exact w.trans ((q3 N).of_le (by simp));cases h;cases h
theorem uh(ok:PB f b)(H:zu s f b=some (I,A)):
  PB I A/\E4 (s.virt.map (·.1)) f b I A/\ ∀N,F4 N b.length (Bt f) (A6 b) (Bt I) (A6 A):=by
 unfold zu at H;split at H;rename_i e d n;obtain⟨a1,a2,a3⟩:=ur ok n;split at H;rename_i h m;injection H with H;injection H with k l;subst k l;obtain⟨g,i,j⟩:=sA a1 m;have o:E4 [] e d e h:=⟨i,λ_ _ _=>rfl⟩
 exact⟨g,(E4.trans ok.env a2 o).mono λt p=>by grind,λN=>(a3 N).trans ((j N).of_le a2.step.len)⟩;cases H;cases H
theorem nr{A S:List Nat}{H:An}: ∀{env:BS},(env.map (·.1)).Nodup-> ∀t,env.get t=S4->(PM A S H env).get t=S4
 |[],_,_,_=>rfl
 |(u,v)::r,nd,t,h=>by have a:=Fg.1 nd;simp only[BS.get]at h;by_cases b:u=t;subst b;have hn: ∀p∈PM A S H r,p.1≠u:=λp c e=>a.1 (Bi.2 ⟨p,(Pr a.2 p c).2.2,e⟩);grind[PM,BS.get,fV];rw[beq_false b]at h;have d:=nr (A:=A) (S:=S) (H:=H) a.2 t h;grind[PM,BS.get,beq_false]
theorem uO{h:Hint}{A B:List Nat}{env0:BS}{e:An}{D:BS}{E:An}(m:PB env0 e)(nd:(env0.map (·.1)).Nodup)(M:sH A (K1 h.slots) env0 e D E)
  {env1:BS} {u:An} (C:PB env1 u) (U:E4 B D E env1 u) (K: ∀t,t∈B->t∈A) (J: ∀t,t∈h.tmps->t∈A) {x:Exit} {o:pg h.exits} (Q:tF h.exits x env1 u=some o)
  {R:Type} {k:Exit->BS->An->Option R} {r:R} (f:zk h e.length (PM A (K1 h.slots) e env0) e (K1 h.slots) k o=some r) (N:Nat):
  ∃g i,F4 N e.length (Bt env1) (A6 u) (Bt g) (A6 i)/\k x g i=some r/\PB g i/\E4 A env0 e g i:=by
 obtain⟨rfl,L,p,S,y⟩:=oX Q;have f:=oW f;split at f;rename_i g i O;split at f;rename_i v;simp at v;have sub: ∀j,Ni j (K1 (ph h.exits o).2.1)=false->Ni j (K1 h.slots)=false:=λj d=>Tm λG=>by grind
 obtain⟨w,X,Z,z⟩:=uB m nd M C U K L m.heap rfl (xR e) (λ_ _ _ _ q=>q) (λj H d c=>by
  cases H with
  |dead=>grind
  |live b W=>exact .inr ⟨_,sub j d,by rw[J3,c,D5,sub j d];rfl,rfl,.inr (.inl ⟨_,_,_,_,rfl,rfl,DT.refl _⟩)⟩
  |buf b t l n V=>exact .inr ⟨_,sub j d,by rw[J3,c,D5,sub j d];rfl,rfl,.inr (.inr (.inl ⟨_,_,_,_,_,_,_,rfl,rfl⟩))⟩
  |mp b k t Y=>exact .inr ⟨_,sub j d,by rw[J3,c,D5,sub j d];rfl,rfl,.inr (.inr (.inr (.inr ⟨_,_,_,_,_,rfl,rfl⟩)))⟩
  |lp ro F n env ps a b s=>exact .inr ⟨_,sub j d,by rw[J3,c,D5,sub j d];rfl,rfl,.inr (.inr (.inr (.inl ⟨_,_,_,_,_,_,_,_,_,rfl,rfl⟩)))⟩) O v.1 v.2.1 N
 refine⟨g,i,w,f,z.ok,z.step,λt T P=>?_⟩;have I:=Tm λG=>T (J t (by refine Ap.2 (.inr (Hg.2 ⟨p,S,?_⟩));rw[<-y];exact G));rw[z.get t I];grind[qM,S4,nr,eP,xP,Tm];cases f;cases f
variable {P:Program} {N:Nat}
variable {h:Sem}
theorem qy(hr:Ow P N z d h)(n: ∀t,t∈z->t∈a)(m: ∀t,t∈s.tmps->t∈a):Ow P N a d (xN s a h):=by
 intro R env H k r ok B;unfold xN at B;dsimp only at B;split at B;cases B;rename_i env0 f v;split at B;cases B;rename_i hn;obtain⟨o,A,B⟩:=bnd B;obtain⟨b,x,y⟩:=uh ok v;have nd:=XK hn;obtain⟨e,env1,c,a1,k1,g,i⟩:=hr env0 (Lx (K1 s.slots) 0 f) _ o (iR b) A;have q:sH a (K1 s.slots) env0 f env0 (Lx (K1 s.slots) 0 f):=⟨iR b,B4.refl _,J4 _ _,λ_ _=>rfl,λp u=>(Pr nd p u).1⟩
 obtain⟨j,l,w,q1,q2,q3⟩:=uO b nd q g i n m k1 B N;refine⟨e,j,l,?_,q1,q2,?_⟩;rw[oM]at a1;refine nX.weak (by rw[CV];exact y N) (nX.after (a1.mono ?_));rintro _ _ _ ⟨rfl,rfl,rfl⟩;exact⟨_,_,by rw[CV];exact w,rfl,rfl,rfl⟩;exact(E4.trans ok.env x q3).mono λt C=>by grind[Hint.tmps]
theorem xT(hr:Ow P N z d h)(hB: ∀t,t∈z->t∈a)(X: ∀t,t∈s.tmps->t∈a):Ow P N a (.loop d) (xS s a h):=by
 intro R env H k r ok g;unfold xS at g;dsimp only at g;split at g;cases g
 ·rename_i E Hv hv;obtain⟨bd,sv,wv⟩:=uh ok hv;obtain⟨m,sf,wf⟩:=Pv (s.kill++fZ E Hv s.slots) bd;generalize H6 (s.kill++fZ E Hv s.slots) E Hv=fz at g m sf wf;obtain⟨env0,f⟩:=fz;simp only at g m sf wf;split at g
  ·rename_i ds hn hc;split at g
   ·rename_i s0 a8;obtain⟨o,ho,g⟩:=bnd g;have nd:=XK hn;have v: ∀e∈Lx (K1 s.slots) 0 f,e.ok (Lx (K1 s.slots) 0 f):=(iR m).heap;have hC:=su (C:=λB o=> ∀r,zk s f.length (PM a (K1 s.slots) f env0) f (K1 s.slots) k o=some r->
     ∃u i,Ud s.slots (w8 (cD s.slots) B) (PM a (K1 s.slots) f env0) (Lx (K1 s.slots) 0 f)=some (u,i)/\nK f.length u=true/\fE f.length i=true/\(sH a (K1 s.slots) env0 f u i-> ∃x D G,L3 P N d (Bt u) (A6 i) (Vn x (Bt D) (A6 G))/\k x D G=some r/\PB D G/\E4 a env0 f D G)) (λB q U=>by
     split at U
     ·rename_i u i hi;split at U
      ·rename_i I;simp only[BT]at I;have body: ∀y:sH a (K1 s.slots) env0 f u i,∃e env1 J,nX P N d (Bt u) (A6 i) (Vn e (Bt env1) (A6 J))/\uU s e env1 J=some q/\PB env1 J/\E4 z u i env1 J:=λy=>hr u i _ q y.ok U;cases q with
       |next s'=>
        intro o ih r g;obtain⟨ad,ar,i1,i2,i3,i4⟩:=ih r g;refine⟨u,i,hi,I.1,I.2,λy=>?_⟩;obtain⟨e,env1,J,a1,k1,O,Q⟩:=body y;unfold uU at k1;split at k1;rename_i hx;have:=mA hx;subst this;split at k1;rename_i s1 a9;injection k1 with k1;injection k1 with k1;subst k1;have a3:=gD a9;obtain⟨w,ea,ha,c⟩:=uB (Hx:=Lx (K1 s.slots) 0 f) m nd y O Q hB a3 v (J4 _ _) (.refl _) (λ_ _ _ _ q=>mc q) (λj e' L A=>by
         cases Y:f[j]? with
         |none=>grind[J3]
         |some W=>
          have Z:=A;rw[J3,Y,D5,L]at A;simp only[Bf,Aj]at A;subst A;cases W with
          |dead=>exact .inl rfl
          |live b cs=>exact .inr ⟨_,L,Z,rfl,.inr (.inl ⟨_,_,_,_,rfl,rfl,DT.refl _⟩)⟩
          |buf b t l n bl=>exact .inr ⟨_,L,Z,rfl,.inr (.inr (.inl ⟨_,_,_,_,_,_,_,rfl,rfl⟩))⟩
          |mp b k t es=>exact .inr ⟨_,L,Z,rfl,.inr (.inr (.inr (.inr ⟨_,_,_,_,_,rfl,rfl⟩)))⟩
          |lp ro F n env ps V b B=>exact .inr ⟨_,L,Z,rfl,.inr (.inr (.inr (.inl ⟨_,_,_,_,_,_,_,_,_,rfl,rfl⟩)))⟩) i1 i2 i3 N
        have a4:sH a (K1 s.slots) env0 f ad ar:=⟨c.ok,c.step,by rw[c.len,J4],c.same,λp M=>by
         obtain⟨T,b2,b3⟩:=Pr nd p M;have K:Ni p.1 a=false:=by grind[cN,Ni]
         rw[c.get p.1 (Tm λhm=>R2 K (X _ (by unfold Hint.tmps;simp only[List.mem_append];exact .inl (.inr hm))))];rw[eP nd p.1 (by rw[T];exact b2)];exact T⟩
        obtain⟨x,D,G,l1,l2,l3,l4⟩:=i4 a4;refine⟨x,D,G,RR (a1.awp.mono ?_),l2,l3,l4⟩;rintro _ _ _ ⟨rfl,rfl,rfl⟩;exact⟨_,_,by rw[CV,y.len];exact w,l1⟩;cases k1;split at k1<;>grind
       |done o=>
        intro r g;refine⟨u,i,hi,I.1,I.2,λy=>?_⟩;obtain⟨e,env1,J,a1,k1,O,Q⟩:=body y;unfold uU at k1;split at k1;split at k1<;>grind;rename_i hx;split at k1;rename_i o1 a7;injection k1 with k1;injection k1 with k1;subst k1;obtain⟨D,G,w,q1,q2,q3⟩:=uO m nd y O Q hB X a7 g N;have a6:e≠ .normal:=by rintro rfl;cases hx
        refine⟨e,D,G,L3.after (RR (a1.awp.mono ?_)),q1,q2,q3⟩;intro e1 al bt a';obtain⟨ax,a0,a2⟩:=a';subst ax a0 a2;have ap: ∃env2 H2,F4 N (A6 i).length (Bt env1) (A6 J) env2 H2/\Vn e1 (Bt D) (A6 G) e1 env2 H2:=⟨_,_,by rw[CV,y.len];exact w,rfl,rfl,rfl⟩
        cases e1 with
        |normal=>exact(a6 rfl).elim
        |_=>exact ap
        cases k1
      cases U
     cases U) ho
    obtain⟨u,i,i1,i2,i3,i4⟩:=hC r g;have a5:=jl a8;rw[a5]at i1;have bb:PB (PM a (K1 s.slots) f env0) (Lx (K1 s.slots) 0 f):=⟨λp M=>(iR m).env p (Pr nd p M).2.2,v⟩
    have c:=Nh m hc i1 bb (by rw[J4];exact Ak _) (λp M=>⟨p.2,(Pr nd p M).2.2,Un.refl _⟩) (λj e' L A=>by
     rw[J3]at A;cases Y:f[j]? with
     |none=>rw[Y]at A;cases A
     |some W=>
      rw[Y,D5,L]at A;simp only[Bf,Aj]at A;subst A;refine⟨W,rfl,?_⟩;cases W with
      |dead=>exact .inl rfl
      |live b cs=>exact .inr (.inl ⟨_,_,_,_,rfl,rfl,DT.refl _⟩)
      |buf b t l n bl=>exact .inr (.inr (.inl ⟨_,_,_,_,_,_,_,rfl,rfl⟩))
      |mp b k t es=>exact .inr (.inr (.inr (.inr ⟨_,_,_,_,_,rfl,rfl⟩)))
      |lp ro F n env ps V b B=>exact .inr (.inr (.inr (.inl ⟨_,_,_,_,_,_,_,_,_,rfl,rfl⟩)))) (zf f)
    have w:=c.weak (N:=N) (by rw[J4];exact Ak _) (by rw[J4];exact i2) (by rw[J4];exact i3);rw[J4]at w;have y:sH a (K1 s.slots) env0 f u i:=⟨c.ok,c.step,by rw[c.len,J4],c.same,λp M=>by
     obtain⟨T,b2,b3⟩:=Pr nd p M;have K:Ni p.1 a=false:=by grind[cN,Ni]
     rw[c.get p.1 (Tm λhm=>R2 K (X _ (by unfold Hint.tmps;simp only[List.mem_append];exact .inl (.inr hm))))];rw[eP nd p.1 (by rw[T];exact b2)];exact T⟩
    obtain⟨x,D,G,l1,l2,l3,l4⟩:=i4 y;have w3:F4 N H.length (Bt env) (A6 H) (Bt u) (A6 i):=((wv N).trans ((wf N).of_le (by rw[CV];exact sv.step.len))).trans (w.of_le (Cv sv.step.len sf.step.len));refine⟨x,D,G,nX.weak (by rw[CV];exact w3) l1,l2,l3,?_⟩;exact(E4.trans ok.env (E4.trans ok.env sv sf) l4).mono λt S=>by rcases Ap.1 S with S|S;rw[Do]at S;exact X t (by unfold Hint.tmps;simp only[List.mem_append];exact .inl (.inl (.inr S)));exact S
   cases g
  cases g
def wq{A B:List Nat}{j:Sem}(l:Ow P N A d h)(m:Ow P N B G j):Ow P N (A++B) (.cond E d G) (uH E h j):=by
 intro R env H k r ok f;unfold uH at f;dsimp only at f;split at f;rename_i v n;have i:BA (Bt env) E= .bool v:=by have:=KU env E;rw[n]at this;exact this
 cases v with
 |true=>obtain⟨e,c,g,a1,q1,q2,q3⟩:=l env H k r ok f;exact⟨e,c,g,D4 (λ_ e=>by cases e) (Ly.cond i (λ_=>a1.awp) (λe=>by cases e)),q1,q2,q3.mono λt a=>Ap.2 (.inl a)⟩
 |false=>obtain⟨e,c,g,a1,q1,q2,q3⟩:=m env H k r ok f;exact⟨e,c,g,D4 (λ_ e=>by cases e) (Ly.cond i (λe=>by cases e) (λ_=>a1.awp)),q1,q2,q3.mono λt a=>Ap.2 (.inr a)⟩
 cases f
def uz{A:List Nat}(hr:Ow P N A d h):Ow P N A (.block n d) (sR n h):=by
 intro R env H k r ok i;obtain⟨e,a,f,a1,q1,q2,q3⟩:=hr env H _ r ok i;cases e with
 |exit c=>
  simp only at q1;split at q1;rename_i b;have:=DP b;refine⟨.normal,a,f,D4 (λ_ e=>by cases e) (Ly.block (a1.awp.mono ?_)),q1,q2,q3⟩;rintro _ _ _ ⟨rfl,rfl,rfl⟩;simp only[jG,if_pos this];exact⟨rfl,rfl,rfl⟩;rename_i b;have g:c≠n:=λe=>by simp_all
  refine⟨.exit c,a,f,D4 (λ_ e=>by cases e) (Ly.block (a1.awp.mono ?_)),q1,q2,q3⟩;rintro _ _ _ ⟨rfl,rfl,rfl⟩;simp only[jG,if_neg g];exact⟨rfl,rfl,rfl⟩
 |_=>refine⟨_,a,f,D4 (λ_ e=>by cases e) (Ly.block (a1.awp.mono ?_)),q1,q2,q3⟩;rintro _ _ _ ⟨rfl,rfl,rfl⟩;exact⟨rfl,rfl,rfl⟩
end Go.Ab
namespace Go.Ab
variable {P:Program} {N:Nat}
variable {N n y:Nat}{a z:List Nat}{R L:Type}{b A:An}{c:List Su}{d G:Code}{F:FuncId}{f I M:BS}{P:Program}{g:List AV}{h:Sem}{i:AV}{j:Bool}{k:RW}{p:Ty}{q:Int}{t:List TV}{v:World}{x:Exit}{B:VY}{E:Operand}{J:Func}
def Ow.mono(B:Ow P N a d h)(f: ∀t,t∈a->t∈z):Ow P N z d h:=λenv H k r ok g=>by obtain⟨e,c,A,q1,q2,q3,q4⟩:=B env H k r ok g;exact⟨e,c,A,q1,q2,q3,q4.mono f⟩
def mV{hs:List Hint}{A B:List Nat}(hr:Ow P N B d h)(c: ∀t,t∈B->t∈A)(b: ∀t,t∈kT hs d->t∈A):Ow P N A d (oJ (bm hs d) A h):=by
 unfold kT at b;generalize bm hs d=o at b⊢;cases o with
 |none=>exact hr.mono c
 |some a=>exact qy hr c b
def xU{hs:List Hint}{A B:List Nat}(hr:Ow P N B d h)(c: ∀t,t∈B->t∈A)(b: ∀t,t∈kT hs (.loop d)->t∈A):Ow P N A (.loop d) (AAb (bm hs (.loop d)) A h):=by
 unfold kT at b;generalize bm hs (.loop d)=o at b⊢;cases o with
 |none=>exact λenv H k r ok e=>by cases e
 |some a=>exact xT hr c b
def Tn: ∀{env:BS} {p:Nat×TV},p∈bq env->p∈env/\KM p.2.refs=[]
 |(t,v)::r,p,h=>by simp only[bq]at h;split at h;rename_i a;rcases Am.1 h with rfl|h;exact⟨JP,a⟩;exact⟨CA _ (Tn h).1,(Tn h).2⟩;exact⟨CA _ (Tn h).1,(Tn h).2⟩
theorem vf(S:Um P k){C:Array Tmp}:Ow P N a (.rangeFunc E C d G) (tP P k N F E C d G):=by
 intro R env H Q r ok w;unfold tP at w;dsimp only at w;split at w;rename_i y first m hf
 split at w;rename_i hE;have e1:BA (Bt env) E= .fn (.func y) first m:=by rw[KU,hf];rfl
 have I:(Dn.lp false F N (bq env) C d G .ready).ok (H++[.lp false F N (bq env) C d G .ready]):=λp T id al t n hm=>by have:=gR hm;rw[(Tn T).2]at this;cases this
 have V:B4 H (H++[.lp false F N (bq env) C d G .ready]):=B4.push H _;obtain⟨v,i,q1,q2,q3,q4,q5⟩:=S (.fn y) _ _ _ r (λv Y=>by simp only[Ap,Bi,A2]at Y;rcases Y with(⟨u,_,rfl⟩|rfl)|⟨u,_,rfl⟩;exact eK u;exact JW trivial;exact eK u) (Od ok.heap I) w
 have z: ∀{ro:Bool} {A n e p c b} {s:LS} {x:Exit},i[H.length]? =some (.lp ro A n e p c b s)→ro=false→(∀L:fO,L.state=s.st→L.pending=s.pend→xz P N (Bt env) H.length (Vn x (Bt env) (A6 (i.set H.length .dead))) ((A6 i).set H.length (.lp L)))→Q x env (i.set H.length .dead)=some r→
   ∃W g O,nX P N (.rangeFunc E C d G) (Bt env) (A6 H) (Vn W (Bt g) (A6 O))/\Q W g O=some r/\PB g O/\E4 a env H g O:=by
  intro ro A n e p c b s x q U hq w;subst U;have M:B4 i (i.set H.length .dead):=B4.set q rfl λ_ _ _ _ _ h=>by cases h
  have Z:=(V.trans q5).trans M;refine⟨x,env,_,D4 (λ_ e=>by cases e) (fF (Bt (bq env)) (λp T=>?_) e1 hE ?_),w,⟨Z.env ok.env,So M q4 trivial⟩,Z,λ_ _ _=>rfl⟩;obtain⟨u,hu,rfl⟩:=Bi.1 T;exact Bi.2 ⟨u,(Tn hu).1,rfl⟩;have K:Et P y _ _ _:=q1;have B:(first.map wF++[TV.c (.raw (.yf H.length))]++m.map wF).map TV.enc=first++[.yf (A6 H).length]++m:=by
   have X: ∀l:List AV,(l.map wF).map TV.enc=l:=by
    intro l;rw[Nt];conv=>rhs;rw[<-aA l]
    grind[List.map_congr_left,cH]
   rw[L5,L5,X,X,CV];rfl
  rw[B,Pt]at K;apply K.mono;rintro _ _ ⟨rfl,rfl⟩;rw[CV];have J:A6 i=(A6 i).set H.length (.lp ⟨n,Bt e,p,c,b,s.st,s.pend⟩):=by
   have hg:(A6 i)[H.length]? =some (.lp ⟨n,Bt e,p,c,b,s.st,s.pend⟩):=by rw[E8,q];rfl
   apply Mw;intro j;by_cases ad:j=H.length<;>grind
  rw[J];exact hq _ rfl rfl
 have look: ∀L:fO,H.length<i.length->((A6 i).set H.length (.lp L))[H.length]? =some (.lp L):=λL h=>by grind[List.getElem?_set_self,CV]
 have o: ∀L:fO,((A6 i).set H.length (.lp L)).set H.length .dead=A6 (i.set H.length .dead):=λL=>by rw[Vd,M5];rfl
 split at q2;rename_i q;refine z q rfl (λL D f=>⟨L,look L (G1 q),by rw[D];simp[LS.st],?_⟩) q2;rw[f,o];exact⟨rfl,rfl,rfl⟩;rename_i q;refine z q rfl (λL D f=>⟨L,look L (G1 q),by rw[D];simp[LS.st],?_⟩) q2;rw[f,o];exact Ly.ret ⟨rfl,rfl,rfl⟩;rename_i x q;refine z q rfl (λL D f=>⟨L,look L (G1 q),by rw[D];simp[LS.st],?_⟩) q2;rw[f,o];exact Ly.exit ⟨rfl,rfl,rfl⟩;cases q2;cases w;cases w
theorem wo{hs:List Hint}(h:gx d G=some B): ∀t∈B.tmps,t∈Pq hs d++Pq hs G:=by obtain⟨o,v,l,q,w,n,r,x,s,y,u,z,rfl,rfl,f,g,i,j,k,_⟩:=gy h;obtain⟨_,_,_,_,_,_,l1⟩:=ka f;obtain⟨_,_,_,_,_,_,l2⟩:=ke g;obtain⟨_,_,_,_,_,_,_,_,_,_,_,_,c⟩:=kf i;obtain⟨_,_,_,_,_,_,_,_,_,_,_,_,_,_,_,a⟩:=kg j;obtain⟨_,_,_,_,_,_,_,e⟩:=kh k;intro t b;simp only[Pq,l1,l2,c,a,e,g8,Ap];simp only[VY.tmps]at b;grind
theorem AAD(B: ∀v∈c,v.Ok P)(z:Um P k)(x:FuncId)(d:List Hint): ∀v:Code,Ow P N (Pq d v) v (gZ P c k N x d v)/\ ∀m r,v= .seq m r->Ow P N (Pq d r) r (gZ P c k N x d r):=by
 intro v;induction v with
 |skip=>exact⟨λenv H g r ok n=>⟨.normal,env,H,D4 (λ_ e=>by cases e) (Ly.skip ⟨rfl,rfl,rfl⟩),n,ok,E4.refl _ _ _⟩,λ_ _ e=>by cases e⟩
 |ret=>exact⟨λenv H g r ok n=>⟨.ret,env,H,D4 (λ_ e=>by cases e) (Ly.ret ⟨rfl,rfl,rfl⟩),n,ok,E4.refl _ _ _⟩,λ_ _ e=>by cases e⟩
 |exit id=>exact⟨λenv H g r ok n=>⟨.exit id,env,H,D4 (λ_ e=>by cases e) (Ly.exit ⟨rfl,rfl,rfl⟩),n,ok,E4.refl _ _ _⟩,λ_ _ e=>by cases e⟩
 |seq a b D s=>
  refine⟨?_,λm r e=>by injection e with K L;subst K L;exact s.1⟩;have G:Ow P N (Pq d a++Pq d b) (.seq a b) (λenv H g=>gZ P c k N x d a env H λe j u=>match e with| .normal=>gZ P c k N x d b j u g|e=>g e j u):=by
   intro R env H g r ok n;obtain⟨e,env1,O,a1,k1,w,S⟩:=D.1 env H _ r ok n;cases e with
   |normal=>obtain⟨L,env2,y,a2,W,F,s2⟩:=s.1 env1 O g r w k1;refine⟨L,env2,y,D4 (λ_ e=>by cases e) (Ly.seq (a1.awp.mono ?_)),W,F,E4.trans ok.env S s2⟩;rintro _ _ _ ⟨rfl,rfl,rfl⟩;exact a2.awp
   |_=>refine⟨_,env1,O,D4 (λ_ e=>by cases e) (Ly.seq (a1.awp.mono ?_)),k1,w,S.mono λt l=>Ap.2 (.inl l)⟩;rintro _ _ _ ⟨rfl,rfl,rfl⟩;exact⟨rfl,rfl,rfl⟩
  intro R env H g r ok n;by_cases hq: ∃m I,b= .seq m I;obtain⟨m,I,rfl⟩:=hq;simp only[gZ]at n;split at n;rename_i p hp;obtain⟨env1,O,a1,k1,w,S⟩:=wl B hp ok n;obtain⟨L,env2,y,a2,W,F,s2⟩:=s.2 m I rfl env1 O g r w k1;refine⟨L,env2,y,D4 (λ_ e=>by cases e) (Ly.seq (a1.mono ?_)),W,F,(E4.trans ok.env S s2).mono λt l=>?_⟩;intro e E h hx;cases e with
  |normal=>exact Ly.seq (hx.mono (by rintro _ _ _ ⟨rfl,rfl,rfl⟩;exact a2.awp))
  |_=>exact hx.elim
  show t∈(Pq d a++((Pq d m++Pq d I)++m9 d m I))++m9 d a (.seq m I);rcases Ap.1 l with l|l;rcases Ap.1 (wo (hs:=d) hp t l)with h|h<;>simp[h];simp[l];exact G.mono (λt l=>Ap.2 (.inl l)) env H g r ok n;have n:gZ P c k N x d (.seq a b) env H g=some r:=n;rw[AAE λm r e=>hq ⟨m,r,e⟩]at n;have T: ∀t,t∈m9 d a b->t∈Pq d (.seq a b):=λt l=>Ap.2 (.inr l);have hB: ∀t,t∈Pq d a++Pq d b->t∈Pq d (.seq a b):=λt l=>Ap.2 (.inl l);unfold m9 at T;generalize lP d a b=o at n T;cases o with
  |none=>exact G.mono hB env H g r ok n
  |some h=>exact qy G hB T env H g r ok n
 |cond v a b D s=>have M:Ow P N (Pq d a++Pq d b) (.cond v a b) (uH v (gZ P c k N x d a) (gZ P c k N x d b)):=wq D.1 s.1;refine⟨?_,λ_ _ e=>by cases e⟩;intro R;exact mV (hs:=d) (A:=Pq d (.cond v a b)) M (λt l=>Ap.2 (.inl l)) (λt l=>Ap.2 (.inr l))
 |block id b V=>have M:Ow P N (Pq d b) (.block id b) (sR id (gZ P c k N x d b)):=uz V.1;refine⟨?_,λ_ _ e=>by cases e⟩;intro R;exact mV (hs:=d) (A:=Pq d (.block id b)) M (λt l=>Ap.2 (.inl l)) (λt l=>Ap.2 (.inr l))
 |loop b V=>exact⟨xU (hs:=d) (A:=Pq d (.loop b)) V.1 (λt l=>Ap.2 (.inl l)) (λt l=>Ap.2 (.inr l)),λ_ _ e=>by cases e⟩
 |region id q J=>
  refine⟨?_,λ_ _ e=>by cases e⟩;cases J with
  |false=>
   have M:Ow P N (g8 q.toList) (.region id q false) (λenv H g=>match N4 N q.toList with
    |true=>rX P c k q (guards q) false q.toList 0 env H λj u=>g .normal j u
    |false=>none):=by
    intro R env H g r ok n;dsimp only at n;split at n;rename_i C;obtain⟨j,u,X,Y,Z,r4⟩:=bx (N:=N) B z _ _ _ _ _ _ ok n;refine⟨.normal,j,u,D4 (λ_ e=>by cases e) (FX C ?_),Y,Z,r4⟩;show UN P N q q.toList (Bt env) (A6 H) (λK y=>Exit.normal=Exit.normal/\K=Bt j/\y=A6 u);simpa using X;cases n
   intro R;exact mV (hs:=d) (A:=Pq d (.region id q false)) M (λt l=>Ap.2 (.inl l)) (λt l=>Ap.2 (.inr l))
  |true=>
   intro R env H g r ok n;simp only[gZ]at n;split at n;rename_i C;simp only[BT]at C;obtain⟨j,u,X,Y,Z,r4⟩:=WL (N:=N) B z _ _ _ _ _ _ ok n;refine⟨.normal,j,u,D4 (λ_ e=>by cases e) (de C.1.1.1 _ C.1.1.2 C.1.2 ?_ ?_),Y,Z,r4.mono λt l=>Ap.2 (.inl ?_)⟩;have:=XK C.2;rw[Bt,Nt];exact this;show RA P N q (tM q) [] (Bt env) (A6 H) (λK y=>Exit.normal=Exit.normal/\K=Bt j/\y=A6 u);simpa using X;unfold nL at l;obtain⟨i,_,Q⟩:=L7.1 l;cases U:q[i]? with
   |none=>rw[U]at Q;cases Q
   |some o=>
    rw[U]at Q;refine L7.2 ⟨o,?_,Q⟩;have:q.toList[i]? =some o:=by simpa using U
    exact BK this
   cases n
 |rangeFunc f ps a b _ _=>exact⟨vf z,λ_ _ e=>by cases e⟩
 |_=>exact⟨λenv H g r ok n=>(by simp only[gZ]at n;cases n),λ_ _ e=>by cases e⟩
theorem jx(f: ∀b∈c,b.Ok P)(e:Um P k)(g:FuncId)(d:List Hint)(b:Code):Ow P N (Pq d b) b (gZ P c k N g d b):=by grind[AAD]
end Go.Ab
namespace Go.Ab
def ZQ:Nat->List TV->BS
 |_,[]=>[]
 |i,v::r=>(i,v)::ZQ (i+1) r
def gT(P:Program)(env:BS)(H:An):List ResultVar->Option (List TV)
 |[]=>some []
 | .tmp t::r=>match gT P env H r with|some vs=>some (env.get t::vs)|none=>none
 | .cell a t::r=>match gT P env H r with|some vs=>loadT P H t (env.get a) λv=>some (v::vs)|none=>none
def qw:Exit->Bool
 | .normal=>true
 | .ret=>true
 |_=>false
variable {N n y:Nat}{R L:Type}{b A:An}{c:List Su}{F:FuncId}{f I M:BS}{P:Program}{g:List AV}{i:AV}{j:Bool}{p:Ty}{q:Int}{t:List TV}{v:World}{x:Exit}{J:Func}
def ACB(P:Program)(fn:Func)(k:TV->An->Option R):Exit->BS->An->Option R:=λe env H=>
 match qw e with
 |true=>match gT P env H fn.results.toList with|some vs=>k (one vs) H|none=>none
 |false=>none
def rZ:BS->List Tmp->List TV->BS
 |env,t::ts,v::vs=>rZ (env.put t v) ts vs
 |env,_,_=>env
def yF(id:Nat)(k:TV->An->Option R):Exit->BS->An->Option R:=λe _ H=>
 match H[id]? with
 |some (.lp false F n env ps a b _)=>
  match e with
  | .normal=>k (.c (.bl true)) (H.set id (.lp false F n env ps a b .ready))
  | .ret=>k (.c (.bl false)) (H.set id (.lp false F n env ps a b .ret))
  | .exit x=>k (.c (.bl false)) (H.set id (.lp false F n env ps a b (.exit x)))
  |_=>none
 |_=>none
noncomputable def tV(P:Program)(cs:List Su)(call:RW)(hs:FuncId->List Hint)(id:Nat)(vs:List TV)(H:An){R:Type}(k:TV->An->Option R):Option R:=
 match H[id]? with
 |some (.lp false F n env ps a b .ready)=>
  match Nat.beq vs.length ps.size&&ps.toList.all λt=>Nat.blt t n with
  |true=>gZ P cs call n F (hs F) a (rZ env ps.toList vs) H λe env1 H1=>
   match e with
   | .normal=>
    match H1[id]? with
    |some (.lp false F1 n1 e1 ps1 a1 b1 .ready)=>gZ P cs call n F (hs F) b env1 (H1.set id (.lp false F1 n1 e1 ps1 a1 b1 .busy)) (yF id k)
    |_=>none
   |_=>none
  |false=>none
 |_=>none
noncomputable def kD(P:Program)(cs:List Su)(hs:FuncId->List Hint):Nat->RW
 |0=>λ_ _ _ _=>none
 |n+1=>λtg vs H k=>
  match tg with
  | .fn F=>
   match P.funcs[F]? with
   |some fn=>
    match fn.body with
    |some c=>match Nat.ble vs.length fn.ntmps with|true=>gZ P cs (kD P cs hs n) fn.ntmps F (hs F) c (ZQ 0 vs) H (ACB P fn k)|false=>none
    |none=>none
   |none=>none
  | .yd id=>tV P cs (kD P cs hs n) hs id vs H k
def mU(bt:Ty):(rs:List Ty)->DL rs->bt.D->DL (rs++[bt])
 |[],_,b=>b
 |[_],y,b=>(y,b)
 |_::u::r,y,b=>(y.1,mU bt (u::r) y.2 b)
def ju(vs:List TV):List Nat:=vs.flatMap λv=>KM v.refs
def AB8(P:Program)(fn:Func)(rs:List Ty):Exit->BS->An->Option (DL rs):=λe env H=>
 match qw e with
 |true=>
  match gT P env H fn.results.toList with
  |some vs0=>match H6 (ju vs0) env H with|(ef,hf)=>match gT P ef hf fn.results.toList with|some vs=>vP rs vs|none=>none
  |none=>none
 |false=>none
def AB9(P:Program)(fn:Func)(bt:Ty)(rs:List Ty):Exit->BS->An->Option (DL (rs++[bt])):=λe env H=>
 match qw e with
 |true=>
  match gT P env H fn.results.toList with
  |some vs0=>
   match H6 (ju vs0++(match (H[0]? :Option Dn)with|some (.live _ cs)=>KM cs|_=>[])) env H with
   |(ef,hf)=>
    match gT P ef hf fn.results.toList,(hf[0]? :Option Dn)with
    |some vs,some (.live _ cs)=>match vP rs vs,bt.all cs with|some y,some b=>some (mU bt rs y b)|_,_=>none
    |_,_=>none
  |none=>none
 |false=>none
def mS:Nat->TV->List TV->List TV
 |0,v,l=>v::l
 |n+1,v,x::l=>x::mS n v l
 |_+1,v,[]=>[v]
noncomputable def uC(P:Program)(cs:List Su)(hs:FuncId->List Hint)(n:Nat)(F:FuncId)(ds rs:List Ty)(x:DL ds):Option (DL rs):=
 match P.funcs[F]? with
 |some fn=>
  match fn.body with
  |some c=>match Nat.ble (qB ds x).length fn.ntmps with|true=>gZ P cs (kD P cs hs n) fn.ntmps F (hs F) c (ZQ 0 (qB ds x)) [] (AB8 P fn rs)|false=>none
  |none=>none
 |none=>none
noncomputable def wa(P:Program)(cs:List Su)(hs:FuncId->List Hint)(n:Nat)(F:FuncId)(pos:Nat)(bt:Ty)(ds rs:List Ty)(b:bt.D)(x:DL ds):Option (DL (rs++[bt])):=
 match P.funcs[F]? with
 |some fn=>
  match fn.body with
  |some c=>
   match Nat.ble (mS pos (.c (.raw (.ptr 0 0 0))) (qB ds x)).length fn.ntmps with
   |true=>gZ P cs (kD P cs hs n) fn.ntmps F (hs F) c (ZQ 0 (mS pos (.c (.raw (.ptr 0 0 0))) (qB ds x))) [.live false (bt.lvs b)] (AB9 P fn bt rs)
   |false=>none
  |none=>none
 |none=>none
theorem ZS: ∀(l:List TV) (i:Nat),Bt (ZQ i l)=env0 i (l.map TV.enc)
 |[],_=>rfl
 |v::r,i=>by have:=ZS r (i+1);grind[Bt,ZQ,env0]
def dc{H:An}: ∀{l:List TV} {i:Nat},(∀v∈l,v.ok H)-> ∀p∈ZQ i l,p.2.ok H
 |[],_,_,p,a=>by cases a
 |v::r,i,h,p,a=>by simp only[ZQ]at a;rcases Am.1 a with rfl|a;exact h v (by simp);exact dc (λw b=>h w (by simp[b])) p a
theorem ec{P:Program}{env:BS}{H:An}(d: ∀p∈env,p.2.ok H)(c: ∀e∈H,e.ok H): ∀{l:List ResultVar} {b:List TV},gT P env H l=some b->RE P (Bt env) (A6 H) l=some (b.map TV.enc)/\ ∀v∈b,v.ok H
 |[],b,h=>by simp only[gT,Aj]at h;subst h;exact⟨rfl,λv g=>by cases g⟩
 | .tmp t::r,b,h=>by simp only[gT]at h;split at h;rename_i i f;obtain⟨q1,q2⟩:=ec d c f;grind[RE,gU,SV,jd];cases h
 | .cell a t::r,b,h=>by simp only[gT]at h;split at h;rename_i i f;obtain⟨q1,q2⟩:=ec d c f;obtain⟨u,j,k,m⟩:=kX c (jd d a) h;grind[RE,gU,SV];cases h
def mw(d: ∀p∈f,p.2.ok b)(c: ∀e∈b,e.ok b)(h:gT P f b J.results.toList=some t):cP P J (Bt f) (A6 b)=some (jq (t.map TV.enc)):=by
 unfold cP;rw[(ec d c h).1];cases t with
 |nil=>rfl
 |cons v r=>
  cases r with
  |nil=>rfl
  |cons u r=>rfl
def om: ∀(a:List Tmp) (b:List TV) (env:BS),Pz (Bt env) a (b.map TV.enc)=Bt (rZ env a b)
 |[],_,_=>rfl
 |_::_,[],_=>rfl
 |t::a,v::b,env=>by simp only[Bb,Pz,rZ];rw[<-g9];exact om a b (env.put t v)
def re{H:An}: ∀(b:List Tmp) (a:List TV) (env:BS),(∀p∈env,p.2.ok H)->(∀v∈a,v.ok H)-> ∀p∈rZ env b a,p.2.ok H
 |[],_,_,h,_=>h
 |_::_,[],_,h,_=>h
 |t::b,v::a,env,h,hv=>re b a (env.put t v) (bw (d:=some t) h (hv v (by simp))) λu c=>hv u (by simp[c])
def AAc{c:Bool}{F n env ps a H}{s e:LS}(h:(Dn.lp j F n env ps a H s).ok b):(Dn.lp c F n env ps a H e).ok A:=h
theorem uc{F n env ps a H}{s s':LS}(h:b[N]? =some (.lp false F n env ps a H s)):B4 b (b.set N (.lp false F n env ps a H s')):=B4.set h rfl (λ_ _ _ _ _ h=>by cases h) λ_ _ _ _ _ _ _ _ e=>by grind
def sy{F n env ps a H}{s:LS}(h:b[N]? =some (.lp j F n env ps a H s)):(A6 b)[N]? =some (.lp ⟨n,Bt env,ps,a,H,s.st,s.pend⟩):=by rw[E8,h];rfl
theorem vn{P:Program}{cs:List Su}(K: ∀c∈cs,c.Ok P){hs:FuncId→List Hint}{g:RW}(J:Um P g){R:Type}{id:Nat}{S:List TV}{H:An}{k:TV→An→Option R}{r:R}(hv: ∀v∈S,v.ok H)(hH: ∀e∈H,e.ok H)
  (h:tV P cs g hs id S H k=some r): ∃v d,uA P (S.map TV.enc) (A6 H) v.enc (A6 d) (.yd id)/\k v d=some r/\v.ok d/\(∀e∈d,e.ok d)/\B4 H d:=by
 unfold tV at h;split at h;rename_i F n env ps a b he;split at h;rename_i hb;simp only[BT]at hb;have M: ∀p∈env,p.2.ok H:=λp hp x hx=>by
  have:=(hH _ (BK he)) p hp;cases x with
  |own i v t m=>grind
  |_=>trivial
 obtain⟨e,env1,T,a1,k1,w,s1⟩:=jx (N:=n) K J F (hs F) a _ H _ r ⟨re ps.toList S env M hv,hH⟩ h;split at k1;split at k1;rename_i F1 n1 Y z U V s;have B:B4 T _:=uc (s':=.busy) s;obtain⟨x,env2,D,a2,j,O,s2⟩:=jx (N:=n) K J F (hs F) b _ _ _ r ⟨B.env w.env,So B w.heap (AAc (w.heap _ (BK s)))⟩ k1;unfold yF at j;split at j;rename_i F2 n2 Z A W X s0 u
 have l: ∀(v:Bool) (C:LS),k (.c (.bl v)) (D.set id (.lp false F2 n2 Z A W X C))=some r→(∀L:fO,(A6 D)[id]? =some (.lp L)→L=⟨n2,Bt Z,A,W,X,s0.st,s0.pend⟩→yG id (DY (.bool v) (A6 (D.set id (.lp false F2 n2 Z A W X C)))) x (Bt env2) (A6 D))→
   ∃v d,uA P (S.map TV.enc) (A6 H) v.enc (A6 d) (.yd id)/\k v d=some r/\v.ok d/\(∀e∈d,e.ok d)/\B4 H d:=by
  intro v C hk hq;have Q:B4 D _:=uc (s':=C) u;refine⟨.c (.bl v),_,?_,hk,JW trivial,So Q O.heap (AAc (O.heap _ (BK u))),((s1.step.trans B).trans s2.step).trans Q⟩;intro N o c f env0 ho I hf q;apply Is.yield ho I hf (sy he);grind[List.length,List.length_map,Array.length_toList,Nat.eq_of_beq_eq_true];simp_all;show Ly P n a (Pz (Bt env) ps.toList (c.args.toList.map (BA env0))) (A6 H) _;rw[q,om];apply a1.awp.mono;rintro _ _ _ ⟨rfl,rfl,rfl⟩;refine⟨rfl,_,sy s,rfl,?_⟩;have e3:(A6 T).set id (.lp ⟨n1,Bt Y,z,U,V,.busy,LS.pend .ready⟩)=A6 (T.set id (.lp false F1 n1 Y z U V .busy)):=by rw[M5];rfl
  show Ly P n b (Bt env1) ((A6 T).set id (.lp ⟨n1,Bt Y,z,U,V,.busy,LS.pend .ready⟩)) _;rw[e3];apply a2.awp.mono;rintro _ _ _ ⟨rfl,rfl,rfl⟩;exact hq _ (sy u) rfl
 split at j;refine l true .ready j λL G E=>⟨L,G,rfl,?_⟩
 subst E;rw[M5];rfl;refine l false .ret j λL G E=>⟨L,G,rfl,?_⟩
 subst E;rw[M5];rfl;rename_i y;refine l false (.exit y) j λL G E=>⟨L,G,rfl,?_⟩
 subst E;rw[M5];rfl;cases j;cases j;cases k1;cases k1;cases h;cases h
theorem dX{P:Program}{j:List Su}(b: ∀c∈j,c.Ok P){m:FuncId->List Hint}: ∀n,Um P (kD P j m n)
 |0=>by grind[kD]
 |n+1=>by
  intro z A H k r p l h;cases z with
  |yd id=>exact vn b (dX b n) p l h
  |fn F=>
  simp only[kD]at h;split at h;rename_i fn y;split at h;rename_i c w;split at h;rename_i hn;obtain⟨e,d,f,a1,k1,a,q⟩:=jx (N:=fn.ntmps) b (dX b n) F (m F) c (ZQ 0 A) H _ r ⟨dc p,l⟩ h;unfold ACB at k1;split at k1;rename_i x;split at k1;rename_i s o;refine⟨one s,f,JY y w (by simp_all) ?_,k1,pe (ec a.env a.heap o).2,a.heap,q.step⟩;rw[<-ZS];apply a1.awp.mono;rintro _ _ _ ⟨rfl,rfl,rfl⟩;have g: ∃v t i,cP P fn (Bt d) (A6 f)=some v/\Nq (A6 H).length v (A6 f) t i/\DY (one s).enc (A6 f) t i:=⟨_,_,_,mw a.env a.heap o,Nq.refl _ _ (by rw[CV,CV];exact q.step.len),by rw[lK],rfl⟩
  rename_i u;cases u<;>first|exact g|cases x
  cases k1;cases k1;cases h;cases h;cases h
def DT.tup{b a:List AV}(h:DT b a):Un (.tup b) (.tup a):=by
 intro x c r;cases r with
 |tup g hr=>refine .tup (by rw[g,h.1]) λj i d f e=>?_;obtain⟨v,q1,q2⟩:=h.2 j i f;exact q2 _ _ (hr j v d q1 e)
def UQ{b:List AV}(h:DT g b):Un (jq g) (jq b):=by
 match g,b,h with
 |[],[],h=>exact Un.refl _
 |[v],[w],h=>obtain⟨u,q1,q2⟩:=h.2 0 w rfl;simp at q1;subst q1;exact q2
 |v::u::r,w::x::s,h=>exact DT.tup h
def OS: ∀(a:List Ty) (x:DL a),∀v∈fy a x,Pure v
 |[],_,v,h=>by cases h
 |[t],x,v,h=>by simp only[fy,A2]at h;subst h;exact t.enc_pure x
 |t::u::r,x,v,h=>by simp only[fy]at h;rcases Am.1 h with rfl|h;exact t.enc_pure x.1;exact OS (u::r) x.2 v h
def VU(h: ∀v∈g,Pure v):Pure (jq g):=by
 match g,h with
 |[],_=>rfl
 |[v],h=>exact h v (by simp)
 |v::u::r,h=>exact(De _ _).2 h
theorem mz{a H2:An}(j:H2.length<=a.length)(hr:HR a H2 [])(v:fE H2.length H2=true){d:AV}(l:Un i d)(k:Pure d):Nq H2.length i (A6 a) d (A6 H2):=by
 refine⟨by rw[CV];exact Ak _,λX h w c s r=>?_⟩;have q:=(HR.rel j hr (cx X h (A6 a) w)).onto;have n:=s.rel q;have m:=(l _ c r).later q.later;have e:(A6 H2++(A6 a).drop H2.length).take H2.length=A6 H2:=by grind[CV]
 have b:H2.length<=(A6 H2++(A6 a).drop H2.length).length:=by simp[A6]
 have g:=n.trunc b (by rw[e];exact eS v);have f:=m.trunc b (eD k _);rw[e]at g f;exact⟨h,g,f,λ_ _=>⟨rfl,rfl,rfl⟩,λB o=>q.own B (br (n0:=H2.length) (by grind))⟩
def kF{n:Nat}: ∀{a b:List Bc},Xu n a=true->Xu n b=true->Xu n (a++b)=true
 |[],_,_,hb=>hb
 |x::r,b,ha,hb=>by obtain⟨c,e⟩:=nt ha;have d:=kF e hb;cases x<;>simp only[Dp,Xu,BT,Oe]at c⊢ <;>first|exact d|exact⟨c,d⟩
mutual
theorem Ty.lvs_clo{n:Nat}: ∀(t:Ty) (x:t.D),Xu n (t.lvs x)=true
 | .bool,_=>rfl
 | .int _,_=>rfl
 | .str,_=>rfl
 | .list _,_=>rfl
 | .arr _ _,_=>rfl
 | .prod ts,x=>ts.lvs_clo x
theorem QX.lvs_clo{n:Nat}: ∀(a:QX) (x:a.D),Xu n (a.lvs x)=true
 | .one t,x=>t.lvs_clo x
 | .cons t a,x=>kF (t.lvs_clo x.1) (a.lvs_clo x.2)
end
def jr(h: ∀v∈g,Pure v)(a:Nat->Nat):AV.renL a g=g:=by
 rw[Nj];conv=>rhs;rw[<-aA g]
 exact L6 λv b=>(h v b).ren a
def mR{ρ:Nat->Nat}: ∀{n:Nat} {v:AV} {l:List AV},(∀v∈l,Pure v)->AV.renL ρ (TN n v l)=TN n (v.ren ρ) l
 |0,v,l,h=>by simp only[TN,AV.renL,jr h]
 |n+1,v,[],h=>rfl
 |n+1,v,x::l,h=>by have b:=mR (ρ:=ρ) (n:=n) (v:=v) (l:=l) λu a=>h u (CA _ a);simp only[TN,AV.renL,(h x JP).ren,b]
def oI: ∀{n:Nat} {v u:AV} {l:List AV},u∈TN n v l->u=v\/u∈l
 |0,v,u,l,h=>by simpa[TN]using h
 |n+1,v,u,[],h=>by simpa[TN]using h
 |n+1,v,u,x::l,h=>by simp only[TN]at h;rcases Am.1 h with rfl|h;exact .inr (by simp);rcases oI h with h|h;exact .inl h;exact .inr (by simp[h])
def qu: ∀{n:Nat} {v:TV} {l:List TV},(mS n v l).map TV.enc=TN n v.enc (l.map TV.enc)
 |0,_,_=>rfl
 |n+1,_,[]=>rfl
 |n+1,v,x::l=>by simp only[mS,Bb,TN,qu]
def qv: ∀{n:Nat} {v u:TV} {l:List TV},u∈mS n v l->u=v\/u∈l
 |0,v,u,l,h=>by simpa[mS]using h
 |n+1,v,u,[],h=>by simpa[mS]using h
 |n+1,v,u,x::l,h=>by simp only[mS]at h;rcases Am.1 h with rfl|h;exact .inr (by simp);rcases qv h with h|h;exact .inl h;exact .inr (by simp[h])
theorem kE{x:p.D}: ∀v∈(p.enc x).cells,Pure v:=by
 intro v a;have h:=p.enc_pure x;cases b:p.enc x with
 |agg c=>rw[b]at a h;exact((De _ _).1 h) v a
 |_=>grind[AV.cells]
def cC(a:Ty): ∀(c:List Ty) (y:DL c) (b:a.D),LN a c (mU a c y b)=(y,b)
 |[],_,_=>rfl
 |[_],_,_=>rfl
 |_::u::r,y,b=>by simp only[mU,LN,cC a (u::r) y.2 b]
variable {P:Program} {cs:List Su} {hs:FuncId->List Hint} {n:Nat} {F:FuncId} {ds rs:List Ty}
def AA9{c:As}(k:qw x=true)(ok:PB f b)(hr:gT P f b J.results.toList=some t)(h:Nq N (jq (t.map TV.enc)) (A6 b) i c):
  ACZ P J N (DY i c) x (Bt f) (A6 b):=by
 have d: ∃v e a,cP P J (Bt f) (A6 b)=some v/\Nq N v (A6 b) e a/\DY i c e a:=⟨_,_,_,mw ok.env ok.heap hr,h,rfl,rfl⟩
 cases x<;>first|exact d|cases k
def uI{g:DL ds->Option (DL rs)}(d: ∀c∈cs,c.Ok P)(t: ∀x,g x=uC P cs hs n F ds rs x):(Su.c0 F ds rs g).Ok P:=by
 intro x y a H;rw[t]at a;have key:Et P F (fy ds x) [] (DY (jq (fy rs y)) []):=by unfold uC at a;split at a;rename_i q s;split at a;rename_i c r;split at a;rename_i hn;obtain⟨e,o,z,a1,k1,l,B⟩:=jx (N:=q.ntmps) d (dX d n) F (hs F) c (ZQ 0 (qB ds x)) [] _ y ⟨dc (gX ds x),λe i=>by cases i⟩ a;unfold AB8 at k1;split at k1;rename_i i;split at k1;rename_i m u;obtain⟨f,w,p⟩:=Pv (ju m) l;simp only at k1 f w p;split at k1;rename_i C k;apply JY s r (by rw[<-XO,DF];exact Nx hn);rw[<-XO,<-ZS];refine Ly.after (a1.awp.mono ?_);rintro _ _ _ ⟨rfl,rfl,rfl⟩;exact⟨_,_,(p _).of_le (Bv _),AA9 i f k (mz (H2:=[]) (Bv _) (λj A _ h=>by cases h) rfl (UQ (WI k1)) (VU (OS rs y)))⟩;cases k1;cases k1;cases k1;cases a;cases a;cases a
 exact Et.frame (H:=H) [] key PF rfl rfl (λj b e h=>by cases h) (λe h=>by cases h) (λe h=>by cases h) (VU (OS rs y)) (jr (OS ds x) _) ((De _ _).2 λv k=>(OS ds x v k).all _)
theorem zC{g:p.D->DL ds->Option (DL (rs++[p]))}(m: ∀c∈cs,c.Ok P)(T: ∀b x,g b x=wa P cs hs n F N p ds rs b x):(Su.c1 F N p ds rs g).Ok P:=by
 intro b x y f H id V;rw[T]at f;have key: ∃r i,y=mU p rs r i/\Et P F (TN N (.ptr 0 0 0) (fy ds x)) [.live 0 (p.enc b).cells] (DY (jq (fy rs r)) [.live 0 (p.enc i).cells]):=by
  unfold wa at f;split at f;rename_i M S;split at f;rename_i c R;split at f;rename_i hn;have t:PB (ZQ 0 (mS N (.c (.raw (.ptr 0 0 0))) (qB ds x))) [.live false (p.lvs b)]:=by refine⟨dc λv d=>?_,λe s=>?_⟩;rcases qv d with rfl|d;exact JW trivial;grind[gX];rw[A2.1 s];exact p.lvs_ok b
  obtain⟨e,l,G,a1,k1,u,E⟩:=jx (N:=M.ntmps) m (dX m n) F (hs F) c _ _ _ y t f;unfold AB9 at k1;split at k1;rename_i s;split at k1;rename_i z W;generalize C:(ju z++_)=ids at k1;obtain⟨k,w,A⟩:=Pv ids u;generalize H6 ids l G=fz at k1 k w A;obtain⟨ef,U⟩:=fz;simp only at k1 k w A;split at k1;rename_i vs Y I d O;split at k1;rename_i r i hr q;injection k1 with k1;refine⟨r,i,k1.symm,?_⟩;have J:A6 [.live false (p.lvs b)]=[.live 0 (p.enc b).cells]:=by simp only[A6,Bb,Hf,Dn.enc,p.lvs_enc]
  have K:A6 [.live false (p.lvs i)]=[.live 0 (p.enc i).cells]:=by simp only[A6,Bb,Hf,Dn.enc,p.lvs_enc]
  have L:TN N (.ptr 0 0 0) (fy ds x)=(mS N (.c (.raw (.ptr 0 0 0))) (qB ds x)).map TV.enc:=by rw[qu,XO];rfl
  rw[<-J,<-K,L];apply JY S R (by rw[DF];exact Nx hn);rw[<-ZS];refine Ly.after (a1.awp.mono ?_);rintro _ _ _ ⟨rfl,rfl,rfl⟩;have o:1<=U.length:=Cv E.step.len w.step.len;refine⟨_,_,(A _).of_le (by rw[CV,CV];exact E.step.len),AA9 s k d ?_⟩;rw[CV];refine mz (H2:=[.live false (p.lvs i)]) o (λj Z _ h=>?_) (by simp only[fE,p.lvs_clo,Pn]) (UQ (WI hr)) (VU (OS rs r));match j,h with
  |0,h=>simp only[Yl,Aj]at h;subst h;refine⟨_,O,.inr (.inl ⟨_,_,_,_,rfl,rfl,?_⟩)⟩;rw[p.lvs_enc];exact FZ q
  |j+1,h=>grind
  cases k1;cases k1;cases k1;cases k1;cases f;cases f;cases f
 obtain⟨r,i,rfl,key⟩:=key;rw[cC];have Q:AV.renL (λj=>[id].getD j 0) (TN N (.ptr 0 0 0) (fy ds x))=TN N (.ptr id 0 0) (fy ds x):=by rw[mR (OS ds x)];rfl
 exact Et.frame (H:=H) [id] key (Fg.2 ⟨by simp,PF⟩) rfl rfl (λj X e D B=>by
   match j,D,B with
   |0,D,B=>grind[List.getElem?_cons_zero,Option.some.injEq]
   |j+1,D,_=>simp at D) (λe h=>by
   rw[A2.1 h];exact(De _ _).2 λv d=>kE v d) (λe h=>by
   rw[A2.1 h];exact(De _ _).2 λv d=>kE v d) (VU (OS rs r)) Q ((De _ _).2 λv d=>by
   rcases oI d with rfl|d;rfl;exact(OS ds x v d).all _)
end Go.Ab
namespace Go.Ab
def VC:List (Nat×List Hint)->FuncId->List Hint
 |[],_=>[]
 |(k,h)::r,F=>match Nat.beq k F with|true=>h|false=>VC r F
theorem CT{P:Program}: ∀c∈([]:List Su),c.Ok P:=by grind
variable {N n y:Nat}{R L:Type}{c:List Su}{F:FuncId}{P:Program}{g:List AV}{i:AV}{j:Bool}{p:Ty}{q:Int}{v:World}
theorem A8{P:Program}{a:Su}(h:a.Ok P)(b: ∀a∈c,a.Ok P): ∀d∈a::c,d.Ok P:=by grind
def wi(a:Int):Int:=IntKind.wrap .i64 a
abbrev len{α:Type}(l:List α):Int:=(l.length:Int)
def bC{A B:Type}(f:(A->Option B)->A->Option B):Nat->A->Option B
 |0,_=>none
 |n+1,x=>f (bC f n) x
noncomputable def nP{A B:Type}(f:(A->Option B)->A->Option B)(x:A):Option B:=open Classical in if h: ∃r n,bC f n x=some r then some h.choose else none
theorem VS{f:(R->Option L)->R->Option L}{x:R}{r:L}(h:nP f x=some r): ∃n,bC f n x=some r:=by unfold nP at h;split at h<;>grind
theorem Vo{f:(R->Option L)->R->Option L}{x:R}{r:L}{n:Nat}(h:bC f n x=some r): ∃s,nP f x=some s:=by unfold nP;rw[dif_pos ⟨r,n,h⟩];grind
def zE{P:Program}{hs:FuncId→List Hint}{n:Nat}{F:FuncId}{ds rs:List Ty}{f:(DL ds→Option (DL rs))→DL ds→Option (DL rs)}(b: ∀a∈c,a.Ok P)
  (e: ∀g x,f g x=uC P (.c0 F ds rs g::c) hs n F ds rs x):(Su.c0 F ds rs (nP f)).Ok P:=by
 have key: ∀m,(Su.c0 F ds rs (bC f m)).Ok P:=by
  intro m;induction m with
  |zero=>intro x y d;cases d
  |succ m i=>exact uI (cs:=.c0 F ds rs (bC f m)::c) (A8 i b) λx=>e (bC f m) x
 intro x y d;obtain⟨m,h⟩:=VS d;exact key m x y h
def ACA(P:Program)(fn:Func)(te:Ty)(rs:List Ty):Exit->BS->An->Option (DL (rs++[.list te])):=λe env H=>
 match qw e with
 |true=>
  match gT P env H fn.results.toList with
  |some vs0=>
   match H6 ((ju vs0).filter λi=>!Nat.beq i 0) env H with
   |(ef,hf)=>
    match gT P ef hf fn.results.toList,(hf[0]? :Option Dn)with
    |some vs,some (.buf _ t l _ _)=>if h:(Ty.list t).beq (Ty.list te)=true then(match vP rs vs with|some y=>some (mU (.list te) rs y (Ty.cast h l))|none=>none)else none
    |_,_=>none
  |none=>none
 |false=>none
def fnC:AV->Bool
 | .fn (.func _) [] []=>true
 |_=>false
def qP(te:Ty)(ds:List Ty)(post:List AV)(l:List te.D)(x:DL ds):List TV:=.c (.own 0 0 te l.length)::(qB ds x++post.map λv=>.c (.raw v))
noncomputable def wc(P:Program)(cs:List Su)(hs:FuncId->List Hint)(n:Nat)(F:FuncId)(te:Ty)(ds rs:List Ty)(post:List AV)(l:List te.D)(x:DL ds):Option (DL (rs++[.list te])):=
 match P.funcs[F]? with
 |some fn=>
  match fn.body with
  |some c=>
   match Nat.ble (qP te ds post l x).length fn.ntmps&&post.all fnC with
   |true=>gZ P cs (kD P cs hs n) fn.ntmps F (hs F) c (ZQ 0 (qP te ds post l x)) [.buf false te l l.length 0] (ACA P fn te rs)
   |false=>none
  |none=>none
 |none=>none
theorem ABB(h:fnC i=true): ∃F,i= .fn (.func F) [] []:=by unfold fnC at h;grind
def xF(h:fnC i=true):Pure i:=by obtain⟨F,rfl⟩:=ABB h;rfl
variable {P:Program} {cs:List Su} {hs:FuncId->List Hint} {n:Nat} {F:FuncId} {ds rs:List Ty} {te:Ty} {post:List AV}
def uy(l:List te.D)(x:DL ds):(qP te ds post l x).map TV.enc= .sl 0 l.length te.sz 0 l.length::(fy ds x++post):=by
 have e:(post.map λv=>TV.c (.raw v)).map TV.enc=post:=by
  rw[Nt];conv=>rhs;rw[<-aA post]
  exact L6 λv _=>rfl
 simp only[qP,Bb,L5,XO,e];rfl
theorem KT{g:List te.D->DL ds->Option (DL (rs++[.list te]))}(t: ∀c∈cs,c.Ok P)(hg: ∀l x,g l x=wc P cs hs n F te ds rs post l x):(Su.c2 F te ds rs post g).Ok P:=by
 intro l x y k d H id C;rw[hg]at k;have key: ∃r m,y=mU (.list te) rs r m/\(∀v∈post,Pure v)/\Et P F (.sl 0 l.length te.sz 0 l.length::(fy ds x++post)) [.live l.length (te.E.cl l)] (DY (jq (fy rs r)) [.live m.length (te.E.cl m)]):=by
  unfold wc at k;split at k;rename_i fn hf;split at k;rename_i c hb;split at k;rename_i hn;simp only[BT]at hn;have b: ∀v∈post,Pure v:=λv a=>xF (Fy.1 hn.2 v a);have w:([Dn.buf false te l l.length 0]:An)[0]? =some (.buf false te l l.length 0):=rfl;have K:PB (ZQ 0 (qP te ds post l x)) [.buf false te l l.length 0]:=by refine⟨dc λv a=>?_,λe B=>?_⟩;rcases Am.1 a with rfl|a;exact JW (VV w);rcases Ap.1 a with a|a;grind[gX];obtain⟨u,_,rfl⟩:=Bi.1 a;exact JW trivial;rw[A2.1 B];exact rfl
  obtain⟨e,s,W,a1,k1,L,U⟩:=jx (N:=fn.ntmps) t (dX t n) F (hs F) c _ _ _ y K k;unfold ACA at k1;split at k1;rename_i B;split at k1;rename_i O ad;generalize T:((ju O).filter _)=ids at k1;obtain⟨o,M,Q⟩:=Pv ids L;generalize H6 ids s W=fz at k1 o M Q;obtain⟨ef,hh⟩:=fz;simp only at k1 o M Q;split at k1;rename_i vs X q l1 J V a R;split at k1;rename_i z;split at k1;rename_i r hr;injection k1 with k1;have i:=Ty.beq_eq _ _ z;injection i with i;subst i;have p:(Ty.cast z l1:List q.D)=l1:=rfl;rw[p]at k1;have I:J=l1.length:=o.heap _ (BK R);refine⟨r,l1,k1.symm,b,?_⟩;have Y:A6 [.buf false q l l.length 0]=[.live l.length (q.E.cl l)]:=rfl;have Z:A6 [.buf false q l1 J V]=[.live l1.length (q.E.cl l1)]:=by rw[<-I];rfl
  rw[<-Y,<-Z,<-uy];apply JY hf hb (by rw[DF];exact Nx hn.1);rw[<-ZS];refine Ly.after (a1.awp.mono ?_);rintro _ _ _ ⟨rfl,rfl,rfl⟩;have G:1<=hh.length:=Cv U.step.len M.step.len;refine⟨_,_,(Q _).of_le (by rw[CV,CV];exact U.step.len),AA9 B o a ?_⟩;rw[CV];refine mz (H2:=[.buf false q l1 J V]) G (λj e' _ h=>?_) rfl (UQ (WI hr)) (VU (OS rs r));match j,h with
  |0,h=>simp only[Yl,Aj]at h;subst h;exact⟨_,R,.inr (.inr (.inl ⟨_,_,_,_,_,_,_,rfl,rfl⟩))⟩
  |j+1,h=>simp at h
  cases k1;cases k1;cases k1;cases k1;cases k1;cases k;cases k;cases k
 obtain⟨r,m,rfl,b,key⟩:=key;rw[cC]at d⊢;simp only at d⊢;rw[<-d];rw[<-d]at C key;have f: ∀v∈fy ds x++post,Pure v:=λv a=>(Ap.1 a).elim (OS ds x v) (b v);have ha:AV.renL (λj=>[id].getD j 0) (.sl 0 m.length te.sz 0 m.length::(fy ds x++post))= .sl id m.length te.sz 0 m.length::(fy ds x++post):=by simp only[AV.renL,jr f];rfl
 exact Et.frame (H:=H) [id] key (Fg.2 ⟨by simp,PF⟩) rfl rfl (λj X e A S=>by
   match j,A,S with
   |0,A,S=>grind[List.getElem?_cons_zero,Option.some.injEq]
   |j+1,A,_=>simp at A) (λe h=>by
   rw[A2.1 h];exact(De _ _).2 (o9 te l)) (λe h=>by
   rw[A2.1 h];exact(De _ _).2 (o9 te m)) (VU (OS rs r)) ha ((De _ _).2 λv a=>by
   rcases Am.1 a with rfl|a;rfl;exact(f v a).all _)
def lw{f:(List te.D×DL ds→Option (DL (rs++[.list te])))→List te.D×DL ds→Option (DL (rs++[.list te]))}(a: ∀c∈cs,c.Ok P)
  (d: ∀g l x,f g (l,x)=wc P (.c2 F te ds rs post (λl x=>g (l,x))::cs) hs n F te ds rs post l x):(Su.c2 F te ds rs post λl x=>nP f (l,x)).Ok P:=by
 have key: ∀m,(Su.c2 F te ds rs post λl x=>bC f m (l,x)).Ok P:=by
  intro m;induction m with
  |zero=>intro l x y b;cases b
  |succ m h=>exact KT (cs:=.c2 F te ds rs post (λl x=>bC f m (l,x))::cs) (A8 h a) λl x=>d (bC f m) l x
 intro l x y b;obtain⟨m,e⟩:=VS b;exact key m l x y e
end Go.Ab
namespace Go.Ab
def clW(fn:Func):Nat->String:=λi=>
 match fn.body with
 |some (.seq (.region _ a _) (.seq (.seq (.region _ b _) (.cond _ (.seq (.region _ c _) _) _)) (.seq (.region _ d _) _)))=>(((a++b++c++d)[i]?).map (·.pos)).getD default
 |_=>default
def vA(t b:TypeId)(w:Nat->String):Code:=
 .seq (.region 0 #[⟨some 2,.assign (.const (.slice none 0 0)),t,w 0, #[],none⟩] false)
  (.seq (.seq (.region 1 #[⟨some 3,.move (.tmp 0),t,w 1, #[],none⟩,⟨some 4,.binOp .eql t (.tmp 3) (.const (.slice none 0 0)) t,b,w 2, #[⟨0,.data⟩],none⟩] false)
    (.cond (.tmp 4) (.seq (.region 2 #[⟨some 2,.assign (.const (.slice none 0 0)),t,w 3, #[],none⟩] false) .ret) .skip))
   (.seq (.region 3 #[⟨some 5,.buildSlice t 0 #[],t,w 4, #[],none⟩,⟨some 6,.move (.tmp 0),t,w 5, #[],none⟩,
     ⟨some 7,.call {callee:=.builtin .append,args:= #[.tmp 5,.tmp 6],argTypes:= #[t,t]},t,w 6, #[⟨0,.data⟩,⟨1,.data⟩],none⟩,
     ⟨some 2,.assign (.tmp 7),t,w 7, #[⟨2,.data⟩,⟨2,.chain⟩,⟨0,.phase⟩,⟨1,.phase⟩,⟨2,.phase⟩],none⟩] false) .ret))
def Nq.none{n0:Nat}{H:As}{id g sz off:Nat}(hn:n0<=H.length)(b:id<H.length)(k:0<sz):Nq n0 (.sl id g sz off 0) H (.vs sz []) (H.set id .dead):=by
 refine⟨by simpa using hn,λX h w c s r=>?_⟩;obtain⟨p,t⟩:=s.kill b;refine⟨h,p,?_,λ_ _=>⟨rfl,rfl,rfl⟩,λB o=>?_⟩;cases r with
 |sl l m n q=>obtain⟨a,cap,rfl⟩:=n;exact Bg.vs (rows:=[]) (λ_ _=>undef) (Bv _) k (λj e h=>by simp at h) (λh=>(h rfl).elim) (λj e i v h=>by simp at h)
 obtain⟨i,e,l,d,m⟩:=o;rcases Ir b l with⟨_,f⟩|⟨rfl,rfl⟩;exact⟨i,e,f,d,m⟩;exact(d rfl).elim
variable {N n y:Nat}{R L:Type}{c:List Su}{F:FuncId}{P:Program}{g:List AV}{j:Bool}{p:Ty}{q:Int}{v:World}
theorem wh{P:Program}{F:FuncId}{t b:TypeId}{a:Ty}(p:(P.funcs[F]?).map (λy=>(y.body,y.ntmps,y.results))=some (some (vA t b (((P.funcs[F]?).map clW).getD (λ_=>default))),8, #[.tmp 2]))(J:zN P t=some a)(k:bv 0 a #[] []=true):(Su.cl F a).Ok P:=by
 generalize ((P.funcs[F]?).map clW).getD (λ_=>default)=w at p;obtain⟨y,U,C⟩:=aH.1 p;injection C with R C;injection C with hn hr;intro l H V;obtain⟨e,B,x⟩:=da J;have K:=(PN B).1;have A: ∀env,Q7 P env t 0 #[]=some (a.sz,[]):=by intro env;unfold Q7;simp only[B];refine if_pos ⟨a.sz_pos,x,rfl,rfl,Bv _,?_⟩;unfold bv at k;simp only[BT]at k;exact Nx k.2
 have i: ∀Q:AV→As→Prop,(l=[]→Q (.vs a.sz []) (A6 (H++[.dead])))→(∀r,l≠ []→app [] l=some r→Q (.sl H.length r.length a.sz 0 r.length) (A6 (H++[.buf false a r r.length 0])))→
   (l=[]\/ ∃r,app [] l=some r)->Et P F [.vs a.sz (l.map a.enc)] (A6 H) Q:=by
  intro Q M N f;refine JY U R (by rw[hn];simp) ?_;rw[hn];refine Ly.seq (FX rfl (UN.cons rfl (Da (v:=.nils) rfl (UN.nil (Ly.seq (Ly.seq (FX rfl (UN.cons rfl (Da (v:=.vs a.sz (l.map a.enc)) rfl (UN.cons rfl (mE (sz:=a.sz) (rows:=l.map a.enc) rfl K rfl λL T=>UN.nil ?_)))))))))));have o:L=true->l=[]:=λh=>by by_cases j:l=[]<;>simp_all
  have d:(A6 H++[EU.live 0 []]).set (A6 H).length EU.dead=A6 (H++[.dead]):=by simp_all[RJ,Ak,IZ,A6,Dn.enc]
  refine Ly.cond (b:=L) rfl (λz=>?_) (λS=>?_);refine Ly.seq (FX rfl (UN.cons rfl (Da (v:=.nils) rfl (UN.nil (Ly.weak (F4.virt (t:=2) (sz:=a.sz) rfl) (Ly.ret (⟨.sl (A6 H).length 0 a.sz 0 0,.vs a.sz [],(A6 H++[EU.live 0 []]).set (A6 H).length EU.dead,by simp[cP,hr,RE,gU,Env.putO,Env.put,Env.get],Nq.none (by simp) (by simp) a.sz_pos,?_⟩)))))));rw[d];exact M (o z);refine Ly.skip (Ly.seq (FX rfl (UN.cons rfl (Rl (sz:=a.sz) (vs:=[]) rfl (A _) (UN.cons rfl (Da (v:=.vs a.sz (l.map a.enc)) rfl (UN.cons rfl ?_)))))));have I:Mu (A6 H++[EU.live 0 []]) a.sz (.vs a.sz (l.map a.enc))=some (l.length,a.E.cl l):=by simp only[Mu,if_true,DF];rfl
  have s:0+l.length<=16777216:=by rcases f with rfl|⟨r,hr⟩;simp;obtain⟨N,_⟩:=gg hr;simpa using N
  refine QV (sx:=.tmp 5) (xx:=.tmp 6) (H:=A6 H++[EU.live 0 []]) (id:=(A6 H).length) (g:=0) (g':=l.length) (n:=0) (cs:=[]) (m:=l.length) (news:=a.E.cl l) rfl B a.sz_pos x rfl (by simp) (by simp) I s (by rcases RM l.length with q|q;exact .inr ⟨q,q⟩;exact .inl q) ?_;refine UN.cons rfl (Da (v:=.sl (A6 H).length l.length a.sz 0 (0+l.length)) rfl (UN.nil (Ly.ret ?_)));have O:(A6 H++[EU.live 0 []]).set (A6 H).length (.live l.length ([]++a.E.cl l))=A6 (H++[.buf false a l l.length 0]):=by simp_all[RJ,Ak,IZ,A6,Dn.enc]
  by_cases j:l=[];subst j;refine⟨.sl (A6 H).length 0 a.sz 0 0,.vs a.sz [],(A6 H++[EU.live 0 []]).set (A6 H).length EU.dead,by simp[cP,hr,RE,gU,Env.putO,Env.put,Env.get],?_,?_⟩;have:=Nq.none (n0:=(A6 H).length) (H:=A6 H++[EU.live 0 []]) (id:=(A6 H).length) (g:=0) (off:=0) (by simp) (by simp) a.sz_pos;have e:(A6 H++[EU.live 0 []]).set (A6 H).length (.live ([]:List a.D).length ([]++a.E.cl []))=A6 H++[EU.live 0 []]:=by rw[RJ _ _ (Ak _),IZ];rfl
  rw[e];exact this;rw[d];exact M rfl;rcases f with h|⟨r,c⟩;exact(j h).elim;obtain⟨_,G⟩:=gg c;have u:l=r:=by simpa using G.symm
  subst u;refine⟨.sl (A6 H).length l.length a.sz 0 l.length,_,_,by simp[cP,hr,RE,gU,Env.putO,Env.put,Env.get],Nq.refl _ _ (by simp),?_⟩;grind[CV]
 refine⟨λj=>?_,λr j hr=>?_⟩;subst j;exact i _ (λ_=>⟨rfl,rfl⟩) (λr h=>(h rfl).elim) (.inl rfl);exact i _ (λh=>(j h).elim) (λW _ c=>by rw[hr]at c;injection c with c;subst c;exact⟨rfl,rfl⟩) (.inr ⟨r,hr⟩)
abbrev i64:Ty:=.int .i64
abbrev hn(k i:Nat)(s:List TQ)(e:List (Exit×List TQ)):Hint:=⟨k,i,[],[],[],[],s,e⟩
def k0{a d:List Ty}{g:DL a→Option (DL d)}(l:List (Nat×List Hint))(b: ∀e∈c,e.Ok P)
  (f:g=λx=>uC P c (VC l) 13 F a d x:=by kernel_rfl):(Su.c0 F a d g).Ok P:=uI b λx=>congrFun f x
def k1{P:Program}{a:Ty}{d f:List Ty}{g:a.D→DL d→Option (DL (f++[a]))}(l:List (Nat×List Hint))(e: ∀h∈c,h.Ok P)
  (i:g=λb x=>wa P c (VC l) 13 F N a d f b x:=by kernel_rfl):(Su.c1 F N a d f g).Ok P:=zC e λb x=>congrFun (congrFun i b) x
theorem w64(h: -9223372036854775808<=q/\q<=9223372036854775807):IntKind.wrap .i64 q=q:=by grind[IntKind.wrap_i64]
def vU{body:L->Option (Step L R)}(I:L->Prop)(Q:R->Prop)(b:L->Nat)(i: ∀s,I s->(∃r,body s=some (.done r)/\Q r)\/ ∃a,body s=some (.next a)/\I a/\b a<b s){s:L}(h:I s): ∃r,Ad body s=some r/\Q r:=by
 have key: ∀(n:Nat) (s:L),b s<n->I s-> ∃r,Ad body s=some r/\Q r:=by
  intro n;induction n with
  |zero=>intro s j;omega
  |succ n k=>intro s j g;rcases i s g with⟨r,c,d⟩|⟨a,c,d,l⟩;exact⟨r,by rw[Cc,c],d⟩;obtain⟨r,e,f⟩:=k a (by omega) d;exact⟨r,by rw[Cc,c];exact e,f⟩
 exact key (b s+1) s (by omega) h
theorem zb{l:List R}{x:R}(h:l[N]? =some x):ix l (N:Int)=some x:=by unfold ix;grind[Int.toNat_natCast]
def ACG{l:List R}(a:0<=q)(c:q<l.length): ∃x,ix l q=some x/\l[q.toNat]? =some x:=by
 obtain⟨n,rfl⟩:=Ea a;have hn:n<l.length:=by omega
 exact⟨l[n],zb (Az hn),by simp[hn]⟩
def AAz{l a:List R}(h:l.length+a.length<=16777216):app l a=some (l++a):=if_pos h
theorem yq(a:RG n R)(h:N<n):K3 a (N:Int)=some (a ⟨N,h⟩):=by grind[K3]
def Ay(o:Option R)(Q:R->Prop):Prop:= ∃r,o=some r/\Q r
section
variable {α β γ:Type}
theorem AA{r:α}{Q:α->Prop}(h:Q r):Ay (.some r) Q:=⟨r,rfl,h⟩
def Ay.mono{o:Option α}{P Q:α->Prop}(h:Ay o P)(c: ∀r,P r->Q r):Ay o Q:=by obtain⟨r,a,b⟩:=h;exact⟨r,a,c r b⟩
theorem AB{o:Option α}{k:α->Option β}{P:α->Prop}{Q:β->Prop}(h:Ay o P)(b: ∀r,P r->Ay (k r) Q):Ay (Option.bind o k) Q:=by obtain⟨r,rfl,a⟩:=h;exact b r a
theorem EO{o:Option α}{k:α->Option β}{P:α->Prop}{Q:β->Prop}(h:Ay o P)(b: ∀r,o= .some r->P r->Ay (k r) Q):Ay (Option.bind o k) Q:=by obtain⟨r,rfl,a⟩:=h;exact b r rfl a
def AJ{o:Option α}{k:α->Option β}{P:α->Prop}{Q:β->Prop}(a: ∀r,P r->Ay (k r) Q)(h:Ay o P):Ay (Option.bind o k) Q:=AB h a
def AI{a b:Option α}{Q:α->Prop}(d:j=true->Ay a Q)(e:j=false->Ay b Q):Ay (bif j then a else b) Q:=by
 cases j with
 |true=>exact d rfl
 |false=>exact e rfl
def AC{p:Prop}{_:Decidable p}{a b:Option α}{Q:α->Prop}(c:p->Ay a Q)(d: ¬p->Ay b Q):Ay (bif decide p then a else b) Q:=AI (λh=>c (of_decide_eq_true h)) (λh=>d (of_decide_eq_false h))
def AO{a b:Option α}{Q:α->Prop}(d:j=false->Ay a Q)(e:j=true->Ay b Q):Ay (bif !j then a else b) Q:=by
 cases j with
 |true=>exact e rfl
 |false=>exact d rfl
theorem AQ{_:BEq R} [LawfulBEq R] {x y:R}{a b:Option α}{Q:α->Prop}(c:x=y->Ay a Q)(d:x≠y->Ay b Q):Ay (bif x==y then a else b) Q:=AI (λh=>c (eq_of_beq h)) (λh=>d (ne_of_beq_false h))
theorem AL{_:BEq R} [LawfulBEq R] {x y:R}{a b:Option α}{Q:α->Prop}(c:x≠y->Ay a Q)(d:x=y->Ay b Q):Ay (bif x !=y then a else b) Q:=by refine AI (λh=>c λe=>?_) (λh=>d ?_);subst e;simp at h;simpa using h
def BP{a b:Option α}{k:α->Option β}{Q:β->Prop}(h:Ay (bif j then Option.bind a k else Option.bind b k) Q):Ay (Option.bind (bif j then a else b) k) Q:=by cases j<;>exact h
def BF{a:α}{k:α->Option β}{Q:β->Prop}(h:Ay (k a) Q):Ay (Option.bind (.some a) k) Q:=h
def BZ{o:Option α}{f:α->Option β}{k:β->Option γ}{Q:γ->Prop}(h:Ay (Option.bind o λv=>Option.bind (f v) k) Q):Ay (Option.bind (Option.bind o f) k) Q:=by cases o<;>exact h
def ME{f:α->Option γ}{g:β->Option γ}{o:α ⊕ β}{k:γ->Option R}{Q:R->Prop}(h:Ay (Sum.elim (λu=>Option.bind (f u) k) (λu=>Option.bind (g u) k) o) Q):Ay (Option.bind (Sum.elim f g o) k) Q:=by cases o<;>exact h
theorem BG{u:α}{f:α->Option γ}{g:β->Option γ}{Q:γ->Prop}(h:Ay (f u) Q):Ay (Sum.elim f g (.inl u)) Q:=h
theorem BE{u:β}{f:α->Option γ}{g:β->Option γ}{Q:γ->Prop}(h:Ay (g u) Q):Ay (Sum.elim f g (.inr u)) Q:=h
theorem A3{f:α->Option γ}{g:β->Option γ}{o:α ⊕ β}{Q:γ->Prop}(a: ∀u,o= .inl u->Ay (f u) Q)(b: ∀u,o= .inr u->Ay (g u) Q):Ay (Sum.elim f g o) Q:=by
 cases o with
 |inl u=>exact a u rfl
 |inr u=>exact b u rfl
def Ay.get{o:Option α}{Q:α->Prop}{r:α}(h:Ay o Q)(e:o= .some r):Q r:=by obtain⟨s,a,b⟩:=h;rw[e]at a;injection a with a;rw[a];exact b
def Ay.and{o:Option α}{P Q:α->Prop}(h:Ay o P)(g:Ay o Q):Ay o λr=>P r/\Q r:=by obtain⟨r,a,b⟩:=h;exact⟨r,a,b,g.get a⟩
theorem AE{l:List α}{i:Int}(b:0<=i:=by omega)(c:i<l.length:=by omega):Ay (ix l i) λx=>l[i.toNat]? = .some x/\x∈l:=by obtain⟨x,d,a⟩:=ACG b c;exact⟨x,d,a,BK a⟩
theorem Ac{l a:List α}(h:l.length+a.length<=16777216):Ay (app l a) λr=>r=l++a/\r.length=l.length+a.length/\r.length<=16777216:=⟨_,AAz h,rfl,by simp,by simp;omega⟩
def Ca{a b:Bd}(h:a.length+b.length<=9223372036854775807):Ay (sapp a b) λr=>r=a++b/\r.length=a.length+b.length:=by refine⟨a++b,?_,rfl,by simp⟩;unfold Go.Ab.sapp;rw[if_pos h]
theorem Ds{s:Bd}{b:Int}(c:0<=q:=by omega)(d:q<=b:=by omega)(e:b<=s.length:=by omega):Ay (R9 s q b) λr=>r=(s.drop q.toNat).take (b.toNat-q.toNat)/\(r.length:Int)=b-q:=by refine⟨_,if_pos ⟨c,d,e⟩,rfl,?_⟩;rw[CH,Gt];omega
def Bo{s:List α}{lo hi:Int}(a:0<=lo:=by omega)(b:lo<=hi:=by omega)(c:hi<=s.length:=by omega):Ay (YU s lo hi) λr=>r=(s.drop lo.toNat).take (hi.toNat-lo.toNat)/\(r.length:Int)=hi-lo:=by refine⟨_,if_pos ⟨a,b,c⟩,rfl,?_⟩;rw[CH,Gt];omega
def Pu{s:Bd}{i:Int}(a:0<=i)(c:i<s.length):Ay (six s i) λb=>0<=b/\b<256:=by
 obtain⟨n,rfl⟩:=Ea a;have hn:n<s.length:=by omega
 refine⟨(s[n].toNat:Int),?_,by omega,?_⟩;unfold Go.Ab.six;simp[hn];have:=s[n].toNat_lt;omega
def Dj{a:RG n α}(b:0<=q)(c:q<n):Ay (K3 a q) λx=>x=a ⟨q.toNat,by omega⟩:=by obtain⟨k,rfl⟩:=Ea b;exact⟨_,yq a (by omega),rfl⟩
theorem kQ{z:α}(a:0<=q)(b:q<=16777216):Ay (mk z q q) λr=>r=List.replicate q.toNat z/\(r.length:Int)=q:=by refine⟨List.replicate q.toNat z,?_,rfl,by simp;omega⟩;unfold Go.Ab.mk;rw[if_pos ⟨a,Af _,b⟩]
def AM{body:L→Option (Step L R)}(I:L→Prop)(c:L→Nat){Q:R→Prop}{s:L}(d:I s)
  (g: ∀s,I s->Ay (body s) λb=>match b with| .next a=>I a/\c a<c s| .done r=>Q r):Ay (Ad body s) Q:=by
 obtain⟨r,e,f⟩:=vU (body:=body) I Q c (λs h=>by
  obtain⟨b,q1,q2⟩:=g s h;cases b with
  |next a=>exact .inr ⟨a,q1,q2.1,q2.2⟩
  |done r=>exact .inl ⟨r,q1,q2⟩) d
 exact⟨r,e,f⟩
def Ss(n:Int):IntKind.wrap .u64 n=n%18446744073709551616:=by simp[IntKind.wrap,IntKind.bits,IntKind.signed]
theorem sC(n:Int):IntKind.wrap .u32 n=n%4294967296:=by simp[IntKind.wrap,IntKind.bits,IntKind.signed]
def AAQ(n:Int):IntKind.wrap .u8 n=n%256:=by simp[IntKind.wrap,IntKind.bits,IntKind.signed]
def Xw{Q:α->Prop}(h:False):Ay .none Q:=h.elim
theorem AW{x:Int}(h: -9223372036854775808<=x/\x<=9223372036854775807:=by omega):wi x=x:=w64 h
def yV(x:Int):wi x=(x+9223372036854775808)%18446744073709551616-9223372036854775808:=by unfold wi;rw[IntKind.wrap_i64]
end
open Go.ChangeShapes Go.WideShapes Go.ChangeAt Go.RowKit
def gh0:Gh:=⟨λ_=>none,λ_=>0,λ_=>0⟩
def cx0(w:World):Cx:=cx (λ_=>False) gh0 [] w
def AC6(w:World):It (λ_=>False) gh0 [] w where
 out B h:=h.elim
 live id g cs h:=by simp at h
 lp id L h:=by simp at h
 inj id id' e e' B h:=by simp at h
 bld id e h:=by simp at h
theorem tE: ¬(cx0 v).O N:=by rintro(h|⟨id,e,h,_⟩);exact h;grind
def hZ{Q:AV→As→Prop}(h:Et P F g [] Q){w:World}{cargs:Array Value}(hn:cargs.size=g.length)
  (d: ∀(j:Nat) (v:AV) (c:Value),g[j]? =some v->cargs[j]? =some c->Bg (cx0 w) v c):
  Calls P F cargs w λe b=> ∃c v x a,e= .returned c/\Q v a/\Bg x v c/\Below w.heap.size w b:=by
 refine(h (λ_=>False) gh0 w cargs (AC6 w) hn d).mono ?_;rintro e b ⟨c,v,i,a,rfl,q,_,r,x⟩;refine⟨c,v,_,a,rfl,q,r,x.os,x.tape,x.output,x.size,λk l=>x.keep k l ?_⟩;rintro⟨id,e,f,_⟩;simp at f
def vz{k:IntKind}{a:Addr}{b:List Int}(A:N≤n)(D:b.length=n)(t: ∀i,i<b.length→v.cell? (a.add i)=some (.int k (b.getD i 0)))(q:a.block<v.heap.size∨N=0):
  Bg (cx0 v) (.vs 1 ((b.take N).map λw=>.int k w)) (.slice (some a) N n):=by
 have d:((b.take N).map λw=>AV.int k w).length=N:=by simp;omega
 have g: ∀(j:Nat) (e:AV),((b.take N).map λw=>AV.int k w)[j]? =some e->j<N/\e= .int k (b.getD j 0):=by
  intro j e h;rw[CL]at h;cases c:(b.take N)[j]? with
  |none=>rw[c]at h;cases h
  |some w=>
   rw[c]at h;simp only[Bf,Aj]at h;subst h;have p:j<(b.take N).length:=by rcases Aq j (b.take N).length with h|h;exact h;rw[Cs h]at c;cases c
   simp only[CH]at p;rw[jC (by omega)]at c;exact⟨by omega,by rw[I5,c];rfl⟩
 have key:=Bg.vs (x:=cx0 v) (sz:=1) (rows:=(b.take N).map λw=>.int k w) (a:=some a) (cap:=n) (λj _=>.int k (b.getD j 0)) (by rw[d];exact A) (by omega)
  (λj e h=>by rw[(g j e h).2];rfl)
  (λr=>by
   have C:0<N:=by rcases RM N with h|h;subst h;simp at r;exact h
   have m:a.spot=none:=by have:=t 0 (by omega);unfold World.cell? at this;split at this;split at this;cases this;rename_i u;simp only[Addr.add,if_true]at u;simpa using u;cases this
   obtain⟨B,s,E⟩:=a;simp only at m;subst m;refine⟨B,s,rfl,tE,?_,λj e i F c l=>?_⟩;rcases q with h|h;exact h;omega;obtain⟨y,o⟩:=g j e c;subst o;have f:i=0:=by
    simp only[AV.cells]at l;cases i with
    |zero=>rfl
    |succ i=>simp at l
   subst f;refine⟨?_,rfl⟩;have:=t j (by omega);simp only[Nat.mul_one,RK];show v.cell? _=_;rw[<-this];unfold Addr.add;split;rename_i z;subst z;rfl;rfl)
  (λj e i F c l=>by
   obtain⟨y,o⟩:=g j e c;subst o;have f:F= .int k (b.getD j 0):=by
    simp only[AV.cells]at l;cases i with
    |zero=>simpa using l.symm
    |succ i=>simp at l
   subst f;exact .int _ _)
 rw[d]at key;exact key
def yT:Bg (cx0 v) (.vs 1 []) (.slice none 0 0):=Bg.vs (x:=cx0 v) (sz:=1) (rows:=[]) (a:=none) (cap:=0) (λ_ _=>.nilFunc) (by simp) (by omega) (λj e h=>by simp at h) (λh=>absurd rfl h) (λj e i w h=>by simp at h)
end Go.Ab
