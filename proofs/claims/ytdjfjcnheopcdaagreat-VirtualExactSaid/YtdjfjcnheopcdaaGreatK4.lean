/- Texts of wip, joined and shortened by wip/tools/pack.py; nothing is assumed. -/
import Derived.Test.YtdjfjcnheopcdaaGreatK3
import Derived.KernelRfl
import Derived.ProofKit
noncomputable section
set_option linter.all false
namespace Go.Ab
def isLen:Op->Bool
 | .call {callee:=.builtin .len,.. }=>true
 | .move _=>true
 | .assign _=>true
 | .extract _ _=>true
 |_=>false
def rdT(env:Bd)(op:Op):List Nat:=match isLen op with|true=>[]|false=>op.operands.toList.flatMap λx=>idT (Is env x)
def VQ(o:Oper)(env:Bd):Bd:=(tmpsOf o).filterMap λt=>match env.get t with| .c (.raw .any)=>none|v=>some (t,v)
def gT(ids:List Nat):Nat->Ap->List Nat
 |_,[]=>[]
 |j,.live false cs::r=>match (K6 cs).any λi=>OE i ids with|true=>j::gT ids (j+1) r|false=>gT ids (j+1) r
 |j,_::r=>gT ids (j+1) r
variable {N n z:Nat}{R y:Type}{a A:List Nat}{b B:Ap}{c:List Pt}{d J:Code}{F:FuncId}{P:Program}{e:List Oper}{f L O:Bd}{g:List AZ}{i:AZ}{j:Bool}{k:Qj}{m M:TypeId}{p:Ty}{q:Int}{t:List TV}{u:Env}{v:World}{w:TV}{x:Exit}{D:Ds}{E:Bu}{G:Operand}{I:IntKind}{K:Value}{o:Oper}
section
variable {R:Type}
def quD(P:Program)(env:Bd)(H:Ap)(op:Op)(k:TV->Option R):Option R:=
 match op with
 | .buildSlice t len parts=>nI P env t len parts k
 |op=>quT P env H op k
def AAw(P:Program)(cs:List Pt)(call:Qj)(env:Bd)(H:Ap)(op:Op)(k:TV->Ap->Option R):Option R:=
 match op with
 | .box _ x=>ACX H (Is env x) k
 | .store t a v=>storeT P H t (Is env a) (Is env v) k
 | .makeSlice t x y=>dp P H t (Is env x) (Is env y) k
 | .buildSlice t len parts=>YA P env H t len parts k
 | .call c=>
  match gy env (.call c)with
  |some (F,vs)=>
   match Enters P F with
   |true=>
    match pJ cs F vs with
    |some ct=>xm ct vs H k
    |none=>match isNil vs with|true=>call (.fn F) [] (H.map Ds.lock) λv H'=>k v (U4 H H')|false=>call (.fn F) vs H k
   |false=>none
  |none=>
   match qZ env c with
   |some (id,vs)=>call (.yd id) vs H k
   |none=>
    match c with
    |{callee:=.builtin .append,args:=⟨[s,x]⟩,argTypes:=⟨[t,t']⟩}=>match Nat.beq t t' with|true=>oF P H t (Is env s) (Is env x) k|false=>none
    |_=>none
 |_=>none
def AFo(P:Program)(cs:List Pt)(call:Qj)(env:Bd)(H:Ap)(op:Op)(k:TV->Ap->Option R):Option R:=
 match HG (jJ cs env H op) env H with
 |(ef,hf)=>AAw P cs call ef hf op k
def ut(cs:List Pt)(env:Bd)(H:Ap)(op:Op):List Nat:=
 match jJ cs env H op with
 |[]=>tJ cs env H op
 |ids=>ids++gT ids 0 H++(match HG ids env H with|(ef,hf)=>tJ cs ef hf op)
def AFw:Op->Bool
 | .buildSlice .. =>true
 |_=>false
def xQ(P:Program)(cs:List Pt)(call:Qj)(ops:Array Oper)(m:List Nat)(gs:List Nat)(ow:Bool):List Nat->List (Nat×List Nat)->Bd->Ap->(Bd->Ap->Option R)->Option R
 |[],_,env,H,k=>k env H
 |i::r,pend,env,H,k=>
  match ops[i]? with
  |none=>none
  |some o=>
   match o.op with
   | .alloc t=>
    match qa P t with
    |some z=>
     match o.guard.isNone&&r.all (λj=>O3 m i j||H6 ops j)with
     |true=>xQ P cs call ops m gs ow r pend (env.putO o.dst (.c (.raw (.ptr H.length 0 0)))) (H++[.live false z]) k
     |false=>none
    |none=>none
   |op=>
    match di ops o.guard env with
    |some false=>xQ P cs call ops m gs ow r ((i,[])::pend) (env.putO o.dst (.tup [])) H k
    |some true=>
     match dq op&& !(ow&&AFw op)with
     |true=>
      match (rdT env op).all λid=>Nat.blt id H.length with
      |true=>quD P env H op λv=>force (OE i gs) v λv'=>xQ P cs call ops m gs ow r ((i,rdT env op)::pend) (env.putO o.dst v') H k
      |false=>none
     |false=>
      match r.all (λj=>O3 m i j||H6 ops j)&&pend.all (λp=>O3 m p.1 i||p.2.all λid=>!OE id (ut cs (VQ o env) H op))with
      |true=>AFo P cs call (VQ o env) H op λv H'=>force (OE i gs) v λv'=>xQ P cs call ops m gs ow r pend (env.putO o.dst v') H' k
      |false=>none
    |none=>none
variable {P:Program} {N:Nat} {o:Oper} {env:Bd} {H:Ap} {r:R}
theorem yS(env:Bd)(a:Op)(h:isLen a=false):zi (B4 env) a=rdT env a:=by grind[zi,rdT,JW,AC6]
theorem iz.len{env:Env}{H:Ax}{v:AZ}(b:isLen o.op=true)(e:Cb P env H o.op=some v):iz P N o env H [] v:=by
 intro c f d _;refine Dj (v:=v) ?_ ⟨rfl,rfl⟩;rw[sN (dE d),<-e];generalize o.op=op at b;unfold isLen at b;split at b;rename_i args a;obtain⟨args⟩:=args;obtain⟨a⟩:=a;match args,a with
 |[x],[t]=>rfl
 |[],_=>rfl
 |_::_::_,_=>rfl
 |[_],[]=>rfl
 |[_],_::_::_=>rfl
 rfl;rfl;rfl;cases b
theorem zf{k:TV->Option R}(ok:PE env H)(h:quD P env H o.op k=some r): ∃v,iz P N o (B4 env) (BJ H) (rdT env o.op) v.enc/\k v=some r/\v.ok H:=by
 have n:quT P env H o.op k=some r-> ∃v,iz P N o (B4 env) (BJ H) (rdT env o.op) v.enc/\k v=some r/\v.ok H:=λh=>by
  obtain⟨v,f,i,j⟩:=sO ok h;refine⟨v,?_,i,j⟩;cases z:isLen o.op with
  |true=>grind[rdT,iz.len]
  |false=>rw[<-yS _ _ z];exact Vw f
 generalize b:o.op=op at h;unfold quD at h;split at h;rename_i t len a;unfold nI at h;split at h;rename_i q l;split at h;rename_i e;split at h;rename_i F d;have E:=qG l e;refine⟨_,?_,h,Js trivial⟩;rw[<-b,<-yS _ _ (by rw[b];rfl)];have y:tG P (B4 env) (BJ H) o.op=some (.vs q.sz ((a.toList.map λp=>Is env p.2).map TV.enc)):=by grind[tG]
 have A:=gB (N:=N) y;intro x m f i;have j:=A x m f i;refine JC.after (v:=.vs q.sz ((a.toList.map λp:Nat×Operand=>Is env p.2).map TV.enc)) (H1:=m) j λX g w s=>⟨TG.refl _ _,λc D=>ADn (jj d) (fq d) (λv C=>?_) _ _ D⟩
 unfold du at e;simp only[BU]at e;obtain⟨u,B,rfl⟩:=Bh.1 C;have:=F3.1 e.1.1.2 u B;split at this;simp_all[XX,bc];cases this;cases h;cases h;cases h;grind
theorem zG{a:Op}{b:TV->Ap->Option R}(h:AAw P c k env H a b=some r):uw P c k env H a b=some r:=by unfold AAw at h;unfold uw;split at h<;>grind
theorem sI{p:Nat×TV}(h:p∈VQ o f):p.1∈tmpsOf o/\p.2=f.get p.1/\p.2≠ .c (.raw .any):=by obtain⟨t,b,a⟩:=OS.1 h;grind
theorem ACx(h:w.enc= .any):w= .c (.raw .any):=by
 cases w with
 |c x=>
  cases x with
  |ar n t a=>cases h
  |_=>grind[TV.enc,Bu.one]
 |_=>simp[TV.enc]at h
theorem jH{t:Nat}: ∀{l:Bd},(∀p∈l,p.1≠t)->Bd.get l t=Rv
 |[],_=>rfl
 |(k,u)::r,h=>by simp only[Bd.get,beq_false (h (k,u) k!)];exact jH λp a=>h p (by simp[a])
theorem sB{j:Nat}: ∀{l:List Nat},j∈l->OE j l=true
 |i::r,h=>by simp only[OE];rcases Av.1 h with rfl|h;rw[Jr];rw[sB h];split<;>rfl
def ADq(ids:List Nat)(H:Ap)(j:Nat):Prop:= ∀cs,H[j]? =some (.live false cs)-> ∀i∈K6 cs,i∉ids
theorem ng{ids:List Nat}: ∀{H:Ap} {i j:Nat},i+j∉gT ids i H->ADq ids H j
 |e::r,i,0,hn,c,h=>by grind[gT,sB]
 |e::r,i,j+1,hn,c,h=>by
  have d:(i+1)+j∉gT ids (i+1) r:=by
   have f:i+1+j=i+(j+1):=o!
   rw[f];intro a;apply hn;cases e with
   |live b c=>cases b<;>grind[gT]
   |dead=>exact a
   |buf=>exact a
   |lp=>exact a
   |mp=>exact a
  exact ng (ids:=ids) d c h
def jt{id b:Nat}{t:Ty}{l:List t.D}: ∀{a:List Bu},id∉K6 a->a.map (NO id b t l)=a
 |[],_=>rfl
 |x::r,h=>by
  cases x with
  |own d c e n=>simp only[K6,Av,not_or]at h;simp only[Bv,NO,beq_false h.1,Bool.false_and,jt h.2]
  |_=>simp only[K6]at h;simp only[Bv,NO,jt h]
def dF: ∀(a:List Nat) {env:Bd} {H:Ap} {j:Nat},j∉a->ADq a H j->(HG a env H).2[j]? =H[j]?
 |[],_,_,_,_,_=>rfl
 |id::r,env,H,j,hj,hn=>by
  simp at hj;simp only[HG];split;rename_i e h d;have m:h[j]? =H[j]? :=by
   unfold frz at d;split at d;rename_i t l n q s;simp at d;rw[<-d.2,Dy (λe=>hj.1 e.symm),CD];cases p:H[j]? with
   |none=>rfl
   |some o=>
    simp;cases o with
    |live b c=>
     cases b with
     |false=>simp only[P8];rw[jt λf=>hn c p id f Jp]
     |true=>rfl
    |_=>rfl
   cases d
  rw[dF r hj.2 λc g i k f=>hn c (m▸g) i k (Cd _ f),m];exact dF r hj.2 λc g i k f=>hn c g i k (Cd _ f)
theorem wY(l: ∀f∈c,f.Ok P)(g:Uw P k){b:TV→Ap→Option R}(ok:PE env H)(h:AFo P c k (VQ o env) H o.op b=some r):
  ∃v d,Eff P N o (B4 env) (BJ H) (ut c (VQ o env) H o.op) (C6 v.enc (BJ d))/\b v d=some r/\v.ok d/\(∀e∈d,e.ok d)/\CE H d:=by
 have n:PE (VQ o env) H:=⟨λp m=>by rw[(sI m).2.1];exact ma ok.env _,ok.heap⟩
 obtain⟨s,u,A⟩:=PK (jJ c (VQ o env) H o.op) n;have w:=λj=>dF (jJ c (VQ o env) H o.op) (env:=VQ o env) (H:=H) (j:=j);have x: ∀id,id∉ut c (VQ o env) H o.op->id∉tJ c (HG (jJ c (VQ o env) H o.op) (VQ o env) H).1 (HG (jJ c (VQ o env) H o.op) (VQ o env) H).2 o.op/\(HG (jJ c (VQ o env) H o.op) (VQ o env) H).2[id]? =H[id]? :=by intro id a;unfold ut at a;split at a;rename_i z;rw[z];exact⟨a,rfl⟩;simp only[Ao,not_or]at a;refine⟨a.2,w id a.1.1 (ng (i:=0) q!)⟩
 obtain⟨v,d,q1,q2,q3,q4,q5,q6⟩:=nR (N:=N) l g s (zG h);refine⟨v,d,⟨λt G=>JC.before (Fz.subset λq y=>?_) (JC.before (A N) q1),?_⟩,q2,q3,q4,u.step.trans q5⟩;obtain⟨p,m,rfl⟩:=Bh.1 y;obtain⟨D,E,F⟩:=sI m;grind[Tb,Nj,ACx];rintro _ _ ⟨rfl,rfl⟩ id a hn;rw[Ce]at a;obtain⟨B,C⟩:=x id hn;rw[FC,FC,q6 id (DM a u.step.len) B,C]
def S9{j:Nat}: ∀{l:List Nat},OE j l=false->j∉l
 |i::r,h=>by simp only[OE]at h;split at h;cases h;rename_i b;intro a;rcases Av.1 a with rfl|a;rw[Jr]at b;cases b;exact S9 h a
 |[],_=>λh=>by cases h
def qj(ops:Array Oper)(l:List Nat):List Nat:=l.filterMap λi=>(ops[i]?).bind (·.dst)
theorem XU{L:List Pt}(u: ∀c∈L,c.Ok P){w:Qj}(s:Uw P w){b:Array Oper}{X:List Nat}{ow:Bool}: ∀(l:List Nat) (n:List (Nat×List Nat)) (env:Bd) (H:Ap) (k:Bd→Ap→Option R) (r:R),PE env H→
  xQ P L w b (IE b.toList []) X ow l n env H k=some r->
  ∃a q,RA P N b l n (B4 env) (BJ H) (λe h=>e=B4 a/\h=BJ q)/\k a q=some r/\PE a q/\E9 (qj b l) env H a q
 |[],n,env,H,k,r,ok,h=>⟨env,H,⟨rfl,rfl⟩,h,ok,E9.refl _ _ _⟩
 |i::l,n,env,H,k,r,ok,h=>by
  simp only[xQ]at h;simp only[RA];cases J:b[i]? with
  |none=>rw[J]at h;cases h
  |some o=>
   rw[J]at h;simp only at h⊢;have m: ∀{e:Bd} {h:Ap} {v:TV},E9 (qj b [i]) e h (e.putO o.dst v) h:=by
    intro e h v;refine⟨CE.refl h,λt T _=>?_⟩;cases hd:o.dst with
    |none=>rfl
    |some d=>refine lT λe=>T ?_;simp[qj,J,hd,e]
   have g: ∀t,t∈qj b [i]++qj b l->t∈qj b (i::l):=by grind[qj]
   split at h;rename_i t Q;split at h;rename_i z hz;split at h;rename_i F;simp only[BU]at F;obtain⟨z1,z2⟩:=Xb hz;have I:=CE.push H (.live false z);have f:PE (env.putO o.dst (.c (.raw (.ptr H.length 0 0)))) (H++[.live false z]):=⟨Ze (I.env ok.env) (Js trivial),PD ok.heap (z2 _)⟩
   obtain⟨a,q,x,C,D,E⟩:=XU u s l _ _ _ _ _ f h;have G:o.guard=none:=by simpa using F.1
   refine⟨a,q,?_,C,D,?_⟩;rw[G];refine .inr (.inr ⟨t,lvs z,Q,z1,λj V=>?_,?_⟩);grind[List.all_eq_true];have M:B4 (env.putO o.dst (.c (.raw (.ptr H.length 0 0))))=(B4 env).putO o.dst (.ptr (BJ H).length 0 0):=by rw[WX,Ce];rfl
   have W:BJ (H++[.live false z])=BJ H++[.live 0 (lvs z)]:=Qb _ _;rw[M,W]at x;exact x;have U:E9 (qj b [i]) env H (env.putO o.dst (.c (.raw (.ptr H.length 0 0)))) (H++[.live false z]):=⟨I,(m (h:=H)).same⟩
   exact(E9.trans ok.env U E).mono g;cases h;cases h;rename_i O;have y:H6 b i=false:=by
    cases Z:H6 b i with
    |false=>rfl
    |true=>obtain⟨t,T⟩:=(VO J).1 Z;exact(O t T).elim
   split at h;rename_i G;have f:PE (env.putO o.dst (.tup [])) H:=⟨Ze ok.env (Qg λv hv=>by cases hv),ok.heap⟩
   obtain⟨a,q,x,C,D,E⟩:=XU u s l _ _ _ _ _ f h;have M:(B4 env).putO o.dst (.tup [])=B4 (env.putO o.dst (.tup [])):=by rw[WX];rfl
   exact⟨a,q,lF G ⟨y,by rw[M];exact x⟩,C,D,(E9.trans ok.env m E).mono g⟩;rename_i G;split at h;split at h;rename_i S;obtain⟨v,q1,q2,q3⟩:=zf (N:=N) ok h;have B:=jm q2;have f:PE (env.putO o.dst v) H:=⟨Ze ok.env q3,ok.heap⟩
   obtain⟨a,q,x,C,D,E⟩:=XU u s l _ _ _ _ _ f B;refine⟨a,q,gO G (.inl ⟨y,v.enc,rdT env o.op,q1,λid A=>?_,by rw[<-WX];exact x⟩),C,D,(E9.trans ok.env m E).mono g⟩;have:=F3.1 S id A;rw[Ce];exact Kl this;cases h;split at h;rename_i F;simp only[BU]at F;obtain⟨v,K,q1,q2,q3,q4,q5⟩:=wY (N:=N) u s ok h;have B:=jm q2;have f:PE (env.putO o.dst v) K:=⟨Ze (q5.env ok.env) q3,q4⟩
   obtain⟨a,q,x,C,D,E⟩:=XU u s l _ _ _ _ _ f B;refine⟨a,q,gO G (.inr (.inl ⟨y,ut L (VQ o env) H o.op,λj V=>by simpa using List.all_eq_true.1 F.1 j V,λp hp=>?_,C6 v.enc (BJ K),q1,?_,?_⟩)),C,D,?_⟩;have:=F3.1 F.2 p hp;simp only[WT,F3,WS]at this;exact this.imp id λY id A=>S9 (Y id A);rintro _ _ ⟨rfl,rfl⟩;rw[Ce,Ce];exact q5.len;rintro _ _ ⟨rfl,rfl⟩;rw[<-WX];exact x;have U:E9 (qj b [i]) env H (env.putO o.dst v) K:=⟨q5,(m (h:=H)).same⟩
   exact(E9.trans ok.env U E).mono g;cases h;cases h
end
abbrev DV:=(t:Ty)×t.D
def dvs:(ts:List Ty)->DL ts->List DV
 |[],_=>[]
 |[t],x=>[⟨t,x⟩]
 |t::u::r,x=>⟨t,x.1⟩::dvs (u::r) x.2
def wy:(ts:List Ty)->List DV->Option (DL ts)
 |[],[]=>some ()
 |[t],[⟨t',x⟩]=>if h:t'.beq t=true then some (Ty.cast h x)else none
 |t::u::r,⟨t',x⟩::ds=>if h:t'.beq t=true then match wy (u::r) ds with|some y=>some (Ty.cast h x,y)|none=>none else none
 |_,_=>none
def xy{a:Ty}(h:a.beq p=true)(x:a.D):(⟨p,Ty.cast h x⟩:DV)=⟨a,x⟩:=by have e:=Ty.beq_eq a p h;subst e;rfl
theorem mo: ∀{b:List Ty} {a:List DV} {s:DL b},wy b a=some s->dvs b s=a
 |[],[],s,_=>rfl
 |[],_::_,s,h=>by cases h
 |[t],[],s,h=>by cases h
 |[t],[⟨t',x⟩],s,h=>by simp only[wy]at h;split at h;rename_i c;injection h with h;subst h;simp only[dvs,xy];cases h
 |[t],_::_::_,s,h=>by simp[wy]at h
 |t::u::r,[],s,h=>by cases h
 |t::u::r,⟨t',x⟩::a,s,h=>by simp only[wy]at h;split at h;rename_i c;split at h;rename_i y d;injection h with h;subst h;simp only[dvs,xy,mo d];cases h;cases h
inductive Part where
 |d (t:Ty)
 |o (id:Nat)
inductive Ua where
 |t (tmp:Nat) (ty:Ty)
 |g (tmp id:Nat)
 |p (id:Nat) (ps:List Part)
 |u (id:Nat) (ty:Ty)
 |x (id:Nat)
 |k (tmp:Nat) (v:AZ)
 |y (id:Nat) (s:LS)
 |m (id:Nat) (k:IntKind) (t:Ty)
def AFK:AZ->AZ->Bool
 | .ptr a b c,.ptr a' b' c'=>Nat.beq a a'&&(Nat.beq b b'&&Nat.beq c c')
 | .nilp,.nilp=>true
 | .nilf,.nilf=>true
 |_,_=>false
def ADV{w:AZ}(h:AFK i w=true):i=w:=by unfold AFK at h;split at h<;>simp_all
def Lj:List Ua->List Nat
 |[]=>[]
 | .p id _::r=>id::Lj r
 | .u id _::r=>id::Lj r
 | .x id::r=>id::Lj r
 | .y id _::r=>id::Lj r
 | .m id _ _::r=>id::Lj r
 |_::r=>Lj r
def qT:List Ua->List Nat
 |[]=>[]
 | .t tmp _::r=>tmp::qT r
 | .g tmp _::r=>tmp::qT r
 | .k tmp _::r=>tmp::qT r
 |_::r=>qT r
def AFD:List Part->List Ty
 |[]=>[]
 | .d t::r=>t::AFD r
 |_::r=>AFD r
def dx:List Ua->List Ty
 |[]=>[]
 | .t _ t::r=>t::dx r
 | .p _ ps::r=>AFD ps++dx r
 | .u _ t::r=>.list t::dx r
 | .m _ k t::r=>.list (.prod (.cons (.int k) (.one t)))::dx r
 |_::r=>dx r
def tC(H:Ap)(id:Nat):Bu->Bool
 | .own id' ver _ _=>match Nat.beq id id' with
  |true=>match H[id]? with|some (.buf _ _ _ _ ver')=>Nat.beq ver ver'|_=>false
  |false=>false
 |_=>false
def nM(H:Ap)(rest:List Nat):List Part->List Bu->Option (List DV)
 |[],[]=>some []
 | .d t::ps,cs=>
  match t.mk cs with
  |some (x,cs')=>match nM H rest ps cs' with|some ds=>some (⟨t,x⟩::ds)|none=>none
  |none=>none
 | .o id::ps,c::cs=>
  match tC H id c&& !OE id rest with
  |true=>nM H rest ps cs
  |false=>none
 |_,_=>none
def Y4(env:Bd)(H:Ap):List Ua->Option (List DV)
 |[]=>some []
 | .t tmp ty::r=>
  match ty.data (env.get tmp),Y4 env H r with
  |some x,some ds=>some (⟨ty,x⟩::ds)
  |_,_=>none
 | .g tmp id::r=>
  match env.get tmp with
  | .c x=>match tC H id x&& !OE id (Lj r)with|true=>Y4 env H r|false=>none
  |_=>none
 | .p id ps::r=>
  match H[id]? with
  |some (.live _ cs)=>
   match nM H (id::Lj r) ps cs,Y4 env H r with
   |some a,some b=>some (a++b)
   |_,_=>none
  |_=>none
 | .u id ty::r=>
  match H[id]? with
  |some (.buf _ t l _ _)=>match t.beq ty,Y4 env H r with|true,some ds=>some (⟨.list t,l⟩::ds)|_,_=>none
  |_=>none
 | .x _::r=>Y4 env H r
 | .k tmp v::r=>
  match env.get tmp with
  | .c (.raw w)=>match AFK v w with|true=>Y4 env H r|false=>none
  |_=>none
 | .y id s::r=>
  match H[id]? with
  |some (.lp _ _ _ _ _ _ _ s')=>match s.beq s' with|true=>Y4 env H r|false=>none
  |_=>none
 | .m id k t::r=>
  match H[id]? with
  |some (.mp _ k' t' es)=>match decide (k'=k)&&t'.beq t,Y4 env H r with|true,some ds=>some (⟨.list (.prod (.cons (.int k') (.one t'))),es⟩::ds)|_,_=>none
  |_=>none
def pd(H:Ap):List Part->List DV->Option (List Bu×List DV)
 |[],ds=>some ([],ds)
 | .d _::ps,⟨t,x⟩::ds=>match pd H ps ds with|some (cs,r)=>some (t.lvs x++cs,r)|none=>none
 | .o id::ps,ds=>
  match H[id]? with
  |some (.buf _ t _ n ver)=>match pd H ps ds with|some (cs,r)=>some (.own id ver t n::cs,r)|none=>none
  |_=>none
 |_,_=>none
def Vo:List Ua->List DV->Bd->Ap->Option (Bd×Ap)
 |[],[],env,H=>some (env,H)
 | .t tmp _::r,⟨t,x⟩::ds,env,H=>Vo r ds ((tmp,t.tv x)::env) H
 | .g tmp id::r,ds,env,H=>
  match H[id]? with
  |some (.buf _ t _ n ver)=>Vo r ds ((tmp,.c (.own id ver t n))::env) H
  |_=>none
 | .p id ps::r,ds,env,H=>
  match H[id]? with
  |some (.live false _)=>match pd H ps ds with|some (cs,ds')=>Vo r ds' env (H.set id (.live false cs))|none=>none
  |_=>none
 | .u id _::r,⟨.list t,l⟩::ds,env,H=>
  match H[id]? with
  |some (.buf false t' _ _ ver)=>match t'.beq t with|true=>Vo r ds env (H.set id (.buf false t l l.length (ver+1)))|false=>none
  |_=>none
 | .x id::r,ds,env,H=>
  match H[id]? with
  |some e=>match e.ro||e.isLp with|false=>Vo r ds env (H.set id .dead)|true=>none
  |none=>none
 | .k tmp v::r,ds,env,H=>Vo r ds ((tmp,.c (.raw v))::env) H
 | .y id s::r,ds,env,H=>
  match H[id]? with
  |some (.lp false F n e ps a b _)=>Vo r ds env (H.set id (.lp false F n e ps a b s))
  |_=>none
 | .m id _ _::r,⟨.list (.prod (.cons (.int k) (.one t))),es⟩::ds,env,H=>
  match H[id]? with
  |some (.mp false k' t' _)=>match decide (k'=k)&&t'.beq t with|true=>Vo r ds env (H.set id (.mp false k t es))|false=>none
  |_=>none
 |_,_,_,_=>none
def AEX(e e':Ds):Prop:=e'= .dead\/(∃b cs b' cs',e= .live b cs/\e'= .live b' cs'/\Dc (lvs cs) (lvs cs'))\/(∃b t l n v b' v',e= .buf b t l n v/\e'= .buf b' t l n v')\/(∃ro ro' F n env ps a b s,e= .lp ro F n env ps a b s/\e'= .lp ro' F n env ps a b s)\/(∃b b' k t es,e= .mp b k t es/\e'= .mp b' k t es)
def HR(H1 H:Ap)(rest:List Nat):Prop:= ∀(j:Nat) (e':Ds),OE j rest=false->H[j]? =some e'-> ∃e,H1[j]? =some e/\AEX e e'
theorem Qf:OE N (n::a)=false↔N≠n/\OE N a=false:=by simp[OE];by_cases h:N=n;simp_all;grind[beq_false]
theorem nN(j:E.ok b)(h:tC b N E=true): ∃H t l n a,E= .own N a t n/\b[N]? =some (.buf H t l n a):=by unfold tC at h;split at h;rename_i k a t n;split at h;rename_i i;have e:=DG i;subst e;split at h;rename_i H o l m d g;have f:=DG h;subst f;have⟨rfl,rfl⟩:=(j.2 _ _ _ _ _ g).2 rfl;grind;cases h;cases h;cases h
theorem WZ{b:Bool}{l:List p.D}(h:B[N]? =some (.buf b p l n z)):UZ B N z p n:=by refine⟨?_,λro g e f c d=>?_⟩;grind;grind
theorem jh{q H:Ap}{i:List Nat}(hr:HR q H i): ∀{p:List Part} {m:List Bu} {a b j:List DV} {f:List Bu},lok q m→nM q i p m=some a→pd H p (a++b)=some (f,j)→
  j=b/\Dc (lvs m) (lvs f)/\lok H f
 |[],[],a,b,j,f,ok,h,k=>by grind[nM,Option.some.injEq,pd,Prod.mk.injEq,Dc.refl,ADC]
 |[],_::_,a,b,j,f,ok,h,k=>by simp[nM]at h
 | .d t::p,m,a,b,j,f,ok,h,k=>by simp[nM]at h;split at h;rename_i x R z;split at h;rename_i S u;cases h;obtain⟨Q,rfl,M⟩:=t.mk_spec _ _ _ z;simp[ED,pd]at k;split at k;rename_i E r v;obtain⟨rfl,rfl⟩:=k;have⟨q1,q2,q3⟩:=jh hr (Iw.1 ok).2 u v;refine⟨q1,?_,Iw.2 ⟨t.lvs_ok x,q3⟩⟩;rw[Gi,Gi,t.lvs_enc];exact M.append q2;cases k;cases h;cases h
 | .o id::p,c::m,a,b,j,f,ok,h,k=>by
  simp[nM]at h;split at h
  ·rename_i s;simp[BU,WS]at s;obtain⟨O,t,l,n,N,rfl,L⟩:=nN (ok c k!) s.1;simp[pd]at k;split at k
   ·rename_i P t2 l2 Z D B;split at k
    ·rename_i E r v;obtain⟨rfl,rfl⟩:=k;have⟨q1,q2,q3⟩:=jh hr (λx z=>ok x (by simp[z])) h v;have⟨e,C,w⟩:=hr id _ s.2 B;rw[L]at C;cases C;rcases w with g|⟨_,_,_,_,g,_⟩|⟨_,_,_,_,_,_,_,g,K⟩|⟨_,_,_,_,_,_,_,_,_,g,_⟩|⟨_,_,_,_,_,g,_⟩;cases g;cases g;rotate_left;cases g;cases g;injection g with T F U G V;injection K with W I X J Y;subst F G I J;refine⟨q1,?_,λy A=>?_⟩;rw[HX,HX];exact(Dc.refl _).append q2;rcases Av.1 A with rfl|A;exact WZ B;exact q3 y A
    cases k
   cases k
  cases h
structure IS(env1:Bd)(H1:Ap)(slots:List Ua)(env:Bd)(H:Ap)(env2:Bd)(H2:Ap):Prop where
 get: ∀t,OE t (qT slots)=false->env2.get t=env.get t
 ok:PE env2 H2
 env: ∀p∈env2,∃v,(p.1,v)∈env1/\V0 v.enc p.2.enc
 hr:HR H1 H2 []
 step:CE H H2
 len:H2.length=H.length
 same: ∀j,OE j (Lj slots)=false->H2[j]? =H[j]?
def ga{t:Nat}{v:TV}: ∀{env:Bd},env.get t=v->v≠Rv->(t,v)∈env
 |[],h,hv=>absurd h.symm hv
 |(k,u)::r,h,hv=>by simp only[Bd.get]at h;split at h;simp_all;exact Cd _ (ga h hv)
def heap_set(H:CE b (b.set N D))(ok: ∀x∈b,x.ok b)(a:D.ok (b.set N D)): ∀x∈b.set N D,x.ok (b.set N D):=by intro x c;rcases Px c with h|rfl;exact H.ent (ok x h);exact a
theorem HR.set{a H:Ap}{id:Nat}{d:Ds}(h:HR a H (id::A))(g:a[id]? =some D)(hr:AEX D d):HR a (H.set id d) A:=by intro j x f c;rw[WW]at c;split at c;grind;rename_i b;exact h j x (Qf.2 ⟨λq=>b q.symm,f⟩) c
theorem zz.set{H c:Ap}{id:Nat}{i:Ds}(h:zz H c)(l:id<H.length)(p: ∀ro F n env f a b s,c[id]? =some (.lp ro F n env f a b s)-> ∃g o,i= .lp g F n env f a b o):zz (H.set id i) c:=by intro j k ro F n env f a b s m;rw[bg]at k;by_cases d:j=id;grind;rw[Dy λe=>d e.symm];exact h j k _ _ _ _ _ _ _ _ m
variable {l:List Ua}
theorem nX(id:Nat){H:Ap}(c:B[id]? =some D)(g:(D.ro||D.isLp)=false)(r:B.length≤b.length)(lp:zz B b)
  (hr:HR b B (id::Lj l)) (ok:PE L B) (q0:PE L (B.set id .dead)->zz (B.set id .dead) b->HR b (B.set id .dead) (Lj l)->IS f b l L (B.set id .dead) O H):IS f b (.x id::l) L B O H:=by
 have a:D.isLp=false:=q!
 have st:CE B (B.set id .dead):=CE.set c q! λ_ _ _ _ _ D=>by cases D
 have d:id<b.length:=q!
 have q:=q0 ⟨st.env ok.env,heap_set st ok.heap trivial⟩ (lp.set (Gw c) λ_ _ _ _ _ _ _ _ i=>by have⟨k,m,q⟩:=lp id (Gw c) _ _ _ _ _ _ _ _ i;rw[c]at q;injection q with q;rw[q]at a;cases a) (HR.set hr (Au d) (.inl rfl));refine⟨q.get,q.ok,q.env,q.hr,st.trans q.step,by simpa using q.len,λj h=>?_⟩;have:=Qf.1 h;rw[q.same j this.2,Dy λD=>this.1 D.symm]
def OD{env1:Bd}{G:Ap}(o:PE env1 G): ∀{slots:List Ua} {B:List DV} {env:Bd} {H:Ap} {env2:Bd} {D:Ap},Y4 env1 G slots=some B→Vo slots B env H=some (env2,D)→PE env H→
  H.length<=G.length->(∀p∈env,∃v,(p.1,v)∈env1/\V0 v.enc p.2.enc)->HR G H (Lj slots)->zz H G->IS env1 G slots env H env2 D
 |[],B,env,H,env2,D,h,k,ok,hl,he,hr,lp=>by simp only[Y4,Am]at h;subst h;simp only[Vo,Am,Du]at k;obtain⟨rfl,rfl⟩:=k;exact⟨λ_ _=>rfl,ok,he,hr,CE.refl _,rfl,λ_ _=>rfl⟩
 | .t tmp ty::r,B,env,H,env2,D,h,k,ok,hl,he,hr,lp=>by
  simp[Y4]at h;split at h;rename_i x d L T;cases h;simp[Vo]at k;have f:PE ((tmp,ty.tv x)::env) H:=⟨λp z=>by rcases Av.1 z with rfl|z;exact ty.tv_ok x;exact ok.env p z,ok.heap⟩
  have q:=OD o T k f hl (λp z=>by rcases Av.1 z with rfl|z;refine⟨env1.get tmp,ga rfl λe=>?_,?_⟩;rw[e]at L;cases ty<;>cases L;simp[ty.tv_enc];exact MB L;exact he p z) hr lp;refine⟨λt J=>?_,q.ok,q.env,q.hr,q.step,q.len,q.same⟩;have:=Qf.1 J;rw[q.get t this.2];simp[Bd.get,beq_false λe=>this.1 e.symm];cases h
 | .g tmp id::r,B,env,H,env2,D,h,k,ok,hl,he,hr,lp=>by
  simp[Y4]at h;split at h
  ·rename_i x L;split at h
   ·rename_i I;simp[BU,WS]at I;have Z:x.ok G:=ma o.env tmp x (by rw[L];simp[TV.refs]);obtain⟨b1,t,l,n,ad,rfl,C⟩:=nN Z I.1;simp[Vo]at k;split at k
    ·rename_i b2 R l2 n2 V h2;have⟨e,U,Y⟩:=hr id _ I.2 h2;rw[C]at U;cases U;rcases Y with i|⟨_,_,_,_,i,_⟩|⟨_,_,_,_,_,_,_,i,h1⟩|⟨_,_,_,_,_,_,_,_,_,i,_⟩|⟨_,_,_,_,_,i,_⟩;cases i;cases i;rotate_left;cases i;cases i;injection i with e1 e2 e3 e4 e5;injection h1 with f1 f2 f3 f4 f5;subst e2 e4 f2 f4;have f:PE ((tmp,.c (.own id V R n2))::env) H:=⟨λp z=>by rcases Av.1 z with rfl|z;exact Js (WZ h2);exact ok.env p z,ok.heap⟩
     have q:=OD o h k f hl (λp z=>by rcases Av.1 z with rfl|z;exact⟨_,ga L (λe=>by cases e),V0.refl _⟩;exact he p z) hr lp;refine⟨λt J=>?_,q.ok,q.env,q.hr,q.step,q.len,q.same⟩;have:=Qf.1 J;rw[q.get t this.2];simp[Bd.get,beq_false λe=>this.1 e.symm]
    cases k
   cases h
  cases h
 | .p id Q::r,B,env,H,env2,D,h,k,ok,hl,he,hr,lp=>by
  simp[Y4]at h;split at h;rename_i b cs C;split at h;rename_i a b1 ha I;cases h;simp[Vo]at k;split at k;rename_i al i;split at k;rename_i M S hi;have X:lok G cs:=by simpa only[Ds.ok]using o.heap _ (BP C)
  have⟨rfl,q2,q3⟩:=jh hr X ha hi;have st:CE H (H.set id (.live false M)):=CE.set i rfl λ_ _ _ _ _ e=>by cases e
  have A:HR G (H.set id (.live false M)) (Lj r):=HR.set hr C (.inr (.inl ⟨_,_,_,_,rfl,rfl,q2⟩));have f:PE env (H.set id (.live false M)):=⟨st.env ok.env,heap_set st ok.heap (by simpa only[Ds.ok]using st.lok q3)⟩
  have q:=OD o I k f (by simpa using hl) he A (lp.set (Gw i) λ_ _ _ _ _ _ _ _ E=>by rw[C]at E;cases E);refine⟨q.get,q.ok,q.env,q.hr,st.trans q.step,by simpa using q.len,λj N=>?_⟩;have:=Qf.1 N;rw[q.same j this.2,Dy λe=>this.1 e.symm];cases k;cases k;cases h;cases h
 | .u id ty::r,B,env,H,env2,D,h,k,ok,hl,he,hr,lp=>by
  simp[Y4]at h;split at h;rename_i b t l n ad C;split at h;rename_i S I T;cases h;simp[Vo]at k;split at k;rename_i t' l0 n0 K i;split at k;rename_i J;have e:=Ty.beq_eq _ _ J;subst e;have hn:n=l.length:=by simpa only[Ds.ok]using o.heap _ (BP C)
  have st:CE H (H.set id (.buf false t' l l.length (K+1))):=CE.set i rfl λro R l2 n2 v2 e=>by cases e;exact⟨_,_,_,_,rfl,.inl o!⟩
  have A:HR G (H.set id (.buf false t' l l.length (K+1))) (Lj r):=HR.set hr C (.inr (.inr (.inl ⟨_,_,_,_,_,_,_,rfl,by rw[hn]⟩)));have f:PE env (H.set id (.buf false t' l l.length (K+1))):=⟨st.env ok.env,heap_set st ok.heap rfl⟩
  have q:=OD o T k f (by simpa using hl) he A (lp.set (Gw i) λ_ _ _ _ _ _ _ _ E=>by rw[C]at E;cases E);refine⟨q.get,q.ok,q.env,q.hr,st.trans q.step,by simpa using q.len,λj N=>?_⟩;have:=Qf.1 N;rw[q.same j this.2,Dy λe=>this.1 e.symm];cases k;cases k;cases h;cases h
 | .x id::r,B,env,H,env2,D,h,k,ok,hl,he,hr,lp=>by
  simp[Y4]at h;cases B with
  |nil=>simp[Vo]at k;split at k;rename_i e i;split at k;rename_i O;exact nX id i O hl lp hr ok λf P A=>OD o h k f (by simpa using hl) he A P;cases k;cases k
  |cons d B=>simp[Vo]at k;split at k;rename_i e i;split at k;rename_i O;exact nX id i O hl lp hr ok λf P A=>OD o h k f (by simpa using hl) he A P;cases k;cases k
 | .k tmp w::r,B,env,H,env2,D,h,k,ok,hl,he,hr,lp=>by
  have k':Vo r B ((tmp,.c (.raw w))::env) H=some (env2,D):=by cases B<;>simpa only[Vo]using k
  simp[Y4]at h;split at h;rename_i w' L;split at h;rename_i I;have e:=ADV I;subst e;have f:PE ((tmp,.c (.raw w))::env) H:=⟨λp z=>by rcases Av.1 z with rfl|z;exact Js trivial;exact ok.env p z,ok.heap⟩
  have hw:w≠ .any:=by rintro rfl;cases I
  have q:=OD o h k' f hl (λp z=>by rcases Av.1 z with rfl|z;refine⟨_,ga L (λe=>?_),V0.refl _⟩;injection e with e;injection e with e;exact hw e;exact he p z) hr lp;refine⟨λt J=>?_,q.ok,q.env,q.hr,q.step,q.len,q.same⟩;have:=Qf.1 J;rw[q.get t this.2];simp[Bd.get,beq_false λe=>this.1 e.symm];cases h;cases h
 | .y id s::r,B,env,H,env2,D,h,k,ok,hl,he,hr,lp=>by
  simp[Y4]at h;split at h;rename_i ar F1 n1 e1 p1 a1 b1 s1 C;split at h;rename_i I;have e0:=LS.beq_eq I;subst e0;obtain⟨F,n,e,Q,a,b,s0,i,k'⟩: ∃F n e Q a b s0,H[id]? =some (.lp false F n e Q a b s0)/\Vo r B env (H.set id (.lp false F n e Q a b s))=some (env2,D):=by cases B<;>simp[Vo]at k<;>split at k<;>first|exact⟨_,_,_,_,_,_,_,‹_›,k⟩|cases k
  have⟨ax,s2,q⟩:=lp id (Gw i) _ _ _ _ _ _ _ _ C;rw[i]at q;injection q with q;injection q with _ q2 q3 q4 q5 q6 q7 _;subst q2 q3 q4 q5 q6 q7;have st:CE H (H.set id (.lp false F n e Q a b s)):=CE.set i rfl (λ_ _ _ _ _ e=>by cases e) λ_ _ _ _ _ _ _ _ e=>by cases e;exact⟨_,_,rfl⟩
  have A:HR G (H.set id (.lp false F n e Q a b s)) (Lj r):=HR.set hr C (.inr (.inr (.inr (.inl ⟨_,_,_,_,_,_,_,_,_,rfl,rfl⟩))));have f:PE env (H.set id (.lp false F n e Q a b s)):=⟨st.env ok.env,heap_set st ok.heap (by have:=ok.heap _ (BP i);simpa only[Ds.ok]using this)⟩
  have q:=OD o h k' f (by simpa using hl) he A (lp.set (Gw i) λ_ _ _ _ _ _ _ _ E=>by rw[C]at E;injection E with E;cases E;exact⟨_,_,rfl⟩);refine⟨q.get,q.ok,q.env,q.hr,st.trans q.step,by simpa using q.len,λj N=>?_⟩;have:=Qf.1 N;rw[q.same j this.2,Dy λe=>this.1 e.symm];cases h;cases h
 | .m id kk ty::r,B,env,H,env2,D,h,k,ok,hl,he,hr,lp=>by
  simp[Y4]at h;split at h;rename_i b k1 t1 W C;split at h;rename_i S I T;cases h;simp[Vo]at k;split at k;rename_i k2 R ao i;split at k;rename_i J;simp[BU,decide_eq_true_eq]at J;have⟨rfl,J⟩:=J;have e:=Ty.beq_eq _ _ J;subst e;have st:CE H (H.set id (.mp false k2 R W)):=CE.set i rfl λ_ _ _ _ _ e=>by cases e
  have A:HR G (H.set id (.mp false k2 R W)) (Lj r):=HR.set hr C (.inr (.inr (.inr (.inr ⟨_,_,_,_,_,rfl,rfl⟩))));have f:PE env (H.set id (.mp false k2 R W)):=⟨st.env ok.env,heap_set st ok.heap trivial⟩
  have q:=OD o T k f (by simpa using hl) he A (lp.set (Gw i) λ_ _ _ _ _ _ _ _ E=>by rw[C]at E;cases E);refine⟨q.get,q.ok,q.env,q.hr,st.trans q.step,by simpa using q.len,λj N=>?_⟩;have:=Qf.1 N;rw[q.same j this.2,Dy λe=>this.1 e.symm];cases k;cases k;cases h;cases h
def Y3(n:Nat):List Bu->Bool
 |[]=>true
 | .own id _ _ _::r=>Nat.blt id n&&Y3 n r
 | .raw v::r=>v.idsAll (λid=>Nat.blt id n)&&Y3 n r
 |_::r=>Y3 n r
mutual
def rP(n:Nat):TV->Bool
 | .c x=>Y3 n [x]
 | .g cs=>Y3 n cs
 | .aptr id .. =>Nat.blt id n
 | .bptr id .. =>Nat.blt id n
 | .vptr cs post=>Y3 n cs&&AZ.idsAllL (λid=>Nat.blt id n) post
 | .tup vs=>sy n vs
def sy(n:Nat):List TV->Bool
 |[]=>true
 |v::r=>rP n v&&sy n r
end
def qh(n:Nat):Bd->Bool
 |[]=>true
 |(_,v)::r=>rP n v&&qh n r
def iX(n:Nat):Ap->Bool
 |[]=>true
 | .live _ cs::r=>Y3 n cs&&iX n r
 | .lp _ _ _ env _ _ _ _::r=>qh n env&&iX n r
 |_::r=>iX n r
def kH(h:Nat.blt N n=true):decide (N<n)=true:=t!
def gU(h:Pure i)(n:Nat):(i.idsAll λid=>decide (id<n))=true:=QS (λ_ h=>by cases h) i h
def vM: ∀{x:Bu},Y3 n [x]=true->(∀v∈x.enc,(v.idsAll λid=>decide (id<n))=true)/\(x.one.idsAll λid=>decide (id<n))=true
 | .bl _,_=>⟨λv b=>by simp only[Bu.enc,BC]at b;subst b;rfl,rfl⟩
 | .it _ _,_=>⟨λv b=>by simp only[Bu.enc,BC]at b;subst b;rfl,rfl⟩
 | .st _,_=>⟨λv b=>by simp only[Bu.enc,BC]at b;subst b;rfl,rfl⟩
 | .ls t l,_=>⟨λv b=>by simp only[Bu.enc,BC]at b;subst b;exact gU ((Ty.list t).enc_pure l) n,gU ((Ty.list t).enc_pure l) n⟩
 | .ar m t a,_=>by have h:=gU ((Ty.arr m t).enc_pure a) n;refine⟨λv b=>?_,h⟩;exact((Da _ _).1 h) v b
 | .own id ver t m,h=>by simp only[Y3,PF]at h;have:=kH h;exact⟨λv b=>by simp only[Bu.enc,BC]at b;subst b;exact this,this⟩
 | .nil,_=>⟨λv b=>by simp only[Bu.enc,BC]at b;subst b;rfl,rfl⟩
 | .raw v,h=>by simp only[Y3,PF]at h;have:=QS (λ_ h=>kH h) v h;exact⟨λu c=>by simp only[Bu.enc,BC]at c;subst c;exact this,this⟩
def rO{r:List Bu}(h:Y3 n (E::r)=true):Y3 n [E]=true/\Y3 n r=true:=by cases E<;>simp only[Y3,PF,BU]at h⊢ <;>first|exact h|exact⟨trivial,h⟩
def iB{n:Nat}: ∀{b:List Bu},Y3 n b=true->AZ.idsAllL (λid=>decide (id<n)) (lvs b)=true
 |[],_=>rfl
 |x::r,h=>by obtain⟨c,d⟩:=rO h;rw[HX,Da];intro v a;rcases Ao.1 a with a|a;exact(vM c).1 v a;exact((Da _ _).1 (iB d)) v a
mutual
theorem dD{n:Nat}: ∀{v:TV},rP n v=true->(v.enc.idsAll λid=>decide (id<n))=true
 | .c x,h=>(vM h).2
 | .g cs,h=>iB h
 | .aptr ..,h=>kH h
 | .bptr ..,h=>kH h
 | .vptr cs post,h=>by simp only[rP,BU]at h;simp only[TV.enc,AZ.idsAll];rw[Da];intro v a;rcases Ao.1 a with a|a;exact((Da _ _).1 (iB h.1)) v a;exact((Da _ _).1 (JA (λ_ h=>kH h) post h.2)) v a
 | .tup vs,h=>by simp only[rP]at h;simp only[TV.enc,AZ.idsAll];exact nL h
theorem nL{n:Nat}: ∀{a:List TV},sy n a=true->AZ.idsAllL (λid=>decide (id<n)) (TV.encL a)=true
 |[],_=>rfl
 |v::r,h=>by simp only[sy,BU]at h;simp only[TV.encL,AZ.idsAllL,BU];exact⟨dD h.1,nL h.2⟩
end
def hY{n:Nat}: ∀{env:Bd},qh n env=true-> ∀p∈env,rP n p.2=true
 |[],_,p,a=>by cases a
 |(t,v)::r,h,p,a=>by simp only[qh,BU]at h;rcases Av.1 a with rfl|a;exact h.1;exact hY h.2 p a
def hZ{n:Nat}: ∀{H:Ap},iX n H=true-> ∀e∈BJ H,(e.idsAll λid=>decide (id<n))=true
 |x::r,h,e,c=>by
  have g:iX n r=true:=by cases x<;>simp only[iX,BU]at h<;>first|exact h|exact h.2
  simp only[BJ,Bv,Av]at c;rcases c with rfl|c;cases x with
  |dead=>rfl
  |live b o=>simp only[iX,BU]at h;exact iB h.1
  |buf b t l m k=>simp only[Ds.enc,FZ.idsAll];rw[Da];intro v d;obtain⟨u,j,d⟩:=Hh.1 d;obtain⟨y,_,rfl⟩:=Bh.1 j;have h:=gU (t.E.pure y) n;cases q:t.E.f y<;>simp_all[AZ.idsAll,Da,AZ.cells]
  |mp=>rfl
  |lp ro F m env w a b s=>simp only[iX,BU]at h;simp only[Ds.enc,FZ.idsAll,B4,List.all_map,F3];exact λp i=>dD (hY h.1 p i)
  exact hZ g e c
def Fz.cut{N n0:Nat}{env:Env}{H:Ax}(hn:n0≤H.length)(d: ∀t v,(t,v)∈env→(v.idsAll λid=>decide (id<n0))=true)
  (c: ∀e∈H.take n0,(e.idsAll λid=>decide (id<n0))=true):Fz N n0 env H env (H.take n0):=
 ⟨w!,λX g a w s=>⟨g,⟨s.sim.trunc hn c,λt v m=>⟨(s.env t v m).1,(s.env t v m).2.trunc hn (d t v m)⟩,s.size⟩,λ_ _=>⟨rfl,rfl,rfl⟩,λB b=>dt b⟩⟩
theorem rS{e:FZ}(h:(BJ b)[N]? =some e): ∃x,b[N]? =some x/\e=x.enc:=by grind[BJ]
theorem HR.rel(A:B.length<=b.length)(hr:HR b B [])(x:Cx):TG x x (BJ b) (BJ B++(BJ b).drop B.length):=by
 refine⟨by simp[BJ];omega,λj w z=>?_⟩;have same: ∀{y:Ds},b[j]? =some y->w=y.enc->w= .dead\/(∃g p c,(BJ b)[j]? =some (.live g p)/\w= .live g c/\c.length=p.length/\ ∀(i:Nat) (f:AZ),c[i]? =some f-> ∃v,p[i]? =some v/\Conv x x v f)\/((BJ b)[j]? =some w/\ ∀g p,w≠ .live g p):=by
  intro y D q;have d:(BJ b)[j]? =some y.enc:=by grind[BJ]
  subst q;cases y with
  |dead=>exact .inl rfl
  |live o p=>exact .inr (.inl ⟨_,_,_,d,rfl,rfl,λi f h=>⟨f,h,λ_ r=>r⟩⟩)
  |buf o t l m H=>exact .inr (.inl ⟨_,_,_,d,rfl,rfl,λi f h=>⟨f,h,λ_ r=>r⟩⟩)
  |lp=>exact .inr (.inr ⟨d,λ_ _ h=>by cases h⟩)
  |mp=>exact .inr (.inr ⟨d,λ_ _ h=>by cases h⟩)
 rcases Aw j B.length with h|h;rw[CO (by rw[Ce];exact h)]at z;obtain⟨y,D,rfl⟩:=rS z;obtain⟨e,q,u⟩:=hr j y rfl D;rcases u with rfl|⟨o,p,C,c,rfl,rfl,A⟩|⟨o,t,l,m,v,C,f,rfl,rfl⟩|⟨ro,G,F,n,env,J,a,o,s,rfl,rfl⟩|⟨o,C,k,t,I,rfl,rfl⟩;exact .inl rfl;refine .inr (.inl ⟨0,lvs p,lvs c,by simp only[BJ,CD,q,Bl,Ds.enc],rfl,A.1,λi f E=>?_⟩);obtain⟨v,q1,q2⟩:=A.2 i f E;exact⟨v,q1,q2 x⟩;exact same q rfl;exact same q rfl;exact same q rfl;rw[Ch (by rw[Ce];exact h),JP]at z;rw[Ce]at z;grind[rS]
def IS.weak{N:Nat}{b:Ap}{H:Ap}(s:IS f b l L H O B)(k:H.length≤b.length)(n:qh H.length O=true)(o:iX H.length B=true):
  Fz N H.length (B4 f) (BJ b) (B4 O) (BJ B):=by
 have g:B.length<=b.length:=by rw[s.len];exact k
 have x:Fz N (BJ b).length (B4 f) (BJ b) (B4 O) (BJ B++(BJ b).drop B.length):=by refine Uz (by simp[BJ];omega) λX h w _=>?_;have q:=(HR.rel g s.hr (cx X h (BJ b) w)).onto;refine⟨q,λt z m=>?_⟩;obtain⟨p,j,e⟩:=Bh.1 m;injection e with d A;subst d A;obtain⟨v,u,i⟩:=s.env p j;exact⟨v.enc,Bh.2 ⟨_,u,rfl⟩,λc r=>(i _ c r).later q.later⟩
 have a:(BJ B++(BJ b).drop B.length).take H.length=BJ B:=by rw[<-s.len,<-Ce B,Gd];rfl
 have y:Fz N H.length (B4 O) (BJ B++(BJ b).drop B.length) (B4 O) (BJ B):=by have:=Fz.cut (N:=N) (n0:=H.length) (env:=B4 O) (H:=BJ B++(BJ b).drop B.length) (by simp[BJ,s.len]) (λt v m=>by obtain⟨p,j,e⟩:=Bh.1 m;injection e with d A;subst d A;exact dD (hY n p j)) (by rw[a];exact hZ o);rwa [a]at this
 exact(x.of_le (by rw[Ce];exact k)).trans y
def ux:Exit->Exit->Bool
 | .normal,.normal=>true
 | .exit a,.exit b=>Nat.beq a b
 | .ret,.ret=>true
 |_,_=>false
def pE{b:Exit}(h:ux x b=true):x=b:=by cases x<;>cases b<;>simp only[ux]at h<;>first|rfl|cases h|exact congrArg _ (DG h)
structure Hint where
 kind:Nat
 key:Nat
 virt:List (Nat×Ty)
 virtC:List (Nat×Nat×Ty)
 kill:List Nat
 drop:List Nat
 slots:List Ua
 exits:List (Exit×List Ua)
def Hint.tmps(h:Hint):List Nat:=h.drop++h.virt.map (·.1)++qT h.slots++h.exits.flatMap λp=>qT p.2
def kf(kind key:Nat):List Hint->Option Hint
 |[]=>none
 |h::r=>match Nat.beq kind h.kind&&Nat.beq key h.key with|true=>some h|false=>kf kind key r
def vA:Code->Option Nat
 | .region id _ _=>some id
 | .seq a b=>match vA a with|some x=>some x|none=>vA b
 | .cond _ a b=>match vA a with|some x=>some x|none=>vA b
 | .block _ b=>vA b
 | .loop b=>vA b
 |_=>none
def pU:Code->Bool
 | .seq a _=>pU a
 | .block _ b=>pU b
 | .loop _=>true
 |_=>false
def AFs(b:Code)(r:Nat)(hs:List Hint):Option Hint:=
 match pU b with
 |true=>(match kf 5 r hs with|some h=>some h|none=>kf 0 r hs)
 |false=>kf 0 r hs
def hintOf(hs:List Hint):Code->Option Hint
 | .loop b=>match vA b with|some r=>AFs b r hs|none=>none
 | .block id _=>kf 1 id hs
 | .cond _ a b=>match vA (.seq a b)with|some r=>kf 2 r hs|none=>none
 | .region id _ _=>kf 6 id hs
 |_=>none
def nV(hs:List Hint)(c:Code):List Nat:=
 match hintOf hs c with
 |some h=>h.tmps
 |none=>[]
def oO(hs:List Hint):Code->Code->Option Hint
 | .region id _ _,.cond _ _ _=>kf 4 id hs
 |_,_=>none
def qU(hs:List Hint)(a b:Code):List Nat:=
 match oO hs a b with
 |some h=>h.tmps
 |none=>[]
def QZ(hs:List Hint):Code->List Nat
 | .region id ops d=>kZ ops.toList++nV hs (.region id ops d)
 | .seq a b=>(QZ hs a++QZ hs b)++qU hs a b
 | .cond c a b=>QZ hs a++QZ hs b++nV hs (.cond c a b)
 | .block id b=>QZ hs b++nV hs (.block id b)
 | .loop b=>QZ hs b++nV hs (.loop b)
 |_=>[]
def uZ:TV->Bool
 | .c (.raw .any)=>true
 |_=>false
def AAV(h:uZ w=false):w≠Rv:=by rintro rfl;cases h
def tO(H:Ap)(id:Nat):Bool:=match H[id]? with|some (.buf false _ _ _ _)=>true|_=>false
def eH(A S:List Nat)(H:Ap)(t:Nat)(v:TV):Bool:=
 match OE t A with
 |true=>false
 |false=>match uZ v with
  |true=>false
  |false=>(K6 v.refs).all λid=>!(OE id S&&tO H id)
def P4(A S:List Nat)(H:Ap):Bd->Bd
 |[]=>[]
 |(t,v)::r=>match eH A S H t v with|true=>(t,v)::P4 A S H r|false=>P4 A S H r
def Ma(S:List Nat):Nat->Ap->Ap
 |_,[]=>[]
 |j,e::r=>(match OE j S with|true=>e|false=>e.lock)::Ma S (j+1) r
def mq:Bd->Bool
 |[]=>true
 |(t,_)::r=>!OE t (r.map (·.1))&&mq r
theorem Ut(h:N∉a):OE N a=false:=by
 cases j:OE N a with
 |false=>rfl
 |true=>induction a<;>grind[OE,Nat.eq_of_beq_eq_true]
def YP: ∀{env:Bd},mq env=true->(env.map (·.1)).Nodup
 |[],_=>OU
 |(t,v)::r,h=>by simp only[mq,BU,WS]at h;exact GB.2 ⟨S9 h.1,YP h.2⟩
theorem gw{A S:List Nat}{H:Ap}: ∀{env:Bd},(env.map (·.1)).Nodup-> ∀t,eH A S H t (env.get t)=true->(P4 A S H env).get t=env.get t
 |[],_,t,_=>rfl
 |(u,v)::r,nd,t,h=>by have a:=GB.1 nd;simp only[Bd.get]at h⊢;by_cases b:u=t;grind[Nat.beq_refl,P4,Bd.get];rw[beq_false b]at h⊢;have c:=gw a.2 t h;grind[P4,Bd.get,beq_false]
theorem Qa{A S:List Nat}{H:Ap}: ∀{env:Bd},(env.map (·.1)).Nodup-> ∀p∈P4 A S H env,env.get p.1=p.2/\eH A S H p.1 p.2=true/\p∈env
 |(u,v)::r,nd,p,h=>by
  have a:=GB.1 nd;have tail:p∈P4 A S H r->Bd.get ((u,v)::r) p.1=p.2/\eH A S H p.1 p.2=true/\p∈(u,v)::r:=λh=>by obtain⟨q1,q2,q3⟩:=Qa a.2 p h;grind[Bd.get,beq_false]
  grind[P4,Bd.get,Nat.beq_refl]
theorem Kg{S:List Nat}: ∀(H:Ap) (i j:Nat),(Ma S i H)[j]? =(H[j]?).map λe=>match OE (i+j) S with|true=>e|false=>e.lock
 |[],i,j=>by simp[Ma]
 |e::r,i,0=>by simp[Ma]
 |e::r,i,j+1=>by simp only[Ma,gv];rw[Kg r (i+1) j];grind
def Kh{S:List Nat}: ∀(H:Ap) (i:Nat),(Ma S i H).length=H.length
 |[],_=>rfl
 |e::r,i=>by simp[Ma,Kh r]
theorem rq{S:List Nat}: ∀(H:Ap) (i:Nat),BJ (Ma S i H)=BJ H
 |[],_=>rfl
 |e::r,i=>by have:=rq (S:=S) r (i+1);grind[BJ,Ma,pp]
theorem pq(h:UZ b N n p z):UZ (Ma a 0 b) N n p z:=by
 refine⟨by rw[Kh];exact h.1,λro r l S f c=>?_⟩;rw[Kg]at c;cases d:b[N]? with
 |none=>grind
 |some e=>
  rw[d]at c;simp at c;split at c;subst c;exact h.2 _ _ _ _ _ d;cases e with
  |dead=>cases c
  |live H k=>cases c
  |lp=>cases c
  |mp=>cases c
  |buf H s o q u=>injection c with _ g m i j;subst g i j;exact h.2 _ _ _ _ _ d
def sA(h:E.ok b):E.ok (Ma a 0 b):=by
 cases E with
 |own id S t n=>exact pq h
 |_=>trivial
theorem lK(ok:PE f b):PE f (Ma a 0 b):=by
 refine⟨λp o x g=>sA (ok.env p o x g),λe m=>?_⟩;obtain⟨j,H⟩:=D7.1 m;rw[Kg]at H;cases i:b[j]? with
 |none=>grind
 |some c=>
  rw[i]at H;simp at H;have d:=ok.heap c (BP i);have q:c.ok (Ma a 0 b):=by
   cases c with
   |dead=>trivial
   |live S k=>exact λx g=>sA (d x g)
   |buf S t l n h=>exact d
   |lp=>exact d
   |mp=>exact d
  split at H;grind;subst H;cases c with
  |dead=>trivial
  |live S k=>exact q
  |buf S t l n h=>exact q
  |lp=>exact q
  |mp=>exact q
theorem ADB(H:Ap):zz (Ma a 0 H) H:=by intro id c ro F n env d S b s h;rw[Kg,h];split;grind;exact⟨_,_,rfl⟩
theorem ABE(H:Ap):zz H (Ma a 0 H):=by
 intro id d ro F n env f S b s h;rw[Kg]at h;cases c:H[id]? with
 |none=>grind
 |some e=>
  rw[c]at h;simp at h;split at h;grind;cases e with
  |lp=>injection h with _ q2 q3 q4 q5 q6 q7 _;grind
  |_=>cases h
def ju{id a n:Nat}{t:Ty}: ∀{b:List Bu},Bu.own id a t n∈b->id∈K6 b
 |x::r,h=>by rcases Av.1 h with rfl|h;exact Jp;have:=ju h;cases x<;>simp only[K6]<;>first|exact this|exact Cd _ this
def vK(h:eH A a b N w=true)(m:w.ok b)(st:CE (Ma a 0 b) B):lH B w:=by
 intro id o r n g;unfold eH at h;split at h;cases h;split at h;cases h;have S:=F3.1 h id (ju g);have d:id<b.length:=(m _ g).1;refine st.nb id (by rw[Kh];exact d) λq l p i H=>?_;rw[Kg,EL]at H;cases c:b[id]? with
 |none=>rw[c]at H;cases H
 |some e=>rw[c]at H;simp only[Bl,Am]at H;split at H;rename_i k;subst H;simp only[k,tO,c]at S;cases S;cases e<;>simp only[Ds.lock]at H<;>first|cases H|(injection H with j;cases j)
theorem ABC(g:OE N A=false)(i:uZ w=false)(j:lH b w):eH A a b N w=true:=by
 unfold eH;rw[g,i];refine F3.2 λid e=>?_;have: ∃d f n,Bu.own id d f n∈w.refs:=by
  generalize w.refs=cs at e;induction cs with
  |nil=>cases e
  |cons x r m=>
   cases x with
   |own l d f n=>grind[K6]
   |_=>obtain⟨H,S,c,h⟩:=m e;grind
 obtain⟨d,f,n,k⟩:=this;have:=j id d f n k;grind[tO]
def AE0:List Part->List Nat
 |[]=>[]
 | .o id::r=>id::AE0 r
 |_::r=>AE0 r
def jL(env:Bd)(H:Ap):List Ua->List Nat
 |[]=>[]
 | .t tmp _::r=>K6 (env.get tmp).refs++jL env H r
 | .p id ps::r=>(match H[id]? with|some (.live _ cs)=>(K6 cs).filter λi=>!OE i (AE0 ps)|_=>[])++jL env H r
 |_::r=>jL env H r
def uj(sl:List Ua)(env:Bd)(H:Ap):Option (DL (dx sl)):=
 match HG (jL env H sl) env H with
 |(e,h)=>match Y4 e h sl with|some ds=>wy (dx sl) ds|none=>none
def ti:List (Exit×List Ua)->Type
 |[]=>Unit
 |[p]=>DL (dx p.2)
 |p::q::r=>DL (dx p.2)⊕ ti (q::r)
def w9:(xs:List (Exit×List Ua))->Exit->Bd->Ap->Option (ti xs)
 |[],_,_,_=>none
 |[p],x,env,H=>match ux p.1 x with|true=>uj p.2 env H|false=>none
 |p::q::r,x,env,H=>
  match ux p.1 x with
  |true=>(match uj p.2 env H with|some s=>some (.inl s)|none=>none)
  |false=>(match w9 (q::r) x env H with|some s=>some (.inr s)|none=>none)
def AE7{R:Type}:(xs:List (Exit×List Ua))->ti xs->(Exit->List Ua->List DV->Option R)->Option R
 |[],_,_=>none
 |[p],s,k=>k p.1 p.2 (dvs (dx p.2) s)
 |p::q::r,o,k=>Sum.elim (λs=>k p.1 p.2 (dvs (dx p.2) s)) (λs=>AE7 (q::r) s k) o
def tj:(xs:List (Exit×List Ua))->ti xs->Exit×List Ua×List DV
 |[],_=>(.normal,[],[])
 |[p],s=>(p.1,p.2,dvs (dx p.2) s)
 |p::q::r,.inl s=>(p.1,p.2,dvs (dx p.2) s)
 |p::q::r,.inr s=>tj (q::r) s
def sJ{R:Type}: ∀{xs:List (Exit×List Ua)} {o:ti xs} {k:Exit->List Ua->List DV->Option R} {r:R},AE7 xs o k=some r->k (tj xs o).1 (tj xs o).2.1 (tj xs o).2.2=some r
 |[],_,_,_,h=>by cases h
 |[p],s,k,r,h=>h
 |p::q::t,.inl s,k,r,h=>h
 |p::q::t,.inr s,k,r,h=>sJ (xs:=q::t) h
def ACH(sl:List Ua)(ds:List DV)(env:Bd)(H:Ap):Prop:=Y4 (HG (jL env H sl) env H).1 (HG (jL env H sl) env H).2 sl=some ds
theorem jg{s:DL (dx l)}(h:uj l f b=some s):ACH l (dvs (dx l) s) f b:=by grind[uj,ACH,mo]
def sK: ∀{xs:List (Exit×List Ua)} {x:Exit} {env:Bd} {H:Ap} {o:ti xs},w9 xs x env H=some o→
  (tj xs o).1=x/\ACH (tj xs o).2.1 (tj xs o).2.2 env H/\ ∃p∈xs,(tj xs o).2.1=p.2
 |[p],x,env,H,o,h=>by simp only[w9]at h;split at h;rename_i a;exact⟨pE a,jg h,p,k!,rfl⟩;cases h
 |p::q::r,x,env,H,o,h=>by simp only[w9]at h;split at h;rename_i a;split at h;rename_i s b;injection h with h;subst h;exact⟨pE a,jg b,p,k!,rfl⟩;cases h;split at h;rename_i s b;injection h with h;subst h;obtain⟨q1,q2,c,q3,q4⟩:=sK (xs:=q::r) b;exact⟨q1,q2,c,Cd _ q3,q4⟩;cases h
structure wE(A S:List Nat)(env0:Bd)(H0:Ap)(e2:Bd)(h2:Ap):Prop where
 ok:PE e2 h2
 step:CE (Ma S 0 H0) h2
 len:h2.length=H0.length
 same: ∀j,OE j S=false->h2[j]? =(Ma S 0 H0)[j]?
 get: ∀p∈P4 A S H0 env0,e2.get p.1=p.2
theorem xi{A B S:List Nat}{env0:Bd}{a:Ap}{L:Bd}{s:Ap}(m:PE env0 a)(nd:(env0.map (·.1)).Nodup)(g:wE A S env0 a L s)
  {env1:Bd} {d:Ap} (G:PE env1 d) (st:E9 B L s env1 d) (U: ∀t,t∈B->t∈A) {o:List Ua} {K:List DV} (W:ACH o K env1 d)
  {Hx:Ap} (J: ∀e∈Hx,e.ok Hx) (y:Hx.length=a.length) (F:zz Hx (Ma S 0 a)) (rx: ∀id c t n,UZ a id c t n->UZ Hx id c t n) (E: ∀(j:Nat) (i:Ds),OE j (Lj o)=false->Hx[j]? =some i->i= .dead\/ ∃e,OE j S=false/\(Ma S 0 a)[j]? =some e/\e.ro=true/\AEX e i)
  {r:Bd} {f:Ap} (Y:Vo o K (P4 A S a env0) Hx=some (r,f)) (ce:qh a.length r=true) (ch:iX a.length f=true) (N:Nat):
  Fz N a.length (B4 env1) (BJ d) (B4 r) (BJ f)/\ ∃P V,IS P V o (P4 A S a env0) Hx r f:=by
 obtain⟨I,z,wf⟩:=PK (jL env1 d o) G;have u:a.length<=d.length:=by rw[<-g.len];exact st.step.len
 have b:=E9.trans g.ok.env st z;have H: ∀p∈P4 A S a env0,p.2.ok Hx:=λp v x E=>by
  have:=m.env p (Qa nd p v).2.2 x E;cases x with
  |own id c t n=>exact rx _ _ _ _ this
  |_=>trivial
 have q:=OD I W Y ⟨H,J⟩ (by rw[y];exact DH u z.step.len) (λp v=>by
  obtain⟨b1,M,O⟩:=Qa nd p v;have hk:=vK M (m.env p O) g.step;have T:OE p.1 A=false:=by grind[eH]
  have k:uZ p.2=false:=by grind[eH]
  have X:=g.get p v;have:=b.same p.1 (λh=>by rw[Db]at h;exact S9 T (U _ h)) q!;rw[X]at this;exact⟨p.2,ga this (AAV k),V0.refl _⟩) (λj i Z C=>by
   have D:j<a.length:=q!
   rcases E j i Z C with rfl|⟨e,Q,s,f,R⟩;exact⟨_,Au (DM D (DH u z.step.len)),.inl rfl⟩;exact⟨e,b.step.ro j e (by rw[g.same j Q];exact s) f,R⟩) (λid l _ _ _ _ _ _ _ _ hq=>by
  obtain⟨ad,s1,q1⟩:=(g.step.trans b.step).lp id (by rw[Kh,<-y];exact l) _ _ _ _ _ _ _ _ hq;exact F id l _ _ _ _ _ _ _ _ q1)
 have w:=q.weak (N:=N) (by rw[y];exact DH u z.step.len) q! q!;rw[y]at w;exact⟨((wf N).of_le (by rw[Ce];exact u)).trans w,_,_,q⟩
open Classical in
noncomputable def qH{α:Type}(g:List α->Unit->Option (List α))(l:List α):Option (List α):=if∀m,l.Perm m->g m ()=g l ()then g l ()else none
theorem xF{g:List R->Unit->Option (List R)}{l s:List R}(h:qH g l=some s): ∀m,l.Perm m->g m ()=some s:=by grind[qH]
def tn:List Oper->Option (Nat×Nat×Nat×TypeId×TypeId)
 |[⟨some a1,.load ty1 (.tmp c0),_,_,_,none⟩,⟨some a2,.range ty2 (.tmp b1),_,_,_,none⟩]=>match Nat.beq a1 b1 with|true=>some (c0,a1,a2,ty1,ty2)|false=>none
 |_=>none
def qC:List Oper->Option (Nat×Nat×Nat)
 |[⟨some a3,.next (.tmp a2) false,_,_,_,none⟩,⟨some a4,.extract (.tmp b3) 0,_,_,_,none⟩]=>match Nat.beq a3 b3 with|true=>some (a2,a3,a4)|false=>none
 |_=>none
def qD:List Oper->Option (Nat×Nat×Nat×Nat×TypeId×TypeId)
 |[⟨some a5,.entry (.tmp a2),_,_,_,none⟩,⟨some a6,.extract (.tmp b5) 1,_,_,_,none⟩,⟨some a7,.alloc te1,_,_,_,none⟩,⟨none,.store te2 (.tmp b7) (.tmp b6),_,_,_,none⟩]=>
  match Nat.beq a5 b5&&(Nat.beq a6 b6&&Nat.beq a7 b7)with|true=>some (a2,a5,a6,a7,te1,te2)|false=>none
 |_=>none
def qE:List Oper->Option (Nat×Nat×Nat×Nat×Nat×Nat×TypeId×TypeId×TypeId)
 |[⟨some a8,.move (.tmp out),_,_,_,none⟩,⟨some a9,.load te3 (.tmp a7),_,_,_,none⟩,⟨some a10,.buildSlice ts1 1 ⟨[(0,.tmp b9)]⟩,_,_,_,none⟩,
   ⟨some a11,.call {callee:=.builtin .append,args:=⟨[.tmp b8,.tmp b10]⟩,argTypes:=⟨[ts2,ts3]⟩},_,_,_,none⟩,⟨some out2,.assign (.tmp b11),_,_,_,none⟩]=>
  match Nat.beq a8 b8&&(Nat.beq a9 b9&&(Nat.beq a10 b10&&(Nat.beq a11 b11&&(Nat.beq out out2&&Nat.beq ts2 ts3))))with|true=>some (out,a7,a8,a9,a10,a11,te3,ts1,ts2)|false=>none
 |_=>none
def tq:List Oper->Option (Nat×Nat×Nat×FuncId×FuncId)
 |[⟨some a12,.move (.tmp out),_,_,_,none⟩,⟨some a13,.call {callee:=.value (.func F),args:=⟨[.tmp b12,.func G]⟩,.. },_,_,_,none⟩]=>match Nat.beq a12 b12 with|true=>some (out,a12,a13,F,G)|false=>none
 |_=>none
def nh(h:tn e=some (N,n,z,m,M)):
  ∃l c a f d b,e=[⟨some n,.load m (.tmp N),l,c,a,none⟩,⟨some z,.range M (.tmp n),f,d,b,none⟩]:=by
 unfold tn at h;split at h;split at h<;>simp_all;cases h
def ni(h:qC e=some (N,n,z)):
  ∃l c a f d b,e=[⟨some n,.next (.tmp N) false,l,c,a,none⟩,⟨some z,.extract (.tmp n) 0,f,d,b,none⟩]:=by
 unfold qC at h;split at h;split at h<;>simp_all;cases h
def nj{a7:Nat}(h:qD e=some (N,n,z,a7,m,M)):
  ∃j p a k f b o g c l i d,e=[⟨some n,.entry (.tmp N),j,p,a,none⟩,⟨some z,.extract (.tmp n) 1,k,f,b,none⟩,⟨some a7,.alloc m,o,g,c,none⟩,⟨none,.store M (.tmp a7) (.tmp z),l,i,d,none⟩]:=by
 unfold qD at h;split at h;split at h<;>simp_all;cases h
def nk{a9 a10 a11:Nat}{ts2:TypeId}(h:qE e=some (N,n,z,a9,a10,a11,m,M,ts2)):
  ∃r f a l g b o i c p j d q k s,e=[⟨some z,.move (.tmp N),r,f,a,none⟩,⟨some a9,.load m (.tmp n),l,g,b,none⟩,⟨some a10,.buildSlice M 1 #[(0,.tmp a9)],o,i,c,none⟩,⟨some a11,.call {callee:=.builtin .append,args:= #[.tmp z,.tmp a10],argTypes:= #[ts2,ts2]},p,j,d,none⟩,⟨some N,.assign (.tmp a11),q,k,s,none⟩]:=by
 unfold qE at h;split at h;split at h<;>simp_all;cases h
def nl{G:FuncId}(h:tq e=some (N,n,z,F,G)):
  ∃f d b a g l c,e=[⟨some n,.move (.tmp N),f,d,b,none⟩,⟨some z,.call {callee:=.value (.func F),args:= #[.tmp n,.func G],argTypes:=a},g,l,c,none⟩]:=by
 unfold tq at h;split at h;split at h<;>simp_all;cases h
structure Wc where
 c0:Nat
 a1:Nat
 a2:Nat
 a3:Nat
 a4:Nat
 a5:Nat
 a6:Nat
 a7:Nat
 a8:Nat
 a9:Nat
 a10:Nat
 a11:Nat
 a12:Nat
 a13:Nat
 out:Nat
 ty1:TypeId
 ty2:TypeId
 te1:TypeId
 te2:TypeId
 te3:TypeId
 ts1:TypeId
 ts2:TypeId
 F:FuncId
 G:FuncId
def td:List Nat->Bool
 |[]=>true
 |t::r=>!OE t r&&td r
def na: ∀{l:List Nat},td l=true->l.Nodup
 |[],_=>OU
 |t::r,h=>by simp only[td,BU,WS]at h;exact GB.2 ⟨S9 h.1,na h.2⟩
def kW:Code->Code->Option Wc
 | .seq (.region _ o1 false) (.block b1 (.loop (.seq (.region _ o2 false) (.seq (.cond (.tmp x4) .skip (.exit b2)) (.block _ (.seq (.region _ o3 false) (.region _ o4 false))))))),.region _ o5 false=>
  match tn o1.toList,qC o2.toList,qD o3.toList,qE o4.toList,tq o5.toList with
  |some (c0,a1,a2,ty1,ty2),some (x2,a3,a4),some (y2,a5,a6,a7,te1,te2),some (out,x7,a8,a9,a10,a11,te3,ts1,ts2),some (out2,a12,a13,F,G)=>
   match (Nat.beq b1 b2&&(Nat.beq a4 x4&&(Nat.beq a2 x2&&(Nat.beq a2 y2&&(Nat.beq a7 x7&&Nat.beq out out2)))))&&td [out,a1,a2,a3,a4,a5,a6,a7,a8,a9,a10,a11,a12,a13]with
   |true=>some ⟨c0,a1,a2,a3,a4,a5,a6,a7,a8,a9,a10,a11,a12,a13,out,ty1,ty2,te1,te2,te3,ts1,ts2,F,G⟩
   |false=>none
  |_,_,_,_,_=>none
 |_,_=>none
def Wc.tmps(p:Wc):List Nat:=[p.out,p.a1,p.a2,p.a3,p.a4,p.a5,p.a6,p.a7,p.a8,p.a9,p.a10,p.a11,p.a12,p.a13]
def YH(A:List Nat):Bd->Bd
 |[]=>[]
 |(t,v)::r=>match OE t A with|true=>YH A r|false=>(t,v)::YH A r
def Ul{A:List Nat}: ∀{env:Bd} {q:Nat×TV},q∈YH A env->q∈env/\q.1∉A
 |[],_,h=>by cases h
 |(t,v)::r,q,h=>by simp only[YH]at h;split at h;exact⟨Cd _ (Ul h).1,(Ul h).2⟩;rename_i a;rcases Av.1 h with rfl|h;exact⟨Jp,S9 a⟩;exact⟨Cd _ (Ul h).1,(Ul h).2⟩
theorem mL{A:List Nat}{u:Nat}(a:u∉A): ∀env:Bd,(YH A env).get u=env.get u
 |[]=>rfl
 |(t,v)::r=>by
  simp only[YH,Bd.get];split;rename_i b;have:t≠u:=λe=>by grind[Ut]
  rw[beq_false this];exact mL a r;simp[Bd.get,mL a r]
noncomputable def AAj(P:Program)(N:Nat)(cs:List Pt)(p:Wc)(env:Bd)(H:Ap){R:Type}(k:Bd->Ap->Option R):Option R:=
 match env.get p.c0,env.get p.out with
 | .c (.raw (.ptr c 0 0)),.c .nil=>
  match H[c]? with
  |some (.live _ [.raw (.mp id)])=>
   match H[id]?,yB cs p.F,Enters P p.F with
   |some (.mp _ kk ty es),some (.c2 _ te [] [] [.fn (.func G) [] []] g),true=>
    if h:(Ty.list ty).beq (Ty.list te)=true then
     match tI P p.ty1,P.underlying p.ty2,tI P p.te2,tI P p.te3,XZ P p.te1,eI P p.ts1,eI P p.ts2 with
     |some (false,_),some (.map kt _),some (_,n2),some (tr3,n3),some z,some (none,e1,s1),some (none,e2,s2)=>
      match (Nat.beq G p.G&&(te.isAgg&&(Nat.beq n2 te.sz&&(tr3&&(Nat.beq n3 te.sz&&(Nat.beq z.length te.sz&&(Nat.beq s1 te.sz&&(Nat.beq s2 te.sz&&(RI P e1&&(RI P e2&&Nat.ble te.sz 4096))))))))))&&
        ((match P.underlying kt with|some (.int k2)=>decide (k2=kk)|_=>false)&&(qh H.length (YH p.tmps env)&&(iX H.length H&&p.tmps.all λt=>Nat.blt t N)))with
      |true=>cond (decide (((es.length:Nat):Int)≤16777216))
        ((qH g (Ty.cast h (es.map (·.2)))).bind λs=>cond (Nat.beq s.length es.length) (k ((p.out,.c (.own H.length 0 te s.length))::YH p.tmps env) (H++[.buf false te s s.length 0,.dead])) none) none
      |false=>none
     |_,_,_,_,_,_,_=>none
    else none
   |_,_,_=>none
  |_=>none
 |_,_=>none
theorem Et{q:Nat×AZ}{v:AZ}(h:q∈u)(a:q.1≠N):q∈u.put N v:=Cd _ (BM.2 ⟨h,q!⟩)
def uE:(N,i)∈u.put N i:=Jp
def lE{v:AZ}:Env.get ((N,v)::u) N=v:=if_pos rfl
def vC{v:AZ}(h:N≠n):Env.get ((N,v)::u) n=u.get n:=if_neg h
def eK(vals:List R)(seen:List Nat):List R:=seen.filterMap (vals[·]?)
theorem xS{b:List R}{x:R}(h:b[N]? =some x):eK b (a++[N])=eK b a++[x]:=by grind[eK]
theorem ve{b:Type}: ∀a:List b,(List.range a.length).filterMap (a[·]?)=a
 |[]=>rfl
 |x::r=>by
  rw[Bo,List.range_succ_eq_map,List.filterMap_cons];simp;have:((λi=>(x::r)[i]?)∘Nat.succ)=(r[·]?):=q!
  rw[this,ve r]
def xR{d:List R}(hn:a.Nodup)(c: ∀j∈a,j<d.length)(b: ∀j,j<d.length->j∈a):d.Perm (eK d a):=by have:=((jR List.nodup_range hn).2 λj=>⟨λh=>b j (Hi.1 h),λh=>Hi.2 (c j h)⟩).filterMap (d[·]?);rwa [ve]at this
section
variable {P:Program} {N:Nat} {env:Env} {H:Ax} {Q:Env->Ax->Prop} {ops:Array Oper}
def VW.nil(h:Q env H):VW P N ops [] env H Q:=⟨_,_,Fz.refl _ _ _,h⟩
def VW.cons(b:o.guard=none)(h:JC P N o env H λv a=>VW P N ops e (env.putO o.dst v) a Q):VW P N ops (o::e) env H Q:=by refine⟨_,_,Fz.refl _ _ _,?_⟩;rw[b];exact h
end
variable {s:Hint}{C:Wc}
section
variable {P:Program} {N:Nat}
theorem sw(t:Ty)(l:List t.D): ∀v∈t.E.cl l,Pure v:=by intro v a;have⟨u,b,a⟩:=Hh.1 a;obtain⟨y,_,rfl⟩:=Bh.1 b;exact Tv (t.enc_pure y) v a
theorem ABe(h:Pure i)(p:Nat->Bool):i.idsAll p=true:=QS (λ_ h=>by cases h) i h
theorem AAz{p q:Nat->Bool}(h: ∀id,p id=true->q id=true)(e:FZ)(k:e.idsAll p=true):e.idsAll q=true:=by cases e<;>grind[JA,FZ.idsAll,List.all_eq_true,QS]
theorem AEk(t:Ty)(g:Nat)(l:List t.D)(p:Nat->Bool):(FZ.live g (t.E.cl l)).idsAll p=true:=by grind[FZ.idsAll,Da,ABe,sw]
theorem flt{a:Type}(p q:a->Bool)(b: ∀x,q x=true->p x=true)(e:a)(d:p e=true)(f:q e=false): ∀l:List a,e∈l->(l.filter q).length<(l.filter p).length
 |x::l,he=>by
  have c: ∀l:List a,(l.filter q).length<=(l.filter p).length:=by intro l;induction l<;>grind
  rcases Av.1 he with rfl|h;grind;have:=flt p q b e d f l h;grind
theorem AD6(h:A.Nodup){i j a b:Nat}(d:A[i]? =some a)(e:A[j]? =some b)(c:i≠j):a≠b:=by grind[List.getElem?_inj]
set_option maxHeartbeats 1000000 in
def y9{te:Ty}{kk:IntKind}{es:List (Int×te.D)}{Hb:Ax}{base:Env}{id a2 a3 a4 a5 a6 a7 a8 a9 a10 a11 out:Nat}{b1 b2:Nat}{i2 i3 i4:Nat}{o2 o3 o4:Array Oper}{te1 te2 te3 ts1 ts2:TypeId}{z:List AZ}{e1 e2:TypeId}{bb:Bool}
  (h2:qC o2.toList=some (a2,a3,a4)) (h3:qD o3.toList=some (a2,a5,a6,a7,te1,te2)) (h4:qE o4.toList=some (out,a7,a8,a9,a10,a11,te3,ts1,ts2))
  (b0:[out,a2,a3,a4,a5,a6,a7,a8,a9,a10,a11].Nodup) (hN: ∀t∈[out,a2,a3,a4,a5,a6,a7,a8,a9,a10,a11],t<N) (hb: ∀q∈base,q.1∉ [out,a2,a3,a4,a5,a6,a7,a8,a9,a10,a11])
  (a0: ∀q∈base,(q.2.idsAll λj=>decide (j<Hb.length))=true) (ar: ∀e∈Hb,(e.idsAll λj=>decide (j<Hb.length))=true)
  (he:Hb[id]? =some (.mp kk (es.map λp=>(p.1,te.enc p.2)))) (ax:te.isAgg=true) (hz:XZ P te1=some z) (Z:z.length=te.sz) (b6:tI P te2=some (bb,te.sz)) (b7:tI P te3=some (true,te.sz))
  (b3:eI P ts1=some (none,e1,te.sz)) (b4:eI P ts2=some (none,e2,te.sz)) (bG:RI P e1=true) (bN:RI P e2=true) (b5:te.sz<=4096) (b8:es.length<=16777216):
  ∀(n:Nat) (seen:List Nat),seen.Nodup->(∀j∈seen,j<es.length)->((List.range es.length).filter λj=>!decide (j∈seen)).length<=n->(eK (es.map (·.2)) seen).length+((List.range es.length).filter λj=>!decide (j∈seen)).length<=es.length->
   Mc P N (.seq (.region i2 o2 false) (.seq (.cond (.tmp a4) .skip (.exit b1)) (.block b2 (.seq (.region i3 o3 false) (.region i4 o4 false)))))
    ((out,.sl Hb.length (eK (es.map (·.2)) seen).length te.sz 0 (eK (es.map (·.2)) seen).length)::(a2,.itp (Hb.length+1) id)::base)
    (Hb++[.live (eK (es.map (·.2)) seen).length (te.E.cl (eK (es.map (·.2)) seen)),.it es.length seen])
    λe E h=>e= .exit b1/\ ∃s,(es.map (·.2)).Perm s/\(∀q∈(out,AZ.sl Hb.length s.length te.sz 0 s.length)::base,q∈E)/\h.length=Hb.length+2/\(∀j,j<Hb.length->h[j]? =Hb[j]?)/\h[Hb.length]? =some (.live s.length (te.E.cl s)):=by
 obtain⟨t1,p1,x1,t2,p2,x2,l2⟩:=ni h2;obtain⟨t3,p3,x3,t4,p4,x4,t5,p5,x5,t6,p6,x6,l3⟩:=nj h3;obtain⟨t7,p7,x7,t8,p8,x8,t9,p9,x9,ca,b9,cc,cb,b',cd,l4⟩:=nk h4;have D:=λ(i j a b:Nat)=>AD6 (i:=i) (j:=j) (a:=a) (b:=b) b0;simp only[Av,List.not_mem_nil,or_false,forall_eq_or_imp,forall_eq]at hN;have d2:Ko N o2.toList=true:=by rw[l2];simp[Ko,hN]
 have d3:Ko N o3.toList=true:=by rw[l3];simp[Ko,hN]
 have d4:Ko N o4.toList=true:=by rw[l4];simp[Ko,hN]
 have a1:id<Hb.length:=by rcases Aw id Hb.length with h|h;exact h;rw[Cn h]at he;cases he
 have s0: ∀(A B C:FZ),(Hb++[A,B]).set (Hb.length+1) C=Hb++[A,C]:=λA B C=>by rw[R8 _ _ o!,show Hb.length+1-Hb.length=1 by omega];rfl
 have s1: ∀(A B C D:FZ),(Hb++[A,B,C]).set (Hb.length+2) D=Hb++[A,B,D]:=λA B C D=>by rw[R8 _ _ o!,show Hb.length+2-Hb.length=2 by omega];rfl
 have s2: ∀(A B C D:FZ),(Hb++[A,B,C]).set Hb.length D=Hb++[D,B,C]:=λA B C D=>by rw[R8 _ _ (Aq _),Ge];rfl
 have g0: ∀(A:FZ) (r:List FZ),(Hb++A::r)[Hb.length]? =some A:=λA r=>by rw[Ch (Aq _),Ge];rfl
 have g1: ∀(A B:FZ) (r:List FZ),(Hb++A::B::r)[Hb.length+1]? =some B:=λA B r=>by rw[Ch o!,show Hb.length+1-Hb.length=1 by omega];rfl
 have g2: ∀(A B C:FZ) (r:List FZ),(Hb++A::B::C::r)[Hb.length+2]? =some C:=λA B C r=>by rw[Ch o!,show Hb.length+2-Hb.length=2 by omega];rfl
 have gm: ∀(r:List FZ),(Hb++r)[id]? =some (.mp kk (es.map λp=>(p.1,te.enc p.2))):=λr=>by rw[CO a1];exact he
 have Y:(es.map (·.2)).length=es.length:=Bs _;have J:0<te.sz:=te.sz_pos;intro n;induction n using Nat.strongRecOn with
 |ind n ih=>
  intro seen hn hl hr hm;obtain⟨L,hL⟩: ∃L,L=eK (es.map (·.2)) seen:=⟨_,rfl⟩
  rw[<-hL]at hm⊢;refine SI (Mb.seq (Ff d2 ?_));rw[l2];apply VW.cons rfl;have d:(es.map λp=>(p.1,te.enc p.2)).length=es.length:=Bs _;have ad:out≠a2:=D 0 1 _ _ rfl rfl g!;refine JC.next (x:=.tmp a2) (id:=Hb.length+1) (m:=id) (k:=kk) (es:=es.map λp=>(p.1,te.enc p.2)) (seen:=seen) rfl ?_ ?_ (gm _) ?_ ?_
  show Env.get _ a2=_;rw[vC ad,lE];rw[d];exact g1 _ _ _;intro G;refine VW.cons rfl (Dj (v:=.bool false) ?_ (VW.nil ?_));show Cb _ _ _ (.extract (.tmp a3) 0)=_;simp only[Cb,BL,Env.putO,F8,if_true];rfl;refine Mb.seq (Mb.cond (b:=false) ?_ (λh=>by cases h) (λ_=>Mb.exit ?_));simp only[BL,Env.putO,F8,if_true];refine⟨rfl,L,?_,λq o=>?_,k!,λj hj=>CO hj,g0 _ _⟩;rw[hL];exact xR hn (by rw[Y];exact hl) (by rw[Y];rw[d]at G;exact G);have al:out≠a3:=D 0 2 _ _ rfl rfl g!;have ao:out≠a4:=D 0 3 _ _ rfl rfl g!;rcases Av.1 o with rfl|o;exact Et (Et Jp al) ao;have:=hb q o;simp only[Av,not_or]at this;exact Et (Et (Cd _ (Cd _ o)) this.2.2.1) this.2.2.2.1;intro j p hj S;rw[CD]at hj;obtain⟨q,o,e⟩:=SC.1 hj;subst e;rw[d,s0];refine VW.cons rfl (Dj (v:=.bool true) ?_ (VW.nil ?_));show Cb _ _ _ (.extract (.tmp a3) 0)=_;simp only[Cb,BL,Env.putO,F8,if_true];rfl;have k2: ∀(m:Nat) (v w:AZ),Env.get (Env.put (Env.put ((out,AZ.sl Hb.length m te.sz 0 m)::(a2,AZ.itp (Hb.length+1) id)::base) a3 v) a4 w) a2= .itp (Hb.length+1) id:=λm v w=>by rw[F8,if_neg (D 1 3 _ _ rfl rfl g!),F8,if_neg (D 1 2 _ _ rfl rfl g!),vC ad,lE]
  have ko: ∀(m:Nat) (v w:AZ),Env.get (Env.put (Env.put ((out,AZ.sl Hb.length m te.sz 0 m)::(a2,AZ.itp (Hb.length+1) id)::base) a3 v) a4 w) out= .sl Hb.length m te.sz 0 m:=λm v w=>by rw[F8,if_neg (D 0 3 _ _ rfl rfl g!),F8,if_neg (D 0 2 _ _ rfl rfl g!),lE]
  have kb: ∀(m:Nat) (v w:AZ),∀q∈base,q∈Env.put (Env.put ((out,AZ.sl Hb.length m te.sz 0 m)::(a2,AZ.itp (Hb.length+1) id)::base) a3 v) a4 w:=λm v w q o=>by have:=hb q o;simp only[Av,not_or]at this;exact Et (Et (Cd _ (Cd _ o)) this.2.2.1) this.2.2.2.1
  have ki: ∀(m:Nat) (v w:AZ),(a2,AZ.itp (Hb.length+1) id)∈Env.put (Env.put ((out,AZ.sl Hb.length m te.sz 0 m)::(a2,AZ.itp (Hb.length+1) id)::base) a3 v) a4 w:=λm v w=>Et (Et (Cd _ Jp) (D 1 2 _ _ rfl rfl g!)) (D 1 3 _ _ rfl rfl g!);refine Mb.seq (Mb.cond (b:=true) ?_ (λ_=>Mb.skip ?_) (λh=>by cases h));simp only[BL,Env.putO,F8,if_true];dsimp only[sX];refine Mb.block (Mb.seq (Ff d3 ?_));rw[l3];generalize K:Env.putO (Env.putO ((out,AZ.sl Hb.length L.length te.sz 0 L.length)::(a2,AZ.itp (Hb.length+1) id)::base) (some a3) (.tup [.bool true,.int kk q.1,te.enc q.2])) (some a4) (.bool true)=E;have k2:Env.get E a2= .itp (Hb.length+1) id:=by rw[<-K];exact k2 _ _ _
  have ko:Env.get E out= .sl Hb.length L.length te.sz 0 L.length:=by rw[<-K];exact ko _ _ _
  have kb: ∀q∈base,q∈E:=by rw[<-K];exact kb _ _ _
  have ki:(a2,AZ.itp (Hb.length+1) id)∈E:=by rw[<-K];exact ki _ _ _
  clear K;refine VW.cons rfl (JC.entry (x:=.tmp a2) (id:=Hb.length+1) (m:=id) (j:=j) (k:=kk) (es:=es.map λp=>(p.1,te.enc p.2)) (seen:=seen) (p:=(q.1,te.enc q.2)) rfl k2 ?_ (gm _) (by rw[CD,o];rfl) ?_);rw[d];exact g1 _ _ _;have f:te.enc q.2= .agg (te.enc q.2).cells:=Ty.agg_enc ax q.2;have l:(te.enc q.2).cells.length=te.sz:=te.enc_len q.2;have U:(te.enc q.2).solid=true:=by rw[f];rfl
  refine VW.cons rfl (Dj (v:=te.enc q.2) ?_ (VW.cons rfl (JC.alloc rfl hz ?_)));show Cb _ _ _ (.extract (.tmp a5) 1)=_;simp only[Cb,BL,Env.putO,F8,if_true];rfl;have a':(Hb++[FZ.live L.length (te.E.cl L),FZ.it es.length (seen++[j])]).length=Hb.length+2:=k!
  rw[a',A2];show VW P N o3 _ _ (Hb++[FZ.live L.length (te.E.cl L),FZ.it es.length (seen++[j]),FZ.live 0 z]) _;refine VW.cons rfl (JC.store (id:=Hb.length+2) (g:=0) (off:=0) (v:=te.enc q.2) (cs:=z) (b:=bb) rfl ?_ ?_ U (g2 _ _ _ _) (by rw[l];exact b6) (by rw[l,Z];omega) (VW.nil ?_));simp only[BL,Env.putO,F8,if_true];simp only[BL,Env.putO,F8];rw[if_neg (D 5 6 _ _ rfl rfl g!),if_pos trivial];have T:VS z 0 (te.enc q.2).cells=(te.enc q.2).cells:=by unfold VS;rw[List.take_zero,By,l,<-Z,EL,List.drop_length,Db]
  rw[T,s1];simp only[Env.putO];generalize F:Env.put (Env.put (Env.put E a5 (.tup [.int kk q.1,te.enc q.2])) a6 (te.enc q.2)) a7 (.ptr (Hb.length+2) 0 0)=E1;have j7:Env.get E1 a7= .ptr (Hb.length+2) 0 0:=by rw[<-F,F8,if_pos rfl]
  have jo:Env.get E1 out= .sl Hb.length L.length te.sz 0 L.length:=by rw[<-F,F8,if_neg (D 0 6 _ _ rfl rfl g!),F8,if_neg (D 0 5 _ _ rfl rfl g!),F8,if_neg (D 0 4 _ _ rfl rfl g!),ko]
  have jb: ∀q∈base,q∈E1:=λu I=>by have:=hb u I;simp only[Av,not_or]at this;rw[<-F];exact Et (Et (Et (kb u I) this.2.2.2.2.1) this.2.2.2.2.2.1) this.2.2.2.2.2.2.1
  have ji:(a2,AZ.itp (Hb.length+1) id)∈E1:=by rw[<-F];exact Et (Et (Et ki (D 1 4 _ _ rfl rfl g!)) (D 1 5 _ _ rfl rfl g!)) (D 1 6 _ _ rfl rfl g!)
  clear F;apply Ff d4;rw[l4];refine VW.cons rfl (Dj (v:=.sl Hb.length L.length te.sz 0 L.length) (congrArg some jo) (VW.cons rfl (Dj (v:=te.enc q.2) ?_ (VW.cons rfl (UL (sz:=te.sz) (vs:=[te.enc q.2]) rfl ?_ (VW.cons rfl ?_))))));show eJ P te3 _ (BL _ (.tmp a7))=_;simp only[BL,Env.putO,F8];rw[if_neg (D 6 7 _ _ rfl rfl g!),j7];simp only[eJ,b7,PZ,g2];rw[if_pos ⟨trivial,by rw[l];omega⟩,gr,<-l,Hj];exact congrArg some f.symm;simp only[Rw,b3];rw[if_pos];simp only[BL,Env.putO,F8,if_true,Bv,HE];refine⟨J,bG,rfl,?_,g!,b5⟩;simp only[BL,Env.putO,F8,if_true,Bv,HE,ll,lm,U,l,decide_true,WQ];have R:j<es.length:=by rcases Aw j es.length with h|h;exact h;rw[Cn h]at o;cases o
  have bz:((List.range es.length).filter λi=>!decide (i∈seen++[j])).length<((List.range es.length).filter λi=>!decide (i∈seen)).length:=flt (λi=>!decide (i∈seen)) (λi=>!decide (i∈seen++[j])) (λx f=>by simp at f⊢;exact f.1) j (by simpa using S) k! _ (Hi.2 R);have O:eK (es.map (·.2)) (seen++[j])=L++[q.2]:=by rw[hL];exact xS (by rw[CD,o];rfl)
  refine RH (sx:=.tmp a8) (xx:=.tmp a10) (t:=ts2) (e:=e2) (id:=Hb.length) (g:=L.length) (g':=L.length+1) (n:=L.length) (sz:=te.sz) (m:=1) (cs:=te.E.cl L) (news:=(te.enc q.2).cells) rfl b4 J bN ?_ (g0 _ _) (te.E.clen L) ?_ o! (.inl o!) ?_;show Env.get _ a8=_;simp only[Env.putO,F8];rw[if_neg (D 7 9 _ _ rfl rfl g!),if_neg (D 7 8 _ _ rfl rfl g!),if_pos trivial];simp only[BL,Env.putO,F8,if_true,NY,Bo,Ba,Iq,lz,Db];rw[s2];refine VW.cons rfl (Dj (v:=.sl Hb.length (L.length+1) te.sz 0 (L.length+1)) ?_ (VW.nil ?_));show some (Env.get _ a11)=_;simp only[Env.putO,F8,if_true];have Q:te.E.cl L++(te.enc q.2).cells=te.E.cl (L++[q.2]):=by simp[TI.cl];rfl
  rw[Q];have bt:(L++[q.2]).length=L.length+1:=k!
  show∃env2 H2,Fz N _ _ _ env2 H2/\_;refine⟨_,_,?_,ih _ (DM bz hr) (seen++[j]) ?_ ?_ (Aq _) (by rw[O];omega)⟩;rw[O,bt];generalize M:Env.putO _ (some out) _=E3;have V: ∀u∈(out,AZ.sl Hb.length (L.length+1) te.sz 0 (L.length+1))::(a2,AZ.itp (Hb.length+1) id)::base,u∈E3:=by intro u I;rw[<-M];simp only[Env.putO];rcases Av.1 I with rfl|I;exact uE;rcases Av.1 I with rfl|I;exact Et (Et (Et (Et (Et ji (D 1 7 _ _ rfl rfl g!)) (D 1 8 _ _ rfl rfl g!)) (D 1 9 _ _ rfl rfl g!)) (D 1 10 _ _ rfl rfl g!)) (D 1 0 _ _ rfl rfl g!);have:=hb u I;simp only[Av,not_or]at this;exact Et (Et (Et (Et (Et (jb u I) this.2.2.2.2.2.2.2.1) this.2.2.2.2.2.2.2.2.1) this.2.2.2.2.2.2.2.2.2.1) this.2.2.2.2.2.2.2.2.2.2.1) this.1
  clear M;have w1:=Fz.subset (N:=N) (H:=Hb++[FZ.live (L.length+1) (te.E.cl (L++[q.2])),FZ.it es.length (seen++[j]),FZ.live 0 (te.enc q.2).cells]) V;have W:(Hb++[FZ.live (L.length+1) (te.E.cl (L++[q.2])),FZ.it es.length (seen++[j]),FZ.live 0 (te.enc q.2).cells]).take (Hb.length+2)=Hb++[FZ.live (L.length+1) (te.E.cl (L++[q.2])),FZ.it es.length (seen++[j])]:=by rw[jT,BQ o!,show Hb.length+2-Hb.length=2 by omega];rfl
  have w2:=Fz.cut (N:=N) (n0:=Hb.length+2) (env:=(out,AZ.sl Hb.length (L.length+1) te.sz 0 (L.length+1))::(a2,AZ.itp (Hb.length+1) id)::base) (H:=Hb++[FZ.live (L.length+1) (te.E.cl (L++[q.2])),FZ.it es.length (seen++[j]),FZ.live 0 (te.enc q.2).cells]) k! (λt v X=>by
   rcases Av.1 X with e|X;injection e with _ e;subst e;exact decide_eq_true o!;rcases Av.1 X with e|X;injection e with _ e;subst e;simp only[AZ.idsAll,BU,decide_eq_true_eq];omega;exact QS (λi hi=>decide_eq_true (by have:=of_decide_eq_true hi;omega)) v (a0 _ X)) (by
   rw[W];intro e c;rcases Ao.1 c with c|c;exact AAz (λi hi=>decide_eq_true (by have:=of_decide_eq_true hi;omega)) e (ar e c);rcases Av.1 c with rfl|c;exact AEk te _ _ _;simp only[BC]at c;subst c;rfl)
  rw[W]at w2;have bl:(Hb++[FZ.live L.length (te.E.cl L),FZ.it es.length seen]).length=Hb.length+2:=k!
  rw[bl];exact(w1.of_le k!).trans w2;refine Py.2 ⟨hn,k!,λx f y hy=>?_⟩;simp only[BC]at hy;subst hy;rintro rfl;exact S f;intro x f;rcases Ao.1 f with f|f;exact hl x f;simp only[BC]at f;subst f;exact R
def kX(h:kW d J=some C): ∃x k i y l r z n A o B q,
  d= .seq (.region x k false) (.block i (.loop (.seq (.region y l false) (.seq (.cond (.tmp C.a4) .skip (.exit i)) (.block r (.seq (.region z n false) (.region A o false)))))))/\J= .region B q false/\
  tn k.toList=some (C.c0,C.a1,C.a2,C.ty1,C.ty2)/\qC l.toList=some (C.a2,C.a3,C.a4)/\qD n.toList=some (C.a2,C.a5,C.a6,C.a7,C.te1,C.te2)/\
  qE o.toList=some (C.out,C.a7,C.a8,C.a9,C.a10,C.a11,C.te3,C.ts1,C.ts2)/\tq q.toList=some (C.out,C.a12,C.a13,C.F,C.G)/\C.tmps.Nodup:=by
 unfold kW at h;split at h;split at h;rename_i s t u v w;split at h;rename_i j;simp only[BU]at j;have⟨⟨b,c,a,e,f,g⟩,hn⟩:=j;have b:=DG b;have c:=DG c;have a:=DG a;have e:=DG e;have f:=DG f;have g:=DG g;subst b c a e f g;cases h;exact⟨_,_,_,_,_,_,_,_,_,_,_,_,rfl,rfl,s,t,u,v,w,na hn⟩;cases h;cases h;cases h
set_option maxHeartbeats 1000000 in
def AAk{cs:List Pt}(cv: ∀c∈cs,c.Ok P){a m:Code}{p:Wc}(hp:kW a m=some p){env:Bd}{H:Ap}{R:Type}{k:Bd→Ap→Option R}{r:R}(ok:PE env H)(o:AAj P N cs p env H k=some r):
  ∃A H',Mb P N a (B4 env) (BJ H) (sX (λE h=>Mb P N m E h (Ws .normal (B4 A) (BJ H'))) (λ_ _ _=>False))/\k A H'=some r/\PE A H'/\E9 p.tmps env H A H':=by
 obtain⟨i1,o1,T,i2,o2,J,i3,o3,i4,o4,i5,o5,rfl,rfl,p1,p2,p3,p4,p5,b5⟩:=kX hp;unfold AAj at o;split at o;rename_i c cm b6;split at o;rename_i ro id hc;split at o;rename_i c4 kk n I F te G g a' hF hE;split at o;rename_i cS;split at o;rename_i y1 kt et ca n2 c5 n3 z e1 s1 e2 s2 t1 t2 t3 t4 t5 t6 t7;split at o;rename_i hb;have cW:n=te:=by have:=Ty.beq_eq _ _ cS;injection this
 subst cW;simp only[BU]at hb;obtain⟨⟨bG,b',V,cf,W,bz,Y,Z,cd,ce,ad⟩,U,cb,cc,bN⟩:=hb;have bG:=DG bG;have V:=DG V;have W:=DG W;have bz:=DG bz;have Y:=DG Y;have Z:=DG Z;have ad:=Kl ad;subst V W Y Z cf;have c3:P.underlying kt=some (.int kk):=by split at U;rename_i k2 e;rw[e,of_decide_eq_true U];cases U
 cases ao:decide (((I.length:Nat):Int)<=16777216)with
 |false=>rw[ao]at o;cases o
 |true=>
  have b0:I.length<=16777216:=by have:=of_decide_eq_true ao;omega
  rw[ao]at o;obtain⟨s,hs,o⟩:=Dt.1 (show Option.bind _ _=some r from o);have hs:=xF hs;cases L:Nat.beq s.length I.length with
  |false=>rw[L]at o;cases o
  |true=>
   rw[L]at o;have o:k ((p.out,.c (.own H.length 0 n s.length))::YH p.tmps env) (H++[.buf false n s s.length 0,.dead])=some r:=o;have L:=DG L;obtain⟨c6,q1,x1,c8,q2,x2,l1⟩:=nh p1;obtain⟨c9,q3,x3,c1,c',q4,x4,l5⟩:=nl p5;have D:=λ(i j a b:Nat)=>AD6 (i:=i) (j:=j) (a:=a) (b:=b) b5;have hN: ∀t∈p.tmps,t<N:=λt ht=>Kl (F3.1 bN t ht);have d1:Ko N o1.toList=true:=by rw[l1];simp[Ko,ll,lm,PF,BU,decide_eq_true_eq];exact⟨hN _ (by simp[Wc.tmps]),hN _ (by simp[Wc.tmps])⟩
   have d5:Ko N o5.toList=true:=by rw[l5];simp[Ko,ll,lm,PF,BU,decide_eq_true_eq];exact⟨hN _ (by simp[Wc.tmps]),hN _ (by simp[Wc.tmps])⟩
   have M:(B4 env).get p.out= .nils:=by rw[Tb,b6];rfl
   have al:(B4 env).get p.c0= .ptr c 0 0:=by rw[Tb,cm];rfl
   have ct:p.c0≠p.out:=λe=>by rw[e,M]at al;cases al
   have co:c<H.length:=Gw hc;have bl:id<H.length:=Gw a';have d:(BJ H).length=H.length:=Ce H;have ch:(BJ H)[c]? =some (.live 0 [.mp id]):=by rw[FC,hc];rfl
   have O:(BJ H)[id]? =some (.mp kk (I.map λp=>(p.1,n.enc p.2))):=by rw[FC,a'];rfl
   have x: ∀q∈B4 (YH p.tmps env),q∈B4 env/\q.1∉p.tmps:=λq y=>by obtain⟨u,hu,rfl⟩:=Bh.1 y;exact⟨Bh.2 ⟨u,(Ul hu).1,rfl⟩,(Ul hu).2⟩
   have ck: ∀q∈B4 (YH p.tmps env),(q.2.idsAll λj=>decide (j<(BJ H).length))=true:=λq y=>by obtain⟨u,hu,rfl⟩:=Bh.1 y;rw[d];exact dD (hY cb u hu)
   have ci: ∀e∈BJ H,(e.idsAll λj=>decide (j<(BJ H).length))=true:=by rw[d];exact hZ cc
   have step:CE H (H++[.buf false n s s.length 0,.dead]):=by have:=(CE.push H (.buf false n s s.length 0)).trans (CE.push _ .dead);rwa [A2]at this
   have b7:(Bu.own H.length 0 n s.length).ok (H++[.buf false n s s.length 0,.dead]):=by apply WZ (b:=false) (l:=s);rw[Ch (Aq _),Ge];rfl
   refine⟨(p.out,.c (.own H.length 0 n s.length))::YH p.tmps env,H++[.buf false n s s.length 0,.dead],?_,o,⟨λq y=>?_,?_⟩,step,λu hu _=>?_⟩;refine Mb.weak (Fz.virt (t:=p.out) (sz:=n.sz) M) (Mb.seq (Ff d1 ?_));rw[l1];have cG:Cb P ((B4 env).put p.out (.sl (BJ H).length 0 n.sz 0 0)) (BJ H++[.live 0 []]) (.load p.ty1 (.tmp p.c0))=some (.mp id):=by simp[Cb,BL,F8];rw[if_neg ct,al];simp[eJ,t1,PZ];rw[CO (by rw[d];exact co),ch];rfl
   have bt:(BJ H++[FZ.live 0 []])[id]? =some (.mp kk (I.map λp=>(p.1,n.enc p.2))):=by rw[CO (by rw[d];exact bl),O]
   refine VW.cons rfl (Dj cG (VW.cons rfl (JC.range (id:=id) (k:=kk) (es:=I.map λp=>(p.1,n.enc p.2)) rfl ?_ t2 bt (VW.nil ?_))));simp[BL,Env.putO,F8,if_true];rw[Bs,Ag,A2];dsimp[sX,Env.putO];refine Mb.block (Mb.of_loopW ?_);have a0:[p.out,p.a2,p.a3,p.a4,p.a5,p.a6,p.a7,p.a8,p.a9,p.a10,p.a11].Sublist p.tmps:=.cons₂ _ (.cons _ (.cons₂ _ (.cons₂ _ (.cons₂ _ (.cons₂ _ (.cons₂ _ (.cons₂ _ (.cons₂ _ (.cons₂ _ (.cons₂ _ (.cons₂ _ (.cons _ (.cons _ .slnil)))))))))))));have b9:=y9 (P:=P) (N:=N) (te:=n) (kk:=kk) (es:=I) (Hb:=BJ H) (base:=B4 (YH p.tmps env)) (id:=id) (out:=p.out) (a2:=p.a2) (a3:=p.a3) (a4:=p.a4) (a5:=p.a5) (a6:=p.a6) (a7:=p.a7) (a8:=p.a8) (a9:=p.a9) (a10:=p.a10) (a11:=p.a11)
    (b1:=T) (b2:=J) (i2:=i2) (i3:=i3) (i4:=i4) (bb:=ca) p2 p3 p4 ?_ ?_ ?_ ck ci O b' t5 bz t3 t4 t6 t7 cd ce ad b0 I.length [] OU (λj B=>by cases B) (by simpa using List.length_filter_le _ (List.range I.length)) (by have:=Fe (λj=>!decide (j∈([]:List Nat))) (List.range I.length);simpa[eK]using this)
   refine Mc.mono (Mc.weak ?_ b9) ?_;refine Fz.subset (N:=N) (H:=BJ H++[FZ.live 0 [],FZ.it I.length []]) λq y=>?_;rcases Av.1 y with rfl|y;exact Et (Et uE (D 0 1 _ _ rfl rfl g!)) (D 0 2 _ _ rfl rfl g!);rcases Av.1 y with rfl|y;exact uE;obtain⟨T,J⟩:=x q y;simp[Wc.tmps,Av,not_or]at J;exact Et (Et (Et T J.1) J.2.1) J.2.2.1;rintro e E h ⟨rfl,C,K,b8,Q,ax,ar⟩;show mC T _ (.exit T) E h;simp[mC,if_true,sX];refine Mb.weak (Fz.subset b8) (Mb.after (Ff d5 ?_));rw[l5];obtain⟨b4,hf⟩:=pI hF;have a1:s.length=C.length:=by rw[L,<-K.length_eq,Bs]
   have hA:=cv _ b4 C () s (hs C K) a1 h (BJ H).length ar;simp[Pt.f]at hf;rw[hf]at hA;refine VW.cons rfl (Dj (v:=.sl (BJ H).length C.length n.sz 0 C.length) (congrArg some lE) (VW.cons rfl (JC.mono (lM (F:=p.F) (vs:=[.sl (BJ H).length C.length n.sz 0 C.length,.fn (.func G) [] []]) ?_ hE hA) ?_)));show some (Sum.inl (p.F,[]++[Env.get _ p.a12,AZ.fn (.func p.G) [] []]++[]))=_;simp only[Env.putO,F8,if_true,bG];rfl;rintro _ _ ⟨rfl,rfl⟩;refine VW.nil ⟨_,_,?_,rfl,rfl,rfl⟩;have cB:(h.set (BJ H).length (.live C.length (n.E.cl s))).length=h.length:=k!
   rw[<-cB];refine Uz (by simp[BJ];rw[Q,d]) λX g' w _=>?_;have hr:TG (cx X g' (h.set (BJ H).length (.live C.length (n.E.cl s))) w) (cx X g' (h.set (BJ H).length (.live C.length (n.E.cl s))) w) (h.set (BJ H).length (.live C.length (n.E.cl s))) (BJ (H++[.buf false n s s.length 0,.dead])):=by
    refine⟨by simp[BJ];rw[Q,d],λj e' B=>?_⟩;have same:(h.set (BJ H).length (.live C.length (n.E.cl s)))[j]? =some e'->e'= .dead\/_:=λhh=>(TG.refl (cx X g' (h.set (BJ H).length (.live C.length (n.E.cl s))) w) (h.set (BJ H).length (.live C.length (n.E.cl s)))).2 j e' hh;have cA:BJ (H++[.buf false n s s.length 0,.dead])=BJ H++[FZ.live s.length (n.E.cl s),FZ.dead]:=by simp[BJ,Ds.enc]
    rw[cA]at B;rcases P1 j (BJ H).length with b3|rfl|c2;rw[CO b3]at B;exact same (by rw[Dy o!,ax j b3];exact B);rw[Ch (Aq _),Ge]at B;exact same (by rw[H8 o!,<-a1];exact B);rw[Ch o!]at B;rcases P1 (j-(BJ H).length) 1 with q|q|q;omega;rw[q]at B;injection B with B;exact .inl B.symm;rw[Cn w!]at B;cases B
   refine⟨hr.onto,λt v' S=>⟨v',?_,λc r=>r.later hr.later⟩⟩;simp[Env.putO];have S:(t,v')∈(p.out,AZ.sl (BJ H).length s.length n.sz 0 s.length)::B4 (YH p.tmps env):=by rw[d];exact S
   rcases Av.1 S with e|S;cases e;rw[a1];exact Et (Et Jp (D 0 12 _ _ rfl rfl g!)) (D 0 13 _ _ rfl rfl g!);obtain⟨T,J⟩:=x _ S;simp only[Wc.tmps,Av,not_or]at J;exact Et (Et (Cd _ S) J.2.2.2.2.2.2.2.2.2.2.2.2.1) J.2.2.2.2.2.2.2.2.2.2.2.2.2.1;exact b5.sublist a0;exact λt ht=>hN t (a0.subset ht);exact λq y S=>(x q y).2 (a0.subset S);rcases Av.1 y with rfl|y;exact Js b7;exact step.tv (ok.env q (Ul y).1);intro e he;rcases Ao.1 he with he|he;exact step.ent (ok.heap e he);simp[Av,List.not_mem_nil,or_false]at he;rcases he with rfl|rfl;rfl;trivial;show Bd.get _ u=_;have:p.out≠u:=λe=>hu (by rw[<-e];simp[Wc.tmps]);simp[Bd.get,beq_false this];exact mL hu env
 cases o;cases o;cases o;cases o;cases o;cases o
end
abbrev Sem:= ∀{R:Type},Bd->Ap->(Exit->Bd->Ap->Option R)->Option R
def lV:List (Nat×Ty)->Bd->Ap->Option (Bd×Ap)
 |[],env,H=>some (env,H)
 |(t,ty)::r,env,H=>
  match env.get t with
  | .c .nil=>lV r (env.put t (.c (.own H.length 0 ty 0))) (H++[.buf false ty [] 0 0])
  |_=>none
def pA:Nat->List Bu->Option (List Bu×List Bu)
 |0,.nil::r=>some ([],r)
 |n+1,x::r=>match pA n r with|some (a,b)=>some (x::a,b)|none=>none
 |_,_=>none
def gf:List (Nat×Nat×Ty)->Ap->Option Ap
 |[],H=>some H
 |(b,i,ty)::r,H=>
  match H[b]? with
  |some (.live false cs)=>
   match pA i cs with
   |some (x,y)=>gf r (H.set b (.live false (x++ .own H.length 0 ty 0::y))++[.buf false ty [] 0 0])
   |none=>none
  |_=>none
def ADQ(h:Hint)(env:Bd)(H:Ap):Option (Bd×Ap):=
 match lV h.virt env H with
 |some (e,H1)=>match gf h.virtC H1 with|some H2=>some (e,H2)|none=>none
 |none=>none
def ADF(h:Hint)(n:Nat)(eb:Bd)(H0:Ap)(S:List Nat)(k:Exit->Bd->Ap->Option R)(o:ti h.exits):Option R:=
 AE7 h.exits o λx sl ds=>
  match Vo sl ds eb H0 with
  |some (e,hh)=>match qh n e&&(iX n hh&&S.all λj=>OE j (Lj sl))with|true=>k x e hh|false=>none
  |none=>none
def ABA(h:Hint)(A:List Nat)(run:Sem):Sem:=λenv H k=>
 match ADQ h env H with
 |none=>none
 |some (env0,H0)=>
  match mq env0 with
  |false=>none
  |true=>(run env0 (Ma (Lj h.slots) 0 H0) λx e1 h1=>w9 h.exits x e1 h1).bind λo=>ADF h H0.length (P4 A (Lj h.slots) H0 env0) H0 (Lj h.slots) k o
def yG(h:Hint)(x:Exit)(env:Bd)(H:Ap):Option (Step (DL (dx h.slots)) (ti h.exits)):=
 match ux .normal x with
 |true=>match uj h.slots env H with|some s=>some (.next s)|none=>none
 |false=>match w9 h.exits x env H with|some o=>some (.done o)|none=>none
noncomputable def ABF(h:Hint)(A:List Nat)(run:Sem):Sem:=λenv H k=>
 match ADQ h env H with
 |none=>none
 |some (env1,H1)=>
  match HG (h.kill++jL env1 H1 h.slots) env1 H1 with
  |(env0,H0)=>
   match mq env0,Y4 env0 H0 h.slots with
   |true,some ds=>
    match wy (dx h.slots) ds with
    |some s0=>(Aj (λs=>
      match Vo h.slots (dvs (dx h.slots) s) (P4 A (Lj h.slots) H0 env0) (Ma (Lj h.slots) 0 H0)with
      |some (e,hh)=>match qh H0.length e&&iX H0.length hh with|true=>run e hh λx e1 h1=>yG h x e1 h1|false=>none
      |none=>none) s0).bind λo=>ADF h H0.length (P4 A (Lj h.slots) H0 env0) H0 (Lj h.slots) k o
    |none=>none
   |_,_=>none
def xr(c:Operand)(ra rb:Sem):Sem:=λenv H k=>
 match Is env c with
 | .c (.bl v)=>cond v (ra env H k) (rb env H k)
 |_=>none
def wQ(id:Nat)(r:Sem):Sem:=λenv H k=>r env H λe env' H'=>
 match e with
 | .exit id'=>match Nat.beq id' id with|true=>k .normal env' H'|false=>k (.exit id') env' H'
 |e=>k e env' H'
def rk(o:Option Hint)(A:List Nat)(run:Sem):Sem:=
 match o with
 |some h=>ABA h A run
 |none=>run
noncomputable def AD3(o:Option Hint)(A:List Nat)(run:Sem):Sem:=
 match o with
 |some h=>ABF h A run
 |none=>λ_ _ _=>none
def dr:Bd->Bd
 |[]=>[]
 |(t,v)::r=>match K6 v.refs with|[]=>(t,v)::dr r|_=>dr r
def xJ(P:Program)(call:Qj)(N:Nat)(me:FuncId)(f:Operand)(ps:Array Tmp)(a b:Code):Sem:=λenv H k=>
 match Is env f with
 | .c (.raw (.fn (.func G) first caps))=>
  match Enters P G with
  |true=>call (.fn G) (first.map z7++[.c (.raw (.yf H.length))]++caps.map z7) (H++[.lp false me N (dr env) ps a b .ready]) λ_ H'=>
   match H'[H.length]? with
   |some (.lp false _ _ _ _ _ _ .ready)=>k .normal env (H'.set H.length .dead)
   |some (.lp false _ _ _ _ _ _ .ret)=>k .ret env (H'.set H.length .dead)
   |some (.lp false _ _ _ _ _ _ (.exit x))=>k (.exit x) env (H'.set H.length .dead)
   |_=>none
  |false=>none
 |_=>none
noncomputable def jy(P:Program)(cs:List Pt)(call:Qj)(N:Nat)(me:FuncId)(hs:List Hint):Code->Sem
 | .skip=>λenv H k=>k .normal env H
 | .ret=>λenv H k=>k .ret env H
 | .exit id=>λenv H k=>k (.exit id) env H
 | .seq a (.seq m r)=>λenv H k=>
  match kW a m with
  |some p=>AAj P N cs p env H λenv' H'=>jy P cs call N me hs r env' H' k
  |none=>jy P cs call N me hs a env H λe env' H'=>match e with| .normal=>jy P cs call N me hs (.seq m r) env' H' k|e=>k e env' H'
 | .seq a b=>rk (oO hs a b) (QZ hs (.seq a b)) λenv H k=>jy P cs call N me hs a env H λe env' H'=>match e with| .normal=>jy P cs call N me hs b env' H' k|e=>k e env' H'
 | .cond c a b=>rk (hintOf hs (.cond c a b)) (QZ hs (.cond c a b)) (xr c (jy P cs call N me hs a) (jy P cs call N me hs b))
 | .block id b=>rk (hintOf hs (.block id b)) (QZ hs (.block id b)) (wQ id (jy P cs call N me hs b))
 | .loop b=>AD3 (hintOf hs (.loop b)) (QZ hs (.loop b)) (jy P cs call N me hs b)
 | .region id ops false=>rk (hintOf hs (.region id ops false)) (QZ hs (.region id ops false)) λenv H k=>
  match Ko N ops.toList with
  |true=>qO P cs call ops (guards ops) false ops.toList 0 env H λenv' H'=>k .normal env' H'
  |false=>none
 | .region id ops true=>λenv H k=>
  match P.follows .mixedOrders&&yT ops N (xG ops)&&Ux P ops&&mq env with
  |true=>xQ P cs call ops (IE ops.toList []) (guards ops) (match kf 3 id hs with|some _=>true|none=>false) (xG ops) [] env H λenv' H'=>k .normal env' H'
  |false=>none
 | .rangeFunc f ps a b=>xJ P call N me f ps a b
 |_=>λ_ _ _=>none
def ADg{f:List Hint}(j: ∀m r,J≠ .seq m r)(env:Bd)(H:Ap)(h:Exit→Bd→Ap→Option R):
  jy P c k N F f (.seq d J) env H h=rk (oO f d J) (QZ f (.seq d J)) (λenv H h=>jy P c k N F f d env H λe g i=>match e with| .normal=>jy P c k N F f J g i h|e=>h e g i) env H h:=by
 cases J<;>first|rfl|exact absurd rfl (j _ _)
def Pc(P:Program)(N:Nat)(A:List Nat)(c:Code)(run:Sem):Prop:= ∀{R:Type} (env:Bd) (H:Ap) (k:Exit->Bd->Ap->Option R) (r:R),PE env H->run env H k=some r->
 ∃e env' H',qy P N c (B4 env) (BJ H) (Ws e (B4 env') (BJ H'))/\k e env' H'=some r/\PE env' H'/\E9 A env H env' H'
theorem ya: ∀{l:List (Nat×Ty)} {env:Bd} {H:Ap} {a:Bd} {b:Ap},PE env H→lV l env H=some (a,b)→
  PE a b/\E9 (l.map (·.1)) env H a b/\ ∀N,Fz N H.length (B4 env) (BJ H) (B4 a) (BJ b)
 |[],env,H,a,b,ok,h=>by grind[lV,E9.refl,Fz.refl,Ce]
 |(t,ty)::r,env,H,a,b,ok,h=>by
  simp only[lV]at h;split at h;rename_i m;have st:CE H (H++[.buf false ty [] 0 0]):=CE.push H _;have g:(H++[Ds.buf false ty [] 0 0])[H.length]? =some (.buf false ty [] 0 0):=k!
  have i:PE (env.put t (.c (.own H.length 0 ty 0))) (H++[.buf false ty [] 0 0]):=by refine⟨Ze (d:=some t) (st.env ok.env) (Js (WZ g)),λe f=>?_⟩;rcases Ao.1 f with f|f;exact st.ent (ok.heap e f);rw[BC.1 f];rfl
  obtain⟨q1,q2,q3⟩:=ya i h;refine⟨q1,?_,λN=>?_⟩;have o:E9 [t] env H (env.put t (.c (.own H.length 0 ty 0))) (H++[.buf false ty [] 0 0]):=⟨st,λu n _=>lT λe=>n (by simp[e])⟩
  exact E9.trans ok.env o q2;have w:=Fz.virt (N:=N) (env:=B4 env) (H:=BJ H) (t:=t) (sz:=ty.sz) (by rw[Tb,m];rfl);have j:=(q3 N).of_le (n0:=H.length) k!;rw[fw]at j;have k:BJ (H++[.buf false ty [] 0 0])=BJ H++[.live 0 []]:=by simp[BJ,Ds.enc,TI.cl]
  rw[k]at j;rw[Ce]at w;exact w.trans j;cases h
def nO: ∀{n:Nat} {e x y:List Bu},pA n e=some (x,y)->e=x++ .nil::y
 |0,[],_,_,h=>by cases h
 |0,z::r,x,y,h=>by
  cases z<;>simp only[pA]at h<;>try (cases h;done)
  injection h with h;injection h with c d;subst c d;rfl
 |n+1,[],_,_,h=>by cases h
 |n+1,z::r,x,y,h=>by simp only[pA]at h;split at h;rename_i a b hr;injection h with h;injection h with c d;subst c d;rw[nO hr];rfl;cases h
theorem vv{env:Bd}: ∀{l:List (Nat×Nat×Ty)} {H c:Ap},PE env H→gf l H=some c→
  PE env c/\CE H c/\ ∀N,Fz N H.length (B4 env) (BJ H) (B4 env) (BJ c)
 |[],H,c,ok,h=>by grind[gf,Option.some.injEq,CE.refl,Fz.refl,B4,BJ,Ce]
 |(b,i,ty)::r,H,c,ok,h=>by
  simp only[gf]at h;split at h;rename_i E v;split at h;rename_i x y B;have m:=nO B;subst m;have D:b<H.length:=q!
  have f:CE H (H++[Ds.buf false ty [] 0 0]):=CE.push H _;have a:H.set b (Ds.live false (x++Bu.own H.length 0 ty 0::y))++[Ds.buf false ty [] 0 0]=(H++[Ds.buf false ty [] 0 0]).set b (Ds.live false (x++Bu.own H.length 0 ty 0::y)):=q!
  have j:(H++[Ds.buf false ty [] 0 0])[b]? =some (Ds.live false (x++Bu.nil::y)):=q!
  have g:CE (H++[Ds.buf false ty [] 0 0]) ((H++[Ds.buf false ty [] 0 0]).set b (Ds.live false (x++Bu.own H.length 0 ty 0::y))):=CE.set j rfl λ_ _ _ _ _ e=>by cases e
  have n:(H++[Ds.buf false ty [] 0 0])[H.length]? =some (.buf false ty [] 0 0):=k!
  have t:lok H (x++Bu.nil::y):=ok.heap _ (BP v);have s: ∀e∈H++[Ds.buf false ty [] 0 0],e.ok (H++[Ds.buf false ty [] 0 0]):=λe d=>by rcases Ao.1 d with d|d;exact f.ent (ok.heap e d);rw[BC.1 d];rfl
  have u:lok (H++[Ds.buf false ty [] 0 0]) (x++Bu.own H.length 0 ty 0::y):=by have q:=Iw.1 (f.lok t);refine Iw.2 ⟨q.1,λz o=>?_⟩;rcases Av.1 o with rfl|o;exact WZ n;exact q.2 z (Cd _ o)
  rw[a]at h;have p:PE env ((H++[Ds.buf false ty [] 0 0]).set b (Ds.live false (x++Bu.own H.length 0 ty 0::y))):=⟨g.env (f.env ok.env),heap_set g s (g.lok u)⟩
  obtain⟨q1,q2,q3⟩:=vv p h;refine⟨q1,(f.trans g).trans q2,λN=>?_⟩;have k:(BJ H)[b]? =some (.live 0 (lvs (x++Bu.nil::y))):=by rw[FC,v];rfl
  have C:(lvs (x++Bu.nil::y))[(lvs x).length]? =some .nils:=by grind[Gi,HX,Bu.enc]
  have w:=Fz.virtC (N:=N) (env:=B4 env) (sz:=ty.sz) k C;have A:BJ ((H++[Ds.buf false ty [] 0 0]).set b (Ds.live false (x++Bu.own H.length 0 ty 0::y)))=(BJ H).set b (.live 0 ((lvs (x++Bu.nil::y)).set (lvs x).length (.sl (BJ H).length 0 ty.sz 0 0)))++[.live 0 []]:=by
   rw[<-a];have:(lvs (x++Bu.nil::y)).set (lvs x).length (.sl (BJ H).length 0 ty.sz 0 0)=lvs (x++Bu.own H.length 0 ty 0::y):=by grind[Gi,HX,Ce,Bu.enc]
   grind[BJ,Ds.enc,TI.cl,List.map_set]
  rw[<-A,Ce]at w;exact w.trans ((q3 N).of_le k!);cases h;cases h
theorem yQ(ok:PE f b)(h:ADQ s f b=some (L,B)):
  PE L B/\E9 (s.virt.map (·.1)) f b L B/\ ∀N,Fz N b.length (B4 f) (BJ b) (B4 L) (BJ B):=by
 unfold ADQ at h;split at h;rename_i e d n;obtain⟨a1,a2,a3⟩:=ya ok n;split at h;rename_i H m;injection h with h;injection h with k l;subst k l;obtain⟨g,i,j⟩:=vv a1 m;have o:E9 [] e d e H:=⟨i,λ_ _ _=>rfl⟩
 exact⟨g,(E9.trans ok.env a2 o).mono λt p=>q!,λN=>(a3 N).trans ((j N).of_le a2.step.len)⟩;cases h;cases h
theorem rK{A S:List Nat}{H:Ap}: ∀{env:Bd},(env.map (·.1)).Nodup-> ∀t,env.get t=Rv->(P4 A S H env).get t=Rv
 |[],_,_,_=>rfl
 |(u,v)::r,nd,t,h=>by have a:=GB.1 nd;simp only[Bd.get]at h;by_cases b:u=t;subst b;have hn: ∀p∈P4 A S H r,p.1≠u:=λp c e=>a.1 (Bh.2 ⟨p,(Qa a.2 p c).2.2,e⟩);grind[P4,Bd.get,jH];rw[beq_false b]at h;have d:=rK (A:=A) (S:=S) (H:=H) a.2 t h;grind[P4,Bd.get,beq_false]
theorem yA{h:Hint}{A B:List Nat}{env0:Bd}{e:Ap}{D:Bd}{E:Ap}(m:PE env0 e)(nd:(env0.map (·.1)).Nodup)(M:wE A (Lj h.slots) env0 e D E)
  {env1:Bd} {u:Ap} (C:PE env1 u) (st:E9 B D E env1 u) (K: ∀t,t∈B->t∈A) (J: ∀t,t∈h.tmps->t∈A) {x:Exit} {o:ti h.exits} (Q:w9 h.exits x env1 u=some o)
  {R:Type} {k:Exit->Bd->Ap->Option R} {r:R} (f:ADF h e.length (P4 A (Lj h.slots) e env0) e (Lj h.slots) k o=some r) (N:Nat):
  ∃g i,Fz N e.length (B4 env1) (BJ u) (B4 g) (BJ i)/\k x g i=some r/\PE g i/\E9 A env0 e g i:=by
 obtain⟨rfl,L,p,S,y⟩:=sK Q;have f:=sJ f;split at f;rename_i g i O;split at f;rename_i v;simp at v;have sub: ∀j,OE j (Lj (tj h.exits o).2.1)=false->OE j (Lj h.slots)=false:=λj d=>Ut λG=>q!
 obtain⟨w,W,Y,z⟩:=xi m nd M C st K L m.heap rfl (ABE e) (λ_ _ _ _ q=>q) (λj H d c=>by
  cases H with
  |dead=>grind
  |live b V=>exact .inr ⟨_,sub j d,by rw[Kg,c,EL,sub j d];rfl,rfl,.inr (.inl ⟨_,_,_,_,rfl,rfl,Dc.refl _⟩)⟩
  |buf b t l n U=>exact .inr ⟨_,sub j d,by rw[Kg,c,EL,sub j d];rfl,rfl,.inr (.inr (.inl ⟨_,_,_,_,_,_,_,rfl,rfl⟩))⟩
  |mp b k t X=>exact .inr ⟨_,sub j d,by rw[Kg,c,EL,sub j d];rfl,rfl,.inr (.inr (.inr (.inr ⟨_,_,_,_,_,rfl,rfl⟩)))⟩
  |lp ro F n env Z a b s=>exact .inr ⟨_,sub j d,by rw[Kg,c,EL,sub j d];rfl,rfl,.inr (.inr (.inr (.inl ⟨_,_,_,_,_,_,_,_,_,rfl,rfl⟩)))⟩) O v.1 v.2.1 N
 refine⟨g,i,w,f,z.ok,z.step,λt T P=>?_⟩;have I:=Ut λG=>T (J t (by refine Ao.2 (.inr (Hh.2 ⟨p,S,?_⟩));rw[<-y];exact G));rw[z.get t I];grind[uZ,Rv,rK,gw,ABC,Ut];cases f;cases f
variable {P:Program} {N:Nat}
variable {h:Sem}
theorem vJ(hr:Pc P N a d h)(n: ∀t,t∈a->t∈A)(m: ∀t,t∈s.tmps->t∈A):Pc P N A d (ABA s A h):=by
 intro R env H k r ok c;unfold ABA at c;dsimp only at c;split at c;cases c;rename_i env0 f v;split at c;cases c;rename_i hn;obtain⟨o,B,c⟩:=bnd c;obtain⟨b,x,y⟩:=yQ ok v;have nd:=YP hn;obtain⟨e,env1,z,a1,k1,g,i⟩:=hr env0 (Ma (Lj s.slots) 0 f) _ o (lK b) B;have q:wE A (Lj s.slots) env0 f env0 (Ma (Lj s.slots) 0 f):=⟨lK b,CE.refl _,Kh _ _,λ_ _=>rfl,λp u=>(Qa nd p u).1⟩
 obtain⟨j,l,w,q1,q2,q3⟩:=yA b nd q g i n m k1 c N;refine⟨e,j,l,?_,q1,q2,?_⟩;rw[rq]at a1;refine qy.weak (by rw[Ce];exact y N) (qy.after (a1.mono ?_));rintro _ _ _ ⟨rfl,rfl,rfl⟩;exact⟨_,_,by rw[Ce];exact w,rfl,rfl,rfl⟩;exact(E9.trans ok.env x q3).mono λt C=>by grind[Hint.tmps]
theorem ABG(hr:Pc P N a d h)(hB: ∀t,t∈a->t∈A)(X: ∀t,t∈s.tmps->t∈A):Pc P N A (.loop d) (ABF s A h):=by
 intro R env H k r ok g;unfold ABF at g;dsimp only at g;split at g;cases g
 ·rename_i E Hv hv;obtain⟨bl,sv,wv⟩:=yQ ok hv;obtain⟨m,sf,wf⟩:=PK (s.kill++jL E Hv s.slots) bl;generalize HG (s.kill++jL E Hv s.slots) E Hv=fz at g m sf wf;obtain⟨env0,f⟩:=fz;simp only at g m sf wf;split at g
  ·rename_i ds hn hc;split at g
   ·rename_i s0 a8;obtain⟨o,ho,g⟩:=bnd g;have nd:=YP hn;have v: ∀e∈Ma (Lj s.slots) 0 f,e.ok (Ma (Lj s.slots) 0 f):=(lK m).heap;have hC:=wo (C:=λV o=> ∀r,ADF s f.length (P4 A (Lj s.slots) f env0) f (Lj s.slots) k o=some r->
     ∃u i,Vo s.slots (dvs (dx s.slots) V) (P4 A (Lj s.slots) f env0) (Ma (Lj s.slots) 0 f)=some (u,i)/\qh f.length u=true/\iX f.length i=true/\(wE A (Lj s.slots) env0 f u i-> ∃x D G,Mc P N d (B4 u) (BJ i) (Ws x (B4 D) (BJ G))/\k x D G=some r/\PE D G/\E9 A env0 f D G)) (λV q U=>by
     split at U
     ·rename_i u i hi;split at U
      ·rename_i I;simp only[BU]at I;have body: ∀y:wE A (Lj s.slots) env0 f u i,∃e env1 J,qy P N d (B4 u) (BJ i) (Ws e (B4 env1) (BJ J))/\yG s e env1 J=some q/\PE env1 J/\E9 a u i env1 J:=λy=>hr u i _ q y.ok U;cases q with
       |next s'=>
        intro o ih r g;obtain⟨ad,ar,i1,i2,i3,i4⟩:=ih r g;refine⟨u,i,hi,I.1,I.2,λy=>?_⟩;obtain⟨e,env1,J,a1,k1,O,Q⟩:=body y;unfold yG at k1;split at k1;rename_i hx;have:=pE hx;subst this;split at k1;rename_i s1 a9;injection k1 with k1;injection k1 with k1;subst k1;have a3:=jg a9;obtain⟨w,ea,ha,z⟩:=xi (Hx:=Ma (Lj s.slots) 0 f) m nd y O Q hB a3 v (Kh _ _) (.refl _) (λ_ _ _ _ q=>pq q) (λj e' L c=>by
         cases Y:f[j]? with
         |none=>grind[Kg]
         |some W=>
          have Z:=c;rw[Kg,Y,EL,L]at c;simp only[Bl,Am]at c;subst c;cases W with
          |dead=>exact .inl rfl
          |live b cs=>exact .inr ⟨_,L,Z,rfl,.inr (.inl ⟨_,_,_,_,rfl,rfl,Dc.refl _⟩)⟩
          |buf b t l n bt=>exact .inr ⟨_,L,Z,rfl,.inr (.inr (.inl ⟨_,_,_,_,_,_,_,rfl,rfl⟩))⟩
          |mp b k t es=>exact .inr ⟨_,L,Z,rfl,.inr (.inr (.inr (.inr ⟨_,_,_,_,_,rfl,rfl⟩)))⟩
          |lp ro F n env ps B b V=>exact .inr ⟨_,L,Z,rfl,.inr (.inr (.inr (.inl ⟨_,_,_,_,_,_,_,_,_,rfl,rfl⟩)))⟩) i1 i2 i3 N
        have a4:wE A (Lj s.slots) env0 f ad ar:=⟨z.ok,z.step,by rw[z.len,Kh],z.same,λp M=>by
         obtain⟨T,b2,b3⟩:=Qa nd p M;have K:OE p.1 A=false:=by grind[eH,OE]
         rw[z.get p.1 (Ut λhm=>S9 K (X _ (by unfold Hint.tmps;simp only[List.mem_append];exact .inl (.inr hm))))];rw[gw nd p.1 (by rw[T];exact b2)];exact T⟩
        obtain⟨x,D,G,l1,l2,l3,l4⟩:=i4 a4;refine⟨x,D,G,SI (a1.awp.mono ?_),l2,l3,l4⟩;rintro _ _ _ ⟨rfl,rfl,rfl⟩;exact⟨_,_,by rw[Ce,y.len];exact w,l1⟩;cases k1;split at k1<;>grind
       |done o=>
        intro r g;refine⟨u,i,hi,I.1,I.2,λy=>?_⟩;obtain⟨e,env1,J,a1,k1,O,Q⟩:=body y;unfold yG at k1;split at k1;split at k1<;>grind;rename_i hx;split at k1;rename_i o1 a7;injection k1 with k1;injection k1 with k1;subst k1;obtain⟨D,G,w,q1,q2,q3⟩:=yA m nd y O Q hB X a7 g N;have a6:e≠ .normal:=by rintro rfl;cases hx
        refine⟨e,D,G,Mc.after (SI (a1.awp.mono ?_)),q1,q2,q3⟩;intro e1 al bz a';obtain⟨ax,a0,a2⟩:=a';subst ax a0 a2;have ao: ∃env2 H2,Fz N (BJ i).length (B4 env1) (BJ J) env2 H2/\Ws e1 (B4 D) (BJ G) e1 env2 H2:=⟨_,_,by rw[Ce,y.len];exact w,rfl,rfl,rfl⟩
        cases e1 with
        |normal=>exact(a6 rfl).elim
        |_=>exact ao
        cases k1
      cases U
     cases U) ho
    obtain⟨u,i,i1,i2,i3,i4⟩:=hC r g;have a5:=mo a8;rw[a5]at i1;have bb:PE (P4 A (Lj s.slots) f env0) (Ma (Lj s.slots) 0 f):=⟨λp M=>(lK m).env p (Qa nd p M).2.2,v⟩
    have z:=OD m hc i1 bb (by rw[Kh];exact Aq _) (λp M=>⟨p.2,(Qa nd p M).2.2,V0.refl _⟩) (λj e' L c=>by
     rw[Kg]at c;cases Y:f[j]? with
     |none=>rw[Y]at c;cases c
     |some W=>
      rw[Y,EL,L]at c;simp only[Bl,Am]at c;subst c;refine⟨W,rfl,?_⟩;cases W with
      |dead=>exact .inl rfl
      |live b cs=>exact .inr (.inl ⟨_,_,_,_,rfl,rfl,Dc.refl _⟩)
      |buf b t l n bt=>exact .inr (.inr (.inl ⟨_,_,_,_,_,_,_,rfl,rfl⟩))
      |mp b k t es=>exact .inr (.inr (.inr (.inr ⟨_,_,_,_,_,rfl,rfl⟩)))
      |lp ro F n env ps B b V=>exact .inr (.inr (.inr (.inl ⟨_,_,_,_,_,_,_,_,_,rfl,rfl⟩)))) (ADB f)
    have w:=z.weak (N:=N) (by rw[Kh];exact Aq _) (by rw[Kh];exact i2) (by rw[Kh];exact i3);rw[Kh]at w;have y:wE A (Lj s.slots) env0 f u i:=⟨z.ok,z.step,by rw[z.len,Kh],z.same,λp M=>by
     obtain⟨T,b2,b3⟩:=Qa nd p M;have K:OE p.1 A=false:=by grind[eH,OE]
     rw[z.get p.1 (Ut λhm=>S9 K (X _ (by unfold Hint.tmps;simp only[List.mem_append];exact .inl (.inr hm))))];rw[gw nd p.1 (by rw[T];exact b2)];exact T⟩
    obtain⟨x,D,G,l1,l2,l3,l4⟩:=i4 y;have w3:Fz N H.length (B4 env) (BJ H) (B4 u) (BJ i):=((wv N).trans ((wf N).of_le (by rw[Ce];exact sv.step.len))).trans (w.of_le (DH sv.step.len sf.step.len));refine⟨x,D,G,qy.weak (by rw[Ce];exact w3) l1,l2,l3,?_⟩;exact(E9.trans ok.env (E9.trans ok.env sv sf) l4).mono λt S=>by rcases Ao.1 S with S|S;rw[Db]at S;exact X t (by unfold Hint.tmps;simp only[List.mem_append];exact .inl (.inl (.inr S)));exact S
   cases g
  cases g
def AAm{A B:List Nat}{j:Sem}(l:Pc P N A d h)(m:Pc P N B J j):Pc P N (A++B) (.cond G d J) (xr G h j):=by
 intro R env H k r ok f;unfold xr at f;dsimp only at f;split at f;rename_i v n;have i:BL (B4 env) G= .bool v:=by have:=JW env G;rw[n]at this;exact this
 cases v with
 |true=>obtain⟨e,c,g,a1,q1,q2,q3⟩:=l env H k r ok f;exact⟨e,c,g,D6 (λ_ e=>by cases e) (Mb.cond i (λ_=>a1.awp) (λe=>by cases e)),q1,q2,q3.mono λt a=>Ao.2 (.inl a)⟩
 |false=>obtain⟨e,c,g,a1,q1,q2,q3⟩:=m env H k r ok f;exact⟨e,c,g,D6 (λ_ e=>by cases e) (Mb.cond i (λe=>by cases e) (λ_=>a1.awp)),q1,q2,q3.mono λt a=>Ao.2 (.inr a)⟩
 cases f
def yv{A:List Nat}(hr:Pc P N A d h):Pc P N A (.block n d) (wQ n h):=by
 intro R env H k r ok i;obtain⟨e,a,f,a1,q1,q2,q3⟩:=hr env H _ r ok i;cases e with
 |exit c=>
  simp only at q1;split at q1;rename_i b;have:=DG b;refine⟨.normal,a,f,D6 (λ_ e=>by cases e) (Mb.block (a1.awp.mono ?_)),q1,q2,q3⟩;rintro _ _ _ ⟨rfl,rfl,rfl⟩;simp only[mC,if_pos this];exact⟨rfl,rfl,rfl⟩;rename_i b;have g:c≠n:=λe=>t!
  refine⟨.exit c,a,f,D6 (λ_ e=>by cases e) (Mb.block (a1.awp.mono ?_)),q1,q2,q3⟩;rintro _ _ _ ⟨rfl,rfl,rfl⟩;simp only[mC,if_neg g];exact⟨rfl,rfl,rfl⟩
 |_=>refine⟨_,a,f,D6 (λ_ e=>by cases e) (Mb.block (a1.awp.mono ?_)),q1,q2,q3⟩;rintro _ _ _ ⟨rfl,rfl,rfl⟩;exact⟨rfl,rfl,rfl⟩
end Go.Ab
namespace Go.Ab
variable {P:Program} {N:Nat}
variable {N n z:Nat}{R y:Type}{a A:List Nat}{b B:Ap}{c:List Pt}{d J:Code}{F:FuncId}{P:Program}{f L O:Bd}{g:List AZ}{h:Sem}{i:AZ}{j:Bool}{k:Qj}{p:Ty}{q:Int}{t:List TV}{v:World}{x:Exit}{C:Wc}{G:Operand}{I:IntKind}{K:Value}
def Pc.mono(b:Pc P N A d h)(f: ∀t,t∈A->t∈a):Pc P N a d h:=λenv H k r ok g=>by obtain⟨e,c,B,q1,q2,q3,q4⟩:=b env H k r ok g;exact⟨e,c,B,q1,q2,q3,q4.mono f⟩
def pg{hs:List Hint}{A B:List Nat}(hr:Pc P N B d h)(c: ∀t,t∈B->t∈A)(b: ∀t,t∈nV hs d->t∈A):Pc P N A d (rk (hintOf hs d) A h):=by
 unfold nV at b;generalize hintOf hs d=o at b⊢;cases o with
 |none=>exact hr.mono c
 |some a=>exact vJ hr c b
def ABH{hs:List Hint}{A B:List Nat}(hr:Pc P N B d h)(c: ∀t,t∈B->t∈A)(b: ∀t,t∈nV hs (.loop d)->t∈A):Pc P N A (.loop d) (AD3 (hintOf hs (.loop d)) A h):=by
 unfold nV at b;generalize hintOf hs (.loop d)=o at b⊢;cases o with
 |none=>exact λenv H k r ok e=>by cases e
 |some a=>exact ABG hr c b
def Uu: ∀{env:Bd} {p:Nat×TV},p∈dr env->p∈env/\K6 p.2.refs=[]
 |(t,v)::r,p,h=>by simp only[dr]at h;split at h;rename_i a;rcases Av.1 h with rfl|h;exact⟨Jp,a⟩;exact⟨Cd _ (Uu h).1,(Uu h).2⟩;exact⟨Cd _ (Uu h).1,(Uu h).2⟩
theorem zh(Q:Uw P k){B:Array Tmp}:Pc P N A (.rangeFunc G B d J) (xJ P k N F G B d J):=by
 intro R env H f r ok q;unfold xJ at q;dsimp only at q;split at q;rename_i w first m hf
 split at q;rename_i Z;have Y:BL (B4 env) G= .fn (.func w) first m:=by rw[JW,hf];rfl
 have E:(Ds.lp false F N (dr env) B d J .ready).ok (H++[.lp false F N (dr env) B d J .ready]):=λp S id al t n hm=>by have:=ju hm;rw[(Uu S).2]at this;cases this
 have U:CE H (H++[.lp false F N (dr env) B d J .ready]):=CE.push H _;obtain⟨v,i,q1,q2,q3,q4,q5⟩:=Q (.fn w) _ _ _ r (λv X=>by simp only[Ao,Bh,BC]at X;rcases X with(⟨u,_,rfl⟩|rfl)|⟨u,_,rfl⟩;exact gb u;exact Js trivial;exact gb u) (PD ok.heap E) q
 have y: ∀{ro:Bool} {a n e p c O} {s:LS} {x:Exit},i[H.length]? =some (.lp ro a n e p c O s)→ro=false→(∀L:iy,L.state=s.st→L.pending=s.pend→ABn P N (B4 env) H.length (Ws x (B4 env) (BJ (i.set H.length .dead))) ((BJ i).set H.length (.lp L)))→f x env (i.set H.length .dead)=some r→
   ∃V g M,qy P N (.rangeFunc G B d J) (B4 env) (BJ H) (Ws V (B4 g) (BJ M))/\f V g M=some r/\PE g M/\E9 A env H g M:=by
  intro ro a n e p c O s x o T hq q;subst T;have K:CE i (i.set H.length .dead):=CE.set o rfl λ_ _ _ _ _ h=>by cases h
  have st:=(U.trans q5).trans K;refine⟨x,env,_,D6 (λ_ e=>by cases e) (iZ (B4 (dr env)) (λp S=>?_) Y Z ?_),q,⟨st.env ok.env,Tz K q4 trivial⟩,st,λ_ _ _=>rfl⟩;obtain⟨u,hu,rfl⟩:=Bh.1 S;exact Bh.2 ⟨u,(Uu hu).1,rfl⟩;have b:EJ P w _ _ _:=q1;have z:(first.map z7++[TV.c (.raw (.yf H.length))]++m.map z7).map TV.enc=first++[.yf (BJ H).length]++m:=by
   have W: ∀l:List AZ,(l.map z7).map TV.enc=l:=by
    intro l;rw[Mf];conv=>rhs;rw[<-bh l]
    grind[List.map_congr_left,eC]
   rw[Md,Md,W,W,Ce];rfl
  rw[z,Qb]at b;apply b.mono;rintro _ _ ⟨rfl,rfl⟩;rw[Ce];have I:BJ i=(BJ i).set H.length (.lp ⟨n,B4 e,p,c,O,s.st,s.pend⟩):=by
   have hg:(BJ i)[H.length]? =some (.lp ⟨n,B4 e,p,c,O,s.st,s.pend⟩):=by rw[FC,o];rfl
   apply H7;intro j;by_cases ad:j=H.length<;>grind
  rw[I];exact hq _ rfl rfl
 have look: ∀L:iy,H.length<i.length->((BJ i).set H.length (.lp L))[H.length]? =some (.lp L):=λL h=>by grind[List.getElem?_set_self,Ce]
 have dead: ∀L:iy,((BJ i).set H.length (.lp L)).set H.length .dead=BJ (i.set H.length .dead):=λL=>by rw[Wg,Ni];rfl
 split at q2;rename_i o;refine y o rfl (λL C D=>⟨L,look L (Gw o),by rw[C];simp[LS.st],?_⟩) q2;rw[D,dead];exact⟨rfl,rfl,rfl⟩;rename_i o;refine y o rfl (λL C D=>⟨L,look L (Gw o),by rw[C];simp[LS.st],?_⟩) q2;rw[D,dead];exact Mb.ret ⟨rfl,rfl,rfl⟩;rename_i x o;refine y o rfl (λL C D=>⟨L,look L (Gw o),by rw[C];simp[LS.st],?_⟩) q2;rw[D,dead];exact Mb.exit ⟨rfl,rfl,rfl⟩;cases q2;cases q;cases q
theorem AAl{hs:List Hint}(h:kW d J=some C): ∀t∈C.tmps,t∈QZ hs d++QZ hs J:=by obtain⟨o,v,l,q,w,n,r,x,s,y,u,z,rfl,rfl,f,g,i,j,k,_⟩:=kX h;obtain⟨_,_,_,_,_,_,l1⟩:=nh f;obtain⟨_,_,_,_,_,_,l2⟩:=ni g;obtain⟨_,_,_,_,_,_,_,_,_,_,_,_,c⟩:=nj i;obtain⟨_,_,_,_,_,_,_,_,_,_,_,_,_,_,_,a⟩:=nk j;obtain⟨_,_,_,_,_,_,_,e⟩:=nl k;intro t b;simp only[QZ,l1,l2,c,a,e,kZ,Ao];simp only[Wc.tmps]at b;grind
theorem ADf(B: ∀g∈c,g.Ok P)(z:Uw P k)(x:FuncId)(d:List Hint): ∀g:Code,Pc P N (QZ d g) g (jy P c k N x d g)/\ ∀m r,g= .seq m r->Pc P N (QZ d r) r (jy P c k N x d r):=by
 intro g;induction g with
 |skip=>exact⟨λenv H v r ok n=>⟨.normal,env,H,D6 (λ_ e=>by cases e) (Mb.skip ⟨rfl,rfl,rfl⟩),n,ok,E9.refl _ _ _⟩,λ_ _ e=>by cases e⟩
 |ret=>exact⟨λenv H v r ok n=>⟨.ret,env,H,D6 (λ_ e=>by cases e) (Mb.ret ⟨rfl,rfl,rfl⟩),n,ok,E9.refl _ _ _⟩,λ_ _ e=>by cases e⟩
 |exit id=>exact⟨λenv H v r ok n=>⟨.exit id,env,H,D6 (λ_ e=>by cases e) (Mb.exit ⟨rfl,rfl,rfl⟩),n,ok,E9.refl _ _ _⟩,λ_ _ e=>by cases e⟩
 |seq a b D s=>
  refine⟨?_,λm r e=>by injection e with K L;subst K L;exact s.1⟩;have G:Pc P N (QZ d a++QZ d b) (.seq a b) (λenv H v=>jy P c k N x d a env H λe j u=>match e with| .normal=>jy P c k N x d b j u v|e=>v e j u):=by
   intro R env H v r ok n;obtain⟨e,env1,O,a1,k1,w,S⟩:=D.1 env H _ r ok n;cases e with
   |normal=>obtain⟨L,env2,y,a2,W,F,s2⟩:=s.1 env1 O v r w k1;refine⟨L,env2,y,D6 (λ_ e=>by cases e) (Mb.seq (a1.awp.mono ?_)),W,F,E9.trans ok.env S s2⟩;rintro _ _ _ ⟨rfl,rfl,rfl⟩;exact a2.awp
   |_=>refine⟨_,env1,O,D6 (λ_ e=>by cases e) (Mb.seq (a1.awp.mono ?_)),k1,w,S.mono λt l=>Ao.2 (.inl l)⟩;rintro _ _ _ ⟨rfl,rfl,rfl⟩;exact⟨rfl,rfl,rfl⟩
  intro R env H v r ok n;by_cases hq: ∃m I,b= .seq m I;obtain⟨m,I,rfl⟩:=hq;simp only[jy]at n;split at n;rename_i p hp;obtain⟨env1,O,a1,k1,w,S⟩:=AAk B hp ok n;obtain⟨L,env2,y,a2,W,F,s2⟩:=s.2 m I rfl env1 O v r w k1;refine⟨L,env2,y,D6 (λ_ e=>by cases e) (Mb.seq (a1.mono ?_)),W,F,(E9.trans ok.env S s2).mono λt l=>?_⟩;intro e E h hx;cases e with
  |normal=>exact Mb.seq (hx.mono (by rintro _ _ _ ⟨rfl,rfl,rfl⟩;exact a2.awp))
  |_=>exact hx.elim
  show t∈(QZ d a++((QZ d m++QZ d I)++qU d m I))++qU d a (.seq m I);rcases Ao.1 l with l|l;rcases Ao.1 (AAl (hs:=d) hp t l)with h|h<;>simp[h];simp[l];exact G.mono (λt l=>Ao.2 (.inl l)) env H v r ok n;have n:jy P c k N x d (.seq a b) env H v=some r:=n;rw[ADg λm r e=>hq ⟨m,r,e⟩]at n;have T: ∀t,t∈qU d a b->t∈QZ d (.seq a b):=λt l=>Ao.2 (.inr l);have hB: ∀t,t∈QZ d a++QZ d b->t∈QZ d (.seq a b):=λt l=>Ao.2 (.inl l);unfold qU at T;generalize oO d a b=o at n T;cases o with
  |none=>exact G.mono hB env H v r ok n
  |some h=>exact vJ G hB T env H v r ok n
 |cond g a b D s=>have M:Pc P N (QZ d a++QZ d b) (.cond g a b) (xr g (jy P c k N x d a) (jy P c k N x d b)):=AAm D.1 s.1;refine⟨?_,λ_ _ e=>by cases e⟩;intro R;exact pg (hs:=d) (A:=QZ d (.cond g a b)) M (λt l=>Ao.2 (.inl l)) (λt l=>Ao.2 (.inr l))
 |block id b V=>have M:Pc P N (QZ d b) (.block id b) (wQ id (jy P c k N x d b)):=yv V.1;refine⟨?_,λ_ _ e=>by cases e⟩;intro R;exact pg (hs:=d) (A:=QZ d (.block id b)) M (λt l=>Ao.2 (.inl l)) (λt l=>Ao.2 (.inr l))
 |loop b V=>exact⟨ABH (hs:=d) (A:=QZ d (.loop b)) V.1 (λt l=>Ao.2 (.inl l)) (λt l=>Ao.2 (.inr l)),λ_ _ e=>by cases e⟩
 |region id q J=>
  refine⟨?_,λ_ _ e=>by cases e⟩;cases J with
  |false=>
   have M:Pc P N (kZ q.toList) (.region id q false) (λenv H v=>match Ko N q.toList with
    |true=>qO P c k q (guards q) false q.toList 0 env H λj u=>v .normal j u
    |false=>none):=by
    intro R env H v r ok n;dsimp only at n;split at n;rename_i C;obtain⟨j,u,X,Y,Z,r4⟩:=SS (N:=N) B z _ _ _ _ _ _ ok n;refine⟨.normal,j,u,D6 (λ_ e=>by cases e) (Ff C ?_),Y,Z,r4⟩;show VW P N q q.toList (B4 env) (BJ H) (λK y=>Exit.normal=Exit.normal/\K=B4 j/\y=BJ u);simpa using X;cases n
   intro R;exact pg (hs:=d) (A:=QZ d (.region id q false)) M (λt l=>Ao.2 (.inl l)) (λt l=>Ao.2 (.inr l))
  |true=>
   intro R env H v r ok n;simp only[jy]at n;split at n;rename_i C;simp only[BU]at C;obtain⟨j,u,X,Y,Z,r4⟩:=XU (N:=N) B z _ _ _ _ _ _ ok n;refine⟨.normal,j,u,D6 (λ_ e=>by cases e) (fy C.1.1.1 _ C.1.1.2 C.1.2 ?_ ?_),Y,Z,r4.mono λt l=>Ao.2 (.inl ?_)⟩;have:=YP C.2;rw[B4,Mf];exact this;show RA P N q (xG q) [] (B4 env) (BJ H) (λK y=>Exit.normal=Exit.normal/\K=B4 j/\y=BJ u);simpa using X;unfold qj at l;obtain⟨i,_,Q⟩:=OS.1 l;cases U:q[i]? with
   |none=>rw[U]at Q;cases Q
   |some o=>
    rw[U]at Q;refine OS.2 ⟨o,?_,Q⟩;have:q.toList[i]? =some o:=by simpa using U
    exact BP this
   cases n
 |rangeFunc f ps a b _ _=>exact⟨zh z,λ_ _ e=>by cases e⟩
 |_=>exact⟨λenv H v r ok n=>(by simp only[jy]at n;cases n),λ_ _ e=>by cases e⟩
theorem jz(f: ∀b∈c,b.Ok P)(e:Uw P k)(g:FuncId)(d:List Hint)(b:Code):Pc P N (QZ d b) b (jy P c k N g d b):=by grind[ADf]
end Go.Ab
namespace Go.Ab
def VF:Nat->List TV->Bd
 |_,[]=>[]
 |i,v::r=>(i,v)::VF (i+1) r
def jw(P:Program)(env:Bd)(H:Ap):List ResultVar->Option (List TV)
 |[]=>some []
 | .tmp t::r=>match jw P env H r with|some vs=>some (env.get t::vs)|none=>none
 | .cell a t::r=>match jw P env H r with|some vs=>loadT P H t (env.get a) λv=>some (v::vs)|none=>none
def vH:Exit->Bool
 | .normal=>true
 | .ret=>true
 |_=>false
variable {N n z:Nat}{R y:Type}{b B:Ap}{c:List Pt}{F:FuncId}{P:Program}{f L O:Bd}{g:List AZ}{i:AZ}{j:Bool}{p:Ty}{q:Int}{t:List TV}{v:World}{x:Exit}{I:IntKind}{K:Value}
def AFr(P:Program)(fn:Func)(k:TV->Ap->Option R):Exit->Bd->Ap->Option R:=λe env H=>
 match vH e with
 |true=>match jw P env H fn.results.toList with|some vs=>k (one vs) H|none=>none
 |false=>none
def vn:Bd->List Tmp->List TV->Bd
 |env,t::ts,v::vs=>vn (env.put t v) ts vs
 |env,_,_=>env
def ABt(id:Nat)(k:TV->Ap->Option R):Exit->Bd->Ap->Option R:=λe _ H=>
 match H[id]? with
 |some (.lp false F n env ps a b _)=>
  match e with
  | .normal=>k (.c (.bl true)) (H.set id (.lp false F n env ps a b .ready))
  | .ret=>k (.c (.bl false)) (H.set id (.lp false F n env ps a b .ret))
  | .exit x=>k (.c (.bl false)) (H.set id (.lp false F n env ps a b (.exit x)))
  |_=>none
 |_=>none
noncomputable def xO(P:Program)(cs:List Pt)(call:Qj)(hs:FuncId->List Hint)(id:Nat)(vs:List TV)(H:Ap){R:Type}(k:TV->Ap->Option R):Option R:=
 match H[id]? with
 |some (.lp false F n env ps a b .ready)=>
  match Nat.beq vs.length ps.size&&ps.toList.all λt=>Nat.blt t n with
  |true=>jy P cs call n F (hs F) a (vn env ps.toList vs) H λe env1 H1=>
   match e with
   | .normal=>
    match H1[id]? with
    |some (.lp false F1 n1 e1 ps1 a1 b1 .ready)=>jy P cs call n F (hs F) b env1 (H1.set id (.lp false F1 n1 e1 ps1 a1 b1 .busy)) (ABt id k)
    |_=>none
   |_=>none
  |false=>none
 |_=>none
noncomputable def fj(P:Program)(cs:List Pt)(hs:FuncId->List Hint):Nat->Qj
 |0=>λ_ _ _ _=>none
 |n+1=>λtg vs H k=>
  match tg with
  | .fn F=>
   match P.funcs[F]? with
   |some fn=>
    match fn.body with
    |some c=>match Nat.ble vs.length fn.ntmps with|true=>jy P cs (fj P cs hs n) fn.ntmps F (hs F) c (VF 0 vs) H (AFr P fn k)|false=>none
    |none=>none
   |none=>none
  | .yd id=>xO P cs (fj P cs hs n) hs id vs H k
def pe(bt:Ty):(rs:List Ty)->DL rs->bt.D->DL (rs++[bt])
 |[],_,b=>b
 |[_],y,b=>(y,b)
 |_::u::r,y,b=>(y.1,pe bt (u::r) y.2 b)
def Zg(vs:List TV):List Nat:=vs.flatMap λv=>K6 v.refs
def ACy(P:Program)(fn:Func)(rs:List Ty):Exit->Bd->Ap->Option (DL rs):=λe env H=>
 match vH e with
 |true=>
  match jw P env H fn.results.toList with
  |some vs0=>match HG (Zg vs0) env H with|(ef,hf)=>match jw P ef hf fn.results.toList with|some vs=>zP rs vs|none=>none
  |none=>none
 |false=>none
def AFp(P:Program)(fn:Func)(bt:Ty)(rs:List Ty):Exit->Bd->Ap->Option (DL (rs++[bt])):=λe env H=>
 match vH e with
 |true=>
  match jw P env H fn.results.toList with
  |some vs0=>
   match HG (Zg vs0++(match (H[0]? :Option Ds)with|some (.live _ cs)=>K6 cs|_=>[])) env H with
   |(ef,hf)=>
    match jw P ef hf fn.results.toList,(hf[0]? :Option Ds)with
    |some vs,some (.live _ cs)=>match zP rs vs,bt.all cs with|some y,some b=>some (pe bt rs y b)|_,_=>none
    |_,_=>none
  |none=>none
 |false=>none
def pb:Nat->TV->List TV->List TV
 |0,v,l=>v::l
 |n+1,v,x::l=>x::pb n v l
 |_+1,v,[]=>[v]
noncomputable def xj(P:Program)(cs:List Pt)(hs:FuncId->List Hint)(n:Nat)(F:FuncId)(ds rs:List Ty)(x:DL ds):Option (DL rs):=
 match P.funcs[F]? with
 |some fn=>
  match fn.body with
  |some c=>match Nat.ble (qb ds x).length fn.ntmps with|true=>jy P cs (fj P cs hs n) fn.ntmps F (hs F) c (VF 0 (qb ds x)) [] (ACy P fn rs)|false=>none
  |none=>none
 |none=>none
noncomputable def AAb(P:Program)(cs:List Pt)(hs:FuncId->List Hint)(n:Nat)(F:FuncId)(pos:Nat)(bt:Ty)(ds rs:List Ty)(b:bt.D)(x:DL ds):Option (DL (rs++[bt])):=
 match P.funcs[F]? with
 |some fn=>
  match fn.body with
  |some c=>
   match Nat.ble (pb pos (.c (.raw (.ptr 0 0 0))) (qb ds x)).length fn.ntmps with
   |true=>jy P cs (fj P cs hs n) fn.ntmps F (hs F) c (VF 0 (pb pos (.c (.raw (.ptr 0 0 0))) (qb ds x))) [.live false (bt.lvs b)] (AFp P fn bt rs)
   |false=>none
  |none=>none
 |none=>none
theorem Um: ∀(l:List TV) (i:Nat),B4 (VF i l)=env0 i (l.map TV.enc)
 |[],_=>rfl
 |v::r,i=>by have:=Um r (i+1);grind[B4,VF,env0]
def Wr{H:Ap}: ∀{l:List TV} {i:Nat},(∀v∈l,v.ok H)-> ∀p∈VF i l,p.2.ok H
 |[],_,_,p,a=>by cases a
 |v::r,i,h,p,a=>by simp only[VF]at a;rcases Av.1 a with rfl|a;exact h v k!;exact Wr (λw b=>h w (by simp[b])) p a
theorem iN{P:Program}{env:Bd}{H:Ap}(d: ∀p∈env,p.2.ok H)(c: ∀e∈H,e.ok H): ∀{l:List ResultVar} {b:List TV},jw P env H l=some b->R3 P (B4 env) (BJ H) l=some (b.map TV.enc)/\ ∀v∈b,v.ok H
 |[],b,h=>by simp only[jw,Am]at h;subst h;exact⟨rfl,λv g=>by cases g⟩
 | .tmp t::r,b,h=>by simp only[jw]at h;split at h;rename_i i f;obtain⟨q1,q2⟩:=iN d c f;grind[R3,jx,Tb,ma];cases h
 | .cell a t::r,b,h=>by simp only[jw]at h;split at h;rename_i i f;obtain⟨q1,q2⟩:=iN d c f;obtain⟨u,j,k,m⟩:=nZ c (ma d a) h;grind[R3,jx,Tb];cases h
def qL{H:Func}(d: ∀p∈f,p.2.ok b)(c: ∀e∈b,e.ok b)(h:jw P f b H.results.toList=some t):bY P H (B4 f) (BJ b)=some (iw (t.map TV.enc)):=by
 unfold bY;rw[(iN d c h).1];cases t with
 |nil=>rfl
 |cons v r=>
  cases r with
  |nil=>rfl
  |cons u r=>rfl
def sV: ∀(a:List Tmp) (b:List TV) (env:Bd),Qi (B4 env) a (b.map TV.enc)=B4 (vn env a b)
 |[],_,_=>rfl
 |_::_,[],_=>rfl
 |t::a,v::b,env=>by simp only[Bv,Qi,vn];rw[<-fw];exact sV a b (env.put t v)
def vo{H:Ap}: ∀(b:List Tmp) (a:List TV) (env:Bd),(∀p∈env,p.2.ok H)->(∀v∈a,v.ok H)-> ∀p∈vn env b a,p.2.ok H
 |[],_,_,h,_=>h
 |_::_,[],_,h,_=>h
 |t::b,v::a,env,h,hv=>vo b a (env.put t v) (Ze (d:=some t) h (hv v k!)) λu c=>hv u (by simp[c])
def AD4{c:Bool}{F n env ps a H}{s e:LS}(h:(Ds.lp j F n env ps a H s).ok b):(Ds.lp c F n env ps a H e).ok B:=h
theorem yN{F n env ps a H}{s s':LS}(h:b[N]? =some (.lp false F n env ps a H s)):CE b (b.set N (.lp false F n env ps a H s')):=CE.set h rfl (λ_ _ _ _ _ h=>by cases h) λ_ _ _ _ _ _ _ _ e=>q!
def wq{F n env ps a H}{s:LS}(h:b[N]? =some (.lp j F n env ps a H s)):(BJ b)[N]? =some (.lp ⟨n,B4 env,ps,a,H,s.st,s.pend⟩):=by rw[FC,h];rfl
theorem zm{P:Program}{cs:List Pt}(K: ∀c∈cs,c.Ok P){hs:FuncId→List Hint}{g:Qj}(J:Uw P g){R:Type}{id:Nat}{S:List TV}{H:Ap}{k:TV→Ap→Option R}{r:R}(hv: ∀v∈S,v.ok H)(hH: ∀e∈H,e.ok H)
  (h:xO P cs g hs id S H k=some r): ∃v d,xg P (S.map TV.enc) (BJ H) v.enc (BJ d) (.yd id)/\k v d=some r/\v.ok d/\(∀e∈d,e.ok d)/\CE H d:=by
 unfold xO at h;split at h;rename_i F n env ps a b he;split at h;rename_i hb;simp only[BU]at hb;have M: ∀p∈env,p.2.ok H:=λp hp x hx=>by
  have:=(hH _ (BP he)) p hp;cases x with
  |own i v t m=>grind
  |_=>trivial
 obtain⟨e,env1,T,a1,k1,w,s1⟩:=jz (N:=n) K J F (hs F) a _ H _ r ⟨vo ps.toList S env M hv,hH⟩ h;split at k1;split at k1;rename_i F1 n1 Y z U V s;have B:CE T _:=yN (s':=.busy) s;obtain⟨x,env2,D,a2,j,O,s2⟩:=jz (N:=n) K J F (hs F) b _ _ _ r ⟨B.env w.env,Tz B w.heap (AD4 (w.heap _ (BP s)))⟩ k1;unfold ABt at j;split at j;rename_i F2 n2 Z A W X s0 u
 have l: ∀(v:Bool) (C:LS),k (.c (.bl v)) (D.set id (.lp false F2 n2 Z A W X C))=some r→(∀L:iy,(BJ D)[id]? =some (.lp L)→L=⟨n2,B4 Z,A,W,X,s0.st,s0.pend⟩→ABu id (C6 (.bool v) (BJ (D.set id (.lp false F2 n2 Z A W X C)))) x (B4 env2) (BJ D))→
   ∃v d,xg P (S.map TV.enc) (BJ H) v.enc (BJ d) (.yd id)/\k v d=some r/\v.ok d/\(∀e∈d,e.ok d)/\CE H d:=by
  intro v C hk hq;have Q:CE D _:=yN (s':=C) u;refine⟨.c (.bl v),_,?_,hk,Js trivial,Tz Q O.heap (AD4 (O.heap _ (BP u))),((s1.step.trans B).trans s2.step).trans Q⟩;intro N o c f env0 ho I hf q;apply JC.yield ho I hf (wq he);grind[List.length,List.length_map,Array.length_toList,Nat.eq_of_beq_eq_true];simp_all;show Mb P n a (Qi (B4 env) ps.toList (c.args.toList.map (BL env0))) (BJ H) _;rw[q,sV];apply a1.awp.mono;rintro _ _ _ ⟨rfl,rfl,rfl⟩;refine⟨rfl,_,wq s,rfl,?_⟩;have e3:(BJ T).set id (.lp ⟨n1,B4 Y,z,U,V,.busy,LS.pend .ready⟩)=BJ (T.set id (.lp false F1 n1 Y z U V .busy)):=by rw[Ni];rfl
  show Mb P n b (B4 env1) ((BJ T).set id (.lp ⟨n1,B4 Y,z,U,V,.busy,LS.pend .ready⟩)) _;rw[e3];apply a2.awp.mono;rintro _ _ _ ⟨rfl,rfl,rfl⟩;exact hq _ (wq u) rfl
 split at j;refine l true .ready j λL G E=>⟨L,G,rfl,?_⟩
 subst E;rw[Ni];rfl;refine l false .ret j λL G E=>⟨L,G,rfl,?_⟩
 subst E;rw[Ni];rfl;rename_i y;refine l false (.exit y) j λL G E=>⟨L,G,rfl,?_⟩
 subst E;rw[Ni];rfl;cases j;cases j;cases k1;cases k1;cases h;cases h
theorem VD{P:Program}{j:List Pt}(b: ∀c∈j,c.Ok P){m:FuncId->List Hint}: ∀n,Uw P (fj P j m n)
 |0=>by grind[fj]
 |n+1=>by
  intro z A H k r p l h;cases z with
  |yd id=>exact zm b (VD b n) p l h
  |fn F=>
  simp only[fj]at h;split at h;rename_i fn y;split at h;rename_i c w;split at h;rename_i hn;obtain⟨e,d,f,a1,k1,a,q⟩:=jz (N:=fn.ntmps) b (VD b n) F (m F) c (VF 0 A) H _ r ⟨Wr p,l⟩ h;unfold AFr at k1;split at k1;rename_i x;split at k1;rename_i s o;refine⟨one s,f,J0 y w t! ?_,k1,th (iN a.env a.heap o).2,a.heap,q.step⟩;rw[<-Um];apply a1.awp.mono;rintro _ _ _ ⟨rfl,rfl,rfl⟩;have g: ∃v t i,bY P fn (B4 d) (BJ f)=some v/\NN (BJ H).length v (BJ f) t i/\C6 (one s).enc (BJ f) t i:=⟨_,_,_,qL a.env a.heap o,NN.refl _ _ (by rw[Ce,Ce];exact q.step.len),by rw[oL],rfl⟩
  rename_i u;cases u<;>first|exact g|cases x
  cases k1;cases k1;cases h;cases h;cases h
def Dc.tup{b a:List AZ}(h:Dc b a):V0 (.tup b) (.tup a):=by
 intro x c r;cases r with
 |tup g hr=>refine .tup (by rw[g,h.1]) λj i d f e=>?_;obtain⟨v,q1,q2⟩:=h.2 j i f;exact q2 _ _ (hr j v d q1 e)
def Rz{b:List AZ}(h:Dc g b):V0 (iw g) (iw b):=by
 match g,b,h with
 |[],[],h=>exact V0.refl _
 |[v],[w],h=>obtain⟨u,q1,q2⟩:=h.2 0 w rfl;simp at q1;subst q1;exact q2
 |v::u::r,w::x::s,h=>exact Dc.tup h
def Jy: ∀(a:List Ty) (x:DL a),∀v∈fO a x,Pure v
 |[],_,v,h=>by cases h
 |[t],x,v,h=>by simp only[fO,BC]at h;subst h;exact t.enc_pure x
 |t::u::r,x,v,h=>by simp only[fO]at h;rcases Av.1 h with rfl|h;exact t.enc_pure x.1;exact Jy (u::r) x.2 v h
def TA(h: ∀v∈g,Pure v):Pure (iw g):=by
 match g,h with
 |[],_=>rfl
 |[v],h=>exact h v k!
 |v::u::r,h=>exact(Da _ _).2 h
theorem lP{a H2:Ap}(j:H2.length<=a.length)(hr:HR a H2 [])(v:iX H2.length H2=true){d:AZ}(l:V0 i d)(k:Pure d):NN H2.length i (BJ a) d (BJ H2):=by
 refine⟨by rw[Ce];exact Aq _,λX h w c s r=>?_⟩;have q:=(HR.rel j hr (cx X h (BJ a) w)).onto;have n:=s.rel q;have m:=(l _ c r).later q.later;have e:(BJ H2++(BJ a).drop H2.length).take H2.length=BJ H2:=by grind[Ce]
 have b:H2.length<=(BJ H2++(BJ a).drop H2.length).length:=by simp[BJ]
 have g:=n.trunc b (by rw[e];exact hZ v);have f:=m.trunc b (gU k _);rw[e]at g f;exact⟨h,g,f,λ_ _=>⟨rfl,rfl,rfl⟩,λB o=>q.own B (dt (n0:=H2.length) q!)⟩
def nK{n:Nat}: ∀{a b:List Bu},Y3 n a=true->Y3 n b=true->Y3 n (a++b)=true
 |[],_,_,hb=>hb
 |x::r,b,ha,hb=>by obtain⟨c,e⟩:=rO ha;have d:=nK e hb;cases x<;>simp only[ED,Y3,BU,PF]at c⊢ <;>first|exact d|exact⟨c,d⟩
mutual
theorem Ty.lvs_clo{n:Nat}: ∀(t:Ty) (x:t.D),Y3 n (t.lvs x)=true
 | .bool,_=>rfl
 | .int _,_=>rfl
 | .str,_=>rfl
 | .list _,_=>rfl
 | .arr _ _,_=>rfl
 | .prod ts,x=>ts.lvs_clo x
theorem RJ.lvs_clo{n:Nat}: ∀(a:RJ) (x:a.D),Y3 n (a.lvs x)=true
 | .one t,x=>t.lvs_clo x
 | .cons t a,x=>nK (t.lvs_clo x.1) (a.lvs_clo x.2)
end
def iM(h: ∀v∈g,Pure v)(a:Nat->Nat):AZ.renL a g=g:=by
 rw[OF];conv=>rhs;rw[<-bh g]
 exact Me λv b=>(h v b).ren a
def pZ{ρ:Nat->Nat}: ∀{n:Nat} {v:AZ} {l:List AZ},(∀v∈l,Pure v)->AZ.renL ρ (UY n v l)=UY n (v.ren ρ) l
 |0,v,l,h=>by simp only[UY,AZ.renL,iM h]
 |n+1,v,[],h=>rfl
 |n+1,v,x::l,h=>by have b:=pZ (ρ:=ρ) (n:=n) (v:=v) (l:=l) λu a=>h u (Cd _ a);simp only[UY,AZ.renL,(h x Jp).ren,b]
def rj: ∀{n:Nat} {v u:AZ} {l:List AZ},u∈UY n v l->u=v\/u∈l
 |0,v,u,l,h=>by simpa[UY]using h
 |n+1,v,u,[],h=>by simpa[UY]using h
 |n+1,v,u,x::l,h=>by simp only[UY]at h;rcases Av.1 h with rfl|h;exact .inr k!;rcases rj h with h|h;exact .inl h;exact .inr (by simp[h])
def vF: ∀{n:Nat} {v:TV} {l:List TV},(pb n v l).map TV.enc=UY n v.enc (l.map TV.enc)
 |0,_,_=>rfl
 |n+1,_,[]=>rfl
 |n+1,v,x::l=>by simp only[pb,Bv,UY,vF]
def vG: ∀{n:Nat} {v u:TV} {l:List TV},u∈pb n v l->u=v\/u∈l
 |0,v,u,l,h=>by simpa[pb]using h
 |n+1,v,u,[],h=>by simpa[pb]using h
 |n+1,v,u,x::l,h=>by simp only[pb]at h;rcases Av.1 h with rfl|h;exact .inr k!;rcases vG h with h|h;exact .inl h;exact .inr (by simp[h])
theorem nJ{x:p.D}: ∀v∈(p.enc x).cells,Pure v:=by
 intro v a;have h:=p.enc_pure x;cases b:p.enc x with
 |agg c=>rw[b]at a h;exact((Da _ _).1 h) v a
 |_=>grind[AZ.cells]
def dw(a:Ty): ∀(c:List Ty) (y:DL c) (b:a.D),K8 a c (pe a c y b)=(y,b)
 |[],_,_=>rfl
 |[_],_,_=>rfl
 |_::u::r,y,b=>by simp only[pe,K8,dw a (u::r) y.2 b]
variable {P:Program} {cs:List Pt} {hs:FuncId->List Hint} {n:Nat} {F:FuncId} {ds rs:List Ty}
def ACz{fn:Func}{c:Ax}(j:vH x=true)(ok:PE f b)(hr:jw P f b fn.results.toList=some t)(h:NN N (iw (t.map TV.enc)) (BJ b) i c):
  AGG P fn N (C6 i c) x (B4 f) (BJ b):=by
 have d: ∃v e a,bY P fn (B4 f) (BJ b)=some v/\NN N v (BJ b) e a/\C6 i c e a:=⟨_,_,_,qL ok.env ok.heap hr,h,rfl,rfl⟩
 cases x<;>first|exact d|cases j
def xv{g:DL ds->Option (DL rs)}(d: ∀c∈cs,c.Ok P)(t: ∀x,g x=xj P cs hs n F ds rs x):(Pt.c0 F ds rs g).Ok P:=by
 intro x y a H;rw[t]at a;have key:EJ P F (fO ds x) [] (C6 (iw (fO rs y)) []):=by unfold xj at a;split at a;rename_i q s;split at a;rename_i c r;split at a;rename_i hn;obtain⟨e,o,z,a1,k1,l,B⟩:=jz (N:=q.ntmps) d (VD d n) F (hs F) c (VF 0 (qb ds x)) [] _ y ⟨Wr (gd ds x),λe i=>by cases i⟩ a;unfold ACy at k1;split at k1;rename_i i;split at k1;rename_i m u;obtain⟨f,w,p⟩:=PK (Zg m) l;simp only at k1 f w p;split at k1;rename_i C k;apply J0 s r (by rw[<-U1,Bs];exact Kl hn);rw[<-U1,<-Um];refine Mb.after (a1.awp.mono ?_);rintro _ _ _ ⟨rfl,rfl,rfl⟩;exact⟨_,_,(p _).of_le (Bi _),ACz i f k (lP (H2:=[]) (Bi _) (λj A _ h=>by cases h) rfl (Rz (VN k1)) (TA (Jy rs y)))⟩;cases k1;cases k1;cases k1;cases a;cases a;cases a
 exact EJ.frame (H:=H) [] key OU rfl rfl (λj b e h=>by cases h) (λe h=>by cases h) (λe h=>by cases h) (TA (Jy rs y)) (iM (Jy ds x) _) ((Da _ _).2 λv k=>(Jy ds x v k).all _)
theorem ACl{g:p.D->DL ds->Option (DL (rs++[p]))}(m: ∀c∈cs,c.Ok P)(T: ∀b x,g b x=AAb P cs hs n F N p ds rs b x):(Pt.c1 F N p ds rs g).Ok P:=by
 intro b x y f H id V;rw[T]at f;have key: ∃r i,y=pe p rs r i/\EJ P F (UY N (.ptr 0 0 0) (fO ds x)) [.live 0 (p.enc b).cells] (C6 (iw (fO rs r)) [.live 0 (p.enc i).cells]):=by
  unfold AAb at f;split at f;rename_i M S;split at f;rename_i c R;split at f;rename_i hn;have t:PE (VF 0 (pb N (.c (.raw (.ptr 0 0 0))) (qb ds x))) [.live false (p.lvs b)]:=by refine⟨Wr λv d=>?_,λe s=>?_⟩;rcases vG d with rfl|d;exact Js trivial;grind[gd];rw[BC.1 s];exact p.lvs_ok b
  obtain⟨e,l,G,a1,k1,u,E⟩:=jz (N:=M.ntmps) m (VD m n) F (hs F) c _ _ _ y t f;unfold AFp at k1;split at k1;rename_i s;split at k1;rename_i z W;generalize C:(Zg z++_)=ids at k1;obtain⟨k,w,A⟩:=PK ids u;generalize HG ids l G=fz at k1 k w A;obtain⟨ef,U⟩:=fz;simp only at k1 k w A;split at k1;rename_i vs Y I d O;split at k1;rename_i r i hr q;injection k1 with k1;refine⟨r,i,k1.symm,?_⟩;have J:BJ [.live false (p.lvs b)]=[.live 0 (p.enc b).cells]:=by simp only[BJ,Bv,HE,Ds.enc,p.lvs_enc]
  have K:BJ [.live false (p.lvs i)]=[.live 0 (p.enc i).cells]:=by simp only[BJ,Bv,HE,Ds.enc,p.lvs_enc]
  have L:UY N (.ptr 0 0 0) (fO ds x)=(pb N (.c (.raw (.ptr 0 0 0))) (qb ds x)).map TV.enc:=by rw[vF,U1];rfl
  rw[<-J,<-K,L];apply J0 S R (by rw[Bs];exact Kl hn);rw[<-Um];refine Mb.after (a1.awp.mono ?_);rintro _ _ _ ⟨rfl,rfl,rfl⟩;have o:1<=U.length:=DH E.step.len w.step.len;refine⟨_,_,(A _).of_le (by rw[Ce,Ce];exact E.step.len),ACz s k d ?_⟩;rw[Ce];refine lP (H2:=[.live false (p.lvs i)]) o (λj Z _ h=>?_) (by simp only[iX,p.lvs_clo,WQ]) (Rz (VN hr)) (TA (Jy rs r));match j,h with
  |0,h=>simp only[Zu,Am]at h;subst h;refine⟨_,O,.inr (.inl ⟨_,_,_,_,rfl,rfl,?_⟩)⟩;rw[p.lvs_enc];exact Fg q
  |j+1,h=>grind
  cases k1;cases k1;cases k1;cases k1;cases f;cases f;cases f
 obtain⟨r,i,rfl,key⟩:=key;rw[dw];have Q:AZ.renL (λj=>[id].getD j 0) (UY N (.ptr 0 0 0) (fO ds x))=UY N (.ptr id 0 0) (fO ds x):=by rw[pZ (Jy ds x)];rfl
 exact EJ.frame (H:=H) [id] key (GB.2 ⟨k!,OU⟩) rfl rfl (λj X e a B=>by
   match j,a,B with
   |0,a,B=>grind[List.getElem?_cons_zero,Option.some.injEq]
   |j+1,a,_=>simp at a) (λe h=>by
   rw[BC.1 h];exact(Da _ _).2 λv d=>nJ v d) (λe h=>by
   rw[BC.1 h];exact(Da _ _).2 λv d=>nJ v d) (TA (Jy rs r)) Q ((Da _ _).2 λv d=>by
   rcases rj d with rfl|d;rfl;exact(Jy ds x v d).all _)
end Go.Ab
namespace Go.Ab
def pV:List (Nat×List Hint)->FuncId->List Hint
 |[],_=>[]
 |(k,h)::r,F=>match Nat.beq k F with|true=>h|false=>pV r F
theorem CN{P:Program}: ∀c∈([]:List Pt),c.Ok P:=q!
variable {N n z:Nat}{R y:Type}{c:List Pt}{F:FuncId}{P:Program}{g:List AZ}{i:AZ}{j:Bool}{p:Ty}{q:Int}{v:World}{I:IntKind}{K:Value}
theorem A7{P:Program}{a:Pt}(h:a.Ok P)(b: ∀a∈c,a.Ok P): ∀d∈a::c,d.Ok P:=q!
def wi(a:Int):Int:=IntKind.wrap .i64 a
abbrev len{α:Type}(l:List α):Int:=(l.length:Int)
def kg{A B:Type}(f:(A->Option B)->A->Option B):Nat->A->Option B
 |0,_=>none
 |n+1,x=>f (kg f n) x
noncomputable def uz{A B:Type}(f:(A->Option B)->A->Option B)(x:A):Option B:=open Classical in if h: ∃r n,kg f n x=some r then some h.choose else none
theorem mP{f:(R->Option y)->R->Option y}{x:R}{r:y}(h:uz f x=some r): ∃n,kg f n x=some r:=by unfold uz at h;split at h<;>grind
theorem pL{f:(R->Option y)->R->Option y}{x:R}{r:y}(h:kg f n x=some r): ∃s,uz f x=some s:=by unfold uz;rw[dif_pos ⟨r,n,h⟩];grind
def ACo{P:Program}{hs:FuncId→List Hint}{n:Nat}{F:FuncId}{ds rs:List Ty}{f:(DL ds→Option (DL rs))→DL ds→Option (DL rs)}(b: ∀a∈c,a.Ok P)
  (e: ∀g x,f g x=xj P (.c0 F ds rs g::c) hs n F ds rs x):(Pt.c0 F ds rs (uz f)).Ok P:=by
 have key: ∀m,(Pt.c0 F ds rs (kg f m)).Ok P:=by
  intro m;induction m with
  |zero=>intro x y d;cases d
  |succ m i=>exact xv (cs:=.c0 F ds rs (kg f m)::c) (A7 i b) λx=>e (kg f m) x
 intro x y d;obtain⟨m,h⟩:=mP d;exact key m x y h
def AFq(P:Program)(fn:Func)(te:Ty)(rs:List Ty):Exit->Bd->Ap->Option (DL (rs++[.list te])):=λe env H=>
 match vH e with
 |true=>
  match jw P env H fn.results.toList with
  |some vs0=>
   match HG ((Zg vs0).filter λi=>!Nat.beq i 0) env H with
   |(ef,hf)=>
    match jw P ef hf fn.results.toList,(hf[0]? :Option Ds)with
    |some vs,some (.buf _ t l _ _)=>if h:(Ty.list t).beq (Ty.list te)=true then(match zP rs vs with|some y=>some (pe (.list te) rs y (Ty.cast h l))|none=>none)else none
    |_,_=>none
  |none=>none
 |false=>none
def fnC:AZ->Bool
 | .fn (.func _) [] []=>true
 |_=>false
def ub(te:Ty)(ds:List Ty)(post:List AZ)(l:List te.D)(x:DL ds):List TV:=.c (.own 0 0 te l.length)::(qb ds x++post.map λv=>.c (.raw v))
noncomputable def AAc(P:Program)(cs:List Pt)(hs:FuncId->List Hint)(n:Nat)(F:FuncId)(te:Ty)(ds rs:List Ty)(post:List AZ)(l:List te.D)(x:DL ds):Option (DL (rs++[.list te])):=
 match P.funcs[F]? with
 |some fn=>
  match fn.body with
  |some c=>
   match Nat.ble (ub te ds post l x).length fn.ntmps&&post.all fnC with
   |true=>jy P cs (fj P cs hs n) fn.ntmps F (hs F) c (VF 0 (ub te ds post l x)) [.buf false te l l.length 0] (AFq P fn te rs)
   |false=>none
  |none=>none
 |none=>none
theorem AEs(h:fnC i=true): ∃F,i= .fn (.func F) [] []:=by unfold fnC at h;grind
def AA1(h:fnC i=true):Pure i:=by obtain⟨F,rfl⟩:=AEs h;rfl
variable {P:Program} {cs:List Pt} {hs:FuncId->List Hint} {n:Nat} {F:FuncId} {ds rs:List Ty} {te:Ty} {post:List AZ}
def yu(l:List te.D)(x:DL ds):(ub te ds post l x).map TV.enc= .sl 0 l.length te.sz 0 l.length::(fO ds x++post):=by
 have e:(post.map λv=>TV.c (.raw v)).map TV.enc=post:=by
  rw[Mf];conv=>rhs;rw[<-bh post]
  exact Me λv _=>rfl
 simp only[ub,Bv,Md,U1,e];rfl
theorem iD{g:List te.D->DL ds->Option (DL (rs++[.list te]))}(t: ∀c∈cs,c.Ok P)(hg: ∀l x,g l x=AAc P cs hs n F te ds rs post l x):(Pt.c2 F te ds rs post g).Ok P:=by
 intro l x y k d H id C;rw[hg]at k;have key: ∃r m,y=pe (.list te) rs r m/\(∀v∈post,Pure v)/\EJ P F (.sl 0 l.length te.sz 0 l.length::(fO ds x++post)) [.live l.length (te.E.cl l)] (C6 (iw (fO rs r)) [.live m.length (te.E.cl m)]):=by
  unfold AAc at k;split at k;rename_i fn hf;split at k;rename_i c hb;split at k;rename_i hn;simp only[BU]at hn;have b: ∀v∈post,Pure v:=λv a=>AA1 (F3.1 hn.2 v a);have w:([Ds.buf false te l l.length 0]:Ap)[0]? =some (.buf false te l l.length 0):=rfl;have K:PE (VF 0 (ub te ds post l x)) [.buf false te l l.length 0]:=by refine⟨Wr λv a=>?_,λe B=>?_⟩;rcases Av.1 a with rfl|a;exact Js (WZ w);rcases Ao.1 a with a|a;grind[gd];obtain⟨u,_,rfl⟩:=Bh.1 a;exact Js trivial;rw[BC.1 B];exact rfl
  obtain⟨e,s,W,a1,k1,L,U⟩:=jz (N:=fn.ntmps) t (VD t n) F (hs F) c _ _ _ y K k;unfold AFq at k1;split at k1;rename_i B;split at k1;rename_i O ad;generalize T:((Zg O).filter _)=ids at k1;obtain⟨o,M,Q⟩:=PK ids L;generalize HG ids s W=fz at k1 o M Q;obtain⟨ef,hh⟩:=fz;simp only at k1 o M Q;split at k1;rename_i vs X q l1 J V a R;split at k1;rename_i z;split at k1;rename_i r hr;injection k1 with k1;have i:=Ty.beq_eq _ _ z;injection i with i;subst i;have p:(Ty.cast z l1:List q.D)=l1:=rfl;rw[p]at k1;have I:J=l1.length:=o.heap _ (BP R);refine⟨r,l1,k1.symm,b,?_⟩;have Y:BJ [.buf false q l l.length 0]=[.live l.length (q.E.cl l)]:=rfl;have Z:BJ [.buf false q l1 J V]=[.live l1.length (q.E.cl l1)]:=by rw[<-I];rfl
  rw[<-Y,<-Z,<-yu];apply J0 hf hb (by rw[Bs];exact Kl hn.1);rw[<-Um];refine Mb.after (a1.awp.mono ?_);rintro _ _ _ ⟨rfl,rfl,rfl⟩;have G:1<=hh.length:=DH U.step.len M.step.len;refine⟨_,_,(Q _).of_le (by rw[Ce,Ce];exact U.step.len),ACz B o a ?_⟩;rw[Ce];refine lP (H2:=[.buf false q l1 J V]) G (λj e' _ h=>?_) rfl (Rz (VN hr)) (TA (Jy rs r));match j,h with
  |0,h=>simp only[Zu,Am]at h;subst h;exact⟨_,R,.inr (.inr (.inl ⟨_,_,_,_,_,_,_,rfl,rfl⟩))⟩
  |j+1,h=>simp at h
  cases k1;cases k1;cases k1;cases k1;cases k1;cases k;cases k;cases k
 obtain⟨r,m,rfl,b,key⟩:=key;rw[dw]at d⊢;simp only at d⊢;rw[<-d];rw[<-d]at C key;have f: ∀v∈fO ds x++post,Pure v:=λv a=>(Ao.1 a).elim (Jy ds x v) (b v);have ha:AZ.renL (λj=>[id].getD j 0) (.sl 0 m.length te.sz 0 m.length::(fO ds x++post))= .sl id m.length te.sz 0 m.length::(fO ds x++post):=by simp only[AZ.renL,iM f];rfl
 exact EJ.frame (H:=H) [id] key (GB.2 ⟨k!,OU⟩) rfl rfl (λj X e A S=>by
   match j,A,S with
   |0,A,S=>grind[List.getElem?_cons_zero,Option.some.injEq]
   |j+1,A,_=>simp at A) (λe h=>by
   rw[BC.1 h];exact(Da _ _).2 (sw te l)) (λe h=>by
   rw[BC.1 h];exact(Da _ _).2 (sw te m)) (TA (Jy rs r)) ha ((Da _ _).2 λv a=>by
   rcases Av.1 a with rfl|a;rfl;exact(f v a).all _)
def AAr{f:(List te.D×DL ds→Option (DL (rs++[.list te])))→List te.D×DL ds→Option (DL (rs++[.list te]))}(a: ∀c∈cs,c.Ok P)
  (d: ∀g l x,f g (l,x)=AAc P (.c2 F te ds rs post (λl x=>g (l,x))::cs) hs n F te ds rs post l x):(Pt.c2 F te ds rs post λl x=>uz f (l,x)).Ok P:=by
 have key: ∀m,(Pt.c2 F te ds rs post λl x=>kg f m (l,x)).Ok P:=by
  intro m;induction m with
  |zero=>intro l x y b;cases b
  |succ m h=>exact iD (cs:=.c2 F te ds rs post (λl x=>kg f m (l,x))::cs) (A7 h a) λl x=>d (kg f m) l x
 intro l x y b;obtain⟨m,e⟩:=mP b;exact key m l x y e
end Go.Ab
namespace Go.Ab
def clW(fn:Func):Nat->String:=λi=>
 match fn.body with
 |some (.seq (.region _ a _) (.seq (.seq (.region _ b _) (.cond _ (.seq (.region _ c _) _) _)) (.seq (.region _ d _) _)))=>(((a++b++c++d)[i]?).map (·.pos)).getD default
 |_=>default
def y8(t b:TypeId)(w:Nat->String):Code:=
 .seq (.region 0 #[⟨some 2,.assign (.const (.slice none 0 0)),t,w 0, #[],none⟩] false)
  (.seq (.seq (.region 1 #[⟨some 3,.move (.tmp 0),t,w 1, #[],none⟩,⟨some 4,.binOp .eql t (.tmp 3) (.const (.slice none 0 0)) t,b,w 2, #[⟨0,.data⟩],none⟩] false)
    (.cond (.tmp 4) (.seq (.region 2 #[⟨some 2,.assign (.const (.slice none 0 0)),t,w 3, #[],none⟩] false) .ret) .skip))
   (.seq (.region 3 #[⟨some 5,.buildSlice t 0 #[],t,w 4, #[],none⟩,⟨some 6,.move (.tmp 0),t,w 5, #[],none⟩,
     ⟨some 7,.call {callee:=.builtin .append,args:= #[.tmp 5,.tmp 6],argTypes:= #[t,t]},t,w 6, #[⟨0,.data⟩,⟨1,.data⟩],none⟩,
     ⟨some 2,.assign (.tmp 7),t,w 7, #[⟨2,.data⟩,⟨2,.chain⟩,⟨0,.phase⟩,⟨1,.phase⟩,⟨2,.phase⟩],none⟩] false) .ret))
def NN.none{n0:Nat}{H:Ax}{id g sz off:Nat}(hn:n0<=H.length)(b:id<H.length)(k:0<sz):NN n0 (.sl id g sz off 0) H (.vs sz []) (H.set id .dead):=by
 refine⟨by simpa using hn,λX h w c s r=>?_⟩;obtain⟨p,t⟩:=s.kill b;refine⟨h,p,?_,λ_ _=>⟨rfl,rfl,rfl⟩,λB o=>?_⟩;cases r with
 |sl l m n q=>obtain⟨a,cap,rfl⟩:=n;exact Bp.vs (rows:=[]) (λ_ _=>undef) (Bi _) k (λj e h=>by simp at h) (λh=>(h rfl).elim) (λj e i v h=>by simp at h)
 obtain⟨i,e,l,d,m⟩:=o;rcases JB b l with⟨_,f⟩|⟨rfl,rfl⟩;exact⟨i,e,f,d,m⟩;exact(d rfl).elim
variable {N n z:Nat}{R y:Type}{c:List Pt}{F:FuncId}{P:Program}{g:List AZ}{j:Bool}{p:Ty}{q:Int}{v:World}{I:IntKind}{K:Value}
theorem AAg{P:Program}{F:FuncId}{t b:TypeId}{a:Ty}(p:(P.funcs[F]?).map (λy=>(y.body,y.ntmps,y.results))=some (some (y8 t b (((P.funcs[F]?).map clW).getD (λ_=>default))),8, #[.tmp 2]))(J:elT P t=some a)(k:du 0 a #[] []=true):(Pt.cl F a).Ok P:=by
 generalize ((P.funcs[F]?).map clW).getD (λ_=>default)=w at p;obtain⟨y,U,C⟩:=SC.1 p;injection C with R C;injection C with hn hr;intro l H V;obtain⟨e,B,x⟩:=ft J;have K:=(P7 B).1;have A: ∀env,Rw P env t 0 #[]=some (a.sz,[]):=by intro env;unfold Rw;simp only[B];refine if_pos ⟨a.sz_pos,x,rfl,rfl,Bi _,?_⟩;unfold du at k;simp only[BU]at k;exact Kl k.2
 have i: ∀Q:AZ→Ax→Prop,(l=[]→Q (.vs a.sz []) (BJ (H++[.dead])))→(∀r,l≠ []→app [] l=some r→Q (.sl H.length r.length a.sz 0 r.length) (BJ (H++[.buf false a r r.length 0])))→
   (l=[]\/ ∃r,app [] l=some r)->EJ P F [.vs a.sz (l.map a.enc)] (BJ H) Q:=by
  intro Q M N f;refine J0 U R (by rw[hn];simp) ?_;rw[hn];refine Mb.seq (Ff rfl (VW.cons rfl (Dj (v:=.nils) rfl (VW.nil (Mb.seq (Mb.seq (Ff rfl (VW.cons rfl (Dj (v:=.vs a.sz (l.map a.enc)) rfl (VW.cons rfl (pM (sz:=a.sz) (rows:=l.map a.enc) rfl K rfl λL T=>VW.nil ?_)))))))))));have o:L=true->l=[]:=λh=>by by_cases j:l=[]<;>simp_all
  have d:(BJ H++[FZ.live 0 []]).set (BJ H).length FZ.dead=BJ (H++[.dead]):=by simp_all[R8,Aq,Ge,BJ,Ds.enc]
  refine Mb.cond (b:=L) rfl (λz=>?_) (λS=>?_);refine Mb.seq (Ff rfl (VW.cons rfl (Dj (v:=.nils) rfl (VW.nil (Mb.weak (Fz.virt (t:=2) (sz:=a.sz) rfl) (Mb.ret (⟨.sl (BJ H).length 0 a.sz 0 0,.vs a.sz [],(BJ H++[FZ.live 0 []]).set (BJ H).length FZ.dead,by simp[bY,hr,R3,jx,Env.putO,Env.put,Env.get],NN.none (by simp) (by simp) a.sz_pos,?_⟩)))))));rw[d];exact M (o z);refine Mb.skip (Mb.seq (Ff rfl (VW.cons rfl (Sm (sz:=a.sz) (vs:=[]) rfl (A _) (VW.cons rfl (Dj (v:=.vs a.sz (l.map a.enc)) rfl (VW.cons rfl ?_)))))));have I:NY (BJ H++[FZ.live 0 []]) a.sz (.vs a.sz (l.map a.enc))=some (l.length,a.E.cl l):=by simp only[NY,if_true,Bs];rfl
  have s:0+l.length<=16777216:=by rcases f with rfl|⟨r,hr⟩;simp;obtain⟨N,_⟩:=kG hr;simpa using N
  refine RH (sx:=.tmp 5) (xx:=.tmp 6) (H:=BJ H++[FZ.live 0 []]) (id:=(BJ H).length) (g:=0) (g':=l.length) (n:=0) (cs:=[]) (m:=l.length) (news:=a.E.cl l) rfl B a.sz_pos x rfl (by simp) (by simp) I s (by rcases Ud l.length with q|q;exact .inr ⟨q,q⟩;exact .inl q) ?_;refine VW.cons rfl (Dj (v:=.sl (BJ H).length l.length a.sz 0 (0+l.length)) rfl (VW.nil (Mb.ret ?_)));have O:(BJ H++[FZ.live 0 []]).set (BJ H).length (.live l.length ([]++a.E.cl l))=BJ (H++[.buf false a l l.length 0]):=by simp_all[R8,Aq,Ge,BJ,Ds.enc]
  by_cases j:l=[];subst j;refine⟨.sl (BJ H).length 0 a.sz 0 0,.vs a.sz [],(BJ H++[FZ.live 0 []]).set (BJ H).length FZ.dead,by simp[bY,hr,R3,jx,Env.putO,Env.put,Env.get],?_,?_⟩;have:=NN.none (n0:=(BJ H).length) (H:=BJ H++[FZ.live 0 []]) (id:=(BJ H).length) (g:=0) (off:=0) (by simp) (by simp) a.sz_pos;have e:(BJ H++[FZ.live 0 []]).set (BJ H).length (.live ([]:List a.D).length ([]++a.E.cl []))=BJ H++[FZ.live 0 []]:=by rw[R8 _ _ (Aq _),Ge];rfl
  rw[e];exact this;rw[d];exact M rfl;rcases f with h|⟨r,c⟩;exact(j h).elim;obtain⟨_,G⟩:=kG c;have u:l=r:=by simpa using G.symm
  subst u;refine⟨.sl (BJ H).length l.length a.sz 0 l.length,_,_,by simp[bY,hr,R3,jx,Env.putO,Env.put,Env.get],NN.refl _ _ (by simp),?_⟩;grind[Ce]
 refine⟨λj=>?_,λr j hr=>?_⟩;subst j;exact i _ (λ_=>⟨rfl,rfl⟩) (λr h=>(h rfl).elim) (.inl rfl);exact i _ (λh=>(j h).elim) (λW _ c=>by rw[hr]at c;injection c with c;subst c;exact⟨rfl,rfl⟩) (.inr ⟨r,hr⟩)
abbrev i64:Ty:=.int .i64
abbrev hn(k i:Nat)(s:List Ua)(e:List (Exit×List Ua)):Hint:=⟨k,i,[],[],[],[],s,e⟩
def k0{a d:List Ty}{g:DL a→Option (DL d)}(l:List (Nat×List Hint))(b: ∀e∈c,e.Ok P)
  (f:g=λx=>xj P c (pV l) 13 F a d x:=by kernel_rfl):(Pt.c0 F a d g).Ok P:=xv b λx=>congrFun f x
def k1{P:Program}{a:Ty}{d f:List Ty}{g:a.D→DL d→Option (DL (f++[a]))}(l:List (Nat×List Hint))(e: ∀h∈c,h.Ok P)
  (i:g=λb x=>AAb P c (pV l) 13 F N a d f b x:=by kernel_rfl):(Pt.c1 F N a d f g).Ok P:=ACl e λb x=>congrFun (congrFun i b) x
noncomputable def vq{α:Type}(key:α->Int)(l:List α):Option (List α):=if(l.map key).Nodup/\l.length<=16777216 then some (l.mergeSort λa b=>decide (key a<=key b))else none
def qR{key:R->Int}{l m:List R}(hn:(l.map key).Nodup)(p:m.Perm l)(t:m.Pairwise λa b=>key a<=key b):m=l.mergeSort λa b=>decide (key a<=key b):=by
 have d:(l.mergeSort λa b=>decide (key a<=key b)).Perm l:=List.mergeSort_perm _ _;have o:(l.mergeSort λa b=>decide (key a<=key b)).Pairwise λa b=>key a<=key b:=by refine(List.pairwise_mergeSort (le:=λa b=>decide (key a<=key b)) ?_ ?_ l).imp λh=>of_decide_eq_true h;intro a b c d o;simp only[decide_eq_true_eq]at*;omega;intro a b;simp only[WT,decide_eq_true_eq];omega
 refine rE (le:=λa b=>key a<=key b) ?_ t o (p.trans d.symm);intro a b r s q1 q2;have e:key a=key b:=o!
 have f:=p.subset r;have g:=d.subset s;obtain⟨i,k⟩:=Dm f;obtain⟨j,n⟩:=Dm g;have:=(List.getElem?_inj (l:=l.map key) (i:=i) (j:=j) (by rw[Bs];exact(Kb.1 k).1) hn).1 (by simp[k,n,e]);subst this;rw[k]at n;exact BV n
theorem w64(h: -9223372036854775808<=q/\q<=9223372036854775807):IntKind.wrap .i64 q=q:=by grind[IntKind.wrap_i64]
def zU{body:y->Option (Step y R)}(I:y->Prop)(Q:R->Prop)(b:y->Nat)(i: ∀s,I s->(∃r,body s=some (.done r)/\Q r)\/ ∃a,body s=some (.next a)/\I a/\b a<b s){s:y}(h:I s): ∃r,Aj body s=some r/\Q r:=by
 have key: ∀(n:Nat) (s:y),b s<n->I s-> ∃r,Aj body s=some r/\Q r:=by
  intro n;induction n with
  |zero=>intro s j;omega
  |succ n k=>intro s j g;rcases i s g with⟨r,c,d⟩|⟨a,c,d,l⟩;exact⟨r,by rw[G5,c],d⟩;obtain⟨r,e,f⟩:=k a o! d;exact⟨r,by rw[G5,c];exact e,f⟩
 exact key (b s+1) s o! h
theorem AC8{l:List R}{x:R}(h:l[N]? =some x):ix l (N:Int)=some x:=by unfold ix;grind[Int.toNat_natCast]
def AFx{l:List R}(a:0<=q)(c:q<l.length): ∃x,ix l q=some x/\l[q.toNat]? =some x:=by
 obtain⟨n,rfl⟩:=EM a;have hn:n<l.length:=o!
 exact⟨l[n],AC8 (Au hn),by simp[hn]⟩
def AEc{l a:List R}(h:l.length+a.length<=16777216):app l a=some (l++a):=if_pos h
theorem ACU(a:Hf n R)(h:N<n):GA a (N:Int)=some (a ⟨N,h⟩):=by grind[GA]
def As(o:Option R)(Q:R->Prop):Prop:= ∃r,o=some r/\Q r
section
variable {α β γ:Type}
theorem AB{r:α}{Q:α->Prop}(h:Q r):As (.some r) Q:=⟨r,rfl,h⟩
def As.mono{o:Option α}{P Q:α->Prop}(h:As o P)(c: ∀r,P r->Q r):As o Q:=by obtain⟨r,a,b⟩:=h;exact⟨r,a,c r b⟩
theorem AA{o:Option α}{k:α->Option β}{P:α->Prop}{Q:β->Prop}(h:As o P)(b: ∀r,P r->As (k r) Q):As (Option.bind o k) Q:=by obtain⟨r,rfl,a⟩:=h;exact b r a
theorem Dx{o:Option α}{k:α->Option β}{P:α->Prop}{Q:β->Prop}(h:As o P)(b: ∀r,o= .some r->P r->As (k r) Q):As (Option.bind o k) Q:=by obtain⟨r,rfl,a⟩:=h;exact b r rfl a
def AO{o:Option α}{k:α->Option β}{P:α->Prop}{Q:β->Prop}(a: ∀r,P r->As (k r) Q)(h:As o P):As (Option.bind o k) Q:=AA h a
def AL{a b:Option α}{Q:α->Prop}(d:j=true->As a Q)(e:j=false->As b Q):As (bif j then a else b) Q:=by
 cases j with
 |true=>exact d rfl
 |false=>exact e rfl
def AC{p:Prop}{_:Decidable p}{a b:Option α}{Q:α->Prop}(c:p->As a Q)(d: ¬p->As b Q):As (bif decide p then a else b) Q:=AL (λh=>c (of_decide_eq_true h)) (λh=>d (of_decide_eq_false h))
theorem AP{a b:Option α}{Q:α->Prop}(d:j=false->As a Q)(e:j=true->As b Q):As (bif !j then a else b) Q:=by
 cases j with
 |true=>exact e rfl
 |false=>exact d rfl
theorem AQ{_:BEq R} [LawfulBEq R] {x y:R}{a b:Option α}{Q:α->Prop}(c:x=y->As a Q)(d:x≠y->As b Q):As (bif x==y then a else b) Q:=AL (λh=>c (eq_of_beq h)) (λh=>d (ne_of_beq_false h))
theorem AM{_:BEq R} [LawfulBEq R] {x y:R}{a b:Option α}{Q:α->Prop}(c:x≠y->As a Q)(d:x=y->As b Q):As (bif x !=y then a else b) Q:=by refine AL (λh=>c λe=>?_) (λh=>d ?_);subst e;simp at h;simpa using h
def Bf{a b:Option α}{k:α->Option β}{Q:β->Prop}(h:As (bif j then Option.bind a k else Option.bind b k) Q):As (Option.bind (bif j then a else b) k) Q:=by cases j<;>exact h
theorem A9{a:α}{k:α->Option β}{Q:β->Prop}(h:As (k a) Q):As (Option.bind (.some a) k) Q:=h
def Bw{o:Option α}{f:α->Option β}{k:β->Option γ}{Q:γ->Prop}(h:As (Option.bind o λv=>Option.bind (f v) k) Q):As (Option.bind (Option.bind o f) k) Q:=by cases o<;>exact h
def Ml{f:α->Option γ}{g:β->Option γ}{o:α ⊕ β}{k:γ->Option R}{Q:R->Prop}(h:As (Sum.elim (λu=>Option.bind (f u) k) (λu=>Option.bind (g u) k) o) Q):As (Option.bind (Sum.elim f g o) k) Q:=by cases o<;>exact h
theorem BK{u:α}{f:α->Option γ}{g:β->Option γ}{Q:γ->Prop}(h:As (f u) Q):As (Sum.elim f g (.inl u)) Q:=h
theorem A4{u:β}{f:α->Option γ}{g:β->Option γ}{Q:γ->Prop}(h:As (g u) Q):As (Sum.elim f g (.inr u)) Q:=h
theorem A6{f:α->Option γ}{g:β->Option γ}{o:α ⊕ β}{Q:γ->Prop}(a: ∀u,o= .inl u->As (f u) Q)(b: ∀u,o= .inr u->As (g u) Q):As (Sum.elim f g o) Q:=by
 cases o with
 |inl u=>exact a u rfl
 |inr u=>exact b u rfl
def As.get{o:Option α}{Q:α->Prop}{r:α}(h:As o Q)(e:o= .some r):Q r:=by obtain⟨s,a,b⟩:=h;rw[e]at a;injection a with a;rw[a];exact b
def As.and{o:Option α}{P Q:α->Prop}(h:As o P)(g:As o Q):As o λr=>P r/\Q r:=by obtain⟨r,a,b⟩:=h;exact⟨r,a,b,g.get a⟩
theorem AI{l:List α}{i:Int}(b:0<=i:=by omega)(c:i<l.length:=by omega):As (ix l i) λx=>l[i.toNat]? = .some x/\x∈l:=by obtain⟨x,d,a⟩:=AFx b c;exact⟨x,d,a,BP a⟩
theorem Ac{l xs:List α}(h:l.length+xs.length<=16777216):As (app l xs) λr=>r=l++xs/\r.length=l.length+xs.length/\r.length<=16777216:=⟨_,AEc h,rfl,k!,w!⟩
theorem CA{a b:BY}(h:a.length+b.length<=9223372036854775807):As (sapp a b) λr=>r=a++b/\r.length=a.length+b.length:=by refine⟨a++b,?_,rfl,k!⟩;unfold Go.Ab.sapp;rw[if_pos h]
theorem CQ{s:BY}{lo hi:Int}(a:0<=lo:=by omega)(b:lo<=hi:=by omega)(c:hi<=s.length:=by omega):As (RF s lo hi) λr=>r=(s.drop lo.toNat).take (hi.toNat-lo.toNat)/\(r.length:Int)=hi-lo:=by refine⟨_,if_pos ⟨a,b,c⟩,rfl,?_⟩;rw[BR,FJ];omega
theorem Bb{s:List α}{lo hi:Int}(a:0<=lo:=by omega)(b:lo<=hi:=by omega)(c:hi<=s.length:=by omega):As (X8 s lo hi) λr=>r=(s.drop lo.toNat).take (hi.toNat-lo.toNat)/\(r.length:Int)=hi-lo:=by refine⟨_,if_pos ⟨a,b,c⟩,rfl,?_⟩;rw[BR,FJ];omega
def Qd{s:BY}{i:Int}(a:0<=i)(c:i<s.length):As (six s i) λb=>0<=b/\b<256:=by
 obtain⟨n,rfl⟩:=EM a;have hn:n<s.length:=o!
 refine⟨(s[n].toNat:Int),?_,o!,?_⟩;unfold Go.Ab.six;simp[hn];have:=s[n].toNat_lt;omega
def CM{a:Hf n α}(b:0<=q)(c:q<n):As (GA a q) λx=>x=a ⟨q.toNat,o!⟩:=by obtain⟨k,rfl⟩:=EM b;exact⟨_,ACU a o!,rfl⟩
theorem u5{z:α}(a:0<=q)(b:q<=16777216):As (mk z q q) λr=>r=List.replicate q.toNat z/\(r.length:Int)=q:=by refine⟨List.replicate q.toNat z,?_,rfl,w!⟩;unfold Go.Ab.mk;rw[if_pos ⟨a,Ae _,b⟩]
def AV{body:y→Option (Step y R)}(I:y→Prop)(b:y→Nat){Q:R→Prop}{s:y}(c:I s)
  (f: ∀s,I s->As (body s) λst=>match st with| .next a=>I a/\b a<b s| .done r=>Q r):As (Aj body s) Q:=by
 obtain⟨r,d,e⟩:=zU (body:=body) I Q b (λs g=>by
  obtain⟨st,q1,q2⟩:=f s g;cases st with
  |next a=>exact .inr ⟨a,q1,q2.1,q2.2⟩
  |done r=>exact .inl ⟨r,q1,q2⟩) c
 exact⟨r,d,e⟩
theorem XY(n:Int):IntKind.wrap .u64 n=n%18446744073709551616:=by simp[IntKind.wrap,IntKind.bits,IntKind.signed]
theorem sY(n:Int):IntKind.wrap .u32 n=n%4294967296:=by simp[IntKind.wrap,IntKind.bits,IntKind.signed]
def AFU(n:Int):IntKind.wrap .u8 n=n%256:=by simp[IntKind.wrap,IntKind.bits,IntKind.signed]
def Y7{Q:α->Prop}(h:False):As .none Q:=h.elim
theorem Aa{x:Int}(h: -9223372036854775808<=x/\x<=9223372036854775807:=by omega):wi x=x:=w64 h
theorem l!{P:Prop}(h:P:=by (try dsimp[len]at*);(try first|omega|assumption|grind[Aa])):P:=h
theorem i!{P:Prop}(h:P:=by simp only[len];omega):P:=h
theorem x!{P:Prop}(h:P:=by (repeat' with_reducible first|intro a|apply AC|apply AP|(apply BK;try dsimp only)|apply AM|apply AQ|(apply A9;try dsimp only)|apply AL|(apply A4;try dsimp only)|(apply A6<;>(intro u a;try subst a))|(refine AO ?_ (N1 ?_);intro r hr)|apply Bf|(apply AA (BS);intro r hr)|(apply AA (II);intro r hr)|(refine AO ?_ (ZA ?_);intro r hr)|(refine AO ?_ (Vj ?_);intro r hr)|(apply AA (Rj);intro r hr)|(refine AO ?_ (Xu ?_);intro r hr)|(refine AO ?_ (Xq ?_);intro r hr)|(refine AO ?_ (Vg ?_);intro r hr)|(apply AA (dU);intro r hr)|apply Ml|(apply AA (EF);intro r hr)|apply AB|apply Bw|(refine AO ?_ (Mt ?_);intro r hr)|apply Y7|(refine AO ?_ (F7 ?_ ?_);intro r hr)|(refine AO ?_ (bK ?_);intro r hr)|(refine AO ?_ (W5 ?_);intro r hr)|(refine AO ?_ (Hp ?_);intro r hr)|(refine AO ?_ (QD ?_);intro r hr)|(rw[w _ _ rfl rfl];apply A9;dsimp only)|(refine AO ?_ (Ht ?_);intro r hr)|(apply AA (Do);intro r hr)|(apply AA (Nv);intro r hr)|(apply AA (kz);intro r hr)|(refine AO ?_ (DU ?_);intro r hr)|(refine AO ?_ (NM ?_ ?_);intro r hr)|(refine AO ?_ (E4 ?_);intro r hr)|(apply AA (GD);intro r hr)|(refine AO ?_ (Jd ?_);intro r hr)|(refine AO ?_ (XE ?_);intro r hr)|(apply AA (FV);intro r hr)|(refine AO ?_ (ZB ?_);intro r hr)|(refine AO ?_ (Cj ?_);intro r hr)|(refine AO ?_ (VJ ?_);intro r hr)|(refine AO ?_ (To ?_);intro r hr)|(refine AO ?_ (Rq ?_);intro r hr)|(refine AO ?_ (Qt ?_);intro r hr)|(apply AA (Ly);intro r hr)|(apply AA (Tm);intro r hr)|(refine AO ?_ (Om ?_);intro r hr)|(refine AO ?_ (WI ?_);intro r hr)|(refine AO ?_ (Ww ?_);intro r hr)|(apply AA (bF);intro r hr)|(refine AO ?_ (Xt ?_);intro r hr)|(apply AA (aw);intro r hr)|(refine AO ?_ (fB ?_);intro r hr)|(apply AA (Gr);intro r hr)|(apply AA (k9);intro r hr)|(refine AO ?_ (XB ?_);intro r hr)|(apply AA (F5);intro r hr)|(apply AA (JX);intro r hr)|(refine AO ?_ (QE ?_);intro r hr)|(refine AO ?_ (XC ?_);intro r hr)|(refine AO ?_ (XA ?_);intro r hr)|(refine AO ?_ (XF ?_);intro r hr)|(refine AO ?_ (VL ?_ ?_);intro r hr)|(refine AO ?_ (WE ?_);intro r hr)|(refine AO ?_ (Xr ?_);intro r hr)|(apply AA (mV);intro r hr)|(apply AA (CL);intro r hr)|(refine AO ?_ (PC ?_);intro r hr)|(apply AA (fF);intro r hr)|(refine AO ?_ (WC ?_);intro r hr)|(refine AO ?_ (Xx ?_);intro r hr)|(apply AA (lC);intro r hr)|(refine AO ?_ (Wv ?_);intro r hr)|(refine AO ?_ (Xv ?_);intro r hr)|(refine AO ?_ (W6 ?_);intro r hr)|(refine AO ?_ (T7 ?_);intro r hr)|(refine AO ?_ (Xz ?_);intro r hr)|(refine AO ?_ (Y9 ?_);intro r hr)|(apply AA (Rh);intro r hr)|(refine AO ?_ (W8 ?_);intro r hr)|(refine AO ?_ (Wx ?_);intro r hr)|(refine AO ?_ (ZD ?_);intro r hr)|(apply AA (ES);intro r hr)|(refine AO ?_ (QC ?_);intro r hr)|(apply AA (Bz);intro r hr)|(refine AO ?_ (AI ?_ ?_);rintro r ⟨hr,b⟩)|(refine AO ?_ (Nr ?_ ?_);intro r hr)|(apply AA (KF);intro r hr)|(refine AO ?_ (W7 ?_);intro r hr)|(refine AO ?_ (XG ?_);intro r hr)|(refine AO ?_ (GV ?_);intro r hr)|(refine AO ?_ (Qd ?_ ?_);rintro r ⟨hr,b⟩)|(refine AO ?_ (WG ?_);intro r hr)|(refine AO ?_ (au ?_);intro r hr)|(refine AO ?_ (Ac ?_);rintro r ⟨hr,b,c⟩)|(refine AO ?_ (CQ ?_ ?_ ?_);rintro r ⟨hr,b⟩)|(refine AO ?_ (WF ?_);intro r hr)|(refine AO ?_ (WD ?_);intro r hr)|(refine AO ?_ (Vi ?_);intro r hr)|(apply AA (pS);intro r hr)|(refine AO ?_ (CA ?_);rintro r ⟨hr,b⟩)|(apply AA (Np);intro r hr)|(apply AA (ZG);intro r hr)|(refine AO ?_ (CM ?_ ?_);intro r hr)|(refine AO ?_ (Wz ?_);intro r hr)|(refine AO ?_ (QG ?_);intro r hr)|(refine AO ?_ (Vh ?_);intro r hr)|(refine AO ?_ (Wy ?_);intro r hr)|(refine AO ?_ (Bb ?_ ?_ ?_);rintro r ⟨hr,b⟩)|(refine AO ?_ (XH ?_);intro r hr)|(apply AA (Qe);intro r hr));all_goals first|exact l!|grind|((try dsimp[len]at*);grind[CI,DI,Dg,Dg.last,F9,J8,O4,SB,VK,Xc,YW,j9,jO,lY,len,Aa])):P:=h
def AB8(x:Int):wi x=(x+9223372036854775808)%18446744073709551616-9223372036854775808:=by unfold wi;rw[IntKind.wrap_i64]
end
def Nb(I:y->Prop)(μ:y->Nat)(m:Nat)(Q:R->Prop):Step y R->Prop
 | .next s'=>I s'/\μ s'<m
 | .done r=>Q r
def Cv{body:y->Option (Step y R)}(I:y->Prop)(a:y->Nat){Q:R->Prop}{s:y}(b:I s)(c: ∀s,I s->As (body s) (Nb I a (a s) Q)):As (Aj body s) Q:=AV I a b λs d=>(c s d).mono λst h=>by cases st<;>exact h
theorem As.next{I:y->Prop}{a:y->Nat}{m:Nat}{Q:R->Prop}{s:y}(h:I s)(b:a s<m):As (Option.some (Step.next s)) (Nb I a m Q):=⟨_,rfl,h,b⟩
theorem As.done{I:y->Prop}{a:y->Nat}{Q:R->Prop}{r:R}(h:Q r):As (Option.some (Step.done r)) (Nb I a N Q):=⟨_,rfl,h⟩
open Go.ChangeShapes Go.WideShapes Go.ChangeAt Go.RowKit
def gh0:Gh:=⟨λ_=>none,λ_=>0,λ_=>0⟩
def cx0(w:World):Cx:=cx (λ_=>False) gh0 [] w
def AGp(w:World):Ix (λ_=>False) gh0 [] w where
 out B h:=h.elim
 live id g cs h:=by simp at h
 lp id L h:=by simp at h
 inj id id' e e' B h:=by simp at h
 bld id e h:=by simp at h
theorem w8: ¬(cx0 v).O N:=by rintro(h|⟨id,e,h,_⟩);exact h;grind
def YI{Q:AZ→Ax→Prop}(h:EJ P F g [] Q){w:World}{cargs:Array Value}(hn:cargs.size=g.length)
  (d: ∀(j:Nat) (v:AZ) (c:Value),g[j]? =some v->cargs[j]? =some c->Bp (cx0 w) v c):
  Calls P F cargs w λe b=> ∃c v x a,e= .returned c/\Q v a/\Bp x v c/\Below w.heap.size w b:=by
 refine(h (λ_=>False) gh0 w cargs (AGp w) hn d).mono ?_;rintro e b ⟨c,v,i,a,rfl,q,_,r,x⟩;refine⟨c,v,_,a,rfl,q,r,x.os,x.tape,x.output,x.size,λk l=>x.keep k l ?_⟩;rintro⟨id,e,f,_⟩;simp at f
def zw{a:Addr}{b:List Int}(A:N≤n)(D:b.length=n)(t: ∀i,i<b.length→v.cell? (a.add i)=some (.int I (b.getD i 0)))(q:a.block<v.heap.size∨N=0):
  Bp (cx0 v) (.vs 1 ((b.take N).map λw=>.int I w)) (.slice (some a) N n):=by
 have d:((b.take N).map λw=>AZ.int I w).length=N:=w!
 have g: ∀(j:Nat) (e:AZ),((b.take N).map λw=>AZ.int I w)[j]? =some e->j<N/\e= .int I (b.getD j 0):=by
  intro j e h;rw[CD]at h;cases c:(b.take N)[j]? with
  |none=>rw[c]at h;cases h
  |some w=>
   rw[c]at h;simp only[Bl,Am]at h;subst h;have p:j<(b.take N).length:=by rcases Aw j (b.take N).length with h|h;exact h;rw[Cn h]at c;cases c
   simp only[BR]at p;rw[JQ o!]at c;exact⟨o!,by rw[QX,c];rfl⟩
 have key:=Bp.vs (x:=cx0 v) (sz:=1) (rows:=(b.take N).map λw=>.int I w) (a:=some a) (cap:=n) (λj _=>.int I (b.getD j 0)) (by rw[d];exact A) o!
  (λj e h=>by rw[(g j e h).2];rfl)
  (λr=>by
   have C:0<N:=by rcases Ud N with h|h;subst h;simp at r;exact h
   have m:a.spot=none:=by have:=t 0 o!;unfold World.cell? at this;split at this;split at this;cases this;rename_i u;simp only[Addr.add,if_true]at u;simpa using u;cases this
   obtain⟨B,s,E⟩:=a;simp only at m;subst m;refine⟨B,s,rfl,w8,?_,λj e i k c l=>?_⟩;rcases q with h|h;exact h;omega;obtain⟨y,o⟩:=g j e c;subst o;have f:i=0:=by
    simp only[AZ.cells]at l;cases i with
    |zero=>rfl
    |succ i=>simp at l
   subst f;refine⟨?_,rfl⟩;have:=t j o!;simp only[Nat.mul_one,P0];show v.cell? _=_;rw[<-this];unfold Addr.add;split;rename_i z;subst z;rfl;rfl)
  (λj e i k c l=>by
   obtain⟨y,o⟩:=g j e c;subst o;have f:k= .int I (b.getD j 0):=by
    simp only[AZ.cells]at l;cases i with
    |zero=>simpa using l.symm
    |succ i=>simp at l
   subst f;exact .int _ _)
 rw[d]at key;exact key
def AB6:Bp (cx0 v) (.vs 1 []) (.slice none 0 0):=Bp.vs (x:=cx0 v) (sz:=1) (rows:=[]) (a:=none) (cap:=0) (λ_ _=>.nilFunc) k! o! (λj e h=>by simp at h) (λh=>absurd rfl h) (λj e i w h=>by simp at h)
open Go.RowKit
def nE{args:List AZ}{v:AZ}(h: ∀(w:World) (a:Array Value),a.size=args.length→(∀(j:Nat) (u:AZ) (c:Value),args[j]? =some u→a[j]? =some c→ ∃x,Bp x u c)→
  Calls P F a w λe i=> ∃c,e= .returned c/\(∀x,Bp x v c)/\Below w.heap.size w i) (H:Ax):EJ P F args H (C6 v H):=by
 intro X g w a s p hr;refine(h w a p λj u c m n=>⟨_,hr j u c m n⟩).mono ?_;rintro e i ⟨c,rfl,q,b⟩;have l:HC g H w g H i:=⟨b.os,b.tape,b.output,b.size,λB d _=>b.block B d,Aq _,λ_ _=>Aq _,λ_ _ _=>⟨rfl,rfl⟩,λB o=>.inl o,λB r hr=>⟨r,(b.block B (by rcases Aw B w.heap.size with h|h;exact h;simp[oi h]at hr)).trans hr⟩⟩
 exact⟨c,v,g,H,rfl,⟨rfl,rfl⟩,s.of_ext l (λid e k f=>.inl ⟨k,rfl,rfl,rfl,λB d=>b.block B (s.io_at k f d)⟩) s.inj,q _,l⟩
def vw{x:Cx}{s:List UInt8}(h:Bp x (.str s) K):K= .string ⟨s.toArray⟩:=by cases h;rename_i t h;subst h;rfl
def gg{x:Cx}(h:Bp x (.int I q) K):K= .int I q:=by cases h;rfl
end Go.Ab
