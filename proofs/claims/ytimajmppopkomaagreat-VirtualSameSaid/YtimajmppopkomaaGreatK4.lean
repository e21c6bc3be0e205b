/- Texts of wip, joined and shortened by wip/tools/pack.py; nothing is assumed. -/
import Derived.Test.YtimajmppopkomaaGreatK3
import Derived.KernelRfl
import Derived.ProofKit
noncomputable section
set_option linter.all false
namespace Go.Ab
def isLen:Op->Bool
 | .call {callee:=.builtin .len,.. }=>true
 | .move _=>true
 | .assign _=>true
 | .extract _ _=>true
 |_=>false
def rdT(env:BV)(op:Op):List Nat:=match isLen op with|true=>[]|false=>op.operands.toList.flatMap λx=>idT (I9 env x)
def Vk(o:Oper)(env:BV):BV:=(tmpsOf o).filterMap λt=>match env.get t with| .c (.raw .any)=>none|v=>some (t,v)
def hY(ids:List Nat):Nat->Am->List Nat
 |_,[]=>[]
 |j,.live false cs::r=>match (K4 cs).any λi=>OE i ids with|true=>j::hY ids (j+1) r|false=>hY ids (j+1) r
 |j,_::r=>hY ids (j+1) r
variable {N n z:Nat}{a A:List Nat}{R y:Type}{b B:Am}{c:List RV}{d J:Code}{F:FuncId}{P:Program}{e:List Oper}{f L O:BV}{g:List AY}{i:AY}{j:Bool}{k:Qr}{m M:TypeId}{p:Ty}{q:Int}{t:List TV}{u:Env}{v:World}{w:TV}{x:Exit}{D:D5}{E:Bk}{G:Operand}{I:IntKind}{K:Value}{o:Oper}
section
variable {R:Type}
def quD(P:Program)(env:BV)(H:Am)(op:Op)(k:TV->Option R):Option R:=
 match op with
 | .buildSlice t len parts=>nh P env t len parts k
 |op=>quT P env H op k
def AAz(P:Program)(cs:List RV)(call:Qr)(env:BV)(H:Am)(op:Op)(k:TV->Am->Option R):Option R:=
 match op with
 | .box _ x=>ACY H (I9 env x) k
 | .store t a v=>storeT P H t (I9 env a) (I9 env v) k
 | .makeSlice t x y=>eR P H t (I9 env x) (I9 env y) k
 | .buildSlice t len parts=>YU P env H t len parts k
 | .call c=>
  match ia env (.call c)with
  |some (F,vs)=>
   match Enters P F with
   |true=>
    match nv cs F with
    |some ct=>yC ct vs H k
    |none=>match isNil vs with|true=>call (.fn F) [] (H.map D5.lock) λv H'=>k v (VS H H')|false=>call (.fn F) vs H k
   |false=>none
  |none=>
   match qy env c with
   |some (id,vs)=>call (.yd id) vs H k
   |none=>
    match c with
    |{callee:=.builtin .append,args:=⟨[s,x]⟩,argTypes:=⟨[t,t']⟩}=>match Nat.beq t t' with|true=>od P H t (I9 env s) (I9 env x) k|false=>none
    |_=>none
 |_=>none
def AFq(P:Program)(cs:List RV)(call:Qr)(env:BV)(H:Am)(op:Op)(k:TV->Am->Option R):Option R:=
 match HS (jp cs env H op) env H with
 |(ef,hf)=>AAz P cs call ef hf op k
def vJ(cs:List RV)(env:BV)(H:Am)(op:Op):List Nat:=
 match jp cs env H op with
 |[]=>tf cs env H op
 |ids=>ids++hY ids 0 H++(match HS ids env H with|(ef,hf)=>tf cs ef hf op)
def AFx:Op->Bool
 | .buildSlice .. =>true
 |_=>false
def xf(P:Program)(cs:List RV)(call:Qr)(ops:Array Oper)(m:List Nat)(gs:List Nat)(ow:Bool):List Nat->List (Nat×List Nat)->BV->Am->(BV->Am->Option R)->Option R
 |[],_,env,H,k=>k env H
 |i::r,pend,env,H,k=>
  match ops[i]? with
  |none=>none
  |some o=>
   match o.op with
   | .alloc t=>
    match qz P t with
    |some z=>
     match o.guard.isNone&&r.all (λj=>O3 m i j||IG ops j)with
     |true=>xf P cs call ops m gs ow r pend (env.putO o.dst (.c (.raw (.ptr H.length 0 0)))) (H++[.live false z]) k
     |false=>none
    |none=>none
   |op=>
    match eL ops o.guard env with
    |some false=>xf P cs call ops m gs ow r ((i,[])::pend) (env.putO o.dst (.tup [])) H k
    |some true=>
     match dq op&& !(ow&&AFx op)with
     |true=>
      match (rdT env op).all λid=>Nat.blt id H.length with
      |true=>quD P env H op λv=>force (OE i gs) v λv'=>xf P cs call ops m gs ow r ((i,rdT env op)::pend) (env.putO o.dst v') H k
      |false=>none
     |false=>
      match r.all (λj=>O3 m i j||IG ops j)&&pend.all (λp=>O3 m p.1 i||p.2.all λid=>!OE id (vJ cs (Vk o env) H op))with
      |true=>AFq P cs call (Vk o env) H op λv H'=>force (OE i gs) v λv'=>xf P cs call ops m gs ow r pend (env.putO o.dst v') H' k
      |false=>none
    |none=>none
variable {P:Program} {N:Nat} {o:Oper} {env:BV} {H:Am} {r:R}
theorem yn(env:BV)(a:Op)(h:isLen a=false):zy (B6 env) a=rdT env a:=by grind[zy,rdT,Jj,AC5]
theorem je.len{env:Env}{H:Ar}{v:AY}(b:isLen o.op=true)(e:CU P env H o.op=some v):je P N o env H [] v:=by
 intro c f d _;refine Du (v:=v) ?_ ⟨rfl,rfl⟩;rw[sn (dd d),<-e];generalize o.op=op at b;unfold isLen at b;split at b;rename_i args a;obtain⟨args⟩:=args;obtain⟨a⟩:=a;match args,a with
 |[x],[t]=>rfl
 |[],_=>rfl
 |_::_::_,_=>rfl
 |[_],[]=>rfl
 |[_],_::_::_=>rfl
 rfl;rfl;rfl;cases b
theorem zu{k:TV->Option R}(ok:PJ env H)(h:quD P env H o.op k=some r): ∃v,je P N o (B6 env) (BC H) (rdT env o.op) v.enc/\k v=some r/\v.ok H:=by
 have n:quT P env H o.op k=some r-> ∃v,je P N o (B6 env) (BC H) (rdT env o.op) v.enc/\k v=some r/\v.ok H:=λh=>by
  obtain⟨v,f,i,j⟩:=so ok h;refine⟨v,?_,i,j⟩;cases z:isLen o.op with
  |true=>grind[rdT,je.len]
  |false=>rw[<-yn _ _ z];exact WD f
 generalize b:o.op=op at h;unfold quD at h;split at h;rename_i t len a;unfold nh at h;split at h;rename_i q l;split at h;rename_i e;split at h;rename_i F d;have E:=qa l e;refine⟨_,?_,h,Jz trivial⟩;rw[<-b,<-yn _ _ (by rw[b];rfl)];have y:tc P (B6 env) (BC H) o.op=some (.vs q.sz ((a.toList.map λp=>I9 env p.2).map TV.enc)):=by grind[tc]
 have A:=gY (N:=N) y;intro x m f i;have j:=A x m f i;refine JT.after (v:=.vs q.sz ((a.toList.map λp:Nat×Operand=>I9 env p.2).map TV.enc)) (H1:=m) j λX g w s=>⟨Ta.refl _ _,λc D=>ADt (kI d) (gR d) (λv C=>?_) _ _ D⟩
 unfold eU at e;simp only[BP]at e;obtain⟨u,B,rfl⟩:=B0.1 C;have:=GD.1 e.1.1.2 u B;split at this;simp_all[Xp,cD];cases this;cases h;cases h;cases h;grind
theorem zV{a:Op}{b:TV->Am->Option R}(h:AAz P c k env H a b=some r):vM P c k env H a b=some r:=by unfold AAz at h;unfold vM;split at h<;>grind
theorem sh{p:Nat×TV}(h:p∈Vk o f):p.1∈tmpsOf o/\p.2=f.get p.1/\p.2≠ .c (.raw .any):=by obtain⟨t,b,a⟩:=P0.1 h;grind
theorem ACw(h:w.enc= .any):w= .c (.raw .any):=by
 cases w with
 |c x=>
  cases x with
  |ar n t a=>cases h
  |_=>grind[TV.enc,Bk.one]
 |_=>simp[TV.enc]at h
theorem jm{t:Nat}: ∀{l:BV},(∀p∈l,p.1≠t)->BV.get l t=R8
 |[],_=>rfl
 |(k,u)::r,h=>by simp only[BV.get,beq_false (h (k,u) k!)];exact jm λp a=>h p (by simp[a])
theorem sV{j:Nat}: ∀{l:List Nat},j∈l->OE j l=true
 |i::r,h=>by simp only[OE];rcases A3.1 h with rfl|h;rw[Jy];rw[sV h];split<;>rfl
def ADw(ids:List Nat)(H:Am)(j:Nat):Prop:= ∀cs,H[j]? =some (.live false cs)-> ∀i∈K4 cs,i∉ids
theorem oF{ids:List Nat}: ∀{H:Am} {i j:Nat},i+j∉hY ids i H->ADw ids H j
 |e::r,i,0,hn,c,h=>by grind[hY,sV]
 |e::r,i,j+1,hn,c,h=>by
  have d:(i+1)+j∉hY ids (i+1) r:=by
   have f:i+1+j=i+(j+1):=o!
   rw[f];intro a;apply hn;cases e with
   |live b c=>cases b<;>grind[hY]
   |dead=>exact a
   |buf=>exact a
   |lp=>exact a
   |mp=>exact a
  exact oF (ids:=ids) d c h
def kT{id b:Nat}{t:Ty}{l:List t.D}: ∀{a:List Bk},id∉K4 a->a.map (NN id b t l)=a
 |[],_=>rfl
 |x::r,h=>by
  cases x with
  |own d c e n=>simp only[K4,A3,not_or]at h;simp only[Bo,NN,beq_false h.1,Bool.false_and,kT h.2]
  |_=>simp only[K4]at h;simp only[Bo,NN,kT h]
def de: ∀(a:List Nat) {env:BV} {H:Am} {j:Nat},j∉a->ADw a H j->(HS a env H).2[j]? =H[j]?
 |[],_,_,_,_,_=>rfl
 |id::r,env,H,j,hj,hn=>by
  simp at hj;simp only[HS];split;rename_i e h d;have m:h[j]? =H[j]? :=by
   unfold frz at d;split at d;rename_i t l n q s;simp at d;rw[<-d.2,EA (λe=>hj.1 e.symm),CO];cases p:H[j]? with
   |none=>rfl
   |some o=>
    simp;cases o with
    |live b c=>
     cases b with
     |false=>simp only[QD];rw[kT λf=>hn c p id f Jx]
     |true=>rfl
    |_=>rfl
   cases d
  rw[de r hj.2 λc g i k f=>hn c (m▸g) i k (CV _ f),m];exact de r hj.2 λc g i k f=>hn c g i k (CV _ f)
theorem ww(l: ∀f∈c,f.Ok P)(g:VJ P k){b:TV→Am→Option R}(ok:PJ env H)(h:AFq P c k (Vk o env) H o.op b=some r):
  ∃v d,Eff P N o (B6 env) (BC H) (vJ c (Vk o env) H o.op) (C4 v.enc (BC d))/\b v d=some r/\v.ok d/\(∀e∈d,e.ok d)/\CC H d:=by
 have n:PJ (Vk o env) H:=⟨λp m=>by rw[(sh m).2.1];exact nF ok.env _,ok.heap⟩
 obtain⟨s,u,A⟩:=PO (jp c (Vk o env) H o.op) n;have w:=λj=>de (jp c (Vk o env) H o.op) (env:=Vk o env) (H:=H) (j:=j);have x: ∀id,id∉vJ c (Vk o env) H o.op->id∉tf c (HS (jp c (Vk o env) H o.op) (Vk o env) H).1 (HS (jp c (Vk o env) H o.op) (Vk o env) H).2 o.op/\(HS (jp c (Vk o env) H o.op) (Vk o env) H).2[id]? =H[id]? :=by intro id a;unfold vJ at a;split at a;rename_i z;rw[z];exact⟨a,rfl⟩;simp only[An,not_or]at a;refine⟨a.2,w id a.1.1 (oF (i:=0) q!)⟩
 obtain⟨v,d,q1,q2,q3,q4,q5,q6⟩:=nt (N:=N) l g s (zV h);refine⟨v,d,⟨λt G=>JT.before (GC.subset λq y=>?_) (JT.before (A N) q1),?_⟩,q2,q3,q4,u.step.trans q5⟩;obtain⟨p,m,rfl⟩:=B0.1 y;obtain⟨D,E,F⟩:=sh m;grind[Tn,Nj,ACw];rintro _ _ ⟨rfl,rfl⟩ id a hn;rw[CW]at a;obtain⟨B,C⟩:=x id hn;rw[FX,FX,q6 id (DO a u.step.len) B,C]
def TT{j:Nat}: ∀{l:List Nat},OE j l=false->j∉l
 |i::r,h=>by simp only[OE]at h;split at h;cases h;rename_i b;intro a;rcases A3.1 a with rfl|a;rw[Jy]at b;cases b;exact TT h a
 |[],_=>λh=>by cases h
def rH(ops:Array Oper)(l:List Nat):List Nat:=l.filterMap λi=>(ops[i]?).bind (·.dst)
theorem Xm{L:List RV}(u: ∀c∈L,c.Ok P){w:Qr}(s:VJ P w){b:Array Oper}{X:List Nat}{ow:Bool}: ∀(l:List Nat) (n:List (Nat×List Nat)) (env:BV) (H:Am) (k:BV→Am→Option R) (r:R),PJ env H→
  xf P L w b (IT b.toList []) X ow l n env H k=some r->
  ∃a q,RA P N b l n (B6 env) (BC H) (λe h=>e=B6 a/\h=BC q)/\k a q=some r/\PJ a q/\FT (rH b l) env H a q
 |[],n,env,H,k,r,ok,h=>⟨env,H,⟨rfl,rfl⟩,h,ok,FT.refl _ _ _⟩
 |i::l,n,env,H,k,r,ok,h=>by
  simp only[xf]at h;simp only[RA];cases J:b[i]? with
  |none=>rw[J]at h;cases h
  |some o=>
   rw[J]at h;simp only at h⊢;have m: ∀{e:BV} {h:Am} {v:TV},FT (rH b [i]) e h (e.putO o.dst v) h:=by
    intro e h v;refine⟨CC.refl h,λt T _=>?_⟩;cases hd:o.dst with
    |none=>rfl
    |some d=>refine mI λe=>T ?_;simp[rH,J,hd,e]
   have g: ∀t,t∈rH b [i]++rH b l->t∈rH b (i::l):=by grind[rH]
   split at h;rename_i t Q;split at h;rename_i z hz;split at h;rename_i F;simp only[BP]at F;obtain⟨z1,z2⟩:=Xt hz;have I:=CC.push H (.live false z);have f:PJ (env.putO o.dst (.c (.raw (.ptr H.length 0 0)))) (H++[.live false z]):=⟨Z1 (I.env ok.env) (Jz trivial),PH ok.heap (z2 _)⟩
   obtain⟨a,q,x,C,D,E⟩:=Xm u s l _ _ _ _ _ f h;have G:o.guard=none:=by simpa using F.1
   refine⟨a,q,?_,C,D,?_⟩;rw[G];refine .inr (.inr ⟨t,lvs z,Q,z1,λj V=>?_,?_⟩);grind[List.all_eq_true];have M:B6 (env.putO o.dst (.c (.raw (.ptr H.length 0 0))))=(B6 env).putO o.dst (.ptr (BC H).length 0 0):=by rw[Wj,CW];rfl
   have W:BC (H++[.live false z])=BC H++[.live 0 (lvs z)]:=Ql _ _;rw[M,W]at x;exact x;have U:FT (rH b [i]) env H (env.putO o.dst (.c (.raw (.ptr H.length 0 0)))) (H++[.live false z]):=⟨I,(m (h:=H)).same⟩
   exact(FT.trans ok.env U E).mono g;cases h;cases h;rename_i O;have y:IG b i=false:=by
    cases Z:IG b i with
    |false=>rfl
    |true=>obtain⟨t,T⟩:=(Vi J).1 Z;exact(O t T).elim
   split at h;rename_i G;have f:PJ (env.putO o.dst (.tup [])) H:=⟨Z1 ok.env (Qo λv hv=>by cases hv),ok.heap⟩
   obtain⟨a,q,x,C,D,E⟩:=Xm u s l _ _ _ _ _ f h;have M:(B6 env).putO o.dst (.tup [])=B6 (env.putO o.dst (.tup [])):=by rw[Wj];rfl
   exact⟨a,q,ln G ⟨y,by rw[M];exact x⟩,C,D,(FT.trans ok.env m E).mono g⟩;rename_i G;split at h;split at h;rename_i S;obtain⟨v,q1,q2,q3⟩:=zu (N:=N) ok h;have B:=kN q2;have f:PJ (env.putO o.dst v) H:=⟨Z1 ok.env q3,ok.heap⟩
   obtain⟨a,q,x,C,D,E⟩:=Xm u s l _ _ _ _ _ f B;refine⟨a,q,gr G (.inl ⟨y,v.enc,rdT env o.op,q1,λid A=>?_,by rw[<-Wj];exact x⟩),C,D,(FT.trans ok.env m E).mono g⟩;have:=GD.1 S id A;rw[CW];exact Kr this;cases h;split at h;rename_i F;simp only[BP]at F;obtain⟨v,K,q1,q2,q3,q4,q5⟩:=ww (N:=N) u s ok h;have B:=kN q2;have f:PJ (env.putO o.dst v) K:=⟨Z1 (q5.env ok.env) q3,q4⟩
   obtain⟨a,q,x,C,D,E⟩:=Xm u s l _ _ _ _ _ f B;refine⟨a,q,gr G (.inr (.inl ⟨y,vJ L (Vk o env) H o.op,λj V=>by simpa using List.all_eq_true.1 F.1 j V,λp hp=>?_,C4 v.enc (BC K),q1,?_,?_⟩)),C,D,?_⟩;have:=GD.1 F.2 p hp;simp only[iN,GD,Wg]at this;exact this.imp id λY id A=>TT (Y id A);rintro _ _ ⟨rfl,rfl⟩;rw[CW,CW];exact q5.len;rintro _ _ ⟨rfl,rfl⟩;rw[<-Wj];exact x;have U:FT (rH b [i]) env H (env.putO o.dst v) K:=⟨q5,(m (h:=H)).same⟩
   exact(FT.trans ok.env U E).mono g;cases h;cases h
end
abbrev DV:=(t:Ty)×t.D
def dvs:(ts:List Ty)->DL ts->List DV
 |[],_=>[]
 |[t],x=>[⟨t,x⟩]
 |t::u::r,x=>⟨t,x.1⟩::dvs (u::r) x.2
def xI:(ts:List Ty)->List DV->Option (DL ts)
 |[],[]=>some ()
 |[t],[⟨t',x⟩]=>if h:t'.beq t=true then some (Ty.cast h x)else none
 |t::u::r,⟨t',x⟩::ds=>if h:t'.beq t=true then match xI (u::r) ds with|some y=>some (Ty.cast h x,y)|none=>none else none
 |_,_=>none
def yM{a:Ty}(h:a.beq p=true)(x:a.D):(⟨p,Ty.cast h x⟩:DV)=⟨a,x⟩:=by have e:=Ty.beq_eq a p h;subst e;rfl
theorem nM: ∀{b:List Ty} {a:List DV} {s:DL b},xI b a=some s->dvs b s=a
 |[],[],s,_=>rfl
 |[],_::_,s,h=>by cases h
 |[t],[],s,h=>by cases h
 |[t],[⟨t',x⟩],s,h=>by simp only[xI]at h;split at h;rename_i c;injection h with h;subst h;simp only[dvs,yM];cases h
 |[t],_::_::_,s,h=>by simp[xI]at h
 |t::u::r,[],s,h=>by cases h
 |t::u::r,⟨t',x⟩::a,s,h=>by simp only[xI]at h;split at h;rename_i c;split at h;rename_i y d;injection h with h;subst h;simp only[dvs,yM,nM d];cases h;cases h
inductive Part where
 |d (t:Ty)
 |o (id:Nat)
inductive Uv where
 |t (tmp:Nat) (ty:Ty)
 |g (tmp id:Nat)
 |p (id:Nat) (ps:List Part)
 |u (id:Nat) (ty:Ty)
 |x (id:Nat)
 |k (tmp:Nat) (v:AY)
 |y (id:Nat) (s:LS)
 |m (id:Nat) (k:IntKind) (t:Ty)
def AFO:AY->AY->Bool
 | .ptr a b c,.ptr a' b' c'=>Nat.beq a a'&&(Nat.beq b b'&&Nat.beq c c')
 | .nilp,.nilp=>true
 | .nilf,.nilf=>true
 |_,_=>false
def ADX{w:AY}(h:AFO i w=true):i=w:=by unfold AFO at h;split at h<;>simp_all
def Le:List Uv->List Nat
 |[]=>[]
 | .p id _::r=>id::Le r
 | .u id _::r=>id::Le r
 | .x id::r=>id::Le r
 | .y id _::r=>id::Le r
 | .m id _ _::r=>id::Le r
 |_::r=>Le r
def qp:List Uv->List Nat
 |[]=>[]
 | .t tmp _::r=>tmp::qp r
 | .g tmp _::r=>tmp::qp r
 | .k tmp _::r=>tmp::qp r
 |_::r=>qp r
def AFG:List Part->List Ty
 |[]=>[]
 | .d t::r=>t::AFG r
 |_::r=>AFG r
def eX:List Uv->List Ty
 |[]=>[]
 | .t _ t::r=>t::eX r
 | .p _ ps::r=>AFG ps++eX r
 | .u _ t::r=>.list t::eX r
 | .m _ k t::r=>.list (.prod (.cons (.int k) (.one t)))::eX r
 |_::r=>eX r
def tW(H:Am)(id:Nat):Bk->Bool
 | .own id' ver _ _=>match Nat.beq id id' with
  |true=>match H[id]? with|some (.buf _ _ _ _ ver')=>Nat.beq ver ver'|_=>false
  |false=>false
 |_=>false
def nl(H:Am)(rest:List Nat):List Part->List Bk->Option (List DV)
 |[],[]=>some []
 | .d t::ps,cs=>
  match t.mk cs with
  |some (x,cs')=>match nl H rest ps cs' with|some ds=>some (⟨t,x⟩::ds)|none=>none
  |none=>none
 | .o id::ps,c::cs=>
  match tW H id c&& !OE id rest with
  |true=>nl H rest ps cs
  |false=>none
 |_,_=>none
def ZT(env:BV)(H:Am):List Uv->Option (List DV)
 |[]=>some []
 | .t tmp ty::r=>
  match ty.data (env.get tmp),ZT env H r with
  |some x,some ds=>some (⟨ty,x⟩::ds)
  |_,_=>none
 | .g tmp id::r=>
  match env.get tmp with
  | .c x=>match tW H id x&& !OE id (Le r)with|true=>ZT env H r|false=>none
  |_=>none
 | .p id ps::r=>
  match H[id]? with
  |some (.live _ cs)=>
   match nl H (id::Le r) ps cs,ZT env H r with
   |some a,some b=>some (a++b)
   |_,_=>none
  |_=>none
 | .u id ty::r=>
  match H[id]? with
  |some (.buf _ t l _ _)=>match t.beq ty,ZT env H r with|true,some ds=>some (⟨.list t,l⟩::ds)|_,_=>none
  |_=>none
 | .x _::r=>ZT env H r
 | .k tmp v::r=>
  match env.get tmp with
  | .c (.raw w)=>match AFO v w with|true=>ZT env H r|false=>none
  |_=>none
 | .y id s::r=>
  match H[id]? with
  |some (.lp _ _ _ _ _ _ _ s')=>match s.beq s' with|true=>ZT env H r|false=>none
  |_=>none
 | .m id k t::r=>
  match H[id]? with
  |some (.mp _ k' t' es)=>match decide (k'=k)&&t'.beq t,ZT env H r with|true,some ds=>some (⟨.list (.prod (.cons (.int k') (.one t'))),es⟩::ds)|_,_=>none
  |_=>none
def qE(H:Am):List Part->List DV->Option (List Bk×List DV)
 |[],ds=>some ([],ds)
 | .d _::ps,⟨t,x⟩::ds=>match qE H ps ds with|some (cs,r)=>some (t.lvs x++cs,r)|none=>none
 | .o id::ps,ds=>
  match H[id]? with
  |some (.buf _ t _ n ver)=>match qE H ps ds with|some (cs,r)=>some (.own id ver t n::cs,r)|none=>none
  |_=>none
 |_,_=>none
def V6:List Uv->List DV->BV->Am->Option (BV×Am)
 |[],[],env,H=>some (env,H)
 | .t tmp _::r,⟨t,x⟩::ds,env,H=>V6 r ds ((tmp,t.tv x)::env) H
 | .g tmp id::r,ds,env,H=>
  match H[id]? with
  |some (.buf _ t _ n ver)=>V6 r ds ((tmp,.c (.own id ver t n))::env) H
  |_=>none
 | .p id ps::r,ds,env,H=>
  match H[id]? with
  |some (.live false _)=>match qE H ps ds with|some (cs,ds')=>V6 r ds' env (H.set id (.live false cs))|none=>none
  |_=>none
 | .u id _::r,⟨.list t,l⟩::ds,env,H=>
  match H[id]? with
  |some (.buf false t' _ _ ver)=>match t'.beq t with|true=>V6 r ds env (H.set id (.buf false t l l.length (ver+1)))|false=>none
  |_=>none
 | .x id::r,ds,env,H=>
  match H[id]? with
  |some e=>match e.ro||e.isLp with|false=>V6 r ds env (H.set id .dead)|true=>none
  |none=>none
 | .k tmp v::r,ds,env,H=>V6 r ds ((tmp,.c (.raw v))::env) H
 | .y id s::r,ds,env,H=>
  match H[id]? with
  |some (.lp false F n e ps a b _)=>V6 r ds env (H.set id (.lp false F n e ps a b s))
  |_=>none
 | .m id _ _::r,⟨.list (.prod (.cons (.int k) (.one t))),es⟩::ds,env,H=>
  match H[id]? with
  |some (.mp false k' t' _)=>match decide (k'=k)&&t'.beq t with|true=>V6 r ds env (H.set id (.mp false k t es))|false=>none
  |_=>none
 |_,_,_,_=>none
def AEW(e e':D5):Prop:=e'= .dead\/(∃b cs b' cs',e= .live b cs/\e'= .live b' cs'/\Dm (lvs cs) (lvs cs'))\/(∃b t l n v b' v',e= .buf b t l n v/\e'= .buf b' t l n v')\/(∃ro ro' F n env ps a b s,e= .lp ro F n env ps a b s/\e'= .lp ro' F n env ps a b s)\/(∃b b' k t es,e= .mp b k t es/\e'= .mp b' k t es)
def HR(H1 H:Am)(rest:List Nat):Prop:= ∀(j:Nat) (e':D5),OE j rest=false->H[j]? =some e'-> ∃e,H1[j]? =some e/\AEW e e'
theorem Qn:OE N (n::a)=false↔N≠n/\OE N a=false:=by simp[OE];by_cases h:N=n;simp_all;grind[beq_false]
theorem np(j:E.ok b)(h:tW b N E=true): ∃H t l n a,E= .own N a t n/\b[N]? =some (.buf H t l n a):=by unfold tW at h;split at h;rename_i k a t n;split at h;rename_i i;have e:=DN i;subst e;split at h;rename_i H o l m d g;have f:=DN h;subst f;have⟨rfl,rfl⟩:=(j.2 _ _ _ _ _ g).2 rfl;grind;cases h;cases h;cases h
theorem Wl{b:Bool}{l:List p.D}(h:B[N]? =some (.buf b p l n z)):Uu B N z p n:=by refine⟨?_,λro g e f c d=>?_⟩;grind;grind
theorem kH{q H:Am}{i:List Nat}(hr:HR q H i): ∀{p:List Part} {m:List Bk} {a b j:List DV} {f:List Bk},lok q m→nl q i p m=some a→qE H p (a++b)=some (f,j)→
  j=b/\Dm (lvs m) (lvs f)/\lok H f
 |[],[],a,b,j,f,ok,h,k=>by grind[nl,Option.some.injEq,qE,Prod.mk.injEq,Dm.refl,ADC]
 |[],_::_,a,b,j,f,ok,h,k=>by simp[nl]at h
 | .d t::p,m,a,b,j,f,ok,h,k=>by simp[nl]at h;split at h;rename_i x R z;split at h;rename_i S u;cases h;obtain⟨Q,rfl,M⟩:=t.mk_spec _ _ _ z;simp[aB,qE]at k;split at k;rename_i E r v;obtain⟨rfl,rfl⟩:=k;have⟨q1,q2,q3⟩:=kH hr (JD.1 ok).2 u v;refine⟨q1,?_,JD.2 ⟨t.lvs_ok x,q3⟩⟩;rw[Gx,Gx,t.lvs_enc];exact M.append q2;cases k;cases h;cases h
 | .o id::p,c::m,a,b,j,f,ok,h,k=>by
  simp[nl]at h;split at h
  ·rename_i s;simp[BP,Wg]at s;obtain⟨O,t,l,n,N,rfl,L⟩:=np (ok c k!) s.1;simp[qE]at k;split at k
   ·rename_i P t2 l2 Z D B;split at k
    ·rename_i E r v;obtain⟨rfl,rfl⟩:=k;have⟨q1,q2,q3⟩:=kH hr (λx z=>ok x (by simp[z])) h v;have⟨e,C,w⟩:=hr id _ s.2 B;rw[L]at C;cases C;rcases w with g|⟨_,_,_,_,g,_⟩|⟨_,_,_,_,_,_,_,g,K⟩|⟨_,_,_,_,_,_,_,_,_,g,_⟩|⟨_,_,_,_,_,g,_⟩;cases g;cases g;rotate_left;cases g;cases g;injection g with T F U G V;injection K with W I X J Y;subst F G I J;refine⟨q1,?_,λy A=>?_⟩;rw[Hi,Hi];exact(Dm.refl _).append q2;rcases A3.1 A with rfl|A;exact Wl B;exact q3 y A
    cases k
   cases k
  cases h
structure IS(env1:BV)(H1:Am)(slots:List Uv)(env:BV)(H:Am)(env2:BV)(H2:Am):Prop where
 get: ∀t,OE t (qp slots)=false->env2.get t=env.get t
 ok:PJ env2 H2
 env: ∀p∈env2,∃v,(p.1,v)∈env1/\WG v.enc p.2.enc
 hr:HR H1 H2 []
 step:CC H H2
 len:H2.length=H.length
 same: ∀j,OE j (Le slots)=false->H2[j]? =H[j]?
def iG{t:Nat}{v:TV}: ∀{env:BV},env.get t=v->v≠R8->(t,v)∈env
 |[],h,hv=>absurd h.symm hv
 |(k,u)::r,h,hv=>by simp only[BV.get]at h;split at h;simp_all;exact CV _ (iG h hv)
def heap_set(H:CC b (b.set N D))(ok: ∀x∈b,x.ok b)(a:D.ok (b.set N D)): ∀x∈b.set N D,x.ok (b.set N D):=by intro x c;rcases Ux c with h|rfl;exact H.ent (ok x h);exact a
theorem HR.set{a H:Am}{id:Nat}{d:D5}(h:HR a H (id::A))(g:a[id]? =some D)(hr:AEW D d):HR a (H.set id d) A:=by intro j x f c;rw[aF]at c;split at c;grind;rename_i b;exact h j x (Qn.2 ⟨λq=>b q.symm,f⟩) c
theorem LpS.set{H c:Am}{id:Nat}{i:D5}(h:LpS H c)(l:id<H.length)(p: ∀ro F n env f a b s,c[id]? =some (.lp ro F n env f a b s)-> ∃g o,i= .lp g F n env f a b o):LpS (H.set id i) c:=by intro j k ro F n env f a b s m;rw[iY]at k;by_cases d:j=id;grind;rw[EA λe=>d e.symm];exact h j k _ _ _ _ _ _ _ _ m
variable {l:List Uv}
theorem oB(id:Nat){H:Am}(c:B[id]? =some D)(g:(D.ro||D.isLp)=false)(r:B.length≤b.length)(lp:LpS B b)
  (hr:HR b B (id::Le l)) (ok:PJ L B) (q0:PJ L (B.set id .dead)->LpS (B.set id .dead) b->HR b (B.set id .dead) (Le l)->IS f b l L (B.set id .dead) O H):IS f b (.x id::l) L B O H:=by
 have a:D.isLp=false:=q!
 have st:CC B (B.set id .dead):=CC.set c q! λ_ _ _ _ _ D=>by cases D
 have d:id<b.length:=q!
 have q:=q0 ⟨st.env ok.env,heap_set st ok.heap trivial⟩ (lp.set (G9 c) λ_ _ _ _ _ _ _ _ i=>by have⟨k,m,q⟩:=lp id (G9 c) _ _ _ _ _ _ _ _ i;rw[c]at q;injection q with q;rw[q]at a;cases a) (HR.set hr (At d) (.inl rfl));refine⟨q.get,q.ok,q.env,q.hr,st.trans q.step,by simpa using q.len,λj h=>?_⟩;have:=Qn.1 h;rw[q.same j this.2,EA λD=>this.1 D.symm]
def OD{env1:BV}{G:Am}(o:PJ env1 G): ∀{slots:List Uv} {B:List DV} {env:BV} {H:Am} {env2:BV} {D:Am},ZT env1 G slots=some B→V6 slots B env H=some (env2,D)→PJ env H→
  H.length<=G.length->(∀p∈env,∃v,(p.1,v)∈env1/\WG v.enc p.2.enc)->HR G H (Le slots)->LpS H G->IS env1 G slots env H env2 D
 |[],B,env,H,env2,D,h,k,ok,hl,he,hr,lp=>by simp only[ZT,Al]at h;subst h;simp only[V6,Al,D6]at k;obtain⟨rfl,rfl⟩:=k;exact⟨λ_ _=>rfl,ok,he,hr,CC.refl _,rfl,λ_ _=>rfl⟩
 | .t tmp ty::r,B,env,H,env2,D,h,k,ok,hl,he,hr,lp=>by
  simp[ZT]at h;split at h;rename_i x d L T;cases h;simp[V6]at k;have f:PJ ((tmp,ty.tv x)::env) H:=⟨λp z=>by rcases A3.1 z with rfl|z;exact ty.tv_ok x;exact ok.env p z,ok.heap⟩
  have q:=OD o T k f hl (λp z=>by rcases A3.1 z with rfl|z;refine⟨env1.get tmp,iG rfl λe=>?_,?_⟩;rw[e]at L;cases ty<;>cases L;simp[ty.tv_enc];exact MC L;exact he p z) hr lp;refine⟨λt J=>?_,q.ok,q.env,q.hr,q.step,q.len,q.same⟩;have:=Qn.1 J;rw[q.get t this.2];simp[BV.get,beq_false λe=>this.1 e.symm];cases h
 | .g tmp id::r,B,env,H,env2,D,h,k,ok,hl,he,hr,lp=>by
  simp[ZT]at h;split at h
  ·rename_i x L;split at h
   ·rename_i I;simp[BP,Wg]at I;have Z:x.ok G:=nF o.env tmp x (by rw[L];simp[TV.refs]);obtain⟨b1,t,l,n,ad,rfl,C⟩:=np Z I.1;simp[V6]at k;split at k
    ·rename_i b2 R l2 n2 V h2;have⟨e,U,Y⟩:=hr id _ I.2 h2;rw[C]at U;cases U;rcases Y with i|⟨_,_,_,_,i,_⟩|⟨_,_,_,_,_,_,_,i,h1⟩|⟨_,_,_,_,_,_,_,_,_,i,_⟩|⟨_,_,_,_,_,i,_⟩;cases i;cases i;rotate_left;cases i;cases i;injection i with e1 e2 e3 e4 e5;injection h1 with f1 f2 f3 f4 f5;subst e2 e4 f2 f4;have f:PJ ((tmp,.c (.own id V R n2))::env) H:=⟨λp z=>by rcases A3.1 z with rfl|z;exact Jz (Wl h2);exact ok.env p z,ok.heap⟩
     have q:=OD o h k f hl (λp z=>by rcases A3.1 z with rfl|z;exact⟨_,iG L (λe=>by cases e),WG.refl _⟩;exact he p z) hr lp;refine⟨λt J=>?_,q.ok,q.env,q.hr,q.step,q.len,q.same⟩;have:=Qn.1 J;rw[q.get t this.2];simp[BV.get,beq_false λe=>this.1 e.symm]
    cases k
   cases h
  cases h
 | .p id Q::r,B,env,H,env2,D,h,k,ok,hl,he,hr,lp=>by
  simp[ZT]at h;split at h;rename_i b cs C;split at h;rename_i a b1 ha I;cases h;simp[V6]at k;split at k;rename_i al i;split at k;rename_i M S hi;have X:lok G cs:=by simpa only[D5.ok]using o.heap _ (BM C)
  have⟨rfl,q2,q3⟩:=kH hr X ha hi;have st:CC H (H.set id (.live false M)):=CC.set i rfl λ_ _ _ _ _ e=>by cases e
  have A:HR G (H.set id (.live false M)) (Le r):=HR.set hr C (.inr (.inl ⟨_,_,_,_,rfl,rfl,q2⟩));have f:PJ env (H.set id (.live false M)):=⟨st.env ok.env,heap_set st ok.heap (by simpa only[D5.ok]using st.lok q3)⟩
  have q:=OD o I k f (by simpa using hl) he A (lp.set (G9 i) λ_ _ _ _ _ _ _ _ E=>by rw[C]at E;cases E);refine⟨q.get,q.ok,q.env,q.hr,st.trans q.step,by simpa using q.len,λj N=>?_⟩;have:=Qn.1 N;rw[q.same j this.2,EA λe=>this.1 e.symm];cases k;cases k;cases h;cases h
 | .u id ty::r,B,env,H,env2,D,h,k,ok,hl,he,hr,lp=>by
  simp[ZT]at h;split at h;rename_i b t l n ad C;split at h;rename_i S I T;cases h;simp[V6]at k;split at k;rename_i t' l0 n0 K i;split at k;rename_i J;have e:=Ty.beq_eq _ _ J;subst e;have hn:n=l.length:=by simpa only[D5.ok]using o.heap _ (BM C)
  have st:CC H (H.set id (.buf false t' l l.length (K+1))):=CC.set i rfl λro R l2 n2 v2 e=>by cases e;exact⟨_,_,_,_,rfl,.inl o!⟩
  have A:HR G (H.set id (.buf false t' l l.length (K+1))) (Le r):=HR.set hr C (.inr (.inr (.inl ⟨_,_,_,_,_,_,_,rfl,by rw[hn]⟩)));have f:PJ env (H.set id (.buf false t' l l.length (K+1))):=⟨st.env ok.env,heap_set st ok.heap rfl⟩
  have q:=OD o T k f (by simpa using hl) he A (lp.set (G9 i) λ_ _ _ _ _ _ _ _ E=>by rw[C]at E;cases E);refine⟨q.get,q.ok,q.env,q.hr,st.trans q.step,by simpa using q.len,λj N=>?_⟩;have:=Qn.1 N;rw[q.same j this.2,EA λe=>this.1 e.symm];cases k;cases k;cases h;cases h
 | .x id::r,B,env,H,env2,D,h,k,ok,hl,he,hr,lp=>by
  simp[ZT]at h;cases B with
  |nil=>simp[V6]at k;split at k;rename_i e i;split at k;rename_i O;exact oB id i O hl lp hr ok λf P A=>OD o h k f (by simpa using hl) he A P;cases k;cases k
  |cons d B=>simp[V6]at k;split at k;rename_i e i;split at k;rename_i O;exact oB id i O hl lp hr ok λf P A=>OD o h k f (by simpa using hl) he A P;cases k;cases k
 | .k tmp w::r,B,env,H,env2,D,h,k,ok,hl,he,hr,lp=>by
  have k':V6 r B ((tmp,.c (.raw w))::env) H=some (env2,D):=by cases B<;>simpa only[V6]using k
  simp[ZT]at h;split at h;rename_i w' L;split at h;rename_i I;have e:=ADX I;subst e;have f:PJ ((tmp,.c (.raw w))::env) H:=⟨λp z=>by rcases A3.1 z with rfl|z;exact Jz trivial;exact ok.env p z,ok.heap⟩
  have hw:w≠ .any:=by rintro rfl;cases I
  have q:=OD o h k' f hl (λp z=>by rcases A3.1 z with rfl|z;refine⟨_,iG L (λe=>?_),WG.refl _⟩;injection e with e;injection e with e;exact hw e;exact he p z) hr lp;refine⟨λt J=>?_,q.ok,q.env,q.hr,q.step,q.len,q.same⟩;have:=Qn.1 J;rw[q.get t this.2];simp[BV.get,beq_false λe=>this.1 e.symm];cases h;cases h
 | .y id s::r,B,env,H,env2,D,h,k,ok,hl,he,hr,lp=>by
  simp[ZT]at h;split at h;rename_i ap F1 n1 e1 p1 a1 b1 s1 C;split at h;rename_i I;have e0:=LS.beq_eq I;subst e0;obtain⟨F,n,e,Q,a,b,s0,i,k'⟩: ∃F n e Q a b s0,H[id]? =some (.lp false F n e Q a b s0)/\V6 r B env (H.set id (.lp false F n e Q a b s))=some (env2,D):=by cases B<;>simp[V6]at k<;>split at k<;>first|exact⟨_,_,_,_,_,_,_,‹_›,k⟩|cases k
  have⟨ar,s2,q⟩:=lp id (G9 i) _ _ _ _ _ _ _ _ C;rw[i]at q;injection q with q;injection q with _ q2 q3 q4 q5 q6 q7 _;subst q2 q3 q4 q5 q6 q7;have st:CC H (H.set id (.lp false F n e Q a b s)):=CC.set i rfl (λ_ _ _ _ _ e=>by cases e) λ_ _ _ _ _ _ _ _ e=>by cases e;exact⟨_,_,rfl⟩
  have A:HR G (H.set id (.lp false F n e Q a b s)) (Le r):=HR.set hr C (.inr (.inr (.inr (.inl ⟨_,_,_,_,_,_,_,_,_,rfl,rfl⟩))));have f:PJ env (H.set id (.lp false F n e Q a b s)):=⟨st.env ok.env,heap_set st ok.heap (by have:=ok.heap _ (BM i);simpa only[D5.ok]using this)⟩
  have q:=OD o h k' f (by simpa using hl) he A (lp.set (G9 i) λ_ _ _ _ _ _ _ _ E=>by rw[C]at E;injection E with E;cases E;exact⟨_,_,rfl⟩);refine⟨q.get,q.ok,q.env,q.hr,st.trans q.step,by simpa using q.len,λj N=>?_⟩;have:=Qn.1 N;rw[q.same j this.2,EA λe=>this.1 e.symm];cases h;cases h
 | .m id kk ty::r,B,env,H,env2,D,h,k,ok,hl,he,hr,lp=>by
  simp[ZT]at h;split at h;rename_i b k1 t1 W C;split at h;rename_i S I T;cases h;simp[V6]at k;split at k;rename_i k2 R ao i;split at k;rename_i J;simp[BP,decide_eq_true_eq]at J;have⟨rfl,J⟩:=J;have e:=Ty.beq_eq _ _ J;subst e;have st:CC H (H.set id (.mp false k2 R W)):=CC.set i rfl λ_ _ _ _ _ e=>by cases e
  have A:HR G (H.set id (.mp false k2 R W)) (Le r):=HR.set hr C (.inr (.inr (.inr (.inr ⟨_,_,_,_,_,rfl,rfl⟩))));have f:PJ env (H.set id (.mp false k2 R W)):=⟨st.env ok.env,heap_set st ok.heap trivial⟩
  have q:=OD o T k f (by simpa using hl) he A (lp.set (G9 i) λ_ _ _ _ _ _ _ _ E=>by rw[C]at E;cases E);refine⟨q.get,q.ok,q.env,q.hr,st.trans q.step,by simpa using q.len,λj N=>?_⟩;have:=Qn.1 N;rw[q.same j this.2,EA λe=>this.1 e.symm];cases k;cases k;cases h;cases h
def ZS(n:Nat):List Bk->Bool
 |[]=>true
 | .own id _ _ _::r=>Nat.blt id n&&ZS n r
 | .raw v::r=>v.idsAll (λid=>Nat.blt id n)&&ZS n r
 |_::r=>ZS n r
mutual
def sE(n:Nat):TV->Bool
 | .c x=>ZS n [x]
 | .g cs=>ZS n cs
 | .aptr id .. =>Nat.blt id n
 | .bptr id .. =>Nat.blt id n
 | .vptr cs post=>ZS n cs&&AY.idsAllL (λid=>Nat.blt id n) post
 | .tup vs=>tS n vs
def tS(n:Nat):List TV->Bool
 |[]=>true
 |v::r=>sE n v&&tS n r
end
def rG(n:Nat):BV->Bool
 |[]=>true
 |(_,v)::r=>sE n v&&rG n r
def jO(n:Nat):Am->Bool
 |[]=>true
 | .live _ cs::r=>ZS n cs&&jO n r
 | .lp _ _ _ env _ _ _ _::r=>rG n env&&jO n r
 |_::r=>jO n r
def kv(h:Nat.blt N n=true):decide (N<n)=true:=t!
def hZ(h:Pure i)(n:Nat):(i.idsAll λid=>decide (id<n))=true:=Qe (λ_ h=>by cases h) i h
def vg: ∀{x:Bk},ZS n [x]=true->(∀v∈x.enc,(v.idsAll λid=>decide (id<n))=true)/\(x.one.idsAll λid=>decide (id<n))=true
 | .bl _,_=>⟨λv b=>by simp only[Bk.enc,BA]at b;subst b;rfl,rfl⟩
 | .it _ _,_=>⟨λv b=>by simp only[Bk.enc,BA]at b;subst b;rfl,rfl⟩
 | .st _,_=>⟨λv b=>by simp only[Bk.enc,BA]at b;subst b;rfl,rfl⟩
 | .ls t l,_=>⟨λv b=>by simp only[Bk.enc,BA]at b;subst b;exact hZ ((Ty.list t).enc_pure l) n,hZ ((Ty.list t).enc_pure l) n⟩
 | .ar m t a,_=>by have h:=hZ ((Ty.arr m t).enc_pure a) n;refine⟨λv b=>?_,h⟩;exact((De _ _).1 h) v b
 | .own id ver t m,h=>by simp only[ZS,PL]at h;have:=kv h;exact⟨λv b=>by simp only[Bk.enc,BA]at b;subst b;exact this,this⟩
 | .nil,_=>⟨λv b=>by simp only[Bk.enc,BA]at b;subst b;rfl,rfl⟩
 | .raw v,h=>by simp only[ZS,PL]at h;have:=Qe (λ_ h=>kv h) v h;exact⟨λu c=>by simp only[Bk.enc,BA]at c;subst c;exact this,this⟩
def sD{r:List Bk}(h:ZS n (E::r)=true):ZS n [E]=true/\ZS n r=true:=by cases E<;>simp only[ZS,PL,BP]at h⊢ <;>first|exact h|exact⟨trivial,h⟩
def ik{n:Nat}: ∀{b:List Bk},ZS n b=true->AY.idsAllL (λid=>decide (id<n)) (lvs b)=true
 |[],_=>rfl
 |x::r,h=>by obtain⟨c,d⟩:=sD h;rw[Hi,De];intro v a;rcases An.1 a with a|a;exact(vg c).1 v a;exact((De _ _).1 (ik d)) v a
mutual
theorem db{n:Nat}: ∀{v:TV},sE n v=true->(v.enc.idsAll λid=>decide (id<n))=true
 | .c x,h=>(vg h).2
 | .g cs,h=>ik h
 | .aptr ..,h=>kv h
 | .bptr ..,h=>kv h
 | .vptr cs post,h=>by simp only[sE,BP]at h;simp only[TV.enc,AY.idsAll];rw[De];intro v a;rcases An.1 a with a|a;exact((De _ _).1 (ik h.1)) v a;exact((De _ _).1 (JQ (λ_ h=>kv h) post h.2)) v a
 | .tup vs,h=>by simp only[sE]at h;simp only[TV.enc,AY.idsAll];exact nk h
theorem nk{n:Nat}: ∀{a:List TV},tS n a=true->AY.idsAllL (λid=>decide (id<n)) (TV.encL a)=true
 |[],_=>rfl
 |v::r,h=>by simp only[tS,BP]at h;simp only[TV.encL,AY.idsAllL,BP];exact⟨db h.1,nk h.2⟩
end
def ic{n:Nat}: ∀{env:BV},rG n env=true-> ∀p∈env,sE n p.2=true
 |[],_,p,a=>by cases a
 |(t,v)::r,h,p,a=>by simp only[rG,BP]at h;rcases A3.1 a with rfl|a;exact h.1;exact ic h.2 p a
def ii{n:Nat}: ∀{H:Am},jO n H=true-> ∀e∈BC H,(e.idsAll λid=>decide (id<n))=true
 |x::r,h,e,c=>by
  have g:jO n r=true:=by cases x<;>simp only[jO,BP]at h<;>first|exact h|exact h.2
  simp only[BC,Bo,A3]at c;rcases c with rfl|c;cases x with
  |dead=>rfl
  |live b o=>simp only[jO,BP]at h;exact ik h.1
  |buf b t l m k=>simp only[D5.enc,Eo.idsAll];rw[De];intro v d;obtain⟨u,j,d⟩:=Hq.1 d;obtain⟨y,_,rfl⟩:=B0.1 j;have h:=hZ (t.E.pure y) n;cases q:t.E.f y<;>simp_all[AY.idsAll,De,AY.cells]
  |mp=>rfl
  |lp ro F m env w a b s=>simp only[jO,BP]at h;simp only[D5.enc,Eo.idsAll,B6,List.all_map,GD];exact λp i=>db (ic h.1 p i)
  exact ii g e c
def GC.cut{N n0:Nat}{env:Env}{H:Ar}(hn:n0≤H.length)(d: ∀t v,(t,v)∈env→(v.idsAll λid=>decide (id<n0))=true)
  (c: ∀e∈H.take n0,(e.idsAll λid=>decide (id<n0))=true):GC N n0 env H env (H.take n0):=
 ⟨w!,λX g a w s=>⟨g,⟨s.sim.trunc hn c,λt v m=>⟨(s.env t v m).1,(s.env t v m).2.trunc hn (d t v m)⟩,s.size⟩,λ_ _=>⟨rfl,rfl,rfl⟩,λB b=>eT b⟩⟩
theorem sG{e:Eo}(h:(BC b)[N]? =some e): ∃x,b[N]? =some x/\e=x.enc:=by grind[BC]
theorem HR.rel(A:B.length<=b.length)(hr:HR b B [])(x:Cx):Ta x x (BC b) (BC B++(BC b).drop B.length):=by
 refine⟨by simp[BC];omega,λj w z=>?_⟩;have same: ∀{y:D5},b[j]? =some y->w=y.enc->w= .dead\/(∃g p c,(BC b)[j]? =some (.live g p)/\w= .live g c/\c.length=p.length/\ ∀(i:Nat) (f:AY),c[i]? =some f-> ∃v,p[i]? =some v/\Conv x x v f)\/((BC b)[j]? =some w/\ ∀g p,w≠ .live g p):=by
  intro y D q;have d:(BC b)[j]? =some y.enc:=by grind[BC]
  subst q;cases y with
  |dead=>exact .inl rfl
  |live u p=>exact .inr (.inl ⟨_,_,_,d,rfl,rfl,λi f h=>⟨f,h,λ_ r=>r⟩⟩)
  |buf u t l m H=>exact .inr (.inl ⟨_,_,_,d,rfl,rfl,λi f h=>⟨f,h,λ_ r=>r⟩⟩)
  |lp=>exact .inr (.inr ⟨d,λ_ _ h=>by cases h⟩)
  |mp=>exact .inr (.inr ⟨d,λ_ _ h=>by cases h⟩)
 rcases Aq j B.length with h|h;rw[CK (by rw[CW];exact h)]at z;obtain⟨y,D,rfl⟩:=sG z;obtain⟨e,q,o⟩:=hr j y rfl D;rcases o with rfl|⟨u,p,C,c,rfl,rfl,A⟩|⟨u,t,l,m,v,C,f,rfl,rfl⟩|⟨ro,G,F,n,env,J,a,u,s,rfl,rfl⟩|⟨u,C,k,t,I,rfl,rfl⟩;exact .inl rfl;refine .inr (.inl ⟨0,lvs p,lvs c,by simp only[BC,CO,q,Bp,D5.enc],rfl,A.1,λi f E=>?_⟩);obtain⟨v,q1,q2⟩:=A.2 i f E;exact⟨v,q1,q2 x⟩;exact same q rfl;exact same q rfl;exact same q rfl;rw[Cb (by rw[CW];exact h),L6]at z;rw[CW]at z;grind[sG]
def IS.weak{N:Nat}{b:Am}{H:Am}(s:IS f b l L H O B)(k:H.length≤b.length)(n:rG H.length O=true)(o:jO H.length B=true):
  GC N H.length (B6 f) (BC b) (B6 O) (BC B):=by
 have g:B.length<=b.length:=by rw[s.len];exact k
 have x:GC N (BC b).length (B6 f) (BC b) (B6 O) (BC B++(BC b).drop B.length):=by refine VN (by simp[BC];omega) λX h w _=>?_;have q:=(HR.rel g s.hr (cx X h (BC b) w)).onto;refine⟨q,λt z m=>?_⟩;obtain⟨p,j,e⟩:=B0.1 m;injection e with d A;subst d A;obtain⟨v,u,i⟩:=s.env p j;exact⟨v.enc,B0.2 ⟨_,u,rfl⟩,λc r=>(i _ c r).later q.later⟩
 have a:(BC B++(BC b).drop B.length).take H.length=BC B:=by rw[<-s.len,<-CW B,Gs];rfl
 have y:GC N H.length (B6 O) (BC B++(BC b).drop B.length) (B6 O) (BC B):=by have:=GC.cut (N:=N) (n0:=H.length) (env:=B6 O) (H:=BC B++(BC b).drop B.length) (by simp[BC,s.len]) (λt v m=>by obtain⟨p,j,e⟩:=B0.1 m;injection e with d A;subst d A;exact db (ic n p j)) (by rw[a];exact ii o);rwa [a]at this
 exact(x.of_le (by rw[CW];exact k)).trans y
def vN:Exit->Exit->Bool
 | .normal,.normal=>true
 | .exit a,.exit b=>Nat.beq a b
 | .ret,.ret=>true
 |_,_=>false
def pg{b:Exit}(h:vN x b=true):x=b:=by cases x<;>cases b<;>simp only[vN]at h<;>first|rfl|cases h|exact congrArg _ (DN h)
structure Hint where
 kind:Nat
 key:Nat
 virt:List (Nat×Ty)
 virtC:List (Nat×Nat×Ty)
 kill:List Nat
 drop:List Nat
 slots:List Uv
 exits:List (Exit×List Uv)
def Hint.tmps(h:Hint):List Nat:=h.drop++h.virt.map (·.1)++qp h.slots++h.exits.flatMap λp=>qp p.2
def lT(kind key:Nat):List Hint->Option Hint
 |[]=>none
 |h::r=>match Nat.beq kind h.kind&&Nat.beq key h.key with|true=>some h|false=>lT kind key r
def vR:Code->Option Nat
 | .region id _ _=>some id
 | .seq a b=>match vR a with|some x=>some x|none=>vR b
 | .cond _ a b=>match vR a with|some x=>some x|none=>vR b
 | .block _ b=>vR b
 | .loop b=>vR b
 |_=>none
def py:Code->Bool
 | .seq a _=>py a
 | .block _ b=>py b
 | .loop _=>true
 |_=>false
def AFu(b:Code)(r:Nat)(hs:List Hint):Option Hint:=
 match py b with
 |true=>(match lT 5 r hs with|some h=>some h|none=>lT 0 r hs)
 |false=>lT 0 r hs
def eN(hs:List Hint):Code->Option Hint
 | .loop b=>match vR b with|some r=>AFu b r hs|none=>none
 | .block id _=>lT 1 id hs
 | .cond _ a b=>match vR (.seq a b)with|some r=>lT 2 r hs|none=>none
 | .region id _ _=>lT 6 id hs
 |_=>none
def nz(hs:List Hint)(c:Code):List Nat:=
 match eN hs c with
 |some h=>h.tmps
 |none=>[]
def ov(hs:List Hint):Code->Code->Option Hint
 | .region id _ _,.cond _ _ _=>lT 4 id hs
 |_,_=>none
def qq(hs:List Hint)(a b:Code):List Nat:=
 match ov hs a b with
 |some h=>h.tmps
 |none=>[]
def Qi(hs:List Hint):Code->List Nat
 | .region id ops d=>lR ops.toList++nz hs (.region id ops d)
 | .seq a b=>(Qi hs a++Qi hs b)++qq hs a b
 | .cond c a b=>Qi hs a++Qi hs b++nz hs (.cond c a b)
 | .block id b=>Qi hs b++nz hs (.block id b)
 | .loop b=>Qi hs b++nz hs (.loop b)
 |_=>[]
def ur:TV->Bool
 | .c (.raw .any)=>true
 |_=>false
def AAa(h:ur w=false):w≠R8:=by rintro rfl;cases h
def tq(H:Am)(id:Nat):Bool:=match H[id]? with|some (.buf false _ _ _ _)=>true|_=>false
def fF(A S:List Nat)(H:Am)(t:Nat)(v:TV):Bool:=
 match OE t A with
 |true=>false
 |false=>match ur v with
  |true=>false
  |false=>(K4 v.refs).all λid=>!(OE id S&&tq H id)
def QB(A S:List Nat)(H:Am):BV->BV
 |[]=>[]
 |(t,v)::r=>match fF A S H t v with|true=>(t,v)::QB A S H r|false=>QB A S H r
def Me(S:List Nat):Nat->Am->Am
 |_,[]=>[]
 |j,e::r=>(match OE j S with|true=>e|false=>e.lock)::Me S (j+1) r
def nN:BV->Bool
 |[]=>true
 |(t,_)::r=>!OE t (r.map (·.1))&&nN r
theorem VF(h:N∉a):OE N a=false:=by
 cases j:OE N a with
 |false=>rfl
 |true=>induction a<;>grind[OE,Nat.eq_of_beq_eq_true]
def Ym: ∀{env:BV},nN env=true->(env.map (·.1)).Nodup
 |[],_=>OU
 |(t,v)::r,h=>by simp only[nN,BP,Wg]at h;exact GN.2 ⟨TT h.1,Ym h.2⟩
theorem iZ{A S:List Nat}{H:Am}: ∀{env:BV},(env.map (·.1)).Nodup-> ∀t,fF A S H t (env.get t)=true->(QB A S H env).get t=env.get t
 |[],_,t,_=>rfl
 |(u,v)::r,nd,t,h=>by have a:=GN.1 nd;simp only[BV.get]at h⊢;by_cases b:u=t;grind[Nat.beq_refl,QB,BV.get];rw[beq_false b]at h⊢;have c:=iZ a.2 t h;grind[QB,BV.get,beq_false]
theorem Qj{A S:List Nat}{H:Am}: ∀{env:BV},(env.map (·.1)).Nodup-> ∀p∈QB A S H env,env.get p.1=p.2/\fF A S H p.1 p.2=true/\p∈env
 |(u,v)::r,nd,p,h=>by
  have a:=GN.1 nd;have tail:p∈QB A S H r->BV.get ((u,v)::r) p.1=p.2/\fF A S H p.1 p.2=true/\p∈(u,v)::r:=λh=>by obtain⟨q1,q2,q3⟩:=Qj a.2 p h;grind[BV.get,beq_false]
  grind[QB,BV.get,Nat.beq_refl]
theorem Kk{S:List Nat}: ∀(H:Am) (i j:Nat),(Me S i H)[j]? =(H[j]?).map λe=>match OE (i+j) S with|true=>e|false=>e.lock
 |[],i,j=>by simp[Me]
 |e::r,i,0=>by simp[Me]
 |e::r,i,j+1=>by simp only[Me,r8];rw[Kk r (i+1) j];grind
def Kl{S:List Nat}: ∀(H:Am) (i:Nat),(Me S i H).length=H.length
 |[],_=>rfl
 |e::r,i=>by simp[Me,Kl r]
theorem sT{S:List Nat}: ∀(H:Am) (i:Nat),BC (Me S i H)=BC H
 |[],_=>rfl
 |e::r,i=>by have:=sT (S:=S) r (i+1);grind[BC,Me,qN]
theorem qO(h:Uu b N n p z):Uu (Me a 0 b) N n p z:=by
 refine⟨by rw[Kl];exact h.1,λro r l S f H=>?_⟩;rw[Kk]at H;cases d:b[N]? with
 |none=>grind
 |some e=>
  rw[d]at H;simp at H;split at H;subst H;exact h.2 _ _ _ _ _ d;cases e with
  |dead=>cases H
  |live c k=>cases H
  |lp=>cases H
  |mp=>cases H
  |buf c s o q u=>injection H with _ g m i j;subst g i j;exact h.2 _ _ _ _ _ d
def sU(h:E.ok b):E.ok (Me a 0 b):=by
 cases E with
 |own id S t n=>exact qO h
 |_=>trivial
theorem ly(ok:PJ f b):PJ f (Me a 0 b):=by
 refine⟨λp o x g=>sU (ok.env p o x g),λe m=>?_⟩;obtain⟨j,q⟩:=Fg.1 m;rw[Kk]at q;cases i:b[j]? with
 |none=>grind
 |some c=>
  rw[i]at q;simp at q;have d:=ok.heap c (BM i);have S:c.ok (Me a 0 b):=by
   cases c with
   |dead=>trivial
   |live H k=>exact λx g=>sU (d x g)
   |buf H t l n h=>exact d
   |lp=>exact d
   |mp=>exact d
  split at q;grind;subst q;cases c with
  |dead=>trivial
  |live H k=>exact S
  |buf H t l n h=>exact S
  |lp=>exact S
  |mp=>exact S
theorem ADB(H:Am):LpS (Me a 0 H) H:=by intro id c ro F n env d S b s h;rw[Kk,h];split;grind;exact⟨_,_,rfl⟩
theorem ABI(H:Am):LpS H (Me a 0 H):=by
 intro id d ro F n env f S b s h;rw[Kk]at h;cases c:H[id]? with
 |none=>grind
 |some e=>
  rw[c]at h;simp at h;split at h;grind;cases e with
  |lp=>injection h with _ q2 q3 q4 q5 q6 q7 _;grind
  |_=>cases h
def kU{id a n:Nat}{t:Ty}: ∀{b:List Bk},Bk.own id a t n∈b->id∈K4 b
 |x::r,h=>by rcases A3.1 h with rfl|h;exact Jx;have:=kU h;cases x<;>simp only[K4]<;>first|exact this|exact CV _ this
def ve(h:fF A a b N w=true)(m:w.ok b)(st:CC (Me a 0 b) B):lq B w:=by
 intro id o r n g;unfold fF at h;split at h;cases h;split at h;cases h;have H:=GD.1 h id (kU g);have d:id<b.length:=(m _ g).1;refine st.nb id (by rw[Kl];exact d) λq l p i S=>?_;rw[Kk,EQ]at S;cases c:b[id]? with
 |none=>rw[c]at S;cases S
 |some e=>rw[c]at S;simp only[Bp,Al]at S;split at S;rename_i k;subst S;simp only[k,tq,c]at H;cases H;cases e<;>simp only[D5.lock]at S<;>first|cases S|(injection S with j;cases j)
theorem ABG(g:OE N A=false)(i:ur w=false)(j:lq b w):fF A a b N w=true:=by
 unfold fF;rw[g,i];refine GD.2 λid e=>?_;have: ∃d f n,Bk.own id d f n∈w.refs:=by
  generalize w.refs=cs at e;induction cs with
  |nil=>cases e
  |cons x r m=>
   cases x with
   |own l d f n=>grind[K4]
   |_=>obtain⟨S,H,c,h⟩:=m e;grind
 obtain⟨d,f,n,k⟩:=this;have:=j id d f n k;grind[tq]
def AE1:List Part->List Nat
 |[]=>[]
 | .o id::r=>id::AE1 r
 |_::r=>AE1 r
def jr(env:BV)(H:Am):List Uv->List Nat
 |[]=>[]
 | .t tmp _::r=>K4 (env.get tmp).refs++jr env H r
 | .p id ps::r=>(match H[id]? with|some (.live _ cs)=>(K4 cs).filter λi=>!OE i (AE1 ps)|_=>[])++jr env H r
 |_::r=>jr env H r
def u7(sl:List Uv)(env:BV)(H:Am):Option (DL (eX sl)):=
 match HS (jr env H sl) env H with
 |(e,h)=>match ZT e h sl with|some ds=>xI (eX sl) ds|none=>none
def uK:List (Exit×List Uv)->Type
 |[]=>Unit
 |[p]=>DL (eX p.2)
 |p::q::r=>DL (eX p.2)⊕ uK (q::r)
def xM:(xs:List (Exit×List Uv))->Exit->BV->Am->Option (uK xs)
 |[],_,_,_=>none
 |[p],x,env,H=>match vN p.1 x with|true=>u7 p.2 env H|false=>none
 |p::q::r,x,env,H=>
  match vN p.1 x with
  |true=>(match u7 p.2 env H with|some s=>some (.inl s)|none=>none)
  |false=>(match xM (q::r) x env H with|some s=>some (.inr s)|none=>none)
def AE8{R:Type}:(xs:List (Exit×List Uv))->uK xs->(Exit->List Uv->List DV->Option R)->Option R
 |[],_,_=>none
 |[p],s,k=>k p.1 p.2 (dvs (eX p.2) s)
 |p::q::r,o,k=>Sum.elim (λs=>k p.1 p.2 (dvs (eX p.2) s)) (λs=>AE8 (q::r) s k) o
def uL:(xs:List (Exit×List Uv))->uK xs->Exit×List Uv×List DV
 |[],_=>(.normal,[],[])
 |[p],s=>(p.1,p.2,dvs (eX p.2) s)
 |p::q::r,.inl s=>(p.1,p.2,dvs (eX p.2) s)
 |p::q::r,.inr s=>uL (q::r) s
def si{R:Type}: ∀{xs:List (Exit×List Uv)} {o:uK xs} {k:Exit->List Uv->List DV->Option R} {r:R},AE8 xs o k=some r->k (uL xs o).1 (uL xs o).2.1 (uL xs o).2.2=some r
 |[],_,_,_,h=>by cases h
 |[p],s,k,r,h=>h
 |p::q::t,.inl s,k,r,h=>h
 |p::q::t,.inr s,k,r,h=>si (xs:=q::t) h
def ACK(sl:List Uv)(ds:List DV)(env:BV)(H:Am):Prop:=ZT (HS (jr env H sl) env H).1 (HS (jr env H sl) env H).2 sl=some ds
theorem kG{s:DL (eX l)}(h:u7 l f b=some s):ACK l (dvs (eX l) s) f b:=by grind[u7,ACK,nM]
def sj: ∀{xs:List (Exit×List Uv)} {x:Exit} {env:BV} {H:Am} {o:uK xs},xM xs x env H=some o→
  (uL xs o).1=x/\ACK (uL xs o).2.1 (uL xs o).2.2 env H/\ ∃p∈xs,(uL xs o).2.1=p.2
 |[p],x,env,H,o,h=>by simp only[xM]at h;split at h;rename_i a;exact⟨pg a,kG h,p,k!,rfl⟩;cases h
 |p::q::r,x,env,H,o,h=>by simp only[xM]at h;split at h;rename_i a;split at h;rename_i s b;injection h with h;subst h;exact⟨pg a,kG b,p,k!,rfl⟩;cases h;split at h;rename_i s b;injection h with h;subst h;obtain⟨q1,q2,c,q3,q4⟩:=sj (xs:=q::r) b;exact⟨q1,q2,c,CV _ q3,q4⟩;cases h
structure wU(A S:List Nat)(env0:BV)(H0:Am)(e2:BV)(h2:Am):Prop where
 ok:PJ e2 h2
 step:CC (Me S 0 H0) h2
 len:h2.length=H0.length
 same: ∀j,OE j S=false->h2[j]? =(Me S 0 H0)[j]?
 get: ∀p∈QB A S H0 env0,e2.get p.1=p.2
theorem xy{A B S:List Nat}{env0:BV}{a:Am}{L:BV}{s:Am}(m:PJ env0 a)(nd:(env0.map (·.1)).Nodup)(g:wU A S env0 a L s)
  {env1:BV} {d:Am} (G:PJ env1 d) (st:FT B L s env1 d) (U: ∀t,t∈B->t∈A) {o:List Uv} {K:List DV} (W:ACK o K env1 d)
  {Hx:Am} (J: ∀e∈Hx,e.ok Hx) (y:Hx.length=a.length) (F:LpS Hx (Me S 0 a)) (rx: ∀id c t n,Uu a id c t n->Uu Hx id c t n) (E: ∀(j:Nat) (i:D5),OE j (Le o)=false->Hx[j]? =some i->i= .dead\/ ∃e,OE j S=false/\(Me S 0 a)[j]? =some e/\e.ro=true/\AEW e i)
  {r:BV} {f:Am} (Y:V6 o K (QB A S a env0) Hx=some (r,f)) (ce:rG a.length r=true) (ch:jO a.length f=true) (N:Nat):
  GC N a.length (B6 env1) (BC d) (B6 r) (BC f)/\ ∃P V,IS P V o (QB A S a env0) Hx r f:=by
 obtain⟨I,z,wf⟩:=PO (jr env1 d o) G;have u:a.length<=d.length:=by rw[<-g.len];exact st.step.len
 have b:=FT.trans g.ok.env st z;have H: ∀p∈QB A S a env0,p.2.ok Hx:=λp v x E=>by
  have:=m.env p (Qj nd p v).2.2 x E;cases x with
  |own id c t n=>exact rx _ _ _ _ this
  |_=>trivial
 have q:=OD I W Y ⟨H,J⟩ (by rw[y];exact EB u z.step.len) (λp v=>by
  obtain⟨b1,M,O⟩:=Qj nd p v;have hk:=ve M (m.env p O) g.step;have T:OE p.1 A=false:=by grind[fF]
  have k:ur p.2=false:=by grind[fF]
  have X:=g.get p v;have:=b.same p.1 (λh=>by rw[Dr]at h;exact TT T (U _ h)) q!;rw[X]at this;exact⟨p.2,iG this (AAa k),WG.refl _⟩) (λj i Z C=>by
   have D:j<a.length:=q!
   rcases E j i Z C with rfl|⟨e,Q,s,f,R⟩;exact⟨_,At (DO D (EB u z.step.len)),.inl rfl⟩;exact⟨e,b.step.ro j e (by rw[g.same j Q];exact s) f,R⟩) (λid l _ _ _ _ _ _ _ _ hq=>by
  obtain⟨ad,s1,q1⟩:=(g.step.trans b.step).lp id (by rw[Kl,<-y];exact l) _ _ _ _ _ _ _ _ hq;exact F id l _ _ _ _ _ _ _ _ q1)
 have w:=q.weak (N:=N) (by rw[y];exact EB u z.step.len) q! q!;rw[y]at w;exact⟨((wf N).of_le (by rw[CW];exact u)).trans w,_,_,q⟩
open Classical in
noncomputable def qb{α:Type}(g:List α->Unit->Option (List α))(l:List α):Option (List α):=if∀m,l.Perm m->g m ()=g l ()then g l ()else none
theorem xS{g:List R->Unit->Option (List R)}{l s:List R}(h:qb g l=some s): ∀m,l.Perm m->g m ()=some s:=by grind[qb]
def uN:List Oper->Option (Nat×Nat×Nat×TypeId×TypeId)
 |[⟨some a1,.load ty1 (.tmp c0),_,_,_,none⟩,⟨some a2,.range ty2 (.tmp b1),_,_,_,none⟩]=>match Nat.beq a1 b1 with|true=>some (c0,a1,a2,ty1,ty2)|false=>none
 |_=>none
def qW:List Oper->Option (Nat×Nat×Nat)
 |[⟨some a3,.next (.tmp a2) false,_,_,_,none⟩,⟨some a4,.extract (.tmp b3) 0,_,_,_,none⟩]=>match Nat.beq a3 b3 with|true=>some (a2,a3,a4)|false=>none
 |_=>none
def qX:List Oper->Option (Nat×Nat×Nat×Nat×TypeId×TypeId)
 |[⟨some a5,.entry (.tmp a2),_,_,_,none⟩,⟨some a6,.extract (.tmp b5) 1,_,_,_,none⟩,⟨some a7,.alloc te1,_,_,_,none⟩,⟨none,.store te2 (.tmp b7) (.tmp b6),_,_,_,none⟩]=>
  match Nat.beq a5 b5&&(Nat.beq a6 b6&&Nat.beq a7 b7)with|true=>some (a2,a5,a6,a7,te1,te2)|false=>none
 |_=>none
def qY:List Oper->Option (Nat×Nat×Nat×Nat×Nat×Nat×TypeId×TypeId×TypeId)
 |[⟨some a8,.move (.tmp out),_,_,_,none⟩,⟨some a9,.load te3 (.tmp a7),_,_,_,none⟩,⟨some a10,.buildSlice ts1 1 ⟨[(0,.tmp b9)]⟩,_,_,_,none⟩,
   ⟨some a11,.call {callee:=.builtin .append,args:=⟨[.tmp b8,.tmp b10]⟩,argTypes:=⟨[ts2,ts3]⟩},_,_,_,none⟩,⟨some out2,.assign (.tmp b11),_,_,_,none⟩]=>
  match Nat.beq a8 b8&&(Nat.beq a9 b9&&(Nat.beq a10 b10&&(Nat.beq a11 b11&&(Nat.beq out out2&&Nat.beq ts2 ts3))))with|true=>some (out,a7,a8,a9,a10,a11,te3,ts1,ts2)|false=>none
 |_=>none
def uO:List Oper->Option (Nat×Nat×Nat×FuncId×FuncId)
 |[⟨some a12,.move (.tmp out),_,_,_,none⟩,⟨some a13,.call {callee:=.value (.func F),args:=⟨[.tmp b12,.func G]⟩,.. },_,_,_,none⟩]=>match Nat.beq a12 b12 with|true=>some (out,a12,a13,F,G)|false=>none
 |_=>none
def oG(h:uN e=some (N,n,z,m,M)):
  ∃l c a f d b,e=[⟨some n,.load m (.tmp N),l,c,a,none⟩,⟨some z,.range M (.tmp n),f,d,b,none⟩]:=by
 unfold uN at h;split at h;split at h<;>simp_all;cases h
def oH(h:qW e=some (N,n,z)):
  ∃l c a f d b,e=[⟨some n,.next (.tmp N) false,l,c,a,none⟩,⟨some z,.extract (.tmp n) 0,f,d,b,none⟩]:=by
 unfold qW at h;split at h;split at h<;>simp_all;cases h
def oI{a7:Nat}(h:qX e=some (N,n,z,a7,m,M)):
  ∃j l a k f b o g c p i d,e=[⟨some n,.entry (.tmp N),j,l,a,none⟩,⟨some z,.extract (.tmp n) 1,k,f,b,none⟩,⟨some a7,.alloc m,o,g,c,none⟩,⟨none,.store M (.tmp a7) (.tmp z),p,i,d,none⟩]:=by
 unfold qX at h;split at h;split at h<;>simp_all;cases h
def oJ{a9 a10 a11:Nat}{ts2:TypeId}(h:qY e=some (N,n,z,a9,a10,a11,m,M,ts2)):
  ∃r f a s g b o i c p j d q k l,e=[⟨some z,.move (.tmp N),r,f,a,none⟩,⟨some a9,.load m (.tmp n),s,g,b,none⟩,⟨some a10,.buildSlice M 1 #[(0,.tmp a9)],o,i,c,none⟩,⟨some a11,.call {callee:=.builtin .append,args:= #[.tmp z,.tmp a10],argTypes:= #[ts2,ts2]},p,j,d,none⟩,⟨some N,.assign (.tmp a11),q,k,l,none⟩]:=by
 unfold qY at h;split at h;split at h<;>simp_all;cases h
def oK{G:FuncId}(h:uO e=some (N,n,z,F,G)):
  ∃f d b a g l c,e=[⟨some n,.move (.tmp N),f,d,b,none⟩,⟨some z,.call {callee:=.value (.func F),args:= #[.tmp n,.func G],argTypes:=a},g,l,c,none⟩]:=by
 unfold uO at h;split at h;split at h<;>simp_all;cases h
structure Wp where
 c0:Nat
 a1:Nat
 a2:Nat
 a3:Nat
 a4:Nat
 a5:Nat
 a6:Nat
 a7:Nat
 a8:Nat
 a9:Nat
 a10:Nat
 a11:Nat
 a12:Nat
 a13:Nat
 out:Nat
 ty1:TypeId
 ty2:TypeId
 te1:TypeId
 te2:TypeId
 te3:TypeId
 ts1:TypeId
 ts2:TypeId
 F:FuncId
 G:FuncId
def uH:List Nat->Bool
 |[]=>true
 |t::r=>!OE t r&&uH r
def oE: ∀{l:List Nat},uH l=true->l.Nodup
 |[],_=>OU
 |t::r,h=>by simp only[uH,BP,Wg]at h;exact GN.2 ⟨TT h.1,oE h.2⟩
def lM:Code->Code->Option Wp
 | .seq (.region _ o1 false) (.block b1 (.loop (.seq (.region _ o2 false) (.seq (.cond (.tmp x4) .skip (.exit b2)) (.block _ (.seq (.region _ o3 false) (.region _ o4 false))))))),.region _ o5 false=>
  match uN o1.toList,qW o2.toList,qX o3.toList,qY o4.toList,uO o5.toList with
  |some (c0,a1,a2,ty1,ty2),some (x2,a3,a4),some (y2,a5,a6,a7,te1,te2),some (out,x7,a8,a9,a10,a11,te3,ts1,ts2),some (out2,a12,a13,F,G)=>
   match (Nat.beq b1 b2&&(Nat.beq a4 x4&&(Nat.beq a2 x2&&(Nat.beq a2 y2&&(Nat.beq a7 x7&&Nat.beq out out2)))))&&uH [out,a1,a2,a3,a4,a5,a6,a7,a8,a9,a10,a11,a12,a13]with
   |true=>some ⟨c0,a1,a2,a3,a4,a5,a6,a7,a8,a9,a10,a11,a12,a13,out,ty1,ty2,te1,te2,te3,ts1,ts2,F,G⟩
   |false=>none
  |_,_,_,_,_=>none
 |_,_=>none
def Wp.tmps(p:Wp):List Nat:=[p.out,p.a1,p.a2,p.a3,p.a4,p.a5,p.a6,p.a7,p.a8,p.a9,p.a10,p.a11,p.a12,p.a13]
def Yb(A:List Nat):BV->BV
 |[]=>[]
 |(t,v)::r=>match OE t A with|true=>Yb A r|false=>(t,v)::Yb A r
def U6{A:List Nat}: ∀{env:BV} {q:Nat×TV},q∈Yb A env->q∈env/\q.1∉A
 |[],_,h=>by cases h
 |(t,v)::r,q,h=>by simp only[Yb]at h;split at h;exact⟨CV _ (U6 h).1,(U6 h).2⟩;rename_i a;rcases A3.1 h with rfl|h;exact⟨Jx,TT a⟩;exact⟨CV _ (U6 h).1,(U6 h).2⟩
theorem mq{A:List Nat}{u:Nat}(a:u∉A): ∀env:BV,(Yb A env).get u=env.get u
 |[]=>rfl
 |(t,v)::r=>by
  simp only[Yb,BV.get];split;rename_i b;have:t≠u:=λe=>by grind[VF]
  rw[beq_false this];exact mq a r;simp[BV.get,mq a r]
noncomputable def AAo(P:Program)(N:Nat)(cs:List RV)(p:Wp)(env:BV)(H:Am){R:Type}(k:BV->Am->Option R):Option R:=
 match env.get p.c0,env.get p.out with
 | .c (.raw (.ptr c 0 0)),.c .nil=>
  match H[c]? with
  |some (.live _ [.raw (.mp id)])=>
   match H[id]?,nv cs p.F,Enters P p.F with
   |some (.mp _ kk ty es),some (.c2 _ te [] [] [.fn (.func G) [] []] g),true=>
    if h:(Ty.list ty).beq (Ty.list te)=true then
     match tI P p.ty1,P.underlying p.ty2,tI P p.te2,tI P p.te3,Xq P p.te1,eI P p.ts1,eI P p.ts2 with
     |some (false,_),some (.map kt _),some (_,n2),some (tr3,n3),some z,some (none,e1,s1),some (none,e2,s2)=>
      match (Nat.beq G p.G&&(te.isAgg&&(Nat.beq n2 te.sz&&(tr3&&(Nat.beq n3 te.sz&&(Nat.beq z.length te.sz&&(Nat.beq s1 te.sz&&(Nat.beq s2 te.sz&&(RT P e1&&(RT P e2&&Nat.ble te.sz 4096))))))))))&&
        ((match P.underlying kt with|some (.int k2)=>decide (k2=kk)|_=>false)&&(rG H.length (Yb p.tmps env)&&(jO H.length H&&p.tmps.all λt=>Nat.blt t N)))with
      |true=>cond (decide (((es.length:Nat):Int)≤16777216))
        ((qb g (Ty.cast h (es.map (·.2)))).bind λs=>cond (Nat.beq s.length es.length) (k ((p.out,.c (.own H.length 0 te s.length))::Yb p.tmps env) (H++[.buf false te s s.length 0,.dead])) none) none
      |false=>none
     |_,_,_,_,_,_,_=>none
    else none
   |_,_,_=>none
  |_=>none
 |_,_=>none
theorem FA{q:Nat×AY}{v:AY}(h:q∈u)(a:q.1≠N):q∈u.put N v:=CV _ (Bc.2 ⟨h,q!⟩)
def uU:(N,i)∈u.put N i:=Jx
def lm{v:AY}:Env.get ((N,v)::u) N=v:=if_pos rfl
def vT{v:AY}(h:N≠n):Env.get ((N,v)::u) n=u.get n:=if_neg h
def fH(vals:List R)(seen:List Nat):List R:=seen.filterMap (vals[·]?)
theorem xh{b:List R}{x:R}(h:b[N]? =some x):fH b (a++[N])=fH b a++[x]:=by grind[fH]
theorem wC{b:Type}: ∀a:List b,(List.range a.length).filterMap (a[·]?)=a
 |[]=>rfl
 |x::r=>by
  rw[By,List.range_succ_eq_map,List.filterMap_cons];simp;have:((λi=>(x::r)[i]?)∘Nat.succ)=(r[·]?):=q!
  rw[this,wC r]
def xg{d:List R}(hn:a.Nodup)(c: ∀j∈a,j<d.length)(b: ∀j,j<d.length->j∈a):d.Perm (fH d a):=by have:=((jv List.nodup_range hn).2 λj=>⟨λh=>b j (I4.1 h),λh=>I4.2 (c j h)⟩).filterMap (d[·]?);rwa [wC]at this
section
variable {P:Program} {N:Nat} {env:Env} {H:Ar} {Q:Env->Ar->Prop} {ops:Array Oper}
def Vp.nil(h:Q env H):Vp P N ops [] env H Q:=⟨_,_,GC.refl _ _ _,h⟩
def Vp.cons(b:o.guard=none)(h:JT P N o env H λv a=>Vp P N ops e (env.putO o.dst v) a Q):Vp P N ops (o::e) env H Q:=by refine⟨_,_,GC.refl _ _ _,?_⟩;rw[b];exact h
end
variable {s:Hint}{C:Wp}
section
variable {P:Program} {N:Nat}
theorem tR(t:Ty)(l:List t.D): ∀v∈t.E.cl l,Pure v:=by intro v a;have⟨u,b,a⟩:=Hq.1 a;obtain⟨y,_,rfl⟩:=B0.1 b;exact UI (t.enc_pure y) v a
theorem ABg(h:Pure i)(p:Nat->Bool):i.idsAll p=true:=Qe (λ_ h=>by cases h) i h
theorem AA3{p q:Nat->Bool}(h: ∀id,p id=true->q id=true)(e:Eo)(k:e.idsAll p=true):e.idsAll q=true:=by cases e<;>grind[JQ,Eo.idsAll,List.all_eq_true,Qe]
theorem AEk(t:Ty)(g:Nat)(l:List t.D)(p:Nat->Bool):(Eo.live g (t.E.cl l)).idsAll p=true:=by grind[Eo.idsAll,De,ABg,tR]
theorem flt{a:Type}(p q:a->Bool)(b: ∀x,q x=true->p x=true)(e:a)(d:p e=true)(f:q e=false): ∀l:List a,e∈l->(l.filter q).length<(l.filter p).length
 |x::l,he=>by
  have c: ∀l:List a,(l.filter q).length<=(l.filter p).length:=by intro l;induction l<;>grind
  rcases A3.1 he with rfl|h;grind;have:=flt p q b e d f l h;grind
theorem AD9(h:A.Nodup){i j a b:Nat}(d:A[i]? =some a)(e:A[j]? =some b)(c:i≠j):a≠b:=by grind[List.getElem?_inj]
set_option maxHeartbeats 1000000 in
def zN{te:Ty}{kk:IntKind}{es:List (Int×te.D)}{Hb:Ar}{base:Env}{id a2 a3 a4 a5 a6 a7 a8 a9 a10 a11 out:Nat}{b1 b2:Nat}{i2 i3 i4:Nat}{o2 o3 o4:Array Oper}{te1 te2 te3 ts1 ts2:TypeId}{z:List AY}{e1 e2:TypeId}{bb:Bool}
  (h2:qW o2.toList=some (a2,a3,a4)) (h3:qX o3.toList=some (a2,a5,a6,a7,te1,te2)) (h4:qY o4.toList=some (out,a7,a8,a9,a10,a11,te3,ts1,ts2))
  (bN:[out,a2,a3,a4,a5,a6,a7,a8,a9,a10,a11].Nodup) (hN: ∀t∈[out,a2,a3,a4,a5,a6,a7,a8,a9,a10,a11],t<N) (hb: ∀q∈base,q.1∉ [out,a2,a3,a4,a5,a6,a7,a8,a9,a10,a11])
  (ax: ∀q∈base,(q.2.idsAll λj=>decide (j<Hb.length))=true) (ap: ∀e∈Hb,(e.idsAll λj=>decide (j<Hb.length))=true)
  (he:Hb[id]? =some (.mp kk (es.map λp=>(p.1,te.enc p.2)))) (ar:te.isAgg=true) (hz:Xq P te1=some z) (Z:z.length=te.sz) (b5:tI P te2=some (bb,te.sz)) (b6:tI P te3=some (true,te.sz))
  (b0:eI P ts1=some (none,e1,te.sz)) (b3:eI P ts2=some (none,e2,te.sz)) (bz:RT P e1=true) (bG:RT P e2=true) (b4:te.sz<=4096) (b7:es.length<=16777216):
  ∀(n:Nat) (seen:List Nat),seen.Nodup->(∀j∈seen,j<es.length)->((List.range es.length).filter λj=>!decide (j∈seen)).length<=n->(fH (es.map (·.2)) seen).length+((List.range es.length).filter λj=>!decide (j∈seen)).length<=es.length->
   Mg P N (.seq (.region i2 o2 false) (.seq (.cond (.tmp a4) .skip (.exit b1)) (.block b2 (.seq (.region i3 o3 false) (.region i4 o4 false)))))
    ((out,.sl Hb.length (fH (es.map (·.2)) seen).length te.sz 0 (fH (es.map (·.2)) seen).length)::(a2,.itp (Hb.length+1) id)::base)
    (Hb++[.live (fH (es.map (·.2)) seen).length (te.E.cl (fH (es.map (·.2)) seen)),.it es.length seen])
    λe E h=>e= .exit b1/\ ∃s,(es.map (·.2)).Perm s/\(∀q∈(out,AY.sl Hb.length s.length te.sz 0 s.length)::base,q∈E)/\h.length=Hb.length+2/\(∀j,j<Hb.length->h[j]? =Hb[j]?)/\h[Hb.length]? =some (.live s.length (te.E.cl s)):=by
 obtain⟨t1,p1,x1,t2,p2,x2,l2⟩:=oH h2;obtain⟨t3,p3,x3,t4,p4,x4,t5,p5,x5,t6,p6,x6,l3⟩:=oI h3;obtain⟨t7,p7,x7,t8,p8,x8,t9,p9,x9,b',b8,cb,ca,b9,cc,l4⟩:=oJ h4;have D:=λ(i j a b:Nat)=>AD9 (i:=i) (j:=j) (a:=a) (b:=b) bN;simp only[A3,List.not_mem_nil,or_false,forall_eq_or_imp,forall_eq]at hN;have d2:Kt N o2.toList=true:=by rw[l2];simp[Kt,hN]
 have d3:Kt N o3.toList=true:=by rw[l3];simp[Kt,hN]
 have d4:Kt N o4.toList=true:=by rw[l4];simp[Kt,hN]
 have a0:id<Hb.length:=by rcases Aq id Hb.length with h|h;exact h;rw[Cj h]at he;cases he
 have s0: ∀(A B C:Eo),(Hb++[A,B]).set (Hb.length+1) C=Hb++[A,C]:=λA B C=>by rw[SP _ _ o!,show Hb.length+1-Hb.length=1 by omega];rfl
 have s1: ∀(A B C D:Eo),(Hb++[A,B,C]).set (Hb.length+2) D=Hb++[A,B,D]:=λA B C D=>by rw[SP _ _ o!,show Hb.length+2-Hb.length=2 by omega];rfl
 have s2: ∀(A B C D:Eo),(Hb++[A,B,C]).set Hb.length D=Hb++[D,B,C]:=λA B C D=>by rw[SP _ _ (Ai _),Gu];rfl
 have g0: ∀(A:Eo) (r:List Eo),(Hb++A::r)[Hb.length]? =some A:=λA r=>by rw[Cb (Ai _),Gu];rfl
 have g1: ∀(A B:Eo) (r:List Eo),(Hb++A::B::r)[Hb.length+1]? =some B:=λA B r=>by rw[Cb o!,show Hb.length+1-Hb.length=1 by omega];rfl
 have g2: ∀(A B C:Eo) (r:List Eo),(Hb++A::B::C::r)[Hb.length+2]? =some C:=λA B C r=>by rw[Cb o!,show Hb.length+2-Hb.length=2 by omega];rfl
 have gm: ∀(r:List Eo),(Hb++r)[id]? =some (.mp kk (es.map λp=>(p.1,te.enc p.2))):=λr=>by rw[CK a0];exact he
 have Y:(es.map (·.2)).length=es.length:=Ds _;have J:0<te.sz:=te.sz_pos;intro n;induction n using Nat.strongRecOn with
 |ind n ih=>
  intro seen hn hl hr hm;obtain⟨L,hL⟩: ∃L,L=fH (es.map (·.2)) seen:=⟨_,rfl⟩
  rw[<-hL]at hm⊢;refine SY (Mf.seq (Fw d2 ?_));rw[l2];apply Vp.cons rfl;have d:(es.map λp=>(p.1,te.enc p.2)).length=es.length:=Ds _;have ad:out≠a2:=D 0 1 _ _ rfl rfl g!;refine JT.next (x:=.tmp a2) (id:=Hb.length+1) (m:=id) (k:=kk) (es:=es.map λp=>(p.1,te.enc p.2)) (seen:=seen) rfl ?_ ?_ (gm _) ?_ ?_
  show Env.get _ a2=_;rw[vT ad,lm];rw[d];exact g1 _ _ _;intro G;refine Vp.cons rfl (Du (v:=.bool false) ?_ (Vp.nil ?_));show CU _ _ _ (.extract (.tmp a3) 0)=_;simp only[CU,BH,Env.putO,GK,if_true];rfl;refine Mf.seq (Mf.cond (b:=false) ?_ (λh=>by cases h) (λ_=>Mf.exit ?_));simp only[BH,Env.putO,GK,if_true];refine⟨rfl,L,?_,λq o=>?_,k!,λj hj=>CK hj,g0 _ _⟩;rw[hL];exact xg hn (by rw[Y];exact hl) (by rw[Y];rw[d]at G;exact G);have al:out≠a3:=D 0 2 _ _ rfl rfl g!;have ao:out≠a4:=D 0 3 _ _ rfl rfl g!;rcases A3.1 o with rfl|o;exact FA (FA Jx al) ao;have:=hb q o;simp only[A3,not_or]at this;exact FA (FA (CV _ (CV _ o)) this.2.2.1) this.2.2.2.1;intro j p hj S;rw[CO]at hj;obtain⟨q,o,e⟩:=Wy.1 hj;subst e;rw[d,s0];refine Vp.cons rfl (Du (v:=.bool true) ?_ (Vp.nil ?_));show CU _ _ _ (.extract (.tmp a3) 0)=_;simp only[CU,BH,Env.putO,GK,if_true];rfl;have k2: ∀(m:Nat) (v w:AY),Env.get (Env.put (Env.put ((out,AY.sl Hb.length m te.sz 0 m)::(a2,AY.itp (Hb.length+1) id)::base) a3 v) a4 w) a2= .itp (Hb.length+1) id:=λm v w=>by rw[GK,if_neg (D 1 3 _ _ rfl rfl g!),GK,if_neg (D 1 2 _ _ rfl rfl g!),vT ad,lm]
  have ko: ∀(m:Nat) (v w:AY),Env.get (Env.put (Env.put ((out,AY.sl Hb.length m te.sz 0 m)::(a2,AY.itp (Hb.length+1) id)::base) a3 v) a4 w) out= .sl Hb.length m te.sz 0 m:=λm v w=>by rw[GK,if_neg (D 0 3 _ _ rfl rfl g!),GK,if_neg (D 0 2 _ _ rfl rfl g!),lm]
  have kb: ∀(m:Nat) (v w:AY),∀q∈base,q∈Env.put (Env.put ((out,AY.sl Hb.length m te.sz 0 m)::(a2,AY.itp (Hb.length+1) id)::base) a3 v) a4 w:=λm v w q o=>by have:=hb q o;simp only[A3,not_or]at this;exact FA (FA (CV _ (CV _ o)) this.2.2.1) this.2.2.2.1
  have ki: ∀(m:Nat) (v w:AY),(a2,AY.itp (Hb.length+1) id)∈Env.put (Env.put ((out,AY.sl Hb.length m te.sz 0 m)::(a2,AY.itp (Hb.length+1) id)::base) a3 v) a4 w:=λm v w=>FA (FA (CV _ Jx) (D 1 2 _ _ rfl rfl g!)) (D 1 3 _ _ rfl rfl g!);refine Mf.seq (Mf.cond (b:=true) ?_ (λ_=>Mf.skip ?_) (λh=>by cases h));simp only[BH,Env.putO,GK,if_true];dsimp only[tC];refine Mf.block (Mf.seq (Fw d3 ?_));rw[l3];generalize K:Env.putO (Env.putO ((out,AY.sl Hb.length L.length te.sz 0 L.length)::(a2,AY.itp (Hb.length+1) id)::base) (some a3) (.tup [.bool true,.int kk q.1,te.enc q.2])) (some a4) (.bool true)=E;have k2:Env.get E a2= .itp (Hb.length+1) id:=by rw[<-K];exact k2 _ _ _
  have ko:Env.get E out= .sl Hb.length L.length te.sz 0 L.length:=by rw[<-K];exact ko _ _ _
  have kb: ∀q∈base,q∈E:=by rw[<-K];exact kb _ _ _
  have ki:(a2,AY.itp (Hb.length+1) id)∈E:=by rw[<-K];exact ki _ _ _
  clear K;refine Vp.cons rfl (JT.entry (x:=.tmp a2) (id:=Hb.length+1) (m:=id) (j:=j) (k:=kk) (es:=es.map λp=>(p.1,te.enc p.2)) (seen:=seen) (p:=(q.1,te.enc q.2)) rfl k2 ?_ (gm _) (by rw[CO,o];rfl) ?_);rw[d];exact g1 _ _ _;have f:te.enc q.2= .agg (te.enc q.2).cells:=Ty.agg_enc ar q.2;have l:(te.enc q.2).cells.length=te.sz:=te.enc_len q.2;have U:(te.enc q.2).solid=true:=by rw[f];rfl
  refine Vp.cons rfl (Du (v:=te.enc q.2) ?_ (Vp.cons rfl (JT.alloc rfl hz ?_)));show CU _ _ _ (.extract (.tmp a5) 1)=_;simp only[CU,BH,Env.putO,GK,if_true];rfl;have a1:(Hb++[Eo.live L.length (te.E.cl L),Eo.it es.length (seen++[j])]).length=Hb.length+2:=k!
  rw[a1,Ay];show Vp P N o3 _ _ (Hb++[Eo.live L.length (te.E.cl L),Eo.it es.length (seen++[j]),Eo.live 0 z]) _;refine Vp.cons rfl (JT.store (id:=Hb.length+2) (g:=0) (off:=0) (v:=te.enc q.2) (cs:=z) (b:=bb) rfl ?_ ?_ U (g2 _ _ _ _) (by rw[l];exact b5) (by rw[l,Z];omega) (Vp.nil ?_));simp only[BH,Env.putO,GK,if_true];simp only[BH,Env.putO,GK];rw[if_neg (D 5 6 _ _ rfl rfl g!),if_pos trivial];have T:Vm z 0 (te.enc q.2).cells=(te.enc q.2).cells:=by unfold Vm;rw[List.take_zero,Cn,l,<-Z,EQ,List.drop_length,Dr]
  rw[T,s1];simp only[Env.putO];generalize F:Env.put (Env.put (Env.put E a5 (.tup [.int kk q.1,te.enc q.2])) a6 (te.enc q.2)) a7 (.ptr (Hb.length+2) 0 0)=E1;have j7:Env.get E1 a7= .ptr (Hb.length+2) 0 0:=by rw[<-F,GK,if_pos rfl]
  have jo:Env.get E1 out= .sl Hb.length L.length te.sz 0 L.length:=by rw[<-F,GK,if_neg (D 0 6 _ _ rfl rfl g!),GK,if_neg (D 0 5 _ _ rfl rfl g!),GK,if_neg (D 0 4 _ _ rfl rfl g!),ko]
  have jb: ∀q∈base,q∈E1:=λu I=>by have:=hb u I;simp only[A3,not_or]at this;rw[<-F];exact FA (FA (FA (kb u I) this.2.2.2.2.1) this.2.2.2.2.2.1) this.2.2.2.2.2.2.1
  have ji:(a2,AY.itp (Hb.length+1) id)∈E1:=by rw[<-F];exact FA (FA (FA ki (D 1 4 _ _ rfl rfl g!)) (D 1 5 _ _ rfl rfl g!)) (D 1 6 _ _ rfl rfl g!)
  clear F;apply Fw d4;rw[l4];refine Vp.cons rfl (Du (v:=.sl Hb.length L.length te.sz 0 L.length) (congrArg some jo) (Vp.cons rfl (Du (v:=te.enc q.2) ?_ (Vp.cons rfl (Ue (sz:=te.sz) (vs:=[te.enc q.2]) rfl ?_ (Vp.cons rfl ?_))))));show fG P te3 _ (BH _ (.tmp a7))=_;simp only[BH,Env.putO,GK];rw[if_neg (D 6 7 _ _ rfl rfl g!),j7];simp only[fG,b6,Pd,g2];rw[if_pos ⟨trivial,by rw[l];omega⟩,iS,<-l,Hs];exact congrArg some f.symm;simp only[R9,b0];rw[if_pos];simp only[BH,Env.putO,GK,if_true,Bo,I3];refine⟨J,bz,rfl,?_,g!,b4⟩;simp only[BH,Env.putO,GK,if_true,Bo,I3,mT,mU,U,l,decide_true,Sm];have R:j<es.length:=by rcases Aq j es.length with h|h;exact h;rw[Cj h]at o;cases o
  have bt:((List.range es.length).filter λi=>!decide (i∈seen++[j])).length<((List.range es.length).filter λi=>!decide (i∈seen)).length:=flt (λi=>!decide (i∈seen)) (λi=>!decide (i∈seen++[j])) (λx f=>by simp at f⊢;exact f.1) j (by simpa using S) k! _ (I4.2 R);have O:fH (es.map (·.2)) (seen++[j])=L++[q.2]:=by rw[hL];exact xh (by rw[CO,o];rfl)
  refine RS (sx:=.tmp a8) (xx:=.tmp a10) (t:=ts2) (e:=e2) (id:=Hb.length) (g:=L.length) (g':=L.length+1) (n:=L.length) (sz:=te.sz) (m:=1) (cs:=te.E.cl L) (news:=(te.enc q.2).cells) rfl b3 J bG ?_ (g0 _ _) (te.E.clen L) ?_ o! (.inl o!) ?_;show Env.get _ a8=_;simp only[Env.putO,GK];rw[if_neg (D 7 9 _ _ rfl rfl g!),if_neg (D 7 8 _ _ rfl rfl g!),if_pos trivial];simp only[BH,Env.putO,GK,if_true,NY,By,Bs,IJ,iU,Dr];rw[s2];refine Vp.cons rfl (Du (v:=.sl Hb.length (L.length+1) te.sz 0 (L.length+1)) ?_ (Vp.nil ?_));show some (Env.get _ a11)=_;simp only[Env.putO,GK,if_true];have Q:te.E.cl L++(te.enc q.2).cells=te.E.cl (L++[q.2]):=by simp[UQ.cl];rfl
  rw[Q];have bl:(L++[q.2]).length=L.length+1:=k!
  show∃env2 H2,GC N _ _ _ env2 H2/\_;refine⟨_,_,?_,ih _ (DO bt hr) (seen++[j]) ?_ ?_ (Ai _) (by rw[O];omega)⟩;rw[O,bl];generalize M:Env.putO _ (some out) _=E3;have V: ∀u∈(out,AY.sl Hb.length (L.length+1) te.sz 0 (L.length+1))::(a2,AY.itp (Hb.length+1) id)::base,u∈E3:=by intro u I;rw[<-M];simp only[Env.putO];rcases A3.1 I with rfl|I;exact uU;rcases A3.1 I with rfl|I;exact FA (FA (FA (FA (FA ji (D 1 7 _ _ rfl rfl g!)) (D 1 8 _ _ rfl rfl g!)) (D 1 9 _ _ rfl rfl g!)) (D 1 10 _ _ rfl rfl g!)) (D 1 0 _ _ rfl rfl g!);have:=hb u I;simp only[A3,not_or]at this;exact FA (FA (FA (FA (FA (jb u I) this.2.2.2.2.2.2.2.1) this.2.2.2.2.2.2.2.2.1) this.2.2.2.2.2.2.2.2.2.1) this.2.2.2.2.2.2.2.2.2.2.1) this.1
  clear M;have w1:=GC.subset (N:=N) (H:=Hb++[Eo.live (L.length+1) (te.E.cl (L++[q.2])),Eo.it es.length (seen++[j]),Eo.live 0 (te.enc q.2).cells]) V;have W:(Hb++[Eo.live (L.length+1) (te.E.cl (L++[q.2])),Eo.it es.length (seen++[j]),Eo.live 0 (te.enc q.2).cells]).take (Hb.length+2)=Hb++[Eo.live (L.length+1) (te.E.cl (L++[q.2])),Eo.it es.length (seen++[j])]:=by rw[jx,BS o!,show Hb.length+2-Hb.length=2 by omega];rfl
  have w2:=GC.cut (N:=N) (n0:=Hb.length+2) (env:=(out,AY.sl Hb.length (L.length+1) te.sz 0 (L.length+1))::(a2,AY.itp (Hb.length+1) id)::base) (H:=Hb++[Eo.live (L.length+1) (te.E.cl (L++[q.2])),Eo.it es.length (seen++[j]),Eo.live 0 (te.enc q.2).cells]) k! (λt v X=>by
   rcases A3.1 X with e|X;injection e with _ e;subst e;exact decide_eq_true o!;rcases A3.1 X with e|X;injection e with _ e;subst e;simp only[AY.idsAll,BP,decide_eq_true_eq];omega;exact Qe (λi hi=>decide_eq_true (by have:=of_decide_eq_true hi;omega)) v (ax _ X)) (by
   rw[W];intro e c;rcases An.1 c with c|c;exact AA3 (λi hi=>decide_eq_true (by have:=of_decide_eq_true hi;omega)) e (ap e c);rcases A3.1 c with rfl|c;exact AEk te _ _ _;simp only[BA]at c;subst c;rfl)
  rw[W]at w2;have a':(Hb++[Eo.live L.length (te.E.cl L),Eo.it es.length seen]).length=Hb.length+2:=k!
  rw[a'];exact(w1.of_le k!).trans w2;refine P4.2 ⟨hn,k!,λx f y hy=>?_⟩;simp only[BA]at hy;subst hy;rintro rfl;exact S f;intro x f;rcases An.1 f with f|f;exact hl x f;simp only[BA]at f;subst f;exact R
def lO(h:lM d J=some C): ∃x k i y l r z n A o B q,
  d= .seq (.region x k false) (.block i (.loop (.seq (.region y l false) (.seq (.cond (.tmp C.a4) .skip (.exit i)) (.block r (.seq (.region z n false) (.region A o false)))))))/\J= .region B q false/\
  uN k.toList=some (C.c0,C.a1,C.a2,C.ty1,C.ty2)/\qW l.toList=some (C.a2,C.a3,C.a4)/\qX n.toList=some (C.a2,C.a5,C.a6,C.a7,C.te1,C.te2)/\
  qY o.toList=some (C.out,C.a7,C.a8,C.a9,C.a10,C.a11,C.te3,C.ts1,C.ts2)/\uO q.toList=some (C.out,C.a12,C.a13,C.F,C.G)/\C.tmps.Nodup:=by
 unfold lM at h;split at h;split at h;rename_i s t u v w;split at h;rename_i j;simp only[BP]at j;have⟨⟨b,c,a,e,f,g⟩,hn⟩:=j;have b:=DN b;have c:=DN c;have a:=DN a;have e:=DN e;have f:=DN f;have g:=DN g;subst b c a e f g;cases h;exact⟨_,_,_,_,_,_,_,_,_,_,_,_,rfl,rfl,s,t,u,v,w,oE hn⟩;cases h;cases h;cases h
set_option maxHeartbeats 1000000 in
def AAp{cs:List RV}(ct: ∀c∈cs,c.Ok P){a m:Code}{p:Wp}(hp:lM a m=some p){env:BV}{H:Am}{R:Type}{k:BV→Am→Option R}{r:R}(ok:PJ env H)(o:AAo P N cs p env H k=some r):
  ∃A H',Mf P N a (B6 env) (BC H) (tC (λE h=>Mf P N m E h (XE .normal (B6 A) (BC H'))) (λ_ _ _=>False))/\k A H'=some r/\PJ A H'/\FT p.tmps env H A H':=by
 obtain⟨i1,o1,T,i2,o2,J,i3,o3,i4,o4,i5,o5,rfl,rfl,p1,p2,p3,p4,p5,b4⟩:=lO hp;unfold AAo at o;split at o;rename_i c ck b5;split at o;rename_i ro id hc;split at o;rename_i c4 kk n I F te G g a1 hF hE;split at o;rename_i cS;split at o;rename_i y1 kt et b' n2 c5 n3 z e1 s1 e2 s2 t1 t2 t3 t4 t5 t6 t7;split at o;rename_i hb;have cW:n=te:=by have:=Ty.beq_eq _ _ cS;injection this
 subst cW;simp only[BP]at hb;obtain⟨⟨bG,b9,V,ce,W,bz,Y,Z,cc,cd,ad⟩,U,ca,cb,bN⟩:=hb;have bG:=DN bG;have V:=DN V;have W:=DN W;have bz:=DN bz;have Y:=DN Y;have Z:=DN Z;have ad:=Kr ad;subst V W Y Z ce;have c3:P.underlying kt=some (.int kk):=by split at U;rename_i k2 e;rw[e,of_decide_eq_true U];cases U
 cases ao:decide (((I.length:Nat):Int)<=16777216)with
 |false=>rw[ao]at o;cases o
 |true=>
  have bt:I.length<=16777216:=by have:=of_decide_eq_true ao;omega
  rw[ao]at o;obtain⟨s,hs,o⟩:=EC.1 (show Option.bind _ _=some r from o);have hs:=xS hs;cases L:Nat.beq s.length I.length with
  |false=>rw[L]at o;cases o
  |true=>
   rw[L]at o;have o:k ((p.out,.c (.own H.length 0 n s.length))::Yb p.tmps env) (H++[.buf false n s s.length 0,.dead])=some r:=o;have L:=DN L;obtain⟨c6,q1,x1,c8,q2,x2,l1⟩:=oG p1;obtain⟨c9,q3,x3,c1,c',q4,x4,l5⟩:=oK p5;have D:=λ(i j a b:Nat)=>AD9 (i:=i) (j:=j) (a:=a) (b:=b) b4;have hN: ∀t∈p.tmps,t<N:=λt ht=>Kr (GD.1 bN t ht);have d1:Kt N o1.toList=true:=by rw[l1];simp[Kt,mT,mU,PL,BP,decide_eq_true_eq];exact⟨hN _ (by simp[Wp.tmps]),hN _ (by simp[Wp.tmps])⟩
   have d5:Kt N o5.toList=true:=by rw[l5];simp[Kt,mT,mU,PL,BP,decide_eq_true_eq];exact⟨hN _ (by simp[Wp.tmps]),hN _ (by simp[Wp.tmps])⟩
   have M:(B6 env).get p.out= .nils:=by rw[Tn,b5];rfl
   have al:(B6 env).get p.c0= .ptr c 0 0:=by rw[Tn,ck];rfl
   have co:p.c0≠p.out:=λe=>by rw[e,M]at al;cases al
   have cm:c<H.length:=G9 hc;have a':id<H.length:=G9 a1;have d:(BC H).length=H.length:=CW H;have cf:(BC H)[c]? =some (.live 0 [.mp id]):=by rw[FX,hc];rfl
   have O:(BC H)[id]? =some (.mp kk (I.map λp=>(p.1,n.enc p.2))):=by rw[FX,a1];rfl
   have x: ∀q∈B6 (Yb p.tmps env),q∈B6 env/\q.1∉p.tmps:=λq y=>by obtain⟨u,hu,rfl⟩:=B0.1 y;exact⟨B0.2 ⟨u,(U6 hu).1,rfl⟩,(U6 hu).2⟩
   have ci: ∀q∈B6 (Yb p.tmps env),(q.2.idsAll λj=>decide (j<(BC H).length))=true:=λq y=>by obtain⟨u,hu,rfl⟩:=B0.1 y;rw[d];exact db (ic ca u hu)
   have ch: ∀e∈BC H,(e.idsAll λj=>decide (j<(BC H).length))=true:=by rw[d];exact ii cb
   have step:CC H (H++[.buf false n s s.length 0,.dead]):=by have:=(CC.push H (.buf false n s s.length 0)).trans (CC.push _ .dead);rwa [Ay]at this
   have b6:(Bk.own H.length 0 n s.length).ok (H++[.buf false n s s.length 0,.dead]):=by apply Wl (b:=false) (l:=s);rw[Cb (Ai _),Gu];rfl
   refine⟨(p.out,.c (.own H.length 0 n s.length))::Yb p.tmps env,H++[.buf false n s s.length 0,.dead],?_,o,⟨λq y=>?_,?_⟩,step,λu hu _=>?_⟩;refine Mf.weak (GC.virt (t:=p.out) (sz:=n.sz) M) (Mf.seq (Fw d1 ?_));rw[l1];have cG:CU P ((B6 env).put p.out (.sl (BC H).length 0 n.sz 0 0)) (BC H++[.live 0 []]) (.load p.ty1 (.tmp p.c0))=some (.mp id):=by simp[CU,BH,GK];rw[if_neg co,al];simp[fG,t1,Pd];rw[CK (by rw[d];exact cm),cf];rfl
   have bl:(BC H++[Eo.live 0 []])[id]? =some (.mp kk (I.map λp=>(p.1,n.enc p.2))):=by rw[CK (by rw[d];exact a'),O]
   refine Vp.cons rfl (Du cG (Vp.cons rfl (JT.range (id:=id) (k:=kk) (es:=I.map λp=>(p.1,n.enc p.2)) rfl ?_ t2 bl (Vp.nil ?_))));simp[BH,Env.putO,GK,if_true];rw[Ds,Ad,Ay];dsimp[tC,Env.putO];refine Mf.block (Mf.of_loopW ?_);have ax:[p.out,p.a2,p.a3,p.a4,p.a5,p.a6,p.a7,p.a8,p.a9,p.a10,p.a11].Sublist p.tmps:=.cons₂ _ (.cons _ (.cons₂ _ (.cons₂ _ (.cons₂ _ (.cons₂ _ (.cons₂ _ (.cons₂ _ (.cons₂ _ (.cons₂ _ (.cons₂ _ (.cons₂ _ (.cons _ (.cons _ .slnil)))))))))))));have b8:=zN (P:=P) (N:=N) (te:=n) (kk:=kk) (es:=I) (Hb:=BC H) (base:=B6 (Yb p.tmps env)) (id:=id) (out:=p.out) (a2:=p.a2) (a3:=p.a3) (a4:=p.a4) (a5:=p.a5) (a6:=p.a6) (a7:=p.a7) (a8:=p.a8) (a9:=p.a9) (a10:=p.a10) (a11:=p.a11)
    (b1:=T) (b2:=J) (i2:=i2) (i3:=i3) (i4:=i4) (bb:=b') p2 p3 p4 ?_ ?_ ?_ ci ch O b9 t5 bz t3 t4 t6 t7 cc cd ad bt I.length [] OU (λj B=>by cases B) (by simpa using List.length_filter_le _ (List.range I.length)) (by have:=IL (λj=>!decide (j∈([]:List Nat))) (List.range I.length);simpa[fH]using this)
   refine Mg.mono (Mg.weak ?_ b8) ?_;refine GC.subset (N:=N) (H:=BC H++[Eo.live 0 [],Eo.it I.length []]) λq y=>?_;rcases A3.1 y with rfl|y;exact FA (FA uU (D 0 1 _ _ rfl rfl g!)) (D 0 2 _ _ rfl rfl g!);rcases A3.1 y with rfl|y;exact uU;obtain⟨T,J⟩:=x q y;simp[Wp.tmps,A3,not_or]at J;exact FA (FA (FA T J.1) J.2.1) J.2.2.1;rintro e E h ⟨rfl,C,K,b7,Q,ar,ap⟩;show ma T _ (.exit T) E h;simp[ma,if_true,tC];refine Mf.weak (GC.subset b7) (Mf.after (Fw d5 ?_));rw[l5];obtain⟨b3,hf⟩:=kK hF;have a0:s.length=C.length:=by rw[L,<-K.length_eq,Ds]
   have hA:=ct _ b3 C () s (hs C K) a0 h (BC H).length ap;simp[RV.f]at hf;rw[hf]at hA;refine Vp.cons rfl (Du (v:=.sl (BC H).length C.length n.sz 0 C.length) (congrArg some lm) (Vp.cons rfl (JT.mono (mA (F:=p.F) (vs:=[.sl (BC H).length C.length n.sz 0 C.length,.fn (.func G) [] []]) ?_ hE hA) ?_)));show some (Sum.inl (p.F,[]++[Env.get _ p.a12,AY.fn (.func p.G) [] []]++[]))=_;simp only[Env.putO,GK,if_true,bG];rfl;rintro _ _ ⟨rfl,rfl⟩;refine Vp.nil ⟨_,_,?_,rfl,rfl,rfl⟩;have cB:(h.set (BC H).length (.live C.length (n.E.cl s))).length=h.length:=k!
   rw[<-cB];refine VN (by simp[BC];rw[Q,d]) λX g' w _=>?_;have hr:Ta (cx X g' (h.set (BC H).length (.live C.length (n.E.cl s))) w) (cx X g' (h.set (BC H).length (.live C.length (n.E.cl s))) w) (h.set (BC H).length (.live C.length (n.E.cl s))) (BC (H++[.buf false n s s.length 0,.dead])):=by
    refine⟨by simp[BC];rw[Q,d],λj e' B=>?_⟩;have same:(h.set (BC H).length (.live C.length (n.E.cl s)))[j]? =some e'->e'= .dead\/_:=λhh=>(Ta.refl (cx X g' (h.set (BC H).length (.live C.length (n.E.cl s))) w) (h.set (BC H).length (.live C.length (n.E.cl s)))).2 j e' hh;have cv:BC (H++[.buf false n s s.length 0,.dead])=BC H++[Eo.live s.length (n.E.cl s),Eo.dead]:=by simp[BC,D5.enc]
    rw[cv]at B;rcases P7 j (BC H).length with b0|rfl|c2;rw[CK b0]at B;exact same (by rw[EA o!,ar j b0];exact B);rw[Cb (Ai _),Gu]at B;exact same (by rw[IK o!,<-a0];exact B);rw[Cb o!]at B;rcases P7 (j-(BC H).length) 1 with q|q|q;omega;rw[q]at B;injection B with B;exact .inl B.symm;rw[Cj w!]at B;cases B
   refine⟨hr.onto,λt v' S=>⟨v',?_,λc r=>r.later hr.later⟩⟩;simp[Env.putO];have S:(t,v')∈(p.out,AY.sl (BC H).length s.length n.sz 0 s.length)::B6 (Yb p.tmps env):=by rw[d];exact S
   rcases A3.1 S with e|S;cases e;rw[a0];exact FA (FA Jx (D 0 12 _ _ rfl rfl g!)) (D 0 13 _ _ rfl rfl g!);obtain⟨T,J⟩:=x _ S;simp only[Wp.tmps,A3,not_or]at J;exact FA (FA (CV _ S) J.2.2.2.2.2.2.2.2.2.2.2.2.1) J.2.2.2.2.2.2.2.2.2.2.2.2.2.1;exact b4.sublist ax;exact λt ht=>hN t (ax.subset ht);exact λq y S=>(x q y).2 (ax.subset S);rcases A3.1 y with rfl|y;exact Jz b6;exact step.tv (ok.env q (U6 y).1);intro e he;rcases An.1 he with he|he;exact step.ent (ok.heap e he);simp[A3,List.not_mem_nil,or_false]at he;rcases he with rfl|rfl;rfl;trivial;show BV.get _ u=_;have:p.out≠u:=λe=>hu (by rw[<-e];simp[Wp.tmps]);simp[BV.get,beq_false this];exact mq hu env
 cases o;cases o;cases o;cases o;cases o;cases o
end
abbrev Sem:= ∀{R:Type},BV->Am->(Exit->BV->Am->Option R)->Option R
def mK:List (Nat×Ty)->BV->Am->Option (BV×Am)
 |[],env,H=>some (env,H)
 |(t,ty)::r,env,H=>
  match env.get t with
  | .c .nil=>mK r (env.put t (.c (.own H.length 0 ty 0))) (H++[.buf false ty [] 0 0])
  |_=>none
def pZ:Nat->List Bk->Option (List Bk×List Bk)
 |0,.nil::r=>some ([],r)
 |n+1,x::r=>match pZ n r with|some (a,b)=>some (x::a,b)|none=>none
 |_,_=>none
def iJ:List (Nat×Nat×Ty)->Am->Option Am
 |[],H=>some H
 |(b,i,ty)::r,H=>
  match H[b]? with
  |some (.live false cs)=>
   match pZ i cs with
   |some (x,y)=>iJ r (H.set b (.live false (x++ .own H.length 0 ty 0::y))++[.buf false ty [] 0 0])
   |none=>none
  |_=>none
def ADS(h:Hint)(env:BV)(H:Am):Option (BV×Am):=
 match mK h.virt env H with
 |some (e,H1)=>match iJ h.virtC H1 with|some H2=>some (e,H2)|none=>none
 |none=>none
def ADG(h:Hint)(n:Nat)(eb:BV)(H0:Am)(S:List Nat)(k:Exit->BV->Am->Option R)(o:uK h.exits):Option R:=
 AE8 h.exits o λx sl ds=>
  match V6 sl ds eb H0 with
  |some (e,hh)=>match rG n e&&(jO n hh&&S.all λj=>OE j (Le sl))with|true=>k x e hh|false=>none
  |none=>none
def ABE(h:Hint)(A:List Nat)(run:Sem):Sem:=λenv H k=>
 match ADS h env H with
 |none=>none
 |some (env0,H0)=>
  match nN env0 with
  |false=>none
  |true=>(run env0 (Me (Le h.slots) 0 H0) λx e1 h1=>xM h.exits x e1 h1).bind λo=>ADG h H0.length (QB A (Le h.slots) H0 env0) H0 (Le h.slots) k o
def yT(h:Hint)(x:Exit)(env:BV)(H:Am):Option (Step (DL (eX h.slots)) (uK h.exits)):=
 match vN .normal x with
 |true=>match u7 h.slots env H with|some s=>some (.next s)|none=>none
 |false=>match xM h.exits x env H with|some o=>some (.done o)|none=>none
noncomputable def ABK(h:Hint)(A:List Nat)(run:Sem):Sem:=λenv H k=>
 match ADS h env H with
 |none=>none
 |some (env1,H1)=>
  match HS (h.kill++jr env1 H1 h.slots) env1 H1 with
  |(env0,H0)=>
   match nN env0,ZT env0 H0 h.slots with
   |true,some ds=>
    match xI (eX h.slots) ds with
    |some s0=>(Af (λs=>
      match V6 h.slots (dvs (eX h.slots) s) (QB A (Le h.slots) H0 env0) (Me (Le h.slots) 0 H0)with
      |some (e,hh)=>match rG H0.length e&&jO H0.length hh with|true=>run e hh λx e1 h1=>yT h x e1 h1|false=>none
      |none=>none) s0).bind λo=>ADG h H0.length (QB A (Le h.slots) H0 env0) H0 (Le h.slots) k o
    |none=>none
   |_,_=>none
def yG(c:Operand)(ra rb:Sem):Sem:=λenv H k=>
 match I9 env c with
 | .c (.bl v)=>cond v (ra env H k) (rb env H k)
 |_=>none
def wj(id:Nat)(r:Sem):Sem:=λenv H k=>r env H λe env' H'=>
 match e with
 | .exit id'=>match Nat.beq id' id with|true=>k .normal env' H'|false=>k (.exit id') env' H'
 |e=>k e env' H'
def sQ(o:Option Hint)(A:List Nat)(run:Sem):Sem:=
 match o with
 |some h=>ABE h A run
 |none=>run
noncomputable def AD6(o:Option Hint)(A:List Nat)(run:Sem):Sem:=
 match o with
 |some h=>ABK h A run
 |none=>λ_ _ _=>none
def eS:BV->BV
 |[]=>[]
 |(t,v)::r=>match K4 v.refs with|[]=>(t,v)::eS r|_=>eS r
def xW(P:Program)(call:Qr)(N:Nat)(me:FuncId)(f:Operand)(ps:Array Tmp)(a b:Code):Sem:=λenv H k=>
 match I9 env f with
 | .c (.raw (.fn (.func G) first caps))=>
  match Enters P G with
  |true=>call (.fn G) (first.map tvA++[.c (.raw (.yf H.length))]++caps.map tvA) (H++[.lp false me N (eS env) ps a b .ready]) λ_ H'=>
   match H'[H.length]? with
   |some (.lp false _ _ _ _ _ _ .ready)=>k .normal env (H'.set H.length .dead)
   |some (.lp false _ _ _ _ _ _ .ret)=>k .ret env (H'.set H.length .dead)
   |some (.lp false _ _ _ _ _ _ (.exit x))=>k (.exit x) env (H'.set H.length .dead)
   |_=>none
  |false=>none
 |_=>none
noncomputable def kY(P:Program)(cs:List RV)(call:Qr)(N:Nat)(me:FuncId)(hs:List Hint):Code->Sem
 | .skip=>λenv H k=>k .normal env H
 | .ret=>λenv H k=>k .ret env H
 | .exit id=>λenv H k=>k (.exit id) env H
 | .seq a (.seq m r)=>λenv H k=>
  match lM a m with
  |some p=>AAo P N cs p env H λenv' H'=>kY P cs call N me hs r env' H' k
  |none=>kY P cs call N me hs a env H λe env' H'=>match e with| .normal=>kY P cs call N me hs (.seq m r) env' H' k|e=>k e env' H'
 | .seq a b=>sQ (ov hs a b) (Qi hs (.seq a b)) λenv H k=>kY P cs call N me hs a env H λe env' H'=>match e with| .normal=>kY P cs call N me hs b env' H' k|e=>k e env' H'
 | .cond c a b=>sQ (eN hs (.cond c a b)) (Qi hs (.cond c a b)) (yG c (kY P cs call N me hs a) (kY P cs call N me hs b))
 | .block id b=>sQ (eN hs (.block id b)) (Qi hs (.block id b)) (wj id (kY P cs call N me hs b))
 | .loop b=>AD6 (eN hs (.loop b)) (Qi hs (.loop b)) (kY P cs call N me hs b)
 | .region id ops false=>sQ (eN hs (.region id ops false)) (Qi hs (.region id ops false)) λenv H k=>
  match Kt N ops.toList with
  |true=>ql P cs call ops (guards ops) false ops.toList 0 env H λenv' H'=>k .normal env' H'
  |false=>none
 | .region id ops true=>λenv H k=>
  match P.follows .mixedOrders&&yo ops N (xT ops)&&VL P ops&&nN env with
  |true=>xf P cs call ops (IT ops.toList []) (guards ops) (match lT 3 id hs with|some _=>true|none=>false) (xT ops) [] env H λenv' H'=>k .normal env' H'
  |false=>none
 | .rangeFunc f ps a b=>xW P call N me f ps a b
 |_=>λ_ _ _=>none
def ADh{f:List Hint}(j: ∀m r,J≠ .seq m r)(env:BV)(H:Am)(h:Exit→BV→Am→Option R):
  kY P c k N F f (.seq d J) env H h=sQ (ov f d J) (Qi f (.seq d J)) (λenv H h=>kY P c k N F f d env H λe g i=>match e with| .normal=>kY P c k N F f J g i h|e=>h e g i) env H h:=by
 cases J<;>first|rfl|exact absurd rfl (j _ _)
def Pf(P:Program)(N:Nat)(A:List Nat)(c:Code)(run:Sem):Prop:= ∀{R:Type} (env:BV) (H:Am) (k:Exit->BV->Am->Option R) (r:R),PJ env H->run env H k=some r->
 ∃e env' H',rT P N c (B6 env) (BC H) (XE e (B6 env') (BC H'))/\k e env' H'=some r/\PJ env' H'/\FT A env H env' H'
theorem yy: ∀{l:List (Nat×Ty)} {env:BV} {H:Am} {a:BV} {b:Am},PJ env H→mK l env H=some (a,b)→
  PJ a b/\FT (l.map (·.1)) env H a b/\ ∀N,GC N H.length (B6 env) (BC H) (B6 a) (BC b)
 |[],env,H,a,b,ok,h=>by grind[mK,FT.refl,GC.refl,CW]
 |(t,ty)::r,env,H,a,b,ok,h=>by
  simp only[mK]at h;split at h;rename_i m;have st:CC H (H++[.buf false ty [] 0 0]):=CC.push H _;have g:(H++[D5.buf false ty [] 0 0])[H.length]? =some (.buf false ty [] 0 0):=k!
  have i:PJ (env.put t (.c (.own H.length 0 ty 0))) (H++[.buf false ty [] 0 0]):=by refine⟨Z1 (d:=some t) (st.env ok.env) (Jz (Wl g)),λe f=>?_⟩;rcases An.1 f with f|f;exact st.ent (ok.heap e f);rw[BA.1 f];rfl
  obtain⟨q1,q2,q3⟩:=yy i h;refine⟨q1,?_,λN=>?_⟩;have o:FT [t] env H (env.put t (.c (.own H.length 0 ty 0))) (H++[.buf false ty [] 0 0]):=⟨st,λu n _=>mI λe=>n (by simp[e])⟩
  exact FT.trans ok.env o q2;have w:=GC.virt (N:=N) (env:=B6 env) (H:=BC H) (t:=t) (sz:=ty.sz) (by rw[Tn,m];rfl);have j:=(q3 N).of_le (n0:=H.length) k!;rw[gT]at j;have k:BC (H++[.buf false ty [] 0 0])=BC H++[.live 0 []]:=by simp[BC,D5.enc,UQ.cl]
  rw[k]at j;rw[CW]at w;exact w.trans j;cases h
def nq: ∀{n:Nat} {e x y:List Bk},pZ n e=some (x,y)->e=x++ .nil::y
 |0,[],_,_,h=>by cases h
 |0,z::r,x,y,h=>by
  cases z<;>simp only[pZ]at h<;>try (cases h;done)
  injection h with h;injection h with c d;subst c d;rfl
 |n+1,[],_,_,h=>by cases h
 |n+1,z::r,x,y,h=>by simp only[pZ]at h;split at h;rename_i a b hr;injection h with h;injection h with c d;subst c d;rw[nq hr];rfl;cases h
theorem wN{env:BV}: ∀{l:List (Nat×Nat×Ty)} {H c:Am},PJ env H→iJ l H=some c→
  PJ env c/\CC H c/\ ∀N,GC N H.length (B6 env) (BC H) (B6 env) (BC c)
 |[],H,c,ok,h=>by grind[iJ,Option.some.injEq,CC.refl,GC.refl,B6,BC,CW]
 |(b,i,ty)::r,H,c,ok,h=>by
  simp only[iJ]at h;split at h;rename_i E v;split at h;rename_i x y B;have m:=nq B;subst m;have D:b<H.length:=q!
  have f:CC H (H++[D5.buf false ty [] 0 0]):=CC.push H _;have a:H.set b (D5.live false (x++Bk.own H.length 0 ty 0::y))++[D5.buf false ty [] 0 0]=(H++[D5.buf false ty [] 0 0]).set b (D5.live false (x++Bk.own H.length 0 ty 0::y)):=q!
  have j:(H++[D5.buf false ty [] 0 0])[b]? =some (D5.live false (x++Bk.nil::y)):=q!
  have g:CC (H++[D5.buf false ty [] 0 0]) ((H++[D5.buf false ty [] 0 0]).set b (D5.live false (x++Bk.own H.length 0 ty 0::y))):=CC.set j rfl λ_ _ _ _ _ e=>by cases e
  have n:(H++[D5.buf false ty [] 0 0])[H.length]? =some (.buf false ty [] 0 0):=k!
  have t:lok H (x++Bk.nil::y):=ok.heap _ (BM v);have s: ∀e∈H++[D5.buf false ty [] 0 0],e.ok (H++[D5.buf false ty [] 0 0]):=λe d=>by rcases An.1 d with d|d;exact f.ent (ok.heap e d);rw[BA.1 d];rfl
  have u:lok (H++[D5.buf false ty [] 0 0]) (x++Bk.own H.length 0 ty 0::y):=by have q:=JD.1 (f.lok t);refine JD.2 ⟨q.1,λz o=>?_⟩;rcases A3.1 o with rfl|o;exact Wl n;exact q.2 z (CV _ o)
  rw[a]at h;have p:PJ env ((H++[D5.buf false ty [] 0 0]).set b (D5.live false (x++Bk.own H.length 0 ty 0::y))):=⟨g.env (f.env ok.env),heap_set g s (g.lok u)⟩
  obtain⟨q1,q2,q3⟩:=wN p h;refine⟨q1,(f.trans g).trans q2,λN=>?_⟩;have k:(BC H)[b]? =some (.live 0 (lvs (x++Bk.nil::y))):=by rw[FX,v];rfl
  have C:(lvs (x++Bk.nil::y))[(lvs x).length]? =some .nils:=by grind[Gx,Hi,Bk.enc]
  have w:=GC.virtC (N:=N) (env:=B6 env) (sz:=ty.sz) k C;have A:BC ((H++[D5.buf false ty [] 0 0]).set b (D5.live false (x++Bk.own H.length 0 ty 0::y)))=(BC H).set b (.live 0 ((lvs (x++Bk.nil::y)).set (lvs x).length (.sl (BC H).length 0 ty.sz 0 0)))++[.live 0 []]:=by
   rw[<-a];have:(lvs (x++Bk.nil::y)).set (lvs x).length (.sl (BC H).length 0 ty.sz 0 0)=lvs (x++Bk.own H.length 0 ty 0::y):=by grind[Gx,Hi,CW,Bk.enc]
   grind[BC,D5.enc,UQ.cl,List.map_set]
  rw[<-A,CW]at w;exact w.trans ((q3 N).of_le k!);cases h;cases h
theorem yl(ok:PJ f b)(h:ADS s f b=some (L,B)):
  PJ L B/\FT (s.virt.map (·.1)) f b L B/\ ∀N,GC N b.length (B6 f) (BC b) (B6 L) (BC B):=by
 unfold ADS at h;split at h;rename_i e d n;obtain⟨a1,a2,a3⟩:=yy ok n;split at h;rename_i H m;injection h with h;injection h with k l;subst k l;obtain⟨g,i,j⟩:=wN a1 m;have o:FT [] e d e H:=⟨i,λ_ _ _=>rfl⟩
 exact⟨g,(FT.trans ok.env a2 o).mono λt p=>q!,λN=>(a3 N).trans ((j N).of_le a2.step.len)⟩;cases h;cases h
theorem sA{A S:List Nat}{H:Am}: ∀{env:BV},(env.map (·.1)).Nodup-> ∀t,env.get t=R8->(QB A S H env).get t=R8
 |[],_,_,_=>rfl
 |(u,v)::r,nd,t,h=>by have a:=GN.1 nd;simp only[BV.get]at h;by_cases b:u=t;subst b;have hn: ∀p∈QB A S H r,p.1≠u:=λp c e=>a.1 (B0.2 ⟨p,(Qj a.2 p c).2.2,e⟩);grind[QB,BV.get,jm];rw[beq_false b]at h;have d:=sA (A:=A) (S:=S) (H:=H) a.2 t h;grind[QB,BV.get,beq_false]
theorem yO{h:Hint}{A B:List Nat}{env0:BV}{e:Am}{D:BV}{E:Am}(m:PJ env0 e)(nd:(env0.map (·.1)).Nodup)(M:wU A (Le h.slots) env0 e D E)
  {env1:BV} {u:Am} (C:PJ env1 u) (st:FT B D E env1 u) (K: ∀t,t∈B->t∈A) (J: ∀t,t∈h.tmps->t∈A) {x:Exit} {o:uK h.exits} (Q:xM h.exits x env1 u=some o)
  {R:Type} {k:Exit->BV->Am->Option R} {r:R} (f:ADG h e.length (QB A (Le h.slots) e env0) e (Le h.slots) k o=some r) (N:Nat):
  ∃g i,GC N e.length (B6 env1) (BC u) (B6 g) (BC i)/\k x g i=some r/\PJ g i/\FT A env0 e g i:=by
 obtain⟨rfl,L,p,S,y⟩:=sj Q;have f:=si f;split at f;rename_i g i O;split at f;rename_i v;simp at v;have sub: ∀j,OE j (Le (uL h.exits o).2.1)=false->OE j (Le h.slots)=false:=λj d=>VF λG=>q!
 obtain⟨w,W,Y,z⟩:=xy m nd M C st K L m.heap rfl (ABI e) (λ_ _ _ _ q=>q) (λj H d c=>by
  cases H with
  |dead=>grind
  |live b V=>exact .inr ⟨_,sub j d,by rw[Kk,c,EQ,sub j d];rfl,rfl,.inr (.inl ⟨_,_,_,_,rfl,rfl,Dm.refl _⟩)⟩
  |buf b t l n U=>exact .inr ⟨_,sub j d,by rw[Kk,c,EQ,sub j d];rfl,rfl,.inr (.inr (.inl ⟨_,_,_,_,_,_,_,rfl,rfl⟩))⟩
  |mp b k t X=>exact .inr ⟨_,sub j d,by rw[Kk,c,EQ,sub j d];rfl,rfl,.inr (.inr (.inr (.inr ⟨_,_,_,_,_,rfl,rfl⟩)))⟩
  |lp ro F n env Z a b s=>exact .inr ⟨_,sub j d,by rw[Kk,c,EQ,sub j d];rfl,rfl,.inr (.inr (.inr (.inl ⟨_,_,_,_,_,_,_,_,_,rfl,rfl⟩)))⟩) O v.1 v.2.1 N
 refine⟨g,i,w,f,z.ok,z.step,λt T P=>?_⟩;have I:=VF λG=>T (J t (by refine An.2 (.inr (Hq.2 ⟨p,S,?_⟩));rw[<-y];exact G));rw[z.get t I];grind[ur,R8,sA,iZ,ABG,VF];cases f;cases f
variable {P:Program} {N:Nat}
variable {h:Sem}
theorem vd(hr:Pf P N a d h)(n: ∀t,t∈a->t∈A)(m: ∀t,t∈s.tmps->t∈A):Pf P N A d (ABE s A h):=by
 intro R env H k r ok B;unfold ABE at B;dsimp only at B;split at B;cases B;rename_i env0 f v;split at B;cases B;rename_i hn;obtain⟨o,c,B⟩:=bnd B;obtain⟨b,x,y⟩:=yl ok v;have nd:=Ym hn;obtain⟨e,env1,z,a1,k1,g,i⟩:=hr env0 (Me (Le s.slots) 0 f) _ o (ly b) c;have q:wU A (Le s.slots) env0 f env0 (Me (Le s.slots) 0 f):=⟨ly b,CC.refl _,Kl _ _,λ_ _=>rfl,λp u=>(Qj nd p u).1⟩
 obtain⟨j,l,w,q1,q2,q3⟩:=yO b nd q g i n m k1 B N;refine⟨e,j,l,?_,q1,q2,?_⟩;rw[sT]at a1;refine rT.weak (by rw[CW];exact y N) (rT.after (a1.mono ?_));rintro _ _ _ ⟨rfl,rfl,rfl⟩;exact⟨_,_,by rw[CW];exact w,rfl,rfl,rfl⟩;exact(FT.trans ok.env x q3).mono λt C=>by grind[Hint.tmps]
theorem ABL(hr:Pf P N a d h)(hB: ∀t,t∈a->t∈A)(X: ∀t,t∈s.tmps->t∈A):Pf P N A (.loop d) (ABK s A h):=by
 intro R env H k r ok g;unfold ABK at g;dsimp only at g;split at g;cases g
 ·rename_i E Hv hv;obtain⟨bb,sv,wv⟩:=yl ok hv;obtain⟨m,sf,wf⟩:=PO (s.kill++jr E Hv s.slots) bb;generalize HS (s.kill++jr E Hv s.slots) E Hv=fz at g m sf wf;obtain⟨env0,f⟩:=fz;simp only at g m sf wf;split at g
  ·rename_i ds hn hc;split at g
   ·rename_i s0 a7;obtain⟨o,ho,g⟩:=bnd g;have nd:=Ym hn;have v: ∀e∈Me (Le s.slots) 0 f,e.ok (Me (Le s.slots) 0 f):=(ly m).heap;have hC:=xE (C:=λB o=> ∀r,ADG s f.length (QB A (Le s.slots) f env0) f (Le s.slots) k o=some r->
     ∃u i,V6 s.slots (dvs (eX s.slots) B) (QB A (Le s.slots) f env0) (Me (Le s.slots) 0 f)=some (u,i)/\rG f.length u=true/\jO f.length i=true/\(wU A (Le s.slots) env0 f u i-> ∃x D G,Mg P N d (B6 u) (BC i) (XE x (B6 D) (BC G))/\k x D G=some r/\PJ D G/\FT A env0 f D G)) (λB q U=>by
     split at U
     ·rename_i u i hi;split at U
      ·rename_i I;simp only[BP]at I;have body: ∀y:wU A (Le s.slots) env0 f u i,∃e env1 J,rT P N d (B6 u) (BC i) (XE e (B6 env1) (BC J))/\yT s e env1 J=some q/\PJ env1 J/\FT a u i env1 J:=λy=>hr u i _ q y.ok U;cases q with
       |next s'=>
        intro o ih r g;obtain⟨ad,ap,i1,i2,i3,i4⟩:=ih r g;refine⟨u,i,hi,I.1,I.2,λy=>?_⟩;obtain⟨e,env1,J,a1,k1,O,Q⟩:=body y;unfold yT at k1;split at k1;rename_i hx;have:=pg hx;subst this;split at k1;rename_i s1 a8;injection k1 with k1;injection k1 with k1;subst k1;have a2:=kG a8;obtain⟨w,ea,ha,z⟩:=xy (Hx:=Me (Le s.slots) 0 f) m nd y O Q hB a2 v (Kl _ _) (.refl _) (λ_ _ _ _ q=>qO q) (λj e' L c=>by
         cases Y:f[j]? with
         |none=>grind[Kk]
         |some W=>
          have Z:=c;rw[Kk,Y,EQ,L]at c;simp only[Bp,Al]at c;subst c;cases W with
          |dead=>exact .inl rfl
          |live b cs=>exact .inr ⟨_,L,Z,rfl,.inr (.inl ⟨_,_,_,_,rfl,rfl,Dm.refl _⟩)⟩
          |buf b t l n bl=>exact .inr ⟨_,L,Z,rfl,.inr (.inr (.inl ⟨_,_,_,_,_,_,_,rfl,rfl⟩))⟩
          |mp b k t es=>exact .inr ⟨_,L,Z,rfl,.inr (.inr (.inr (.inr ⟨_,_,_,_,_,rfl,rfl⟩)))⟩
          |lp ro F n env ps V b B=>exact .inr ⟨_,L,Z,rfl,.inr (.inr (.inr (.inl ⟨_,_,_,_,_,_,_,_,_,rfl,rfl⟩)))⟩) i1 i2 i3 N
        have a3:wU A (Le s.slots) env0 f ad ap:=⟨z.ok,z.step,by rw[z.len,Kl],z.same,λp M=>by
         obtain⟨T,b2,b3⟩:=Qj nd p M;have K:OE p.1 A=false:=by grind[fF,OE]
         rw[z.get p.1 (VF λhm=>TT K (X _ (by unfold Hint.tmps;simp only[List.mem_append];exact .inl (.inr hm))))];rw[iZ nd p.1 (by rw[T];exact b2)];exact T⟩
        obtain⟨x,D,G,l1,l2,l3,l4⟩:=i4 a3;refine⟨x,D,G,SY (a1.awp.mono ?_),l2,l3,l4⟩;rintro _ _ _ ⟨rfl,rfl,rfl⟩;exact⟨_,_,by rw[CW,y.len];exact w,l1⟩;cases k1;split at k1<;>grind
       |done o=>
        intro r g;refine⟨u,i,hi,I.1,I.2,λy=>?_⟩;obtain⟨e,env1,J,a1,k1,O,Q⟩:=body y;unfold yT at k1;split at k1;split at k1<;>grind;rename_i hx;split at k1;rename_i o1 a6;injection k1 with k1;injection k1 with k1;subst k1;obtain⟨D,G,w,q1,q2,q3⟩:=yO m nd y O Q hB X a6 g N;have a5:e≠ .normal:=by rintro rfl;cases hx
        refine⟨e,D,G,Mg.after (SY (a1.awp.mono ?_)),q1,q2,q3⟩;intro e1 al bt a9;obtain⟨ar,ax,a0⟩:=a9;subst ar ax a0;have ao: ∃env2 H2,GC N (BC i).length (B6 env1) (BC J) env2 H2/\XE e1 (B6 D) (BC G) e1 env2 H2:=⟨_,_,by rw[CW,y.len];exact w,rfl,rfl,rfl⟩
        cases e1 with
        |normal=>exact(a5 rfl).elim
        |_=>exact ao
        cases k1
      cases U
     cases U) ho
    obtain⟨u,i,i1,i2,i3,i4⟩:=hC r g;have a4:=nM a7;rw[a4]at i1;have a':PJ (QB A (Le s.slots) f env0) (Me (Le s.slots) 0 f):=⟨λp M=>(ly m).env p (Qj nd p M).2.2,v⟩
    have z:=OD m hc i1 a' (by rw[Kl];exact Ai _) (λp M=>⟨p.2,(Qj nd p M).2.2,WG.refl _⟩) (λj e' L c=>by
     rw[Kk]at c;cases Y:f[j]? with
     |none=>rw[Y]at c;cases c
     |some W=>
      rw[Y,EQ,L]at c;simp only[Bp,Al]at c;subst c;refine⟨W,rfl,?_⟩;cases W with
      |dead=>exact .inl rfl
      |live b cs=>exact .inr (.inl ⟨_,_,_,_,rfl,rfl,Dm.refl _⟩)
      |buf b t l n bl=>exact .inr (.inr (.inl ⟨_,_,_,_,_,_,_,rfl,rfl⟩))
      |mp b k t es=>exact .inr (.inr (.inr (.inr ⟨_,_,_,_,_,rfl,rfl⟩)))
      |lp ro F n env ps V b B=>exact .inr (.inr (.inr (.inl ⟨_,_,_,_,_,_,_,_,_,rfl,rfl⟩)))) (ADB f)
    have w:=z.weak (N:=N) (by rw[Kl];exact Ai _) (by rw[Kl];exact i2) (by rw[Kl];exact i3);rw[Kl]at w;have y:wU A (Le s.slots) env0 f u i:=⟨z.ok,z.step,by rw[z.len,Kl],z.same,λp M=>by
     obtain⟨T,b2,b3⟩:=Qj nd p M;have K:OE p.1 A=false:=by grind[fF,OE]
     rw[z.get p.1 (VF λhm=>TT K (X _ (by unfold Hint.tmps;simp only[List.mem_append];exact .inl (.inr hm))))];rw[iZ nd p.1 (by rw[T];exact b2)];exact T⟩
    obtain⟨x,D,G,l1,l2,l3,l4⟩:=i4 y;have w3:GC N H.length (B6 env) (BC H) (B6 u) (BC i):=((wv N).trans ((wf N).of_le (by rw[CW];exact sv.step.len))).trans (w.of_le (EB sv.step.len sf.step.len));refine⟨x,D,G,rT.weak (by rw[CW];exact w3) l1,l2,l3,?_⟩;exact(FT.trans ok.env (FT.trans ok.env sv sf) l4).mono λt S=>by rcases An.1 S with S|S;rw[Dr]at S;exact X t (by unfold Hint.tmps;simp only[List.mem_append];exact .inl (.inl (.inr S)));exact S
   cases g
  cases g
def AAr{A B:List Nat}{j:Sem}(l:Pf P N A d h)(m:Pf P N B J j):Pf P N (A++B) (.cond G d J) (yG G h j):=by
 intro R env H k r ok f;unfold yG at f;dsimp only at f;split at f;rename_i v n;have i:BH (B6 env) G= .bool v:=by have:=Jj env G;rw[n]at this;exact this
 cases v with
 |true=>obtain⟨e,c,g,a1,q1,q2,q3⟩:=l env H k r ok f;exact⟨e,c,g,EO (λ_ e=>by cases e) (Mf.cond i (λ_=>a1.awp) (λe=>by cases e)),q1,q2,q3.mono λt a=>An.2 (.inl a)⟩
 |false=>obtain⟨e,c,g,a1,q1,q2,q3⟩:=m env H k r ok f;exact⟨e,c,g,EO (λ_ e=>by cases e) (Mf.cond i (λe=>by cases e) (λ_=>a1.awp)),q1,q2,q3.mono λt a=>An.2 (.inr a)⟩
 cases f
def zE{A:List Nat}(hr:Pf P N A d h):Pf P N A (.block n d) (wj n h):=by
 intro R env H k r ok i;obtain⟨e,a,f,a1,q1,q2,q3⟩:=hr env H _ r ok i;cases e with
 |exit c=>
  simp only at q1;split at q1;rename_i b;have:=DN b;refine⟨.normal,a,f,EO (λ_ e=>by cases e) (Mf.block (a1.awp.mono ?_)),q1,q2,q3⟩;rintro _ _ _ ⟨rfl,rfl,rfl⟩;simp only[ma,if_pos this];exact⟨rfl,rfl,rfl⟩;rename_i b;have g:c≠n:=λe=>t!
  refine⟨.exit c,a,f,EO (λ_ e=>by cases e) (Mf.block (a1.awp.mono ?_)),q1,q2,q3⟩;rintro _ _ _ ⟨rfl,rfl,rfl⟩;simp only[ma,if_neg g];exact⟨rfl,rfl,rfl⟩
 |_=>refine⟨_,a,f,EO (λ_ e=>by cases e) (Mf.block (a1.awp.mono ?_)),q1,q2,q3⟩;rintro _ _ _ ⟨rfl,rfl,rfl⟩;exact⟨rfl,rfl,rfl⟩
end Go.Ab
namespace Go.Ab
variable {P:Program} {N:Nat}
variable {N n z:Nat}{a A:List Nat}{R y:Type}{b B:Am}{c:List RV}{d J:Code}{F:FuncId}{P:Program}{f L O:BV}{g:List AY}{h:Sem}{i:AY}{j:Bool}{k:Qr}{p:Ty}{q:Int}{t:List TV}{v:World}{x:Exit}{C:Wp}{G:Operand}{I:IntKind}{K:Value}
def Pf.mono(c:Pf P N A d h)(f: ∀t,t∈A->t∈a):Pf P N a d h:=λenv H k r ok g=>by obtain⟨e,b,B,q1,q2,q3,q4⟩:=c env H k r ok g;exact⟨e,b,B,q1,q2,q3,q4.mono f⟩
def qG{hs:List Hint}{A B:List Nat}(hr:Pf P N B d h)(c: ∀t,t∈B->t∈A)(b: ∀t,t∈nz hs d->t∈A):Pf P N A d (sQ (eN hs d) A h):=by
 unfold nz at b;generalize eN hs d=o at b⊢;cases o with
 |none=>exact hr.mono c
 |some a=>exact vd hr c b
def ABM{hs:List Hint}{A B:List Nat}(hr:Pf P N B d h)(c: ∀t,t∈B->t∈A)(b: ∀t,t∈nz hs (.loop d)->t∈A):Pf P N A (.loop d) (AD6 (eN hs (.loop d)) A h):=by
 unfold nz at b;generalize eN hs (.loop d)=o at b⊢;cases o with
 |none=>exact λenv H k r ok e=>by cases e
 |some a=>exact ABL hr c b
def VG: ∀{env:BV} {p:Nat×TV},p∈eS env->p∈env/\K4 p.2.refs=[]
 |(t,v)::r,p,h=>by simp only[eS]at h;split at h;rename_i a;rcases A3.1 h with rfl|h;exact⟨Jx,a⟩;exact⟨CV _ (VG h).1,(VG h).2⟩;exact⟨CV _ (VG h).1,(VG h).2⟩
theorem zx(Q:VJ P k){B:Array Tmp}:Pf P N A (.rangeFunc G B d J) (xW P k N F G B d J):=by
 intro R env H f r ok q;unfold xW at q;dsimp only at q;split at q;rename_i b first m hf
 split at q;rename_i Z;have Y:BH (B6 env) G= .fn (.func b) first m:=by rw[Jj,hf];rfl
 have E:(D5.lp false F N (eS env) B d J .ready).ok (H++[.lp false F N (eS env) B d J .ready]):=λp S id al t n hm=>by have:=kU hm;rw[(VG S).2]at this;cases this
 have U:CC H (H++[.lp false F N (eS env) B d J .ready]):=CC.push H _;obtain⟨v,i,q1,q2,q3,q4,q5⟩:=Q (.fn b) _ _ _ r (λv X=>by simp only[An,B0,BA]at X;rcases X with(⟨u,_,rfl⟩|rfl)|⟨u,_,rfl⟩;exact iH u;exact Jz trivial;exact iH u) (PH ok.heap E) q
 have y: ∀{ro:Bool} {a n e p c w} {s:LS} {x:Exit},i[H.length]? =some (.lp ro a n e p c w s)→ro=false→(∀L:jc,L.state=s.st→L.pending=s.pend→ABo P N (B6 env) H.length (XE x (B6 env) (BC (i.set H.length .dead))) ((BC i).set H.length (.lp L)))→f x env (i.set H.length .dead)=some r→
   ∃V g M,rT P N (.rangeFunc G B d J) (B6 env) (BC H) (XE V (B6 g) (BC M))/\f V g M=some r/\PJ g M/\FT A env H g M:=by
  intro ro a n e p c w s x o T hq q;subst T;have K:CC i (i.set H.length .dead):=CC.set o rfl λ_ _ _ _ _ h=>by cases h
  have st:=(U.trans q5).trans K;refine⟨x,env,_,EO (λ_ e=>by cases e) (jR (B6 (eS env)) (λp S=>?_) Y Z ?_),q,⟨st.env ok.env,UK K q4 trivial⟩,st,λ_ _ _=>rfl⟩;obtain⟨u,hu,rfl⟩:=B0.1 S;exact B0.2 ⟨u,(VG hu).1,rfl⟩;have O:Ee P b _ _ _:=q1;have z:(first.map tvA++[TV.c (.raw (.yf H.length))]++m.map tvA).map TV.enc=first++[.yf (BC H).length]++m:=by
   have W: ∀l:List AY,(l.map tvA).map TV.enc=l:=by
    intro l;rw[OR];conv=>rhs;rw[<-cI l]
    grind[List.map_congr_left,er]
   rw[Mh,Mh,W,W,CW];rfl
  rw[z,Ql]at O;apply O.mono;rintro _ _ ⟨rfl,rfl⟩;rw[CW];have I:BC i=(BC i).set H.length (.lp ⟨n,B6 e,p,c,w,s.st,s.pend⟩):=by
   have hg:(BC i)[H.length]? =some (.lp ⟨n,B6 e,p,c,w,s.st,s.pend⟩):=by rw[FX,o];rfl
   apply I5;intro j;by_cases ad:j=H.length<;>grind
  rw[I];exact hq _ rfl rfl
 have look: ∀L:jc,H.length<i.length->((BC i).set H.length (.lp L))[H.length]? =some (.lp L):=λL h=>by grind[List.getElem?_set_self,CW]
 have dead: ∀L:jc,((BC i).set H.length (.lp L)).set H.length .dead=BC (i.set H.length .dead):=λL=>by rw[Wv,Ni];rfl
 split at q2;rename_i o;refine y o rfl (λL C D=>⟨L,look L (G9 o),by rw[C];simp[LS.st],?_⟩) q2;rw[D,dead];exact⟨rfl,rfl,rfl⟩;rename_i o;refine y o rfl (λL C D=>⟨L,look L (G9 o),by rw[C];simp[LS.st],?_⟩) q2;rw[D,dead];exact Mf.ret ⟨rfl,rfl,rfl⟩;rename_i x o;refine y o rfl (λL C D=>⟨L,look L (G9 o),by rw[C];simp[LS.st],?_⟩) q2;rw[D,dead];exact Mf.exit ⟨rfl,rfl,rfl⟩;cases q2;cases q;cases q
theorem AAq{hs:List Hint}(h:lM d J=some C): ∀t∈C.tmps,t∈Qi hs d++Qi hs J:=by obtain⟨o,v,l,q,w,n,r,x,s,y,u,z,rfl,rfl,f,g,i,j,k,_⟩:=lO h;obtain⟨_,_,_,_,_,_,l1⟩:=oG f;obtain⟨_,_,_,_,_,_,l2⟩:=oH g;obtain⟨_,_,_,_,_,_,_,_,_,_,_,_,c⟩:=oI i;obtain⟨_,_,_,_,_,_,_,_,_,_,_,_,_,_,_,a⟩:=oJ j;obtain⟨_,_,_,_,_,_,_,e⟩:=oK k;intro t b;simp only[Qi,l1,l2,c,a,e,lR,An];simp only[Wp.tmps]at b;grind
theorem ADg(B: ∀g∈c,g.Ok P)(z:VJ P k)(x:FuncId)(d:List Hint): ∀g:Code,Pf P N (Qi d g) g (kY P c k N x d g)/\ ∀m r,g= .seq m r->Pf P N (Qi d r) r (kY P c k N x d r):=by
 intro g;induction g with
 |skip=>exact⟨λenv H v r ok n=>⟨.normal,env,H,EO (λ_ e=>by cases e) (Mf.skip ⟨rfl,rfl,rfl⟩),n,ok,FT.refl _ _ _⟩,λ_ _ e=>by cases e⟩
 |ret=>exact⟨λenv H v r ok n=>⟨.ret,env,H,EO (λ_ e=>by cases e) (Mf.ret ⟨rfl,rfl,rfl⟩),n,ok,FT.refl _ _ _⟩,λ_ _ e=>by cases e⟩
 |exit id=>exact⟨λenv H v r ok n=>⟨.exit id,env,H,EO (λ_ e=>by cases e) (Mf.exit ⟨rfl,rfl,rfl⟩),n,ok,FT.refl _ _ _⟩,λ_ _ e=>by cases e⟩
 |seq a b D s=>
  refine⟨?_,λm r e=>by injection e with K L;subst K L;exact s.1⟩;have G:Pf P N (Qi d a++Qi d b) (.seq a b) (λenv H v=>kY P c k N x d a env H λe j u=>match e with| .normal=>kY P c k N x d b j u v|e=>v e j u):=by
   intro R env H v r ok n;obtain⟨e,env1,O,a1,k1,w,S⟩:=D.1 env H _ r ok n;cases e with
   |normal=>obtain⟨L,env2,y,a2,W,F,s2⟩:=s.1 env1 O v r w k1;refine⟨L,env2,y,EO (λ_ e=>by cases e) (Mf.seq (a1.awp.mono ?_)),W,F,FT.trans ok.env S s2⟩;rintro _ _ _ ⟨rfl,rfl,rfl⟩;exact a2.awp
   |_=>refine⟨_,env1,O,EO (λ_ e=>by cases e) (Mf.seq (a1.awp.mono ?_)),k1,w,S.mono λt l=>An.2 (.inl l)⟩;rintro _ _ _ ⟨rfl,rfl,rfl⟩;exact⟨rfl,rfl,rfl⟩
  intro R env H v r ok n;by_cases hq: ∃m I,b= .seq m I;obtain⟨m,I,rfl⟩:=hq;simp only[kY]at n;split at n;rename_i p hp;obtain⟨env1,O,a1,k1,w,S⟩:=AAp B hp ok n;obtain⟨L,env2,y,a2,W,F,s2⟩:=s.2 m I rfl env1 O v r w k1;refine⟨L,env2,y,EO (λ_ e=>by cases e) (Mf.seq (a1.mono ?_)),W,F,(FT.trans ok.env S s2).mono λt l=>?_⟩;intro e E h hx;cases e with
  |normal=>exact Mf.seq (hx.mono (by rintro _ _ _ ⟨rfl,rfl,rfl⟩;exact a2.awp))
  |_=>exact hx.elim
  show t∈(Qi d a++((Qi d m++Qi d I)++qq d m I))++qq d a (.seq m I);rcases An.1 l with l|l;rcases An.1 (AAq (hs:=d) hp t l)with h|h<;>simp[h];simp[l];exact G.mono (λt l=>An.2 (.inl l)) env H v r ok n;have n:kY P c k N x d (.seq a b) env H v=some r:=n;rw[ADh λm r e=>hq ⟨m,r,e⟩]at n;have T: ∀t,t∈qq d a b->t∈Qi d (.seq a b):=λt l=>An.2 (.inr l);have hB: ∀t,t∈Qi d a++Qi d b->t∈Qi d (.seq a b):=λt l=>An.2 (.inl l);unfold qq at T;generalize ov d a b=o at n T;cases o with
  |none=>exact G.mono hB env H v r ok n
  |some h=>exact vd G hB T env H v r ok n
 |cond g a b D s=>have M:Pf P N (Qi d a++Qi d b) (.cond g a b) (yG g (kY P c k N x d a) (kY P c k N x d b)):=AAr D.1 s.1;refine⟨?_,λ_ _ e=>by cases e⟩;intro R;exact qG (hs:=d) (A:=Qi d (.cond g a b)) M (λt l=>An.2 (.inl l)) (λt l=>An.2 (.inr l))
 |block id b V=>have M:Pf P N (Qi d b) (.block id b) (wj id (kY P c k N x d b)):=zE V.1;refine⟨?_,λ_ _ e=>by cases e⟩;intro R;exact qG (hs:=d) (A:=Qi d (.block id b)) M (λt l=>An.2 (.inl l)) (λt l=>An.2 (.inr l))
 |loop b V=>exact⟨ABM (hs:=d) (A:=Qi d (.loop b)) V.1 (λt l=>An.2 (.inl l)) (λt l=>An.2 (.inr l)),λ_ _ e=>by cases e⟩
 |region id q J=>
  refine⟨?_,λ_ _ e=>by cases e⟩;cases J with
  |false=>
   have M:Pf P N (lR q.toList) (.region id q false) (λenv H v=>match Kt N q.toList with
    |true=>ql P c k q (guards q) false q.toList 0 env H λj u=>v .normal j u
    |false=>none):=by
    intro R env H v r ok n;dsimp only at n;split at n;rename_i C;obtain⟨j,u,X,Y,Z,r4⟩:=Sh (N:=N) B z _ _ _ _ _ _ ok n;refine⟨.normal,j,u,EO (λ_ e=>by cases e) (Fw C ?_),Y,Z,r4⟩;show Vp P N q q.toList (B6 env) (BC H) (λK y=>Exit.normal=Exit.normal/\K=B6 j/\y=BC u);simpa using X;cases n
   intro R;exact qG (hs:=d) (A:=Qi d (.region id q false)) M (λt l=>An.2 (.inl l)) (λt l=>An.2 (.inr l))
  |true=>
   intro R env H v r ok n;simp only[kY]at n;split at n;rename_i C;simp only[BP]at C;obtain⟨j,u,X,Y,Z,r4⟩:=Xm (N:=N) B z _ _ _ _ _ _ ok n;refine⟨.normal,j,u,EO (λ_ e=>by cases e) (gW C.1.1.1 _ C.1.1.2 C.1.2 ?_ ?_),Y,Z,r4.mono λt l=>An.2 (.inl ?_)⟩;have:=Ym C.2;rw[B6,OR];exact this;show RA P N q (xT q) [] (B6 env) (BC H) (λK y=>Exit.normal=Exit.normal/\K=B6 j/\y=BC u);simpa using X;unfold rH at l;obtain⟨i,_,Q⟩:=P0.1 l;cases U:q[i]? with
   |none=>rw[U]at Q;cases Q
   |some o=>
    rw[U]at Q;refine P0.2 ⟨o,?_,Q⟩;have:q.toList[i]? =some o:=by simpa using U
    exact BM this
   cases n
 |rangeFunc f ps a b _ _=>exact⟨zx z,λ_ _ e=>by cases e⟩
 |_=>exact⟨λenv H v r ok n=>(by simp only[kY]at n;cases n),λ_ _ e=>by cases e⟩
theorem kZ(f: ∀b∈c,b.Ok P)(e:VJ P k)(g:FuncId)(d:List Hint)(b:Code):Pf P N (Qi d b) b (kY P c k N g d b):=by grind[ADg]
end Go.Ab
namespace Go.Ab
def Vb:Nat->List TV->BV
 |_,[]=>[]
 |i,v::r=>(i,v)::Vb (i+1) r
def kW(P:Program)(env:BV)(H:Am):List ResultVar->Option (List TV)
 |[]=>some []
 | .tmp t::r=>match kW P env H r with|some vs=>some (env.get t::vs)|none=>none
 | .cell a t::r=>match kW P env H r with|some vs=>loadT P H t (env.get a) λv=>some (v::vs)|none=>none
def vc:Exit->Bool
 | .normal=>true
 | .ret=>true
 |_=>false
variable {N n z:Nat}{R y:Type}{b B:Am}{c:List RV}{F:FuncId}{P:Program}{f L O:BV}{g:List AY}{i:AY}{j:Bool}{p:Ty}{q:Int}{t:List TV}{v:World}{x:Exit}{I:IntKind}{K:Value}
def AFt(P:Program)(fn:Func)(k:TV->Am->Option R):Exit->BV->Am->Option R:=λe env H=>
 match vc e with
 |true=>match kW P env H fn.results.toList with|some vs=>k (one vs) H|none=>none
 |false=>none
def wH:BV->List Tmp->List TV->BV
 |env,t::ts,v::vs=>wH (env.put t v) ts vs
 |env,_,_=>env
def ABv(id:Nat)(k:TV->Am->Option R):Exit->BV->Am->Option R:=λe _ H=>
 match H[id]? with
 |some (.lp false F n env ps a b _)=>
  match e with
  | .normal=>k (.c (.bl true)) (H.set id (.lp false F n env ps a b .ready))
  | .ret=>k (.c (.bl false)) (H.set id (.lp false F n env ps a b .ret))
  | .exit x=>k (.c (.bl false)) (H.set id (.lp false F n env ps a b (.exit x)))
  |_=>none
 |_=>none
noncomputable def xc(P:Program)(cs:List RV)(call:Qr)(hs:FuncId->List Hint)(id:Nat)(vs:List TV)(H:Am){R:Type}(k:TV->Am->Option R):Option R:=
 match H[id]? with
 |some (.lp false F n env ps a b .ready)=>
  match Nat.beq vs.length ps.size&&ps.toList.all λt=>Nat.blt t n with
  |true=>kY P cs call n F (hs F) a (wH env ps.toList vs) H λe env1 H1=>
   match e with
   | .normal=>
    match H1[id]? with
    |some (.lp false F1 n1 e1 ps1 a1 b1 .ready)=>kY P cs call n F (hs F) b env1 (H1.set id (.lp false F1 n1 e1 ps1 a1 b1 .busy)) (ABv id k)
    |_=>none
   |_=>none
  |false=>none
 |_=>none
noncomputable def gP(P:Program)(cs:List RV)(hs:FuncId->List Hint):Nat->Qr
 |0=>λ_ _ _ _=>none
 |n+1=>λtg vs H k=>
  match tg with
  | .fn F=>
   match P.funcs[F]? with
   |some fn=>
    match fn.body with
    |some c=>match Nat.ble vs.length fn.ntmps with|true=>kY P cs (gP P cs hs n) fn.ntmps F (hs F) c (Vb 0 vs) H (AFt P fn k)|false=>none
    |none=>none
   |none=>none
  | .yd id=>xc P cs (gP P cs hs n) hs id vs H k
def qF(bt:Ty):(rs:List Ty)->DL rs->bt.D->DL (rs++[bt])
 |[],_,b=>b
 |[_],y,b=>(y,b)
 |_::u::r,y,b=>(y.1,qF bt (u::r) y.2 b)
def Z3(vs:List TV):List Nat:=vs.flatMap λv=>K4 v.refs
def ACx(P:Program)(fn:Func)(rs:List Ty):Exit->BV->Am->Option (DL rs):=λe env H=>
 match vc e with
 |true=>
  match kW P env H fn.results.toList with
  |some vs0=>match HS (Z3 vs0) env H with|(ef,hf)=>match kW P ef hf fn.results.toList with|some vs=>zc rs vs|none=>none
  |none=>none
 |false=>none
def AFr(P:Program)(fn:Func)(bt:Ty)(rs:List Ty):Exit->BV->Am->Option (DL (rs++[bt])):=λe env H=>
 match vc e with
 |true=>
  match kW P env H fn.results.toList with
  |some vs0=>
   match HS (Z3 vs0++(match (H[0]? :Option D5)with|some (.live _ cs)=>K4 cs|_=>[])) env H with
   |(ef,hf)=>
    match kW P ef hf fn.results.toList,(hf[0]? :Option D5)with
    |some vs,some (.live _ cs)=>match zc rs vs,bt.all cs with|some y,some b=>some (qF bt rs y b)|_,_=>none
    |_,_=>none
  |none=>none
 |false=>none
def qD:Nat->TV->List TV->List TV
 |0,v,l=>v::l
 |n+1,v,x::l=>x::qD n v l
 |_+1,v,[]=>[v]
noncomputable def xz(P:Program)(cs:List RV)(hs:FuncId->List Hint)(n:Nat)(F:FuncId)(ds rs:List Ty)(x:DL ds):Option (DL rs):=
 match P.funcs[F]? with
 |some fn=>
  match fn.body with
  |some c=>match Nat.ble (rA ds x).length fn.ntmps with|true=>kY P cs (gP P cs hs n) fn.ntmps F (hs F) c (Vb 0 (rA ds x)) [] (ACx P fn rs)|false=>none
  |none=>none
 |none=>none
noncomputable def AAg(P:Program)(cs:List RV)(hs:FuncId->List Hint)(n:Nat)(F:FuncId)(pos:Nat)(bt:Ty)(ds rs:List Ty)(b:bt.D)(x:DL ds):Option (DL (rs++[bt])):=
 match P.funcs[F]? with
 |some fn=>
  match fn.body with
  |some c=>
   match Nat.ble (qD pos (.c (.raw (.ptr 0 0 0))) (rA ds x)).length fn.ntmps with
   |true=>kY P cs (gP P cs hs n) fn.ntmps F (hs F) c (Vb 0 (qD pos (.c (.raw (.ptr 0 0 0))) (rA ds x))) [.live false (bt.lvs b)] (AFr P fn bt rs)
   |false=>none
  |none=>none
 |none=>none
theorem U7: ∀(l:List TV) (i:Nat),B6 (Vb i l)=env0 i (l.map TV.enc)
 |[],_=>rfl
 |v::r,i=>by have:=U7 r (i+1);grind[B6,Vb,env0]
def XD{H:Am}: ∀{l:List TV} {i:Nat},(∀v∈l,v.ok H)-> ∀p∈Vb i l,p.2.ok H
 |[],_,_,p,a=>by cases a
 |v::r,i,h,p,a=>by simp only[Vb]at a;rcases A3.1 a with rfl|a;exact h v k!;exact XD (λw b=>h w (by simp[b])) p a
theorem jE{P:Program}{env:BV}{H:Am}(d: ∀p∈env,p.2.ok H)(c: ∀e∈H,e.ok H): ∀{l:List ResultVar} {b:List TV},kW P env H l=some b->SJ P (B6 env) (BC H) l=some (b.map TV.enc)/\ ∀v∈b,v.ok H
 |[],b,h=>by simp only[kW,Al]at h;subst h;exact⟨rfl,λv g=>by cases g⟩
 | .tmp t::r,b,h=>by simp only[kW]at h;split at h;rename_i i f;obtain⟨q1,q2⟩:=jE d c f;grind[SJ,kX,Tn,nF];cases h
 | .cell a t::r,b,h=>by simp only[kW]at h;split at h;rename_i i f;obtain⟨q1,q2⟩:=jE d c f;obtain⟨u,j,k,m⟩:=oD c (nF d a) h;grind[SJ,kX,Tn];cases h
def qh{H:Func}(d: ∀p∈f,p.2.ok b)(c: ∀e∈b,e.ok b)(h:kW P f b H.results.toList=some t):bw P H (B6 f) (BC b)=some (ja (t.map TV.enc)):=by
 unfold bw;rw[(jE d c h).1];cases t with
 |nil=>rfl
 |cons v r=>
  cases r with
  |nil=>rfl
  |cons u r=>rfl
def tA: ∀(a:List Tmp) (b:List TV) (env:BV),Qq (B6 env) a (b.map TV.enc)=B6 (wH env a b)
 |[],_,_=>rfl
 |_::_,[],_=>rfl
 |t::a,v::b,env=>by simp only[Bo,Qq,wH];rw[<-gT];exact tA a b (env.put t v)
def wI{H:Am}: ∀(b:List Tmp) (a:List TV) (env:BV),(∀p∈env,p.2.ok H)->(∀v∈a,v.ok H)-> ∀p∈wH env b a,p.2.ok H
 |[],_,_,h,_=>h
 |_::_,[],_,h,_=>h
 |t::b,v::a,env,h,hv=>wI b a (env.put t v) (Z1 (d:=some t) h (hv v k!)) λu c=>hv u (by simp[c])
def AD7{c:Bool}{F n env ps a H}{s e:LS}(h:(D5.lp j F n env ps a H s).ok b):(D5.lp c F n env ps a H e).ok B:=h
theorem yg{F n env ps a H}{s s':LS}(h:b[N]? =some (.lp false F n env ps a H s)):CC b (b.set N (.lp false F n env ps a H s')):=CC.set h rfl (λ_ _ _ _ _ h=>by cases h) λ_ _ _ _ _ _ _ _ e=>q!
def xF{F n env ps a H}{s:LS}(h:b[N]? =some (.lp j F n env ps a H s)):(BC b)[N]? =some (.lp ⟨n,B6 env,ps,a,H,s.st,s.pend⟩):=by rw[FX,h];rfl
theorem z5{P:Program}{cs:List RV}(K: ∀c∈cs,c.Ok P){hs:FuncId→List Hint}{g:Qr}(J:VJ P g){R:Type}{id:Nat}{S:List TV}{H:Am}{k:TV→Am→Option R}{r:R}(hv: ∀v∈S,v.ok H)(hH: ∀e∈H,e.ok H)
  (h:xc P cs g hs id S H k=some r): ∃v d,xv P (S.map TV.enc) (BC H) v.enc (BC d) (.yd id)/\k v d=some r/\v.ok d/\(∀e∈d,e.ok d)/\CC H d:=by
 unfold xc at h;split at h;rename_i F n env ps a b he;split at h;rename_i hb;simp only[BP]at hb;have M: ∀p∈env,p.2.ok H:=λp hp x hx=>by
  have:=(hH _ (BM he)) p hp;cases x with
  |own i v t m=>grind
  |_=>trivial
 obtain⟨e,env1,T,a1,k1,w,s1⟩:=kZ (N:=n) K J F (hs F) a _ H _ r ⟨wI ps.toList S env M hv,hH⟩ h;split at k1;split at k1;rename_i F1 n1 Y z U V s;have B:CC T _:=yg (s':=.busy) s;obtain⟨x,env2,D,a2,j,O,s2⟩:=kZ (N:=n) K J F (hs F) b _ _ _ r ⟨B.env w.env,UK B w.heap (AD7 (w.heap _ (BM s)))⟩ k1;unfold ABv at j;split at j;rename_i F2 n2 Z A W X s0 u
 have l: ∀(v:Bool) (C:LS),k (.c (.bl v)) (D.set id (.lp false F2 n2 Z A W X C))=some r→(∀L:jc,(BC D)[id]? =some (.lp L)→L=⟨n2,B6 Z,A,W,X,s0.st,s0.pend⟩→ABw id (C4 (.bool v) (BC (D.set id (.lp false F2 n2 Z A W X C)))) x (B6 env2) (BC D))→
   ∃v d,xv P (S.map TV.enc) (BC H) v.enc (BC d) (.yd id)/\k v d=some r/\v.ok d/\(∀e∈d,e.ok d)/\CC H d:=by
  intro v C hk hq;have Q:CC D _:=yg (s':=C) u;refine⟨.c (.bl v),_,?_,hk,Jz trivial,UK Q O.heap (AD7 (O.heap _ (BM u))),((s1.step.trans B).trans s2.step).trans Q⟩;intro N o c f env0 ho I hf q;apply JT.yield ho I hf (xF he);grind[List.length,List.length_map,Array.length_toList,Nat.eq_of_beq_eq_true];simp_all;show Mf P n a (Qq (B6 env) ps.toList (c.args.toList.map (BH env0))) (BC H) _;rw[q,tA];apply a1.awp.mono;rintro _ _ _ ⟨rfl,rfl,rfl⟩;refine⟨rfl,_,xF s,rfl,?_⟩;have e3:(BC T).set id (.lp ⟨n1,B6 Y,z,U,V,.busy,LS.pend .ready⟩)=BC (T.set id (.lp false F1 n1 Y z U V .busy)):=by rw[Ni];rfl
  show Mf P n b (B6 env1) ((BC T).set id (.lp ⟨n1,B6 Y,z,U,V,.busy,LS.pend .ready⟩)) _;rw[e3];apply a2.awp.mono;rintro _ _ _ ⟨rfl,rfl,rfl⟩;exact hq _ (xF u) rfl
 split at j;refine l true .ready j λL G E=>⟨L,G,rfl,?_⟩
 subst E;rw[Ni];rfl;refine l false .ret j λL G E=>⟨L,G,rfl,?_⟩
 subst E;rw[Ni];rfl;rename_i y;refine l false (.exit y) j λL G E=>⟨L,G,rfl,?_⟩
 subst E;rw[Ni];rfl;cases j;cases j;cases k1;cases k1;cases h;cases h
theorem VZ{P:Program}{j:List RV}(b: ∀c∈j,c.Ok P){m:FuncId->List Hint}: ∀n,VJ P (gP P j m n)
 |0=>by grind[gP]
 |n+1=>by
  intro z A H k r p l h;cases z with
  |yd id=>exact z5 b (VZ b n) p l h
  |fn F=>
  simp only[gP]at h;split at h;rename_i fn y;split at h;rename_i c w;split at h;rename_i hn;obtain⟨e,d,f,a1,k1,a,q⟩:=kZ (N:=fn.ntmps) b (VZ b n) F (m F) c (Vb 0 A) H _ r ⟨XD p,l⟩ h;unfold AFt at k1;split at k1;rename_i x;split at k1;rename_i s o;refine⟨one s,f,J6 y w t! ?_,k1,uJ (jE a.env a.heap o).2,a.heap,q.step⟩;rw[<-U7];apply a1.awp.mono;rintro _ _ _ ⟨rfl,rfl,rfl⟩;have g: ∃v t i,bw P fn (B6 d) (BC f)=some v/\NK (BC H).length v (BC f) t i/\C4 (one s).enc (BC f) t i:=⟨_,_,_,qh a.env a.heap o,NK.refl _ _ (by rw[CW,CW];exact q.step.len),by rw[om],rfl⟩
  rename_i u;cases u<;>first|exact g|cases x
  cases k1;cases k1;cases h;cases h;cases h
def Dm.tup{b a:List AY}(h:Dm b a):WG (.tup b) (.tup a):=by
 intro x c r;cases r with
 |tup g hr=>refine .tup (by rw[g,h.1]) λj i d f e=>?_;obtain⟨v,q1,q2⟩:=h.2 j i f;exact q2 _ _ (hr j v d q1 e)
def SE{b:List AY}(h:Dm g b):WG (ja g) (ja b):=by
 match g,b,h with
 |[],[],h=>exact WG.refl _
 |[v],[w],h=>obtain⟨u,q1,q2⟩:=h.2 0 w rfl;simp at q1;subst q1;exact q2
 |v::u::r,w::x::s,h=>exact Dm.tup h
def J4: ∀(a:List Ty) (x:DL a),∀v∈fv a x,Pure v
 |[],_,v,h=>by cases h
 |[t],x,v,h=>by simp only[fv,BA]at h;subst h;exact t.enc_pure x
 |t::u::r,x,v,h=>by simp only[fv]at h;rcases A3.1 h with rfl|h;exact t.enc_pure x.1;exact J4 (u::r) x.2 v h
def TW(h: ∀v∈g,Pure v):Pure (ja g):=by
 match g,h with
 |[],_=>rfl
 |[v],h=>exact h v k!
 |v::u::r,h=>exact(De _ _).2 h
theorem mC{a H2:Am}(j:H2.length<=a.length)(hr:HR a H2 [])(v:jO H2.length H2=true){d:AY}(l:WG i d)(k:Pure d):NK H2.length i (BC a) d (BC H2):=by
 refine⟨by rw[CW];exact Ai _,λX h w c s r=>?_⟩;have q:=(HR.rel j hr (cx X h (BC a) w)).onto;have n:=s.rel q;have m:=(l _ c r).later q.later;have e:(BC H2++(BC a).drop H2.length).take H2.length=BC H2:=by grind[CW]
 have b:H2.length<=(BC H2++(BC a).drop H2.length).length:=by simp[BC]
 have g:=n.trunc b (by rw[e];exact ii v);have f:=m.trunc b (hZ k _);rw[e]at g f;exact⟨h,g,f,λ_ _=>⟨rfl,rfl,rfl⟩,λB o=>q.own B (eT (n0:=H2.length) q!)⟩
def nj{n:Nat}: ∀{a b:List Bk},ZS n a=true->ZS n b=true->ZS n (a++b)=true
 |[],_,_,hb=>hb
 |x::r,b,ha,hb=>by obtain⟨c,e⟩:=sD ha;have d:=nj e hb;cases x<;>simp only[aB,ZS,BP,PL]at c⊢ <;>first|exact d|exact⟨c,d⟩
mutual
theorem Ty.lvs_clo{n:Nat}: ∀(t:Ty) (x:t.D),ZS n (t.lvs x)=true
 | .bool,_=>rfl
 | .int _,_=>rfl
 | .str,_=>rfl
 | .list _,_=>rfl
 | .arr _ _,_=>rfl
 | .prod ts,x=>ts.lvs_clo x
theorem RU.lvs_clo{n:Nat}: ∀(a:RU) (x:a.D),ZS n (a.lvs x)=true
 | .one t,x=>t.lvs_clo x
 | .cons t a,x=>nj (t.lvs_clo x.1) (a.lvs_clo x.2)
end
def jD(h: ∀v∈g,Pure v)(a:Nat->Nat):AY.renL a g=g:=by
 rw[OF];conv=>rhs;rw[<-cI g]
 exact Mi λv b=>(h v b).ren a
def qC{ρ:Nat->Nat}: ∀{n:Nat} {v:AY} {l:List AY},(∀v∈l,Pure v)->AY.renL ρ (Ut n v l)=Ut n (v.ren ρ) l
 |0,v,l,h=>by simp only[Ut,AY.renL,jD h]
 |n+1,v,[],h=>rfl
 |n+1,v,x::l,h=>by have b:=qC (ρ:=ρ) (n:=n) (v:=v) (l:=l) λu a=>h u (CV _ a);simp only[Ut,AY.renL,(h x Jx).ren,b]
def sP: ∀{n:Nat} {v u:AY} {l:List AY},u∈Ut n v l->u=v\/u∈l
 |0,v,u,l,h=>by simpa[Ut]using h
 |n+1,v,u,[],h=>by simpa[Ut]using h
 |n+1,v,u,x::l,h=>by simp only[Ut]at h;rcases A3.1 h with rfl|h;exact .inr k!;rcases sP h with h|h;exact .inl h;exact .inr (by simp[h])
def vY: ∀{n:Nat} {v:TV} {l:List TV},(qD n v l).map TV.enc=Ut n v.enc (l.map TV.enc)
 |0,_,_=>rfl
 |n+1,_,[]=>rfl
 |n+1,v,x::l=>by simp only[qD,Bo,Ut,vY]
def vZ: ∀{n:Nat} {v u:TV} {l:List TV},u∈qD n v l->u=v\/u∈l
 |0,v,u,l,h=>by simpa[qD]using h
 |n+1,v,u,[],h=>by simpa[qD]using h
 |n+1,v,u,x::l,h=>by simp only[qD]at h;rcases A3.1 h with rfl|h;exact .inr k!;rcases vZ h with h|h;exact .inl h;exact .inr (by simp[h])
theorem ni{x:p.D}: ∀v∈(p.enc x).cells,Pure v:=by
 intro v a;have h:=p.enc_pure x;cases b:p.enc x with
 |agg c=>rw[b]at a h;exact((De _ _).1 h) v a
 |_=>grind[AY.cells]
def eW(a:Ty): ∀(c:List Ty) (y:DL c) (b:a.D),L4 a c (qF a c y b)=(y,b)
 |[],_,_=>rfl
 |[_],_,_=>rfl
 |_::u::r,y,b=>by simp only[qF,L4,eW a (u::r) y.2 b]
variable {P:Program} {cs:List RV} {hs:FuncId->List Hint} {n:Nat} {F:FuncId} {ds rs:List Ty}
def ACy{fn:Func}{c:Ar}(j:vc x=true)(ok:PJ f b)(hr:kW P f b fn.results.toList=some t)(h:NK N (ja (t.map TV.enc)) (BC b) i c):
  AGH P fn N (C4 i c) x (B6 f) (BC b):=by
 have d: ∃v e a,bw P fn (B6 f) (BC b)=some v/\NK N v (BC b) e a/\C4 i c e a:=⟨_,_,_,qh ok.env ok.heap hr,h,rfl,rfl⟩
 cases x<;>first|exact d|cases j
def yI{g:DL ds->Option (DL rs)}(d: ∀c∈cs,c.Ok P)(t: ∀x,g x=xz P cs hs n F ds rs x):(RV.c0 F ds rs g).Ok P:=by
 intro x y a H;rw[t]at a;have key:Ee P F (fv ds x) [] (C4 (ja (fv rs y)) []):=by unfold xz at a;split at a;rename_i q s;split at a;rename_i c r;split at a;rename_i hn;obtain⟨e,o,z,a1,k1,l,B⟩:=kZ (N:=q.ntmps) d (VZ d n) F (hs F) c (Vb 0 (rA ds x)) [] _ y ⟨XD (iI ds x),λe i=>by cases i⟩ a;unfold ACx at k1;split at k1;rename_i i;split at k1;rename_i m u;obtain⟨f,w,p⟩:=PO (Z3 m) l;simp only at k1 f w p;split at k1;rename_i C k;apply J6 s r (by rw[<-VQ,Ds];exact Kr hn);rw[<-VQ,<-U7];refine Mf.after (a1.awp.mono ?_);rintro _ _ _ ⟨rfl,rfl,rfl⟩;exact⟨_,_,(p _).of_le (B8 _),ACy i f k (mC (H2:=[]) (B8 _) (λj A _ h=>by cases h) rfl (SE (Vh k1)) (TW (J4 rs y)))⟩;cases k1;cases k1;cases k1;cases a;cases a;cases a
 exact Ee.frame (H:=H) [] key OU rfl rfl (λj b e h=>by cases h) (λe h=>by cases h) (λe h=>by cases h) (TW (J4 rs y)) (jD (J4 ds x) _) ((De _ _).2 λv k=>(J4 ds x v k).all _)
theorem ACi{g:p.D->DL ds->Option (DL (rs++[p]))}(m: ∀c∈cs,c.Ok P)(T: ∀b x,g b x=AAg P cs hs n F N p ds rs b x):(RV.c1 F N p ds rs g).Ok P:=by
 intro b x y f H id V;rw[T]at f;have key: ∃r i,y=qF p rs r i/\Ee P F (Ut N (.ptr 0 0 0) (fv ds x)) [.live 0 (p.enc b).cells] (C4 (ja (fv rs r)) [.live 0 (p.enc i).cells]):=by
  unfold AAg at f;split at f;rename_i M S;split at f;rename_i c R;split at f;rename_i hn;have t:PJ (Vb 0 (qD N (.c (.raw (.ptr 0 0 0))) (rA ds x))) [.live false (p.lvs b)]:=by refine⟨XD λv d=>?_,λe s=>?_⟩;rcases vZ d with rfl|d;exact Jz trivial;grind[iI];rw[BA.1 s];exact p.lvs_ok b
  obtain⟨e,l,G,a1,k1,u,E⟩:=kZ (N:=M.ntmps) m (VZ m n) F (hs F) c _ _ _ y t f;unfold AFr at k1;split at k1;rename_i s;split at k1;rename_i z W;generalize C:(Z3 z++_)=ids at k1;obtain⟨k,w,A⟩:=PO ids u;generalize HS ids l G=fz at k1 k w A;obtain⟨ef,U⟩:=fz;simp only at k1 k w A;split at k1;rename_i vs Y I d O;split at k1;rename_i r i hr q;injection k1 with k1;refine⟨r,i,k1.symm,?_⟩;have J:BC [.live false (p.lvs b)]=[.live 0 (p.enc b).cells]:=by simp only[BC,Bo,I3,D5.enc,p.lvs_enc]
  have K:BC [.live false (p.lvs i)]=[.live 0 (p.enc i).cells]:=by simp only[BC,Bo,I3,D5.enc,p.lvs_enc]
  have L:Ut N (.ptr 0 0 0) (fv ds x)=(qD N (.c (.raw (.ptr 0 0 0))) (rA ds x)).map TV.enc:=by rw[vY,VQ];rfl
  rw[<-J,<-K,L];apply J6 S R (by rw[Ds];exact Kr hn);rw[<-U7];refine Mf.after (a1.awp.mono ?_);rintro _ _ _ ⟨rfl,rfl,rfl⟩;have o:1<=U.length:=EB E.step.len w.step.len;refine⟨_,_,(A _).of_le (by rw[CW,CW];exact E.step.len),ACy s k d ?_⟩;rw[CW];refine mC (H2:=[.live false (p.lvs i)]) o (λj Z _ h=>?_) (by simp only[jO,p.lvs_clo,Sm]) (SE (Vh hr)) (TW (J4 rs r));match j,h with
  |0,h=>simp only[aE,Al]at h;subst h;refine⟨_,O,.inr (.inl ⟨_,_,_,_,rfl,rfl,?_⟩)⟩;rw[p.lvs_enc];exact Fy q
  |j+1,h=>grind
  cases k1;cases k1;cases k1;cases k1;cases f;cases f;cases f
 obtain⟨r,i,rfl,key⟩:=key;rw[eW];have Q:AY.renL (λj=>[id].getD j 0) (Ut N (.ptr 0 0 0) (fv ds x))=Ut N (.ptr id 0 0) (fv ds x):=by rw[qC (J4 ds x)];rfl
 exact Ee.frame (H:=H) [id] key (GN.2 ⟨k!,OU⟩) rfl rfl (λj X e D B=>by
   match j,D,B with
   |0,D,B=>grind[List.getElem?_cons_zero,Option.some.injEq]
   |j+1,D,_=>simp at D) (λe h=>by
   rw[BA.1 h];exact(De _ _).2 λv d=>ni v d) (λe h=>by
   rw[BA.1 h];exact(De _ _).2 λv d=>ni v d) (TW (J4 rs r)) Q ((De _ _).2 λv d=>by
   rcases sP d with rfl|d;rfl;exact(J4 ds x v d).all _)
end Go.Ab
namespace Go.Ab
def YR:List (Nat×List Hint)->FuncId->List Hint
 |[],_=>[]
 |(k,h)::r,F=>match Nat.beq k F with|true=>h|false=>YR r F
theorem CA{P:Program}: ∀c∈([]:List RV),c.Ok P:=q!
variable {N n z:Nat}{R y:Type}{c:List RV}{F:FuncId}{P:Program}{g:List AY}{i:AY}{j:Bool}{p:Ty}{q:Int}{v:World}{I:IntKind}{K:Value}
theorem A6{P:Program}{a:RV}(h:a.Ok P)(b: ∀a∈c,a.Ok P): ∀d∈a::c,d.Ok P:=q!
def wi(a:Int):Int:=IntKind.wrap .i64 a
abbrev len{α:Type}(l:List α):Int:=(l.length:Int)
def jQ{A B:Type}(f:(A->Option B)->A->Option B):Nat->A->Option B
 |0,_=>none
 |n+1,x=>f (jQ f n) x
noncomputable def ti{A B:Type}(f:(A->Option B)->A->Option B)(x:A):Option B:=open Classical in if h: ∃r n,jQ f n x=some r then some h.choose else none
theorem iq{f:(R->Option y)->R->Option y}{x:R}{r:y}(h:ti f x=some r): ∃n,jQ f n x=some r:=by unfold ti at h;split at h<;>grind
theorem kM{f:(R->Option y)->R->Option y}{x:R}{r:y}(h:jQ f n x=some r): ∃s,ti f x=some s:=by unfold ti;rw[dif_pos ⟨r,n,h⟩];grind
def ACl{P:Program}{hs:FuncId→List Hint}{n:Nat}{F:FuncId}{ds rs:List Ty}{f:(DL ds→Option (DL rs))→DL ds→Option (DL rs)}(b: ∀a∈c,a.Ok P)
  (e: ∀g x,f g x=xz P (.c0 F ds rs g::c) hs n F ds rs x):(RV.c0 F ds rs (ti f)).Ok P:=by
 have key: ∀m,(RV.c0 F ds rs (jQ f m)).Ok P:=by
  intro m;induction m with
  |zero=>intro x y d;cases d
  |succ m i=>exact yI (cs:=.c0 F ds rs (jQ f m)::c) (A6 i b) λx=>e (jQ f m) x
 intro x y d;obtain⟨m,h⟩:=iq d;exact key m x y h
def AFs(P:Program)(fn:Func)(te:Ty)(rs:List Ty):Exit->BV->Am->Option (DL (rs++[.list te])):=λe env H=>
 match vc e with
 |true=>
  match kW P env H fn.results.toList with
  |some vs0=>
   match HS ((Z3 vs0).filter λi=>!Nat.beq i 0) env H with
   |(ef,hf)=>
    match kW P ef hf fn.results.toList,(hf[0]? :Option D5)with
    |some vs,some (.buf _ t l _ _)=>if h:(Ty.list t).beq (Ty.list te)=true then(match zc rs vs with|some y=>some (qF (.list te) rs y (Ty.cast h l))|none=>none)else none
    |_,_=>none
  |none=>none
 |false=>none
def fnC:AY->Bool
 | .fn (.func _) [] []=>true
 |_=>false
def uu(te:Ty)(ds:List Ty)(post:List AY)(l:List te.D)(x:DL ds):List TV:=.c (.own 0 0 te l.length)::(rA ds x++post.map λv=>.c (.raw v))
noncomputable def AAh(P:Program)(cs:List RV)(hs:FuncId->List Hint)(n:Nat)(F:FuncId)(te:Ty)(ds rs:List Ty)(post:List AY)(l:List te.D)(x:DL ds):Option (DL (rs++[.list te])):=
 match P.funcs[F]? with
 |some fn=>
  match fn.body with
  |some c=>
   match Nat.ble (uu te ds post l x).length fn.ntmps&&post.all fnC with
   |true=>kY P cs (gP P cs hs n) fn.ntmps F (hs F) c (Vb 0 (uu te ds post l x)) [.buf false te l l.length 0] (AFs P fn te rs)
   |false=>none
  |none=>none
 |none=>none
theorem AEr(h:fnC i=true): ∃F,i= .fn (.func F) [] []:=by unfold fnC at h;grind
def AA6(h:fnC i=true):Pure i:=by obtain⟨F,rfl⟩:=AEr h;rfl
variable {P:Program} {cs:List RV} {hs:FuncId->List Hint} {n:Nat} {F:FuncId} {ds rs:List Ty} {te:Ty} {post:List AY}
def zD(l:List te.D)(x:DL ds):(uu te ds post l x).map TV.enc= .sl 0 l.length te.sz 0 l.length::(fv ds x++post):=by
 have e:(post.map λv=>TV.c (.raw v)).map TV.enc=post:=by
  rw[OR];conv=>rhs;rw[<-cI post]
  exact Mi λv _=>rfl
 simp only[uu,Bo,Mh,VQ,e];rfl
theorem NM{g:List te.D->DL ds->Option (DL (rs++[.list te]))}(t: ∀c∈cs,c.Ok P)(hg: ∀l x,g l x=AAh P cs hs n F te ds rs post l x):(RV.c2 F te ds rs post g).Ok P:=by
 intro l x y k d H id C;rw[hg]at k;have key: ∃r m,y=qF (.list te) rs r m/\(∀v∈post,Pure v)/\Ee P F (.sl 0 l.length te.sz 0 l.length::(fv ds x++post)) [.live l.length (te.E.cl l)] (C4 (ja (fv rs r)) [.live m.length (te.E.cl m)]):=by
  unfold AAh at k;split at k;rename_i fn hf;split at k;rename_i c hb;split at k;rename_i hn;simp only[BP]at hn;have b: ∀v∈post,Pure v:=λv a=>AA6 (GD.1 hn.2 v a);have w:([D5.buf false te l l.length 0]:Am)[0]? =some (.buf false te l l.length 0):=rfl;have K:PJ (Vb 0 (uu te ds post l x)) [.buf false te l l.length 0]:=by refine⟨XD λv a=>?_,λe B=>?_⟩;rcases A3.1 a with rfl|a;exact Jz (Wl w);rcases An.1 a with a|a;grind[iI];obtain⟨u,_,rfl⟩:=B0.1 a;exact Jz trivial;rw[BA.1 B];exact rfl
  obtain⟨e,s,W,a1,k1,L,U⟩:=kZ (N:=fn.ntmps) t (VZ t n) F (hs F) c _ _ _ y K k;unfold AFs at k1;split at k1;rename_i B;split at k1;rename_i O ad;generalize T:((Z3 O).filter _)=ids at k1;obtain⟨o,M,Q⟩:=PO ids L;generalize HS ids s W=fz at k1 o M Q;obtain⟨ef,hh⟩:=fz;simp only at k1 o M Q;split at k1;rename_i vs X q l1 J V a R;split at k1;rename_i z;split at k1;rename_i r hr;injection k1 with k1;have i:=Ty.beq_eq _ _ z;injection i with i;subst i;have p:(Ty.cast z l1:List q.D)=l1:=rfl;rw[p]at k1;have I:J=l1.length:=o.heap _ (BM R);refine⟨r,l1,k1.symm,b,?_⟩;have Y:BC [.buf false q l l.length 0]=[.live l.length (q.E.cl l)]:=rfl;have Z:BC [.buf false q l1 J V]=[.live l1.length (q.E.cl l1)]:=by rw[<-I];rfl
  rw[<-Y,<-Z,<-zD];apply J6 hf hb (by rw[Ds];exact Kr hn.1);rw[<-U7];refine Mf.after (a1.awp.mono ?_);rintro _ _ _ ⟨rfl,rfl,rfl⟩;have G:1<=hh.length:=EB U.step.len M.step.len;refine⟨_,_,(Q _).of_le (by rw[CW,CW];exact U.step.len),ACy B o a ?_⟩;rw[CW];refine mC (H2:=[.buf false q l1 J V]) G (λj e' _ h=>?_) rfl (SE (Vh hr)) (TW (J4 rs r));match j,h with
  |0,h=>simp only[aE,Al]at h;subst h;exact⟨_,R,.inr (.inr (.inl ⟨_,_,_,_,_,_,_,rfl,rfl⟩))⟩
  |j+1,h=>simp at h
  cases k1;cases k1;cases k1;cases k1;cases k1;cases k;cases k;cases k
 obtain⟨r,m,rfl,b,key⟩:=key;rw[eW]at d⊢;simp only at d⊢;rw[<-d];rw[<-d]at C key;have f: ∀v∈fv ds x++post,Pure v:=λv a=>(An.1 a).elim (J4 ds x v) (b v);have ha:AY.renL (λj=>[id].getD j 0) (.sl 0 m.length te.sz 0 m.length::(fv ds x++post))= .sl id m.length te.sz 0 m.length::(fv ds x++post):=by simp only[AY.renL,jD f];rfl
 exact Ee.frame (H:=H) [id] key (GN.2 ⟨k!,OU⟩) rfl rfl (λj X e A S=>by
   match j,A,S with
   |0,A,S=>grind[List.getElem?_cons_zero,Option.some.injEq]
   |j+1,A,_=>simp at A) (λe h=>by
   rw[BA.1 h];exact(De _ _).2 (tR te l)) (λe h=>by
   rw[BA.1 h];exact(De _ _).2 (tR te m)) (TW (J4 rs r)) ha ((De _ _).2 λv a=>by
   rcases A3.1 a with rfl|a;rfl;exact(f v a).all _)
def vF{f:(List te.D×DL ds→Option (DL (rs++[.list te])))→List te.D×DL ds→Option (DL (rs++[.list te]))}(a: ∀c∈cs,c.Ok P)
  (d: ∀g l x,f g (l,x)=AAh P (.c2 F te ds rs post (λl x=>g (l,x))::cs) hs n F te ds rs post l x):(RV.c2 F te ds rs post λl x=>ti f (l,x)).Ok P:=by
 have key: ∀m,(RV.c2 F te ds rs post λl x=>jQ f m (l,x)).Ok P:=by
  intro m;induction m with
  |zero=>intro l x y b;cases b
  |succ m h=>exact NM (cs:=.c2 F te ds rs post (λl x=>jQ f m (l,x))::cs) (A6 h a) λl x=>d (jQ f m) l x
 intro l x y b;obtain⟨m,e⟩:=iq b;exact key m l x y e
end Go.Ab
namespace Go.Ab
def clW(fn:Func):Nat->String:=λi=>
 match fn.body with
 |some (.seq (.region _ a _) (.seq (.seq (.region _ b _) (.cond _ (.seq (.region _ c _) _) _)) (.seq (.region _ d _) _)))=>(((a++b++c++d)[i]?).map (·.pos)).getD default
 |_=>default
def zM(t b:TypeId)(w:Nat->String):Code:=
 .seq (.region 0 #[⟨some 2,.assign (.const (.slice none 0 0)),t,w 0, #[],none⟩] false)
  (.seq (.seq (.region 1 #[⟨some 3,.move (.tmp 0),t,w 1, #[],none⟩,⟨some 4,.binOp .eql t (.tmp 3) (.const (.slice none 0 0)) t,b,w 2, #[⟨0,.data⟩],none⟩] false)
    (.cond (.tmp 4) (.seq (.region 2 #[⟨some 2,.assign (.const (.slice none 0 0)),t,w 3, #[],none⟩] false) .ret) .skip))
   (.seq (.region 3 #[⟨some 5,.buildSlice t 0 #[],t,w 4, #[],none⟩,⟨some 6,.move (.tmp 0),t,w 5, #[],none⟩,
     ⟨some 7,.call {callee:=.builtin .append,args:= #[.tmp 5,.tmp 6],argTypes:= #[t,t]},t,w 6, #[⟨0,.data⟩,⟨1,.data⟩],none⟩,
     ⟨some 2,.assign (.tmp 7),t,w 7, #[⟨2,.data⟩,⟨2,.chain⟩,⟨0,.phase⟩,⟨1,.phase⟩,⟨2,.phase⟩],none⟩] false) .ret))
def NK.none{n0:Nat}{H:Ar}{id g sz off:Nat}(hn:n0<=H.length)(b:id<H.length)(k:0<sz):NK n0 (.sl id g sz off 0) H (.vs sz []) (H.set id .dead):=by
 refine⟨by simpa using hn,λX h w c s r=>?_⟩;obtain⟨p,t⟩:=s.kill b;refine⟨h,p,?_,λ_ _=>⟨rfl,rfl,rfl⟩,λB o=>?_⟩;cases r with
 |sl l m n q=>obtain⟨a,cap,rfl⟩:=n;exact Bi.vs (rows:=[]) (λ_ _=>undef) (B8 _) k (λj e h=>by simp at h) (λh=>(h rfl).elim) (λj e i v h=>by simp at h)
 obtain⟨i,e,l,d,m⟩:=o;rcases JR b l with⟨_,f⟩|⟨rfl,rfl⟩;exact⟨i,e,f,d,m⟩;exact(d rfl).elim
variable {N n z:Nat}{R y:Type}{c:List RV}{F:FuncId}{P:Program}{g:List AY}{j:Bool}{p:Ty}{q:Int}{v:World}{I:IntKind}{K:Value}
theorem AAl{P:Program}{F:FuncId}{t b:TypeId}{a:Ty}(p:(P.funcs[F]?).map (λy=>(y.body,y.ntmps,y.results))=some (some (zM t b (((P.funcs[F]?).map clW).getD (λ_=>default))),8, #[.tmp 2]))(J:elT P t=some a)(k:eU 0 a #[] []=true):(RV.cl F a).Ok P:=by
 generalize ((P.funcs[F]?).map clW).getD (λ_=>default)=w at p;obtain⟨y,U,C⟩:=Wy.1 p;injection C with R C;injection C with hn hr;intro l H V;obtain⟨e,B,x⟩:=gS J;have K:=(QC B).1;have A: ∀env,R9 P env t 0 #[]=some (a.sz,[]):=by intro env;unfold R9;simp only[B];refine if_pos ⟨a.sz_pos,x,rfl,rfl,B8 _,?_⟩;unfold eU at k;simp only[BP]at k;exact Kr k.2
 have i: ∀Q:AY→Ar→Prop,(l=[]→Q (.vs a.sz []) (BC (H++[.dead])))→(∀r,l≠ []→app [] l=some r→Q (.sl H.length r.length a.sz 0 r.length) (BC (H++[.buf false a r r.length 0])))→
   (l=[]\/ ∃r,app [] l=some r)->Ee P F [.vs a.sz (l.map a.enc)] (BC H) Q:=by
  intro Q M N f;refine J6 U R (by rw[hn];simp) ?_;rw[hn];refine Mf.seq (Fw rfl (Vp.cons rfl (Du (v:=.nils) rfl (Vp.nil (Mf.seq (Mf.seq (Fw rfl (Vp.cons rfl (Du (v:=.vs a.sz (l.map a.enc)) rfl (Vp.cons rfl (pk (sz:=a.sz) (rows:=l.map a.enc) rfl K rfl λL T=>Vp.nil ?_)))))))))));have o:L=true->l=[]:=λh=>by by_cases j:l=[]<;>simp_all
  have d:(BC H++[Eo.live 0 []]).set (BC H).length Eo.dead=BC (H++[.dead]):=by simp_all[SP,Ai,Gu,BC,D5.enc]
  refine Mf.cond (b:=L) rfl (λz=>?_) (λS=>?_);refine Mf.seq (Fw rfl (Vp.cons rfl (Du (v:=.nils) rfl (Vp.nil (Mf.weak (GC.virt (t:=2) (sz:=a.sz) rfl) (Mf.ret (⟨.sl (BC H).length 0 a.sz 0 0,.vs a.sz [],(BC H++[Eo.live 0 []]).set (BC H).length Eo.dead,by simp[bw,hr,SJ,kX,Env.putO,Env.put,Env.get],NK.none (by simp) (by simp) a.sz_pos,?_⟩)))))));rw[d];exact M (o z);refine Mf.skip (Mf.seq (Fw rfl (Vp.cons rfl (S5 (sz:=a.sz) (vs:=[]) rfl (A _) (Vp.cons rfl (Du (v:=.vs a.sz (l.map a.enc)) rfl (Vp.cons rfl ?_)))))));have I:NY (BC H++[Eo.live 0 []]) a.sz (.vs a.sz (l.map a.enc))=some (l.length,a.E.cl l):=by simp only[NY,if_true,Ds];rfl
  have s:0+l.length<=16777216:=by rcases f with rfl|⟨r,hr⟩;simp;obtain⟨N,_⟩:=ku hr;simpa using N
  refine RS (sx:=.tmp 5) (xx:=.tmp 6) (H:=BC H++[Eo.live 0 []]) (id:=(BC H).length) (g:=0) (g':=l.length) (n:=0) (cs:=[]) (m:=l.length) (news:=a.E.cl l) rfl B a.sz_pos x rfl (by simp) (by simp) I s (by rcases SU l.length with q|q;exact .inr ⟨q,q⟩;exact .inl q) ?_;refine Vp.cons rfl (Du (v:=.sl (BC H).length l.length a.sz 0 (0+l.length)) rfl (Vp.nil (Mf.ret ?_)));have O:(BC H++[Eo.live 0 []]).set (BC H).length (.live l.length ([]++a.E.cl l))=BC (H++[.buf false a l l.length 0]):=by simp_all[SP,Ai,Gu,BC,D5.enc]
  by_cases j:l=[];subst j;refine⟨.sl (BC H).length 0 a.sz 0 0,.vs a.sz [],(BC H++[Eo.live 0 []]).set (BC H).length Eo.dead,by simp[bw,hr,SJ,kX,Env.putO,Env.put,Env.get],?_,?_⟩;have:=NK.none (n0:=(BC H).length) (H:=BC H++[Eo.live 0 []]) (id:=(BC H).length) (g:=0) (off:=0) (by simp) (by simp) a.sz_pos;have e:(BC H++[Eo.live 0 []]).set (BC H).length (.live ([]:List a.D).length ([]++a.E.cl []))=BC H++[Eo.live 0 []]:=by rw[SP _ _ (Ai _),Gu];rfl
  rw[e];exact this;rw[d];exact M rfl;rcases f with h|⟨r,c⟩;exact(j h).elim;obtain⟨_,G⟩:=ku c;have u:l=r:=by simpa using G.symm
  subst u;refine⟨.sl (BC H).length l.length a.sz 0 l.length,_,_,by simp[bw,hr,SJ,kX,Env.putO,Env.put,Env.get],NK.refl _ _ (by simp),?_⟩;grind[CW]
 refine⟨λj=>?_,λr j hr=>?_⟩;subst j;exact i _ (λ_=>⟨rfl,rfl⟩) (λr h=>(h rfl).elim) (.inl rfl);exact i _ (λh=>(j h).elim) (λW _ c=>by rw[hr]at c;injection c with c;subst c;exact⟨rfl,rfl⟩) (.inr ⟨r,hr⟩)
abbrev i64:Ty:=.int .i64
abbrev hn(k i:Nat)(s:List Uv)(e:List (Exit×List Uv)):Hint:=⟨k,i,[],[],[],[],s,e⟩
def k0{a d:List Ty}{g:DL a→Option (DL d)}(l:List (Nat×List Hint))(b: ∀e∈c,e.Ok P)
  (f:g=λx=>xz P c (YR l) 13 F a d x:=by kernel_rfl):(RV.c0 F a d g).Ok P:=yI b λx=>congrFun f x
def k1{P:Program}{a:Ty}{d f:List Ty}{g:a.D→DL d→Option (DL (f++[a]))}(l:List (Nat×List Hint))(e: ∀h∈c,h.Ok P)
  (i:g=λb x=>AAg P c (YR l) 13 F N a d f b x:=by kernel_rfl):(RV.c1 F N a d f g).Ok P:=ACi e λb x=>congrFun (congrFun i b) x
theorem w64(h: -9223372036854775808<=q/\q<=9223372036854775807):IntKind.wrap .i64 q=q:=by grind[IntKind.wrap_i64]
def zi{body:y->Option (Step y R)}(I:y->Prop)(Q:R->Prop)(b:y->Nat)(i: ∀s,I s->(∃r,body s=some (.done r)/\Q r)\/ ∃a,body s=some (.next a)/\I a/\b a<b s){s:y}(h:I s): ∃r,Af body s=some r/\Q r:=by
 have key: ∀(n:Nat) (s:y),b s<n->I s-> ∃r,Af body s=some r/\Q r:=by
  intro n;induction n with
  |zero=>intro s j;omega
  |succ n k=>intro s j g;rcases i s g with⟨r,c,d⟩|⟨a,c,d,l⟩;exact⟨r,by rw[Ce,c],d⟩;obtain⟨r,e,f⟩:=k a o! d;exact⟨r,by rw[Ce,c];exact e,f⟩
 exact key (b s+1) s o! h
theorem AC8{l:List R}{x:R}(h:l[N]? =some x):ix l (N:Int)=some x:=by unfold ix;grind[Int.toNat_natCast]
def AFy{l:List R}(a:0<=q)(c:q<l.length): ∃x,ix l q=some x/\l[q.toNat]? =some x:=by
 obtain⟨n,rfl⟩:=FF a;have hn:n<l.length:=o!
 exact⟨l[n],AC8 (At hn),by simp[hn]⟩
def AEb{l a:List R}(h:l.length+a.length<=16777216):app l a=some (l++a):=if_pos h
theorem ACV(a:Ho n R)(h:N<n):Gr a (N:Int)=some (a ⟨N,h⟩):=by grind[Gr]
def Av(o:Option R)(Q:R->Prop):Prop:= ∃r,o=some r/\Q r
section
variable {α β γ:Type}
theorem AB{r:α}{Q:α->Prop}(h:Q r):Av (.some r) Q:=⟨r,rfl,h⟩
def Av.mono{o:Option α}{P Q:α->Prop}(h:Av o P)(c: ∀r,P r->Q r):Av o Q:=by obtain⟨r,a,b⟩:=h;exact⟨r,a,c r b⟩
theorem AA{o:Option α}{k:α->Option β}{P:α->Prop}{Q:β->Prop}(h:Av o P)(b: ∀r,P r->Av (k r) Q):Av (Option.bind o k) Q:=by obtain⟨r,rfl,a⟩:=h;exact b r a
theorem D9{o:Option α}{k:α->Option β}{P:α->Prop}{Q:β->Prop}(h:Av o P)(b: ∀r,o= .some r->P r->Av (k r) Q):Av (Option.bind o k) Q:=by obtain⟨r,rfl,a⟩:=h;exact b r rfl a
def AM{o:Option α}{k:α->Option β}{P:α->Prop}{Q:β->Prop}(a: ∀r,P r->Av (k r) Q)(h:Av o P):Av (Option.bind o k) Q:=AA h a
def AJ{a b:Option α}{Q:α->Prop}(d:j=true->Av a Q)(e:j=false->Av b Q):Av (bif j then a else b) Q:=by
 cases j with
 |true=>exact d rfl
 |false=>exact e rfl
def AC{p:Prop}{_:Decidable p}{a b:Option α}{Q:α->Prop}(c:p->Av a Q)(d: ¬p->Av b Q):Av (bif decide p then a else b) Q:=AJ (λh=>c (of_decide_eq_true h)) (λh=>d (of_decide_eq_false h))
theorem AO{a b:Option α}{Q:α->Prop}(d:j=false->Av a Q)(e:j=true->Av b Q):Av (bif !j then a else b) Q:=by
 cases j with
 |true=>exact e rfl
 |false=>exact d rfl
theorem AV{_:BEq R} [LawfulBEq R] {x y:R}{a b:Option α}{Q:α->Prop}(c:x=y->Av a Q)(d:x≠y->Av b Q):Av (bif x==y then a else b) Q:=AJ (λh=>c (eq_of_beq h)) (λh=>d (ne_of_beq_false h))
theorem AL{_:BEq R} [LawfulBEq R] {x y:R}{a b:Option α}{Q:α->Prop}(c:x≠y->Av a Q)(d:x=y->Av b Q):Av (bif x !=y then a else b) Q:=by refine AJ (λh=>c λe=>?_) (λh=>d ?_);subst e;simp at h;simpa using h
def BX{a b:Option α}{k:α->Option β}{Q:β->Prop}(h:Av (bif j then Option.bind a k else Option.bind b k) Q):Av (Option.bind (bif j then a else b) k) Q:=by cases j<;>exact h
def A2{a:α}{k:α->Option β}{Q:β->Prop}(h:Av (k a) Q):Av (Option.bind (.some a) k) Q:=h
def Bl{o:Option α}{f:α->Option β}{k:β->Option γ}{Q:γ->Prop}(h:Av (Option.bind o λv=>Option.bind (f v) k) Q):Av (Option.bind (Option.bind o f) k) Q:=by cases o<;>exact h
def Mn{f:α->Option γ}{g:β->Option γ}{o:α ⊕ β}{k:γ->Option R}{Q:R->Prop}(h:Av (Sum.elim (λu=>Option.bind (f u) k) (λu=>Option.bind (g u) k) o) Q):Av (Option.bind (Sum.elim f g o) k) Q:=by cases o<;>exact h
theorem BK{u:α}{f:α->Option γ}{g:β->Option γ}{Q:γ->Prop}(h:Av (f u) Q):Av (Sum.elim f g (.inl u)) Q:=h
theorem A5{u:β}{f:α->Option γ}{g:β->Option γ}{Q:γ->Prop}(h:Av (g u) Q):Av (Sum.elim f g (.inr u)) Q:=h
theorem A8{f:α->Option γ}{g:β->Option γ}{o:α ⊕ β}{Q:γ->Prop}(a: ∀u,o= .inl u->Av (f u) Q)(b: ∀u,o= .inr u->Av (g u) Q):Av (Sum.elim f g o) Q:=by
 cases o with
 |inl u=>exact a u rfl
 |inr u=>exact b u rfl
def Av.get{o:Option α}{Q:α->Prop}{r:α}(h:Av o Q)(e:o= .some r):Q r:=by obtain⟨s,a,b⟩:=h;rw[e]at a;injection a with a;rw[a];exact b
def Av.and{o:Option α}{P Q:α->Prop}(h:Av o P)(g:Av o Q):Av o λr=>P r/\Q r:=by obtain⟨r,a,b⟩:=h;exact⟨r,a,b,g.get a⟩
theorem AI{l:List α}{i:Int}(b:0<=i:=by omega)(c:i<l.length:=by omega):Av (ix l i) λx=>l[i.toNat]? = .some x/\x∈l:=by obtain⟨x,d,a⟩:=AFy b c;exact⟨x,d,a,BM a⟩
theorem Ac{l a:List α}(h:l.length+a.length<=16777216):Av (app l a) λr=>r=l++a/\r.length=l.length+a.length/\r.length<=16777216:=⟨_,AEb h,rfl,k!,w!⟩
theorem Cp{a b:BY}(h:a.length+b.length<=9223372036854775807):Av (sapp a b) λr=>r=a++b/\r.length=a.length+b.length:=by refine⟨a++b,?_,rfl,k!⟩;unfold Go.Ab.sapp;rw[if_pos h]
theorem Ch{s:BY}{lo hi:Int}(a:0<=lo:=by omega)(b:lo<=hi:=by omega)(c:hi<=s.length:=by omega):Av (UN s lo hi) λr=>r=(s.drop lo.toNat).take (hi.toNat-lo.toNat)/\(r.length:Int)=hi-lo:=by refine⟨_,if_pos ⟨a,b,c⟩,rfl,?_⟩;rw[Ba,GF];omega
theorem B5{s:List α}{lo hi:Int}(a:0<=lo:=by omega)(b:lo<=hi:=by omega)(c:hi<=s.length:=by omega):Av (cH s lo hi) λr=>r=(s.drop lo.toNat).take (hi.toNat-lo.toNat)/\(r.length:Int)=hi-lo:=by refine⟨_,if_pos ⟨a,b,c⟩,rfl,?_⟩;rw[Ba,GF];omega
def Tq{s:BY}{i:Int}(a:0<=i)(c:i<s.length):Av (six s i) λb=>0<=b/\b<256:=by
 obtain⟨n,rfl⟩:=FF a;have hn:n<s.length:=o!
 refine⟨(s[n].toNat:Int),?_,o!,?_⟩;unfold Go.Ab.six;simp[hn];have:=s[n].toNat_lt;omega
def DQ{a:Ho n α}(b:0<=q)(c:q<n):Av (Gr a q) λx=>x=a ⟨q.toNat,o!⟩:=by obtain⟨k,rfl⟩:=FF b;exact⟨_,ACV a o!,rfl⟩
theorem vP{z:α}(a:0<=q)(b:q<=16777216):Av (mk z q q) λr=>r=List.replicate q.toNat z/\(r.length:Int)=q:=by refine⟨List.replicate q.toNat z,?_,rfl,w!⟩;unfold Go.Ab.mk;rw[if_pos ⟨a,Ag _,b⟩]
def AS{body:y→Option (Step y R)}(I:y→Prop)(b:y→Nat){Q:R→Prop}{s:y}(c:I s)
  (f: ∀s,I s->Av (body s) λst=>match st with| .next a=>I a/\b a<b s| .done r=>Q r):Av (Af body s) Q:=by
 obtain⟨r,d,e⟩:=zi (body:=body) I Q b (λs g=>by
  obtain⟨st,q1,q2⟩:=f s g;cases st with
  |next a=>exact .inr ⟨a,q1,q2.1,q2.2⟩
  |done r=>exact .inl ⟨r,q1,q2⟩) c
 exact⟨r,d,e⟩
theorem TZ(n:Int):IntKind.wrap .u64 n=n%18446744073709551616:=by simp[IntKind.wrap,IntKind.bits,IntKind.signed]
theorem tD(n:Int):IntKind.wrap .u32 n=n%4294967296:=by simp[IntKind.wrap,IntKind.bits,IntKind.signed]
def AGR(n:Int):IntKind.wrap .u8 n=n%256:=by simp[IntKind.wrap,IntKind.bits,IntKind.signed]
def ZV{Q:α->Prop}(h:False):Av .none Q:=h.elim
theorem AZ{x:Int}(h: -9223372036854775808<=x/\x<=9223372036854775807:=by omega):wi x=x:=w64 h
theorem l!{P:Prop}(h:P:=by (try dsimp[len]at*);(try first|omega|assumption|grind[AZ])):P:=h
theorem i!{P:Prop}(h:P:=by simp only[len];omega):P:=h
def ACC(x:Int):wi x=(x+9223372036854775808)%18446744073709551616-9223372036854775808:=by unfold wi;rw[IntKind.wrap_i64]
end
def Sj(I:y->Prop)(μ:y->Nat)(m:Nat)(Q:R->Prop):Step y R->Prop
 | .next s'=>I s'/\μ s'<m
 | .done r=>Q r
def Dg{body:y->Option (Step y R)}(I:y->Prop)(a:y->Nat){Q:R->Prop}{s:y}(b:I s)(c: ∀s,I s->Av (body s) (Sj I a (a s) Q)):Av (Af body s) Q:=AS I a b λs d=>(c s d).mono λst h=>by cases st<;>exact h
theorem Av.next{I:y->Prop}{a:y->Nat}{m:Nat}{Q:R->Prop}{s:y}(h:I s)(b:a s<m):Av (Option.some (Step.next s)) (Sj I a m Q):=⟨_,rfl,h,b⟩
theorem Av.done{I:y->Prop}{a:y->Nat}{Q:R->Prop}{r:R}(h:Q r):Av (Option.some (Step.done r)) (Sj I a N Q):=⟨_,rfl,h⟩
open Go.ChangeShapes Go.WideShapes Go.ChangeAt Go.RowKit
def gh0:Gh:=⟨λ_=>none,λ_=>0,λ_=>0⟩
def cx0(w:World):Cx:=cx (λ_=>False) gh0 [] w
def AGr(w:World):JE (λ_=>False) gh0 [] w where
 out B h:=h.elim
 live id g cs h:=by simp at h
 lp id L h:=by simp at h
 inj id id' e e' B h:=by simp at h
 bld id e h:=by simp at h
theorem xL: ¬(cx0 v).O N:=by rintro(h|⟨id,e,h,_⟩);exact h;grind
def Yc{Q:AY→Ar→Prop}(h:Ee P F g [] Q){w:World}{cargs:Array Value}(hn:cargs.size=g.length)
  (d: ∀(j:Nat) (v:AY) (c:Value),g[j]? =some v->cargs[j]? =some c->Bi (cx0 w) v c):
  Calls P F cargs w λe b=> ∃c v x a,e= .returned c/\Q v a/\Bi x v c/\Below w.heap.size w b:=by
 refine(h (λ_=>False) gh0 w cargs (AGr w) hn d).mono ?_;rintro e b ⟨c,v,i,a,rfl,q,_,r,x⟩;refine⟨c,v,_,a,rfl,q,r,x.os,x.tape,x.output,x.size,λk l=>x.keep k l ?_⟩;rintro⟨id,e,f,_⟩;simp at f
def AAF{a:Addr}{b:List Int}(A:N≤n)(D:b.length=n)(t: ∀i,i<b.length→v.cell? (a.add i)=some (.int I (b.getD i 0)))(q:a.block<v.heap.size∨N=0):
  Bi (cx0 v) (.vs 1 ((b.take N).map λw=>.int I w)) (.slice (some a) N n):=by
 have d:((b.take N).map λw=>AY.int I w).length=N:=w!
 have g: ∀(j:Nat) (e:AY),((b.take N).map λw=>AY.int I w)[j]? =some e->j<N/\e= .int I (b.getD j 0):=by
  intro j e h;rw[CO]at h;cases c:(b.take N)[j]? with
  |none=>rw[c]at h;cases h
  |some w=>
   rw[c]at h;simp only[Bp,Al]at h;subst h;have p:j<(b.take N).length:=by rcases Aq j (b.take N).length with h|h;exact h;rw[Cj h]at c;cases c
   simp only[Ba]at p;rw[Kg o!]at c;exact⟨o!,by rw[Jd,c];rfl⟩
 have key:=Bi.vs (x:=cx0 v) (sz:=1) (rows:=(b.take N).map λw=>.int I w) (a:=some a) (cap:=n) (λj _=>.int I (b.getD j 0)) (by rw[d];exact A) o!
  (λj e h=>by rw[(g j e h).2];rfl)
  (λr=>by
   have C:0<N:=by rcases SU N with h|h;subst h;simp at r;exact h
   have m:a.spot=none:=by have:=t 0 o!;unfold World.cell? at this;split at this;split at this;cases this;rename_i u;simp only[Addr.add,if_true]at u;simpa using u;cases this
   obtain⟨B,s,E⟩:=a;simp only at m;subst m;refine⟨B,s,rfl,xL,?_,λj e i k c l=>?_⟩;rcases q with h|h;exact h;omega;obtain⟨y,o⟩:=g j e c;subst o;have f:i=0:=by
    simp only[AY.cells]at l;cases i with
    |zero=>rfl
    |succ i=>simp at l
   subst f;refine⟨?_,rfl⟩;have:=t j o!;simp only[Nat.mul_one,SS];show v.cell? _=_;rw[<-this];unfold Addr.add;split;rename_i z;subst z;rfl;rfl)
  (λj e i k c l=>by
   obtain⟨y,o⟩:=g j e c;subst o;have f:k= .int I (b.getD j 0):=by
    simp only[AY.cells]at l;cases i with
    |zero=>simpa using l.symm
    |succ i=>simp at l
   subst f;exact .int _ _)
 rw[d]at key;exact key
def ACA:Bi (cx0 v) (.vs 1 []) (.slice none 0 0):=Bi.vs (x:=cx0 v) (sz:=1) (rows:=[]) (a:=none) (cap:=0) (λ_ _=>.nilFunc) k! o! (λj e h=>by simp at h) (λh=>absurd rfl h) (λj e i w h=>by simp at h)
open Go.RowKit
def nY{args:List AY}{v:AY}(h: ∀(w:World) (a:Array Value),a.size=args.length→(∀(j:Nat) (u:AY) (c:Value),args[j]? =some u→a[j]? =some c→ ∃x,Bi x u c)→
  Calls P F a w λe i=> ∃c,e= .returned c/\(∀x,Bi x v c)/\Below w.heap.size w i) (H:Ar):Ee P F args H (C4 v H):=by
 intro X g w a s p hr;refine(h w a p λj u c m n=>⟨_,hr j u c m n⟩).mono ?_;rintro e i ⟨c,rfl,q,b⟩;have l:HP g H w g H i:=⟨b.os,b.tape,b.output,b.size,λB d _=>b.block B d,Ai _,λ_ _=>Ai _,λ_ _ _=>⟨rfl,rfl⟩,λB o=>.inl o,λB r hr=>⟨r,(b.block B (by rcases Aq B w.heap.size with h|h;exact h;simp[pH h]at hr)).trans hr⟩⟩
 exact⟨c,v,g,H,rfl,⟨rfl,rfl⟩,s.of_ext l (λid e k f=>.inl ⟨k,rfl,rfl,rfl,λB d=>b.block B (s.io_at k f d)⟩) s.inj,q _,l⟩
def wO{x:Cx}{s:List UInt8}(h:Bi x (.str s) K):K= .string ⟨s.toArray⟩:=by cases h;rename_i t h;subst h;rfl
def iK{x:Cx}(h:Bi x (.int I q) K):K= .int I q:=by cases h;rfl
end Go.Ab
