/- Texts of wip, joined and shortened by wip/tools/pack.py; nothing is assumed. -/
import Derived.Test.YtghpjojfhamomaaGreatK3
import Derived.KernelRfl
import Derived.ProofKit
noncomputable section
set_option linter.all false
namespace Go.Ab
def isLen:Op->Bool
 | .call {callee:=.builtin .len,.. }=>true
 | .move _=>true
 | .assign _=>true
 | .extract _ _=>true
 |_=>false
def rdT(env:Bf)(op:Op):List Nat:=match isLen op with|true=>[]|false=>op.operands.toList.flatMap λx=>idT (JG env x)
def V9(o:Oper)(env:Bf):Bf:=(tmpsOf o).filterMap λt=>match env.get t with| .c (.raw .any)=>none|v=>some (t,v)
def iu(ids:List Nat):Nat->Aq->List Nat
 |_,[]=>[]
 |j,.live false cs::r=>match (Kv cs).any λi=>OD i ids with|true=>j::iu ids (j+1) r|false=>iu ids (j+1) r
 |j,_::r=>iu ids (j+1) r
variable {N n z:Nat}{R y:Type}{a A:List Nat}{b B:Aq}{c:List S5}{d J:Code}{F:FuncId}{e:List Oper}{f L S:Bf}{P:Program}{g:List AZ}{i:AZ}{j:Bool}{k:S3}{m O:TypeId}{p:Ty}{q:Int}{t:List TV}{u:Env}{v:World}{w:TV}{x:Exit}{D:D0}{E:Bu}{G:Operand}{I:IntKind}{K:Value}{o:Oper}{M:Func}
section
variable {R:Type}
def quD(P:Program)(env:Bf)(H:Aq)(op:Op)(k:TV->Option R):Option R:=
 match op with
 | .buildSlice t len parts=>o0 P env t len parts k
 |op=>quT P env H op k
def ACL(P:Program)(cs:List S5)(call:S3)(env:Bf)(H:Aq)(op:Op)(k:TV->Aq->Option R):Option R:=
 match op with
 | .box _ x=>ADz H (JG env x) k
 | .store t a v=>storeT P H t (JG env a) (JG env v) k
 | .makeSlice t x y=>fY P H t (JG env x) (JG env y) k
 | .buildSlice t len parts=>Y7 P env H t len parts k
 | .call c=>
  match jW env (.call c)with
  |some (F,vs)=>
   match Enters P F with
   |true=>
    match pI cs F with
    |some ct=>zh ct vs H k
    |none=>match isNil vs with|true=>call (.fn F) [] (H.map D0.lock) λv H'=>k v (Vq H H')|false=>call (.fn F) vs H k
   |false=>none
  |none=>
   match ss env c with
   |some (id,vs)=>call (.yd id) vs H k
   |none=>
    match c with
    |{callee:=.builtin .append,args:=⟨[s,x]⟩,argTypes:=⟨[t,t']⟩}=>match Nat.beq t t' with|true=>py P H t (JG env s) (JG env x) k|false=>none
    |_=>none
 |_=>none
def AG2(P:Program)(cs:List S5)(call:S3)(env:Bf)(H:Aq)(op:Op)(k:TV->Aq->Option R):Option R:=
 match IG (kU cs env H op) env H with
 |(ef,hf)=>ACL P cs call ef hf op k
def wk(cs:List S5)(env:Bf)(H:Aq)(op:Op):List Nat:=
 match kU cs env H op with
 |[]=>vM cs env H op
 |ids=>ids++iu ids 0 H++(match IG ids env H with|(ef,hf)=>vM cs ef hf op)
def AHB:Op->Bool
 | .buildSlice .. =>true
 |_=>false
def zL(P:Program)(cs:List S5)(call:S3)(ops:Array Oper)(m:List Nat)(gs:List Nat)(ow:Bool):List Nat->List (Nat×List Nat)->Bf->Aq->(Bf->Aq->Option R)->Option R
 |[],_,env,H,k=>k env H
 |i::r,pend,env,H,k=>
  match ops[i]? with
  |none=>none
  |some o=>
   match o.op with
   | .alloc t=>
    match su P t with
    |some z=>
     match o.guard.isNone&&r.all (λj=>O8 m i j||H4 ops j)with
     |true=>zL P cs call ops m gs ow r pend (env.putO o.dst (.c (.raw (.ptr H.length 0 0)))) (H++[.live false z]) k
     |false=>none
    |none=>none
   |op=>
    match fV ops o.guard env with
    |some false=>zL P cs call ops m gs ow r ((i,[])::pend) (env.putO o.dst (.tup [])) H k
    |some true=>
     match dq op&& !(ow&&AHB op)with
     |true=>
      match (rdT env op).all λid=>Nat.blt id H.length with
      |true=>quD P env H op λv=>force (OD i gs) v λv'=>zL P cs call ops m gs ow r ((i,rdT env op)::pend) (env.putO o.dst v') H k
      |false=>none
     |false=>
      match r.all (λj=>O8 m i j||H4 ops j)&&pend.all (λp=>O8 m p.1 i||p.2.all λid=>!OD id (wk cs (V9 o env) H op))with
      |true=>AG2 P cs call (V9 o env) H op λv H'=>force (OD i gs) v λv'=>zL P cs call ops m gs ow r pend (env.putO o.dst v') H' k
      |false=>none
    |none=>none
variable {P:Program} {N:Nat} {o:Oper} {env:Bf} {H:Aq} {r:R}
theorem AAJ(env:Bf)(a:Op)(h:isLen a=false):ABM (CA env) a=rdT env a:=by grind[ABM,rdT,K0,AET]
theorem kJ.len{env:Env}{H:A0}{v:AZ}(b:isLen o.op=true)(e:Cb P env H o.op=some v):kJ P N o env H [] v:=by
 intro c f d _;refine Dk (v:=v) ?_ ⟨rfl,rfl⟩;rw[ub (eU d),<-e];generalize o.op=op at b;unfold isLen at b;split at b;rename_i args a;obtain⟨args⟩:=args;obtain⟨a⟩:=a;match args,a with
 |[x],[t]=>rfl
 |[],_=>rfl
 |_::_::_,_=>rfl
 |[_],[]=>rfl
 |[_],_::_::_=>rfl
 rfl;rfl;rfl;cases b
theorem ABJ{k:TV->Option R}(ok:QH env H)(h:quD P env H o.op k=some r): ∃v,kJ P N o (CA env) (BL H) (rdT env o.op) v.enc/\k v=some r/\v.ok H:=by
 have n:quT P env H o.op k=some r-> ∃v,kJ P N o (CA env) (BL H) (rdT env o.op) v.enc/\k v=some r/\v.ok H:=λh=>by
  obtain⟨v,f,i,j⟩:=uc ok h;refine⟨v,?_,i,j⟩;cases z:isLen o.op with
  |true=>grind[rdT,kJ.len]
  |false=>rw[<-AAJ _ _ z];exact Wg f
 generalize b:o.op=op at h;unfold quD at h;split at h;rename_i t len a;unfold o0 at h;split at h;rename_i q l;split at h;rename_i e;split at h;rename_i F d;have E:=sR l e;refine⟨_,?_,h,Js trivial⟩;rw[<-b,<-AAJ _ _ (by rw[b];rfl)];have y:vK P (CA env) (BL H) o.op=some (.vs q.sz ((a.toList.map λp=>JG env p.2).map TV.enc)):=by grind[vK]
 have A:=iS (N:=N) y;intro x m f i;have j:=A x m f i;refine JE.after (v:=.vs q.sz ((a.toList.map λp:Nat×Operand=>JG env p.2).map TV.enc)) (H1:=m) j λX g w s=>⟨Tq.refl _ _,λc D=>AFC (lI d) (iL d) (λv C=>?_) _ _ D⟩
 unfold fb at e;simp only[BW]at e;obtain⟨u,B,rfl⟩:=Bv.1 C;have:=GB.1 e.1.1.2 u B;split at this;simp_all[YX,dC];cases this;cases h;cases h;cases h;grind
theorem AAs{b:Op}{a:TV->Aq->Option R}(h:ACL P c k env H b a=some r):wo P c k env H b a=some r:=by unfold ACL at h;unfold wo;split at h<;>grind
theorem uX{p:Nat×TV}(h:p∈V9 o f):p.1∈tmpsOf o/\p.2=f.get p.1/\p.2≠ .c (.raw .any):=by obtain⟨t,b,a⟩:=OU.1 h;grind
theorem AEN(h:w.enc= .any):w= .c (.raw .any):=by
 cases w with
 |c x=>
  cases x with
  |ar n t a=>cases h
  |_=>grind[TV.enc,Bu.one]
 |_=>simp[TV.enc]at h
theorem kS{t:Nat}: ∀{l:Bf},(∀p∈l,p.1≠t)->Bf.get l t=Us
 |[],_=>rfl
 |(k,u)::r,h=>by simp only[Bf.get,beq_false (h (k,u) q!)];exact kS λp a=>h p (by simp[a])
theorem uQ{j:Nat}: ∀{l:List Nat},j∈l->OD j l=true
 |i::r,h=>by simp only[OD];rcases Au.1 h with rfl|h;rw[Ir];rw[uQ h];split<;>rfl
def AFI(ids:List Nat)(H:Aq)(j:Nat):Prop:= ∀cs,H[j]? =some (.live false cs)-> ∀i∈Kv cs,i∉ids
theorem pR{ids:List Nat}: ∀{H:Aq} {i j:Nat},i+j∉iu ids i H->AFI ids H j
 |e::r,i,0,hn,c,h=>by grind[iu,uQ]
 |e::r,i,j+1,hn,c,h=>by
  have d:(i+1)+j∉iu ids (i+1) r:=by
   have f:i+1+j=i+(j+1):=o!
   rw[f];intro a;apply hn;cases e with
   |live b c=>cases b<;>grind[iu]
   |dead=>exact a
   |buf=>exact a
   |lp=>exact a
   |mp=>exact a
  exact pR (ids:=ids) d c h
def lV{id b:Nat}{t:Ty}{l:List t.D}: ∀{a:List Bu},id∉Kv a->a.map (NK id b t l)=a
 |[],_=>rfl
 |x::r,h=>by
  cases x with
  |own d c e n=>simp only[Kv,Au,not_or]at h;simp only[Bi,NK,beq_false h.1,Bool.false_and,lV h.2]
  |_=>simp only[Kv]at h;simp only[Bi,NK,lV h]
def eV: ∀(a:List Nat) {env:Bf} {H:Aq} {j:Nat},j∉a->AFI a H j->(IG a env H).2[j]? =H[j]?
 |[],_,_,_,_,_=>rfl
 |id::r,env,H,j,hj,hn=>by
  simp at hj;simp only[IG];split;rename_i e h d;have m:h[j]? =H[j]? :=by
   unfold frz at d;split at d;rename_i t l n q s;simp at d;rw[<-d.2,D8 (λe=>hj.1 e.symm),CM];cases p:H[j]? with
   |none=>rfl
   |some o=>
    simp;cases o with
    |live b c=>
     cases b with
     |false=>simp only[QQ];rw[lV λf=>hn c p id f Iq]
     |true=>rfl
    |_=>rfl
   cases d
  rw[eV r hj.2 λc g i k f=>hn c (m▸g) i k (CZ _ f),m];exact eV r hj.2 λc g i k f=>hn c g i k (CZ _ f)
theorem yT(l: ∀b∈c,b.Ok P)(g:Wm P k){f:TV→Aq→Option R}(ok:QH env H)(h:AG2 P c k (V9 o env) H o.op f=some r):
  ∃v d,Eff P N o (CA env) (BL H) (wk c (V9 o env) H o.op) (C8 v.enc (BL d))/\f v d=some r/\v.ok d/\(∀e∈d,e.ok d)/\CR H d:=by
 have n:QH (V9 o env) H:=⟨λp m=>by rw[(uX m).2.1];exact oL ok.env _,ok.heap⟩
 obtain⟨s,u,A⟩:=Q3 (kU c (V9 o env) H o.op) n;have w:=λj=>eV (kU c (V9 o env) H o.op) (env:=V9 o env) (H:=H) (j:=j);have x: ∀id,id∉wk c (V9 o env) H o.op->id∉vM c (IG (kU c (V9 o env) H o.op) (V9 o env) H).1 (IG (kU c (V9 o env) H o.op) (V9 o env) H).2 o.op/\(IG (kU c (V9 o env) H o.op) (V9 o env) H).2[id]? =H[id]? :=by intro id a;unfold wk at a;split at a;rename_i z;rw[z];exact⟨a,rfl⟩;simp only[An,not_or]at a;refine⟨a.2,w id a.1.1 (pR (i:=0) k!)⟩
 obtain⟨v,d,q1,q2,q3,q4,q5,q6⟩:=pG (N:=N) l g s (AAs h);refine⟨v,d,⟨λt G=>JE.before (GF.subset λq y=>?_) (JE.before (A N) q1),?_⟩,q2,q3,q4,u.step.trans q5⟩;obtain⟨p,m,rfl⟩:=Bv.1 y;obtain⟨D,E,F⟩:=uX m;grind[UH,Nf,AEN];rintro _ _ ⟨rfl,rfl⟩ id a hn;rw[Cc]at a;obtain⟨B,C⟩:=x id hn;rw[FU,FU,q6 id (DN a u.step.len) B,C]
def Tm{j:Nat}: ∀{l:List Nat},OD j l=false->j∉l
 |i::r,h=>by simp only[OD]at h;split at h;cases h;rename_i b;intro a;rcases Au.1 a with rfl|a;rw[Ir]at b;cases b;exact Tm h a
 |[],_=>λh=>by cases h
def tG(ops:Array Oper)(l:List Nat):List Nat:=l.filterMap λi=>(ops[i]?).bind (·.dst)
theorem YT{L:List S5}(u: ∀c∈L,c.Ok P){w:S3}(s:Wm P w){b:Array Oper}{X:List Nat}{ow:Bool}: ∀(l:List Nat) (n:List (Nat×List Nat)) (env:Bf) (H:Aq) (k:Bf→Aq→Option R) (r:R),QH env H→
  zL P L w b (IF b.toList []) X ow l n env H k=some r->
  ∃a q,RA P N b l n (CA env) (BL H) (λe h=>e=CA a/\h=BL q)/\k a q=some r/\QH a q/\FO (tG b l) env H a q
 |[],n,env,H,k,r,ok,h=>⟨env,H,⟨rfl,rfl⟩,h,ok,FO.refl _ _ _⟩
 |i::l,n,env,H,k,r,ok,h=>by
  simp only[zL]at h;simp only[RA];cases J:b[i]? with
  |none=>rw[J]at h;cases h
  |some o=>
   rw[J]at h;simp only at h⊢;have m: ∀{e:Bf} {h:Aq} {v:TV},FO (tG b [i]) e h (e.putO o.dst v) h:=by
    intro e h v;refine⟨CR.refl h,λt T _=>?_⟩;cases hd:o.dst with
    |none=>rfl
    |some d=>refine nJ λe=>T ?_;simp[tG,J,hd,e]
   have g: ∀t,t∈tG b [i]++tG b l->t∈tG b (i::l):=by grind[tG]
   split at h;rename_i t Q;split at h;rename_i z hz;split at h;rename_i F;simp only[BW]at F;obtain⟨z1,z2⟩:=Ya hz;have I:=CR.push H (.live false z);have f:QH (env.putO o.dst (.c (.raw (.ptr H.length 0 0)))) (H++[.live false z]):=⟨fe (I.env ok.env) (Js trivial),PR ok.heap (z2 _)⟩
   obtain⟨a,q,x,C,D,E⟩:=YT u s l _ _ _ _ _ f h;have G:o.guard=none:=by simpa using F.1
   refine⟨a,q,?_,C,D,?_⟩;rw[G];refine .inr (.inr ⟨t,lvs z,Q,z1,λj V=>?_,?_⟩);grind[List.all_eq_true];have M:CA (env.putO o.dst (.c (.raw (.ptr H.length 0 0))))=(CA env).putO o.dst (.ptr (BL H).length 0 0):=by rw[XT,Cc];rfl
   have W:BL (H++[.live false z])=BL H++[.live 0 (lvs z)]:=Q1 _ _;rw[M,W]at x;exact x;have U:FO (tG b [i]) env H (env.putO o.dst (.c (.raw (.ptr H.length 0 0)))) (H++[.live false z]):=⟨I,(m (h:=H)).same⟩
   exact(FO.trans ok.env U E).mono g;cases h;cases h;rename_i O;have y:H4 b i=false:=by
    cases Z:H4 b i with
    |false=>rfl
    |true=>obtain⟨t,T⟩:=(V7 J).1 Z;exact(O t T).elim
   split at h;rename_i G;have f:QH (env.putO o.dst (.tup [])) H:=⟨fe ok.env (Q7 λv hv=>by cases hv),ok.heap⟩
   obtain⟨a,q,x,C,D,E⟩:=YT u s l _ _ _ _ _ f h;have M:(CA env).putO o.dst (.tup [])=CA (env.putO o.dst (.tup [])):=by rw[XT];rfl
   exact⟨a,q,mv G ⟨y,by rw[M];exact x⟩,C,D,(FO.trans ok.env m E).mono g⟩;rename_i G;split at h;split at h;rename_i S;obtain⟨v,q1,q2,q3⟩:=ABJ (N:=N) ok h;have B:=lO q2;have f:QH (env.putO o.dst v) H:=⟨fe ok.env q3,ok.heap⟩
   obtain⟨a,q,x,C,D,E⟩:=YT u s l _ _ _ _ _ f B;refine⟨a,q,ii G (.inl ⟨y,v.enc,rdT env o.op,q1,λid A=>?_,by rw[<-XT];exact x⟩),C,D,(FO.trans ok.env m E).mono g⟩;have:=GB.1 S id A;rw[Cc];exact OX this;cases h;split at h;rename_i F;simp only[BW]at F;obtain⟨v,K,q1,q2,q3,q4,q5⟩:=yT (N:=N) u s ok h;have B:=lO q2;have f:QH (env.putO o.dst v) K:=⟨fe (q5.env ok.env) q3,q4⟩
   obtain⟨a,q,x,C,D,E⟩:=YT u s l _ _ _ _ _ f B;refine⟨a,q,ii G (.inr (.inl ⟨y,wk L (V9 o env) H o.op,λj V=>by simpa using List.all_eq_true.1 F.1 j V,λp hp=>?_,C8 v.enc (BL K),q1,?_,?_⟩)),C,D,?_⟩;have:=GB.1 F.2 p hp;simp only[XM,GB,XL]at this;exact this.imp id λY id A=>Tm (Y id A);rintro _ _ ⟨rfl,rfl⟩;rw[Cc,Cc];exact q5.len;rintro _ _ ⟨rfl,rfl⟩;rw[<-XT];exact x;have U:FO (tG b [i]) env H (env.putO o.dst v) K:=⟨q5,(m (h:=H)).same⟩
   exact(FO.trans ok.env U E).mono g;cases h;cases h
end
abbrev DV:=(t:Ty)×t.D
def dvs:(ts:List Ty)->DL ts->List DV
 |[],_=>[]
 |[t],x=>[⟨t,x⟩]
 |t::u::r,x=>⟨t,x.1⟩::dvs (u::r) x.2
def yo:(ts:List Ty)->List DV->Option (DL ts)
 |[],[]=>some ()
 |[t],[⟨t',x⟩]=>if h:t'.beq t=true then some (Ty.cast h x)else none
 |t::u::r,⟨t',x⟩::ds=>if h:t'.beq t=true then match yo (u::r) ds with|some y=>some (Ty.cast h x,y)|none=>none else none
 |_,_=>none
def zo{a:Ty}(h:a.beq p=true)(x:a.D):(⟨p,Ty.cast h x⟩:DV)=⟨a,x⟩:=by have e:=Ty.beq_eq a p h;subst e;rfl
theorem oU: ∀{b:List Ty} {a:List DV} {s:DL b},yo b a=some s->dvs b s=a
 |[],[],s,_=>rfl
 |[],_::_,s,h=>by cases h
 |[t],[],s,h=>by cases h
 |[t],[⟨t',x⟩],s,h=>by simp only[yo]at h;split at h;rename_i c;injection h with h;subst h;simp only[dvs,zo];cases h
 |[t],_::_::_,s,h=>by simp[yo]at h
 |t::u::r,[],s,h=>by cases h
 |t::u::r,⟨t',x⟩::a,s,h=>by simp only[yo]at h;split at h;rename_i c;split at h;rename_i y d;injection h with h;subst h;simp only[dvs,zo,oU d];cases h;cases h
inductive Part where
 |d (t:Ty)
 |o (id:Nat)
inductive VN where
 |t (tmp:Nat) (ty:Ty)
 |g (tmp id:Nat)
 |p (id:Nat) (ps:List Part)
 |u (id:Nat) (ty:Ty)
 |x (id:Nat)
 |k (tmp:Nat) (v:AZ)
 |y (id:Nat) (s:LS)
 |m (id:Nat) (k:IntKind) (t:Ty)
def AGd:AZ->AZ->Bool
 | .ptr a b c,.ptr a' b' c'=>Nat.beq a a'&&(Nat.beq b b'&&Nat.beq c c')
 | .nilp,.nilp=>true
 | .nilf,.nilf=>true
 |_,_=>false
def AEs{w:AZ}(h:AGd i w=true):i=w:=by unfold AGd at h;split at h<;>simp_all
def LV:List VN->List Nat
 |[]=>[]
 | .p id _::r=>id::LV r
 | .u id _::r=>id::LV r
 | .x id::r=>id::LV r
 | .y id _::r=>id::LV r
 | .m id _ _::r=>id::LV r
 |_::r=>LV r
def sh:List VN->List Nat
 |[]=>[]
 | .t tmp _::r=>tmp::sh r
 | .g tmp _::r=>tmp::sh r
 | .k tmp _::r=>tmp::sh r
 |_::r=>sh r
def AGX:List Part->List Ty
 |[]=>[]
 | .d t::r=>t::AGX r
 |_::r=>AGX r
def fj:List VN->List Ty
 |[]=>[]
 | .t _ t::r=>t::fj r
 | .p _ ps::r=>AGX ps++fj r
 | .u _ t::r=>.list t::fj r
 | .m _ k t::r=>.list (.prod (.cons (.int k) (.one t)))::fj r
 |_::r=>fj r
def vI(H:Aq)(id:Nat):Bu->Bool
 | .own id' ver _ _=>match Nat.beq id id' with
  |true=>match H[id]? with|some (.buf _ _ _ _ ver')=>Nat.beq ver ver'|_=>false
  |false=>false
 |_=>false
def pA(H:Aq)(rest:List Nat):List Part->List Bu->Option (List DV)
 |[],[]=>some []
 | .d t::ps,cs=>
  match t.mk cs with
  |some (x,cs')=>match pA H rest ps cs' with|some ds=>some (⟨t,x⟩::ds)|none=>none
  |none=>none
 | .o id::ps,c::cs=>
  match vI H id c&& !OD id rest with
  |true=>pA H rest ps cs
  |false=>none
 |_,_=>none
def Zz(env:Bf)(H:Aq):List VN->Option (List DV)
 |[]=>some []
 | .t tmp ty::r=>
  match ty.data (env.get tmp),Zz env H r with
  |some x,some ds=>some (⟨ty,x⟩::ds)
  |_,_=>none
 | .g tmp id::r=>
  match env.get tmp with
  | .c x=>match vI H id x&& !OD id (LV r)with|true=>Zz env H r|false=>none
  |_=>none
 | .p id ps::r=>
  match H[id]? with
  |some (.live _ cs)=>
   match pA H (id::LV r) ps cs,Zz env H r with
   |some a,some b=>some (a++b)
   |_,_=>none
  |_=>none
 | .u id ty::r=>
  match H[id]? with
  |some (.buf _ t l _ _)=>match t.beq ty,Zz env H r with|true,some ds=>some (⟨.list t,l⟩::ds)|_,_=>none
  |_=>none
 | .x _::r=>Zz env H r
 | .k tmp v::r=>
  match env.get tmp with
  | .c (.raw w)=>match AGd v w with|true=>Zz env H r|false=>none
  |_=>none
 | .y id s::r=>
  match H[id]? with
  |some (.lp _ _ _ _ _ _ _ s')=>match s.beq s' with|true=>Zz env H r|false=>none
  |_=>none
 | .m id k t::r=>
  match H[id]? with
  |some (.mp _ k' t' es)=>match decide (k'=k)&&t'.beq t,Zz env H r with|true,some ds=>some (⟨.list (.prod (.cons (.int k') (.one t'))),es⟩::ds)|_,_=>none
  |_=>none
def rf(H:Aq):List Part->List DV->Option (List Bu×List DV)
 |[],ds=>some ([],ds)
 | .d _::ps,⟨t,x⟩::ds=>match rf H ps ds with|some (cs,r)=>some (t.lvs x++cs,r)|none=>none
 | .o id::ps,ds=>
  match H[id]? with
  |some (.buf _ t _ n ver)=>match rf H ps ds with|some (cs,r)=>some (.own id ver t n::cs,r)|none=>none
  |_=>none
 |_,_=>none
def WZ:List VN->List DV->Bf->Aq->Option (Bf×Aq)
 |[],[],env,H=>some (env,H)
 | .t tmp _::r,⟨t,x⟩::ds,env,H=>WZ r ds ((tmp,t.tv x)::env) H
 | .g tmp id::r,ds,env,H=>
  match H[id]? with
  |some (.buf _ t _ n ver)=>WZ r ds ((tmp,.c (.own id ver t n))::env) H
  |_=>none
 | .p id ps::r,ds,env,H=>
  match H[id]? with
  |some (.live false _)=>match rf H ps ds with|some (cs,ds')=>WZ r ds' env (H.set id (.live false cs))|none=>none
  |_=>none
 | .u id _::r,⟨.list t,l⟩::ds,env,H=>
  match H[id]? with
  |some (.buf false t' _ _ ver)=>match t'.beq t with|true=>WZ r ds env (H.set id (.buf false t l l.length (ver+1)))|false=>none
  |_=>none
 | .x id::r,ds,env,H=>
  match H[id]? with
  |some e=>match e.ro||e.isLp with|false=>WZ r ds env (H.set id .dead)|true=>none
  |none=>none
 | .k tmp v::r,ds,env,H=>WZ r ds ((tmp,.c (.raw v))::env) H
 | .y id s::r,ds,env,H=>
  match H[id]? with
  |some (.lp false F n e ps a b _)=>WZ r ds env (H.set id (.lp false F n e ps a b s))
  |_=>none
 | .m id _ _::r,⟨.list (.prod (.cons (.int k) (.one t))),es⟩::ds,env,H=>
  match H[id]? with
  |some (.mp false k' t' _)=>match decide (k'=k)&&t'.beq t with|true=>WZ r ds env (H.set id (.mp false k t es))|false=>none
  |_=>none
 |_,_,_,_=>none
def AFp(e e':D0):Prop:=e'= .dead\/(∃b cs b' cs',e= .live b cs/\e'= .live b' cs'/\Dg (lvs cs) (lvs cs'))\/(∃b t l n v b' v',e= .buf b t l n v/\e'= .buf b' t l n v')\/(∃ro ro' F n env ps a b s,e= .lp ro F n env ps a b s/\e'= .lp ro' F n env ps a b s)\/(∃b b' k t es,e= .mp b k t es/\e'= .mp b' k t es)
def HR(H1 H:Aq)(rest:List Nat):Prop:= ∀(j:Nat) (e':D0),OD j rest=false->H[j]? =some e'-> ∃e,H1[j]? =some e/\AFp e e'
theorem Q6:OD N (n::a)=false↔N≠n/\OD N a=false:=by simp[OD];by_cases h:N=n;simp_all;grind[beq_false]
theorem pB(j:E.ok b)(h:vI b N E=true): ∃H t l n a,E= .own N a t n/\b[N]? =some (.buf H t l n a):=by unfold vI at h;split at h;rename_i k a t n;split at h;rename_i i;have e:=Db i;subst e;split at h;rename_i H o l m d g;have f:=Db h;subst f;have⟨rfl,rfl⟩:=(j.2 _ _ _ _ _ g).2 rfl;grind;cases h;cases h;cases h
theorem XX{b:Bool}{l:List p.D}(h:B[N]? =some (.buf b p l n z)):VM B N z p n:=by refine⟨?_,λro g e f c d=>?_⟩;grind;grind
theorem lG{q H:Aq}{i:List Nat}(hr:HR q H i): ∀{p:List Part} {m:List Bu} {a b j:List DV} {f:List Bu},lok q m→pA q i p m=some a→rf H p (a++b)=some (f,j)→
  j=b/\Dg (lvs m) (lvs f)/\lok H f
 |[],[],a,b,j,f,ok,h,k=>by grind[pA,Option.some.injEq,rf,Prod.mk.injEq,Dg.refl,AEZ]
 |[],_::_,a,b,j,f,ok,h,k=>by simp[pA]at h
 | .d t::p,m,a,b,j,f,ok,h,k=>by simp[pA]at h;split at h;rename_i x R z;split at h;rename_i S u;cases h;obtain⟨Q,rfl,M⟩:=t.mk_spec _ _ _ z;simp[Dr,rf]at k;split at k;rename_i E r v;obtain⟨rfl,rfl⟩:=k;have⟨q1,q2,q3⟩:=lG hr (Iz.1 ok).2 u v;refine⟨q1,?_,Iz.2 ⟨t.lvs_ok x,q3⟩⟩;rw[Gq,Gq,t.lvs_enc];exact M.append q2;cases k;cases h;cases h
 | .o id::p,c::m,a,b,j,f,ok,h,k=>by
  simp[pA]at h;split at h
  ·rename_i s;simp[BW,XL]at s;obtain⟨O,t,l,n,N,rfl,L⟩:=pB (ok c q!) s.1;simp[rf]at k;split at k
   ·rename_i P t2 l2 Z D B;split at k
    ·rename_i E r v;obtain⟨rfl,rfl⟩:=k;have⟨q1,q2,q3⟩:=lG hr (λx z=>ok x (by simp[z])) h v;have⟨e,C,w⟩:=hr id _ s.2 B;rw[L]at C;cases C;rcases w with g|⟨_,_,_,_,g,_⟩|⟨_,_,_,_,_,_,_,g,K⟩|⟨_,_,_,_,_,_,_,_,_,g,_⟩|⟨_,_,_,_,_,g,_⟩;cases g;cases g;rotate_left;cases g;cases g;injection g with T F U G V;injection K with W I X J Y;subst F G I J;refine⟨q1,?_,λy A=>?_⟩;rw[HY,HY];exact(Dg.refl _).append q2;rcases Au.1 A with rfl|A;exact XX B;exact q3 y A
    cases k
   cases k
  cases h
structure IS(env1:Bf)(H1:Aq)(slots:List VN)(env:Bf)(H:Aq)(env2:Bf)(H2:Aq):Prop where
 get: ∀t,OD t (sh slots)=false->env2.get t=env.get t
 ok:QH env2 H2
 env: ∀p∈env2,∃v,(p.1,v)∈env1/\Wn v.enc p.2.enc
 hr:HR H1 H2 []
 step:CR H H2
 len:H2.length=H.length
 same: ∀j,OD j (LV slots)=false->H2[j]? =H[j]?
def jB{t:Nat}{v:TV}: ∀{env:Bf},env.get t=v->v≠Us->(t,v)∈env
 |[],h,hv=>absurd h.symm hv
 |(k,u)::r,h,hv=>by simp only[Bf.get]at h;split at h;simp_all;exact CZ _ (jB h hv)
def heap_set(H:CR b (b.set N D))(ok: ∀x∈b,x.ok b)(a:D.ok (b.set N D)): ∀x∈b.set N D,x.ok (b.set N D):=by intro x c;rcases OW c with h|rfl;exact H.ent (ok x h);exact a
theorem HR.set{a H:Aq}{id:Nat}{d:D0}(h:HR a H (id::A))(g:a[id]? =some D)(hr:AFp D d):HR a (H.set id d) A:=by intro j x f c;rw[XS]at c;split at c;grind;rename_i b;exact h j x (Q6.2 ⟨λq=>b q.symm,f⟩) c
theorem LpS.set{H c:Aq}{id:Nat}{i:D0}(h:LpS H c)(l:id<H.length)(p: ∀ro F n env f a b s,c[id]? =some (.lp ro F n env f a b s)-> ∃g o,i= .lp g F n env f a b o):LpS (H.set id i) c:=by intro j k ro F n env f a b s m;rw[dH]at k;by_cases d:j=id;grind;rw[D8 λe=>d e.symm];exact h j k _ _ _ _ _ _ _ _ m
variable {l:List VN}
theorem pN(id:Nat){H:Aq}(c:B[id]? =some D)(g:(D.ro||D.isLp)=false)(r:B.length≤b.length)(lp:LpS B b)
  (hr:HR b B (id::LV l)) (ok:QH L B) (q0:QH L (B.set id .dead)->LpS (B.set id .dead) b->HR b (B.set id .dead) (LV l)->IS f b l L (B.set id .dead) S H):IS f b (.x id::l) L B S H:=by
 have a:D.isLp=false:=k!
 have st:CR B (B.set id .dead):=CR.set c k! λ_ _ _ _ _ D=>by cases D
 have d:id<b.length:=k!
 have q:=q0 ⟨st.env ok.env,heap_set st ok.heap trivial⟩ (lp.set (G2 c) λ_ _ _ _ _ _ _ _ i=>by have⟨k,m,q⟩:=lp id (G2 c) _ _ _ _ _ _ _ _ i;rw[c]at q;injection q with q;rw[q]at a;cases a) (HR.set hr (As d) (.inl rfl));refine⟨q.get,q.ok,q.env,q.hr,st.trans q.step,by simpa using q.len,λj h=>?_⟩;have:=Q6.1 h;rw[q.same j this.2,D8 λD=>this.1 D.symm]
def OC{env1:Bf}{G:Aq}(o:QH env1 G): ∀{slots:List VN} {B:List DV} {env:Bf} {H:Aq} {env2:Bf} {D:Aq},Zz env1 G slots=some B→WZ slots B env H=some (env2,D)→QH env H→
  H.length<=G.length->(∀p∈env,∃v,(p.1,v)∈env1/\Wn v.enc p.2.enc)->HR G H (LV slots)->LpS H G->IS env1 G slots env H env2 D
 |[],B,env,H,env2,D,h,k,ok,hl,he,hr,lp=>by simp only[Zz,Am]at h;subst h;simp only[WZ,Am,EY]at k;obtain⟨rfl,rfl⟩:=k;exact⟨λ_ _=>rfl,ok,he,hr,CR.refl _,rfl,λ_ _=>rfl⟩
 | .t tmp ty::r,B,env,H,env2,D,h,k,ok,hl,he,hr,lp=>by
  simp[Zz]at h;split at h;rename_i x d L T;cases h;simp[WZ]at k;have f:QH ((tmp,ty.tv x)::env) H:=⟨λp z=>by rcases Au.1 z with rfl|z;exact ty.tv_ok x;exact ok.env p z,ok.heap⟩
  have q:=OC o T k f hl (λp z=>by rcases Au.1 z with rfl|z;refine⟨env1.get tmp,jB rfl λe=>?_,?_⟩;rw[e]at L;cases ty<;>cases L;simp[ty.tv_enc];exact L7 L;exact he p z) hr lp;refine⟨λt J=>?_,q.ok,q.env,q.hr,q.step,q.len,q.same⟩;have:=Q6.1 J;rw[q.get t this.2];simp[Bf.get,beq_false λe=>this.1 e.symm];cases h
 | .g tmp id::r,B,env,H,env2,D,h,k,ok,hl,he,hr,lp=>by
  simp[Zz]at h;split at h
  ·rename_i x L;split at h
   ·rename_i I;simp[BW,XL]at I;have Z:x.ok G:=oL o.env tmp x (by rw[L];simp[TV.refs]);obtain⟨b1,t,l,n,ad,rfl,C⟩:=pB Z I.1;simp[WZ]at k;split at k
    ·rename_i b2 R l2 n2 V h2;have⟨e,U,Y⟩:=hr id _ I.2 h2;rw[C]at U;cases U;rcases Y with i|⟨_,_,_,_,i,_⟩|⟨_,_,_,_,_,_,_,i,h1⟩|⟨_,_,_,_,_,_,_,_,_,i,_⟩|⟨_,_,_,_,_,i,_⟩;cases i;cases i;rotate_left;cases i;cases i;injection i with e1 e2 e3 e4 e5;injection h1 with f1 f2 f3 f4 f5;subst e2 e4 f2 f4;have f:QH ((tmp,.c (.own id V R n2))::env) H:=⟨λp z=>by rcases Au.1 z with rfl|z;exact Js (XX h2);exact ok.env p z,ok.heap⟩
     have q:=OC o h k f hl (λp z=>by rcases Au.1 z with rfl|z;exact⟨_,jB L (λe=>by cases e),Wn.refl _⟩;exact he p z) hr lp;refine⟨λt J=>?_,q.ok,q.env,q.hr,q.step,q.len,q.same⟩;have:=Q6.1 J;rw[q.get t this.2];simp[Bf.get,beq_false λe=>this.1 e.symm]
    cases k
   cases h
  cases h
 | .p id Q::r,B,env,H,env2,D,h,k,ok,hl,he,hr,lp=>by
  simp[Zz]at h;split at h;rename_i b cs C;split at h;rename_i a b1 ha I;cases h;simp[WZ]at k;split at k;rename_i al i;split at k;rename_i M S hi;have X:lok G cs:=by simpa only[D0.ok]using o.heap _ (BN C)
  have⟨rfl,q2,q3⟩:=lG hr X ha hi;have st:CR H (H.set id (.live false M)):=CR.set i rfl λ_ _ _ _ _ e=>by cases e
  have A:HR G (H.set id (.live false M)) (LV r):=HR.set hr C (.inr (.inl ⟨_,_,_,_,rfl,rfl,q2⟩));have f:QH env (H.set id (.live false M)):=⟨st.env ok.env,heap_set st ok.heap (by simpa only[D0.ok]using st.lok q3)⟩
  have q:=OC o I k f (by simpa using hl) he A (lp.set (G2 i) λ_ _ _ _ _ _ _ _ E=>by rw[C]at E;cases E);refine⟨q.get,q.ok,q.env,q.hr,st.trans q.step,by simpa using q.len,λj N=>?_⟩;have:=Q6.1 N;rw[q.same j this.2,D8 λe=>this.1 e.symm];cases k;cases k;cases h;cases h
 | .u id ty::r,B,env,H,env2,D,h,k,ok,hl,he,hr,lp=>by
  simp[Zz]at h;split at h;rename_i b t l n ad C;split at h;rename_i S I T;cases h;simp[WZ]at k;split at k;rename_i t' l0 n0 K i;split at k;rename_i J;have e:=Ty.beq_eq _ _ J;subst e;have hn:n=l.length:=by simpa only[D0.ok]using o.heap _ (BN C)
  have st:CR H (H.set id (.buf false t' l l.length (K+1))):=CR.set i rfl λro R l2 n2 v2 e=>by cases e;exact⟨_,_,_,_,rfl,.inl o!⟩
  have A:HR G (H.set id (.buf false t' l l.length (K+1))) (LV r):=HR.set hr C (.inr (.inr (.inl ⟨_,_,_,_,_,_,_,rfl,by rw[hn]⟩)));have f:QH env (H.set id (.buf false t' l l.length (K+1))):=⟨st.env ok.env,heap_set st ok.heap rfl⟩
  have q:=OC o T k f (by simpa using hl) he A (lp.set (G2 i) λ_ _ _ _ _ _ _ _ E=>by rw[C]at E;cases E);refine⟨q.get,q.ok,q.env,q.hr,st.trans q.step,by simpa using q.len,λj N=>?_⟩;have:=Q6.1 N;rw[q.same j this.2,D8 λe=>this.1 e.symm];cases k;cases k;cases h;cases h
 | .x id::r,B,env,H,env2,D,h,k,ok,hl,he,hr,lp=>by
  simp[Zz]at h;cases B with
  |nil=>simp[WZ]at k;split at k;rename_i e i;split at k;rename_i O;exact pN id i O hl lp hr ok λf P A=>OC o h k f (by simpa using hl) he A P;cases k;cases k
  |cons d B=>simp[WZ]at k;split at k;rename_i e i;split at k;rename_i O;exact pN id i O hl lp hr ok λf P A=>OC o h k f (by simpa using hl) he A P;cases k;cases k
 | .k tmp w::r,B,env,H,env2,D,h,k,ok,hl,he,hr,lp=>by
  have k':WZ r B ((tmp,.c (.raw w))::env) H=some (env2,D):=by cases B<;>simpa only[WZ]using k
  simp[Zz]at h;split at h;rename_i w' L;split at h;rename_i I;have e:=AEs I;subst e;have f:QH ((tmp,.c (.raw w))::env) H:=⟨λp z=>by rcases Au.1 z with rfl|z;exact Js trivial;exact ok.env p z,ok.heap⟩
  have hw:w≠ .any:=by rintro rfl;cases I
  have q:=OC o h k' f hl (λp z=>by rcases Au.1 z with rfl|z;refine⟨_,jB L (λe=>?_),Wn.refl _⟩;injection e with e;injection e with e;exact hw e;exact he p z) hr lp;refine⟨λt J=>?_,q.ok,q.env,q.hr,q.step,q.len,q.same⟩;have:=Q6.1 J;rw[q.get t this.2];simp[Bf.get,beq_false λe=>this.1 e.symm];cases h;cases h
 | .y id s::r,B,env,H,env2,D,h,k,ok,hl,he,hr,lp=>by
  simp[Zz]at h;split at h;rename_i ap F1 n1 e1 p1 a1 b1 s1 C;split at h;rename_i I;have e0:=LS.beq_eq I;subst e0;obtain⟨F,n,e,Q,a,b,s0,i,k'⟩: ∃F n e Q a b s0,H[id]? =some (.lp false F n e Q a b s0)/\WZ r B env (H.set id (.lp false F n e Q a b s))=some (env2,D):=by cases B<;>simp[WZ]at k<;>split at k<;>first|exact⟨_,_,_,_,_,_,_,‹_›,k⟩|cases k
  have⟨ar,s2,q⟩:=lp id (G2 i) _ _ _ _ _ _ _ _ C;rw[i]at q;injection q with q;injection q with _ q2 q3 q4 q5 q6 q7 _;subst q2 q3 q4 q5 q6 q7;have st:CR H (H.set id (.lp false F n e Q a b s)):=CR.set i rfl (λ_ _ _ _ _ e=>by cases e) λ_ _ _ _ _ _ _ _ e=>by cases e;exact⟨_,_,rfl⟩
  have A:HR G (H.set id (.lp false F n e Q a b s)) (LV r):=HR.set hr C (.inr (.inr (.inr (.inl ⟨_,_,_,_,_,_,_,_,_,rfl,rfl⟩))));have f:QH env (H.set id (.lp false F n e Q a b s)):=⟨st.env ok.env,heap_set st ok.heap (by have:=ok.heap _ (BN i);simpa only[D0.ok]using this)⟩
  have q:=OC o h k' f (by simpa using hl) he A (lp.set (G2 i) λ_ _ _ _ _ _ _ _ E=>by rw[C]at E;injection E with E;cases E;exact⟨_,_,rfl⟩);refine⟨q.get,q.ok,q.env,q.hr,st.trans q.step,by simpa using q.len,λj N=>?_⟩;have:=Q6.1 N;rw[q.same j this.2,D8 λe=>this.1 e.symm];cases h;cases h
 | .m id kk ty::r,B,env,H,env2,D,h,k,ok,hl,he,hr,lp=>by
  simp[Zz]at h;split at h;rename_i b k1 t1 W C;split at h;rename_i S I T;cases h;simp[WZ]at k;split at k;rename_i k2 R ao i;split at k;rename_i J;simp[BW,decide_eq_true_eq]at J;have⟨rfl,J⟩:=J;have e:=Ty.beq_eq _ _ J;subst e;have st:CR H (H.set id (.mp false k2 R W)):=CR.set i rfl λ_ _ _ _ _ e=>by cases e
  have A:HR G (H.set id (.mp false k2 R W)) (LV r):=HR.set hr C (.inr (.inr (.inr (.inr ⟨_,_,_,_,_,rfl,rfl⟩))));have f:QH env (H.set id (.mp false k2 R W)):=⟨st.env ok.env,heap_set st ok.heap trivial⟩
  have q:=OC o T k f (by simpa using hl) he A (lp.set (G2 i) λ_ _ _ _ _ _ _ _ E=>by rw[C]at E;cases E);refine⟨q.get,q.ok,q.env,q.hr,st.trans q.step,by simpa using q.len,λj N=>?_⟩;have:=Q6.1 N;rw[q.same j this.2,D8 λe=>this.1 e.symm];cases k;cases k;cases h;cases h
def Zy(n:Nat):List Bu->Bool
 |[]=>true
 | .own id _ _ _::r=>Nat.blt id n&&Zy n r
 | .raw v::r=>v.idsAll (λid=>Nat.blt id n)&&Zy n r
 |_::r=>Zy n r
mutual
def tq(n:Nat):TV->Bool
 | .c x=>Zy n [x]
 | .g cs=>Zy n cs
 | .aptr id .. =>Nat.blt id n
 | .bptr id .. =>Nat.blt id n
 | .vptr cs post=>Zy n cs&&AZ.idsAllL (λid=>Nat.blt id n) post
 | .tup vs=>vF n vs
def vF(n:Nat):List TV->Bool
 |[]=>true
 |v::r=>tq n v&&vF n r
end
def tF(n:Nat):Bf->Bool
 |[]=>true
 |(_,v)::r=>tq n v&&tF n r
def j9(n:Nat):Aq->Bool
 |[]=>true
 | .live _ cs::r=>Zy n cs&&j9 n r
 | .lp _ _ _ env _ _ _ _::r=>tF n env&&j9 n r
 |_::r=>j9 n r
def mA(h:Nat.blt N n=true):decide (N<n)=true:=t!
def iv(h:Pure i)(n:Nat):(i.idsAll λid=>decide (id<n))=true:=Qp (λ_ h=>by cases h) i h
def xI: ∀{x:Bu},Zy n [x]=true->(∀v∈x.enc,(v.idsAll λid=>decide (id<n))=true)/\(x.one.idsAll λid=>decide (id<n))=true
 | .bl _,_=>⟨λv b=>by simp only[Bu.enc,BC]at b;subst b;rfl,rfl⟩
 | .it _ _,_=>⟨λv b=>by simp only[Bu.enc,BC]at b;subst b;rfl,rfl⟩
 | .st _,_=>⟨λv b=>by simp only[Bu.enc,BC]at b;subst b;rfl,rfl⟩
 | .ls t l,_=>⟨λv b=>by simp only[Bu.enc,BC]at b;subst b;exact iv ((Ty.list t).enc_pure l) n,iv ((Ty.list t).enc_pure l) n⟩
 | .ar m t a,_=>by have h:=iv ((Ty.arr m t).enc_pure a) n;refine⟨λv b=>?_,h⟩;exact((Dm _ _).1 h) v b
 | .own id ver t m,h=>by simp only[Zy,Qs]at h;have:=mA h;exact⟨λv b=>by simp only[Bu.enc,BC]at b;subst b;exact this,this⟩
 | .nil,_=>⟨λv b=>by simp only[Bu.enc,BC]at b;subst b;rfl,rfl⟩
 | .raw v,h=>by simp only[Zy,Qs]at h;have:=Qp (λ_ h=>mA h) v h;exact⟨λu c=>by simp only[Bu.enc,BC]at c;subst c;exact this,this⟩
def tn{r:List Bu}(h:Zy n (E::r)=true):Zy n [E]=true/\Zy n r=true:=by cases E<;>simp only[Zy,Qs,BW]at h⊢ <;>first|exact h|exact⟨trivial,h⟩
def ja{n:Nat}: ∀{b:List Bu},Zy n b=true->AZ.idsAllL (λid=>decide (id<n)) (lvs b)=true
 |[],_=>rfl
 |x::r,h=>by obtain⟨c,d⟩:=tn h;rw[HY,Dm];intro v a;rcases An.1 a with a|a;exact(xI c).1 v a;exact((Dm _ _).1 (ja d)) v a
mutual
theorem eR{n:Nat}: ∀{v:TV},tq n v=true->(v.enc.idsAll λid=>decide (id<n))=true
 | .c x,h=>(xI h).2
 | .g cs,h=>ja h
 | .aptr ..,h=>mA h
 | .bptr ..,h=>mA h
 | .vptr cs post,h=>by simp only[tq,BW]at h;simp only[TV.enc,AZ.idsAll];rw[Dm];intro v a;rcases An.1 a with a|a;exact((Dm _ _).1 (ja h.1)) v a;exact((Dm _ _).1 (JC (λ_ h=>mA h) post h.2)) v a
 | .tup vs,h=>by simp only[tq]at h;simp only[TV.enc,AZ.idsAll];exact o9 h
theorem o9{n:Nat}: ∀{a:List TV},vF n a=true->AZ.idsAllL (λid=>decide (id<n)) (TV.encL a)=true
 |[],_=>rfl
 |v::r,h=>by simp only[vF,BW]at h;simp only[TV.encL,AZ.idsAllL,BW];exact⟨eR h.1,o9 h.2⟩
end
def jY{n:Nat}: ∀{env:Bf},tF n env=true-> ∀p∈env,tq n p.2=true
 |[],_,p,a=>by cases a
 |(t,v)::r,h,p,a=>by simp only[tF,BW]at h;rcases Au.1 a with rfl|a;exact h.1;exact jY h.2 p a
def jZ{n:Nat}: ∀{H:Aq},j9 n H=true-> ∀e∈BL H,(e.idsAll λid=>decide (id<n))=true
 |x::r,h,e,c=>by
  have g:j9 n r=true:=by cases x<;>simp only[j9,BW]at h<;>first|exact h|exact h.2
  simp only[BL,Bi,Au]at c;rcases c with rfl|c;cases x with
  |dead=>rfl
  |live b o=>simp only[j9,BW]at h;exact ja h.1
  |buf b t l m k=>simp only[D0.enc,Fl.idsAll];rw[Dm];intro v d;obtain⟨u,j,d⟩:=Hi.1 d;obtain⟨y,_,rfl⟩:=Bv.1 j;have h:=iv (t.E.pure y) n;cases q:t.E.f y<;>simp_all[AZ.idsAll,Dm,AZ.cells]
  |mp=>rfl
  |lp ro F m env w a b s=>simp only[j9,BW]at h;simp only[D0.enc,Fl.idsAll,CA,List.all_map,GB];exact λp i=>eR (jY h.1 p i)
  exact jZ g e c
def GF.cut{N n0:Nat}{env:Env}{H:A0}(hn:n0≤H.length)(d: ∀t v,(t,v)∈env→(v.idsAll λid=>decide (id<n0))=true)
  (c: ∀e∈H.take n0,(e.idsAll λid=>decide (id<n0))=true):GF N n0 env H env (H.take n0):=
 ⟨w!,λX g a w s=>⟨g,⟨s.sim.trunc hn c,λt v m=>⟨(s.env t v m).1,(s.env t v m).2.trunc hn (d t v m)⟩,s.size⟩,λ_ _=>⟨rfl,rfl,rfl⟩,λB b=>fa b⟩⟩
theorem uA{e:Fl}(h:(BL b)[N]? =some e): ∃x,b[N]? =some x/\e=x.enc:=by grind[BL]
theorem HR.rel(A:B.length<=b.length)(hr:HR b B [])(x:Cx):Tq x x (BL b) (BL B++(BL b).drop B.length):=by
 refine⟨by simp[BL];omega,λj w z=>?_⟩;have same: ∀{y:D0},b[j]? =some y->w=y.enc->w= .dead\/(∃g p c,(BL b)[j]? =some (.live g p)/\w= .live g c/\c.length=p.length/\ ∀(i:Nat) (f:AZ),c[i]? =some f-> ∃v,p[i]? =some v/\Conv x x v f)\/((BL b)[j]? =some w/\ ∀g p,w≠ .live g p):=by
  intro y D q;have d:(BL b)[j]? =some y.enc:=by grind[BL]
  subst q;cases y with
  |dead=>exact .inl rfl
  |live o p=>exact .inr (.inl ⟨_,_,_,d,rfl,rfl,λi f h=>⟨f,h,λ_ r=>r⟩⟩)
  |buf o t l m H=>exact .inr (.inl ⟨_,_,_,d,rfl,rfl,λi f h=>⟨f,h,λ_ r=>r⟩⟩)
  |lp=>exact .inr (.inr ⟨d,λ_ _ h=>by cases h⟩)
  |mp=>exact .inr (.inr ⟨d,λ_ _ h=>by cases h⟩)
 rcases Aw j B.length with h|h;rw[CT (by rw[Cc];exact h)]at z;obtain⟨y,D,rfl⟩:=uA z;obtain⟨e,q,u⟩:=hr j y rfl D;rcases u with rfl|⟨o,p,C,c,rfl,rfl,A⟩|⟨o,t,l,m,v,C,f,rfl,rfl⟩|⟨ro,G,F,n,env,J,a,o,s,rfl,rfl⟩|⟨o,C,k,t,I,rfl,rfl⟩;exact .inl rfl;refine .inr (.inl ⟨0,lvs p,lvs c,by simp only[BL,CM,q,Bo,D0.enc],rfl,A.1,λi f E=>?_⟩);obtain⟨v,q1,q2⟩:=A.2 i f E;exact⟨v,q1,q2 x⟩;exact same q rfl;exact same q rfl;exact same q rfl;rw[Ch (by rw[Cc];exact h),KR]at z;rw[Cc]at z;grind[uA]
def IS.weak{N:Nat}{b:Aq}{H:Aq}(s:IS f b l L H S B)(k:H.length≤b.length)(n:tF H.length S=true)(o:j9 H.length B=true):
  GF N H.length (CA f) (BL b) (CA S) (BL B):=by
 have g:B.length<=b.length:=by rw[s.len];exact k
 have x:GF N (BL b).length (CA f) (BL b) (CA S) (BL B++(BL b).drop B.length):=by refine Vm (by simp[BL];omega) λX h w _=>?_;have q:=(HR.rel g s.hr (cx X h (BL b) w)).onto;refine⟨q,λt z m=>?_⟩;obtain⟨p,j,e⟩:=Bv.1 m;injection e with d A;subst d A;obtain⟨v,u,i⟩:=s.env p j;exact⟨v.enc,Bv.2 ⟨_,u,rfl⟩,λc r=>(i _ c r).later q.later⟩
 have a:(BL B++(BL b).drop B.length).take H.length=BL B:=by rw[<-s.len,<-Cc B,Gm];rfl
 have y:GF N H.length (CA S) (BL B++(BL b).drop B.length) (CA S) (BL B):=by have:=GF.cut (N:=N) (n0:=H.length) (env:=CA S) (H:=BL B++(BL b).drop B.length) (by simp[BL,s.len]) (λt v m=>by obtain⟨p,j,e⟩:=Bv.1 m;injection e with d A;subst d A;exact eR (jY n p j)) (by rw[a];exact jZ o);rwa [a]at this
 exact(x.of_le (by rw[Cc];exact k)).trans y
def wq:Exit->Exit->Bool
 | .normal,.normal=>true
 | .exit a,.exit b=>Nat.beq a b
 | .ret,.ret=>true
 |_,_=>false
def rH{b:Exit}(h:wq x b=true):x=b:=by cases x<;>cases b<;>simp only[wq]at h<;>first|rfl|cases h|exact congrArg _ (Db h)
structure Hint where
 kind:Nat
 key:Nat
 virt:List (Nat×Ty)
 virtC:List (Nat×Nat×Ty)
 kill:List Nat
 drop:List Nat
 slots:List VN
 exits:List (Exit×List VN)
def Hint.tmps(h:Hint):List Nat:=h.drop++h.virt.map (·.1)++sh h.slots++h.exits.flatMap λp=>sh p.2
def mY(kind key:Nat):List Hint->Option Hint
 |[]=>none
 |h::r=>match Nat.beq kind h.kind&&Nat.beq key h.key with|true=>some h|false=>mY kind key r
def wz:Code->Option Nat
 | .region id _ _=>some id
 | .seq a b=>match wz a with|some x=>some x|none=>wz b
 | .cond _ a b=>match wz a with|some x=>some x|none=>wz b
 | .block _ b=>wz b
 | .loop b=>wz b
 |_=>none
def rV:Code->Bool
 | .seq a _=>rV a
 | .block _ b=>rV b
 | .loop _=>true
 |_=>false
def AG7(b:Code)(r:Nat)(hs:List Hint):Option Hint:=
 match rV b with
 |true=>(match mY 5 r hs with|some h=>some h|none=>mY 0 r hs)
 |false=>mY 0 r hs
def hintOf(hs:List Hint):Code->Option Hint
 | .loop b=>match wz b with|some r=>AG7 b r hs|none=>none
 | .block id _=>mY 1 id hs
 | .cond _ a b=>match wz (.seq a b)with|some r=>mY 2 r hs|none=>none
 | .region id _ _=>mY 6 id hs
 |_=>none
def pL(hs:List Hint)(c:Code):List Nat:=
 match hintOf hs c with
 |some h=>h.tmps
 |none=>[]
def qJ(hs:List Hint):Code->Code->Option Hint
 | .region id _ _,.cond _ _ _=>mY 4 id hs
 |_,_=>none
def si(hs:List Hint)(a b:Code):List Nat:=
 match qJ hs a b with
 |some h=>h.tmps
 |none=>[]
def Qw(hs:List Hint):Code->List Nat
 | .region id ops d=>mU ops.toList++pL hs (.region id ops d)
 | .seq a b=>(Qw hs a++Qw hs b)++si hs a b
 | .cond c a b=>Qw hs a++Qw hs b++pL hs (.cond c a b)
 | .block id b=>Qw hs b++pL hs (.block id b)
 | .loop b=>Qw hs b++pL hs (.loop b)
 |_=>[]
def wP:TV->Bool
 | .c (.raw .any)=>true
 |_=>false
def ABy(h:wP w=false):w≠Us:=by rintro rfl;cases h
def vS(H:Aq)(id:Nat):Bool:=match H[id]? with|some (.buf false _ _ _ _)=>true|_=>false
def fy(A S:List Nat)(H:Aq)(t:Nat)(v:TV):Bool:=
 match OD t A with
 |true=>false
 |false=>match wP v with
  |true=>false
  |false=>(Kv v.refs).all λid=>!(OD id S&&vS H id)
def QO(A S:List Nat)(H:Aq):Bf->Bf
 |[]=>[]
 |(t,v)::r=>match fy A S H t v with|true=>(t,v)::QO A S H r|false=>QO A S H r
def Mb(S:List Nat):Nat->Aq->Aq
 |_,[]=>[]
 |j,e::r=>(match OD j S with|true=>e|false=>e.lock)::Mb S (j+1) r
def oV:Bf->Bool
 |[]=>true
 |(t,_)::r=>!OD t (r.map (·.1))&&oV r
theorem Vi(h:N∉a):OD N a=false:=by
 cases j:OD N a with
 |false=>rfl
 |true=>induction a<;>grind[OD,Nat.eq_of_beq_eq_true]
def ZN: ∀{env:Bf},oV env=true->(env.map (·.1)).Nodup
 |[],_=>QL
 |(t,v)::r,h=>by simp only[oV,BW,XL]at h;exact Gl.2 ⟨Tm h.1,ZN h.2⟩
theorem jU{A S:List Nat}{H:Aq}: ∀{env:Bf},(env.map (·.1)).Nodup-> ∀t,fy A S H t (env.get t)=true->(QO A S H env).get t=env.get t
 |[],_,t,_=>rfl
 |(u,v)::r,nd,t,h=>by have a:=Gl.1 nd;simp only[Bf.get]at h⊢;by_cases b:u=t;grind[Nat.beq_refl,QO,Bf.get];rw[beq_false b]at h⊢;have c:=jU a.2 t h;grind[QO,Bf.get,beq_false]
theorem Qx{A S:List Nat}{H:Aq}: ∀{env:Bf},(env.map (·.1)).Nodup-> ∀p∈QO A S H env,env.get p.1=p.2/\fy A S H p.1 p.2=true/\p∈env
 |(u,v)::r,nd,p,h=>by
  have a:=Gl.1 nd;have tail:p∈QO A S H r->Bf.get ((u,v)::r) p.1=p.2/\fy A S H p.1 p.2=true/\p∈(u,v)::r:=λh=>by obtain⟨q1,q2,q3⟩:=Qx a.2 p h;grind[Bf.get,beq_false]
  grind[QO,Bf.get,Nat.beq_refl]
theorem KY{S:List Nat}: ∀(H:Aq) (i j:Nat),(Mb S i H)[j]? =(H[j]?).map λe=>match OD (i+j) S with|true=>e|false=>e.lock
 |[],i,j=>by simp[Mb]
 |e::r,i,0=>by simp[Mb]
 |e::r,i,j+1=>by simp only[Mb,na];rw[KY r (i+1) j];grind
def KZ{S:List Nat}: ∀(H:Aq) (i:Nat),(Mb S i H).length=H.length
 |[],_=>rfl
 |e::r,i=>by simp[Mb,KZ r]
theorem uO{S:List Nat}: ∀(H:Aq) (i:Nat),BL (Mb S i H)=BL H
 |[],_=>rfl
 |e::r,i=>by have:=uO (S:=S) r (i+1);grind[BL,Mb,sD]
theorem sE(h:VM b N n p z):VM (Mb a 0 b) N n p z:=by
 refine⟨by rw[KZ];exact h.1,λro r l c f H=>?_⟩;rw[KY]at H;cases d:b[N]? with
 |none=>grind
 |some e=>
  rw[d]at H;simp at H;split at H;subst H;exact h.2 _ _ _ _ _ d;cases e with
  |dead=>cases H
  |live S k=>cases H
  |lp=>cases H
  |mp=>cases H
  |buf S s o q u=>injection H with _ g m i j;subst g i j;exact h.2 _ _ _ _ _ d
def uP(h:E.ok b):E.ok (Mb a 0 b):=by
 cases E with
 |own id S t n=>exact sE h
 |_=>trivial
theorem nB(ok:QH f b):QH f (Mb a 0 b):=by
 refine⟨λp o x g=>uP (ok.env p o x g),λe m=>?_⟩;obtain⟨j,H⟩:=E9.1 m;rw[KY]at H;cases i:b[j]? with
 |none=>grind
 |some c=>
  rw[i]at H;simp at H;have d:=ok.heap c (BN i);have q:c.ok (Mb a 0 b):=by
   cases c with
   |dead=>trivial
   |live S k=>exact λx g=>uP (d x g)
   |buf S t l n h=>exact d
   |lp=>exact d
   |mp=>exact d
  split at H;grind;subst H;cases c with
  |dead=>trivial
  |live S k=>exact q
  |buf S t l n h=>exact q
  |lp=>exact q
  |mp=>exact q
theorem AEY(H:Aq):LpS (Mb a 0 H) H:=by intro id c ro F n env d S b s h;rw[KY,h];split;grind;exact⟨_,_,rfl⟩
theorem ACe(H:Aq):LpS H (Mb a 0 H):=by
 intro id d ro F n env f S b s h;rw[KY]at h;cases c:H[id]? with
 |none=>grind
 |some e=>
  rw[c]at h;simp at h;split at h;grind;cases e with
  |lp=>injection h with _ q2 q3 q4 q5 q6 q7 _;grind
  |_=>cases h
def lW{id a n:Nat}{t:Ty}: ∀{b:List Bu},Bu.own id a t n∈b->id∈Kv b
 |x::r,h=>by rcases Au.1 h with rfl|h;exact Iq;have:=lW h;cases x<;>simp only[Kv]<;>first|exact this|exact CZ _ this
def xG(h:fy A a b N w=true)(m:w.ok b)(st:CR (Mb a 0 b) B):my B w:=by
 intro id o r n g;unfold fy at h;split at h;cases h;split at h;cases h;have S:=GB.1 h id (lW g);have d:id<b.length:=(m _ g).1;refine st.nb id (by rw[KZ];exact d) λq l p i H=>?_;rw[KY,EK]at H;cases c:b[id]? with
 |none=>rw[c]at H;cases H
 |some e=>rw[c]at H;simp only[Bo,Am]at H;split at H;rename_i k;subst H;simp only[k,vS,c]at S;cases S;cases e<;>simp only[D0.lock]at H<;>first|cases H|(injection H with j;cases j)
theorem ACc(g:OD N A=false)(i:wP w=false)(j:my b w):fy A a b N w=true:=by
 unfold fy;rw[g,i];refine GB.2 λid e=>?_;have: ∃d f n,Bu.own id d f n∈w.refs:=by
  generalize w.refs=cs at e;induction cs with
  |nil=>cases e
  |cons x r m=>
   cases x with
   |own l d f n=>grind[Kv]
   |_=>obtain⟨H,S,c,h⟩:=m e;grind
 obtain⟨d,f,n,k⟩:=this;have:=j id d f n k;grind[vS]
def AGJ:List Part->List Nat
 |[]=>[]
 | .o id::r=>id::AGJ r
 |_::r=>AGJ r
def kW(env:Bf)(H:Aq):List VN->List Nat
 |[]=>[]
 | .t tmp _::r=>Kv (env.get tmp).refs++kW env H r
 | .p id ps::r=>(match H[id]? with|some (.live _ cs)=>(Kv cs).filter λi=>!OD i (AGJ ps)|_=>[])++kW env H r
 |_::r=>kW env H r
def wY(sl:List VN)(env:Bf)(H:Aq):Option (DL (fj sl)):=
 match IG (kW env H sl) env H with
 |(e,h)=>match Zz e h sl with|some ds=>yo (fj sl) ds|none=>none
def vg:List (Exit×List VN)->Type
 |[]=>Unit
 |[p]=>DL (fj p.2)
 |p::q::r=>DL (fj p.2)⊕ vg (q::r)
def yv:(xs:List (Exit×List VN))->Exit->Bf->Aq->Option (vg xs)
 |[],_,_,_=>none
 |[p],x,env,H=>match wq p.1 x with|true=>wY p.2 env H|false=>none
 |p::q::r,x,env,H=>
  match wq p.1 x with
  |true=>(match wY p.2 env H with|some s=>some (.inl s)|none=>none)
  |false=>(match yv (q::r) x env H with|some s=>some (.inr s)|none=>none)
def AGQ{R:Type}:(xs:List (Exit×List VN))->vg xs->(Exit->List VN->List DV->Option R)->Option R
 |[],_,_=>none
 |[p],s,k=>k p.1 p.2 (dvs (fj p.2) s)
 |p::q::r,o,k=>Sum.elim (λs=>k p.1 p.2 (dvs (fj p.2) s)) (λs=>AGQ (q::r) s k) o
def vi:(xs:List (Exit×List VN))->vg xs->Exit×List VN×List DV
 |[],_=>(.normal,[],[])
 |[p],s=>(p.1,p.2,dvs (fj p.2) s)
 |p::q::r,.inl s=>(p.1,p.2,dvs (fj p.2) s)
 |p::q::r,.inr s=>vi (q::r) s
def uY{R:Type}: ∀{xs:List (Exit×List VN)} {o:vg xs} {k:Exit->List VN->List DV->Option R} {r:R},AGQ xs o k=some r->k (vi xs o).1 (vi xs o).2.1 (vi xs o).2.2=some r
 |[],_,_,_,h=>by cases h
 |[p],s,k,r,h=>h
 |p::q::t,.inl s,k,r,h=>h
 |p::q::t,.inr s,k,r,h=>uY (xs:=q::t) h
def ADh(sl:List VN)(ds:List DV)(env:Bf)(H:Aq):Prop:=Zz (IG (kW env H sl) env H).1 (IG (kW env H sl) env H).2 sl=some ds
theorem lF{s:DL (fj l)}(h:wY l f b=some s):ADh l (dvs (fj l) s) f b:=by grind[wY,ADh,oU]
def uZ: ∀{xs:List (Exit×List VN)} {x:Exit} {env:Bf} {H:Aq} {o:vg xs},yv xs x env H=some o→
  (vi xs o).1=x/\ADh (vi xs o).2.1 (vi xs o).2.2 env H/\ ∃p∈xs,(vi xs o).2.1=p.2
 |[p],x,env,H,o,h=>by simp only[yv]at h;split at h;rename_i a;exact⟨rH a,lF h,p,q!,rfl⟩;cases h
 |p::q::r,x,env,H,o,h=>by simp only[yv]at h;split at h;rename_i a;split at h;rename_i s b;injection h with h;subst h;exact⟨rH a,lF b,p,q!,rfl⟩;cases h;split at h;rename_i s b;injection h with h;subst h;obtain⟨q1,q2,c,q3,q4⟩:=uZ (xs:=q::r) b;exact⟨q1,q2,c,CZ _ q3,q4⟩;cases h
structure yB(A S:List Nat)(env0:Bf)(H0:Aq)(e2:Bf)(h2:Aq):Prop where
 ok:QH e2 h2
 step:CR (Mb S 0 H0) h2
 len:h2.length=H0.length
 same: ∀j,OD j S=false->h2[j]? =(Mb S 0 H0)[j]?
 get: ∀p∈QO A S H0 env0,e2.get p.1=p.2
theorem zc{A B S:List Nat}{env0:Bf}{a:Aq}{L:Bf}{s:Aq}(m:QH env0 a)(nd:(env0.map (·.1)).Nodup)(g:yB A S env0 a L s)
  {env1:Bf} {d:Aq} (G:QH env1 d) (st:FO B L s env1 d) (U: ∀t,t∈B->t∈A) {o:List VN} {K:List DV} (W:ADh o K env1 d)
  {Hx:Aq} (J: ∀e∈Hx,e.ok Hx) (y:Hx.length=a.length) (F:LpS Hx (Mb S 0 a)) (rx: ∀id c t n,VM a id c t n->VM Hx id c t n) (E: ∀(j:Nat) (i:D0),OD j (LV o)=false->Hx[j]? =some i->i= .dead\/ ∃e,OD j S=false/\(Mb S 0 a)[j]? =some e/\e.ro=true/\AFp e i)
  {r:Bf} {f:Aq} (Y:WZ o K (QO A S a env0) Hx=some (r,f)) (ce:tF a.length r=true) (ch:j9 a.length f=true) (N:Nat):
  GF N a.length (CA env1) (BL d) (CA r) (BL f)/\ ∃P V,IS P V o (QO A S a env0) Hx r f:=by
 obtain⟨I,z,wf⟩:=Q3 (kW env1 d o) G;have u:a.length<=d.length:=by rw[<-g.len];exact st.step.len
 have b:=FO.trans g.ok.env st z;have H: ∀p∈QO A S a env0,p.2.ok Hx:=λp v x E=>by
  have:=m.env p (Qx nd p v).2.2 x E;cases x with
  |own id c t n=>exact rx _ _ _ _ this
  |_=>trivial
 have q:=OC I W Y ⟨H,J⟩ (by rw[y];exact Dc u z.step.len) (λp v=>by
  obtain⟨b1,M,O⟩:=Qx nd p v;have hk:=xG M (m.env p O) g.step;have T:OD p.1 A=false:=by grind[fy]
  have k:wP p.2=false:=by grind[fy]
  have X:=g.get p v;have:=b.same p.1 (λh=>by rw[C0]at h;exact Tm T (U _ h)) k!;rw[X]at this;exact⟨p.2,jB this (ABy k),Wn.refl _⟩) (λj i Z C=>by
   have D:j<a.length:=k!
   rcases E j i Z C with rfl|⟨e,Q,s,f,R⟩;exact⟨_,As (DN D (Dc u z.step.len)),.inl rfl⟩;exact⟨e,b.step.ro j e (by rw[g.same j Q];exact s) f,R⟩) (λid l _ _ _ _ _ _ _ _ hq=>by
  obtain⟨ad,s1,q1⟩:=(g.step.trans b.step).lp id (by rw[KZ,<-y];exact l) _ _ _ _ _ _ _ _ hq;exact F id l _ _ _ _ _ _ _ _ q1)
 have w:=q.weak (N:=N) (by rw[y];exact Dc u z.step.len) k! k!;rw[y]at w;exact⟨((wf N).of_le (by rw[Cc];exact u)).trans w,_,_,q⟩
open Classical in
noncomputable def sS{α:Type}(g:List α->Unit->Option (List α))(l:List α):Option (List α):=if∀m,l.Perm m->g m ()=g l ()then g l ()else none
theorem yz{g:List R->Unit->Option (List R)}{l s:List R}(h:sS g l=some s): ∀m,l.Perm m->g m ()=some s:=by grind[sS]
def vn:List Oper->Option (Nat×Nat×Nat×TypeId×TypeId)
 |[⟨some a1,.load ty1 (.tmp c0),_,_,_,none⟩,⟨some a2,.range ty2 (.tmp b1),_,_,_,none⟩]=>match Nat.beq a1 b1 with|true=>some (c0,a1,a2,ty1,ty2)|false=>none
 |_=>none
def sN:List Oper->Option (Nat×Nat×Nat)
 |[⟨some a3,.next (.tmp a2) false,_,_,_,none⟩,⟨some a4,.extract (.tmp b3) 0,_,_,_,none⟩]=>match Nat.beq a3 b3 with|true=>some (a2,a3,a4)|false=>none
 |_=>none
def sO:List Oper->Option (Nat×Nat×Nat×Nat×TypeId×TypeId)
 |[⟨some a5,.entry (.tmp a2),_,_,_,none⟩,⟨some a6,.extract (.tmp b5) 1,_,_,_,none⟩,⟨some a7,.alloc te1,_,_,_,none⟩,⟨none,.store te2 (.tmp b7) (.tmp b6),_,_,_,none⟩]=>
  match Nat.beq a5 b5&&(Nat.beq a6 b6&&Nat.beq a7 b7)with|true=>some (a2,a5,a6,a7,te1,te2)|false=>none
 |_=>none
def sP:List Oper->Option (Nat×Nat×Nat×Nat×Nat×Nat×TypeId×TypeId×TypeId)
 |[⟨some a8,.move (.tmp out),_,_,_,none⟩,⟨some a9,.load te3 (.tmp a7),_,_,_,none⟩,⟨some a10,.buildSlice ts1 1 ⟨[(0,.tmp b9)]⟩,_,_,_,none⟩,
   ⟨some a11,.call {callee:=.builtin .append,args:=⟨[.tmp b8,.tmp b10]⟩,argTypes:=⟨[ts2,ts3]⟩},_,_,_,none⟩,⟨some out2,.assign (.tmp b11),_,_,_,none⟩]=>
  match Nat.beq a8 b8&&(Nat.beq a9 b9&&(Nat.beq a10 b10&&(Nat.beq a11 b11&&(Nat.beq out out2&&Nat.beq ts2 ts3))))with|true=>some (out,a7,a8,a9,a10,a11,te3,ts1,ts2)|false=>none
 |_=>none
def vo:List Oper->Option (Nat×Nat×Nat×FuncId×FuncId)
 |[⟨some a12,.move (.tmp out),_,_,_,none⟩,⟨some a13,.call {callee:=.value (.func F),args:=⟨[.tmp b12,.func G]⟩,.. },_,_,_,none⟩]=>match Nat.beq a12 b12 with|true=>some (out,a12,a13,F,G)|false=>none
 |_=>none
def pS(h:vn e=some (N,n,z,m,O)):
  ∃l c a f d b,e=[⟨some n,.load m (.tmp N),l,c,a,none⟩,⟨some z,.range O (.tmp n),f,d,b,none⟩]:=by
 unfold vn at h;split at h;split at h<;>simp_all;cases h
def pT(h:sN e=some (N,n,z)):
  ∃l c a f d b,e=[⟨some n,.next (.tmp N) false,l,c,a,none⟩,⟨some z,.extract (.tmp n) 0,f,d,b,none⟩]:=by
 unfold sN at h;split at h;split at h<;>simp_all;cases h
def pU{a7:Nat}(h:sO e=some (N,n,z,a7,m,O)):
  ∃j p a k f b l g c o i d,e=[⟨some n,.entry (.tmp N),j,p,a,none⟩,⟨some z,.extract (.tmp n) 1,k,f,b,none⟩,⟨some a7,.alloc m,l,g,c,none⟩,⟨none,.store O (.tmp a7) (.tmp z),o,i,d,none⟩]:=by
 unfold sO at h;split at h;split at h<;>simp_all;cases h
def pV{a9 a10 a11:Nat}{ts2:TypeId}(h:sP e=some (N,n,z,a9,a10,a11,m,O,ts2)):
  ∃l f a r g b o i c p j d q k s,e=[⟨some z,.move (.tmp N),l,f,a,none⟩,⟨some a9,.load m (.tmp n),r,g,b,none⟩,⟨some a10,.buildSlice O 1 #[(0,.tmp a9)],o,i,c,none⟩,⟨some a11,.call {callee:=.builtin .append,args:= #[.tmp z,.tmp a10],argTypes:= #[ts2,ts2]},p,j,d,none⟩,⟨some N,.assign (.tmp a11),q,k,s,none⟩]:=by
 unfold sP at h;split at h;split at h<;>simp_all;cases h
def pW{G:FuncId}(h:vo e=some (N,n,z,F,G)):
  ∃f d b a g l c,e=[⟨some n,.move (.tmp N),f,d,b,none⟩,⟨some z,.call {callee:=.value (.func F),args:= #[.tmp n,.func G],argTypes:=a},g,l,c,none⟩]:=by
 unfold vo at h;split at h;split at h<;>simp_all;cases h
structure Xa where
 c0:Nat
 a1:Nat
 a2:Nat
 a3:Nat
 a4:Nat
 a5:Nat
 a6:Nat
 a7:Nat
 a8:Nat
 a9:Nat
 a10:Nat
 a11:Nat
 a12:Nat
 a13:Nat
 out:Nat
 ty1:TypeId
 ty2:TypeId
 te1:TypeId
 te2:TypeId
 te3:TypeId
 ts1:TypeId
 ts2:TypeId
 F:FuncId
 G:FuncId
def vd:List Nat->Bool
 |[]=>true
 |t::r=>!OD t r&&vd r
def pQ: ∀{l:List Nat},vd l=true->l.Nodup
 |[],_=>QL
 |t::r,h=>by simp only[vd,BW,XL]at h;exact Gl.2 ⟨Tm h.1,pQ h.2⟩
def mR:Code->Code->Option Xa
 | .seq (.region _ o1 false) (.block b1 (.loop (.seq (.region _ o2 false) (.seq (.cond (.tmp x4) .skip (.exit b2)) (.block _ (.seq (.region _ o3 false) (.region _ o4 false))))))),.region _ o5 false=>
  match vn o1.toList,sN o2.toList,sO o3.toList,sP o4.toList,vo o5.toList with
  |some (c0,a1,a2,ty1,ty2),some (x2,a3,a4),some (y2,a5,a6,a7,te1,te2),some (out,x7,a8,a9,a10,a11,te3,ts1,ts2),some (out2,a12,a13,F,G)=>
   match (Nat.beq b1 b2&&(Nat.beq a4 x4&&(Nat.beq a2 x2&&(Nat.beq a2 y2&&(Nat.beq a7 x7&&Nat.beq out out2)))))&&vd [out,a1,a2,a3,a4,a5,a6,a7,a8,a9,a10,a11,a12,a13]with
   |true=>some ⟨c0,a1,a2,a3,a4,a5,a6,a7,a8,a9,a10,a11,a12,a13,out,ty1,ty2,te1,te2,te3,ts1,ts2,F,G⟩
   |false=>none
  |_,_,_,_,_=>none
 |_,_=>none
def Xa.tmps(p:Xa):List Nat:=[p.out,p.a1,p.a2,p.a3,p.a4,p.a5,p.a6,p.a7,p.a8,p.a9,p.a10,p.a11,p.a12,p.a13]
def ZE(A:List Nat):Bf->Bf
 |[]=>[]
 |(t,v)::r=>match OD t A with|true=>ZE A r|false=>(t,v)::ZE A r
def Vb{A:List Nat}: ∀{env:Bf} {q:Nat×TV},q∈ZE A env->q∈env/\q.1∉A
 |[],_,h=>by cases h
 |(t,v)::r,q,h=>by simp only[ZE]at h;split at h;exact⟨CZ _ (Vb h).1,(Vb h).2⟩;rename_i a;rcases Au.1 h with rfl|h;exact⟨Iq,Tm a⟩;exact⟨CZ _ (Vb h).1,(Vb h).2⟩
theorem nz{A:List Nat}{u:Nat}(a:u∉A): ∀env:Bf,(ZE A env).get u=env.get u
 |[]=>rfl
 |(t,v)::r=>by
  simp only[ZE,Bf.get];split;rename_i b;have:t≠u:=λe=>by grind[Vi]
  rw[beq_false this];exact nz a r;simp[Bf.get,nz a r]
noncomputable def ACB(P:Program)(N:Nat)(cs:List S5)(p:Xa)(env:Bf)(H:Aq){R:Type}(k:Bf->Aq->Option R):Option R:=
 match env.get p.c0,env.get p.out with
 | .c (.raw (.ptr c 0 0)),.c .nil=>
  match H[c]? with
  |some (.live _ [.raw (.mp id)])=>
   match H[id]?,pI cs p.F,Enters P p.F with
   |some (.mp _ kk ty es),some (.c2 _ te [] [] [.fn (.func G) [] []] g),true=>
    if h:(Ty.list ty).beq (Ty.list te)=true then
     match tI P p.ty1,P.underlying p.ty2,tI P p.te2,tI P p.te3,YY P p.te1,eI P p.ts1,eI P p.ts2 with
     |some (false,_),some (.map kt _),some (_,n2),some (tr3,n3),some z,some (none,e1,s1),some (none,e2,s2)=>
      match (Nat.beq G p.G&&(te.isAgg&&(Nat.beq n2 te.sz&&(tr3&&(Nat.beq n3 te.sz&&(Nat.beq z.length te.sz&&(Nat.beq s1 te.sz&&(Nat.beq s2 te.sz&&(Rj P e1&&(Rj P e2&&Nat.ble te.sz 4096))))))))))&&
        ((match P.underlying kt with|some (.int k2)=>decide (k2=kk)|_=>false)&&(tF H.length (ZE p.tmps env)&&(j9 H.length H&&p.tmps.all λt=>Nat.blt t N)))with
      |true=>cond (decide (((es.length:Nat):Int)≤16777216))
        ((sS g (Ty.cast h (es.map (·.2)))).bind λs=>cond (Nat.beq s.length es.length) (k ((p.out,.c (.own H.length 0 te s.length))::ZE p.tmps env) (H++[.buf false te s s.length 0,.dead])) none) none
      |false=>none
     |_,_,_,_,_,_,_=>none
    else none
   |_,_,_=>none
  |_=>none
 |_,_=>none
theorem E6{q:Nat×AZ}{v:AZ}(h:q∈u)(a:q.1≠N):q∈u.put N v:=CZ _ (BV.2 ⟨h,k!⟩)
def vv:(N,i)∈u.put N i:=Iq
def mu{v:AZ}:Env.get ((N,v)::u) N=v:=if_pos rfl
def w7{v:AZ}(h:N≠n):Env.get ((N,v)::u) n=u.get n:=if_neg h
def gC(vals:List R)(seen:List Nat):List R:=seen.filterMap (vals[·]?)
theorem zN{b:List R}{x:R}(h:b[N]? =some x):gC b (a++[N])=gC b a++[x]:=by grind[gC]
theorem xc{b:Type}: ∀a:List b,(List.range a.length).filterMap (a[·]?)=a
 |[]=>rfl
 |x::r=>by
  rw[Bd,List.range_succ_eq_map,List.filterMap_cons];simp;have:((λi=>(x::r)[i]?)∘Nat.succ)=(r[·]?):=k!
  rw[this,xc r]
def zM{d:List R}(hn:a.Nodup)(c: ∀j∈a,j<d.length)(b: ∀j,j<d.length->j∈a):d.Perm (gC d a):=by have:=((ke List.nodup_range hn).2 λj=>⟨λh=>b j (Hj.1 h),λh=>Hj.2 (c j h)⟩).filterMap (d[·]?);rwa [xc]at this
section
variable {P:Program} {N:Nat} {env:Env} {H:A0} {Q:Env->A0->Prop} {ops:Array Oper}
def WE.nil(h:Q env H):WE P N ops [] env H Q:=⟨_,_,GF.refl _ _ _,h⟩
def WE.cons(b:o.guard=none)(h:JE P N o env H λv a=>WE P N ops e (env.putO o.dst v) a Q):WE P N ops (o::e) env H Q:=by refine⟨_,_,GF.refl _ _ _,?_⟩;rw[b];exact h
end
variable {s:Hint}{C:Xa}
section
variable {P:Program} {N:Nat}
theorem vE(t:Ty)(l:List t.D): ∀v∈t.E.cl l,Pure v:=by intro v a;have⟨u,b,a⟩:=Hi.1 a;obtain⟨y,_,rfl⟩:=Bv.1 b;exact Ue (t.enc_pure y) v a
theorem AC3(h:Pure i)(p:Nat->Bool):i.idsAll p=true:=Qp (λ_ h=>by cases h) i h
theorem ACO{p q:Nat->Bool}(h: ∀id,p id=true->q id=true)(e:Fl)(k:e.idsAll p=true):e.idsAll q=true:=by cases e<;>grind[JC,Fl.idsAll,List.all_eq_true,Qp]
theorem AF2(t:Ty)(g:Nat)(l:List t.D)(p:Nat->Bool):(Fl.live g (t.E.cl l)).idsAll p=true:=by grind[Fl.idsAll,Dm,AC3,vE]
theorem flt{a:Type}(p q:a->Bool)(b: ∀x,q x=true->p x=true)(e:a)(d:p e=true)(f:q e=false): ∀l:List a,e∈l->(l.filter q).length<(l.filter p).length
 |x::l,he=>by
  have c: ∀l:List a,(l.filter q).length<=(l.filter p).length:=by intro l;induction l<;>grind
  rcases Au.1 he with rfl|h;grind;have:=flt p q b e d f l h;grind
theorem AFT(h:A.Nodup){i j a b:Nat}(d:A[i]? =some a)(e:A[j]? =some b)(c:i≠j):a≠b:=by grind[List.getElem?_inj]
set_option maxHeartbeats 1000000 in
def AAm{te:Ty}{kk:IntKind}{es:List (Int×te.D)}{Hb:A0}{base:Env}{id a2 a3 a4 a5 a6 a7 a8 a9 a10 a11 out:Nat}{b1 b2:Nat}{i2 i3 i4:Nat}{o2 o3 o4:Array Oper}{te1 te2 te3 ts1 ts2:TypeId}{z:List AZ}{e1 e2:TypeId}{bb:Bool}
  (h2:sN o2.toList=some (a2,a3,a4)) (h3:sO o3.toList=some (a2,a5,a6,a7,te1,te2)) (h4:sP o4.toList=some (out,a7,a8,a9,a10,a11,te3,ts1,ts2))
  (bG:[out,a2,a3,a4,a5,a6,a7,a8,a9,a10,a11].Nodup) (hN: ∀t∈[out,a2,a3,a4,a5,a6,a7,a8,a9,a10,a11],t<N) (hb: ∀q∈base,q.1∉ [out,a2,a3,a4,a5,a6,a7,a8,a9,a10,a11])
  (ax: ∀q∈base,(q.2.idsAll λj=>decide (j<Hb.length))=true) (ap: ∀e∈Hb,(e.idsAll λj=>decide (j<Hb.length))=true)
  (he:Hb[id]? =some (.mp kk (es.map λp=>(p.1,te.enc p.2)))) (ar:te.isAgg=true) (hz:YY P te1=some z) (Z:z.length=te.sz) (b4:tI P te2=some (bb,te.sz)) (b5:tI P te3=some (true,te.sz))
  (bN:eI P ts1=some (none,e1,te.sz)) (b0:eI P ts2=some (none,e2,te.sz)) (bt:Rj P e1=true) (bz:Rj P e2=true) (b3:te.sz<=4096) (b6:es.length<=16777216):
  ∀(n:Nat) (seen:List Nat),seen.Nodup->(∀j∈seen,j<es.length)->((List.range es.length).filter λj=>!decide (j∈seen)).length<=n->(gC (es.map (·.2)) seen).length+((List.range es.length).filter λj=>!decide (j∈seen)).length<=es.length->
   Me P N (.seq (.region i2 o2 false) (.seq (.cond (.tmp a4) .skip (.exit b1)) (.block b2 (.seq (.region i3 o3 false) (.region i4 o4 false)))))
    ((out,.sl Hb.length (gC (es.map (·.2)) seen).length te.sz 0 (gC (es.map (·.2)) seen).length)::(a2,.itp (Hb.length+1) id)::base)
    (Hb++[.live (gC (es.map (·.2)) seen).length (te.E.cl (gC (es.map (·.2)) seen)),.it es.length seen])
    λe E h=>e= .exit b1/\ ∃s,(es.map (·.2)).Perm s/\(∀q∈(out,AZ.sl Hb.length s.length te.sz 0 s.length)::base,q∈E)/\h.length=Hb.length+2/\(∀j,j<Hb.length->h[j]? =Hb[j]?)/\h[Hb.length]? =some (.live s.length (te.E.cl s)):=by
 obtain⟨t1,p1,x1,t2,p2,x2,l2⟩:=pT h2;obtain⟨t3,p3,x3,t4,p4,x4,t5,p5,x5,t6,p6,x6,l3⟩:=pU h3;obtain⟨t7,p7,x7,t8,p8,x8,t9,p9,x9,b9,b7,ca,b',b8,cb,l4⟩:=pV h4;have D:=λ(i j a b:Nat)=>AFT (i:=i) (j:=j) (a:=a) (b:=b) bG;simp only[Au,List.not_mem_nil,or_false,forall_eq_or_imp,forall_eq]at hN;have d2:Oi N o2.toList=true:=by rw[l2];simp[Oi,hN]
 have d3:Oi N o3.toList=true:=by rw[l3];simp[Oi,hN]
 have d4:Oi N o4.toList=true:=by rw[l4];simp[Oi,hN]
 have a0:id<Hb.length:=by rcases Aw id Hb.length with h|h;exact h;rw[Cj h]at he;cases he
 have s0: ∀(A B C:Fl),(Hb++[A,B]).set (Hb.length+1) C=Hb++[A,C]:=λA B C=>by rw[Sk _ _ o!,show Hb.length+1-Hb.length=1 by omega];rfl
 have s1: ∀(A B C D:Fl),(Hb++[A,B,C]).set (Hb.length+2) D=Hb++[A,B,D]:=λA B C D=>by rw[Sk _ _ o!,show Hb.length+2-Hb.length=2 by omega];rfl
 have s2: ∀(A B C D:Fl),(Hb++[A,B,C]).set Hb.length D=Hb++[D,B,C]:=λA B C D=>by rw[Sk _ _ (Ao _),Gn];rfl
 have g0: ∀(A:Fl) (r:List Fl),(Hb++A::r)[Hb.length]? =some A:=λA r=>by rw[Ch (Ao _),Gn];rfl
 have g1: ∀(A B:Fl) (r:List Fl),(Hb++A::B::r)[Hb.length+1]? =some B:=λA B r=>by rw[Ch o!,show Hb.length+1-Hb.length=1 by omega];rfl
 have g2: ∀(A B C:Fl) (r:List Fl),(Hb++A::B::C::r)[Hb.length+2]? =some C:=λA B C r=>by rw[Ch o!,show Hb.length+2-Hb.length=2 by omega];rfl
 have gm: ∀(r:List Fl),(Hb++r)[id]? =some (.mp kk (es.map λp=>(p.1,te.enc p.2))):=λr=>by rw[CT a0];exact he
 have Y:(es.map (·.2)).length=es.length:=B7 _;have J:0<te.sz:=te.sz_pos;intro n;induction n using Nat.strongRecOn with
 |ind n ih=>
  intro seen hn hl hr hm;obtain⟨L,hL⟩: ∃L,L=gC (es.map (·.2)) seen:=⟨_,rfl⟩
  rw[<-hL]at hm⊢;refine Sv (Mc.seq (Fq d2 ?_));rw[l2];apply WE.cons rfl;have d:(es.map λp=>(p.1,te.enc p.2)).length=es.length:=B7 _;have ad:out≠a2:=D 0 1 _ _ rfl rfl g!;refine JE.next (x:=.tmp a2) (id:=Hb.length+1) (m:=id) (k:=kk) (es:=es.map λp=>(p.1,te.enc p.2)) (seen:=seen) rfl ?_ ?_ (gm _) ?_ ?_
  show Env.get _ a2=_;rw[w7 ad,mu];rw[d];exact g1 _ _ _;intro G;refine WE.cons rfl (Dk (v:=.bool false) ?_ (WE.nil ?_));show Cb _ _ _ (.extract (.tmp a3) 0)=_;simp only[Cb,BM,Env.putO,GH,if_true];rfl;refine Mc.seq (Mc.cond (b:=false) ?_ (λh=>by cases h) (λ_=>Mc.exit ?_));simp only[BM,Env.putO,GH,if_true];refine⟨rfl,L,?_,λq o=>?_,q!,λj hj=>CT hj,g0 _ _⟩;rw[hL];exact zM hn (by rw[Y];exact hl) (by rw[Y];rw[d]at G;exact G);have al:out≠a3:=D 0 2 _ _ rfl rfl g!;have ao:out≠a4:=D 0 3 _ _ rfl rfl g!;rcases Au.1 o with rfl|o;exact E6 (E6 Iq al) ao;have:=hb q o;simp only[Au,not_or]at this;exact E6 (E6 (CZ _ (CZ _ o)) this.2.2.1) this.2.2.2.1;intro j p hj S;rw[CM]at hj;obtain⟨q,o,e⟩:=Sn.1 hj;subst e;rw[d,s0];refine WE.cons rfl (Dk (v:=.bool true) ?_ (WE.nil ?_));show Cb _ _ _ (.extract (.tmp a3) 0)=_;simp only[Cb,BM,Env.putO,GH,if_true];rfl;have k2: ∀(m:Nat) (v w:AZ),Env.get (Env.put (Env.put ((out,AZ.sl Hb.length m te.sz 0 m)::(a2,AZ.itp (Hb.length+1) id)::base) a3 v) a4 w) a2= .itp (Hb.length+1) id:=λm v w=>by rw[GH,if_neg (D 1 3 _ _ rfl rfl g!),GH,if_neg (D 1 2 _ _ rfl rfl g!),w7 ad,mu]
  have ko: ∀(m:Nat) (v w:AZ),Env.get (Env.put (Env.put ((out,AZ.sl Hb.length m te.sz 0 m)::(a2,AZ.itp (Hb.length+1) id)::base) a3 v) a4 w) out= .sl Hb.length m te.sz 0 m:=λm v w=>by rw[GH,if_neg (D 0 3 _ _ rfl rfl g!),GH,if_neg (D 0 2 _ _ rfl rfl g!),mu]
  have kb: ∀(m:Nat) (v w:AZ),∀q∈base,q∈Env.put (Env.put ((out,AZ.sl Hb.length m te.sz 0 m)::(a2,AZ.itp (Hb.length+1) id)::base) a3 v) a4 w:=λm v w q o=>by have:=hb q o;simp only[Au,not_or]at this;exact E6 (E6 (CZ _ (CZ _ o)) this.2.2.1) this.2.2.2.1
  have ki: ∀(m:Nat) (v w:AZ),(a2,AZ.itp (Hb.length+1) id)∈Env.put (Env.put ((out,AZ.sl Hb.length m te.sz 0 m)::(a2,AZ.itp (Hb.length+1) id)::base) a3 v) a4 w:=λm v w=>E6 (E6 (CZ _ Iq) (D 1 2 _ _ rfl rfl g!)) (D 1 3 _ _ rfl rfl g!);refine Mc.seq (Mc.cond (b:=true) ?_ (λ_=>Mc.skip ?_) (λh=>by cases h));simp only[BM,Env.putO,GH,if_true];dsimp only[ur];refine Mc.block (Mc.seq (Fq d3 ?_));rw[l3];generalize K:Env.putO (Env.putO ((out,AZ.sl Hb.length L.length te.sz 0 L.length)::(a2,AZ.itp (Hb.length+1) id)::base) (some a3) (.tup [.bool true,.int kk q.1,te.enc q.2])) (some a4) (.bool true)=E;have k2:Env.get E a2= .itp (Hb.length+1) id:=by rw[<-K];exact k2 _ _ _
  have ko:Env.get E out= .sl Hb.length L.length te.sz 0 L.length:=by rw[<-K];exact ko _ _ _
  have kb: ∀q∈base,q∈E:=by rw[<-K];exact kb _ _ _
  have ki:(a2,AZ.itp (Hb.length+1) id)∈E:=by rw[<-K];exact ki _ _ _
  clear K;refine WE.cons rfl (JE.entry (x:=.tmp a2) (id:=Hb.length+1) (m:=id) (j:=j) (k:=kk) (es:=es.map λp=>(p.1,te.enc p.2)) (seen:=seen) (p:=(q.1,te.enc q.2)) rfl k2 ?_ (gm _) (by rw[CM,o];rfl) ?_);rw[d];exact g1 _ _ _;have f:te.enc q.2= .agg (te.enc q.2).cells:=Ty.agg_enc ar q.2;have l:(te.enc q.2).cells.length=te.sz:=te.enc_len q.2;have U:(te.enc q.2).solid=true:=by rw[f];rfl
  refine WE.cons rfl (Dk (v:=te.enc q.2) ?_ (WE.cons rfl (JE.alloc rfl hz ?_)));show Cb _ _ _ (.extract (.tmp a5) 1)=_;simp only[Cb,BM,Env.putO,GH,if_true];rfl;have a1:(Hb++[Fl.live L.length (te.E.cl L),Fl.it es.length (seen++[j])]).length=Hb.length+2:=q!
  rw[a1,Ax];show WE P N o3 _ _ (Hb++[Fl.live L.length (te.E.cl L),Fl.it es.length (seen++[j]),Fl.live 0 z]) _;refine WE.cons rfl (JE.store (id:=Hb.length+2) (g:=0) (off:=0) (v:=te.enc q.2) (cs:=z) (b:=bb) rfl ?_ ?_ U (g2 _ _ _ _) (by rw[l];exact b4) (by rw[l,Z];omega) (WE.nil ?_));simp only[BM,Env.putO,GH,if_true];simp only[BM,Env.putO,GH];rw[if_neg (D 5 6 _ _ rfl rfl g!),if_pos trivial];have T:WA z 0 (te.enc q.2).cells=(te.enc q.2).cells:=by unfold WA;rw[List.take_zero,Bw,l,<-Z,EK,List.drop_length,C0]
  rw[T,s1];simp only[Env.putO];generalize F:Env.put (Env.put (Env.put E a5 (.tup [.int kk q.1,te.enc q.2])) a6 (te.enc q.2)) a7 (.ptr (Hb.length+2) 0 0)=E1;have j7:Env.get E1 a7= .ptr (Hb.length+2) 0 0:=by rw[<-F,GH,if_pos rfl]
  have jo:Env.get E1 out= .sl Hb.length L.length te.sz 0 L.length:=by rw[<-F,GH,if_neg (D 0 6 _ _ rfl rfl g!),GH,if_neg (D 0 5 _ _ rfl rfl g!),GH,if_neg (D 0 4 _ _ rfl rfl g!),ko]
  have jb: ∀q∈base,q∈E1:=λu I=>by have:=hb u I;simp only[Au,not_or]at this;rw[<-F];exact E6 (E6 (E6 (kb u I) this.2.2.2.2.1) this.2.2.2.2.2.1) this.2.2.2.2.2.2.1
  have ji:(a2,AZ.itp (Hb.length+1) id)∈E1:=by rw[<-F];exact E6 (E6 (E6 ki (D 1 4 _ _ rfl rfl g!)) (D 1 5 _ _ rfl rfl g!)) (D 1 6 _ _ rfl rfl g!)
  clear F;apply Fq d4;rw[l4];refine WE.cons rfl (Dk (v:=.sl Hb.length L.length te.sz 0 L.length) (congrArg some jo) (WE.cons rfl (Dk (v:=te.enc q.2) ?_ (WE.cons rfl (U3 (sz:=te.sz) (vs:=[te.enc q.2]) rfl ?_ (WE.cons rfl ?_))))));show gA P te3 _ (BM _ (.tmp a7))=_;simp only[BM,Env.putO,GH];rw[if_neg (D 6 7 _ _ rfl rfl g!),j7];simp only[gA,b5,Pr,g2];rw[if_pos ⟨trivial,by rw[l];omega⟩,jP,<-l,Hk];exact congrArg some f.symm;simp only[SZ,bN];rw[if_pos];simp only[BM,Env.putO,GH,if_true,Bi,HF];refine⟨J,bt,rfl,?_,g!,b3⟩;simp only[BM,Env.putO,GH,if_true,Bi,HF,nV,nW,U,l,decide_true,XK];have R:j<es.length:=by rcases Aw j es.length with h|h;exact h;rw[Cj h]at o;cases o
  have bm:((List.range es.length).filter λi=>!decide (i∈seen++[j])).length<((List.range es.length).filter λi=>!decide (i∈seen)).length:=flt (λi=>!decide (i∈seen)) (λi=>!decide (i∈seen++[j])) (λx f=>by simp at f⊢;exact f.1) j (by simpa using S) q! _ (Hj.2 R);have O:gC (es.map (·.2)) (seen++[j])=L++[q.2]:=by rw[hL];exact zN (by rw[CM,o];rfl)
  refine Rg (sx:=.tmp a8) (xx:=.tmp a10) (t:=ts2) (e:=e2) (id:=Hb.length) (g:=L.length) (g':=L.length+1) (n:=L.length) (sz:=te.sz) (m:=1) (cs:=te.E.cl L) (news:=(te.enc q.2).cells) rfl b0 J bz ?_ (g0 _ _) (te.E.clen L) ?_ o! (.inl o!) ?_;show Env.get _ a8=_;simp only[Env.putO,GH];rw[if_neg (D 7 9 _ _ rfl rfl g!),if_neg (D 7 8 _ _ rfl rfl g!),if_pos trivial];simp only[BM,Env.putO,GH,if_true,NV,Bd,BX,H6,jR,C0];rw[s2];refine WE.cons rfl (Dk (v:=.sl Hb.length (L.length+1) te.sz 0 (L.length+1)) ?_ (WE.nil ?_));show some (Env.get _ a11)=_;simp only[Env.putO,GH,if_true];have Q:te.E.cl L++(te.enc q.2).cells=te.E.cl (L++[q.2]):=by simp[Tu.cl];rfl
  rw[Q];have bl:(L++[q.2]).length=L.length+1:=q!
  show∃env2 H2,GF N _ _ _ env2 H2/\_;refine⟨_,_,?_,ih _ (DN bm hr) (seen++[j]) ?_ ?_ (Ao _) (by rw[O];omega)⟩;rw[O,bl];generalize M:Env.putO _ (some out) _=E3;have V: ∀u∈(out,AZ.sl Hb.length (L.length+1) te.sz 0 (L.length+1))::(a2,AZ.itp (Hb.length+1) id)::base,u∈E3:=by intro u I;rw[<-M];simp only[Env.putO];rcases Au.1 I with rfl|I;exact vv;rcases Au.1 I with rfl|I;exact E6 (E6 (E6 (E6 (E6 ji (D 1 7 _ _ rfl rfl g!)) (D 1 8 _ _ rfl rfl g!)) (D 1 9 _ _ rfl rfl g!)) (D 1 10 _ _ rfl rfl g!)) (D 1 0 _ _ rfl rfl g!);have:=hb u I;simp only[Au,not_or]at this;exact E6 (E6 (E6 (E6 (E6 (jb u I) this.2.2.2.2.2.2.2.1) this.2.2.2.2.2.2.2.2.1) this.2.2.2.2.2.2.2.2.2.1) this.2.2.2.2.2.2.2.2.2.2.1) this.1
  clear M;have w1:=GF.subset (N:=N) (H:=Hb++[Fl.live (L.length+1) (te.E.cl (L++[q.2])),Fl.it es.length (seen++[j]),Fl.live 0 (te.enc q.2).cells]) V;have W:(Hb++[Fl.live (L.length+1) (te.E.cl (L++[q.2])),Fl.it es.length (seen++[j]),Fl.live 0 (te.enc q.2).cells]).take (Hb.length+2)=Hb++[Fl.live (L.length+1) (te.E.cl (L++[q.2])),Fl.it es.length (seen++[j])]:=by rw[kg,BR o!,show Hb.length+2-Hb.length=2 by omega];rfl
  have w2:=GF.cut (N:=N) (n0:=Hb.length+2) (env:=(out,AZ.sl Hb.length (L.length+1) te.sz 0 (L.length+1))::(a2,AZ.itp (Hb.length+1) id)::base) (H:=Hb++[Fl.live (L.length+1) (te.E.cl (L++[q.2])),Fl.it es.length (seen++[j]),Fl.live 0 (te.enc q.2).cells]) q! (λt v X=>by
   rcases Au.1 X with e|X;injection e with _ e;subst e;exact decide_eq_true o!;rcases Au.1 X with e|X;injection e with _ e;subst e;simp only[AZ.idsAll,BW,decide_eq_true_eq];omega;exact Qp (λi hi=>decide_eq_true (by have:=of_decide_eq_true hi;omega)) v (ax _ X)) (by
   rw[W];intro e c;rcases An.1 c with c|c;exact ACO (λi hi=>decide_eq_true (by have:=of_decide_eq_true hi;omega)) e (ap e c);rcases Au.1 c with rfl|c;exact AF2 te _ _ _;simp only[BC]at c;subst c;rfl)
  rw[W]at w2;have a':(Hb++[Fl.live L.length (te.E.cl L),Fl.it es.length seen]).length=Hb.length+2:=q!
  rw[a'];exact(w1.of_le q!).trans w2;refine QK.2 ⟨hn,q!,λx f y hy=>?_⟩;simp only[BC]at hy;subst hy;rintro rfl;exact S f;intro x f;rcases An.1 f with f|f;exact hl x f;simp only[BC]at f;subst f;exact R
def mS(h:mR d J=some C): ∃x k i y l r z n A o B q,
  d= .seq (.region x k false) (.block i (.loop (.seq (.region y l false) (.seq (.cond (.tmp C.a4) .skip (.exit i)) (.block r (.seq (.region z n false) (.region A o false)))))))/\J= .region B q false/\
  vn k.toList=some (C.c0,C.a1,C.a2,C.ty1,C.ty2)/\sN l.toList=some (C.a2,C.a3,C.a4)/\sO n.toList=some (C.a2,C.a5,C.a6,C.a7,C.te1,C.te2)/\
  sP o.toList=some (C.out,C.a7,C.a8,C.a9,C.a10,C.a11,C.te3,C.ts1,C.ts2)/\vo q.toList=some (C.out,C.a12,C.a13,C.F,C.G)/\C.tmps.Nodup:=by
 unfold mR at h;split at h;split at h;rename_i s t u v w;split at h;rename_i j;simp only[BW]at j;have⟨⟨b,c,a,e,f,g⟩,hn⟩:=j;have b:=Db b;have c:=Db c;have a:=Db a;have e:=Db e;have f:=Db f;have g:=Db g;subst b c a e f g;cases h;exact⟨_,_,_,_,_,_,_,_,_,_,_,_,rfl,rfl,s,t,u,v,w,pQ hn⟩;cases h;cases h;cases h
set_option maxHeartbeats 1000000 in
def ACC{cs:List S5}(ct: ∀c∈cs,c.Ok P){a m:Code}{p:Xa}(hp:mR a m=some p){env:Bf}{H:Aq}{R:Type}{k:Bf→Aq→Option R}{r:R}(ok:QH env H)(o:ACB P N cs p env H k=some r):
  ∃A H',Mc P N a (CA env) (BL H) (ur (λE h=>Mc P N m E h (Xr .normal (CA A) (BL H'))) (λ_ _ _=>False))/\k A H'=some r/\QH A H'/\FO p.tmps env H A H':=by
 obtain⟨i1,o1,T,i2,o2,J,i3,o3,i4,o4,i5,o5,rfl,rfl,p1,p2,p3,p4,p5,b3⟩:=mS hp;unfold ACB at o;split at o;rename_i c ci b4;split at o;rename_i ro id hc;split at o;rename_i c3 kk n I F te G g a1 hF hE;split at o;rename_i cG;split at o;rename_i y1 kt et b9 n2 c4 n3 z e1 s1 e2 s2 t1 t2 t3 t4 t5 t6 t7;split at o;rename_i hb;have cS:n=te:=by have:=Ty.beq_eq _ _ cG;injection this
 subst cS;simp only[BW]at hb;obtain⟨⟨bG,b8,V,cd,W,bz,Y,Z,cb,cc,ad⟩,U,b',ca,bN⟩:=hb;have bG:=Db bG;have V:=Db V;have W:=Db W;have bz:=Db bz;have Y:=Db Y;have Z:=Db Z;have ad:=OX ad;subst V W Y Z cd;have c2:P.underlying kt=some (.int kk):=by split at U;rename_i k2 e;rw[e,of_decide_eq_true U];cases U
 cases ao:decide (((I.length:Nat):Int)<=16777216)with
 |false=>rw[ao]at o;cases o
 |true=>
  have bm:I.length<=16777216:=by have:=of_decide_eq_true ao;omega
  rw[ao]at o;obtain⟨s,hs,o⟩:=D2.1 (show Option.bind _ _=some r from o);have hs:=yz hs;cases L:Nat.beq s.length I.length with
  |false=>rw[L]at o;cases o
  |true=>
   rw[L]at o;have o:k ((p.out,.c (.own H.length 0 n s.length))::ZE p.tmps env) (H++[.buf false n s s.length 0,.dead])=some r:=o;have L:=Db L;obtain⟨c5,q1,x1,c6,q2,x2,l1⟩:=pS p1;obtain⟨c8,q3,x3,cW,c9,q4,x4,l5⟩:=pW p5;have D:=λ(i j a b:Nat)=>AFT (i:=i) (j:=j) (a:=a) (b:=b) b3;have hN: ∀t∈p.tmps,t<N:=λt ht=>OX (GB.1 bN t ht);have d1:Oi N o1.toList=true:=by rw[l1];simp[Oi,nV,nW,Qs,BW,decide_eq_true_eq];exact⟨hN _ (by simp[Xa.tmps]),hN _ (by simp[Xa.tmps])⟩
   have d5:Oi N o5.toList=true:=by rw[l5];simp[Oi,nV,nW,Qs,BW,decide_eq_true_eq];exact⟨hN _ (by simp[Xa.tmps]),hN _ (by simp[Xa.tmps])⟩
   have M:(CA env).get p.out= .nils:=by rw[UH,b4];rfl
   have al:(CA env).get p.c0= .ptr c 0 0:=by rw[UH,ci];rfl
   have co:p.c0≠p.out:=λe=>by rw[e,M]at al;cases al
   have cm:c<H.length:=G2 hc;have a':id<H.length:=G2 a1;have d:(BL H).length=H.length:=Cc H;have ce:(BL H)[c]? =some (.live 0 [.mp id]):=by rw[FU,hc];rfl
   have O:(BL H)[id]? =some (.mp kk (I.map λp=>(p.1,n.enc p.2))):=by rw[FU,a1];rfl
   have x: ∀q∈CA (ZE p.tmps env),q∈CA env/\q.1∉p.tmps:=λq y=>by obtain⟨u,hu,rfl⟩:=Bv.1 y;exact⟨Bv.2 ⟨u,(Vb hu).1,rfl⟩,(Vb hu).2⟩
   have ch: ∀q∈CA (ZE p.tmps env),(q.2.idsAll λj=>decide (j<(BL H).length))=true:=λq y=>by obtain⟨u,hu,rfl⟩:=Bv.1 y;rw[d];exact eR (jY b' u hu)
   have cf: ∀e∈BL H,(e.idsAll λj=>decide (j<(BL H).length))=true:=by rw[d];exact jZ ca
   have step:CR H (H++[.buf false n s s.length 0,.dead]):=by have:=(CR.push H (.buf false n s s.length 0)).trans (CR.push _ .dead);rwa [Ax]at this
   have b5:(Bu.own H.length 0 n s.length).ok (H++[.buf false n s s.length 0,.dead]):=by apply XX (b:=false) (l:=s);rw[Ch (Ao _),Gn];rfl
   refine⟨(p.out,.c (.own H.length 0 n s.length))::ZE p.tmps env,H++[.buf false n s s.length 0,.dead],?_,o,⟨λq y=>?_,?_⟩,step,λu hu _=>?_⟩;refine Mc.weak (GF.virt (t:=p.out) (sz:=n.sz) M) (Mc.seq (Fq d1 ?_));rw[l1];have cB:Cb P ((CA env).put p.out (.sl (BL H).length 0 n.sz 0 0)) (BL H++[.live 0 []]) (.load p.ty1 (.tmp p.c0))=some (.mp id):=by simp[Cb,BM,GH];rw[if_neg co,al];simp[gA,t1,Pr];rw[CT (by rw[d];exact cm),ce];rfl
   have bl:(BL H++[Fl.live 0 []])[id]? =some (.mp kk (I.map λp=>(p.1,n.enc p.2))):=by rw[CT (by rw[d];exact a'),O]
   refine WE.cons rfl (Dk cB (WE.cons rfl (JE.range (id:=id) (k:=kk) (es:=I.map λp=>(p.1,n.enc p.2)) rfl ?_ t2 bl (WE.nil ?_))));simp[BM,Env.putO,GH,if_true];rw[B7,Aa,Ax];dsimp[ur,Env.putO];refine Mc.block (Mc.of_loopW ?_);have ax:[p.out,p.a2,p.a3,p.a4,p.a5,p.a6,p.a7,p.a8,p.a9,p.a10,p.a11].Sublist p.tmps:=.cons₂ _ (.cons _ (.cons₂ _ (.cons₂ _ (.cons₂ _ (.cons₂ _ (.cons₂ _ (.cons₂ _ (.cons₂ _ (.cons₂ _ (.cons₂ _ (.cons₂ _ (.cons _ (.cons _ .slnil)))))))))))));have b7:=AAm (P:=P) (N:=N) (te:=n) (kk:=kk) (es:=I) (Hb:=BL H) (base:=CA (ZE p.tmps env)) (id:=id) (out:=p.out) (a2:=p.a2) (a3:=p.a3) (a4:=p.a4) (a5:=p.a5) (a6:=p.a6) (a7:=p.a7) (a8:=p.a8) (a9:=p.a9) (a10:=p.a10) (a11:=p.a11)
    (b1:=T) (b2:=J) (i2:=i2) (i3:=i3) (i4:=i4) (bb:=b9) p2 p3 p4 ?_ ?_ ?_ ch cf O b8 t5 bz t3 t4 t6 t7 cb cc ad bm I.length [] QL (λj B=>by cases B) (by simpa using List.length_filter_le _ (List.range I.length)) (by have:=Fy (λj=>!decide (j∈([]:List Nat))) (List.range I.length);simpa[gC]using this)
   refine Me.mono (Me.weak ?_ b7) ?_;refine GF.subset (N:=N) (H:=BL H++[Fl.live 0 [],Fl.it I.length []]) λq y=>?_;rcases Au.1 y with rfl|y;exact E6 (E6 vv (D 0 1 _ _ rfl rfl g!)) (D 0 2 _ _ rfl rfl g!);rcases Au.1 y with rfl|y;exact vv;obtain⟨T,J⟩:=x q y;simp[Xa.tmps,Au,not_or]at J;exact E6 (E6 (E6 T J.1) J.2.1) J.2.2.1;rintro e E h ⟨rfl,C,K,b6,Q,ar,ap⟩;show ni T _ (.exit T) E h;simp[ni,if_true,ur];refine Mc.weak (GF.subset b6) (Mc.after (Fq d5 ?_));rw[l5];obtain⟨b0,hf⟩:=lK hF;have a0:s.length=C.length:=by rw[L,<-K.length_eq,B7]
   have hA:=ct _ b0 C () s (hs C K) a0 h (BL H).length ap;simp[S5.f]at hf;rw[hf]at hA;refine WE.cons rfl (Dk (v:=.sl (BL H).length C.length n.sz 0 C.length) (congrArg some mu) (WE.cons rfl (JE.mono (nD (F:=p.F) (vs:=[.sl (BL H).length C.length n.sz 0 C.length,.fn (.func G) [] []]) ?_ hE hA) ?_)));show some (Sum.inl (p.F,[]++[Env.get _ p.a12,AZ.fn (.func p.G) [] []]++[]))=_;simp only[Env.putO,GH,if_true,bG];rfl;rintro _ _ ⟨rfl,rfl⟩;refine WE.nil ⟨_,_,?_,rfl,rfl,rfl⟩;have cz:(h.set (BL H).length (.live C.length (n.E.cl s))).length=h.length:=q!
   rw[<-cz];refine Vm (by simp[BL];rw[Q,d]) λX g' w _=>?_;have hr:Tq (cx X g' (h.set (BL H).length (.live C.length (n.E.cl s))) w) (cx X g' (h.set (BL H).length (.live C.length (n.E.cl s))) w) (h.set (BL H).length (.live C.length (n.E.cl s))) (BL (H++[.buf false n s s.length 0,.dead])):=by
    refine⟨by simp[BL];rw[Q,d],λj e' B=>?_⟩;have same:(h.set (BL H).length (.live C.length (n.E.cl s)))[j]? =some e'->e'= .dead\/_:=λhh=>(Tq.refl (cx X g' (h.set (BL H).length (.live C.length (n.E.cl s))) w) (h.set (BL H).length (.live C.length (n.E.cl s)))).2 j e' hh;have cv:BL (H++[.buf false n s s.length 0,.dead])=BL H++[Fl.live s.length (n.E.cl s),Fl.dead]:=by simp[BL,D0.enc]
    rw[cv]at B;rcases OY j (BL H).length with bt|rfl|c1;rw[CT bt]at B;exact same (by rw[D8 o!,ar j bt];exact B);rw[Ch (Ao _),Gn]at B;exact same (by rw[H7 o!,<-a0];exact B);rw[Ch o!]at B;rcases OY (j-(BL H).length) 1 with q|q|q;omega;rw[q]at B;injection B with B;exact .inl B.symm;rw[Cj w!]at B;cases B
   refine⟨hr.onto,λt v' S=>⟨v',?_,λc r=>r.later hr.later⟩⟩;simp[Env.putO];have S:(t,v')∈(p.out,AZ.sl (BL H).length s.length n.sz 0 s.length)::CA (ZE p.tmps env):=by rw[d];exact S
   rcases Au.1 S with e|S;cases e;rw[a0];exact E6 (E6 Iq (D 0 12 _ _ rfl rfl g!)) (D 0 13 _ _ rfl rfl g!);obtain⟨T,J⟩:=x _ S;simp only[Xa.tmps,Au,not_or]at J;exact E6 (E6 (CZ _ S) J.2.2.2.2.2.2.2.2.2.2.2.2.1) J.2.2.2.2.2.2.2.2.2.2.2.2.2.1;exact b3.sublist ax;exact λt ht=>hN t (ax.subset ht);exact λq y S=>(x q y).2 (ax.subset S);rcases Au.1 y with rfl|y;exact Js b5;exact step.tv (ok.env q (Vb y).1);intro e he;rcases An.1 he with he|he;exact step.ent (ok.heap e he);simp[Au,List.not_mem_nil,or_false]at he;rcases he with rfl|rfl;rfl;trivial;show Bf.get _ u=_;have:p.out≠u:=λe=>hu (by rw[<-e];simp[Xa.tmps]);simp[Bf.get,beq_false this];exact nz hu env
 cases o;cases o;cases o;cases o;cases o;cases o
end
abbrev Sem:= ∀{R:Type},Bf->Aq->(Exit->Bf->Aq->Option R)->Option R
def nK:List (Nat×Ty)->Bf->Aq->Option (Bf×Aq)
 |[],env,H=>some (env,H)
 |(t,ty)::r,env,H=>
  match env.get t with
  | .c .nil=>nK r (env.put t (.c (.own H.length 0 ty 0))) (H++[.buf false ty [] 0 0])
  |_=>none
def rD:Nat->List Bu->Option (List Bu×List Bu)
 |0,.nil::r=>some ([],r)
 |n+1,x::r=>match rD n r with|some (a,b)=>some (x::a,b)|none=>none
 |_,_=>none
def jD:List (Nat×Nat×Ty)->Aq->Option Aq
 |[],H=>some H
 |(b,i,ty)::r,H=>
  match H[b]? with
  |some (.live false cs)=>
   match rD i cs with
   |some (x,y)=>jD r (H.set b (.live false (x++ .own H.length 0 ty 0::y))++[.buf false ty [] 0 0])
   |none=>none
  |_=>none
def AEn(h:Hint)(env:Bf)(H:Aq):Option (Bf×Aq):=
 match nK h.virt env H with
 |some (e,H1)=>match jD h.virtC H1 with|some H2=>some (e,H2)|none=>none
 |none=>none
def AEc(h:Hint)(n:Nat)(eb:Bf)(H0:Aq)(S:List Nat)(k:Exit->Bf->Aq->Option R)(o:vg h.exits):Option R:=
 AGQ h.exits o λx sl ds=>
  match WZ sl ds eb H0 with
  |some (e,hh)=>match tF n e&&(j9 n hh&&S.all λj=>OD j (LV sl))with|true=>k x e hh|false=>none
  |none=>none
def ACa(h:Hint)(A:List Nat)(run:Sem):Sem:=λenv H k=>
 match AEn h env H with
 |none=>none
 |some (env0,H0)=>
  match oV env0 with
  |false=>none
  |true=>(run env0 (Mb (LV h.slots) 0 H0) λx e1 h1=>yv h.exits x e1 h1).bind λo=>AEc h H0.length (QO A (LV h.slots) H0 env0) H0 (LV h.slots) k o
def zy(h:Hint)(x:Exit)(env:Bf)(H:Aq):Option (Step (DL (fj h.slots)) (vg h.exits)):=
 match wq .normal x with
 |true=>match wY h.slots env H with|some s=>some (.next s)|none=>none
 |false=>match yv h.exits x env H with|some o=>some (.done o)|none=>none
noncomputable def ACg(h:Hint)(A:List Nat)(run:Sem):Sem:=λenv H k=>
 match AEn h env H with
 |none=>none
 |some (env1,H1)=>
  match IG (h.kill++kW env1 H1 h.slots) env1 H1 with
  |(env0,H0)=>
   match oV env0,Zz env0 H0 h.slots with
   |true,some ds=>
    match yo (fj h.slots) ds with
    |some s0=>(Ai (λs=>
      match WZ h.slots (dvs (fj h.slots) s) (QO A (LV h.slots) H0 env0) (Mb (LV h.slots) 0 H0)with
      |some (e,hh)=>match tF H0.length e&&j9 H0.length hh with|true=>run e hh λx e1 h1=>zy h x e1 h1|false=>none
      |none=>none) s0).bind λo=>AEc h H0.length (QO A (LV h.slots) H0 env0) H0 (LV h.slots) k o
    |none=>none
   |_,_=>none
def zl(c:Operand)(ra rb:Sem):Sem:=λenv H k=>
 match JG env c with
 | .c (.bl v)=>cond v (ra env H k) (rb env H k)
 |_=>none
def yL(id:Nat)(r:Sem):Sem:=λenv H k=>r env H λe env' H'=>
 match e with
 | .exit id'=>match Nat.beq id' id with|true=>k .normal env' H'|false=>k (.exit id') env' H'
 |e=>k e env' H'
def uL(o:Option Hint)(A:List Nat)(run:Sem):Sem:=
 match o with
 |some h=>ACa h A run
 |none=>run
noncomputable def AFQ(o:Option Hint)(A:List Nat)(run:Sem):Sem:=
 match o with
 |some h=>ACg h A run
 |none=>λ_ _ _=>none
def fZ:Bf->Bf
 |[]=>[]
 |(t,v)::r=>match Kv v.refs with|[]=>(t,v)::fZ r|_=>fZ r
def zA(P:Program)(call:S3)(N:Nat)(me:FuncId)(f:Operand)(ps:Array Tmp)(a b:Code):Sem:=λenv H k=>
 match JG env f with
 | .c (.raw (.fn (.func G) first caps))=>
  match Enters P G with
  |true=>call (.fn G) (first.map tvA++[.c (.raw (.yf H.length))]++caps.map tvA) (H++[.lp false me N (fZ env) ps a b .ready]) λ_ H'=>
   match H'[H.length]? with
   |some (.lp false _ _ _ _ _ _ .ready)=>k .normal env (H'.set H.length .dead)
   |some (.lp false _ _ _ _ _ _ .ret)=>k .ret env (H'.set H.length .dead)
   |some (.lp false _ _ _ _ _ _ (.exit x))=>k (.exit x) env (H'.set H.length .dead)
   |_=>none
  |false=>none
 |_=>none
noncomputable def lk(P:Program)(cs:List S5)(call:S3)(N:Nat)(me:FuncId)(hs:List Hint):Code->Sem
 | .skip=>λenv H k=>k .normal env H
 | .ret=>λenv H k=>k .ret env H
 | .exit id=>λenv H k=>k (.exit id) env H
 | .seq a (.seq m r)=>λenv H k=>
  match mR a m with
  |some p=>ACB P N cs p env H λenv' H'=>lk P cs call N me hs r env' H' k
  |none=>lk P cs call N me hs a env H λe env' H'=>match e with| .normal=>lk P cs call N me hs (.seq m r) env' H' k|e=>k e env' H'
 | .seq a b=>uL (qJ hs a b) (Qw hs (.seq a b)) λenv H k=>lk P cs call N me hs a env H λe env' H'=>match e with| .normal=>lk P cs call N me hs b env' H' k|e=>k e env' H'
 | .cond c a b=>uL (hintOf hs (.cond c a b)) (Qw hs (.cond c a b)) (zl c (lk P cs call N me hs a) (lk P cs call N me hs b))
 | .block id b=>uL (hintOf hs (.block id b)) (Qw hs (.block id b)) (yL id (lk P cs call N me hs b))
 | .loop b=>AFQ (hintOf hs (.loop b)) (Qw hs (.loop b)) (lk P cs call N me hs b)
 | .region id ops false=>uL (hintOf hs (.region id ops false)) (Qw hs (.region id ops false)) λenv H k=>
  match Oi N ops.toList with
  |true=>xh P cs call ops (guards ops) false ops.toList 0 env H λenv' H'=>k .normal env' H'
  |false=>none
 | .region id ops true=>λenv H k=>
  match P.follows .mixedOrders&&AAK ops N (y0 ops)&&Vl P ops&&oV env with
  |true=>zL P cs call ops (IF ops.toList []) (guards ops) (match mY 3 id hs with|some _=>true|none=>false) (y0 ops) [] env H λenv' H'=>k .normal env' H'
  |false=>none
 | .rangeFunc f ps a b=>zA P call N me f ps a b
 |_=>λ_ _ _=>none
def AE1{f:List Hint}(j: ∀m r,J≠ .seq m r)(env:Bf)(H:Aq)(g:Exit→Bf→Aq→Option R):
  lk P c k N F f (.seq d J) env H g=uL (qJ f d J) (Qw f (.seq d J)) (λenv H g=>lk P c k N F f d env H λe h i=>match e with| .normal=>lk P c k N F f J h i g|e=>g e h i) env H g:=by
 cases J<;>first|rfl|exact absurd rfl (j _ _)
def Ps(P:Program)(N:Nat)(A:List Nat)(c:Code)(run:Sem):Prop:= ∀{R:Type} (env:Bf) (H:Aq) (k:Exit->Bf->Aq->Option R) (r:R),QH env H->run env H k=some r->
 ∃e env' H',tT P N c (CA env) (BL H) (Xr e (CA env') (BL H'))/\k e env' H'=some r/\QH env' H'/\FO A env H env' H'
theorem AAQ: ∀{l:List (Nat×Ty)} {env:Bf} {H:Aq} {a:Bf} {b:Aq},QH env H→nK l env H=some (a,b)→
  QH a b/\FO (l.map (·.1)) env H a b/\ ∀N,GF N H.length (CA env) (BL H) (CA a) (BL b)
 |[],env,H,a,b,ok,h=>by grind[nK,FO.refl,GF.refl,Cc]
 |(t,ty)::r,env,H,a,b,ok,h=>by
  simp only[nK]at h;split at h;rename_i m;have st:CR H (H++[.buf false ty [] 0 0]):=CR.push H _;have g:(H++[D0.buf false ty [] 0 0])[H.length]? =some (.buf false ty [] 0 0):=q!
  have i:QH (env.put t (.c (.own H.length 0 ty 0))) (H++[.buf false ty [] 0 0]):=by refine⟨fe (d:=some t) (st.env ok.env) (Js (XX g)),λe f=>?_⟩;rcases An.1 f with f|f;exact st.ent (ok.heap e f);rw[BC.1 f];rfl
  obtain⟨q1,q2,q3⟩:=AAQ i h;refine⟨q1,?_,λN=>?_⟩;have o:FO [t] env H (env.put t (.c (.own H.length 0 ty 0))) (H++[.buf false ty [] 0 0]):=⟨st,λu n _=>nJ λe=>n (by simp[e])⟩
  exact FO.trans ok.env o q2;have w:=GF.virt (N:=N) (env:=CA env) (H:=BL H) (t:=t) (sz:=ty.sz) (by rw[UH,m];rfl);have j:=(q3 N).of_le (n0:=H.length) q!;rw[mV]at j;have k:BL (H++[.buf false ty [] 0 0])=BL H++[.live 0 []]:=by simp[BL,D0.enc,Tu.cl]
  rw[k]at j;rw[Cc]at w;exact w.trans j;cases h
def pC: ∀{n:Nat} {e x y:List Bu},rD n e=some (x,y)->e=x++ .nil::y
 |0,[],_,_,h=>by cases h
 |0,z::r,x,y,h=>by
  cases z<;>simp only[rD]at h<;>try (cases h;done)
  injection h with h;injection h with c d;subst c d;rfl
 |n+1,[],_,_,h=>by cases h
 |n+1,z::r,x,y,h=>by simp only[rD]at h;split at h;rename_i a b hr;injection h with h;injection h with c d;subst c d;rw[pC hr];rfl;cases h
theorem xt{env:Bf}: ∀{l:List (Nat×Nat×Ty)} {H c:Aq},QH env H→jD l H=some c→
  QH env c/\CR H c/\ ∀N,GF N H.length (CA env) (BL H) (CA env) (BL c)
 |[],H,c,ok,h=>by grind[jD,Option.some.injEq,CR.refl,GF.refl,CA,BL,Cc]
 |(b,i,ty)::r,H,c,ok,h=>by
  simp only[jD]at h;split at h;rename_i E v;split at h;rename_i x y B;have m:=pC B;subst m;have D:b<H.length:=k!
  have f:CR H (H++[D0.buf false ty [] 0 0]):=CR.push H _;have a:H.set b (D0.live false (x++Bu.own H.length 0 ty 0::y))++[D0.buf false ty [] 0 0]=(H++[D0.buf false ty [] 0 0]).set b (D0.live false (x++Bu.own H.length 0 ty 0::y)):=k!
  have j:(H++[D0.buf false ty [] 0 0])[b]? =some (D0.live false (x++Bu.nil::y)):=k!
  have g:CR (H++[D0.buf false ty [] 0 0]) ((H++[D0.buf false ty [] 0 0]).set b (D0.live false (x++Bu.own H.length 0 ty 0::y))):=CR.set j rfl λ_ _ _ _ _ e=>by cases e
  have n:(H++[D0.buf false ty [] 0 0])[H.length]? =some (.buf false ty [] 0 0):=q!
  have t:lok H (x++Bu.nil::y):=ok.heap _ (BN v);have s: ∀e∈H++[D0.buf false ty [] 0 0],e.ok (H++[D0.buf false ty [] 0 0]):=λe d=>by rcases An.1 d with d|d;exact f.ent (ok.heap e d);rw[BC.1 d];rfl
  have u:lok (H++[D0.buf false ty [] 0 0]) (x++Bu.own H.length 0 ty 0::y):=by have q:=Iz.1 (f.lok t);refine Iz.2 ⟨q.1,λz o=>?_⟩;rcases Au.1 o with rfl|o;exact XX n;exact q.2 z (CZ _ o)
  rw[a]at h;have p:QH env ((H++[D0.buf false ty [] 0 0]).set b (D0.live false (x++Bu.own H.length 0 ty 0::y))):=⟨g.env (f.env ok.env),heap_set g s (g.lok u)⟩
  obtain⟨q1,q2,q3⟩:=xt p h;refine⟨q1,(f.trans g).trans q2,λN=>?_⟩;have k:(BL H)[b]? =some (.live 0 (lvs (x++Bu.nil::y))):=by rw[FU,v];rfl
  have C:(lvs (x++Bu.nil::y))[(lvs x).length]? =some .nils:=by grind[Gq,HY,Bu.enc]
  have w:=GF.virtC (N:=N) (env:=CA env) (sz:=ty.sz) k C;have A:BL ((H++[D0.buf false ty [] 0 0]).set b (D0.live false (x++Bu.own H.length 0 ty 0::y)))=(BL H).set b (.live 0 ((lvs (x++Bu.nil::y)).set (lvs x).length (.sl (BL H).length 0 ty.sz 0 0)))++[.live 0 []]:=by
   rw[<-a];have:(lvs (x++Bu.nil::y)).set (lvs x).length (.sl (BL H).length 0 ty.sz 0 0)=lvs (x++Bu.own H.length 0 ty 0::y):=by grind[Gq,HY,Cc,Bu.enc]
   grind[BL,D0.enc,Tu.cl,List.map_set]
  rw[<-A,Cc]at w;exact w.trans ((q3 N).of_le q!);cases h;cases h
theorem AAH(ok:QH f b)(h:AEn s f b=some (L,B)):
  QH L B/\FO (s.virt.map (·.1)) f b L B/\ ∀N,GF N b.length (CA f) (BL b) (CA L) (BL B):=by
 unfold AEn at h;split at h;rename_i e d n;obtain⟨a1,a2,a3⟩:=AAQ ok n;split at h;rename_i H m;injection h with h;injection h with k l;subst k l;obtain⟨g,i,j⟩:=xt a1 m;have o:FO [] e d e H:=⟨i,λ_ _ _=>rfl⟩
 exact⟨g,(FO.trans ok.env a2 o).mono λt p=>k!,λN=>(a3 N).trans ((j N).of_le a2.step.len)⟩;cases h;cases h
theorem ti{A S:List Nat}{H:Aq}: ∀{env:Bf},(env.map (·.1)).Nodup-> ∀t,env.get t=Us->(QO A S H env).get t=Us
 |[],_,_,_=>rfl
 |(u,v)::r,nd,t,h=>by have a:=Gl.1 nd;simp only[Bf.get]at h;by_cases b:u=t;subst b;have hn: ∀p∈QO A S H r,p.1≠u:=λp c e=>a.1 (Bv.2 ⟨p,(Qx a.2 p c).2.2,e⟩);grind[QO,Bf.get,kS];rw[beq_false b]at h;have d:=ti (A:=A) (S:=S) (H:=H) a.2 t h;grind[QO,Bf.get,beq_false]
theorem zq{h:Hint}{A B:List Nat}{env0:Bf}{e:Aq}{D:Bf}{E:Aq}(m:QH env0 e)(nd:(env0.map (·.1)).Nodup)(M:yB A (LV h.slots) env0 e D E)
  {env1:Bf} {u:Aq} (C:QH env1 u) (st:FO B D E env1 u) (K: ∀t,t∈B->t∈A) (J: ∀t,t∈h.tmps->t∈A) {x:Exit} {o:vg h.exits} (Q:yv h.exits x env1 u=some o)
  {R:Type} {k:Exit->Bf->Aq->Option R} {r:R} (f:AEc h e.length (QO A (LV h.slots) e env0) e (LV h.slots) k o=some r) (N:Nat):
  ∃g i,GF N e.length (CA env1) (BL u) (CA g) (BL i)/\k x g i=some r/\QH g i/\FO A env0 e g i:=by
 obtain⟨rfl,L,p,S,y⟩:=uZ Q;have f:=uY f;split at f;rename_i g i O;split at f;rename_i v;simp at v;have sub: ∀j,OD j (LV (vi h.exits o).2.1)=false->OD j (LV h.slots)=false:=λj d=>Vi λG=>k!
 obtain⟨w,W,Y,z⟩:=zc m nd M C st K L m.heap rfl (ACe e) (λ_ _ _ _ q=>q) (λj H d c=>by
  cases H with
  |dead=>grind
  |live b V=>exact .inr ⟨_,sub j d,by rw[KY,c,EK,sub j d];rfl,rfl,.inr (.inl ⟨_,_,_,_,rfl,rfl,Dg.refl _⟩)⟩
  |buf b t l n U=>exact .inr ⟨_,sub j d,by rw[KY,c,EK,sub j d];rfl,rfl,.inr (.inr (.inl ⟨_,_,_,_,_,_,_,rfl,rfl⟩))⟩
  |mp b k t X=>exact .inr ⟨_,sub j d,by rw[KY,c,EK,sub j d];rfl,rfl,.inr (.inr (.inr (.inr ⟨_,_,_,_,_,rfl,rfl⟩)))⟩
  |lp ro F n env Z a b s=>exact .inr ⟨_,sub j d,by rw[KY,c,EK,sub j d];rfl,rfl,.inr (.inr (.inr (.inl ⟨_,_,_,_,_,_,_,_,_,rfl,rfl⟩)))⟩) O v.1 v.2.1 N
 refine⟨g,i,w,f,z.ok,z.step,λt T P=>?_⟩;have I:=Vi λG=>T (J t (by refine An.2 (.inr (Hi.2 ⟨p,S,?_⟩));rw[<-y];exact G));rw[z.get t I];grind[wP,Us,ti,jU,ACc,Vi];cases f;cases f
variable {P:Program} {N:Nat}
variable {h:Sem}
theorem xF(hr:Ps P N a d h)(n: ∀t,t∈a->t∈A)(m: ∀t,t∈s.tmps->t∈A):Ps P N A d (ACa s A h):=by
 intro R env H k r ok B;unfold ACa at B;dsimp only at B;split at B;cases B;rename_i env0 f v;split at B;cases B;rename_i hn;obtain⟨o,c,B⟩:=bnd B;obtain⟨b,x,y⟩:=AAH ok v;have nd:=ZN hn;obtain⟨e,env1,z,a1,k1,g,i⟩:=hr env0 (Mb (LV s.slots) 0 f) _ o (nB b) c;have q:yB A (LV s.slots) env0 f env0 (Mb (LV s.slots) 0 f):=⟨nB b,CR.refl _,KZ _ _,λ_ _=>rfl,λp u=>(Qx nd p u).1⟩
 obtain⟨j,l,w,q1,q2,q3⟩:=zq b nd q g i n m k1 B N;refine⟨e,j,l,?_,q1,q2,?_⟩;rw[uO]at a1;refine tT.weak (by rw[Cc];exact y N) (tT.after (a1.mono ?_));rintro _ _ _ ⟨rfl,rfl,rfl⟩;exact⟨_,_,by rw[Cc];exact w,rfl,rfl,rfl⟩;exact(FO.trans ok.env x q3).mono λt C=>by grind[Hint.tmps]
theorem ACh(hr:Ps P N a d h)(hB: ∀t,t∈a->t∈A)(X: ∀t,t∈s.tmps->t∈A):Ps P N A (.loop d) (ACg s A h):=by
 intro R env H k r ok g;unfold ACg at g;dsimp only at g;split at g;cases g
 ·rename_i E Hv hv;obtain⟨bb,sv,wv⟩:=AAH ok hv;obtain⟨m,sf,wf⟩:=Q3 (s.kill++kW E Hv s.slots) bb;generalize IG (s.kill++kW E Hv s.slots) E Hv=fz at g m sf wf;obtain⟨env0,f⟩:=fz;simp only at g m sf wf;split at g
  ·rename_i ds hn hc;split at g
   ·rename_i s0 a7;obtain⟨o,ho,g⟩:=bnd g;have nd:=ZN hn;have v: ∀e∈Mb (LV s.slots) 0 f,e.ok (Mb (LV s.slots) 0 f):=(nB m).heap;have hC:=yj (C:=λc o=> ∀r,AEc s f.length (QO A (LV s.slots) f env0) f (LV s.slots) k o=some r->
     ∃u i,WZ s.slots (dvs (fj s.slots) c) (QO A (LV s.slots) f env0) (Mb (LV s.slots) 0 f)=some (u,i)/\tF f.length u=true/\j9 f.length i=true/\(yB A (LV s.slots) env0 f u i-> ∃x D G,Me P N d (CA u) (BL i) (Xr x (CA D) (BL G))/\k x D G=some r/\QH D G/\FO A env0 f D G)) (λc q U=>by
     split at U
     ·rename_i u i hi;split at U
      ·rename_i I;simp only[BW]at I;have body: ∀y:yB A (LV s.slots) env0 f u i,∃e env1 J,tT P N d (CA u) (BL i) (Xr e (CA env1) (BL J))/\zy s e env1 J=some q/\QH env1 J/\FO a u i env1 J:=λy=>hr u i _ q y.ok U;cases q with
       |next s'=>
        intro o ih r g;obtain⟨ad,ap,i1,i2,i3,i4⟩:=ih r g;refine⟨u,i,hi,I.1,I.2,λy=>?_⟩;obtain⟨e,env1,J,a1,k1,O,Q⟩:=body y;unfold zy at k1;split at k1;rename_i hx;have:=rH hx;subst this;split at k1;rename_i s1 a8;injection k1 with k1;injection k1 with k1;subst k1;have a2:=lF a8;obtain⟨w,ea,ha,z⟩:=zc (Hx:=Mb (LV s.slots) 0 f) m nd y O Q hB a2 v (KZ _ _) (.refl _) (λ_ _ _ _ q=>sE q) (λj e' L V=>by
         cases Y:f[j]? with
         |none=>grind[KY]
         |some W=>
          have Z:=V;rw[KY,Y,EK,L]at V;simp only[Bo,Am]at V;subst V;cases W with
          |dead=>exact .inl rfl
          |live b cs=>exact .inr ⟨_,L,Z,rfl,.inr (.inl ⟨_,_,_,_,rfl,rfl,Dg.refl _⟩)⟩
          |buf b t l n bl=>exact .inr ⟨_,L,Z,rfl,.inr (.inr (.inl ⟨_,_,_,_,_,_,_,rfl,rfl⟩))⟩
          |mp b k t es=>exact .inr ⟨_,L,Z,rfl,.inr (.inr (.inr (.inr ⟨_,_,_,_,_,rfl,rfl⟩)))⟩
          |lp ro F n env ps B b c=>exact .inr ⟨_,L,Z,rfl,.inr (.inr (.inr (.inl ⟨_,_,_,_,_,_,_,_,_,rfl,rfl⟩)))⟩) i1 i2 i3 N
        have a3:yB A (LV s.slots) env0 f ad ap:=⟨z.ok,z.step,by rw[z.len,KZ],z.same,λp M=>by
         obtain⟨T,b2,b3⟩:=Qx nd p M;have K:OD p.1 A=false:=by grind[fy,OD]
         rw[z.get p.1 (Vi λhm=>Tm K (X _ (by unfold Hint.tmps;simp only[List.mem_append];exact .inl (.inr hm))))];rw[jU nd p.1 (by rw[T];exact b2)];exact T⟩
        obtain⟨x,D,G,l1,l2,l3,l4⟩:=i4 a3;refine⟨x,D,G,Sv (a1.awp.mono ?_),l2,l3,l4⟩;rintro _ _ _ ⟨rfl,rfl,rfl⟩;exact⟨_,_,by rw[Cc,y.len];exact w,l1⟩;cases k1;split at k1<;>grind
       |done o=>
        intro r g;refine⟨u,i,hi,I.1,I.2,λy=>?_⟩;obtain⟨e,env1,J,a1,k1,O,Q⟩:=body y;unfold zy at k1;split at k1;split at k1<;>grind;rename_i hx;split at k1;rename_i o1 a6;injection k1 with k1;injection k1 with k1;subst k1;obtain⟨D,G,w,q1,q2,q3⟩:=zq m nd y O Q hB X a6 g N;have a5:e≠ .normal:=by rintro rfl;cases hx
        refine⟨e,D,G,Me.after (Sv (a1.awp.mono ?_)),q1,q2,q3⟩;intro e1 al bm a9;obtain⟨ar,ax,a0⟩:=a9;subst ar ax a0;have ao: ∃env2 H2,GF N (BL i).length (CA env1) (BL J) env2 H2/\Xr e1 (CA D) (BL G) e1 env2 H2:=⟨_,_,by rw[Cc,y.len];exact w,rfl,rfl,rfl⟩
        cases e1 with
        |normal=>exact(a5 rfl).elim
        |_=>exact ao
        cases k1
      cases U
     cases U) ho
    obtain⟨u,i,i1,i2,i3,i4⟩:=hC r g;have a4:=oU a7;rw[a4]at i1;have a':QH (QO A (LV s.slots) f env0) (Mb (LV s.slots) 0 f):=⟨λp M=>(nB m).env p (Qx nd p M).2.2,v⟩
    have z:=OC m hc i1 a' (by rw[KZ];exact Ao _) (λp M=>⟨p.2,(Qx nd p M).2.2,Wn.refl _⟩) (λj e' L V=>by
     rw[KY]at V;cases Y:f[j]? with
     |none=>rw[Y]at V;cases V
     |some W=>
      rw[Y,EK,L]at V;simp only[Bo,Am]at V;subst V;refine⟨W,rfl,?_⟩;cases W with
      |dead=>exact .inl rfl
      |live b cs=>exact .inr (.inl ⟨_,_,_,_,rfl,rfl,Dg.refl _⟩)
      |buf b t l n bl=>exact .inr (.inr (.inl ⟨_,_,_,_,_,_,_,rfl,rfl⟩))
      |mp b k t es=>exact .inr (.inr (.inr (.inr ⟨_,_,_,_,_,rfl,rfl⟩)))
      |lp ro F n env ps B b c=>exact .inr (.inr (.inr (.inl ⟨_,_,_,_,_,_,_,_,_,rfl,rfl⟩)))) (AEY f)
    have w:=z.weak (N:=N) (by rw[KZ];exact Ao _) (by rw[KZ];exact i2) (by rw[KZ];exact i3);rw[KZ]at w;have y:yB A (LV s.slots) env0 f u i:=⟨z.ok,z.step,by rw[z.len,KZ],z.same,λp M=>by
     obtain⟨T,b2,b3⟩:=Qx nd p M;have K:OD p.1 A=false:=by grind[fy,OD]
     rw[z.get p.1 (Vi λhm=>Tm K (X _ (by unfold Hint.tmps;simp only[List.mem_append];exact .inl (.inr hm))))];rw[jU nd p.1 (by rw[T];exact b2)];exact T⟩
    obtain⟨x,D,G,l1,l2,l3,l4⟩:=i4 y;have w3:GF N H.length (CA env) (BL H) (CA u) (BL i):=((wv N).trans ((wf N).of_le (by rw[Cc];exact sv.step.len))).trans (w.of_le (Dc sv.step.len sf.step.len));refine⟨x,D,G,tT.weak (by rw[Cc];exact w3) l1,l2,l3,?_⟩;exact(FO.trans ok.env (FO.trans ok.env sv sf) l4).mono λt S=>by rcases An.1 S with S|S;rw[C0]at S;exact X t (by unfold Hint.tmps;simp only[List.mem_append];exact .inl (.inl (.inr S)));exact S
   cases g
  cases g
def ACE{A B:List Nat}{j:Sem}(l:Ps P N A d h)(m:Ps P N B J j):Ps P N (A++B) (.cond G d J) (zl G h j):=by
 intro R env H k r ok f;unfold zl at f;dsimp only at f;split at f;rename_i v n;have i:BM (CA env) G= .bool v:=by have:=K0 env G;rw[n]at this;exact this
 cases v with
 |true=>obtain⟨e,c,g,a1,q1,q2,q3⟩:=l env H k r ok f;exact⟨e,c,g,EH (λ_ e=>by cases e) (Mc.cond i (λ_=>a1.awp) (λe=>by cases e)),q1,q2,q3.mono λt a=>An.2 (.inl a)⟩
 |false=>obtain⟨e,c,g,a1,q1,q2,q3⟩:=m env H k r ok f;exact⟨e,c,g,EH (λ_ e=>by cases e) (Mc.cond i (λe=>by cases e) (λ_=>a1.awp)),q1,q2,q3.mono λt a=>An.2 (.inr a)⟩
 cases f
def AAe{A:List Nat}(hr:Ps P N A d h):Ps P N A (.block n d) (yL n h):=by
 intro R env H k r ok i;obtain⟨e,a,f,a1,q1,q2,q3⟩:=hr env H _ r ok i;cases e with
 |exit c=>
  simp only at q1;split at q1;rename_i b;have:=Db b;refine⟨.normal,a,f,EH (λ_ e=>by cases e) (Mc.block (a1.awp.mono ?_)),q1,q2,q3⟩;rintro _ _ _ ⟨rfl,rfl,rfl⟩;simp only[ni,if_pos this];exact⟨rfl,rfl,rfl⟩;rename_i b;have g:c≠n:=λe=>t!
  refine⟨.exit c,a,f,EH (λ_ e=>by cases e) (Mc.block (a1.awp.mono ?_)),q1,q2,q3⟩;rintro _ _ _ ⟨rfl,rfl,rfl⟩;simp only[ni,if_neg g];exact⟨rfl,rfl,rfl⟩
 |_=>refine⟨_,a,f,EH (λ_ e=>by cases e) (Mc.block (a1.awp.mono ?_)),q1,q2,q3⟩;rintro _ _ _ ⟨rfl,rfl,rfl⟩;exact⟨rfl,rfl,rfl⟩
end Go.Ab
namespace Go.Ab
variable {P:Program} {N:Nat}
variable {N n z:Nat}{R y:Type}{a A:List Nat}{b B:Aq}{c:List S5}{d J:Code}{F:FuncId}{f L S:Bf}{P:Program}{g:List AZ}{h:Sem}{i:AZ}{j:Bool}{k:S3}{p:Ty}{q:Int}{t:List TV}{v:World}{x:Exit}{C:Xa}{G:Operand}{I:IntKind}{K:Value}{M:Func}
def Ps.mono(b:Ps P N A d h)(f: ∀t,t∈A->t∈a):Ps P N a d h:=λenv H k r ok g=>by obtain⟨e,B,c,q1,q2,q3,q4⟩:=b env H k r ok g;exact⟨e,B,c,q1,q2,q3,q4.mono f⟩
def rk{hs:List Hint}{A B:List Nat}(hr:Ps P N B d h)(c: ∀t,t∈B->t∈A)(b: ∀t,t∈pL hs d->t∈A):Ps P N A d (uL (hintOf hs d) A h):=by
 unfold pL at b;generalize hintOf hs d=o at b⊢;cases o with
 |none=>exact hr.mono c
 |some a=>exact xF hr c b
def ACi{hs:List Hint}{A B:List Nat}(hr:Ps P N B d h)(c: ∀t,t∈B->t∈A)(b: ∀t,t∈pL hs (.loop d)->t∈A):Ps P N A (.loop d) (AFQ (hintOf hs (.loop d)) A h):=by
 unfold pL at b;generalize hintOf hs (.loop d)=o at b⊢;cases o with
 |none=>exact λenv H k r ok e=>by cases e
 |some a=>exact ACh hr c b
def Vj: ∀{env:Bf} {p:Nat×TV},p∈fZ env->p∈env/\Kv p.2.refs=[]
 |(t,v)::r,p,h=>by simp only[fZ]at h;split at h;rename_i a;rcases Au.1 h with rfl|h;exact⟨Iq,a⟩;exact⟨CZ _ (Vj h).1,(Vj h).2⟩;exact⟨CZ _ (Vj h).1,(Vj h).2⟩
theorem ABL(Q:Wm P k){B:Array Tmp}:Ps P N A (.rangeFunc G B d J) (zA P k N F G B d J):=by
 intro R env H w r ok q;unfold zA at q;dsimp only at q;split at q;rename_i a first m hf
 split at q;rename_i Z;have Y:BM (CA env) G= .fn (.func a) first m:=by rw[K0,hf];rfl
 have E:(D0.lp false F N (fZ env) B d J .ready).ok (H++[.lp false F N (fZ env) B d J .ready]):=λp S id al t n hm=>by have:=lW hm;rw[(Vj S).2]at this;cases this
 have U:CR H (H++[.lp false F N (fZ env) B d J .ready]):=CR.push H _;obtain⟨v,i,q1,q2,q3,q4,q5⟩:=Q (.fn a) _ _ _ r (λv X=>by simp only[An,Bv,BC]at X;rcases X with(⟨u,_,rfl⟩|rfl)|⟨u,_,rfl⟩;exact jC u;exact Js trivial;exact jC u) (PR ok.heap E) q
 have y: ∀{ro:Bool} {f n e p c b} {s:LS} {x:Exit},i[H.length]? =some (.lp ro f n e p c b s)→ro=false→(∀L:kI,L.state=s.st→L.pending=s.pend→ADD P N (CA env) H.length (Xr x (CA env) (BL (i.set H.length .dead))) ((BL i).set H.length (.lp L)))→w x env (i.set H.length .dead)=some r→
   ∃V g M,tT P N (.rangeFunc G B d J) (CA env) (BL H) (Xr V (CA g) (BL M))/\w V g M=some r/\QH g M/\FO A env H g M:=by
  intro ro f n e p c b s x o T hq q;subst T;have K:CR i (i.set H.length .dead):=CR.set o rfl λ_ _ _ _ _ h=>by cases h
  have st:=(U.trans q5).trans K;refine⟨x,env,_,EH (λ_ e=>by cases e) (kA (CA (fZ env)) (λp S=>?_) Y Z ?_),q,⟨st.env ok.env,Ug K q4 trivial⟩,st,λ_ _ _=>rfl⟩;obtain⟨u,hu,rfl⟩:=Bv.1 S;exact Bv.2 ⟨u,(Vj hu).1,rfl⟩;have O:EW P a _ _ _:=q1;have z:(first.map tvA++[TV.c (.raw (.yf H.length))]++m.map tvA).map TV.enc=first++[.yf (BL H).length]++m:=by
   have W: ∀l:List AZ,(l.map tvA).map TV.enc=l:=by
    intro l;rw[Mh];conv=>rhs;rw[<-dJ l]
    grind[List.map_congr_left,fo]
   rw[Jm,Jm,W,W,Cc];rfl
  rw[z,Q1]at O;apply O.mono;rintro _ _ ⟨rfl,rfl⟩;rw[Cc];have I:BL i=(BL i).set H.length (.lp ⟨n,CA e,p,c,b,s.st,s.pend⟩):=by
   have hg:(BL i)[H.length]? =some (.lp ⟨n,CA e,p,c,b,s.st,s.pend⟩):=by rw[FU,o];rfl
   apply Is;intro j;by_cases ad:j=H.length<;>grind
  rw[I];exact hq _ rfl rfl
 have look: ∀L:kI,H.length<i.length->((BL i).set H.length (.lp L))[H.length]? =some (.lp L):=λL h=>by grind[List.getElem?_set_self,Cc]
 have dead: ∀L:kI,((BL i).set H.length (.lp L)).set H.length .dead=BL (i.set H.length .dead):=λL=>by rw[Xg,Nd];rfl
 split at q2;rename_i o;refine y o rfl (λL C D=>⟨L,look L (G2 o),by rw[C];simp[LS.st],?_⟩) q2;rw[D,dead];exact⟨rfl,rfl,rfl⟩;rename_i o;refine y o rfl (λL C D=>⟨L,look L (G2 o),by rw[C];simp[LS.st],?_⟩) q2;rw[D,dead];exact Mc.ret ⟨rfl,rfl,rfl⟩;rename_i x o;refine y o rfl (λL C D=>⟨L,look L (G2 o),by rw[C];simp[LS.st],?_⟩) q2;rw[D,dead];exact Mc.exit ⟨rfl,rfl,rfl⟩;cases q2;cases q;cases q
theorem ACD{hs:List Hint}(h:mR d J=some C): ∀t∈C.tmps,t∈Qw hs d++Qw hs J:=by obtain⟨o,v,l,q,w,n,r,x,s,y,u,z,rfl,rfl,f,g,i,j,k,_⟩:=mS h;obtain⟨_,_,_,_,_,_,l1⟩:=pS f;obtain⟨_,_,_,_,_,_,l2⟩:=pT g;obtain⟨_,_,_,_,_,_,_,_,_,_,_,_,c⟩:=pU i;obtain⟨_,_,_,_,_,_,_,_,_,_,_,_,_,_,_,a⟩:=pV j;obtain⟨_,_,_,_,_,_,_,e⟩:=pW k;intro t b;simp only[Qw,l1,l2,c,a,e,mU,An];simp only[Xa.tmps]at b;grind
theorem AE0(B: ∀v∈c,v.Ok P)(z:Wm P k)(x:FuncId)(d:List Hint): ∀v:Code,Ps P N (Qw d v) v (lk P c k N x d v)/\ ∀m r,v= .seq m r->Ps P N (Qw d r) r (lk P c k N x d r):=by
 intro v;induction v with
 |skip=>exact⟨λenv H g r ok n=>⟨.normal,env,H,EH (λ_ e=>by cases e) (Mc.skip ⟨rfl,rfl,rfl⟩),n,ok,FO.refl _ _ _⟩,λ_ _ e=>by cases e⟩
 |ret=>exact⟨λenv H g r ok n=>⟨.ret,env,H,EH (λ_ e=>by cases e) (Mc.ret ⟨rfl,rfl,rfl⟩),n,ok,FO.refl _ _ _⟩,λ_ _ e=>by cases e⟩
 |exit id=>exact⟨λenv H g r ok n=>⟨.exit id,env,H,EH (λ_ e=>by cases e) (Mc.exit ⟨rfl,rfl,rfl⟩),n,ok,FO.refl _ _ _⟩,λ_ _ e=>by cases e⟩
 |seq a b D s=>
  refine⟨?_,λm r e=>by injection e with K L;subst K L;exact s.1⟩;have G:Ps P N (Qw d a++Qw d b) (.seq a b) (λenv H g=>lk P c k N x d a env H λe j u=>match e with| .normal=>lk P c k N x d b j u g|e=>g e j u):=by
   intro R env H g r ok n;obtain⟨e,env1,O,a1,k1,w,S⟩:=D.1 env H _ r ok n;cases e with
   |normal=>obtain⟨L,env2,y,a2,W,F,s2⟩:=s.1 env1 O g r w k1;refine⟨L,env2,y,EH (λ_ e=>by cases e) (Mc.seq (a1.awp.mono ?_)),W,F,FO.trans ok.env S s2⟩;rintro _ _ _ ⟨rfl,rfl,rfl⟩;exact a2.awp
   |_=>refine⟨_,env1,O,EH (λ_ e=>by cases e) (Mc.seq (a1.awp.mono ?_)),k1,w,S.mono λt l=>An.2 (.inl l)⟩;rintro _ _ _ ⟨rfl,rfl,rfl⟩;exact⟨rfl,rfl,rfl⟩
  intro R env H g r ok n;by_cases hq: ∃m I,b= .seq m I;obtain⟨m,I,rfl⟩:=hq;simp only[lk]at n;split at n;rename_i p hp;obtain⟨env1,O,a1,k1,w,S⟩:=ACC B hp ok n;obtain⟨L,env2,y,a2,W,F,s2⟩:=s.2 m I rfl env1 O g r w k1;refine⟨L,env2,y,EH (λ_ e=>by cases e) (Mc.seq (a1.mono ?_)),W,F,(FO.trans ok.env S s2).mono λt l=>?_⟩;intro e E h hx;cases e with
  |normal=>exact Mc.seq (hx.mono (by rintro _ _ _ ⟨rfl,rfl,rfl⟩;exact a2.awp))
  |_=>exact hx.elim
  show t∈(Qw d a++((Qw d m++Qw d I)++si d m I))++si d a (.seq m I);rcases An.1 l with l|l;rcases An.1 (ACD (hs:=d) hp t l)with h|h<;>simp[h];simp[l];exact G.mono (λt l=>An.2 (.inl l)) env H g r ok n;have n:lk P c k N x d (.seq a b) env H g=some r:=n;rw[AE1 λm r e=>hq ⟨m,r,e⟩]at n;have T: ∀t,t∈si d a b->t∈Qw d (.seq a b):=λt l=>An.2 (.inr l);have hB: ∀t,t∈Qw d a++Qw d b->t∈Qw d (.seq a b):=λt l=>An.2 (.inl l);unfold si at T;generalize qJ d a b=o at n T;cases o with
  |none=>exact G.mono hB env H g r ok n
  |some h=>exact xF G hB T env H g r ok n
 |cond v a b D s=>have M:Ps P N (Qw d a++Qw d b) (.cond v a b) (zl v (lk P c k N x d a) (lk P c k N x d b)):=ACE D.1 s.1;refine⟨?_,λ_ _ e=>by cases e⟩;intro R;exact rk (hs:=d) (A:=Qw d (.cond v a b)) M (λt l=>An.2 (.inl l)) (λt l=>An.2 (.inr l))
 |block id b V=>have M:Ps P N (Qw d b) (.block id b) (yL id (lk P c k N x d b)):=AAe V.1;refine⟨?_,λ_ _ e=>by cases e⟩;intro R;exact rk (hs:=d) (A:=Qw d (.block id b)) M (λt l=>An.2 (.inl l)) (λt l=>An.2 (.inr l))
 |loop b V=>exact⟨ACi (hs:=d) (A:=Qw d (.loop b)) V.1 (λt l=>An.2 (.inl l)) (λt l=>An.2 (.inr l)),λ_ _ e=>by cases e⟩
 |region id q J=>
  refine⟨?_,λ_ _ e=>by cases e⟩;cases J with
  |false=>
   have M:Ps P N (mU q.toList) (.region id q false) (λenv H g=>match Oi N q.toList with
    |true=>xh P c k q (guards q) false q.toList 0 env H λj u=>g .normal j u
    |false=>none):=by
    intro R env H g r ok n;dsimp only at n;split at n;rename_i C;obtain⟨j,u,X,Y,Z,r4⟩:=ff (N:=N) B z _ _ _ _ _ _ ok n;refine⟨.normal,j,u,EH (λ_ e=>by cases e) (Fq C ?_),Y,Z,r4⟩;show WE P N q q.toList (CA env) (BL H) (λK y=>Exit.normal=Exit.normal/\K=CA j/\y=BL u);simpa using X;cases n
   intro R;exact rk (hs:=d) (A:=Qw d (.region id q false)) M (λt l=>An.2 (.inl l)) (λt l=>An.2 (.inr l))
  |true=>
   intro R env H g r ok n;simp only[lk]at n;split at n;rename_i C;simp only[BW]at C;obtain⟨j,u,X,Y,Z,r4⟩:=YT (N:=N) B z _ _ _ _ _ _ ok n;refine⟨.normal,j,u,EH (λ_ e=>by cases e) (iQ C.1.1.1 _ C.1.1.2 C.1.2 ?_ ?_),Y,Z,r4.mono λt l=>An.2 (.inl ?_)⟩;have:=ZN C.2;rw[CA,Mh];exact this;show RA P N q (y0 q) [] (CA env) (BL H) (λK y=>Exit.normal=Exit.normal/\K=CA j/\y=BL u);simpa using X;unfold tG at l;obtain⟨i,_,Q⟩:=OU.1 l;cases U:q[i]? with
   |none=>rw[U]at Q;cases Q
   |some o=>
    rw[U]at Q;refine OU.2 ⟨o,?_,Q⟩;have:q.toList[i]? =some o:=by simpa using U
    exact BN this
   cases n
 |rangeFunc f ps a b _ _=>exact⟨ABL z,λ_ _ e=>by cases e⟩
 |_=>exact⟨λenv H g r ok n=>(by simp only[lk]at n;cases n),λ_ _ e=>by cases e⟩
theorem om(f: ∀b∈c,b.Ok P)(e:Wm P k)(g:FuncId)(d:List Hint)(b:Code):Ps P N (Qw d b) b (lk P c k N g d b):=by grind[AE0]
end Go.Ab
namespace Go.Ab
def bo:Nat->List TV->Bf
 |_,[]=>[]
 |i,v::r=>(i,v)::bo (i+1) r
def lY(P:Program)(env:Bf)(H:Aq):List ResultVar->Option (List TV)
 |[]=>some []
 | .tmp t::r=>match lY P env H r with|some vs=>some (env.get t::vs)|none=>none
 | .cell a t::r=>match lY P env H r with|some vs=>loadT P H t (env.get a) λv=>some (v::vs)|none=>none
def xD:Exit->Bool
 | .normal=>true
 | .ret=>true
 |_=>false
variable {N n z:Nat}{R y:Type}{b B:Aq}{c:List S5}{F:FuncId}{f L S:Bf}{P:Program}{g:List AZ}{i:AZ}{j:Bool}{p:Ty}{q:Int}{t:List TV}{v:World}{x:Exit}{I:IntKind}{K:Value}{M:Func}
def AG6(P:Program)(fn:Func)(k:TV->Aq->Option R):Exit->Bf->Aq->Option R:=λe env H=>
 match xD e with
 |true=>match lY P env H fn.results.toList with|some vs=>k (one vs) H|none=>none
 |false=>none
def xj:Bf->List Tmp->List TV->Bf
 |env,t::ts,v::vs=>xj (env.put t v) ts vs
 |env,_,_=>env
def ADI(id:Nat)(k:TV->Aq->Option R):Exit->Bf->Aq->Option R:=λe _ H=>
 match H[id]? with
 |some (.lp false F n env ps a b _)=>
  match e with
  | .normal=>k (.c (.bl true)) (H.set id (.lp false F n env ps a b .ready))
  | .ret=>k (.c (.bl false)) (H.set id (.lp false F n env ps a b .ret))
  | .exit x=>k (.c (.bl false)) (H.set id (.lp false F n env ps a b (.exit x)))
  |_=>none
 |_=>none
noncomputable def zJ(P:Program)(cs:List S5)(call:S3)(hs:FuncId->List Hint)(id:Nat)(vs:List TV)(H:Aq){R:Type}(k:TV->Aq->Option R):Option R:=
 match H[id]? with
 |some (.lp false F n env ps a b .ready)=>
  match Nat.beq vs.length ps.size&&ps.toList.all λt=>Nat.blt t n with
  |true=>lk P cs call n F (hs F) a (xj env ps.toList vs) H λe env1 H1=>
   match e with
   | .normal=>
    match H1[id]? with
    |some (.lp false F1 n1 e1 ps1 a1 b1 .ready)=>lk P cs call n F (hs F) b env1 (H1.set id (.lp false F1 n1 e1 ps1 a1 b1 .busy)) (ADI id k)
    |_=>none
   |_=>none
  |false=>none
 |_=>none
noncomputable def o6(P:Program)(cs:List S5)(hs:FuncId->List Hint):Nat->S3
 |0=>λ_ _ _ _=>none
 |n+1=>λtg vs H k=>
  match tg with
  | .fn F=>
   match P.funcs[F]? with
   |some fn=>
    match fn.body with
    |some c=>match Nat.ble vs.length fn.ntmps with|true=>lk P cs (o6 P cs hs n) fn.ntmps F (hs F) c (bo 0 vs) H (AG6 P fn k)|false=>none
    |none=>none
   |none=>none
  | .yd id=>zJ P cs (o6 P cs hs n) hs id vs H k
def rj(bt:Ty):(rs:List Ty)->DL rs->bt.D->DL (rs++[bt])
 |[],_,b=>b
 |[_],y,b=>(y,b)
 |_::u::r,y,b=>(y.1,rj bt (u::r) y.2 b)
def oh(vs:List TV):List Nat:=vs.flatMap λv=>Kv v.refs
def AG3(P:Program)(fn:Func)(rs:List Ty):Exit->Bf->Aq->Option (DL rs):=λe env H=>
 match xD e with
 |true=>
  match lY P env H fn.results.toList with
  |some vs0=>match IG (oh vs0) env H with|(ef,hf)=>match lY P ef hf fn.results.toList with|some vs=>inp rs vs|none=>none
  |none=>none
 |false=>none
def AG4(P:Program)(fn:Func)(bt:Ty)(rs:List Ty):Exit->Bf->Aq->Option (DL (rs++[bt])):=λe env H=>
 match xD e with
 |true=>
  match lY P env H fn.results.toList with
  |some vs0=>
   match IG (oh vs0++(match (H[0]? :Option D0)with|some (.live _ cs)=>Kv cs|_=>[])) env H with
   |(ef,hf)=>
    match lY P ef hf fn.results.toList,(hf[0]? :Option D0)with
    |some vs,some (.live _ cs)=>match inp rs vs,bt.all cs with|some y,some b=>some (rj bt rs y b)|_,_=>none
    |_,_=>none
  |none=>none
 |false=>none
def re:Nat->TV->List TV->List TV
 |0,v,l=>v::l
 |n+1,v,x::l=>x::re n v l
 |_+1,v,[]=>[v]
noncomputable def ze(P:Program)(cs:List S5)(hs:FuncId->List Hint)(n:Nat)(F:FuncId)(ds rs:List Ty)(x:DL ds):Option (DL rs):=
 match P.funcs[F]? with
 |some fn=>
  match fn.body with
  |some c=>match Nat.ble (wF ds x).length fn.ntmps with|true=>lk P cs (o6 P cs hs n) fn.ntmps F (hs F) c (bo 0 (wF ds x)) [] (AG3 P fn rs)|false=>none
  |none=>none
 |none=>none
noncomputable def AB4(P:Program)(cs:List S5)(hs:FuncId->List Hint)(n:Nat)(F:FuncId)(pos:Nat)(bt:Ty)(ds rs:List Ty)(b:bt.D)(x:DL ds):Option (DL (rs++[bt])):=
 match P.funcs[F]? with
 |some fn=>
  match fn.body with
  |some c=>
   match Nat.ble (re pos (.c (.raw (.ptr 0 0 0))) (wF ds x)).length fn.ntmps with
   |true=>lk P cs (o6 P cs hs n) fn.ntmps F (hs F) c (bo 0 (re pos (.c (.raw (.ptr 0 0 0))) (wF ds x))) [.live false (bt.lvs b)] (AG4 P fn bt rs)
   |false=>none
  |none=>none
 |none=>none
theorem bp: ∀(l:List TV) (i:Nat),CA (bo i l)=env0 i (l.map TV.enc)
 |[],_=>rfl
 |v::r,i=>by have:=bp r (i+1);grind[CA,bo,env0]
def iO{H:Aq}: ∀{l:List TV} {i:Nat},(∀v∈l,v.ok H)-> ∀p∈bo i l,p.2.ok H
 |[],_,_,p,a=>by cases a
 |v::r,i,h,p,a=>by simp only[bo]at a;rcases Au.1 a with rfl|a;exact h v q!;exact iO (λw b=>h w (by simp[b])) p a
theorem jn{P:Program}{env:Bf}{H:Aq}(d: ∀p∈env,p.2.ok H)(c: ∀e∈H,e.ok H): ∀{l:List ResultVar} {b:List TV},lY P env H l=some b->Sg P (CA env) (BL H) l=some (b.map TV.enc)/\ ∀v∈b,v.ok H
 |[],b,h=>by simp only[lY,Am]at h;subst h;exact⟨rfl,λv g=>by cases g⟩
 | .tmp t::r,b,h=>by simp only[lY]at h;split at h;rename_i i f;obtain⟨q1,q2⟩:=jn d c f;grind[Sg,lZ,UH,oL];cases h
 | .cell a t::r,b,h=>by simp only[lY]at h;split at h;rename_i i f;obtain⟨q1,q2⟩:=jn d c f;obtain⟨u,j,k,m⟩:=pP c (oL d a) h;grind[Sg,lZ,UH];cases h
def sW(d: ∀p∈f,p.2.ok b)(c: ∀e∈b,e.ok b)(h:lY P f b M.results.toList=some t):gB P M (CA f) (BL b)=some (oY (t.map TV.enc)):=by
 unfold gB;rw[(jn d c h).1];cases t with
 |nil=>rfl
 |cons v r=>
  cases r with
  |nil=>rfl
  |cons u r=>rfl
def um: ∀(a:List Tmp) (b:List TV) (env:Bf),Q9 (CA env) a (b.map TV.enc)=CA (xj env a b)
 |[],_,_=>rfl
 |_::_,[],_=>rfl
 |t::a,v::b,env=>by simp only[Bi,Q9,xj];rw[<-mV];exact um a b (env.put t v)
def xl{H:Aq}: ∀(b:List Tmp) (a:List TV) (env:Bf),(∀p∈env,p.2.ok H)->(∀v∈a,v.ok H)-> ∀p∈xj env b a,p.2.ok H
 |[],_,_,h,_=>h
 |_::_,[],_,h,_=>h
 |t::b,v::a,env,h,hv=>xl b a (env.put t v) (fe (d:=some t) h (hv v q!)) λu c=>hv u (by simp[c])
def AFR{c:Bool}{F n env ps a H}{s e:LS}(h:(D0.lp j F n env ps a H s).ok b):(D0.lp c F n env ps a H e).ok B:=h
theorem AAF{F n env ps a H}{s s':LS}(h:b[N]? =some (.lp false F n env ps a H s)):CR b (b.set N (.lp false F n env ps a H s')):=CR.set h rfl (λ_ _ _ _ _ h=>by cases h) λ_ _ _ _ _ _ _ _ e=>k!
def yk{F n env ps a H}{s:LS}(h:b[N]? =some (.lp j F n env ps a H s)):(BL b)[N]? =some (.lp ⟨n,CA env,ps,a,H,s.st,s.pend⟩):=by rw[FU,h];rfl
theorem ABQ{P:Program}{cs:List S5}(K: ∀c∈cs,c.Ok P){hs:FuncId→List Hint}{g:S3}(J:Wm P g){R:Type}{id:Nat}{S:List TV}{H:Aq}{k:TV→Aq→Option R}{r:R}(hv: ∀v∈S,v.ok H)(hH: ∀e∈H,e.ok H)
  (h:zJ P cs g hs id S H k=some r): ∃v d,za P (S.map TV.enc) (BL H) v.enc (BL d) (.yd id)/\k v d=some r/\v.ok d/\(∀e∈d,e.ok d)/\CR H d:=by
 unfold zJ at h;split at h;rename_i F n env ps a b he;split at h;rename_i hb;simp only[BW]at hb;have M: ∀p∈env,p.2.ok H:=λp hp x hx=>by
  have:=(hH _ (BN he)) p hp;cases x with
  |own i v t m=>grind
  |_=>trivial
 obtain⟨e,env1,T,a1,k1,w,s1⟩:=om (N:=n) K J F (hs F) a _ H _ r ⟨xl ps.toList S env M hv,hH⟩ h;split at k1;split at k1;rename_i F1 n1 Y z U V s;have B:CR T _:=AAF (s':=.busy) s;obtain⟨x,env2,D,a2,j,O,s2⟩:=om (N:=n) K J F (hs F) b _ _ _ r ⟨B.env w.env,Ug B w.heap (AFR (w.heap _ (BN s)))⟩ k1;unfold ADI at j;split at j;rename_i F2 n2 Z A W X s0 u
 have l: ∀(v:Bool) (C:LS),k (.c (.bl v)) (D.set id (.lp false F2 n2 Z A W X C))=some r→(∀L:kI,(BL D)[id]? =some (.lp L)→L=⟨n2,CA Z,A,W,X,s0.st,s0.pend⟩→ADJ id (C8 (.bool v) (BL (D.set id (.lp false F2 n2 Z A W X C)))) x (CA env2) (BL D))→
   ∃v d,za P (S.map TV.enc) (BL H) v.enc (BL d) (.yd id)/\k v d=some r/\v.ok d/\(∀e∈d,e.ok d)/\CR H d:=by
  intro v C hk hq;have Q:CR D _:=AAF (s':=C) u;refine⟨.c (.bl v),_,?_,hk,Js trivial,Ug Q O.heap (AFR (O.heap _ (BN u))),((s1.step.trans B).trans s2.step).trans Q⟩;intro N o c f env0 ho I hf q;apply JE.yield ho I hf (yk he);grind[List.length,List.length_map,Array.length_toList,Nat.eq_of_beq_eq_true];simp_all;show Mc P n a (Q9 (CA env) ps.toList (c.args.toList.map (BM env0))) (BL H) _;rw[q,um];apply a1.awp.mono;rintro _ _ _ ⟨rfl,rfl,rfl⟩;refine⟨rfl,_,yk s,rfl,?_⟩;have e3:(BL T).set id (.lp ⟨n1,CA Y,z,U,V,.busy,LS.pend .ready⟩)=BL (T.set id (.lp false F1 n1 Y z U V .busy)):=by rw[Nd];rfl
  show Mc P n b (CA env1) ((BL T).set id (.lp ⟨n1,CA Y,z,U,V,.busy,LS.pend .ready⟩)) _;rw[e3];apply a2.awp.mono;rintro _ _ _ ⟨rfl,rfl,rfl⟩;exact hq _ (yk u) rfl
 split at j;refine l true .ready j λL G E=>⟨L,G,rfl,?_⟩
 subst E;rw[Nd];rfl;refine l false .ret j λL G E=>⟨L,G,rfl,?_⟩
 subst E;rw[Nd];rfl;rename_i y;refine l false (.exit y) j λL G E=>⟨L,G,rfl,?_⟩
 subst E;rw[Nd];rfl;cases j;cases j;cases k1;cases k1;cases h;cases h
theorem iI{P:Program}{j:List S5}(b: ∀c∈j,c.Ok P){m:FuncId->List Hint}: ∀n,Wm P (o6 P j m n)
 |0=>by grind[o6]
 |n+1=>by
  intro z A H k r p l h;cases z with
  |yd id=>exact ABQ b (iI b n) p l h
  |fn F=>
  simp only[o6]at h;split at h;rename_i fn y;split at h;rename_i c w;split at h;rename_i hn;obtain⟨e,d,f,a1,k1,a,q⟩:=om (N:=fn.ntmps) b (iI b n) F (m F) c (bo 0 A) H _ r ⟨iO p,l⟩ h;unfold AG6 at k1;split at k1;rename_i x;split at k1;rename_i s o;refine⟨one s,f,Ju y w t! ?_,k1,vf (jn a.env a.heap o).2,a.heap,q.step⟩;rw[<-bp];apply a1.awp.mono;rintro _ _ _ ⟨rfl,rfl,rfl⟩;have g: ∃v t i,gB P fn (CA d) (BL f)=some v/\OO (BL H).length v (BL f) t i/\C8 (one s).enc (BL f) t i:=⟨_,_,_,sW a.env a.heap o,OO.refl _ _ (by rw[Cc,Cc];exact q.step.len),by rw[qF],rfl⟩
  rename_i u;cases u<;>first|exact g|cases x
  cases k1;cases k1;cases h;cases h;cases h
def Dg.tup{b a:List AZ}(h:Dg b a):Wn (.tup b) (.tup a):=by
 intro x c r;cases r with
 |tup g hr=>refine .tup (by rw[g,h.1]) λj i d f e=>?_;obtain⟨v,q1,q2⟩:=h.2 j i f;exact q2 _ _ (hr j v d q1 e)
def WI{b:List AZ}(h:Dg g b):Wn (oY g) (oY b):=by
 match g,b,h with
 |[],[],h=>exact Wn.refl _
 |[v],[w],h=>obtain⟨u,q1,q2⟩:=h.2 0 w rfl;simp at q1;subst q1;exact q2
 |v::u::r,w::x::s,h=>exact Dg.tup h
def PA: ∀(a:List Ty) (x:DL a),∀v∈kv a x,Pure v
 |[],_,v,h=>by cases h
 |[t],x,v,h=>by simp only[kv,BC]at h;subst h;exact t.enc_pure x
 |t::u::r,x,v,h=>by simp only[kv]at h;rcases Au.1 h with rfl|h;exact t.enc_pure x.1;exact PA (u::r) x.2 v h
def XW(h: ∀v∈g,Pure v):Pure (oY g):=by
 match g,h with
 |[],_=>rfl
 |[v],h=>exact h v q!
 |v::u::r,h=>exact(Dm _ _).2 h
theorem sY{a H2:Aq}(j:H2.length<=a.length)(hr:HR a H2 [])(v:j9 H2.length H2=true){d:AZ}(l:Wn i d)(k:Pure d):OO H2.length i (BL a) d (BL H2):=by
 refine⟨by rw[Cc];exact Ao _,λX h w c s r=>?_⟩;have q:=(HR.rel j hr (cx X h (BL a) w)).onto;have n:=s.rel q;have m:=(l _ c r).later q.later;have e:(BL H2++(BL a).drop H2.length).take H2.length=BL H2:=by grind[Cc]
 have b:H2.length<=(BL H2++(BL a).drop H2.length).length:=by simp[BL]
 have g:=n.trunc b (by rw[e];exact jZ v);have f:=m.trunc b (iv k _);rw[e]at g f;exact⟨h,g,f,λ_ _=>⟨rfl,rfl,rfl⟩,λB o=>q.own B (fa (n0:=H2.length) k!)⟩
def o8{n:Nat}: ∀{a b:List Bu},Zy n a=true->Zy n b=true->Zy n (a++b)=true
 |[],_,_,hb=>hb
 |x::r,b,ha,hb=>by obtain⟨c,e⟩:=tn ha;have d:=o8 e hb;cases x<;>simp only[Dr,Zy,BW,Qs]at c⊢ <;>first|exact d|exact⟨c,d⟩
mutual
theorem Ty.lvs_clo{n:Nat}: ∀(t:Ty) (x:t.D),Zy n (t.lvs x)=true
 | .bool,_=>rfl
 | .int _,_=>rfl
 | .str,_=>rfl
 | .list _,_=>rfl
 | .arr _ _,_=>rfl
 | .prod ts,x=>ts.lvs_clo x
theorem Rl.lvs_clo{n:Nat}: ∀(a:Rl) (x:a.D),Zy n (a.lvs x)=true
 | .one t,x=>t.lvs_clo x
 | .cons t a,x=>o8 (t.lvs_clo x.1) (a.lvs_clo x.2)
end
def od(h: ∀v∈g,Pure v)(a:Nat->Nat):AZ.renL a g=g:=by
 rw[OE];conv=>rhs;rw[<-dJ g]
 exact Mg λv b=>(h v b).ren a
def rZ{ρ:Nat->Nat}: ∀{n:Nat} {v:AZ} {l:List AZ},(∀v∈l,Pure v)->AZ.renL ρ (VL n v l)=VL n (v.ren ρ) l
 |0,v,l,h=>by simp only[VL,AZ.renL,od h]
 |n+1,v,[],h=>rfl
 |n+1,v,x::l,h=>by have b:=rZ (ρ:=ρ) (n:=n) (v:=v) (l:=l) λu a=>h u (CZ _ a);simp only[VL,AZ.renL,(h x Iq).ren,b]
def uK: ∀{n:Nat} {v u:AZ} {l:List AZ},u∈VL n v l->u=v\/u∈l
 |0,v,u,l,h=>by simpa[VL]using h
 |n+1,v,u,[],h=>by simpa[VL]using h
 |n+1,v,u,x::l,h=>by simp only[VL]at h;rcases Au.1 h with rfl|h;exact .inr q!;rcases uK h with h|h;exact .inl h;exact .inr (by simp[h])
def xB: ∀{n:Nat} {v:TV} {l:List TV},(re n v l).map TV.enc=VL n v.enc (l.map TV.enc)
 |0,_,_=>rfl
 |n+1,_,[]=>rfl
 |n+1,v,x::l=>by simp only[re,Bi,VL,xB]
def xC: ∀{n:Nat} {v u:TV} {l:List TV},u∈re n v l->u=v\/u∈l
 |0,v,u,l,h=>by simpa[re]using h
 |n+1,v,u,[],h=>by simpa[re]using h
 |n+1,v,u,x::l,h=>by simp only[re]at h;rcases Au.1 h with rfl|h;exact .inr q!;rcases xC h with h|h;exact .inl h;exact .inr (by simp[h])
theorem o7{x:p.D}: ∀v∈(p.enc x).cells,Pure v:=by
 intro v a;have h:=p.enc_pure x;cases b:p.enc x with
 |agg c=>rw[b]at a h;exact((Dm _ _).1 h) v a
 |_=>grind[AZ.cells]
def fi(a:Ty): ∀(c:List Ty) (y:DL c) (b:a.D),Kx a c (rj a c y b)=(y,b)
 |[],_,_=>rfl
 |[_],_,_=>rfl
 |_::u::r,y,b=>by simp only[rj,Kx,fi a (u::r) y.2 b]
variable {P:Program} {cs:List S5} {hs:FuncId->List Hint} {n:Nat} {F:FuncId} {ds rs:List Ty}
def AF7{c:A0}(k:xD x=true)(ok:QH f b)(hr:lY P f b M.results.toList=some t)(h:OO N (oY (t.map TV.enc)) (BL b) i c):
  AHq P M N (C8 i c) x (CA f) (BL b):=by
 have d: ∃v e a,gB P M (CA f) (BL b)=some v/\OO N v (BL b) e a/\C8 i c e a:=⟨_,_,_,sW ok.env ok.heap hr,h,rfl,rfl⟩
 cases x<;>first|exact d|cases k
def zm{g:DL ds->Option (DL rs)}(d: ∀c∈cs,c.Ok P)(t: ∀x,g x=ze P cs hs n F ds rs x):(S5.c0 F ds rs g).Ok P:=by
 intro x y a H;rw[t]at a;have key:EW P F (kv ds x) [] (C8 (oY (kv rs y)) []):=by unfold ze at a;split at a;rename_i q s;split at a;rename_i c r;split at a;rename_i hn;obtain⟨e,o,z,a1,k1,l,B⟩:=om (N:=q.ntmps) d (iI d n) F (hs F) c (bo 0 (wF ds x)) [] _ y ⟨iO (lh ds x),λe i=>by cases i⟩ a;unfold AG3 at k1;split at k1;rename_i i;split at k1;rename_i m u;obtain⟨f,w,p⟩:=Q3 (oh m) l;simp only at k1 f w p;split at k1;rename_i C k;apply Ju s r (by rw[<-ZQ,B7];exact OX hn);rw[<-ZQ,<-bp];refine Mc.after (a1.awp.mono ?_);rintro _ _ _ ⟨rfl,rfl,rfl⟩;exact⟨_,_,(p _).of_le (Bk _),AF7 i f k (sY (H2:=[]) (Bk _) (λj A _ h=>by cases h) rfl (WI (YP k1)) (XW (PA rs y)))⟩;cases k1;cases k1;cases k1;cases a;cases a;cases a
 exact EW.frame (H:=H) [] key QL rfl rfl (λj b e h=>by cases h) (λe h=>by cases h) (λe h=>by cases h) (XW (PA rs y)) (od (PA ds x) _) ((Dm _ _).2 λv k=>(PA ds x v k).all _)
theorem AEC{g:p.D->DL ds->Option (DL (rs++[p]))}(m: ∀c∈cs,c.Ok P)(T: ∀b x,g b x=AB4 P cs hs n F N p ds rs b x):(S5.c1 F N p ds rs g).Ok P:=by
 intro b x y f H id V;rw[T]at f;have key: ∃r i,y=rj p rs r i/\EW P F (VL N (.ptr 0 0 0) (kv ds x)) [.live 0 (p.enc b).cells] (C8 (oY (kv rs r)) [.live 0 (p.enc i).cells]):=by
  unfold AB4 at f;split at f;rename_i M S;split at f;rename_i c R;split at f;rename_i hn;have t:QH (bo 0 (re N (.c (.raw (.ptr 0 0 0))) (wF ds x))) [.live false (p.lvs b)]:=by refine⟨iO λv d=>?_,λe s=>?_⟩;rcases xC d with rfl|d;exact Js trivial;grind[lh];rw[BC.1 s];exact p.lvs_ok b
  obtain⟨e,l,G,a1,k1,u,E⟩:=om (N:=M.ntmps) m (iI m n) F (hs F) c _ _ _ y t f;unfold AG4 at k1;split at k1;rename_i s;split at k1;rename_i z W;generalize C:(oh z++_)=ids at k1;obtain⟨k,w,A⟩:=Q3 ids u;generalize IG ids l G=fz at k1 k w A;obtain⟨ef,U⟩:=fz;simp only at k1 k w A;split at k1;rename_i vs Y I d O;split at k1;rename_i r i hr q;injection k1 with k1;refine⟨r,i,k1.symm,?_⟩;have J:BL [.live false (p.lvs b)]=[.live 0 (p.enc b).cells]:=by simp only[BL,Bi,HF,D0.enc,p.lvs_enc]
  have K:BL [.live false (p.lvs i)]=[.live 0 (p.enc i).cells]:=by simp only[BL,Bi,HF,D0.enc,p.lvs_enc]
  have L:VL N (.ptr 0 0 0) (kv ds x)=(re N (.c (.raw (.ptr 0 0 0))) (wF ds x)).map TV.enc:=by rw[xB,ZQ];rfl
  rw[<-J,<-K,L];apply Ju S R (by rw[B7];exact OX hn);rw[<-bp];refine Mc.after (a1.awp.mono ?_);rintro _ _ _ ⟨rfl,rfl,rfl⟩;have o:1<=U.length:=Dc E.step.len w.step.len;refine⟨_,_,(A _).of_le (by rw[Cc,Cc];exact E.step.len),AF7 s k d ?_⟩;rw[Cc];refine sY (H2:=[.live false (p.lvs i)]) o (λj Z _ h=>?_) (by simp only[j9,p.lvs_clo,XK]) (WI (YP hr)) (XW (PA rs r));match j,h with
  |0,h=>simp only[jS,Am]at h;subst h;refine⟨_,O,.inr (.inl ⟨_,_,_,_,rfl,rfl,?_⟩)⟩;rw[p.lvs_enc];exact Fs q
  |j+1,h=>grind
  cases k1;cases k1;cases k1;cases k1;cases f;cases f;cases f
 obtain⟨r,i,rfl,key⟩:=key;rw[fi];have Q:AZ.renL (λj=>[id].getD j 0) (VL N (.ptr 0 0 0) (kv ds x))=VL N (.ptr id 0 0) (kv ds x):=by rw[rZ (PA ds x)];rfl
 exact EW.frame (H:=H) [id] key (Gl.2 ⟨q!,QL⟩) rfl rfl (λj X e a B=>by
   match j,a,B with
   |0,a,B=>grind[List.getElem?_cons_zero,Option.some.injEq]
   |j+1,a,_=>simp at a) (λe h=>by
   rw[BC.1 h];exact(Dm _ _).2 λv d=>o7 v d) (λe h=>by
   rw[BC.1 h];exact(Dm _ _).2 λv d=>o7 v d) (XW (PA rs r)) Q ((Dm _ _).2 λv d=>by
   rcases uK d with rfl|d;rfl;exact(PA ds x v d).all _)
end Go.Ab
namespace Go.Ab
def fW:List (Nat×List Hint)->FuncId->List Hint
 |[],_=>[]
 |(k,h)::r,F=>match Nat.beq k F with|true=>h|false=>fW r F
theorem CK{P:Program}: ∀c∈([]:List S5),c.Ok P:=k!
variable {N n z:Nat}{R y:Type}{c:List S5}{F:FuncId}{P:Program}{g:List AZ}{i:AZ}{j:Bool}{p:Ty}{q:Int}{v:World}{I:IntKind}{K:Value}
theorem A8{P:Program}{a:S5}(h:a.Ok P)(b: ∀a∈c,a.Ok P): ∀d∈a::c,d.Ok P:=k!
def wi(a:Int):Int:=IntKind.wrap .i64 a
abbrev len{α:Type}(l:List α):Int:=(l.length:Int)
def mZ{A B:Type}(f:(A->Option B)->A->Option B):Nat->A->Option B
 |0,_=>none
 |n+1,x=>f (mZ f n) x
noncomputable def rL{A B:Type}(f:(A->Option B)->A->Option B)(x:A):Option B:=open Classical in if h: ∃r n,mZ f n x=some r then some h.choose else none
theorem jf{f:(R->Option y)->R->Option y}{x:R}{r:y}(h:rL f x=some r): ∃n,mZ f n x=some r:=by unfold rL at h;split at h<;>grind
theorem lM{f:(R->Option y)->R->Option y}{x:R}{r:y}{n:Nat}(h:mZ f n x=some r): ∃s,rL f x=some s:=by unfold rL;rw[dif_pos ⟨r,n,h⟩];grind
def AEE{P:Program}{hs:FuncId→List Hint}{n:Nat}{F:FuncId}{ds rs:List Ty}{f:(DL ds→Option (DL rs))→DL ds→Option (DL rs)}(b: ∀a∈c,a.Ok P)
  (e: ∀g x,f g x=ze P (.c0 F ds rs g::c) hs n F ds rs x):(S5.c0 F ds rs (rL f)).Ok P:=by
 have key: ∀m,(S5.c0 F ds rs (mZ f m)).Ok P:=by
  intro m;induction m with
  |zero=>intro x y d;cases d
  |succ m i=>exact zm (cs:=.c0 F ds rs (mZ f m)::c) (A8 i b) λx=>e (mZ f m) x
 intro x y d;obtain⟨m,h⟩:=jf d;exact key m x y h
def AG5(P:Program)(fn:Func)(te:Ty)(rs:List Ty):Exit->Bf->Aq->Option (DL (rs++[.list te])):=λe env H=>
 match xD e with
 |true=>
  match lY P env H fn.results.toList with
  |some vs0=>
   match IG ((oh vs0).filter λi=>!Nat.beq i 0) env H with
   |(ef,hf)=>
    match lY P ef hf fn.results.toList,(hf[0]? :Option D0)with
    |some vs,some (.buf _ t l _ _)=>if h:(Ty.list t).beq (Ty.list te)=true then(match inp rs vs with|some y=>some (rj (.list te) rs y (Ty.cast h l))|none=>none)else none
    |_,_=>none
  |none=>none
 |false=>none
def fnC:AZ->Bool
 | .fn (.func _) [] []=>true
 |_=>false
def wR(te:Ty)(ds:List Ty)(post:List AZ)(l:List te.D)(x:DL ds):List TV:=.c (.own 0 0 te l.length)::(wF ds x++post.map λv=>.c (.raw v))
noncomputable def AB5(P:Program)(cs:List S5)(hs:FuncId->List Hint)(n:Nat)(F:FuncId)(te:Ty)(ds rs:List Ty)(post:List AZ)(l:List te.D)(x:DL ds):Option (DL (rs++[.list te])):=
 match P.funcs[F]? with
 |some fn=>
  match fn.body with
  |some c=>
   match Nat.ble (wR te ds post l x).length fn.ntmps&&post.all fnC with
   |true=>lk P cs (o6 P cs hs n) fn.ntmps F (hs F) c (bo 0 (wR te ds post l x)) [.buf false te l l.length 0] (AG5 P fn te rs)
   |false=>none
  |none=>none
 |none=>none
theorem AGA(h:fnC i=true): ∃F,i= .fn (.func F) [] []:=by unfold fnC at h;grind
def ACR(h:fnC i=true):Pure i:=by obtain⟨F,rfl⟩:=AGA h;rfl
variable {P:Program} {cs:List S5} {hs:FuncId->List Hint} {n:Nat} {F:FuncId} {ds rs:List Ty} {te:Ty} {post:List AZ}
def AAd(l:List te.D)(x:DL ds):(wR te ds post l x).map TV.enc= .sl 0 l.length te.sz 0 l.length::(kv ds x++post):=by
 have e:(post.map λv=>TV.c (.raw v)).map TV.enc=post:=by
  rw[Mh];conv=>rhs;rw[<-dJ post]
  exact Mg λv _=>rfl
 simp only[wR,Bi,Jm,ZQ,e];rfl
theorem Qz{g:List te.D->DL ds->Option (DL (rs++[.list te]))}(t: ∀c∈cs,c.Ok P)(hg: ∀l x,g l x=AB5 P cs hs n F te ds rs post l x):(S5.c2 F te ds rs post g).Ok P:=by
 intro l x y k d H id C;rw[hg]at k;have key: ∃r m,y=rj (.list te) rs r m/\(∀v∈post,Pure v)/\EW P F (.sl 0 l.length te.sz 0 l.length::(kv ds x++post)) [.live l.length (te.E.cl l)] (C8 (oY (kv rs r)) [.live m.length (te.E.cl m)]):=by
  unfold AB5 at k;split at k;rename_i fn hf;split at k;rename_i c hb;split at k;rename_i hn;simp only[BW]at hn;have b: ∀v∈post,Pure v:=λv a=>ACR (GB.1 hn.2 v a);have w:([D0.buf false te l l.length 0]:Aq)[0]? =some (.buf false te l l.length 0):=rfl;have K:QH (bo 0 (wR te ds post l x)) [.buf false te l l.length 0]:=by refine⟨iO λv a=>?_,λe B=>?_⟩;rcases Au.1 a with rfl|a;exact Js (XX w);rcases An.1 a with a|a;grind[lh];obtain⟨u,_,rfl⟩:=Bv.1 a;exact Js trivial;rw[BC.1 B];exact rfl
  obtain⟨e,s,W,a1,k1,L,U⟩:=om (N:=fn.ntmps) t (iI t n) F (hs F) c _ _ _ y K k;unfold AG5 at k1;split at k1;rename_i B;split at k1;rename_i O ad;generalize T:((oh O).filter _)=ids at k1;obtain⟨o,M,Q⟩:=Q3 ids L;generalize IG ids s W=fz at k1 o M Q;obtain⟨ef,hh⟩:=fz;simp only at k1 o M Q;split at k1;rename_i vs X q l1 J V a R;split at k1;rename_i z;split at k1;rename_i r hr;injection k1 with k1;have i:=Ty.beq_eq _ _ z;injection i with i;subst i;have p:(Ty.cast z l1:List q.D)=l1:=rfl;rw[p]at k1;have I:J=l1.length:=o.heap _ (BN R);refine⟨r,l1,k1.symm,b,?_⟩;have Y:BL [.buf false q l l.length 0]=[.live l.length (q.E.cl l)]:=rfl;have Z:BL [.buf false q l1 J V]=[.live l1.length (q.E.cl l1)]:=by rw[<-I];rfl
  rw[<-Y,<-Z,<-AAd];apply Ju hf hb (by rw[B7];exact OX hn.1);rw[<-bp];refine Mc.after (a1.awp.mono ?_);rintro _ _ _ ⟨rfl,rfl,rfl⟩;have G:1<=hh.length:=Dc U.step.len M.step.len;refine⟨_,_,(Q _).of_le (by rw[Cc,Cc];exact U.step.len),AF7 B o a ?_⟩;rw[Cc];refine sY (H2:=[.buf false q l1 J V]) G (λj e' _ h=>?_) rfl (WI (YP hr)) (XW (PA rs r));match j,h with
  |0,h=>simp only[jS,Am]at h;subst h;exact⟨_,R,.inr (.inr (.inl ⟨_,_,_,_,_,_,_,rfl,rfl⟩))⟩
  |j+1,h=>simp at h
  cases k1;cases k1;cases k1;cases k1;cases k1;cases k;cases k;cases k
 obtain⟨r,m,rfl,b,key⟩:=key;rw[fi]at d⊢;simp only at d⊢;rw[<-d];rw[<-d]at C key;have f: ∀v∈kv ds x++post,Pure v:=λv a=>(An.1 a).elim (PA ds x v) (b v);have ha:AZ.renL (λj=>[id].getD j 0) (.sl 0 m.length te.sz 0 m.length::(kv ds x++post))= .sl id m.length te.sz 0 m.length::(kv ds x++post):=by simp only[AZ.renL,od f];rfl
 exact EW.frame (H:=H) [id] key (Gl.2 ⟨q!,QL⟩) rfl rfl (λj X e A S=>by
   match j,A,S with
   |0,A,S=>grind[List.getElem?_cons_zero,Option.some.injEq]
   |j+1,A,_=>simp at A) (λe h=>by
   rw[BC.1 h];exact(Dm _ _).2 (vE te l)) (λe h=>by
   rw[BC.1 h];exact(Dm _ _).2 (vE te m)) (XW (PA rs r)) ha ((Dm _ _).2 λv a=>by
   rcases Au.1 a with rfl|a;rfl;exact(f v a).all _)
def rC{f:(List te.D×DL ds→Option (DL (rs++[.list te])))→List te.D×DL ds→Option (DL (rs++[.list te]))}(a: ∀c∈cs,c.Ok P)
  (d: ∀g l x,f g (l,x)=AB5 P (.c2 F te ds rs post (λl x=>g (l,x))::cs) hs n F te ds rs post l x):(S5.c2 F te ds rs post λl x=>rL f (l,x)).Ok P:=by
 have key: ∀m,(S5.c2 F te ds rs post λl x=>mZ f m (l,x)).Ok P:=by
  intro m;induction m with
  |zero=>intro l x y b;cases b
  |succ m h=>exact Qz (cs:=.c2 F te ds rs post (λl x=>mZ f m (l,x))::cs) (A8 h a) λl x=>d (mZ f m) l x
 intro l x y b;obtain⟨m,e⟩:=jf b;exact key m l x y e
end Go.Ab
namespace Go.Ab
def clW(fn:Func):Nat->String:=λi=>
 match fn.body with
 |some (.seq (.region _ a _) (.seq (.seq (.region _ b _) (.cond _ (.seq (.region _ c _) _) _)) (.seq (.region _ d _) _)))=>(((a++b++c++d)[i]?).map (·.pos)).getD default
 |_=>default
def AAl(t b:TypeId)(w:Nat->String):Code:=
 .seq (.region 0 #[⟨some 2,.assign (.const (.slice none 0 0)),t,w 0, #[],none⟩] false)
  (.seq (.seq (.region 1 #[⟨some 3,.move (.tmp 0),t,w 1, #[],none⟩,⟨some 4,.binOp .eql t (.tmp 3) (.const (.slice none 0 0)) t,b,w 2, #[⟨0,.data⟩],none⟩] false)
    (.cond (.tmp 4) (.seq (.region 2 #[⟨some 2,.assign (.const (.slice none 0 0)),t,w 3, #[],none⟩] false) .ret) .skip))
   (.seq (.region 3 #[⟨some 5,.buildSlice t 0 #[],t,w 4, #[],none⟩,⟨some 6,.move (.tmp 0),t,w 5, #[],none⟩,
     ⟨some 7,.call {callee:=.builtin .append,args:= #[.tmp 5,.tmp 6],argTypes:= #[t,t]},t,w 6, #[⟨0,.data⟩,⟨1,.data⟩],none⟩,
     ⟨some 2,.assign (.tmp 7),t,w 7, #[⟨2,.data⟩,⟨2,.chain⟩,⟨0,.phase⟩,⟨1,.phase⟩,⟨2,.phase⟩],none⟩] false) .ret))
def OO.none{n0:Nat}{H:A0}{id g sz off:Nat}(hn:n0<=H.length)(b:id<H.length)(k:0<sz):OO n0 (.sl id g sz off 0) H (.vs sz []) (H.set id .dead):=by
 refine⟨by simpa using hn,λX h w c s r=>?_⟩;obtain⟨p,t⟩:=s.kill b;refine⟨h,p,?_,λ_ _=>⟨rfl,rfl,rfl⟩,λB o=>?_⟩;cases r with
 |sl l m n q=>obtain⟨a,cap,rfl⟩:=n;exact Br.vs (rows:=[]) (λ_ _=>undef) (Bk _) k (λj e h=>by simp at h) (λh=>(h rfl).elim) (λj e i v h=>by simp at h)
 obtain⟨i,e,l,d,m⟩:=o;rcases JD b l with⟨_,f⟩|⟨rfl,rfl⟩;exact⟨i,e,f,d,m⟩;exact(d rfl).elim
variable {N n z:Nat}{R y:Type}{c:List S5}{F:FuncId}{P:Program}{g:List AZ}{j:Bool}{p:Ty}{q:Int}{v:World}{I:IntKind}{K:Value}
theorem AB9{P:Program}{F:FuncId}{t b:TypeId}{a:Ty}(p:(P.funcs[F]?).map (λy=>(y.body,y.ntmps,y.results))=some (some (AAl t b (((P.funcs[F]?).map clW).getD (λ_=>default))),8, #[.tmp 2]))(J:elT P t=some a)(k:fb 0 a #[] []=true):(S5.cl F a).Ok P:=by
 generalize ((P.funcs[F]?).map clW).getD (λ_=>default)=w at p;obtain⟨y,U,C⟩:=Sn.1 p;injection C with R C;injection C with hn hr;intro l H V;obtain⟨e,B,x⟩:=iM J;have K:=(QP B).1;have A: ∀env,SZ P env t 0 #[]=some (a.sz,[]):=by intro env;unfold SZ;simp only[B];refine if_pos ⟨a.sz_pos,x,rfl,rfl,Bk _,?_⟩;unfold fb at k;simp only[BW]at k;exact OX k.2
 have i: ∀Q:AZ→A0→Prop,(l=[]→Q (.vs a.sz []) (BL (H++[.dead])))→(∀r,l≠ []→app [] l=some r→Q (.sl H.length r.length a.sz 0 r.length) (BL (H++[.buf false a r r.length 0])))→
   (l=[]\/ ∃r,app [] l=some r)->EW P F [.vs a.sz (l.map a.enc)] (BL H) Q:=by
  intro Q M N f;refine Ju U R (by rw[hn];simp) ?_;rw[hn];refine Mc.seq (Fq rfl (WE.cons rfl (Dk (v:=.nils) rfl (WE.nil (Mc.seq (Mc.seq (Fq rfl (WE.cons rfl (Dk (v:=.vs a.sz (l.map a.enc)) rfl (WE.cons rfl (rM (sz:=a.sz) (rows:=l.map a.enc) rfl K rfl λL T=>WE.nil ?_)))))))))));have o:L=true->l=[]:=λh=>by by_cases j:l=[]<;>simp_all
  have d:(BL H++[Fl.live 0 []]).set (BL H).length Fl.dead=BL (H++[.dead]):=by simp_all[Sk,Ao,Gn,BL,D0.enc]
  refine Mc.cond (b:=L) rfl (λz=>?_) (λS=>?_);refine Mc.seq (Fq rfl (WE.cons rfl (Dk (v:=.nils) rfl (WE.nil (Mc.weak (GF.virt (t:=2) (sz:=a.sz) rfl) (Mc.ret (⟨.sl (BL H).length 0 a.sz 0 0,.vs a.sz [],(BL H++[Fl.live 0 []]).set (BL H).length Fl.dead,by simp[gB,hr,Sg,lZ,Env.putO,Env.put,Env.get],OO.none (by simp) (by simp) a.sz_pos,?_⟩)))))));rw[d];exact M (o z);refine Mc.skip (Mc.seq (Fq rfl (WE.cons rfl (TO (sz:=a.sz) (vs:=[]) rfl (A _) (WE.cons rfl (Dk (v:=.vs a.sz (l.map a.enc)) rfl (WE.cons rfl ?_)))))));have I:NV (BL H++[Fl.live 0 []]) a.sz (.vs a.sz (l.map a.enc))=some (l.length,a.E.cl l):=by simp only[NV,if_true,B7];rfl
  have s:0+l.length<=16777216:=by rcases f with rfl|⟨r,hr⟩;simp;obtain⟨N,_⟩:=lz hr;simpa using N
  refine Rg (sx:=.tmp 5) (xx:=.tmp 6) (H:=BL H++[Fl.live 0 []]) (id:=(BL H).length) (g:=0) (g':=l.length) (n:=0) (cs:=[]) (m:=l.length) (news:=a.E.cl l) rfl B a.sz_pos x rfl (by simp) (by simp) I s (by rcases VU l.length with q|q;exact .inr ⟨q,q⟩;exact .inl q) ?_;refine WE.cons rfl (Dk (v:=.sl (BL H).length l.length a.sz 0 (0+l.length)) rfl (WE.nil (Mc.ret ?_)));have O:(BL H++[Fl.live 0 []]).set (BL H).length (.live l.length ([]++a.E.cl l))=BL (H++[.buf false a l l.length 0]):=by simp_all[Sk,Ao,Gn,BL,D0.enc]
  by_cases j:l=[];subst j;refine⟨.sl (BL H).length 0 a.sz 0 0,.vs a.sz [],(BL H++[Fl.live 0 []]).set (BL H).length Fl.dead,by simp[gB,hr,Sg,lZ,Env.putO,Env.put,Env.get],?_,?_⟩;have:=OO.none (n0:=(BL H).length) (H:=BL H++[Fl.live 0 []]) (id:=(BL H).length) (g:=0) (off:=0) (by simp) (by simp) a.sz_pos;have e:(BL H++[Fl.live 0 []]).set (BL H).length (.live ([]:List a.D).length ([]++a.E.cl []))=BL H++[Fl.live 0 []]:=by rw[Sk _ _ (Ao _),Gn];rfl
  rw[e];exact this;rw[d];exact M rfl;rcases f with h|⟨r,c⟩;exact(j h).elim;obtain⟨_,G⟩:=lz c;have u:l=r:=by simpa using G.symm
  subst u;refine⟨.sl (BL H).length l.length a.sz 0 l.length,_,_,by simp[gB,hr,Sg,lZ,Env.putO,Env.put,Env.get],OO.refl _ _ (by simp),?_⟩;grind[Cc]
 refine⟨λj=>?_,λr j hr=>?_⟩;subst j;exact i _ (λ_=>⟨rfl,rfl⟩) (λr h=>(h rfl).elim) (.inl rfl);exact i _ (λh=>(j h).elim) (λW _ c=>by rw[hr]at c;injection c with c;subst c;exact⟨rfl,rfl⟩) (.inr ⟨r,hr⟩)
abbrev i64:Ty:=.int .i64
abbrev hn(k i:Nat)(s:List VN)(e:List (Exit×List VN)):Hint:=⟨k,i,[],[],[],[],s,e⟩
def k0{P:Program}{a d:List Ty}{g:DL a→Option (DL d)}(l:List (Nat×List Hint))(b: ∀e∈c,e.Ok P)
  (f:g=λx=>ze P c (fW l) 13 F a d x:=by kernel_rfl):(S5.c0 F a d g).Ok P:=zm b λx=>congrFun f x
def k1{P:Program}{a:Ty}{d f:List Ty}{g:a.D→DL d→Option (DL (f++[a]))}(l:List (Nat×List Hint))(e: ∀h∈c,h.Ok P)
  (i:g=λb x=>AB4 P c (fW l) 13 F N a d f b x:=by kernel_rfl):(S5.c1 F N a d f g).Ok P:=AEC e λb x=>congrFun (congrFun i b) x
noncomputable def xn{α:Type}(key:α->Int)(l:List α):Option (List α):=if(l.map key).Nodup/\l.length<=16777216 then some (l.mergeSort λa b=>decide (key a<=key b))else none
def sg{key:R->Int}{l m:List R}(hn:(l.map key).Nodup)(p:m.Perm l)(t:m.Pairwise λa b=>key a<=key b):m=l.mergeSort λa b=>decide (key a<=key b):=by
 have d:(l.mergeSort λa b=>decide (key a<=key b)).Perm l:=List.mergeSort_perm _ _;have o:(l.mergeSort λa b=>decide (key a<=key b)).Pairwise λa b=>key a<=key b:=by refine(List.pairwise_mergeSort (le:=λa b=>decide (key a<=key b)) ?_ ?_ l).imp λh=>of_decide_eq_true h;intro a b c d o;simp only[decide_eq_true_eq]at*;omega;intro a b;simp only[XM,decide_eq_true_eq];omega
 refine tY (le:=λa b=>key a<=key b) ?_ t o (p.trans d.symm);intro a b r s q1 q2;have e:key a=key b:=o!
 have f:=p.subset r;have g:=d.subset s;obtain⟨i,k⟩:=De f;obtain⟨j,n⟩:=De g;have:=(List.getElem?_inj (l:=l.map key) (i:=i) (j:=j) (by rw[B7];exact(KT.1 k).1) hn).1 (by simp[k,n,e]);subst this;rw[k]at n;exact BP n
theorem w64(h: -9223372036854775808<=q/\q<=9223372036854775807):IntKind.wrap .i64 q=q:=by grind[IntKind.wrap_i64]
def AA5{body:y->Option (Step y R)}(I:y->Prop)(Q:R->Prop)(b:y->Nat)(i: ∀s,I s->(∃r,body s=some (.done r)/\Q r)\/ ∃a,body s=some (.next a)/\I a/\b a<b s){s:y}(h:I s): ∃r,Ai body s=some r/\Q r:=by
 have key: ∀(n:Nat) (s:y),b s<n->I s-> ∃r,Ai body s=some r/\Q r:=by
  intro n;induction n with
  |zero=>intro s j;omega
  |succ n k=>intro s j g;rcases i s g with⟨r,c,d⟩|⟨a,c,d,l⟩;exact⟨r,by rw[H5,c],d⟩;obtain⟨r,e,f⟩:=k a o! d;exact⟨r,by rw[H5,c];exact e,f⟩
 exact key (b s+1) s o! h
theorem AEV{l:List R}{x:R}(h:l[N]? =some x):ix l (N:Int)=some x:=by unfold ix;grind[Int.toNat_natCast]
def AHC{l:List R}(a:0<=q)(c:q<l.length): ∃x,ix l q=some x/\l[q.toNat]? =some x:=by
 obtain⟨n,rfl⟩:=D6 a;have hn:n<l.length:=o!
 exact⟨l[n],AEV (As hn),by simp[hn]⟩
def AFt{l a:List R}(h:l.length+a.length<=16777216):app l a=some (l++a):=if_pos h
theorem ADx(a:G9 n R)(h:N<n):Gk a (N:Int)=some (a ⟨N,h⟩):=by grind[Gk]
def Ap(o:Option R)(Q:R->Prop):Prop:= ∃r,o=some r/\Q r
section
variable {α β γ:Type}
theorem AB{r:α}{Q:α->Prop}(h:Q r):Ap (.some r) Q:=⟨r,rfl,h⟩
def Ap.mono{o:Option α}{P Q:α->Prop}(h:Ap o P)(c: ∀r,P r->Q r):Ap o Q:=by obtain⟨r,a,b⟩:=h;exact⟨r,a,c r b⟩
theorem AA{o:Option α}{k:α->Option β}{P:α->Prop}{Q:β->Prop}(h:Ap o P)(b: ∀r,P r->Ap (k r) Q):Ap (Option.bind o k) Q:=by obtain⟨r,rfl,a⟩:=h;exact b r a
theorem D4{o:Option α}{k:α->Option β}{P:α->Prop}{Q:β->Prop}(h:Ap o P)(b: ∀r,o= .some r->P r->Ap (k r) Q):Ap (Option.bind o k) Q:=by obtain⟨r,rfl,a⟩:=h;exact b r rfl a
def AM{o:Option α}{k:α->Option β}{P:α->Prop}{Q:β->Prop}(a: ∀r,P r->Ap (k r) Q)(h:Ap o P):Ap (Option.bind o k) Q:=AA h a
def AK{a b:Option α}{Q:α->Prop}(d:j=true->Ap a Q)(e:j=false->Ap b Q):Ap (bif j then a else b) Q:=by
 cases j with
 |true=>exact d rfl
 |false=>exact e rfl
def AC{p:Prop}{_:Decidable p}{a b:Option α}{Q:α->Prop}(c:p->Ap a Q)(d: ¬p->Ap b Q):Ap (bif decide p then a else b) Q:=AK (λh=>c (of_decide_eq_true h)) (λh=>d (of_decide_eq_false h))
theorem AO{a b:Option α}{Q:α->Prop}(d:j=false->Ap a Q)(e:j=true->Ap b Q):Ap (bif !j then a else b) Q:=by
 cases j with
 |true=>exact e rfl
 |false=>exact d rfl
theorem AP{_:BEq R} [LawfulBEq R] {x y:R}{a b:Option α}{Q:α->Prop}(c:x=y->Ap a Q)(d:x≠y->Ap b Q):Ap (bif x==y then a else b) Q:=AK (λh=>c (eq_of_beq h)) (λh=>d (ne_of_beq_false h))
theorem AL{_:BEq R} [LawfulBEq R] {x y:R}{a b:Option α}{Q:α->Prop}(c:x≠y->Ap a Q)(d:x=y->Ap b Q):Ap (bif x !=y then a else b) Q:=by refine AK (λh=>c λe=>?_) (λh=>d ?_);subst e;simp at h;simpa using h
def BZ{a b:Option α}{k:α->Option β}{Q:β->Prop}(h:Ap (bif j then Option.bind a k else Option.bind b k) Q):Ap (Option.bind (bif j then a else b) k) Q:=by cases j<;>exact h
def BA{a:α}{k:α->Option β}{Q:β->Prop}(h:Ap (k a) Q):Ap (Option.bind (.some a) k) Q:=h
def Bx{o:Option α}{f:α->Option β}{k:β->Option γ}{Q:γ->Prop}(h:Ap (Option.bind o λv=>Option.bind (f v) k) Q):Ap (Option.bind (Option.bind o f) k) Q:=by cases o<;>exact h
def Mm{f:α->Option γ}{g:β->Option γ}{o:α ⊕ β}{k:γ->Option R}{Q:R->Prop}(h:Ap (Sum.elim (λu=>Option.bind (f u) k) (λu=>Option.bind (g u) k) o) Q):Ap (Option.bind (Sum.elim f g o) k) Q:=by cases o<;>exact h
theorem BK{u:α}{f:α->Option γ}{g:β->Option γ}{Q:γ->Prop}(h:Ap (f u) Q):Ap (Sum.elim f g (.inl u)) Q:=h
theorem A7{u:β}{f:α->Option γ}{g:β->Option γ}{Q:γ->Prop}(h:Ap (g u) Q):Ap (Sum.elim f g (.inr u)) Q:=h
theorem BB{f:α->Option γ}{g:β->Option γ}{o:α ⊕ β}{Q:γ->Prop}(a: ∀u,o= .inl u->Ap (f u) Q)(b: ∀u,o= .inr u->Ap (g u) Q):Ap (Sum.elim f g o) Q:=by
 cases o with
 |inl u=>exact a u rfl
 |inr u=>exact b u rfl
def Ap.get{o:Option α}{Q:α->Prop}{r:α}(h:Ap o Q)(e:o= .some r):Q r:=by obtain⟨s,a,b⟩:=h;rw[e]at a;injection a with a;rw[a];exact b
def Ap.and{o:Option α}{P Q:α->Prop}(h:Ap o P)(g:Ap o Q):Ap o λr=>P r/\Q r:=by obtain⟨r,a,b⟩:=h;exact⟨r,a,b,g.get a⟩
theorem AI{l:List α}{i:Int}(b:0<=i:=by omega)(c:i<l.length:=by omega):Ap (ix l i) λx=>l[i.toNat]? = .some x/\x∈l:=by obtain⟨x,d,a⟩:=AHC b c;exact⟨x,d,a,BN a⟩
theorem Ac{l a:List α}(h:l.length+a.length<=16777216):Ap (app l a) λr=>r=l++a/\r.length=l.length+a.length/\r.length<=16777216:=⟨_,AFt h,rfl,q!,w!⟩
theorem CC{a b:BT}(h:a.length+b.length<=9223372036854775807):Ap (sapp a b) λr=>r=a++b/\r.length=a.length+b.length:=by refine⟨a++b,?_,rfl,q!⟩;unfold Go.Ab.sapp;rw[if_pos h]
theorem B8{s:BT}{lo hi:Int}(a:0<=lo:=by omega)(b:lo<=hi:=by omega)(c:hi<=s.length:=by omega):Ap (Rk s lo hi) λr=>r=(s.drop lo.toNat).take (hi.toNat-lo.toNat)/\(r.length:Int)=hi-lo:=by refine⟨_,if_pos ⟨a,b,c⟩,rfl,?_⟩;rw[BQ,FY];omega
theorem Bj{s:List α}{lo hi:Int}(a:0<=lo:=by omega)(b:lo<=hi:=by omega)(c:hi<=s.length:=by omega):Ap (aX s lo hi) λr=>r=(s.drop lo.toNat).take (hi.toNat-lo.toNat)/\(r.length:Int)=hi-lo:=by refine⟨_,if_pos ⟨a,b,c⟩,rfl,?_⟩;rw[BQ,FY];omega
def Q2{s:BT}{i:Int}(a:0<=i)(c:i<s.length):Ap (six s i) λb=>0<=b/\b<256:=by
 obtain⟨n,rfl⟩:=D6 a;have hn:n<s.length:=o!
 refine⟨(s[n].toNat:Int),?_,o!,?_⟩;unfold Go.Ab.six;simp[hn];have:=s[n].toNat_lt;omega
def Cq{a:G9 n α}(b:0<=q)(c:q<n):Ap (Gk a q) λx=>x=a ⟨q.toNat,o!⟩:=by obtain⟨k,rfl⟩:=D6 b;exact⟨_,ADx a o!,rfl⟩
theorem ww{z:α}(a:0<=q)(b:q<=16777216):Ap (mk z q q) λr=>r=List.replicate q.toNat z/\(r.length:Int)=q:=by refine⟨List.replicate q.toNat z,?_,rfl,w!⟩;unfold Go.Ab.mk;rw[if_pos ⟨a,Af _,b⟩]
def AW{body:y→Option (Step y R)}(I:y→Prop)(b:y→Nat){Q:R→Prop}{s:y}(c:I s)
  (f: ∀s,I s->Ap (body s) λst=>match st with| .next a=>I a/\b a<b s| .done r=>Q r):Ap (Ai body s) Q:=by
 obtain⟨r,d,e⟩:=AA5 (body:=body) I Q b (λs g=>by
  obtain⟨st,q1,q2⟩:=f s g;cases st with
  |next a=>exact .inr ⟨a,q1,q2.1,q2.2⟩
  |done r=>exact .inl ⟨r,q1,q2⟩) c
 exact⟨r,d,e⟩
theorem Wl(n:Int):IntKind.wrap .u64 n=n%18446744073709551616:=by simp[IntKind.wrap,IntKind.bits,IntKind.signed]
theorem ut(n:Int):IntKind.wrap .u32 n=n%4294967296:=by simp[IntKind.wrap,IntKind.bits,IntKind.signed]
def AFE(n:Int):IntKind.wrap .u8 n=n%256:=by simp[IntKind.wrap,IntKind.bits,IntKind.signed]
def Z1{Q:α->Prop}(h:False):Ap .none Q:=h.elim
theorem AY{x:Int}(h: -9223372036854775808<=x/\x<=9223372036854775807:=by omega):wi x=x:=w64 h
theorem l!{P:Prop}(h:P:=by (try dsimp[len]at*);(try first|omega|assumption|grind[AY])):P:=h
theorem i!{P:Prop}(h:P:=by simp only[len];omega):P:=h
def ADY(x:Int):wi x=(x+9223372036854775808)%18446744073709551616-9223372036854775808:=by unfold wi;rw[IntKind.wrap_i64]
end
def LW(I:y->Prop)(μ:y->Nat)(m:Nat)(Q:R->Prop):Step y R->Prop
 | .next s'=>I s'/\μ s'<m
 | .done r=>Q r
def Cu{body:y->Option (Step y R)}(I:y->Prop)(a:y->Nat){Q:R->Prop}{s:y}(b:I s)(c: ∀s,I s->Ap (body s) (LW I a (a s) Q)):Ap (Ai body s) Q:=AW I a b λs d=>(c s d).mono λst h=>by cases st<;>exact h
theorem Ap.next{I:y->Prop}{a:y->Nat}{m:Nat}{Q:R->Prop}{s:y}(h:I s)(b:a s<m):Ap (Option.some (Step.next s)) (LW I a m Q):=⟨_,rfl,h,b⟩
theorem Ap.done{I:y->Prop}{a:y->Nat}{Q:R->Prop}{r:R}(h:Q r):Ap (Option.some (Step.done r)) (LW I a N Q):=⟨_,rfl,h⟩
open Go.ChangeShapes Go.WideShapes Go.ChangeAt Go.RowKit
def gh0:Gh:=⟨λ_=>none,λ_=>0,λ_=>0⟩
def cx0(w:World):Cx:=cx (λ_=>False) gh0 [] w
def AIS(w:World):JF (λ_=>False) gh0 [] w where
 out B h:=h.elim
 live id g cs h:=by simp at h
 lp id L h:=by simp at h
 inj id id' e e' B h:=by simp at h
 bld id e h:=by simp at h
theorem yu: ¬(cx0 v).O N:=by rintro(h|⟨id,e,h,_⟩);exact h;grind
def Pw{Q:AZ→A0→Prop}(h:EW P F g [] Q){w:World}{cargs:Array Value}(hn:cargs.size=g.length)
  (d: ∀(j:Nat) (v:AZ) (c:Value),g[j]? =some v->cargs[j]? =some c->Br (cx0 w) v c):
  Calls P F cargs w λe b=> ∃c v x a,e= .returned c/\Q v a/\Br x v c/\Below w.heap.size w b:=by
 refine(h (λ_=>False) gh0 w cargs (AIS w) hn d).mono ?_;rintro e b ⟨c,v,i,a,rfl,q,_,r,x⟩;refine⟨c,v,_,a,rfl,q,r,x.os,x.tape,x.output,x.size,λk l=>x.keep k l ?_⟩;rintro⟨id,e,f,_⟩;simp at f
def oo{a:Addr}{b:List Int}(A:N≤n)(D:b.length=n)(t: ∀i,i<b.length→v.cell? (a.add i)=some (.int I (b.getD i 0)))(q:a.block<v.heap.size∨N=0):
  Br (cx0 v) (.vs 1 ((b.take N).map λk=>.int I k)) (.slice (some a) N n):=by
 have d:((b.take N).map λk=>AZ.int I k).length=N:=w!
 have g: ∀(j:Nat) (e:AZ),((b.take N).map λk=>AZ.int I k)[j]? =some e->j<N/\e= .int I (b.getD j 0):=by
  intro j e h;rw[CM]at h;cases c:(b.take N)[j]? with
  |none=>rw[c]at h;cases h
  |some k=>
   rw[c]at h;simp only[Bo,Am]at h;subst h;have p:j<(b.take N).length:=by rcases Aw j (b.take N).length with h|h;exact h;rw[Cj h]at c;cases c
   simp only[BQ]at p;rw[JS o!]at c;exact⟨o!,by rw[Qu,c];rfl⟩
 have key:=Br.vs (x:=cx0 v) (sz:=1) (rows:=(b.take N).map λk=>.int I k) (a:=some a) (cap:=n) (λj _=>.int I (b.getD j 0)) (by rw[d];exact A) o!
  (λj e h=>by rw[(g j e h).2];rfl)
  (λr=>by
   have C:0<N:=by rcases VU N with h|h;subst h;simp at r;exact h
   have m:a.spot=none:=by have:=t 0 o!;unfold World.cell? at this;split at this;split at this;cases this;rename_i u;simp only[Addr.add,if_true]at u;simpa using u;cases this
   obtain⟨B,s,E⟩:=a;simp only at m;subst m;refine⟨B,s,rfl,yu,?_,λj e i w c l=>?_⟩;rcases q with h|h;exact h;omega;obtain⟨y,o⟩:=g j e c;subst o;have f:i=0:=by
    simp only[AZ.cells]at l;cases i with
    |zero=>rfl
    |succ i=>simp at l
   subst f;refine⟨?_,rfl⟩;have:=t j o!;simp only[Nat.mul_one,Sl];show v.cell? _=_;rw[<-this];unfold Addr.add;split;rename_i z;subst z;rfl;rfl)
  (λj e i w c l=>by
   obtain⟨y,o⟩:=g j e c;subst o;have f:w= .int I (b.getD j 0):=by
    simp only[AZ.cells]at l;cases i with
    |zero=>simpa using l.symm
    |succ i=>simp at l
   subst f;exact .int _ _)
 rw[d]at key;exact key
def sq:Br (cx0 v) (.vs 1 []) (.slice none 0 0):=Br.vs (x:=cx0 v) (sz:=1) (rows:=[]) (a:=none) (cap:=0) (λ_ _=>.nilFunc) q! o! (λj e h=>by simp at h) (λh=>absurd rfl h) (λj e i w h=>by simp at h)
open Go.RowKit
def ov{args:List AZ}{v:AZ}(h: ∀(w:World) (a:Array Value),a.size=args.length→(∀(j:Nat) (u:AZ) (c:Value),args[j]? =some u→a[j]? =some c→ ∃x,Br x u c)→
  Calls P F a w λe i=> ∃c,e= .returned c/\(∀x,Br x v c)/\Below w.heap.size w i) (H:A0):EW P F args H (C8 v H):=by
 intro X g w a s p hr;refine(h w a p λj u c m n=>⟨_,hr j u c m n⟩).mono ?_;rintro e i ⟨c,rfl,q,b⟩;have l:He g H w g H i:=⟨b.os,b.tape,b.output,b.size,λB d _=>b.block B d,Ao _,λ_ _=>Ao _,λ_ _ _=>⟨rfl,rfl⟩,λB o=>.inl o,λB r hr=>⟨r,(b.block B (by rcases Aw B w.heap.size with h|h;exact h;simp[qh h]at hr)).trans hr⟩⟩
 exact⟨c,v,g,H,rfl,⟨rfl,rfl⟩,s.of_ext l (λid e k f=>.inl ⟨k,rfl,rfl,rfl,λB d=>b.block B (s.io_at k f d)⟩) s.inj,q _,l⟩
def xu{x:Cx}{s:List UInt8}(h:Br x (.str s) K):K= .string ⟨s.toArray⟩:=by cases h;rename_i t h;subst h;rfl
def jE{x:Cx}(h:Br x (.int I q) K):K= .int I q:=by cases h;rfl
end Go.Ab
